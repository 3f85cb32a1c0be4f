import PyProof.Rows.All
import Wide.All
import OpenK.AllK
import Wide.FinOn
import HandS.ForMost
import HandS.ForExc
import HandS.Sort
import HandS.SortInts
import HandS.Wide
import HandS.TupAny
import HandS.TupMul
import HandS.IsInst
import HandS.Style
import HandS.Conv
import HandS.DeepEq
import HandS.TupLe
import HandS.RevTup
import HandS.SetFor
import HandS.TupLen
import HandS.Zip
import HandS.Walk
import HandS.AnyAll
import HandS.Flow
import HandS.Deep
import HandS.Evl
import HandS.Steps
import HandS.SortKw
import KE.KTupSum
import HandS.More
import KE.GoesEnum
import HandS.WideBits
import HandS.EndBits
import KE.GoesZip
import HandS.WordsExc
import HandS.ExcIs
import HandS.TryOnly
import KE.KIsAll
import KE.RegKIsAll
import HandS.HotCalls
import PyProof.Rows.CountFlat
import KE.DataMinMax
import HandS.WordsDict
import KE.DataAny
import HandS.Rev
import KE.KIndexOf
import HandS.ReCall
import KE.KDictDisplayH
import HandS.SortRule
import HandS.DictTup
import PyProof.ReprRoads
import PyProof.ReprBulk
import PyProof.FitsInt
import PyProof.AutoSeq1
import HandS.ExcValue
import KE.KDictSum
import KE.KDictWalk
import HandS.ExcInit
import HandS.ClsMeth
import KE.KDictPairs
import KE.KDictKeyed
import HandS.ExcField
import KE.KExcIs
import HandS.Text
import HandS.Set
import KE.KDictZip
import PyProof.Rows.SeqMore
import PySem.Challenge.RW_fewreels_k48_phases_played
set_option Elab.async false
set_option linter.all false
set_option maxRecDepth 100000
set_option maxHeartbeats 4000000
namespace Fk
open PySem PySem.Spec PyProof.Rows L2

/-! ## a state: what is known for good (D), what may still change (L) -/
abbrev Own := List (Addr × HO)
class Sx (D : outParam Hp) (L : outParam Own) (H : Hp) : Prop where
  dH : Same D H
  ow : ∀ p ∈ L, H p.1 = some p.2 ∧ D p.1 = none
  nd : (L.map (·.1)).Nodup

/-- what was fixed stays fixed -/
class Sm (D : outParam Hp) (D' : Hp) : Prop where
  e : Same D D'
/-- a fixed thing -/
class Kn (D : Hp) (a : Addr) (o : outParam HO) : Prop where
  pf : D a = some o
instance knUp {D D' : Hp} {a : Addr} {o : HO} [s : Sm D D'] [k : Kn D a o] : Kn D' a o := ⟨s.e _ _ k.pf⟩
class Up (D D' : Hp) : Prop where
  e : Same D D'
instance upRefl {D : Hp} : Up D D := ⟨Same.refl D⟩
instance upStep {D D1 D' : Hp} [s : Sm D1 D'] [u : Up D D1] : Up D D' := ⟨u.e.trans s.e⟩
theorem up {D D' : Hp} [u : Up D D'] : Sm D D' := ⟨u.e⟩
theorem Sx.at {D : Hp} {L : Own} {H : Hp} (S : Sx D L H) {n : Nat} {a : Addr} {o : HO} (h : L[n]? = some (a, o)) : H a = some o :=
  (S.ow (a, o) (List.mem_of_getElem? h)).1
theorem Sx.off {D : Hp} {L : Own} {H : Hp} (S : Sx D L H) {n : Nat} {a : Addr} {o : HO} (h : L[n]? = some (a, o)) : D a = none :=
  (S.ow (a, o) (List.mem_of_getElem? h)).2
theorem same_upd {H : Hp} {p : Addr} {o : HO} (h : H p = none) : Same H (upd H p o) := fun b x e => by
  rw [upd_ne (ne_of_none e h)]
  exact e
/-- a new object that may change -/
theorem Sx.new {D : Hp} {L : Own} {H : Hp} (S : Sx D L H) {p : Addr} {o : HO} (h : H p = none) : Sx D ((p, o) :: L) (upd H p o) := by
  refine ⟨S.dH.trans (same_upd h), fun q hq => ?_, ?_⟩
  · rcases List.mem_cons.mp hq with rfl | hq
    · exact ⟨upd_same, S.dH.free h⟩
    · obtain ⟨e1, e2⟩ := S.ow q hq
      refine ⟨?_, e2⟩
      rw [upd_ne (ne_of_none e1 h)]
      exact e1
  · rw [List.map_cons, List.nodup_cons]
    refine ⟨fun hm => ?_, S.nd⟩
    obtain ⟨q, hq, e⟩ := List.mem_map.mp hm
    have e1 := (S.ow q hq).1
    rw [e] at e1
    rw [h] at e1
    cases e1
/-- a new object that never changes -/
theorem Sx.fix {D : Hp} {L : Own} {H : Hp} (S : Sx D L H) {p : Addr} {o : HO} (h : H p = none) : Sx (upd D p o) L (upd H p o) := by
  refine ⟨fun b x e => ?_, fun q hq => ?_, S.nd⟩
  · unfold upd at e ⊢
    split
    · rename_i c
      rw [if_pos c] at e
      exact e
    · rename_i c
      rw [if_neg c] at e
      exact S.dH b x e
  · obtain ⟨e1, e2⟩ := S.ow q hq
    have ne := ne_of_none e1 h
    rw [upd_ne ne, upd_ne ne]
    exact ⟨e1, e2⟩
/-- what may change, changed -/
theorem Sx.put {D : Hp} {L : Own} {H : Hp} (S : Sx D L H) {n : Nat} {a : Addr} {o : HO} (u : HO) (h : L[n]? = some (a, o)) : Sx D (L.set n (a, u)) (upd H a u) := by
  have hn : n < L.length := (List.getElem?_eq_some_iff.mp h).1
  have keys : (L.set n (a, u)).map (·.1) = L.map (·.1) := by
    rw [List.map_set]
    apply List.ext_getElem?
    intro i
    rw [List.getElem?_set]
    split
    · rename_i e
      subst e
      rw [if_pos (by rw [List.length_map]; exact hn), List.getElem?_map, h]
      rfl
    · rfl
  refine ⟨fun b x e => ?_, fun q hq => ?_, by rw [keys]; exact S.nd⟩
  · have : b ≠ a := by
      rintro rfl
      rw [S.off h] at e
      cases e
    rw [upd_ne this]
    exact S.dH b x e
  · obtain ⟨i, hi⟩ := List.getElem?_of_mem hq
    rw [List.getElem?_set] at hi
    by_cases c : n = i
    · subst c
      rw [if_pos rfl, if_pos hn] at hi
      cases hi
      exact ⟨upd_same, S.off h⟩
    · rw [if_neg c] at hi
      have hm := List.mem_of_getElem? hi
      obtain ⟨e1, e2⟩ := S.ow q hm
      refine ⟨?_, e2⟩
      have ne : q.1 ≠ a := by
        intro e
        apply c
        have k1 : (L.map (·.1))[i]? = some a := by rw [List.getElem?_map, hi]; exact congrArg some e
        have k2 : (L.map (·.1))[n]? = some a := by rw [List.getElem?_map, h]; rfl
        exact nd_ix S.nd k2 k1
      rw [upd_ne ne]
      exact e1
/-- what may change, fixed from now on -/
theorem Sx.frz {D : Hp} {L : Own} {H : Hp} (S : Sx D L H) {n : Nat} {a : Addr} {o : HO} (h : L[n]? = some (a, o)) : Sx (upd D a o) (L.eraseIdx n) H := by
  refine ⟨fun b x e => ?_, fun q hq => ?_, ?_⟩
  · by_cases c : b = a
    · subst c
      rw [upd_same] at e
      cases e
      exact S.at h
    · rw [upd_ne c] at e
      exact S.dH b x e
  · obtain ⟨e1, e2⟩ := S.ow q (List.mem_of_mem_eraseIdx hq)
    refine ⟨e1, ?_⟩
    have ne : q.1 ≠ a := by
      intro e
      obtain ⟨i, hi⟩ := List.getElem?_of_mem hq
      rw [List.getElem?_eraseIdx] at hi
      have k2 : (L.map (·.1))[n]? = some a := by rw [List.getElem?_map, h]; rfl
      split at hi
      · have k1 : (L.map (·.1))[i]? = some a := by rw [List.getElem?_map, hi]; exact congrArg some e
        have := nd_ix S.nd k2 k1
        omega
      · have k1 : (L.map (·.1))[i + 1]? = some a := by rw [List.getElem?_map, hi]; exact congrArg some e
        have := nd_ix S.nd k2 k1
        omega
    rw [upd_ne ne]
    exact e2
  · have : (L.eraseIdx n).map (·.1) = (L.map (·.1)).eraseIdx n := by
      apply List.ext_getElem?
      intro i
      rw [List.getElem?_map, List.getElem?_eraseIdx, List.getElem?_eraseIdx]
      split <;> rw [List.getElem?_map]
    rw [this]
    exact S.nd.sublist (List.eraseIdx_sublist _ _)
theorem Sx.drop {D : Hp} {L : Own} {H : Hp} (S : Sx D L H) (n : Nat) : Sx D (L.eraseIdx n) H :=
  ⟨S.dH, fun q hq => S.ow q (List.mem_of_mem_eraseIdx hq), by
    have : (L.eraseIdx n).map (·.1) = (L.map (·.1)).eraseIdx n := by
      apply List.ext_getElem?
      intro i
      rw [List.getElem?_map, List.getElem?_eraseIdx, List.getElem?_eraseIdx]
      split <;> rw [List.getElem?_map]
    rw [this]
    exact S.nd.sublist (List.eraseIdx_sublist _ _)⟩
theorem Sx.tail {D : Hp} {x : Addr × HO} {L : Own} {H : Hp} (S : Sx D (x :: L) H) : Sx D L H := S.drop 0
theorem Sx.perm {D : Hp} {L L' : Own} {H : Hp} (S : Sx D L H) (p : L.Perm L') : Sx D L' H :=
  ⟨S.dH, fun q hq => S.ow q (p.mem_iff.mpr hq), (p.map _).nodup_iff.mp S.nd⟩
theorem Sx.swap {D : Hp} {x y : Addr × HO} {L : Own} {H : Hp} (S : Sx D (x :: y :: L) H) : Sx D (y :: x :: L) H := S.perm (List.Perm.swap y x L)
theorem Sx.fz0 {D : Hp} {L : Own} {H : Hp} {a : Addr} {o : HO} (S : Sx D ((a, o) :: L) H) : ∃ D', Same D D' ∧ D' a = some o ∧ Sx D' L H :=
  ⟨_, same_upd (S.off (n := 0) rfl), upd_same, S.frz (n := 0) rfl⟩
theorem Sx.fz1 {D : Hp} {L : Own} {H : Hp} {x : Addr × HO} {a : Addr} {o : HO} (S : Sx D (x :: (a, o) :: L) H) : ∃ D', Same D D' ∧ D' a = some o ∧ Sx D' (x :: L) H :=
  ⟨_, same_upd (S.off (n := 1) rfl), upd_same, S.frz (n := 1) rfl⟩

/-! ## plain data at values -/
mutual
inductive Rp (D : Hp) : V → PyData → Prop
  | non : Rp D .non .none
  | bl (b : Bool) : Rp D (.bl b) (.bool b)
  | int (i : Int) : Rp D (.int i) (.int i)
  | str (x : Str) : Rp D (.str x) (.str x)
  | lst {a : Addr} {xs : List V} {ds : List PyData} : D a = some (.lst xs) → RpAll D xs ds → Rp D (.ref a) (.list ds)
  | tup {a : Addr} {xs : List V} {ds : List PyData} : D a = some (.tup xs) → RpAll D xs ds → Rp D (.ref a) (.tuple ds)
inductive RpAll (D : Hp) : List V → List PyData → Prop
  | nil : RpAll D [] []
  | cons {v : V} {vs : List V} {d : PyData} {ds : List PyData} : Rp D v d → RpAll D vs ds → RpAll D (v :: vs) (d :: ds)
end
mutual
theorem Rp.up {D D' : Hp} (e : Same D D') : ∀ {v : V} {d : PyData}, Rp D v d → Rp D' v d
  | _, _, .non => .non
  | _, _, .bl b => .bl b
  | _, _, .int i => .int i
  | _, _, .str x => .str x
  | _, _, .lst h r => .lst (e _ _ h) (RpAll.up e r)
  | _, _, .tup h r => .tup (e _ _ h) (RpAll.up e r)
theorem RpAll.up {D D' : Hp} (e : Same D D') : ∀ {vs : List V} {ds : List PyData}, RpAll D vs ds → RpAll D' vs ds
  | _, _, .nil => .nil
  | _, _, .cons h r => .cons (Rp.up e h) (RpAll.up e r)
end
mutual
theorem Rp.dp {D : Hp} {K : PySem.W.Frag} : ∀ {v : V} {d : PyData}, Rp D v d → Dp K D v d
  | _, _, .non => .non
  | _, _, .bl b => .bl b
  | _, _, .int i => .int i
  | _, _, .str x => .str x
  | _, _, .lst h r => .lst (.of h) (RpAll.dp r)
  | _, _, .tup h r => .tup (.of h) (RpAll.dp r)
theorem RpAll.dp {D : Hp} {K : PySem.W.Frag} : ∀ {vs : List V} {ds : List PyData}, RpAll D vs ds → DpAll K D vs ds
  | _, _, .nil => .nil
  | _, _, .cons h r => .cons (Rp.dp h) (RpAll.dp r)
end
theorem RpAll.ints {D : Hp} : ∀ (ns : List Int), RpAll D (ns.map V.int) (ns.map PyData.int)
  | [] => .nil
  | n :: r => .cons (.int n) (RpAll.ints r)
theorem RpAll.of_ints {D : Hp} : ∀ {ns : List Int} {vs : List V}, RpAll D vs (ns.map PyData.int) → vs = ns.map V.int
  | [], _, h => by cases h; rfl
  | n :: r, _, h => by
    cases h with
    | cons h1 h2 =>
      cases h1
      rw [RpAll.of_ints h2]
      rfl
theorem RpAll.length {D : Hp} : ∀ {vs : List V} {ds : List PyData}, RpAll D vs ds → vs.length = ds.length
  | _, _, .nil => rfl
  | _, _, .cons _ r => by rw [List.length_cons, List.length_cons, RpAll.length r]
theorem RpAll.get {D : Hp} : ∀ {vs : List V} {ds : List PyData} {i : Nat} {d : PyData}, RpAll D vs ds → ds[i]? = some d → ∃ v, vs[i]? = some v ∧ Rp D v d
  | _, _, _, _, .nil, e => by simp at e
  | _, _, 0, _, .cons h _, e => by simp at e; subst e; exact ⟨_, rfl, h⟩
  | _, _, i + 1, d, .cons _ t, e => by
    obtain ⟨v, h1, h2⟩ := RpAll.get (i := i) (d := d) t (by simpa using e)
    exact ⟨v, by simpa using h1, h2⟩
theorem RpAll.getV {D : Hp} : ∀ {vs : List V} {ds : List PyData} {i : Nat} {v : V}, RpAll D vs ds → vs[i]? = some v → ∃ d, ds[i]? = some d ∧ Rp D v d
  | _, _, _, _, .nil, e => by simp at e
  | _, _, 0, _, .cons h _, e => by simp at e; subst e; exact ⟨_, rfl, h⟩
  | _, _, i + 1, d, .cons _ t, e => by
    obtain ⟨v, h1, h2⟩ := RpAll.getV (i := i) (v := d) t (by simpa using e)
    exact ⟨v, by simpa using h1, h2⟩
theorem RpAll.app {D : Hp} : ∀ {vs ws : List V} {ds es : List PyData}, RpAll D vs ds → RpAll D ws es → RpAll D (vs ++ ws) (ds ++ es)
  | _, _, _, _, .nil, s => s
  | _, _, _, _, .cons h t, s => .cons h (RpAll.app t s)
/-- data of ints -/
abbrev dI (ns : List Int) : List PyData := ns.map PyData.int
theorem Rp.lstI {D : Hp} {a : Addr} {ns : List Int} (h : D a = some (.lst (ns.map V.int))) : Rp D (.ref a) (.list (dI ns)) := .lst h (.ints ns)
theorem Rp.tupI {D : Hp} {a : Addr} {ns : List Int} (h : D a = some (.tup (ns.map V.int))) : Rp D (.ref a) (.tuple (dI ns)) := .tup h (.ints ns)
theorem Rp.inv_lst {D : Hp} {v : V} {ds : List PyData} (h : Rp D v (.list ds)) : ∃ a xs, v = .ref a ∧ D a = some (.lst xs) ∧ RpAll D xs ds := by
  cases h with
  | lst h r => exact ⟨_, _, rfl, h, r⟩
theorem Rp.inv_tup {D : Hp} {v : V} {ds : List PyData} (h : Rp D v (.tuple ds)) : ∃ a xs, v = .ref a ∧ D a = some (.tup xs) ∧ RpAll D xs ds := by
  cases h with
  | tup h r => exact ⟨_, _, rfl, h, r⟩
theorem Rp.inv_tupI {D : Hp} {v : V} {ns : List Int} (h : Rp D v (.tuple (dI ns))) : ∃ a, v = .ref a ∧ D a = some (.tup (ns.map V.int)) := by
  obtain ⟨a, xs, e, h1, h2⟩ := h.inv_tup
  rw [RpAll.of_ints h2] at h1
  exact ⟨a, e, h1⟩
theorem Rp.inv_lstI {D : Hp} {v : V} {ns : List Int} (h : Rp D v (.list (dI ns))) : ∃ a, v = .ref a ∧ D a = some (.lst (ns.map V.int)) := by
  obtain ⟨a, xs, e, h1, h2⟩ := h.inv_lst
  rw [RpAll.of_ints h2] at h1
  exact ⟨a, e, h1⟩
end Fk

namespace Fk
open PySem PySem.Spec PyProof.Rows L2

/-! ## operators, whatever they are given -/
section
variable {X : Cx}
def rAddX (K : PySem.W.Frag) : R2 := fun x y H Q => rI0 (fun i j => .int (i + j)) x y H Q ∨ (rCat x y H Q ∨ rCatA K x y H Q)
theorem opAdd : OpR X (binaryOp .Add) (rAddX X.K) := OpR.or op_add (OpR.or op_cat op_catA)
def rMulX (K : PySem.W.Frag) : R2 := fun x y H Q => rI CMul (fun i j => .int (i * j)) x y H Q ∨ (rI CMulW (fun i j => .int (i * j)) x y H Q ∨ (rRep x y H Q ∨ rRepT K x y H Q))
theorem opMul : OpR X (binaryOp .Mult) (rMulX X.K) := OpR.or op_mul (OpR.or op_mulW (OpR.or op_rep op_repT))
def rEqX (K : PySem.W.Frag) : R2 := fun x y H Q => rEq x y H Q ∨ rEqD K x y H Q
def rNeX (K : PySem.W.Frag) : R2 := fun x y H Q => rNe x y H Q ∨ rNeD K x y H Q
theorem opEq (hu : X.A.units + 64 < cLine) : OpR X (compareOp .Eq) (rEqX X.K) := OpR.or op_eq (op_eqD hu)
theorem opNe (hu : X.A.units + 64 < cLine) : OpR X (compareOp .NotEq) (rNeX X.K) := OpR.or op_ne (op_neD hu)
def rSlX (K : PySem.W.Frag) : V → Option Int → Option Int → Hp → VK → Prop := fun x lo hi H Q => rSlL K x lo hi H Q ∨ rSlA K x lo hi H Q
theorem slX : SlR X (rSlX X.K) := SlR.or sl_list sl_tupA
def rDvX : R2 := fun x y H Q => rI CDiv (fun i j => .int (i / j)) x y H Q ∨ rI CDivW (fun i j => .int (i / j)) x y H Q
theorem opDiv : OpR X (binaryOp .FloorDiv) rDvX := OpR.or op_fdiv op_fdivW
end

/-! ## what is asked behind a part, by name -/
def NwL (xs : List V) (H : Hp) (Q : VK) : Prop := xs.length ≤ sizeLine ∧ ∀ p, H p = none → Q (.ref p) (upd H p (.lst xs))
def NwT (xs : List V) (H : Hp) (Q : VK) : Prop := xs.length ≤ sizeLine ∧ ∀ p, H p = none → Q (.ref p) (upd H p (.tup xs))
def IsI (x : V) (H : Hp) (q : Int → Hp → Prop) : Prop := ∃ i, x = .int i ∧ q i H
def IsB (x : V) (H : Hp) (q : Bool → Hp → Prop) : Prop := ∃ k, x = .bl k ∧ q k H
def Tru (K : PySem.W.Frag) (x : V) (H : Hp) (q : Bool → Hp → Prop) : Prop := ∃ k, TruV K x H k ∧ q k H
section
variable {X : Cx}
def rLen (K : PySem.W.Frag) : List V → Hp → VK → Prop := fun xs H Q => ∃ x n, xs = [x] ∧ LenV K x H n ∧ Q (.int n) H
theorem call_lenN : CallR X (.builtin "len") (rLen X.K) := call_len
def rTupOf (K : PySem.W.Frag) : List V → Hp → VK → Prop := fun xs H Q => ∃ p ys, xs = [.ref p] ∧ ((SqL K H p ys ∧ ∀ l, H l = none → Q (.ref l) (upd H l (.tup ys))) ∨ (SqT K H p ys ∧ Q (.ref p) H))
theorem call_tupN : CallR X (.type "tuple") (rTupOf X.K) := call_tuple_of
def rLstOf (K : PySem.W.Frag) : List V → Hp → VK → Prop := fun xs H Q => ∃ p ys, xs = [.ref p] ∧ (SqL K H p ys ∨ SqT K H p ys) ∧ ∀ l, H l = none → Q (.ref l) (upd H l (.lst ys))
theorem call_lstN : CallR X (.type "list") (rLstOf X.K) := call_list_of
def rInt1 : List V → Hp → VK → Prop := fun xs H Q => (∃ i, xs = [.int i] ∧ Q (.int i) H) ∨ ∃ k, xs = [.bl k] ∧ Q (.int (if k then 1 else 0)) H
theorem call_intN : CallR X (.type "int") rInt1 := call_int1
def rAbs : List V → Hp → VK → Prop := fun xs H Q => ∃ i, xs = [.int i] ∧ Q (.int (if i < 0 then -i else i)) H
theorem call_absN : CallR X (.builtin "abs") rAbs := call_abs
def rMax2 : List V → Hp → VK → Prop := fun xs H Q => ∃ i j, xs = [.int i, .int j] ∧ Q (.int (if j > i then j else i)) H
theorem call_max2N (hc : X.calm = true) : CallR X (.builtin "max") rMax2 := call_max2 hc
def rMin2 : List V → Hp → VK → Prop := fun xs H Q => ∃ i j, xs = [.int i, .int j] ∧ Q (.int (if j < i then j else i)) H
theorem call_min2N (hc : X.calm = true) : CallR X (.builtin "min") rMin2 := call_min2 hc
end

/-! ## the steps -/
section
variable {σ : L2.St} {D D' H : Hp} {L : Own} {Q : VK} {K : PySem.W.Frag} {E : Ends}
theorem s_seq {t u : TS} {nx : L2.St → Hp → Prop} {rt : VK} {bk ct : L2.St → Hp → Prop} (h : t ⟨u ⟨nx, rt, bk, ct⟩, rt, bk, ct⟩ σ H) : tSeq t u ⟨nx, rt, bk, ct⟩ σ H := h
theorem s_next {nx : L2.St → Hp → Prop} {rt : VK} {bk ct : L2.St → Hp → Prop} (h : nx σ H) : tNext ⟨nx, rt, bk, ct⟩ σ H := h
theorem s_brk {nx : L2.St → Hp → Prop} {rt : VK} {bk ct : L2.St → Hp → Prop} (h : bk σ H) : tBreak ⟨nx, rt, bk, ct⟩ σ H := h
theorem s_cnt {nx : L2.St → Hp → Prop} {rt : VK} {bk ct : L2.St → Hp → Prop} (h : ct σ H) : tCont ⟨nx, rt, bk, ct⟩ σ H := h
theorem s_asg {te : TE} {g : TG} {nx : L2.St → Hp → Prop} {rt : VK} {bk ct : L2.St → Hp → Prop} (h : te σ H fun x H1 => g x σ H1 nx) : tAsg te g ⟨nx, rt, bk, ct⟩ σ H := h
theorem s_drop {te : TE} {nx : L2.St → Hp → Prop} {rt : VK} {bk ct : L2.St → Hp → Prop} (h : te σ H fun _ H1 => nx σ H1) : tDrop te ⟨nx, rt, bk, ct⟩ σ H := h
theorem s_ret {te : TE} {nx : L2.St → Hp → Prop} {rt : VK} {bk ct : L2.St → Hp → Prop} (h : te σ H rt) : tRet te ⟨nx, rt, bk, ct⟩ σ H := h
theorem s_retN {nx : L2.St → Hp → Prop} {rt : VK} {bk ct : L2.St → Hp → Prop} (h : rt .non H) : tRetN ⟨nx, rt, bk, ct⟩ σ H := h
theorem s_if {c : TT} {t u : TS} (h : c σ H fun b H1 => if b = true then t E σ H1 else u E σ H1) : tIfS c t u E σ H := h

theorem e_var {i : Nat} {v : V} (h : σ[i]? = some (some v)) (k : Q v H) : tVar i σ H Q := ⟨v, h, k⟩
theorem e_c {v : V} (k : Q v H) : tC v σ H Q := k
theorem e_op {r : R2} {ta tb : TE} (h : ta σ H fun x H1 => tb σ H1 fun y H2 => r x y H2 Q) : tOp r ta tb σ H Q := h
theorem e_un {r : V → Hp → VK → Prop} {ta : TE} (h : ta σ H fun x H1 => r x H1 Q) : tUn r ta σ H Q := h
theorem e_if {c : TT} {ta tb : TE} (h : c σ H fun b H1 => if b = true then ta σ H1 Q else tb σ H1 Q) : tIf c ta tb σ H Q := h
theorem e_nil {q : List V → Hp → Prop} (h : q [] H) : tNil σ H q := h
theorem e_cons {ta : TE} {tr : TA} {q : List V → Hp → Prop} (h : ta σ H fun x H1 => tr σ H1 fun xs H2 => q (x :: xs) H2) : tCons ta tr σ H q := h
theorem e_cb {r : List V → Hp → VK → Prop} {t : TA} (h : t σ H fun vs H1 => r vs H1 Q) : tCB r t σ H Q := h
theorem e_call {sp : Sp} {dvs : List V} {Ex : XK} {t : TA} (h : t σ H fun vs H1 => sp (vs ++ dvs) H1 Q Ex) : tCall sp dvs Ex t σ H Q := h
theorem e_tup {t : TA} (h : t σ H fun xs H1 => NwT xs H1 Q) : tTup t σ H Q := h
theorem e_lst {t : TA} (h : t σ H fun xs H1 => NwL xs H1 Q) : tLst t σ H Q := h
theorem e_sl {r : V → Option Int → Option Int → Hp → VK → Prop} {te : TE} {tl th : L2.St → Hp → (Option Int → Hp → Prop) → Prop} (h : te σ H fun x H1 => tl σ H1 fun lo H2 => th σ H2 fun hi H3 => r x lo hi H3 Q) : tSl r te tl th σ H Q := h
theorem e_pt0 {q : Option Int → Hp → Prop} (h : q none H) : tNoPart σ H q := h
theorem e_pt {te : TE} {q : Option Int → Hp → Prop} (h : te σ H fun x H1 => IsI x H1 fun i H2 => q (some i) H2) : tPart te σ H q := h
theorem e_isint {i : Int} {q : Int → Hp → Prop} (h : q i H) : IsI (.int i) H q := ⟨i, rfl, h⟩
theorem e_isbl {b : Bool} {q : Bool → Hp → Prop} (h : q b H) : IsB (.bl b) H q := ⟨b, rfl, h⟩
theorem e_bm {T : String} {r : V → List V → Hp → VK → Prop} {to : TE} {t : TA} (h : to σ H fun x H1 => tyV K T x H1 ∧ t σ H1 fun xs H2 => r x xs H2 Q) : tBM K T r to t σ H Q := h
theorem e_bm0 {T : String} {r : V → List V → Hp → VK → Prop} {to : TE} (h : to σ H fun x H1 => tyV K T x H1 ∧ r x [] H1 Q) : tBM0 K T r to σ H Q := h
theorem t_test {t : TE} {q : Bool → Hp → Prop} (h : t σ H fun x H' => IsB x H' q) : tTest t σ H q := h
theorem t_b {t : TE} {q : Bool → Hp → Prop} (h : t σ H fun x H' => IsB x H' q) : tB t σ H q := h
theorem t_and {t u : TT} {q : Bool → Hp → Prop} (h : t σ H fun c H1 => if c = true then u σ H1 q else q false H1) : tAnd t u σ H q := h
theorem t_or {t u : TT} {q : Bool → Hp → Prop} (h : t σ H fun c H1 => if c = true then q true H1 else u σ H1 q) : tOr t u σ H q := h
theorem t_not {t : TT} {q : Bool → Hp → Prop} (h : t σ H fun c H1 => q (!c) H1) : tNot t σ H q := h
theorem e_notT {ta : TE} (h : ta σ H fun x H1 => Tru K x H1 fun k H2 => Q (.bl (!k)) H2) : tNotT K ta σ H Q := h
theorem e_andV {ta tb : TE} (h : ta σ H fun x H1 => IsB x H1 fun c H2 => if c = true then tb σ H2 Q else Q (.bl false) H2) : tAndV ta tb σ H Q := h
theorem e_orV {ta tb : TE} (h : ta σ H fun x H1 => IsB x H1 fun c H2 => if c = true then Q (.bl true) H2 else tb σ H2 Q) : tOrV ta tb σ H Q := h
theorem e_notV {ta : TE} (h : ta σ H fun x H1 => IsB x H1 fun c H2 => Q (.bl (!c)) H2) : tNotV ta σ H Q := h
theorem e_chain {r r' : R2} {ta tb tc : TE} (h : ta σ H fun x H1 => tb σ H1 fun y H2 => r x y H2 fun z H3 => IsB z H3 fun k H4 => if k = true then tc σ H4 fun w' H5 => r' y w' H5 Q else Q (.bl false) H4) : tChain r r' ta tb tc σ H Q := h
theorem tru_bl {b : Bool} {q : Bool → Hp → Prop} (h : q b H) : Tru K (.bl b) H q := ⟨b, rfl, h⟩
theorem tru_int {i : Int} {q : Bool → Hp → Prop} (h : q (i != 0) H) : Tru K (.int i) H q := ⟨_, rfl, h⟩

theorem if_t {A B : Prop} (h : A) : if true = true then A else B := by rw [if_pos rfl]; exact h
theorem if_f {A B : Prop} (h : B) : if false = true then A else B := by rw [if_neg (by decide)]; exact h
theorem if_d {p : Prop} [Decidable p] {A B : Prop} (h1 : p → A) (h2 : ¬p → B) : if decide p = true then A else B := by
  by_cases c : p
  · rw [if_pos (decide_eq_true c)]; exact h1 c
  · rw [if_neg (fun z => c (of_decide_eq_true z))]; exact h2 c
theorem if_nd {p : Prop} [Decidable p] {A B : Prop} (h1 : ¬p → A) (h2 : p → B) : if (!decide p) = true then A else B := by
  by_cases c : p
  · rw [decide_eq_true c]; exact h2 c
  · rw [decide_eq_false c]; exact h1 c
theorem if_nt {A B : Prop} (h : B) : if (!true) = true then A else B := h
theorem if_nf {A B : Prop} (h : A) : if (!false) = true then A else B := h
theorem if_b {b : Bool} {A B : Prop} (h1 : b = true → A) (h2 : b = false → B) : if b = true then A else B := by
  cases b
  · exact h2 rfl
  · exact h1 rfl
/-- a known answer -/
theorem if_dt {p : Prop} [Decidable p] {A B : Prop} (c : p) (h : A) : if decide p = true then A else B := by rw [if_pos (decide_eq_true c)]; exact h
theorem if_df {p : Prop} [Decidable p] {A B : Prop} (c : ¬p) (h : B) : if decide p = true then A else B := by rw [if_neg (fun z => c (of_decide_eq_true z))]; exact h
theorem if_ndt {p : Prop} [Decidable p] {A B : Prop} (c : ¬p) (h : A) : if (!decide p) = true then A else B := if_nd (fun _ => h) (fun z => absurd z c)
theorem if_ndf {p : Prop} [Decidable p] {A B : Prop} (c : p) (h : B) : if (!decide p) = true then A else B := if_nd (fun z => absurd c z) (fun _ => h)

/-! values -/
theorem r_i0 {g : Int → Int → V} {i j : Int} (k : Q (g i j) H) : rI0 g (.int i) (.int j) H Q := ⟨i, j, rfl, rfl, k⟩
theorem r_i {C : Int → Int → Prop} {g : Int → Int → V} {i j : Int} (c : C i j) (k : Q (g i j) H) : rI C g (.int i) (.int j) H Q := ⟨i, j, rfl, rfl, c, k⟩
theorem r_u {g : Int → V} {i : Int} (k : Q (g i) H) : rU g (.int i) H Q := ⟨i, rfl, k⟩
theorem r_addI {i j : Int} (k : Q (.int (i + j)) H) : rAddX K (.int i) (.int j) H Q := .inl ⟨i, j, rfl, rfl, k⟩
theorem r_mulL {i j : Int} (c : -(2 ^ 64) < i ∧ i < 2 ^ 64) (k : Q (.int (i * j)) H) : rMulX K (.int i) (.int j) H Q := .inl ⟨i, j, rfl, rfl, .inl c, k⟩
theorem r_mulR {i j : Int} (c : -(2 ^ 64) < j ∧ j < 2 ^ 64) (k : Q (.int (i * j)) H) : rMulX K (.int i) (.int j) H Q := .inl ⟨i, j, rfl, rfl, .inr c, k⟩
theorem r_mulW {i j : Int} (c : CMulW i j) (k : Q (.int (i * j)) H) : rMulX K (.int i) (.int j) H Q := .inr (.inl ⟨i, j, rfl, rfl, c, k⟩)
theorem r_div {i j : Int} (c : 0 < j ∧ j < 1073741824) (k : Q (.int (i / j)) H) : rDvX (.int i) (.int j) H Q := .inl ⟨i, j, rfl, rfl, c, k⟩
theorem r_divW {i j : Int} (c : CDivW i j) (k : Q (.int (i / j)) H) : rDvX (.int i) (.int j) H Q := .inr ⟨i, j, rfl, rfl, c, k⟩
theorem r_eqI {i j : Int} (k : Q (.bl (decide (i = j))) H) : rEqX K (.int i) (.int j) H Q := .inl ⟨rfl, by
  have e : decide (V.int i = V.int j) = decide (i = j) := by
    by_cases c : i = j
    · subst c; rw [decide_eq_true rfl, decide_eq_true rfl]
    · rw [decide_eq_false c, decide_eq_false (fun z => c (V.int.inj z))]
  rw [e]; exact k⟩
theorem r_neI {i j : Int} (k : Q (.bl (!decide (i = j))) H) : rNeX K (.int i) (.int j) H Q := .inl ⟨rfl, by
  have e : decide (V.int i = V.int j) = decide (i = j) := by
    by_cases c : i = j
    · subst c; rw [decide_eq_true rfl, decide_eq_true rfl]
    · rw [decide_eq_false c, decide_eq_false (fun z => c (V.int.inj z))]
  rw [e]; exact k⟩
theorem r_eqD {x y : V} {d e : PyData} (S : Sx D L H) (hx : Rp D x d) (hy : Rp D y e) (h1 : SeqAt.shaped d = true) (h2 : SeqAt.shaped e = true) (k : Q (.bl (d.eqv e)) H) : rEqX K x y H Q :=
  .inr ⟨d, e, (hx.up S.dH).dp, (hy.up S.dH).dp, h1, h2, k⟩
theorem r_neD {x y : V} {d e : PyData} (S : Sx D L H) (hx : Rp D x d) (hy : Rp D y e) (h1 : SeqAt.shaped d = true) (h2 : SeqAt.shaped e = true) (k : Q (.bl (!d.eqv e)) H) : rNeX K x y H Q :=
  .inr ⟨d, e, (hx.up S.dH).dp, (hy.up S.dH).dp, h1, h2, k⟩

/-! lists and tuples -/
theorem sqO {n : Nat} {a : Addr} {xs : List V} (S : Sx D L H) (h : L[n]? = some (a, .lst xs)) : SqL K H a xs := .of (S.at h)
theorem sqD {a : Addr} {xs : List V} (S : Sx D L H) (h : D a = some (.lst xs)) : SqL K H a xs := .of (S.dH _ _ h)
theorem sqT {a : Addr} {xs : List V} (S : Sx D L H) (h : D a = some (.tup xs)) : SqT K H a xs := .of (S.dH _ _ h)
theorem nw_lst {xs : List V} (S : Sx D L H) (hl : xs.length ≤ 16777216) (k : ∀ p H', Sx D ((p, .lst xs) :: L) H' → Q (.ref p) H') : NwL xs H Q :=
  ⟨hl, fun p hp => k p _ (S.new hp)⟩
theorem nw_lst1 {xs : List V} (S : Sx D L H) (k : ∀ p H', Sx D ((p, .lst xs) :: L) H' → Q (.ref p) H') : ∀ p, H p = none → Q (.ref p) (upd H p (.lst xs)) := fun p hp => k p _ (S.new hp)
theorem nw_tup {xs : List V} (S : Sx D L H) (hl : xs.length ≤ 16777216) (k : ∀ p D' H', Same D D' → D' p = some (.tup xs) → Sx D' L H' → Q (.ref p) H') : NwT xs H Q :=
  ⟨hl, fun p hp => k p _ _ (same_upd (S.dH.free hp)) upd_same (S.fix hp)⟩
theorem nw_tup1 {xs : List V} (S : Sx D L H) (k : ∀ p D' H', Same D D' → D' p = some (.tup xs) → Sx D' L H' → Q (.ref p) H') : ∀ p, H p = none → Q (.ref p) (upd H p (.tup xs)) :=
  fun p hp => k p _ _ (same_upd (S.dH.free hp)) upd_same (S.fix hp)
/-- a list that is read: mine, or fixed -/
def Rdl (D : Hp) (L : Own) (a : Addr) (xs : List V) : Prop := (∃ n : Nat, L[n]? = some (a, HO.lst xs)) ∨ D a = some (HO.lst xs)
theorem Rdl.at {a : Addr} {xs : List V} (S : Sx D L H) (r : Rdl D L a xs) : H a = some (.lst xs) := by
  rcases r with ⟨n, h⟩ | h
  · exact S.at h
  · exact S.dH _ _ h
theorem rl0 {a : Addr} {xs : List V} {L : Own} : Rdl D ((a, .lst xs) :: L) a xs := Or.inl ⟨0, rfl⟩
theorem rl1 {a : Addr} {xs : List V} {L : Own} {x1 : Addr × HO} : Rdl D (x1 :: (a, .lst xs) :: L) a xs := Or.inl ⟨1, rfl⟩
theorem rl2 {a : Addr} {xs : List V} {L : Own} {x1 x2 : Addr × HO} : Rdl D (x1 :: x2 :: (a, .lst xs) :: L) a xs := Or.inl ⟨2, rfl⟩
theorem rl3 {a : Addr} {xs : List V} {L : Own} {x1 x2 x3 : Addr × HO} : Rdl D (x1 :: x2 :: x3 :: (a, .lst xs) :: L) a xs := Or.inl ⟨3, rfl⟩
theorem rl4 {a : Addr} {xs : List V} {L : Own} {x1 x2 x3 x4 : Addr × HO} : Rdl D (x1 :: x2 :: x3 :: x4 :: (a, .lst xs) :: L) a xs := Or.inl ⟨4, rfl⟩
theorem rl5 {a : Addr} {xs : List V} {L : Own} {x1 x2 x3 x4 x5 : Addr × HO} : Rdl D (x1 :: x2 :: x3 :: x4 :: x5 :: (a, .lst xs) :: L) a xs := Or.inl ⟨5, rfl⟩
theorem rlD {a : Addr} {xs : List V} (h : D a = some (.lst xs)) : Rdl D L a xs := Or.inr h
theorem Rdl.sq {a : Addr} {xs : List V} (S : Sx D L H) (r : Rdl D L a xs) : SqL K H a xs := .of (r.at S)

/-- a list that is read only: the law's script, too -/
def Rds (K : PySem.W.Frag) (D : Hp) (L : Own) (a : Addr) (xs : List V) : Prop := (∃ n : Nat, L[n]? = some (a, HO.lst xs)) ∨ SqL K D a xs
theorem Rds.sq {a : Addr} {xs : List V} (S : Sx D L H) (r : Rds K D L a xs) : SqL K H a xs := by
  rcases r with ⟨n, h⟩ | h
  · exact .of (S.at h)
  · exact S.dH.seq h
theorem rs0 {a : Addr} {xs : List V} {L : Own} : Rds K D ((a, .lst xs) :: L) a xs := Or.inl ⟨0, rfl⟩
theorem rs1 {a : Addr} {xs : List V} {L : Own} {x1 : Addr × HO} : Rds K D (x1 :: (a, .lst xs) :: L) a xs := Or.inl ⟨1, rfl⟩
theorem rs2 {a : Addr} {xs : List V} {L : Own} {x1 : Addr × HO} {x2 : Addr × HO} : Rds K D (x1 :: x2 :: (a, .lst xs) :: L) a xs := Or.inl ⟨2, rfl⟩
theorem rs3 {a : Addr} {xs : List V} {L : Own} {x1 : Addr × HO} {x2 : Addr × HO} {x3 : Addr × HO} : Rds K D (x1 :: x2 :: x3 :: (a, .lst xs) :: L) a xs := Or.inl ⟨3, rfl⟩
theorem rs4 {a : Addr} {xs : List V} {L : Own} {x1 : Addr × HO} {x2 : Addr × HO} {x3 : Addr × HO} {x4 : Addr × HO} : Rds K D (x1 :: x2 :: x3 :: x4 :: (a, .lst xs) :: L) a xs := Or.inl ⟨4, rfl⟩
theorem rs5 {a : Addr} {xs : List V} {L : Own} {x1 : Addr × HO} {x2 : Addr × HO} {x3 : Addr × HO} {x4 : Addr × HO} {x5 : Addr × HO} : Rds K D (x1 :: x2 :: x3 :: x4 :: x5 :: (a, .lst xs) :: L) a xs := Or.inl ⟨5, rfl⟩
theorem rsD {a : Addr} {xs : List V} (h : D a = some (.lst xs)) : Rds K D L a xs := Or.inr (.of h)
theorem rsS {a : Addr} {xs : List V} (h : SqL K D a xs) : Rds K D L a xs := Or.inr h
theorem r_cat {a b : Addr} {xs ys : List V} (S : Sx D L H) (ha : Rdl D L a xs) (hb : Rdl D L b ys) (hl : xs.length + ys.length ≤ 16777216) (k : ∀ p H', Sx D ((p, .lst (xs ++ ys)) :: L) H' → Q (.ref p) H') : rAddX K (.ref a) (.ref b) H Q :=
  .inr (.inl ⟨a, b, xs, ys, rfl, rfl, ha.at S, hb.at S, hl, fun p hp => k p _ (S.new hp)⟩)
theorem r_catT {a b : Addr} {xs ys : List V} (S : Sx D L H) (ha : D a = some (.tup xs)) (hb : D b = some (.tup ys)) (hl : xs.length + ys.length ≤ 16777216) (k : ∀ p D' H', Same D D' → D' p = some (.tup (xs ++ ys)) → Sx D' L H' → Q (.ref p) H') : rAddX K (.ref a) (.ref b) H Q := by
  refine .inr (.inr ⟨a, b, xs, ys, rfl, rfl, sqT S ha, sqT S hb, hl, fun e => ?_, fun _ e => ?_, fun _ _ p hp => ?_⟩)
  · subst e; exact k b D H (Same.refl _) hb S
  · subst e; exact k a D H (Same.refl _) (by rw [List.append_nil]; exact ha) S
  · exact k p _ _ (same_upd (S.dH.free hp)) upd_same (S.fix hp)
theorem flat_rep {α : Type} (x : α) (n : Nat) : (List.replicate n [x]).flatten = List.replicate n x := by
  induction n with
  | zero => rfl
  | succ n ih => rw [List.replicate_succ, List.replicate_succ, List.flatten_cons, ih]; rfl
theorem r_rep1 {a : Addr} {x : V} {n : Int} (S : Sx D L H) (ha : Rdl D L a [x]) (h1 : -1000000 ≤ n) (h2 : n ≤ 1000000) (k : ∀ p H', Sx D ((p, .lst (List.replicate n.toNat x)) :: L) H' → Q (.ref p) H') : rMulX K (.ref a) (.int n) H Q := by
  refine .inr (.inr (.inl ⟨a, n, [x], rfl, rfl, ha.at S, by omega, by omega, ?_, fun p hp => ?_⟩))
  · show 1 * n.toNat ≤ 16777216
    omega
  · rw [flat_rep]
    exact k p _ (S.new hp)
theorem atN {xs : List V} {i : Int} {v : V} (h0 : 0 ≤ i) (h : xs[i.toNat]? = some v) : atI xs i = some v := by
  have := atI_nat h
  rwa [show ((i.toNat : Nat) : Int) = i from Int.toNat_of_nonneg h0] at this
theorem r_ixL {a : Addr} {xs : List V} {i : Int} {v : V} (S : Sx D L H) (ha : Rds K D L a xs) (h : atI xs i = some v) (k : Q v H) : rIx K (.ref a) (.int i) H Q := .inl ⟨a, xs, i, v, rfl, rfl, ha.sq S, h, k⟩
theorem r_ixT {a : Addr} {xs : List V} {i : Int} {v : V} (S : Sx D L H) (ha : D a = some (.tup xs)) (h : atI xs i = some v) (k : Q v H) : rIx K (.ref a) (.int i) H Q := .inr (.inl ⟨a, xs, i, v, rfl, rfl, sqT S ha, h, k⟩)
theorem r_slL {a : Addr} {xs : List V} {lo hi : Option Int} (S : Sx D L H) (ha : Rds K D L a xs) (k : ∀ p H', Sx D ((p, .lst (cutV xs lo hi)) :: L) H' → Q (.ref p) H') : rSlX K (.ref a) lo hi H Q :=
  .inl ⟨a, xs, rfl, ha.sq S, fun p hp => k p _ (S.new hp)⟩
theorem cut_all {xs : List V} {lo hi : Option Int} (e : HT.sIx xs.length 0 lo = 0 ∧ HT.sIx xs.length xs.length hi = xs.length) : cutV xs lo hi = xs := by
  unfold cutV
  rw [e.1, e.2]
  simp
theorem r_slT {a : Addr} {xs : List V} {lo hi : Option Int} (S : Sx D L H) (ha : D a = some (.tup xs)) (k : ∀ p D' H', Same D D' → D' p = some (.tup (cutV xs lo hi)) → Sx D' L H' → Q (.ref p) H') : rSlX K (.ref a) lo hi H Q :=
  .inr ⟨a, xs, rfl, sqT S ha, fun e => k a D H (Same.refl _) (by rw [cut_all e]; exact ha) S, fun _ p hp => k p _ _ (same_upd (S.dH.free hp)) upd_same (S.fix hp)⟩
theorem cut_from (xs : List V) (k : Nat) : cutV xs (some (k : Int)) none = xs.drop k := by
  unfold cutV
  rw [HT.sIx_nat, HT.sIx_none, List.take_of_length_le (by rw [List.length_drop]; omega)]
  by_cases c : k ≤ xs.length
  · rw [Nat.min_eq_left c]
  · rw [Nat.min_eq_right (by omega), List.drop_of_length_le (by omega), List.drop_of_length_le (by omega)]
theorem cut_to (xs : List V) (k : Nat) : cutV xs none (some (k : Int)) = xs.take k := by
  unfold cutV
  rw [HT.sIx_nat, HT.sIx_none, List.drop_zero, Nat.sub_zero]
  by_cases c : k ≤ xs.length
  · rw [Nat.min_eq_left c]
  · rw [Nat.min_eq_right (by omega), List.take_of_length_le (by omega), List.take_of_length_le (by omega)]
/-- calls -/
theorem c_lenL {a : Addr} {xs : List V} (S : Sx D L H) (ha : Rds K D L a xs) (k : Q (.int xs.length) H) : rLen K [.ref a] H Q := ⟨.ref a, xs.length, rfl, .inl ⟨xs, ha.sq S, rfl⟩, k⟩
theorem c_lenT {a : Addr} {xs : List V} (S : Sx D L H) (ha : D a = some (.tup xs)) (k : Q (.int xs.length) H) : rLen K [.ref a] H Q := ⟨.ref a, xs.length, rfl, .inr ⟨xs, sqT S ha, rfl⟩, k⟩
theorem c_tupL {a : Addr} {xs : List V} (S : Sx D L H) (ha : Rds K D L a xs) (k : ∀ p D' H', Same D D' → D' p = some (.tup xs) → Sx D' L H' → Q (.ref p) H') : rTupOf K [.ref a] H Q :=
  ⟨a, xs, rfl, .inl ⟨ha.sq S, fun p hp => k p _ _ (same_upd (S.dH.free hp)) upd_same (S.fix hp)⟩⟩
theorem c_tupT {a : Addr} {xs : List V} (S : Sx D L H) (ha : D a = some (.tup xs)) (k : Q (.ref a) H) : rTupOf K [.ref a] H Q := ⟨a, xs, rfl, .inr ⟨sqT S ha, k⟩⟩
theorem c_lstL {a : Addr} {xs : List V} (S : Sx D L H) (ha : Rds K D L a xs) (k : ∀ p H', Sx D ((p, .lst xs) :: L) H' → Q (.ref p) H') : rLstOf K [.ref a] H Q := ⟨a, xs, rfl, .inl (ha.sq S), fun p hp => k p _ (S.new hp)⟩
theorem c_lstT {a : Addr} {xs : List V} (S : Sx D L H) (ha : D a = some (.tup xs)) (k : ∀ p H', Sx D ((p, .lst xs) :: L) H' → Q (.ref p) H') : rLstOf K [.ref a] H Q := ⟨a, xs, rfl, .inr (sqT S ha), fun p hp => k p _ (S.new hp)⟩
theorem c_sum {a : Addr} {ns : List Int} (S : Sx D L H) (ha : Rds K D L a (ns.map V.int)) (k : Q (.int ns.sum) H) : rSum K [.ref a] H Q := ⟨a, ns, rfl, ha.sq S, k⟩
theorem c_all {a : Addr} {bs : List Bool} (S : Sx D L H) (ha : Rds K D L a (bs.map V.bl)) (k : Q (.bl (bs.all id)) H) : rAll K [.ref a] H Q := ⟨a, bs, rfl, ha.sq S, k⟩
theorem c_any {a : Addr} {bs : List Bool} (S : Sx D L H) (ha : Rds K D L a (bs.map V.bl)) (k : Q (.bl (bs.any id)) H) : rAny K [.ref a] H Q := ⟨a, bs, rfl, ha.sq S, k⟩
theorem m_app {n : Nat} {a : Addr} {xs : List V} {y : V} {L' : Own} (S : Sx D L H) (h : L[n]? = some (a, .lst xs)) (hl : xs.length < 16777216) (e : L.set n (a, .lst (xs ++ [y])) = L') (k : ∀ H', Sx D L' H' → Q .non H') : rAppend (.ref a) [y] H Q :=
  ⟨a, xs, y, rfl, rfl, S.at h, hl, by subst e; exact k _ (S.put _ h)⟩
theorem m_ty {a : Addr} {xs : List V} (S : Sx D L H) (ha : Rdl D L a xs) : tyV K "list" (.ref a) H := .inl ⟨rfl, _, .inl (.inl (ha.at S))⟩
theorem c_intI {i : Int} (k : Q (.int i) H) : rInt1 [.int i] H Q := .inl ⟨i, rfl, k⟩
theorem c_intB {b : Bool} (k : Q (.int (if b then 1 else 0)) H) : rInt1 [.bl b] H Q := .inr ⟨b, rfl, k⟩
theorem c_abs {i : Int} (k : Q (.int (if i < 0 then -i else i)) H) : rAbs [.int i] H Q := ⟨i, rfl, k⟩
theorem c_max2 {i j : Int} (k : Q (.int (if j > i then j else i)) H) : rMax2 [.int i, .int j] H Q := ⟨i, j, rfl, k⟩
theorem c_min2 {i j : Int} (k : Q (.int (if j < i then j else i)) H) : rMin2 [.int i, .int j] H Q := ⟨i, j, rfl, k⟩
theorem mm_ty {a : Addr} {xs : List V} {p : Prop} (S : Sx D L H) (ha : Rdl D L a xs) (k : p) : tyV K "list" (.ref a) H ∧ p := ⟨m_ty S ha, k⟩
/-- a store xs[i] = v -/
theorem p_set {n : Nat} {a : Addr} {xs : List V} {i : Int} {v : V} {L' : Own} {q : Hp → Prop} (S : Sx D L H) (h : L[n]? = some (a, .lst xs)) (h0 : 0 ≤ i) (hj : i.toNat < xs.length) (e : L.set n (a, .lst (xs.set i.toNat v)) = L') (k : ∀ H', Sx D L' H' → q H') : rSetL (.ref a) (.int i) v H q := by
  refine ⟨a, xs, i, i.toNat, rfl, rfl, S.at h, ?_, by subst e; exact k _ (S.put _ h)⟩
  unfold ixN
  rw [if_pos h0, if_pos (by omega)]
theorem g_sub {to ti : TE} {t : TSet} {v : V} {q : L2.St → Hp → Prop} (h : to σ H fun o H1 => ti σ H1 fun i H2 => t o i v H2 fun H3 => q σ H3) : gSub to ti t v σ H q := h
theorem g_name {i : Nat} {v : V} {σ' : L2.St} {q : L2.St → Hp → Prop} (e : σ.set i (some v) = σ') (k : q σ' H) : gName i v σ H q := by subst e; exact k
end
theorem cut1 (xs : List V) : cutV xs (some 1) none = xs.drop 1 := cut_from xs 1
theorem getI {ns : List Int} {i : Nat} {v : V} (h : (ns.map V.int)[i]? = some v) : ∃ n, ns[i]? = some n ∧ v = .int n := by
  rw [List.getElem?_map] at h
  cases e : ns[i]? with
  | none => rw [e] at h; cases h
  | some n => rw [e] at h; exact ⟨n, rfl, (Option.some.inj h).symm⟩
theorem mapI {ns : List Int} {i : Nat} {n : Int} (h : ns[i]? = some n) : (ns.map V.int)[i]? = some (.int n) := by rw [List.getElem?_map, h]; rfl
theorem atI0 {xs : List V} {v : V} (h : xs[0]? = some v) : atI xs 0 = some v := atI_nat (j := 0) h
theorem atI1 {xs : List V} {v : V} (h : xs[1]? = some v) : atI xs 1 = some v := atI_nat (j := 1) h
theorem atI2 {xs : List V} {v : V} (h : xs[2]? = some v) : atI xs 2 = some v := atI_nat (j := 2) h
theorem dkUp {D D' : Hp} {a : Addr} {o : HO} (e : Same D D') (h : D a = some o) : D' a = some o := e _ _ h
theorem ox0 {x : Addr × HO} {L : Own} : (x :: L)[0]? = some x := rfl
theorem ox1 {x y : Addr × HO} {L : Own} : (x :: y :: L)[1]? = some y := rfl
theorem ox2 {x y z : Addr × HO} {L : Own} : (x :: y :: z :: L)[2]? = some z := rfl
theorem ox3 {x y z u : Addr × HO} {L : Own} : (x :: y :: z :: u :: L)[3]? = some u := rfl
theorem ox4 {x y z u t : Addr × HO} {L : Own} : (x :: y :: z :: u :: t :: L)[4]? = some t := rfl
end Fk

namespace Fk
open PySem PySem.Spec PyProof.Rows L2

/-! ## a def of the text, as its callers see it -/
structure Cl (P : Program) (w : World) (K : PySem.W.Frag) (mg : Str → Option Value) (base : Heap) (CX : CXT) (k : Nat) (x : Str) (ps : List Str) (sp : Sp) : Prop where
  ex : ∃ (f : Addr) (fd : FuncData), FnOk P w K mg base CX k f fd ps sp ∧ mg x = some (.ref f) ∧ PySem.W.keepIn K (.ref f) = true ∧ Binds K fd ps []
theorem pe_cl {X : Cx} {x : Str} {k j : Nat} {ps : List Str} {sp : Sp} {p pos : Pos} {e : Expr} {es : List Expr} {t : TA} (C : Cl X.prog X.w X.K X.mg X.base CX0 k x ps sp) (hr : Room j X.A) (hk : k ≤ j) (hg : Gl X x)
    (ha : PA X (e :: es) t) (hdb : (x == ("__debug__" : Str)) = false := by decide) (he : starEach (e :: es) X.env = (false, eval e X.env) :: starEach es X.env := by rfl) (hpl : (backTo pos (starEach es X.env)).any (·.1) = false := by rfl) :
    PE X (.Call (.Name x p) (e :: es) [] pos) (tCall sp [] E0 t) := by
  obtain ⟨f, fd, F, hm, kp, hb⟩ := C.ex
  exact pe_call F (hr.mono hk) hg hm kp hb .nil pass0 ha hdb he hpl
theorem pe_clX {X : Cx} {x : Str} {k j : Nat} {ps : List Str} {sp : Sp} {p pos : Pos} {e : Expr} {es : List Expr} {t : TA} (C : Cl X.prog X.w X.K X.mg X.base (L2.CX X.prog X.w) k x ps sp) (hr : Room j X.A) (hk : k ≤ j) (hg : Gl X x)
    (ha : PA X (e :: es) t) (hdb : (x == ("__debug__" : Str)) = false := by decide) (he : starEach (e :: es) X.env = (false, eval e X.env) :: starEach es X.env := by rfl) (hpl : (backTo pos (starEach es X.env)).any (·.1) = false := by rfl) :
    PE X (.Call (.Name x p) (e :: es) [] pos) (tCall sp [] E0 t) := by
  obtain ⟨f, fd, F, hm, kp, hb⟩ := C.ex
  exact pe_call F (hr.mono hk) hg hm kp hb .nil passL ha hdb he hpl
theorem Cl.mk' {P : Program} {w : World} {K : PySem.W.Frag} {mg : Str → Option Value} {base : Heap} {CX : CXT} {k : Nat} {x : Str} {ps : List Str} {sp : Sp} {f : Addr} {fd : FuncData} {st : Stmt}
    (F : Fun K x x st f fd) (o : FnOk P w K mg base CX k f fd ps sp) (g : mg x = some (.ref f)) (b : Binds K fd ps []) : Cl P w K mg base CX k x ps sp := ⟨f, fd, o, g, F.kp, b⟩

/-! ## the rules that name the written part, with it told -/
section
variable {X : Cx}
theorem pe_notK (K : PySem.W.Frag) {a : Expr} {pos : Pos} {ta : TE} (h : PE X a ta) (e : X.K = K := by rfl) : PE X (.UnaryOp .Not a pos) (tNotT K ta) := by subst e; exact pe_notT h
theorem pg_tupK (K : PySem.W.Frag) (n : Nat) {es : List Expr} {k : Nat} {pos : Pos} {t : TGs} (hc : X.calm = true) (h : PGs X es t) (e : X.K = K := by rfl)
    (hn : (assignEach es X.env).length = n := by rfl) (hst : (assignEach es X.env).findIdx? (·.1) = none := by rfl) : PG X (.Tuple es k pos) (gTup K n t) := by subst e; exact pg_tup hc h hn hst
end

/-! ## what a for walks: a list or a tuple -/
section
variable {X : Cx} {tg iter : Expr}
def IsSL (K : PySem.W.Frag) (x : V) (H : Hp) (R : It → Hp → Prop) : Prop := ∃ a, x = .ref a ∧ (∃ xs, SqL K H a xs) ∧ R (Itl K a) H
def IsST (K : PySem.W.Frag) (x : V) (H : Hp) (R : It → Hp → Prop) : Prop := ∃ a, x = .ref a ∧ (∃ xs, SqT K H a xs) ∧ R (Itt K a) H
def IsSq (K : PySem.W.Frag) (x : V) (H : Hp) (R : It → Hp → Prop) : Prop := IsSL K x H R ∨ IsST K x H R
def iSeq (K : PySem.W.Frag) (te : TE) : TI := fun σ H R => te σ H fun x H1 => IsSq K x H1 R
theorem pi_seq {te : TE} (he : PE X iter te) : PI X tg iter (iSeq X.K te) := by
  refine ⟨fun pins s σ H R I h => ?_⟩
  refine thn (he.run pins s σ H _ I h) fun v s1 ⟨x, H1, I1, r1, q1⟩ => ?_
  rcases q1 with ⟨a, rfl, ⟨xs, hq⟩, q⟩ | ⟨a, rfl, ⟨xs, hq⟩, q⟩
  · cases r1
    obtain ⟨its, _, p, _⟩ := I1.list hq
    refine wpAny_pyIter_list p.isList ⟨_, [s1.heap.objs.size], _, _, H1, rfl,
      I1.kept (t' := s1.toks) fun b o e => Heap.get?_push_of_some _ e, turn_list a _, ⟨_, Heap.get?_push_size _ rfl, rfl, rfl⟩, fun b hb => ?_, q⟩
    rw [show b = s1.heap.objs.size by simpa using hb]
    exact I1.fpOk (Nat.le_refl _) (I1.hok.fresh (Nat.le_refl _))
  · cases r1
    obtain ⟨its, _, p, _⟩ := I1.tuple hq
    refine wpAny_pyIter_tuple (show s1.heap.IsTuple a its.toArray from p) ⟨_, [s1.heap.objs.size], _, _, H1, rfl,
      I1.kept (t' := s1.toks) fun b o e => Heap.get?_push_of_some _ e, turn_tuple a _, ⟨_, Heap.get?_push_size _ rfl, rfl, rfl⟩, fun b hb => ?_, q⟩
    rw [show b = s1.heap.objs.size by simpa using hb]
    exact I1.fpOk (Nat.le_refl _) (I1.hok.fresh (Nat.le_refl _))
theorem pi_seqK (K : PySem.W.Frag) {te : TE} (he : PE X iter te) (e : X.K = K := by rfl) : PI X tg iter (iSeq K te) := by subst e; exact pi_seq he
end
section
variable {σ : L2.St} {D H : Hp} {L : Own} {K : PySem.W.Frag} {R : It → Hp → Prop}
/-- walked: a list (left) or a tuple (right); the list is an evaluated one -/
def IsR1 (vs : List V) (H : Hp) (R : It → Hp → Prop) : Prop := ∃ j : Int, vs = [.int j] ∧ -(2 ^ 62) ≤ j ∧ j < 2 ^ 62 ∧ R (Itr 0 j.toNat) H
def IsR2 (vs : List V) (H : Hp) (R : It → Hp → Prop) : Prop := ∃ i j : Int, vs = [.int i, .int j] ∧ (-(2 ^ 62) ≤ i ∧ i < 2 ^ 62 ∧ -(2 ^ 62) ≤ j ∧ j < 2 ^ 62) ∧ R (Itr i (j - i).toNat) H
theorem i_seq {te : TE} (h : te σ H fun x H1 => IsSq K x H1 R) : iSeq K te σ H R := h
theorem i_isL {a : Addr} {xs : List V} (S : Sx D L H) (ha : Rds K D L a xs) (k : R (Itl K a) H) : IsSq K (.ref a) H R := .inl ⟨a, rfl, ⟨xs, ha.sq S⟩, k⟩
theorem i_isT {a : Addr} {xs : List V} (S : Sx D L H) (ha : D a = some (.tup xs)) (k : R (Itt K a) H) : IsSq K (.ref a) H R := .inr ⟨a, rfl, ⟨xs, sqT S ha⟩, k⟩
def tLcJ (J : It) (g : TG) (tt : TT) (te : TE) (vs : List Nat) : TE := tLc (fun _ H R => R J H) g tt te vs
theorem e_lc {wi : TI} {g : TG} {tt : TT} {te : TE} {vs : List Nat} {Q : VK} (h : wi σ H fun J H1 => tLcJ J g tt te vs σ H1 Q) : tLc wi g tt te vs σ H Q := h
def tForJ (J : It) (g : TG) (tb : TS) : TS := fun E σ H => ∃ W : Nat → Nat → L2.St → Hp → Prop, (∃ m, W 0 m σ H) ∧ ∀ i m σ H, W i m σ H →
      (J.stop i H ∧ E.nx σ H) ∨ (J.go i H ∧ ∃ N : L2.St → Hp → Prop, (∀ σ' H', N σ' H' → ∃ m', m' < m ∧ W (i + 1) m' σ' H') ∧
        ∀ x H', J.yld i H x H' → g x σ H' fun σ2 H2 => tb { nx := N, rt := E.rt, bk := E.nx, ct := N } σ2 H2)
theorem s_forJ {wi : TI} {g : TG} {tb : TS} {E : Ends} (h : wi σ H fun J H1 => tForJ J g tb E σ H1) : tFor wi g tb E σ H := h
/-- a loop: Pv by the turn, the slots, the heap (no break) -/
theorem for_go {J : It} {n : Nat} {G : Hp → Prop} {Y : Nat → Hp → V → Hp → Prop} (w : Walk J n G Y) {g : TG} {tb : TS} {nx : L2.St → Hp → Prop} {rt : VK} {bk ct : L2.St → Hp → Prop} (Pv : Nat → L2.St → Hp → Prop) (h0 : Pv 0 σ H) (hG : ∀ i σ H, i ≤ n → Pv i σ H → G H)
    (hs : ∀ i x σ H H', i < n → Pv i σ H → Y i H x H' → ∀ (nx bk : L2.St → Hp → Prop), (∀ σ H, Pv (i + 1) σ H → nx σ H) → g x σ H' fun σ2 H2 => tb ⟨nx, rt, bk, nx⟩ σ2 H2) (hd : ∀ σ H, Pv n σ H → nx σ H) : tForJ J g tb ⟨nx, rt, bk, ct⟩ σ H :=
  L2.for_it w (D := ⟨nx, rt, bk, ct⟩) Pv h0 hG (fun i x σ H H' hi p y => hs i x σ H H' hi p y _ _ fun _ _ z => z) hd
/-- .. with break: Bk tells what holds there -/
theorem for_goB {J : It} {n : Nat} {G : Hp → Prop} {Y : Nat → Hp → V → Hp → Prop} (w : Walk J n G Y) {g : TG} {tb : TS} {nx : L2.St → Hp → Prop} {rt : VK} {bk ct : L2.St → Hp → Prop} (Pv : Nat → L2.St → Hp → Prop) (Bk : L2.St → Hp → Prop) (h0 : Pv 0 σ H) (hG : ∀ i σ H, i ≤ n → Pv i σ H → G H)
    (hs : ∀ i x σ H H', i < n → Pv i σ H → Y i H x H' → ∀ (nx bk : L2.St → Hp → Prop), (∀ σ H, Pv (i + 1) σ H → nx σ H) → (∀ σ H, Bk σ H → bk σ H) → g x σ H' fun σ2 H2 => tb ⟨nx, rt, bk, nx⟩ σ2 H2) (hd : ∀ σ H, (Pv n σ H ∨ Bk σ H) → nx σ H) : tForJ J g tb ⟨nx, rt, bk, ct⟩ σ H :=
  L2.for_it w (D := ⟨nx, rt, bk, ct⟩) Pv h0 hG (fun i x σ H H' hi p y => hs i x σ H H' hi p y _ _ (fun _ _ z => z) fun σ H z => hd σ H (.inr z)) fun σ H z => hd σ H (.inl z)
theorem i_rng1 {ta : TA} (h : ta σ H fun vs H1 => IsR1 vs H1 R) : iRng1 ta σ H R := h
theorem i_rng2 {ta : TA} (h : ta σ H fun vs H1 => IsR2 vs H1 R) : iRng2 ta σ H R := h
theorem i_r1 {j : Int} (h : -4611686018427387904 ≤ j ∧ j < 4611686018427387904) (k : R (Itr 0 j.toNat) H) : IsR1 [.int j] H R := ⟨j, rfl, by omega, by omega, k⟩
theorem i_r2 {i j : Int} (h : (-4611686018427387904 ≤ i ∧ i < 4611686018427387904) ∧ -4611686018427387904 ≤ j ∧ j < 4611686018427387904) (k : R (Itr i (j - i).toNat) H) : IsR2 [.int i, .int j] H R :=
  ⟨i, j, rfl, ⟨by omega, by omega, by omega, by omega⟩, k⟩
/-- two ways meet -/
theorem s_cut {t u : TS} {nx : L2.St → Hp → Prop} {rt : VK} {bk ct : L2.St → Hp → Prop} (M : L2.St → Hp → Prop) (h1 : ∀ nx, (∀ σ H, M σ H → nx σ H) → t ⟨nx, rt, bk, ct⟩ σ H) (h2 : ∀ σ' H', M σ' H' → u ⟨nx, rt, bk, ct⟩ σ' H') : Evl.tCut t u ⟨nx, rt, bk, ct⟩ σ H := ⟨M, h1 M fun _ _ z => z, h2⟩
theorem w_eq {p : Prop} {a b : L2.St} (e : a = b) (h : p) : a = b ∧ p := ⟨e, h⟩
theorem t_yes {q : Bool → Hp → Prop} (h : q true H) : tYes σ H q := h
theorem st_start {t : TS} {Q : VK} {σ' : L2.St} (e : σ = σ') (h : ∀ bk ct, t ⟨fun _ H' => Q .non H', Q, bk, ct⟩ σ' H) : t { nx := fun _ H' => Q .non H', rt := Q } σ H := by subst e; exact h _ _
theorem st_eq {q : L2.St → Prop} {σ' : L2.St} (e : σ = σ') (h : q σ') : q σ := by subst e; exact h
end
class StA (σ : L2.St) (i : Nat) (v : Option V) (σ' : outParam L2.St) : Prop where
  pf : σ.set i v = σ'
instance sta0 {v x : Option V} {σ : L2.St} : StA (x :: σ) 0 v (v :: σ) := ⟨rfl⟩
instance staS {v x : Option V} {σ σ' : L2.St} {i : Nat} [h : StA σ i v σ'] : StA (x :: σ) (i + 1) v (x :: σ') := ⟨by rw [List.set_cons_succ, h.pf]⟩
class Wip (σ : L2.St) (vs : List Nat) (σ' : outParam L2.St) : Prop where
  pf : wipe σ vs = σ'
instance wip0 {σ : L2.St} : Wip σ [] σ := ⟨rfl⟩
instance wipS {σ σ' σ'' : L2.St} {v : Nat} {vs : List Nat} [h : Wip σ vs σ'] [k : StA σ' v none σ''] : Wip σ (v :: vs) σ'' := ⟨by show (wipe σ vs).set v none = σ''; rw [h.pf, k.pf]⟩
/-- the comprehension's own names are forgotten alike -/
def WOk (σ2 : L2.St) (vs : List Nat) (σ : L2.St) (p : Prop) : Prop := wipe σ2 vs = σ ∧ p
section
variable {σ : L2.St} {D H : Hp} {L : Own} {K : PySem.W.Frag} {R : It → Hp → Prop}
/-! ## comprehensions, loops -/
/-- a comprehension: R tells the list made so far -/
theorem lc_go {J : It} {n : Nat} {G : Hp → Prop} {Y : Nat → Hp → V → Hp → Prop} (w : Walk J n G Y) {g : TG} {tt : TT} {te : TE} {vs : List Nat} {Q : VK} {σw : L2.St} [S : Sx D L H] [hw : Wip σ vs σw] (hn : n < 16777216)
    (R : Nat → List V → Hp → Prop) (h0 : R 0 [] D) (hG : ∀ D' p acc H', Sm D D' → Sx D' ((p, .lst acc) :: L) H' → G H')
    (hs : ∀ i x p acc D' H' H'', i < n → Sm D D' → Sx D' ((p, .lst acc) :: L) H' → R i acc D' → Y i H' x H'' → ∀ (Ad : V → Hp → Prop) (Sk : Hp → Prop),
      (∀ y D'' H4, Sm D' D'' → Sx D'' ((p, .lst acc) :: L) H4 → R (i + 1) (acc ++ [y]) D'' → Ad y H4) →
      (∀ D'' H4, Sm D' D'' → Sx D'' ((p, .lst acc) :: L) H4 → R (i + 1) acc D'' → Sk H4) →
      g x σw H'' fun σ2 H2 => WOk σ2 vs σw (tt σ2 H2 fun b H3 => if b = true then te σ2 H3 Ad else Sk H3))
    (k : ∀ p D' acc H', Sm D D' → Sx D' ((p, .lst acc) :: L) H' → R n acc D' → Q (.ref p) H') : tLcJ J g tt te vs σ H Q := by
  obtain rfl := hw.pf
  intro p hp
  refine lc_it w (fun i H' => ∃ D' acc, Sm D D' ∧ Sx D' ((p, .lst acc) :: L) H' ∧ R i acc D' ∧ acc.length ≤ i) ⟨D, [], ⟨Same.refl _⟩, S.new hp, h0, Nat.le_refl _⟩ (fun i H' _ ⟨D', acc, e, S', _, _⟩ => hG D' p acc H' e S') (fun i x H' H'' hi ⟨D', acc, e, S', r, hl⟩ y => ?_) (fun H' ⟨D', acc, e, S', r, _⟩ => k p D' acc H' e S' r)
  refine hs i x p acc D' H' H'' hi e S' r y _ _ (fun z D'' H4 e2 S2 r2 => ?_) (fun D'' H4 e2 S2 r2 => ?_)
  · refine ⟨acc, S2.at (n := 0) rfl, ?_, D'', acc ++ [z], ⟨e.e.trans e2.e⟩, ?_, r2, ?_⟩
    · show acc.length < 16777216
      omega
    · exact S2.put (n := 0) _ rfl
    · rw [List.length_append]
      show acc.length + 1 ≤ i + 1
      omega
  · exact ⟨D'', acc, ⟨e.e.trans e2.e⟩, S2, r2, by omega⟩
/-- each item gives one: the elements' values are told ahead (no test) -/
theorem lc_vals {J : It} {n : Nat} {G : Hp → Prop} {Y : Nat → Hp → V → Hp → Prop} (w : Walk J n G Y) {g : TG} {te : TE} {vs : List Nat} {Q : VK} {σw : L2.St} [S : Sx D L H] [hw : Wip σ vs σw] (hn : n < 16777216)
    (ys : List V) (hy : ys.length = n) (hG : ∀ p acc H', Sx D ((p, .lst acc) :: L) H' → G H')
    (hs : ∀ i x p acc H' H'', i < n → Sx D ((p, .lst acc) :: L) H' → Y i H' x H'' → ∀ (Ad : V → Hp → Prop),
      (∀ y H4, Sx D ((p, .lst acc) :: L) H4 → ys[i]? = some y → Ad y H4) →
      g x σw H'' fun σ2 H2 => WOk σ2 vs σw (te σ2 H2 Ad))
    (k : ∀ p H', Sx D ((p, .lst ys) :: L) H' → Q (.ref p) H') : tLcJ J g tYes te vs σ H Q := by
  obtain rfl := hw.pf
  intro p hp
  refine lc_it w (fun i H' => Sx D ((p, .lst (ys.take i)) :: L) H') (S.new hp) (fun i H' _ S' => hG p _ H' S') (fun i x H' H'' hi S' y => ?_) (fun H' S' => ?_)
  · have h := hs i x p _ H' H'' hi S' y (fun z H4 => ∃ acc, H4 p = some (.lst acc) ∧ acc.length < sizeLine ∧ Sx D ((p, .lst (ys.take (i + 1))) :: L) (upd H4 p (.lst (acc ++ [z])))) (fun z H4 S2 e => ?_)
    · have eq : (fun (σ2 : L2.St) (H2 : Hp) => wipe σ2 vs = wipe σ vs ∧ tYes σ2 H2 fun b H3 => if b = true then te σ2 H3 (fun z H4 => ∃ acc, H4 p = some (.lst acc) ∧ acc.length < sizeLine ∧ Sx D ((p, .lst (ys.take (i + 1))) :: L) (upd H4 p (.lst (acc ++ [z])))) else Sx D ((p, .lst (ys.take (i + 1))) :: L) H3)
          = (fun (σ2 : L2.St) (H2 : Hp) => wipe σ2 vs = wipe σ vs ∧ te σ2 H2 (fun z H4 => ∃ acc, H4 p = some (.lst acc) ∧ acc.length < sizeLine ∧ Sx D ((p, .lst (ys.take (i + 1))) :: L) (upd H4 p (.lst (acc ++ [z]))))) := by
        funext σ2 H2
        unfold tYes
        dsimp only
        rw [if_pos rfl]
      rw [eq]
      exact h
    · refine ⟨_, S2.at (n := 0) rfl, ?_, ?_⟩
      · rw [List.length_take]
        show min i ys.length < 16777216
        omega
      · rw [List.take_add_one, e]
        exact S2.put (n := 0) _ rfl
  · rw [List.take_of_length_le (by omega)] at S'
    exact k p H' S'
end
end Fk

namespace Fk
open PySem PySem.Spec PyProof.Rows L2

theorem bb_len : bootBuiltins "len" = some (.builtin "len") := by decide +kernel
theorem bb_isinstance : bootBuiltins "isinstance" = some (.builtin "isinstance") := by decide +kernel
theorem bb_abs : bootBuiltins "abs" = some (.builtin "abs") := by decide +kernel
theorem bb_sum : bootBuiltins "sum" = some (.builtin "sum") := by decide +kernel
theorem bb_all : bootBuiltins "all" = some (.builtin "all") := by decide +kernel
theorem bb_any : bootBuiltins "any" = some (.builtin "any") := by decide +kernel
theorem bb_sorted : bootBuiltins "sorted" = some (.builtin "sorted") := by decide +kernel
theorem bb_divmod : bootBuiltins "divmod" = some (.builtin "divmod") := by decide +kernel
theorem bb_min : bootBuiltins "min" = some (.builtin "min") := by decide +kernel
theorem bb_max : bootBuiltins "max" = some (.builtin "max") := by decide +kernel
theorem bb_tuple : bootBuiltins "tuple" = some (.type "tuple") := by decide +kernel
theorem bb_list : bootBuiltins "list" = some (.type "list") := by decide +kernel
theorem bb_int : bootBuiltins "int" = some (.type "int") := by decide +kernel
theorem bb_bool : bootBuiltins "bool" = some (.type "bool") := by decide +kernel
theorem bb_str : bootBuiltins "str" = some (.type "str") := by decide +kernel
theorem bb_dict : bootBuiltins "dict" = some (.type "dict") := by decide +kernel
theorem bb_set : bootBuiltins "set" = some (.type "set") := by decide +kernel
theorem bb_range : bootBuiltins "range" = some (.type "range") := by decide +kernel
theorem bb_enumerate : bootBuiltins "enumerate" = some (.type "enumerate") := by decide +kernel
theorem bb_zip : bootBuiltins "zip" = some (.type "zip") := by decide +kernel
theorem bb_reversed : bootBuiltins "reversed" = some (.type "reversed") := by decide +kernel
/-! ## a tuple once -/
theorem tupMul1 (l : Addr) (its : Array Value) (n : Nat) (dd : Option Addr) (sl : Array (Option Value)) (u : Tok) :
    Meets (Builtin.«tuple.__mul__» ⟨[.ref l, .int 1 u], []⟩) (fun _ R s => s.heap.get? l = some { cls := .type "tuple", dict := dd, data := .seq its n, slots := sl } ∧ R (.ok (.ret (Value.ref l))) s) :=
  .of_wp fun prog w A R s h => by
    obtain ⟨hp, g, d, tk, os⟩ := s
    obtain ⟨hl, h⟩ := h
    have f1 := AutoSeq1.idx_int
    have c1 : (its.isEmpty || (1 : Int) == 1) = true := by simp
    wp_walk using wpAny_loadPart' hl
    repeat (first
      | (refine wpAny_ite_true (decide_eq_true (by rw [c1])) ?_; wp_walk using wpAny_loadPart' hl)
      | (refine wpAny_ite_false (decide_eq_false (by decide)) ?_; wp_walk using wpAny_loadPart' hl))
    all_goals first | exact ⟨_, rfl, h⟩ | trace_state
def rRep1 (K : PySem.W.Frag) : R2 := fun x y H Q => ∃ l xs, x = .ref l ∧ y = .int 1 ∧ SqT K H l xs ∧ Q (.ref l) H
section
variable {X : Cx}
theorem op_rep1 : OpR X (binaryOp .Mult) (rRep1 X.K) := by
  intro pins s σ H x y v u Q I rx ry h
  obtain ⟨l, xs, rfl, rfl, hT, q⟩ := h
  cases rx
  obtain ⟨t, rfl⟩ := ry
  obtain ⟨its, r, ⟨⟨cls, dd, data, sl⟩, ho, hc, n, hd⟩, hs⟩ := I.tuple hT
  simp only at hc hd
  subst hc hd
  have K1 : (decide ((1 : Int) < -(2 ^ 63)) || decide ((1 : Int) ≥ 2 ^ 63)) = false := by decide
  have M := tupMul1 l its.toArray n dd sl t
  refine wpAny_binaryOp_repeat_ref (T := "tuple") (U := "int") (by decide) ⟨_, ho, rfl⟩ (fun s' => typeIs_int s' 1 t)
    noFill_tuple_mul F.fills_int_mul F.slot_int_rmul repeat_tuple F.slot_int_index.lookup ?_
  refine call_meets F.slot_int_rmul (typeIs_int s 1 t) F.entry_int_rmul (F.args_int_rmul_2 _ _)
    (int_rmul_tuple 1 t l its.toArray n dd sl) ⟨ho, rfl, ⟨_, ho, rfl⟩, ?_⟩
  exact call_meets F.slot_tuple_mul ⟨_, ho, rfl⟩ F.entry_tuple_mul (F.args_tuple_mul_2 _ _) M ⟨ho, ⟨.ref l, H, I, rfl, q⟩⟩
/-- every product -/
def rMulY (K : PySem.W.Frag) : R2 := fun x y H Q => rMulX K x y H Q ∨ rRep1 K x y H Q
theorem opMulY : OpR X (binaryOp .Mult) (rMulY X.K) := OpR.or opMul op_rep1

/-! ## sum of a tuple -/
def rSumT (K : PySem.W.Frag) : List V → Hp → VK → Prop := fun vs H Q => ∃ (a : Addr) (ns : List Int), vs = [V.ref a] ∧ SqT K H a (ns.map V.int) ∧ Q (.int ns.sum) H
theorem cr_sumT (hc : X.calm = true) : CallR X (.builtin "sum") (rSumT X.K) := by
  intro pins s σ H vs us Q I r h
  obtain ⟨a, ns, rfl, hT, q⟩ := h
  obtain ⟨its, rv, ho, hs⟩ := I.tuple hT
  rw [Vals.ref1 r]
  have hi : IntsAre its ns := rv.ints
  obtain ⟨xs, e⟩ := hi.allInts.items
  have hn : numsOf (intItems xs).toList = ns := by rw [← e]; exact hi.numsOf
  rw [nums_intItems] at hn
  rw [e] at ho
  refine PySem.W.ktm_sumG (I.ok.hd hc) ho fun h' tk t' hk => ⟨.int _, H, I.kept hk, ⟨t', ?_⟩, q⟩
  rw [preSum_eq, List.take_of_length_le (by simp), hn]
def rSumX (K : PySem.W.Frag) : List V → Hp → VK → Prop := fun vs H Q => rSum K vs H Q ∨ rSumT K vs H Q
theorem cr_sumX (hc : X.calm = true) : CallR X (.builtin "sum") (rSumX X.K) := CallR.or (cr_sum hc) (cr_sumT hc)
end
section
variable {σ : L2.St} {D D' H : Hp} {L : Own} {Q : VK} {K : PySem.W.Frag}
theorem c_sumL {a : Addr} {ns : List Int} (S : Sx D L H) (ha : Rds K D L a (ns.map V.int)) (k : Q (.int ns.sum) H) : rSumX K [.ref a] H Q := .inl ⟨a, ns, rfl, ha.sq S, k⟩
theorem c_sumT {a : Addr} {ns : List Int} (S : Sx D L H) (ha : D a = some (.tup (ns.map V.int))) (k : Q (.int ns.sum) H) : rSumX K [.ref a] H Q := .inr ⟨a, ns, rfl, sqT S ha, k⟩
theorem r_mul {x y : V} (h : rMulX K x y H Q) : rMulY K x y H Q := .inl h
/-- (x,) * n -/
theorem r_rep1T {a : Addr} {x : V} {n : Int} (S : Sx D L H) (ha : D a = some (.tup [x])) (h1 : 1 ≤ n) (h2 : n ≤ 1000) (k : ∀ p D' H', Same D D' → D' p = some (.tup (List.replicate n.toNat x)) → Sx D' L H' → Q (.ref p) H') : rMulY K (.ref a) (.int n) H Q := by
  by_cases c : n = 1
  · subst c
    exact .inr ⟨a, [x], rfl, rfl, sqT S ha, k a D H (Same.refl _) ha S⟩
  · refine .inl (.inr (.inr (.inr ⟨a, n, [x], rfl, rfl, sqT S ha, by simp, by omega, h2, by simp, fun p hp => ?_⟩)))
    rw [flat_rep]
    exact k p _ _ (same_upd (S.dH.free hp)) upd_same (S.fix hp)
end
end Fk

/-! ## sorted of a tuple -/
namespace FkS
open PySem PyProof.Rows Srt SrtO SrtR
section
variable {prog : Program} {w : World} {A : Around} {E : Value → Shared → Prop} {s : Shared}
/-- the heap in which the items were gathered -/
abbrev gath (s : Shared) (vs : List Value) : Heap := (s.heap.push (seqObj "list" #[] 0)).update s.heap.objs.size (Obj.mapSeq (· ++ vs.toArray))
theorem collectT {l : Addr} {vs : List Value} {Q : List Value → Shared → Prop} (ht : IsTup s.heap l vs.toArray) (hz : vs.length ≤ sizeLine) (h : Q vs { s with heap := gath s vs }) : wpAny (model prog w) A (collect (.ref l)) Q E s := by
  obtain ⟨ob, hob, hcl, m, hdt⟩ := id ht
  unfold collect
  refine wpAny_bind (wpAny_runValue (codeAny_builtin entry_proto_collect' ?_))
  show wpAny _ _ (do again (.builtin "list.__iadd__" ⟨[← newList [], .ref l], []⟩)) _ _ s
  refine wpAny_bind (wpAny_newList (wpAny_pure ⟨Code.quiet_builtin _ (by decide +kernel), codeAny_builtin entry_list_iadd' ?_⟩))
  show wpAny _ _ (Builtin.List.listExtendWith (.ref s.heap.objs.size) (.ref l) (.ref s.heap.objs.size)) _ _ { s with heap := s.heap.push (seqObj "list" #[] 0) }
  unfold Builtin.List.listExtendWith
  have hob' : (s.heap.push (seqObj "list" #[] 0)).get? l = some ob := Heap.get?_push_of_some _ hob
  refine wpAny_bind (wpAny_typeOf (T := "tuple") ⟨ob, hob', hcl⟩ ?_)
  have tt : (Value.type "tuple" == Value.type "tuple") = true := by rfl
  rw [if_pos (by rw [tt]; simp)]
  refine wpAny_bind (listItems_at hob' hdt ?_)
  refine wpAny_bind (listItems_at (xs := #[]) (n := 0) (Heap.get?_push_size _ rfl) rfl ?_)
  rw [if_neg (by simp)]
  have hz' : (#[] ++ vs.toArray).size ≤ sizeLine + 1 := by
    simp only [Array.size_append, List.size_toArray, List.length_nil]
    omega
  refine wpAny_bind (listUpdate_at (xs := #[]) (n := 0) (Heap.get?_push_size _ rfl) rfl ?_ (Nat.zero_le _) hz')
  refine wpAny_pure ?_
  show wpAny (model prog w) A (do
    let o ← load s.heap.objs.size
    match o.data with
    | .seq xs _ => pure xs.toList
    | _ => unsupported "internal:collect") Q E { s with heap := gath s vs }
  refine wpAny_bind (wpAny_load (get?_update_seq (Heap.get?_push_size _ rfl) _) ?_)
  show wpAny _ _ (pure ((#[] : Array Value) ++ vs.toArray).toList) Q E _
  have e0 : ((#[] : Array Value) ++ vs.toArray).toList = vs := by simp
  rw [e0]
  exact wpAny_pure h
theorem sortedT {l : Addr} {vs : List Value} {b : Bool} {ltv : Value → Value → Bool} {Q : Value → Shared → Prop} (O : Swo ltv) (ht : IsTup s.heap l vs.toArray) (hz : vs.length ≤ sizeLine)
    (hS : 2 ≤ vs.length → ∀ (h₁ : Heap) (a : Addr), SortableO prog w A.in1.in1 { s with heap := h₁ } a vs ltv)
    (h : ∀ out : List Value, Srtd ltv out → Stb ltv out (if b = true then vs.reverse else vs) → Q (.ref (s.heap.objs.size + 1)) { s with heap := sortedAll s.heap vs (if b = true then out.toArray.reverse else out.toArray) }) :
    wpAny (model prog w) A (call (.builtin "sorted") [.ref l] [(Str.ofString "reverse", .bool b)]) Q E s := by
  refine call_function_entry_kw kind_sorted plain_sorted entry_sorted (args_sorted_rev _ _) ?_
  unfold Builtin.«sorted»
  refine wpAny_bind (m := checkCount "sorted" 1 1 _) (wpAny_pure ?_)
  refine wpAny_bind (collectT ht hz ?_)
  refine wpAny_bind (wpAny_newList ?_ hz)
  have hsz : (gath s vs).objs.size = s.heap.objs.size + 1 := by
    rw [Heap.size_update, size_push']
  have hoL : ((gath s vs).push (seqObj "list" vs.toArray 0)).get? (s.heap.objs.size + 1) = some (seqObj "list" vs.toArray 0) := by
    rw [← hsz]
    exact Heap.get?_push_size _ rfl
  show wpAny _ _ _ _ _ { s with heap := (gath s vs).push (seqObj "list" vs.toArray 0) }
  rw [hsz]
  refine wpAny_bind (wpAny_holding (wpAny_call_entry_kw slot_list_sort ⟨_, hoL, rfl⟩ entry_list_sort ?_ (args_list_sort_rev _ _)))
  refine list_sort_ordR O hoL hz (fun h2 => hS h2 _ _) fun out k1 k2 => ⟨_, rfl, ?_⟩
  exact wpAny_pure ⟨_, rfl, h out k1 k2⟩
theorem sortedT0 {l : Addr} {vs : List Value} {ltv : Value → Value → Bool} {Q : Value → Shared → Prop} (O : Swo ltv) (ht : IsTup s.heap l vs.toArray) (hz : vs.length ≤ sizeLine)
    (hS : 2 ≤ vs.length → ∀ (h₁ : Heap) (a : Addr), SortableO prog w A.in1.in1 { s with heap := h₁ } a vs ltv)
    (h : ∀ out : List Value, Srtd ltv out → Stb ltv out vs → Q (.ref (s.heap.objs.size + 1)) { s with heap := sortedAll s.heap vs out.toArray }) :
    wpAny (model prog w) A (call (.builtin "sorted") [.ref l]) Q E s := by
  refine Calls.call_function_entry kind_sorted plain_sorted entry_sorted (args_sorted1 _) ?_
  unfold Builtin.«sorted»
  refine wpAny_bind (m := checkCount "sorted" 1 1 _) (wpAny_pure ?_)
  refine wpAny_bind (collectT ht hz ?_)
  refine wpAny_bind (wpAny_newList ?_ hz)
  have hsz : (gath s vs).objs.size = s.heap.objs.size + 1 := by
    rw [Heap.size_update, size_push']
  have hoL : ((gath s vs).push (seqObj "list" vs.toArray 0)).get? (s.heap.objs.size + 1) = some (seqObj "list" vs.toArray 0) := by
    rw [← hsz]
    exact Heap.get?_push_size _ rfl
  show wpAny _ _ _ _ _ { s with heap := (gath s vs).push (seqObj "list" vs.toArray 0) }
  rw [hsz]
  refine wpAny_bind (wpAny_holding (wpAny_call_entry slot_list_sort ⟨_, hoL, rfl⟩ entry_list_sort (list_sort_ord O hoL hz (fun h2 => hS h2 _ _) fun out k1 k2 => ⟨_, rfl, ?_⟩) (args_list_sort _)))
  exact wpAny_pure ⟨_, rfl, h out k1 k2⟩
end
end FkS
namespace Fk
open PySem PySem.Spec PyProof.Rows L2
/-- sorted(xs): a list, or a tuple, of ints -/
def rSortedX (K : PySem.W.Frag) : List V → Hp → VK → Prop := fun vs H Q => ∃ (a : Addr) (ns : List Int), vs = [V.ref a] ∧ (SqL K H a (ns.map V.int) ∨ SqT K H a (ns.map V.int)) ∧
  ∀ (ns' : List Int) (p : Addr), ns'.Perm ns → ns'.Pairwise (· ≤ ·) → H p = none → Q (.ref p) (upd H p (.lst (ns'.map V.int)))
/-- sorted(xs, reverse=True) -/
def rSortedR (K : PySem.W.Frag) : List V → List V → Hp → VK → Prop := fun vs zs H Q => ∃ (a : Addr) (ns : List Int), vs = [V.ref a] ∧ zs = [.bl true] ∧ (SqL K H a (ns.map V.int) ∨ SqT K H a (ns.map V.int)) ∧
  ∀ (ns' : List Int) (p : Addr), ns'.Perm ns → ns'.Pairwise (· ≥ ·) → H p = none → Q (.ref p) (upd H p (.lst (ns'.map V.int)))
section
variable {X : Cx}
theorem cr_sortedX : CallR X (.builtin "sorted") (rSortedX X.K) := by
  intro pins s σ H vs us Q I r h
  obtain ⟨a, ns, rfl, hs | hs, q⟩ := h
  · exact cr_sortedI pins s σ H _ us Q I r ⟨a, ns, rfl, hs, q⟩
  · obtain ⟨its, rv, ht, hz⟩ := I.tuple hs
    rw [Vals.ref1 r]
    have hi := rv.ints
    refine FkS.sortedT0 SrtO.swo_int ht (by rw [← rv.length]; exact hz) (fun h2 h₁ a' => SrtO.ints_sortable hi h2) fun out h1 h2 => ?_
    obtain ⟨k1, k2, k3⟩ := SrtO.ints_out hi h1 h2
    obtain ⟨ep, he'⟩ := PyProof.Rows.sortedAll_at s.heap its out.toArray
    have hlen : ((out.map SrtO.iv).map V.int).length ≤ sizeLine := by
      rw [List.length_map, k2.length_eq]
      rw [List.length_map] at hz
      exact hz
    exact ⟨.ref _, upd H (s.heap.objs.size + 1) (.lst ((out.map SrtO.iv).map V.int)), I.laid (t' := s.toks) (fun _ _ => PyProof.Rows.sortedAll_old) (Nat.le_succ _) ⟨hlen, _, ep, vals_of_ints k1, he'⟩, rfl, q _ _ k2 k3 (I.hok.fresh (Nat.le_succ _))⟩
theorem cr_sortedR : CallRK X (.builtin "sorted") [Str.ofString "reverse"] (rSortedR X.K) := by
  intro pins s σ H vs zs us ws Q I r rz h
  obtain ⟨a, ns, rfl, rfl, hs | hs, q⟩ := h
  · exact cr_sortedRev (b := true) pins s σ H _ _ us ws Q I r rz ⟨a, ns, rfl, rfl, hs, fun ns' p h1 h2 => q ns' p h1 h2⟩
  · obtain ⟨its, rv, ht, hz⟩ := I.tuple hs
    rw [Vals.ref1 r]
    obtain ⟨w1, rfl, e1⟩ := vals1 rz
    obtain rfl : w1 = Value.bool true := e1
    have hi := rv.ints
    refine FkS.sortedT (b := true) SrtO.swo_int ht (by rw [← rv.length]; exact hz) (fun h2 h₁ a' => SrtO.ints_sortable hi h2) fun out h1 h2 => ?_
    obtain ⟨ns', k1, k2, k3⟩ := SrtR.ints_outR (b := true) hi h1 h2
    obtain ⟨ep, he'⟩ := PyProof.Rows.sortedAll_at s.heap its (if true = true then out.toArray.reverse else out.toArray)
    have hlen : (ns'.map V.int).length ≤ sizeLine := by
      rw [List.length_map, k2.length_eq]
      rw [List.length_map] at hz
      exact hz
    have e0 : ((if true = true then out.toArray.reverse else out.toArray).toList).toArray = (if true = true then out.toArray.reverse else out.toArray) := by rw [Array.toArray_toList]
    exact ⟨.ref _, upd H (s.heap.objs.size + 1) (.lst (ns'.map V.int)), I.laid (t' := s.toks) (fun _ _ => PyProof.Rows.sortedAll_old) (Nat.le_succ _) ⟨hlen, _, ep, vals_of_ints k1, by rw [e0]; exact he'⟩, rfl, q _ _ k2 k3 (I.hok.fresh (Nat.le_succ _))⟩
end
section
variable {σ : L2.St} {D D' H : Hp} {L : Own} {Q : VK} {K : PySem.W.Frag}
theorem c_sortL {a : Addr} {ns : List Int} (S : Sx D L H) (ha : Rds K D L a (ns.map V.int)) (k : ∀ (ns' : List Int) p H', ns'.Perm ns → ns'.Pairwise (· ≤ ·) → Sx D ((p, .lst (ns'.map V.int)) :: L) H' → Q (.ref p) H') : rSortedX K [.ref a] H Q :=
  ⟨a, ns, rfl, .inl (ha.sq S), fun ns' p h1 h2 hp => k ns' p _ h1 h2 (S.new hp)⟩
theorem c_sortT {a : Addr} {ns : List Int} (S : Sx D L H) (ha : D a = some (.tup (ns.map V.int))) (k : ∀ (ns' : List Int) p H', ns'.Perm ns → ns'.Pairwise (· ≤ ·) → Sx D ((p, .lst (ns'.map V.int)) :: L) H' → Q (.ref p) H') : rSortedX K [.ref a] H Q :=
  ⟨a, ns, rfl, .inr (sqT S ha), fun ns' p h1 h2 hp => k ns' p _ h1 h2 (S.new hp)⟩
theorem c_sortRL {a : Addr} {ns : List Int} (S : Sx D L H) (ha : Rds K D L a (ns.map V.int)) (k : ∀ (ns' : List Int) p H', ns'.Perm ns → ns'.Pairwise (· ≥ ·) → Sx D ((p, .lst (ns'.map V.int)) :: L) H' → Q (.ref p) H') : rSortedR K [.ref a] [.bl true] H Q :=
  ⟨a, ns, rfl, rfl, .inl (ha.sq S), fun ns' p h1 h2 hp => k ns' p _ h1 h2 (S.new hp)⟩
theorem c_sortRT {a : Addr} {ns : List Int} (S : Sx D L H) (ha : D a = some (.tup (ns.map V.int))) (k : ∀ (ns' : List Int) p H', ns'.Perm ns → ns'.Pairwise (· ≥ ·) → Sx D ((p, .lst (ns'.map V.int)) :: L) H' → Q (.ref p) H') : rSortedR K [.ref a] [.bl true] H Q :=
  ⟨a, ns, rfl, rfl, .inr (sqT S ha), fun ns' p h1 h2 hp => k ns' p _ h1 h2 (S.new hp)⟩
theorem e_ckw {r : List V → List V → Hp → VK → Prop} {t tk : TA} (h : t σ H fun vs H1 => tk σ H1 fun zs H2 => r vs zs H2 Q) : tCKw r t tk σ H Q := h
end
end Fk

namespace Fk
open PySem PySem.Spec PyProof.Rows L2

/-! ## data of small depth -/
def Sh (n : Nat) (d : PyData) : Prop := d.canLay0 = true ∧ d.depth ≤ n
theorem Sh.int (n : Nat) (i : Int) : Sh n (.int i) := ⟨by simp [PyData.canLay0], by simp [PyData.depth]⟩
theorem Sh.bl (n : Nat) (b : Bool) : Sh n (.bool b) := ⟨by simp [PyData.canLay0], by simp [PyData.depth]⟩
theorem Sh.non (n : Nat) : Sh n .none := ⟨by simp [PyData.canLay0], by simp [PyData.depth]⟩
theorem sh_all {n : Nat} : ∀ {ds : List PyData}, (∀ d ∈ ds, Sh n d) → PyData.canLayAll0 ds = true ∧ PyData.depthAll ds ≤ n
  | [], _ => ⟨by simp [PyData.canLayAll0], by simp [PyData.depthAll]⟩
  | d :: ds, h => by
    obtain ⟨a1, a2⟩ := h d List.mem_cons_self
    obtain ⟨b1, b2⟩ := sh_all (ds := ds) fun e he => h e (List.mem_cons_of_mem _ he)
    refine ⟨?_, ?_⟩
    · simp only [PyData.canLayAll0, a1, b1, Bool.and_self]
    · simp only [PyData.depthAll]
      omega
theorem Sh.list {n : Nat} {ds : List PyData} (h : ∀ d ∈ ds, Sh n d) : Sh (n + 1) (.list ds) := by
  obtain ⟨a, b⟩ := sh_all h
  exact ⟨by simp only [PyData.canLay0, a], by simp only [PyData.depth]; omega⟩
theorem Sh.tup {n : Nat} {ds : List PyData} (h : ∀ d ∈ ds, Sh n d) : Sh (n + 1) (.tuple ds) := by
  obtain ⟨a, b⟩ := sh_all h
  exact ⟨by simp only [PyData.canLay0, a], by simp only [PyData.depth]; omega⟩
theorem Sh.ints {n : Nat} {ns : List Int} : ∀ d ∈ dI ns, Sh n d := fun d hd => by
  obtain ⟨i, _, rfl⟩ := List.mem_map.mp hd
  exact .int n i
theorem Sh.ok {n : Nat} {d : PyData} (h : Sh n d) (hn : n ≤ 64 := by decide) : SeqAt.shaped d = true := by
  unfold SeqAt.shaped
  rw [h.1, decide_eq_true (Nat.le_trans h.2 hn)]
  rfl
theorem sh_tupI (ns : List Int) : SeqAt.shaped (.tuple (dI ns)) = true := (Sh.tup (n := 0) Sh.ints).ok
theorem sh_lstI (ns : List Int) : SeqAt.shaped (.list (dI ns)) = true := (Sh.list (n := 0) Sh.ints).ok
theorem eqv_I : ∀ (xs ys : List Int), PyData.eqvAll (dI xs) (dI ys) = decide (xs = ys)
  | [], [] => by simp [PyData.eqvAll]
  | [], y :: ys => by simp [PyData.eqvAll]
  | x :: xs, [] => by simp [PyData.eqvAll]
  | x :: xs, y :: ys => by
    simp only [List.map_cons, PyData.eqvAll, PyData.eqv, eqv_I xs ys]
    by_cases h : x = y
    · subst h; simp
    · simp [h]
theorem eqv_tupI (xs ys : List Int) : PyData.eqv (.tuple (dI xs)) (.tuple (dI ys)) = decide (xs = ys) := by simp only [PyData.eqv, eqv_I]
theorem eqv_lstI (xs ys : List Int) : PyData.eqv (.list (dI xs)) (.list (dI ys)) = decide (xs = ys) := by simp only [PyData.eqv, eqv_I]

section
variable {σ : L2.St} {D D' H : Hp} {L : Own} {Q : VK} {K : PySem.W.Frag}
theorem r_eqTT {a b : Addr} {xs ys : List Int} (S : Sx D L H) (ha : D a = some (.tup (xs.map V.int))) (hb : D b = some (.tup (ys.map V.int))) (k : Q (.bl (decide (xs = ys))) H) : rEqX K (.ref a) (.ref b) H Q :=
  r_eqD S (.tupI ha) (.tupI hb) (sh_tupI xs) (sh_tupI ys) (by rw [eqv_tupI]; exact k)
theorem r_neTT {a b : Addr} {xs ys : List Int} (S : Sx D L H) (ha : D a = some (.tup (xs.map V.int))) (hb : D b = some (.tup (ys.map V.int))) (k : Q (.bl (!decide (xs = ys))) H) : rNeX K (.ref a) (.ref b) H Q :=
  r_neD S (.tupI ha) (.tupI hb) (sh_tupI xs) (sh_tupI ys) (by rw [eqv_tupI]; exact k)
/-- lists of ints, mine or fixed -/
theorem dpl {a : Addr} {xs : List Int} (S : Sx D L H) (ha : Rds K D L a (xs.map V.int)) : Dp K H (.ref a) (.list (dI xs)) := .lst (ha.sq S) (RpAll.dp (.ints xs))
theorem r_eqLL {a b : Addr} {xs ys : List Int} (S : Sx D L H) (ha : Rds K D L a (xs.map V.int)) (hb : Rds K D L b (ys.map V.int)) (k : Q (.bl (decide (xs = ys))) H) : rEqX K (.ref a) (.ref b) H Q :=
  .inr ⟨_, _, dpl S ha, dpl S hb, sh_lstI xs, sh_lstI ys, by rw [eqv_lstI]; exact k⟩
theorem r_neLL {a b : Addr} {xs ys : List Int} (S : Sx D L H) (ha : Rds K D L a (xs.map V.int)) (hb : Rds K D L b (ys.map V.int)) (k : Q (.bl (!decide (xs = ys))) H) : rNeX K (.ref a) (.ref b) H Q :=
  .inr ⟨_, _, dpl S ha, dpl S hb, sh_lstI xs, sh_lstI ys, by rw [eqv_lstI]; exact k⟩
/-! isinstance -/
theorem isi {x : V} {t n : String} {b : Bool} (ht : TyX K H x (.type t)) (h : kitB t n = some b) (k : Q (.bl b) H) : rIsi K [x, .ty n] H Q := ⟨x, .ty n, .type t, .type n, b, rfl, .ty n, ht, kit_ty h, k⟩
theorem isi_int {i : Int} {n : String} {b : Bool} (h : kitB "int" n = some b) (k : Q (.bl b) H) : rIsi K [.int i, .ty n] H Q := isi (.base (.int i)) h k
theorem isi_bl {c : Bool} {n : String} {b : Bool} (h : kitB "bool" n = some b) (k : Q (.bl b) H) : rIsi K [.bl c, .ty n] H Q := isi (.base (.bl c)) h k
theorem isi_non {n : String} {b : Bool} (h : kitB "NoneType" n = some b) (k : Q (.bl b) H) : rIsi K [.non, .ty n] H Q := isi (.base .non) h k
theorem isi_str {z : Str} {n : String} {b : Bool} (h : kitB "str" n = some b) (k : Q (.bl b) H) : rIsi K [.str z, .ty n] H Q := isi (.base (.str z)) h k
theorem isi_tup {a : Addr} {xs : List V} {n : String} {b : Bool} (S : Sx D L H) (ha : D a = some (.tup xs)) (h : kitB "tuple" n = some b) (k : Q (.bl b) H) : rIsi K [.ref a, .ty n] H Q := isi (.base (.tup (S.dH _ _ ha))) h k
theorem isi_lst {a : Addr} {xs : List V} {n : String} {b : Bool} (S : Sx D L H) (ha : Rdl D L a xs) (h : kitB "list" n = some b) (k : Q (.bl b) H) : rIsi K [.ref a, .ty n] H Q := isi (.base (.lst (ha.at S))) h k
/-! an item at a place that is not written -/
theorem atI_get {ns : List Int} {i : Int} (h0 : 0 ≤ i) (h1 : i < ns.length) : ∃ z ∈ ns, atI (ns.map V.int) i = some (.int z) := by
  have hi : i.toNat < ns.length := by omega
  exact ⟨ns[i.toNat], List.getElem_mem hi, atN h0 (mapI (List.getElem?_eq_getElem hi))⟩
theorem all_ids {n : Nat} : (List.replicate n true).all id = true := by
  induction n with
  | zero => rfl
  | succ n ih => rw [List.replicate_succ, List.all_cons, ih]; rfl
theorem map_reps {n : Nat} : (List.replicate n true).map V.bl = List.replicate n (V.bl true) := by rw [List.map_replicate]
theorem c_allT {a : Addr} {n : Nat} (S : Sx D L H) (ha : Rds K D L a (List.replicate n (V.bl true))) (k : Q (.bl true) H) : rAll K [.ref a] H Q :=
  c_all (bs := List.replicate n true) S (by rw [map_reps]; exact ha) (by rw [all_ids]; exact k)
end
section
variable {D H : Hp} {L : Own} {Q : VK} {K : PySem.W.Frag}
theorem isi_int_int {i : Int} (k : Q (.bl true) H) : rIsi K [.int i, .ty "int"] H Q := isi_int (by decide +kernel) k
theorem isi_int_bool {i : Int} (k : Q (.bl false) H) : rIsi K [.int i, .ty "bool"] H Q := isi_int (by decide +kernel) k
theorem isi_int_str {i : Int} (k : Q (.bl false) H) : rIsi K [.int i, .ty "str"] H Q := isi_int (by decide +kernel) k
theorem isi_int_list {i : Int} (k : Q (.bl false) H) : rIsi K [.int i, .ty "list"] H Q := isi_int (by decide +kernel) k
theorem isi_int_tuple {i : Int} (k : Q (.bl false) H) : rIsi K [.int i, .ty "tuple"] H Q := isi_int (by decide +kernel) k
theorem isi_int_dict {i : Int} (k : Q (.bl false) H) : rIsi K [.int i, .ty "dict"] H Q := isi_int (by decide +kernel) k
theorem isi_bl_int {c : Bool} (k : Q (.bl true) H) : rIsi K [.bl c, .ty "int"] H Q := isi_bl (by decide +kernel) k
theorem isi_bl_bool {c : Bool} (k : Q (.bl true) H) : rIsi K [.bl c, .ty "bool"] H Q := isi_bl (by decide +kernel) k
theorem isi_bl_str {c : Bool} (k : Q (.bl false) H) : rIsi K [.bl c, .ty "str"] H Q := isi_bl (by decide +kernel) k
theorem isi_bl_list {c : Bool} (k : Q (.bl false) H) : rIsi K [.bl c, .ty "list"] H Q := isi_bl (by decide +kernel) k
theorem isi_bl_tuple {c : Bool} (k : Q (.bl false) H) : rIsi K [.bl c, .ty "tuple"] H Q := isi_bl (by decide +kernel) k
theorem isi_bl_dict {c : Bool} (k : Q (.bl false) H) : rIsi K [.bl c, .ty "dict"] H Q := isi_bl (by decide +kernel) k
theorem isi_non_int  (k : Q (.bl false) H) : rIsi K [.non, .ty "int"] H Q := isi_non (by decide +kernel) k
theorem isi_non_bool  (k : Q (.bl false) H) : rIsi K [.non, .ty "bool"] H Q := isi_non (by decide +kernel) k
theorem isi_non_str  (k : Q (.bl false) H) : rIsi K [.non, .ty "str"] H Q := isi_non (by decide +kernel) k
theorem isi_non_list  (k : Q (.bl false) H) : rIsi K [.non, .ty "list"] H Q := isi_non (by decide +kernel) k
theorem isi_non_tuple  (k : Q (.bl false) H) : rIsi K [.non, .ty "tuple"] H Q := isi_non (by decide +kernel) k
theorem isi_non_dict  (k : Q (.bl false) H) : rIsi K [.non, .ty "dict"] H Q := isi_non (by decide +kernel) k
theorem isi_str_int {z : Str} (k : Q (.bl false) H) : rIsi K [.str z, .ty "int"] H Q := isi_str (by decide +kernel) k
theorem isi_str_bool {z : Str} (k : Q (.bl false) H) : rIsi K [.str z, .ty "bool"] H Q := isi_str (by decide +kernel) k
theorem isi_str_str {z : Str} (k : Q (.bl true) H) : rIsi K [.str z, .ty "str"] H Q := isi_str (by decide +kernel) k
theorem isi_str_list {z : Str} (k : Q (.bl false) H) : rIsi K [.str z, .ty "list"] H Q := isi_str (by decide +kernel) k
theorem isi_str_tuple {z : Str} (k : Q (.bl false) H) : rIsi K [.str z, .ty "tuple"] H Q := isi_str (by decide +kernel) k
theorem isi_str_dict {z : Str} (k : Q (.bl false) H) : rIsi K [.str z, .ty "dict"] H Q := isi_str (by decide +kernel) k
theorem isi_tup_int {a : Addr} {xs : List V} (S : Sx D L H) (ha : D a = some (.tup xs)) (k : Q (.bl false) H) : rIsi K [.ref a, .ty "int"] H Q := isi_tup S ha (by decide +kernel) k
theorem isi_tup_bool {a : Addr} {xs : List V} (S : Sx D L H) (ha : D a = some (.tup xs)) (k : Q (.bl false) H) : rIsi K [.ref a, .ty "bool"] H Q := isi_tup S ha (by decide +kernel) k
theorem isi_tup_str {a : Addr} {xs : List V} (S : Sx D L H) (ha : D a = some (.tup xs)) (k : Q (.bl false) H) : rIsi K [.ref a, .ty "str"] H Q := isi_tup S ha (by decide +kernel) k
theorem isi_tup_list {a : Addr} {xs : List V} (S : Sx D L H) (ha : D a = some (.tup xs)) (k : Q (.bl false) H) : rIsi K [.ref a, .ty "list"] H Q := isi_tup S ha (by decide +kernel) k
theorem isi_tup_tuple {a : Addr} {xs : List V} (S : Sx D L H) (ha : D a = some (.tup xs)) (k : Q (.bl true) H) : rIsi K [.ref a, .ty "tuple"] H Q := isi_tup S ha (by decide +kernel) k
theorem isi_tup_dict {a : Addr} {xs : List V} (S : Sx D L H) (ha : D a = some (.tup xs)) (k : Q (.bl false) H) : rIsi K [.ref a, .ty "dict"] H Q := isi_tup S ha (by decide +kernel) k
theorem isi_lst_int {a : Addr} {xs : List V} (S : Sx D L H) (ha : Rdl D L a xs) (k : Q (.bl false) H) : rIsi K [.ref a, .ty "int"] H Q := isi_lst S ha (by decide +kernel) k
theorem isi_lst_bool {a : Addr} {xs : List V} (S : Sx D L H) (ha : Rdl D L a xs) (k : Q (.bl false) H) : rIsi K [.ref a, .ty "bool"] H Q := isi_lst S ha (by decide +kernel) k
theorem isi_lst_str {a : Addr} {xs : List V} (S : Sx D L H) (ha : Rdl D L a xs) (k : Q (.bl false) H) : rIsi K [.ref a, .ty "str"] H Q := isi_lst S ha (by decide +kernel) k
theorem isi_lst_list {a : Addr} {xs : List V} (S : Sx D L H) (ha : Rdl D L a xs) (k : Q (.bl true) H) : rIsi K [.ref a, .ty "list"] H Q := isi_lst S ha (by decide +kernel) k
theorem isi_lst_tuple {a : Addr} {xs : List V} (S : Sx D L H) (ha : Rdl D L a xs) (k : Q (.bl false) H) : rIsi K [.ref a, .ty "tuple"] H Q := isi_lst S ha (by decide +kernel) k
theorem isi_lst_dict {a : Addr} {xs : List V} (S : Sx D L H) (ha : Rdl D L a xs) (k : Q (.bl false) H) : rIsi K [.ref a, .ty "dict"] H Q := isi_lst S ha (by decide +kernel) k
end
/-! lists by their length -/
theorem len1 {α : Type} {r : List α} (h : r.length = 1) : ∃ x0, r = [x0] := match r, h with
  | [x0], _ => ⟨x0, rfl⟩
theorem len2 {α : Type} {r : List α} (h : r.length = 2) : ∃ x0 x1, r = [x0, x1] := match r, h with
  | [x0, x1], _ => ⟨x0, x1, rfl⟩
theorem len3 {α : Type} {r : List α} (h : r.length = 3) : ∃ x0 x1 x2, r = [x0, x1, x2] := match r, h with
  | [x0, x1, x2], _ => ⟨x0, x1, x2, rfl⟩
theorem len4 {α : Type} {r : List α} (h : r.length = 4) : ∃ x0 x1 x2 x3, r = [x0, x1, x2, x3] := match r, h with
  | [x0, x1, x2, x3], _ => ⟨x0, x1, x2, x3, rfl⟩
theorem len5 {α : Type} {r : List α} (h : r.length = 5) : ∃ x0 x1 x2 x3 x4, r = [x0, x1, x2, x3, x4] := match r, h with
  | [x0, x1, x2, x3, x4], _ => ⟨x0, x1, x2, x3, x4, rfl⟩
theorem len6 {α : Type} {r : List α} (h : r.length = 6) : ∃ x0 x1 x2 x3 x4 x5, r = [x0, x1, x2, x3, x4, x5] := match r, h with
  | [x0, x1, x2, x3, x4, x5], _ => ⟨x0, x1, x2, x3, x4, x5, rfl⟩
theorem len7 {α : Type} {r : List α} (h : r.length = 7) : ∃ x0 x1 x2 x3 x4 x5 x6, r = [x0, x1, x2, x3, x4, x5, x6] := match r, h with
  | [x0, x1, x2, x3, x4, x5, x6], _ => ⟨x0, x1, x2, x3, x4, x5, x6, rfl⟩
theorem len8 {α : Type} {r : List α} (h : r.length = 8) : ∃ x0 x1 x2 x3 x4 x5 x6 x7, r = [x0, x1, x2, x3, x4, x5, x6, x7] := match r, h with
  | [x0, x1, x2, x3, x4, x5, x6, x7], _ => ⟨x0, x1, x2, x3, x4, x5, x6, x7, rfl⟩
theorem len9 {α : Type} {r : List α} (h : r.length = 9) : ∃ x0 x1 x2 x3 x4 x5 x6 x7 x8, r = [x0, x1, x2, x3, x4, x5, x6, x7, x8] := match r, h with
  | [x0, x1, x2, x3, x4, x5, x6, x7, x8], _ => ⟨x0, x1, x2, x3, x4, x5, x6, x7, x8, rfl⟩
theorem len10 {α : Type} {r : List α} (h : r.length = 10) : ∃ x0 x1 x2 x3 x4 x5 x6 x7 x8 x9, r = [x0, x1, x2, x3, x4, x5, x6, x7, x8, x9] := match r, h with
  | [x0, x1, x2, x3, x4, x5, x6, x7, x8, x9], _ => ⟨x0, x1, x2, x3, x4, x5, x6, x7, x8, x9, rfl⟩
theorem len11 {α : Type} {r : List α} (h : r.length = 11) : ∃ x0 x1 x2 x3 x4 x5 x6 x7 x8 x9 x10, r = [x0, x1, x2, x3, x4, x5, x6, x7, x8, x9, x10] := match r, h with
  | [x0, x1, x2, x3, x4, x5, x6, x7, x8, x9, x10], _ => ⟨x0, x1, x2, x3, x4, x5, x6, x7, x8, x9, x10, rfl⟩
theorem len12 {α : Type} {r : List α} (h : r.length = 12) : ∃ x0 x1 x2 x3 x4 x5 x6 x7 x8 x9 x10 x11, r = [x0, x1, x2, x3, x4, x5, x6, x7, x8, x9, x10, x11] := match r, h with
  | [x0, x1, x2, x3, x4, x5, x6, x7, x8, x9, x10, x11], _ => ⟨x0, x1, x2, x3, x4, x5, x6, x7, x8, x9, x10, x11, rfl⟩
theorem len13 {α : Type} {r : List α} (h : r.length = 13) : ∃ x0 x1 x2 x3 x4 x5 x6 x7 x8 x9 x10 x11 x12, r = [x0, x1, x2, x3, x4, x5, x6, x7, x8, x9, x10, x11, x12] := match r, h with
  | [x0, x1, x2, x3, x4, x5, x6, x7, x8, x9, x10, x11, x12], _ => ⟨x0, x1, x2, x3, x4, x5, x6, x7, x8, x9, x10, x11, x12, rfl⟩
theorem len14 {α : Type} {r : List α} (h : r.length = 14) : ∃ x0 x1 x2 x3 x4 x5 x6 x7 x8 x9 x10 x11 x12 x13, r = [x0, x1, x2, x3, x4, x5, x6, x7, x8, x9, x10, x11, x12, x13] := match r, h with
  | [x0, x1, x2, x3, x4, x5, x6, x7, x8, x9, x10, x11, x12, x13], _ => ⟨x0, x1, x2, x3, x4, x5, x6, x7, x8, x9, x10, x11, x12, x13, rfl⟩
theorem len15 {α : Type} {r : List α} (h : r.length = 15) : ∃ x0 x1 x2 x3 x4 x5 x6 x7 x8 x9 x10 x11 x12 x13 x14, r = [x0, x1, x2, x3, x4, x5, x6, x7, x8, x9, x10, x11, x12, x13, x14] := match r, h with
  | [x0, x1, x2, x3, x4, x5, x6, x7, x8, x9, x10, x11, x12, x13, x14], _ => ⟨x0, x1, x2, x3, x4, x5, x6, x7, x8, x9, x10, x11, x12, x13, x14, rfl⟩
theorem len16 {α : Type} {r : List α} (h : r.length = 16) : ∃ x0 x1 x2 x3 x4 x5 x6 x7 x8 x9 x10 x11 x12 x13 x14 x15, r = [x0, x1, x2, x3, x4, x5, x6, x7, x8, x9, x10, x11, x12, x13, x14, x15] := match r, h with
  | [x0, x1, x2, x3, x4, x5, x6, x7, x8, x9, x10, x11, x12, x13, x14, x15], _ => ⟨x0, x1, x2, x3, x4, x5, x6, x7, x8, x9, x10, x11, x12, x13, x14, x15, rfl⟩
theorem len17 {α : Type} {r : List α} (h : r.length = 17) : ∃ x0 x1 x2 x3 x4 x5 x6 x7 x8 x9 x10 x11 x12 x13 x14 x15 x16, r = [x0, x1, x2, x3, x4, x5, x6, x7, x8, x9, x10, x11, x12, x13, x14, x15, x16] := match r, h with
  | [x0, x1, x2, x3, x4, x5, x6, x7, x8, x9, x10, x11, x12, x13, x14, x15, x16], _ => ⟨x0, x1, x2, x3, x4, x5, x6, x7, x8, x9, x10, x11, x12, x13, x14, x15, x16, rfl⟩
theorem len18 {α : Type} {r : List α} (h : r.length = 18) : ∃ x0 x1 x2 x3 x4 x5 x6 x7 x8 x9 x10 x11 x12 x13 x14 x15 x16 x17, r = [x0, x1, x2, x3, x4, x5, x6, x7, x8, x9, x10, x11, x12, x13, x14, x15, x16, x17] := match r, h with
  | [x0, x1, x2, x3, x4, x5, x6, x7, x8, x9, x10, x11, x12, x13, x14, x15, x16, x17], _ => ⟨x0, x1, x2, x3, x4, x5, x6, x7, x8, x9, x10, x11, x12, x13, x14, x15, x16, x17, rfl⟩
theorem len19 {α : Type} {r : List α} (h : r.length = 19) : ∃ x0 x1 x2 x3 x4 x5 x6 x7 x8 x9 x10 x11 x12 x13 x14 x15 x16 x17 x18, r = [x0, x1, x2, x3, x4, x5, x6, x7, x8, x9, x10, x11, x12, x13, x14, x15, x16, x17, x18] := match r, h with
  | [x0, x1, x2, x3, x4, x5, x6, x7, x8, x9, x10, x11, x12, x13, x14, x15, x16, x17, x18], _ => ⟨x0, x1, x2, x3, x4, x5, x6, x7, x8, x9, x10, x11, x12, x13, x14, x15, x16, x17, x18, rfl⟩
theorem len20 {α : Type} {r : List α} (h : r.length = 20) : ∃ x0 x1 x2 x3 x4 x5 x6 x7 x8 x9 x10 x11 x12 x13 x14 x15 x16 x17 x18 x19, r = [x0, x1, x2, x3, x4, x5, x6, x7, x8, x9, x10, x11, x12, x13, x14, x15, x16, x17, x18, x19] := match r, h with
  | [x0, x1, x2, x3, x4, x5, x6, x7, x8, x9, x10, x11, x12, x13, x14, x15, x16, x17, x18, x19], _ => ⟨x0, x1, x2, x3, x4, x5, x6, x7, x8, x9, x10, x11, x12, x13, x14, x15, x16, x17, x18, x19, rfl⟩
theorem len21 {α : Type} {r : List α} (h : r.length = 21) : ∃ x0 x1 x2 x3 x4 x5 x6 x7 x8 x9 x10 x11 x12 x13 x14 x15 x16 x17 x18 x19 x20, r = [x0, x1, x2, x3, x4, x5, x6, x7, x8, x9, x10, x11, x12, x13, x14, x15, x16, x17, x18, x19, x20] := match r, h with
  | [x0, x1, x2, x3, x4, x5, x6, x7, x8, x9, x10, x11, x12, x13, x14, x15, x16, x17, x18, x19, x20], _ => ⟨x0, x1, x2, x3, x4, x5, x6, x7, x8, x9, x10, x11, x12, x13, x14, x15, x16, x17, x18, x19, x20, rfl⟩
theorem len22 {α : Type} {r : List α} (h : r.length = 22) : ∃ x0 x1 x2 x3 x4 x5 x6 x7 x8 x9 x10 x11 x12 x13 x14 x15 x16 x17 x18 x19 x20 x21, r = [x0, x1, x2, x3, x4, x5, x6, x7, x8, x9, x10, x11, x12, x13, x14, x15, x16, x17, x18, x19, x20, x21] := match r, h with
  | [x0, x1, x2, x3, x4, x5, x6, x7, x8, x9, x10, x11, x12, x13, x14, x15, x16, x17, x18, x19, x20, x21], _ => ⟨x0, x1, x2, x3, x4, x5, x6, x7, x8, x9, x10, x11, x12, x13, x14, x15, x16, x17, x18, x19, x20, x21, rfl⟩
theorem len23 {α : Type} {r : List α} (h : r.length = 23) : ∃ x0 x1 x2 x3 x4 x5 x6 x7 x8 x9 x10 x11 x12 x13 x14 x15 x16 x17 x18 x19 x20 x21 x22, r = [x0, x1, x2, x3, x4, x5, x6, x7, x8, x9, x10, x11, x12, x13, x14, x15, x16, x17, x18, x19, x20, x21, x22] := match r, h with
  | [x0, x1, x2, x3, x4, x5, x6, x7, x8, x9, x10, x11, x12, x13, x14, x15, x16, x17, x18, x19, x20, x21, x22], _ => ⟨x0, x1, x2, x3, x4, x5, x6, x7, x8, x9, x10, x11, x12, x13, x14, x15, x16, x17, x18, x19, x20, x21, x22, rfl⟩
theorem len24 {α : Type} {r : List α} (h : r.length = 24) : ∃ x0 x1 x2 x3 x4 x5 x6 x7 x8 x9 x10 x11 x12 x13 x14 x15 x16 x17 x18 x19 x20 x21 x22 x23, r = [x0, x1, x2, x3, x4, x5, x6, x7, x8, x9, x10, x11, x12, x13, x14, x15, x16, x17, x18, x19, x20, x21, x22, x23] := match r, h with
  | [x0, x1, x2, x3, x4, x5, x6, x7, x8, x9, x10, x11, x12, x13, x14, x15, x16, x17, x18, x19, x20, x21, x22, x23], _ => ⟨x0, x1, x2, x3, x4, x5, x6, x7, x8, x9, x10, x11, x12, x13, x14, x15, x16, x17, x18, x19, x20, x21, x22, x23, rfl⟩
theorem len25 {α : Type} {r : List α} (h : r.length = 25) : ∃ x0 x1 x2 x3 x4 x5 x6 x7 x8 x9 x10 x11 x12 x13 x14 x15 x16 x17 x18 x19 x20 x21 x22 x23 x24, r = [x0, x1, x2, x3, x4, x5, x6, x7, x8, x9, x10, x11, x12, x13, x14, x15, x16, x17, x18, x19, x20, x21, x22, x23, x24] := match r, h with
  | [x0, x1, x2, x3, x4, x5, x6, x7, x8, x9, x10, x11, x12, x13, x14, x15, x16, x17, x18, x19, x20, x21, x22, x23, x24], _ => ⟨x0, x1, x2, x3, x4, x5, x6, x7, x8, x9, x10, x11, x12, x13, x14, x15, x16, x17, x18, x19, x20, x21, x22, x23, x24, rfl⟩
theorem len26 {α : Type} {r : List α} (h : r.length = 26) : ∃ x0 x1 x2 x3 x4 x5 x6 x7 x8 x9 x10 x11 x12 x13 x14 x15 x16 x17 x18 x19 x20 x21 x22 x23 x24 x25, r = [x0, x1, x2, x3, x4, x5, x6, x7, x8, x9, x10, x11, x12, x13, x14, x15, x16, x17, x18, x19, x20, x21, x22, x23, x24, x25] := match r, h with
  | [x0, x1, x2, x3, x4, x5, x6, x7, x8, x9, x10, x11, x12, x13, x14, x15, x16, x17, x18, x19, x20, x21, x22, x23, x24, x25], _ => ⟨x0, x1, x2, x3, x4, x5, x6, x7, x8, x9, x10, x11, x12, x13, x14, x15, x16, x17, x18, x19, x20, x21, x22, x23, x24, x25, rfl⟩
theorem len27 {α : Type} {r : List α} (h : r.length = 27) : ∃ x0 x1 x2 x3 x4 x5 x6 x7 x8 x9 x10 x11 x12 x13 x14 x15 x16 x17 x18 x19 x20 x21 x22 x23 x24 x25 x26, r = [x0, x1, x2, x3, x4, x5, x6, x7, x8, x9, x10, x11, x12, x13, x14, x15, x16, x17, x18, x19, x20, x21, x22, x23, x24, x25, x26] := match r, h with
  | [x0, x1, x2, x3, x4, x5, x6, x7, x8, x9, x10, x11, x12, x13, x14, x15, x16, x17, x18, x19, x20, x21, x22, x23, x24, x25, x26], _ => ⟨x0, x1, x2, x3, x4, x5, x6, x7, x8, x9, x10, x11, x12, x13, x14, x15, x16, x17, x18, x19, x20, x21, x22, x23, x24, x25, x26, rfl⟩
theorem len28 {α : Type} {r : List α} (h : r.length = 28) : ∃ x0 x1 x2 x3 x4 x5 x6 x7 x8 x9 x10 x11 x12 x13 x14 x15 x16 x17 x18 x19 x20 x21 x22 x23 x24 x25 x26 x27, r = [x0, x1, x2, x3, x4, x5, x6, x7, x8, x9, x10, x11, x12, x13, x14, x15, x16, x17, x18, x19, x20, x21, x22, x23, x24, x25, x26, x27] := match r, h with
  | [x0, x1, x2, x3, x4, x5, x6, x7, x8, x9, x10, x11, x12, x13, x14, x15, x16, x17, x18, x19, x20, x21, x22, x23, x24, x25, x26, x27], _ => ⟨x0, x1, x2, x3, x4, x5, x6, x7, x8, x9, x10, x11, x12, x13, x14, x15, x16, x17, x18, x19, x20, x21, x22, x23, x24, x25, x26, x27, rfl⟩
theorem len29 {α : Type} {r : List α} (h : r.length = 29) : ∃ x0 x1 x2 x3 x4 x5 x6 x7 x8 x9 x10 x11 x12 x13 x14 x15 x16 x17 x18 x19 x20 x21 x22 x23 x24 x25 x26 x27 x28, r = [x0, x1, x2, x3, x4, x5, x6, x7, x8, x9, x10, x11, x12, x13, x14, x15, x16, x17, x18, x19, x20, x21, x22, x23, x24, x25, x26, x27, x28] := match r, h with
  | [x0, x1, x2, x3, x4, x5, x6, x7, x8, x9, x10, x11, x12, x13, x14, x15, x16, x17, x18, x19, x20, x21, x22, x23, x24, x25, x26, x27, x28], _ => ⟨x0, x1, x2, x3, x4, x5, x6, x7, x8, x9, x10, x11, x12, x13, x14, x15, x16, x17, x18, x19, x20, x21, x22, x23, x24, x25, x26, x27, x28, rfl⟩
theorem len30 {α : Type} {r : List α} (h : r.length = 30) : ∃ x0 x1 x2 x3 x4 x5 x6 x7 x8 x9 x10 x11 x12 x13 x14 x15 x16 x17 x18 x19 x20 x21 x22 x23 x24 x25 x26 x27 x28 x29, r = [x0, x1, x2, x3, x4, x5, x6, x7, x8, x9, x10, x11, x12, x13, x14, x15, x16, x17, x18, x19, x20, x21, x22, x23, x24, x25, x26, x27, x28, x29] := match r, h with
  | [x0, x1, x2, x3, x4, x5, x6, x7, x8, x9, x10, x11, x12, x13, x14, x15, x16, x17, x18, x19, x20, x21, x22, x23, x24, x25, x26, x27, x28, x29], _ => ⟨x0, x1, x2, x3, x4, x5, x6, x7, x8, x9, x10, x11, x12, x13, x14, x15, x16, x17, x18, x19, x20, x21, x22, x23, x24, x25, x26, x27, x28, x29, rfl⟩
theorem Sx.start (H : Hp) : Sx H [] H := ⟨Same.refl H, fun _ h => (by cases h), List.nodup_nil⟩
/-- one shape of ten slots -/
theorem slots {σ : L2.St} {x : Option V} {n : Nat} (h : σ.length = n + 1) (h0 : σ[0]? = some x) : ∃ r : List (Option V), r.length = n ∧ σ = x :: r := by
  cases σ with
  | nil => simp at h
  | cons y r =>
    simp at h h0
    exact ⟨r, h, by rw [h0]⟩
end Fk

namespace Fk
open PySem PySem.Spec PyProof.Rows L2
/-! ## one step, found by its head -/
class VC (g : Prop) (s : outParam Prop) : Prop where
  pf : s → g
class MpC (vs : List (Str × Nat)) (ns : outParam (List Nat)) : Prop where
  pf : vs.map (·.2) = ns
instance mp0 : MpC [] [] := ⟨rfl⟩
instance mpS {x : Str} {n : Nat} {vs : List (Str × Nat)} {ns : List Nat} [h : MpC vs ns] : MpC ((x, n) :: vs) (n :: ns) := ⟨by rw [List.map_cons, h.pf]⟩
class Nth (σ : L2.St) (i : Nat) (v : outParam V) : Prop where
  pf : σ[i]? = some (some v)
instance nth0 {v : V} {σ : L2.St} : Nth (some v :: σ) 0 v := ⟨rfl⟩
instance nthS {v : V} {x : Option V} {σ : L2.St} {i : Nat} [h : Nth σ i v] : Nth (x :: σ) (i + 1) v := ⟨by simpa using h.pf⟩
section
variable {σ σ' : L2.St} {D D' H : Hp} {L : Own} {Q : VK} {K : PySem.W.Frag} {E : Ends} {nx bk ct : L2.St → Hp → Prop} {rt : VK} {t u : TS} {te ta tb tc : TE} {tu tv : TT} {v : V} {q : Bool → Hp → Prop}
instance v_seq : VC (tSeq t u ⟨nx, rt, bk, ct⟩ σ H) (t ⟨u ⟨nx, rt, bk, ct⟩, rt, bk, ct⟩ σ H) := ⟨fun h => h⟩
instance v_next : VC (tNext ⟨nx, rt, bk, ct⟩ σ H) (nx σ H) := ⟨fun h => h⟩
instance v_brk : VC (tBreak ⟨nx, rt, bk, ct⟩ σ H) (bk σ H) := ⟨fun h => h⟩
instance v_asg {g : TG} : VC (tAsg te g ⟨nx, rt, bk, ct⟩ σ H) (te σ H fun x H1 => g x σ H1 nx) := ⟨fun h => h⟩
instance v_drop : VC (tDrop te ⟨nx, rt, bk, ct⟩ σ H) (te σ H fun _ H1 => nx σ H1) := ⟨fun h => h⟩
instance v_ret : VC (tRet te ⟨nx, rt, bk, ct⟩ σ H) (te σ H rt) := ⟨fun h => h⟩
instance v_retN : VC (tRetN ⟨nx, rt, bk, ct⟩ σ H) (rt .non H) := ⟨fun h => h⟩
instance v_if : VC (tIfS tu t u E σ H) (tu σ H fun b H1 => if b = true then t E σ H1 else u E σ H1) := ⟨fun h => h⟩
instance v_for {wi : TI} {g : TG} : VC (tFor wi g t E σ H) (wi σ H fun J H1 => tForJ J g t E σ H1) := ⟨fun h => h⟩
instance v_var {i : Nat} [h : Nth σ i v] : VC (tVar i σ H Q) (Q v H) := ⟨fun k => ⟨v, h.pf, k⟩⟩
instance v_c : VC (tC v σ H Q) (Q v H) := ⟨fun h => h⟩
instance v_op {r : R2} : VC (tOp r ta tb σ H Q) (ta σ H fun x H1 => tb σ H1 fun y H2 => r x y H2 Q) := ⟨fun h => h⟩
instance v_un {r : V → Hp → VK → Prop} : VC (tUn r ta σ H Q) (ta σ H fun x H1 => r x H1 Q) := ⟨fun h => h⟩
instance v_ife : VC (tIf tu ta tb σ H Q) (tu σ H fun b H1 => if b = true then ta σ H1 Q else tb σ H1 Q) := ⟨fun h => h⟩
instance v_nil {p : List V → Hp → Prop} : VC (tNil σ H p) (p [] H) := ⟨fun h => h⟩
instance v_cons {tr : TA} {p : List V → Hp → Prop} : VC (tCons ta tr σ H p) (ta σ H fun x H1 => tr σ H1 fun xs H2 => p (x :: xs) H2) := ⟨fun h => h⟩
instance v_cb {r : List V → Hp → VK → Prop} {tr : TA} : VC (tCB r tr σ H Q) (tr σ H fun vs H1 => r vs H1 Q) := ⟨fun h => h⟩
instance v_ckw {r : List V → List V → Hp → VK → Prop} {tr tk : TA} : VC (tCKw r tr tk σ H Q) (tr σ H fun vs H1 => tk σ H1 fun zs H2 => r vs zs H2 Q) := ⟨fun h => h⟩
instance v_call {sp : Sp} {Ex : XK} {tr : TA} : VC (tCall sp [] Ex tr σ H Q) (tr σ H fun vs H1 => sp vs H1 Q Ex) := ⟨fun h => by
  have e : (fun vs H1 => sp (vs ++ []) H1 Q Ex) = fun vs H1 => sp vs H1 Q Ex := by
    funext vs H1
    rw [List.append_nil]
  show tr σ H fun vs H1 => sp (vs ++ []) H1 Q Ex
  rw [e]
  exact h⟩
instance v_tup {tr : TA} : VC (tTup tr σ H Q) (tr σ H fun xs H1 => NwT xs H1 Q) := ⟨fun h => h⟩
instance v_lst {tr : TA} : VC (tLst tr σ H Q) (tr σ H fun xs H1 => NwL xs H1 Q) := ⟨fun h => h⟩
instance v_sl {r : V → Option Int → Option Int → Hp → VK → Prop} {tl th : L2.St → Hp → (Option Int → Hp → Prop) → Prop} : VC (tSl r te tl th σ H Q) (te σ H fun x H1 => tl σ H1 fun lo H2 => th σ H2 fun hi H3 => r x lo hi H3 Q) := ⟨fun h => h⟩
instance v_pt0 {p : Option Int → Hp → Prop} : VC (tNoPart σ H p) (p none H) := ⟨fun h => h⟩
instance v_pt {p : Option Int → Hp → Prop} : VC (tPart te σ H p) (te σ H fun x H1 => IsI x H1 fun i H2 => p (some i) H2) := ⟨fun h => h⟩
instance v_isint {i : Int} {p : Int → Hp → Prop} : VC (IsI (.int i) H p) (p i H) := ⟨fun h => ⟨i, rfl, h⟩⟩
instance v_isbl {b : Bool} : VC (IsB (.bl b) H q) (q b H) := ⟨fun h => ⟨b, rfl, h⟩⟩
instance v_bm {T : String} {r : V → List V → Hp → VK → Prop} {tr : TA} : VC (tBM K T r te tr σ H Q) (te σ H fun x H1 => tyV K T x H1 ∧ tr σ H1 fun xs H2 => r x xs H2 Q) := ⟨fun h => h⟩
instance v_bm0 {T : String} {r : V → List V → Hp → VK → Prop} : VC (tBM0 K T r te σ H Q) (te σ H fun x H1 => tyV K T x H1 ∧ r x [] H1 Q) := ⟨fun h => h⟩
instance v_test : VC (tTest te σ H q) (te σ H fun x H' => IsB x H' q) := ⟨fun h => h⟩
instance v_b : VC (tB te σ H q) (te σ H fun x H' => IsB x H' q) := ⟨fun h => h⟩
instance v_and : VC (tAnd tu tv σ H q) (tu σ H fun c H1 => if c = true then tv σ H1 q else q false H1) := ⟨fun h => h⟩
instance v_or : VC (tOr tu tv σ H q) (tu σ H fun c H1 => if c = true then q true H1 else tv σ H1 q) := ⟨fun h => h⟩
instance v_not : VC (tNot tu σ H q) (tu σ H fun c H1 => q (!c) H1) := ⟨fun h => h⟩
instance v_notT : VC (tNotT K ta σ H Q) (ta σ H fun x H1 => Tru K x H1 fun k H2 => Q (.bl (!k)) H2) := ⟨fun h => h⟩
instance v_andV : VC (tAndV ta tb σ H Q) (ta σ H fun x H1 => IsB x H1 fun c H2 => if c = true then tb σ H2 Q else Q (.bl false) H2) := ⟨fun h => h⟩
instance v_orV : VC (tOrV ta tb σ H Q) (ta σ H fun x H1 => IsB x H1 fun c H2 => if c = true then Q (.bl true) H2 else tb σ H2 Q) := ⟨fun h => h⟩
instance v_notV : VC (tNotV ta σ H Q) (ta σ H fun x H1 => IsB x H1 fun c H2 => Q (.bl (!c)) H2) := ⟨fun h => h⟩
instance v_chain {r r' : R2} : VC (tChain r r' ta tb tc σ H Q) (ta σ H fun x H1 => tb σ H1 fun y H2 => r x y H2 fun z H3 => IsB z H3 fun k H4 => if k = true then tc σ H4 fun w' H5 => r' y w' H5 Q else Q (.bl false) H4) := ⟨fun h => h⟩
instance v_trubl {b : Bool} : VC (Tru K (.bl b) H q) (q b H) := ⟨fun h => ⟨b, rfl, h⟩⟩
instance v_truint {i : Int} : VC (Tru K (.int i) H q) (q (i != 0) H) := ⟨fun h => ⟨_, rfl, h⟩⟩
instance v_trunon : VC (Tru K .non H q) (q false H) := ⟨fun h => ⟨_, rfl, h⟩⟩
instance v_yes : VC (tYes σ H q) (q true H) := ⟨fun h => h⟩
instance v_ift {A B : Prop} {i : Decidable (true = true)} : VC (@ite Prop (true = true) i A B) A := ⟨fun h => by rw [if_pos rfl]; exact h⟩
instance v_iff {A B : Prop} {i : Decidable (false = true)} : VC (@ite Prop (false = true) i A B) B := ⟨fun h => by rw [if_neg (fun z => nomatch z)]; exact h⟩
instance v_ifnt {A B : Prop} {i : Decidable ((!true) = true)} : VC (@ite Prop ((!true) = true) i A B) B := ⟨fun h => by rw [if_neg (fun z => nomatch z)]; exact h⟩
instance v_ifnf {A B : Prop} {i : Decidable ((!false) = true)} : VC (@ite Prop ((!false) = true) i A B) A := ⟨fun h => by rw [if_pos (show (!false) = true from rfl)]; exact h⟩
/-- a thing is itself -/
instance v_ifnr {α : Type} {a : α} [DecidableEq α] {A B : Prop} {i : Decidable ((!decide (a = a)) = true)} : VC (@ite Prop ((!decide (a = a)) = true) i A B) B := ⟨fun h => by rw [if_neg (by rw [decide_eq_true rfl]; exact fun z => nomatch z)]; exact h⟩
instance v_ifr {α : Type} {a : α} [DecidableEq α] {A B : Prop} {i : Decidable (decide (a = a) = true)} : VC (@ite Prop (decide (a = a) = true) i A B) A := ⟨fun h => by rw [if_pos (decide_eq_true rfl)]; exact h⟩
/-! values -/
instance v_i0 {g : Int → Int → V} {i j : Int} : VC (rI0 g (.int i) (.int j) H Q) (Q (g i j) H) := ⟨fun k => ⟨i, j, rfl, rfl, k⟩⟩
instance v_ri {C : Int → Int → Prop} {g : Int → Int → V} {i j : Int} : VC (rI C g (.int i) (.int j) H Q) (C i j ∧ Q (g i j) H) := ⟨fun k => ⟨i, j, rfl, rfl, k⟩⟩
instance v_pow_10_60 : VC (rI CPow (fun i j => .int (i ^ j.toNat)) (.int 10) (.int 60) H Q) (Q (.int 1000000000000000000000000000000000000000000000000000000000000) H) := ⟨fun k => ⟨10, 60, rfl, rfl, ⟨by decide, by decide, by decide⟩, k⟩⟩
instance v_pow_10_18 : VC (rI CPow (fun i j => .int (i ^ j.toNat)) (.int 10) (.int 18) H Q) (Q (.int 1000000000000000000) H) := ⟨fun k => ⟨10, 18, rfl, rfl, ⟨by decide, by decide, by decide⟩, k⟩⟩
instance v_pow_10_20 : VC (rI CPow (fun i j => .int (i ^ j.toNat)) (.int 10) (.int 20) H Q) (Q (.int 100000000000000000000) H) := ⟨fun k => ⟨10, 20, rfl, rfl, ⟨by decide, by decide, by decide⟩, k⟩⟩
instance v_pow_10_12 : VC (rI CPow (fun i j => .int (i ^ j.toNat)) (.int 10) (.int 12) H Q) (Q (.int 1000000000000) H) := ⟨fun k => ⟨10, 12, rfl, rfl, ⟨by decide, by decide, by decide⟩, k⟩⟩
instance v_pow_10_30 : VC (rI CPow (fun i j => .int (i ^ j.toNat)) (.int 10) (.int 30) H Q) (Q (.int 1000000000000000000000000000000) H) := ⟨fun k => ⟨10, 30, rfl, rfl, ⟨by decide, by decide, by decide⟩, k⟩⟩
instance v_pow_10_59 : VC (rI CPow (fun i j => .int (i ^ j.toNat)) (.int 10) (.int 59) H Q) (Q (.int 100000000000000000000000000000000000000000000000000000000000) H) := ⟨fun k => ⟨10, 59, rfl, rfl, ⟨by decide, by decide, by decide⟩, k⟩⟩
instance v_pow_10_10 : VC (rI CPow (fun i j => .int (i ^ j.toNat)) (.int 10) (.int 10) H Q) (Q (.int 10000000000) H) := ⟨fun k => ⟨10, 10, rfl, rfl, ⟨by decide, by decide, by decide⟩, k⟩⟩
instance v_pow_10_9 : VC (rI CPow (fun i j => .int (i ^ j.toNat)) (.int 10) (.int 9) H Q) (Q (.int 1000000000) H) := ⟨fun k => ⟨10, 9, rfl, rfl, ⟨by decide, by decide, by decide⟩, k⟩⟩
instance v_pow_10_6 : VC (rI CPow (fun i j => .int (i ^ j.toNat)) (.int 10) (.int 6) H Q) (Q (.int 1000000) H) := ⟨fun k => ⟨10, 6, rfl, rfl, ⟨by decide, by decide, by decide⟩, k⟩⟩
instance v_pow_2_31 : VC (rI CPow (fun i j => .int (i ^ j.toNat)) (.int 2) (.int 31) H Q) (Q (.int 2147483648) H) := ⟨fun k => ⟨2, 31, rfl, rfl, ⟨by decide, by decide, by decide⟩, k⟩⟩
instance v_u {g : Int → V} {i : Int} : VC (rU g (.int i) H Q) (Q (g i) H) := ⟨fun k => ⟨i, rfl, k⟩⟩
instance v_addI {i j : Int} : VC (rAddX K (.int i) (.int j) H Q) (Q (.int (i + j)) H) := ⟨r_addI⟩
def MulOk (i j : Int) : Prop := (-18446744073709551616 < i ∧ i < 18446744073709551616) ∨ (-18446744073709551616 < j ∧ j < 18446744073709551616) ∨ CMulW i j
instance v_mulI {i j : Int} : VC (rMulY K (.int i) (.int j) H Q) (MulOk i j ∧ Q (.int (i * j)) H) := ⟨fun ⟨c, k⟩ => by
  rcases c with c | c | c
  · exact r_mul (r_mulL c k)
  · exact r_mul (r_mulR c k)
  · exact r_mul (r_mulW c k)⟩
def DivOk (i j : Int) : Prop := (0 < j ∧ j < 1073741824) ∨ CDivW i j
instance v_divI {i j : Int} : VC (rDvX (.int i) (.int j) H Q) (DivOk i j ∧ Q (.int (i / j)) H) := ⟨fun ⟨c, k⟩ => by
  rcases c with c | c
  · exact r_div c k
  · exact r_divW c k⟩
instance v_eqI {i j : Int} : VC (rEqX K (.int i) (.int j) H Q) (Q (.bl (decide (i = j))) H) := ⟨r_eqI⟩
instance v_neI {i j : Int} : VC (rNeX K (.int i) (.int j) H Q) (Q (.bl (!decide (i = j))) H) := ⟨r_neI⟩
instance v_intI {i : Int} : VC (rInt1 [.int i] H Q) (Q (.int i) H) := ⟨c_intI⟩
instance v_intB {b : Bool} : VC (rInt1 [.bl b] H Q) (Q (.int (if b then 1 else 0)) H) := ⟨c_intB⟩
instance v_abs {i : Int} : VC (rAbs [.int i] H Q) (Q (.int (if i < 0 then -i else i)) H) := ⟨c_abs⟩
instance v_max2 {i j : Int} : VC (rMax2 [.int i, .int j] H Q) (Q (.int (max i j)) H) := ⟨fun h => c_max2 (by rw [show (if j > i then j else i) = max i j by omega]; exact h)⟩
instance v_min2 {i j : Int} : VC (rMin2 [.int i, .int j] H Q) (Q (.int (min i j)) H) := ⟨fun h => c_min2 (by rw [show (if j < i then j else i) = min i j by omega]; exact h)⟩
instance v_name {i : Nat} {p : L2.St → Hp → Prop} [h : StA σ i (some v) σ'] : VC (gName i v σ H p) (p σ' H) := ⟨fun k => by have := h.pf; subst this; exact k⟩
instance v_sub {to ti : TE} {ts : TSet} {p : L2.St → Hp → Prop} : VC (gSub to ti ts v σ H p) (to σ H fun o H1 => ti σ H1 fun i H2 => ts o i v H2 fun H3 => p σ H3) := ⟨fun h => h⟩
instance v_wok {σw : L2.St} {vs : List Nat} {p : Prop} [h : Wip σ vs σw] : VC (WOk σ vs σw p) p := ⟨fun k => ⟨h.pf, k⟩⟩
instance v_seqI {R : It → Hp → Prop} : VC (iSeq K te σ H R) (te σ H fun x H1 => IsSq K x H1 R) := ⟨fun h => h⟩
instance v_rng1 {tr : TA} {R : It → Hp → Prop} : VC (iRng1 tr σ H R) (tr σ H fun vs H1 => IsR1 vs H1 R) := ⟨fun h => h⟩
instance v_rng2 {tr : TA} {R : It → Hp → Prop} : VC (iRng2 tr σ H R) (tr σ H fun vs H1 => IsR2 vs H1 R) := ⟨fun h => h⟩
instance v_r1 {j : Int} {R : It → Hp → Prop} : VC (IsR1 [.int j] H R) ((-4611686018427387904 ≤ j ∧ j < 4611686018427387904) ∧ R (Itr 0 j.toNat) H) := ⟨fun h => i_r1 h.1 h.2⟩
instance v_r2 {i j : Int} {R : It → Hp → Prop} : VC (IsR2 [.int i, .int j] H R) (((-4611686018427387904 ≤ i ∧ i < 4611686018427387904) ∧ -4611686018427387904 ≤ j ∧ j < 4611686018427387904) ∧ R (Itr i (j - i).toNat) H) := ⟨fun h => i_r2 h.1 h.2⟩
instance v_lc {wi : TI} {g : TG} {tt : TT} {vs : List (Str × Nat)} {ns : List Nat} [m : MpC vs ns] : VC (tLc wi g tt te (vs.map (·.2)) σ H Q) (wi σ H fun J H1 => tLcJ J g tt te ns σ H1 Q) := ⟨fun h => by rw [m.pf]; exact h⟩
end
theorem divW {i m : Int} (h0 : 1 ≤ m) (h1 : m ≤ 1000000000000000000000000000000000000000000000000000000000000) : DivOk i m := by
  have h2 : m.natAbs ≤ 1000000000000000000000000000000000000000000000000000000000000 := by omega
  exact .inr (wide_div (b := 200) (by omega) (Nat.lt_of_le_of_lt h2 (by decide +kernel)) (by decide) (by decide))
/-! ## while -/
theorem while_go {σ : L2.St} {H : Hp} {c : TT} {tb : TS} {nx : L2.St → Hp → Prop} {rt : VK} {bk ct : L2.St → Hp → Prop} (Pv : Nat → L2.St → Hp → Prop) (m0 : Nat) (h0 : Pv m0 σ H)
    (hs : ∀ m σ H, Pv m σ H → c σ H fun b H1 => if b = true then ∃ N : L2.St → Hp → Prop, (∀ σ' H', N σ' H' → ∃ m', m' < m ∧ Pv m' σ' H') ∧ tb ⟨N, rt, nx, N⟩ σ H1 else nx σ H1) : tWhile c tb ⟨nx, rt, bk, ct⟩ σ H :=
  ⟨Pv, ⟨m0, h0⟩, hs⟩
theorem wh_body {σ : L2.St} {H : Hp} {tb : TS} {nx : L2.St → Hp → Prop} {rt : VK} {Pv : Nat → L2.St → Hp → Prop} {m : Nat} (h : ∀ N : L2.St → Hp → Prop, (∀ m' σ' H', m' < m → Pv m' σ' H' → N σ' H') → tb ⟨N, rt, nx, N⟩ σ H) :
    ∃ N : L2.St → Hp → Prop, (∀ σ' H', N σ' H' → ∃ m', m' < m ∧ Pv m' σ' H') ∧ tb ⟨N, rt, nx, N⟩ σ H := ⟨_, fun _ _ h => h, h _ fun m' _ _ a b => ⟨m', a, b⟩⟩
/-! ## lists and tuples that are read -/
class Fi (L : Own) (a : Addr) (o : outParam HO) (n : outParam Nat) : Prop where
  pf : L[n]? = some (a, o)
instance fi0 {a : Addr} {o : HO} {L : Own} : Fi ((a, o) :: L) a o 0 := ⟨rfl⟩
instance fiS {a : Addr} {x : Addr × HO} {o : HO} {L : Own} {n : Nat} [h : Fi L a o n] : Fi (x :: L) a o (n + 1) := ⟨by simpa using h.pf⟩
class Se (L : Own) (n : Nat) (x : Addr × HO) (L' : outParam Own) : Prop where
  pf : L.set n x = L'
instance se0 {x y : Addr × HO} {L : Own} : Se (y :: L) 0 x (x :: L) := ⟨rfl⟩
instance seS {x y : Addr × HO} {L L' : Own} {n : Nat} [h : Se L n x L'] : Se (y :: L) (n + 1) x (y :: L') := ⟨by rw [List.set_cons_succ, h.pf]⟩
/-- the law's script, or the like: read only -/
class Sq (K : PySem.W.Frag) (D : Hp) (a : Addr) (xs : outParam (List V)) : Prop where
  pf : SqL K D a xs
instance sqUp {K : PySem.W.Frag} {D D' : Hp} {a : Addr} {xs : List V} [s : Sm D D'] [k : Sq K D a xs] : Sq K D' a xs := ⟨s.e.seq k.pf⟩
class Ml (D : Hp) (L : Own) (a : Addr) (xs : outParam (List V)) : Prop where
  pf : Rdl D L a xs
instance mlF {D : Hp} {L : Own} {a : Addr} {xs : List V} {n : Nat} [h : Fi L a (.lst xs) n] : Ml D L a xs := ⟨.inl ⟨n, h.pf⟩⟩
instance mlK {D : Hp} {L : Own} {a : Addr} {xs : List V} [h : Kn D a (.lst xs)] : Ml D L a xs := ⟨.inr h.pf⟩
class Sl (K : PySem.W.Frag) (D : Hp) (L : Own) (a : Addr) (xs : outParam (List V)) : Prop where
  pf : Rds K D L a xs
instance slF {K : PySem.W.Frag} {D : Hp} {L : Own} {a : Addr} {xs : List V} {n : Nat} [h : Fi L a (.lst xs) n] : Sl K D L a xs := ⟨.inl ⟨n, h.pf⟩⟩
instance slK {K : PySem.W.Frag} {D : Hp} {L : Own} {a : Addr} {xs : List V} [h : Kn D a (.lst xs)] : Sl K D L a xs := ⟨rsD h.pf⟩
instance slS {K : PySem.W.Frag} {D : Hp} {L : Own} {a : Addr} {xs : List V} [h : Sq K D a xs] : Sl K D L a xs := ⟨rsS h.pf⟩
/-- an item at a place -/
class AtC (xs : List V) (i : Int) (v : outParam V) : Prop where
  pf : atI xs i = some v
instance at0 {x : V} {r : List V} : AtC (x :: r) 0 x := ⟨atI0 rfl⟩
instance at1 {x y : V} {r : List V} : AtC (x :: y :: r) 1 y := ⟨atI1 rfl⟩
instance at2 {x y z : V} {r : List V} : AtC (x :: y :: z :: r) 2 z := ⟨atI2 rfl⟩
instance atM {α : Type} {f : α → V} {x : α} {r : List α} : AtC (List.map f (x :: r)) 0 (f x) := ⟨atI0 rfl⟩
/-- ints, truths -/
class IsC (xs : List V) (ns : outParam (List Int)) : Prop where
  pf : xs = ns.map V.int
instance isMap {ns : List Int} : IsC (ns.map V.int) ns := ⟨rfl⟩
instance isNil : IsC [] [] := ⟨rfl⟩
instance isCons {n : Int} {r : List V} {ns : List Int} [h : IsC r ns] : IsC (.int n :: r) (n :: ns) := ⟨by rw [h.pf]; rfl⟩
instance isApp {r s : List V} {ns ms : List Int} [h : IsC r ns] [k : IsC s ms] : IsC (r ++ s) (ns ++ ms) := ⟨by rw [h.pf, k.pf, List.map_append]⟩
instance isRep {n : Nat} {i : Int} : IsC (List.replicate n (V.int i)) (List.replicate n i) := ⟨by rw [List.map_replicate]⟩
class BsC (xs : List V) (bs : outParam (List Bool)) : Prop where
  pf : xs = bs.map V.bl
instance bsMap {bs : List Bool} : BsC (bs.map V.bl) bs := ⟨rfl⟩
instance bsRep {n : Nat} {b : Bool} : BsC (List.replicate n (V.bl b)) (List.replicate n b) := ⟨by rw [List.map_replicate]⟩
class LnC (xs : List V) (n : outParam Nat) : Prop where
  pf : xs.length = n
instance (priority := low) lnAny {xs : List V} : LnC xs xs.length := ⟨rfl⟩
instance lnMap {α : Type} {f : α → V} {xs : List α} : LnC (xs.map f) xs.length := ⟨List.length_map _⟩
class CuC (xs : List V) (lo hi : Option Int) (ys : outParam (List V)) : Prop where
  pf : cutV xs lo hi = ys
instance (priority := low) cuAny {xs : List V} {lo hi : Option Int} : CuC xs lo hi (cutV xs lo hi) := ⟨rfl⟩
instance (priority := low + 1) cuFrom1 {xs : List V} : CuC xs (some 1) none (xs.drop 1) := ⟨cut1 xs⟩
instance cuM1 {α : Type} {f : α → V} {xs : List α} : CuC (xs.map f) (some 1) none ((xs.drop 1).map f) := ⟨by rw [cut1, List.map_drop]⟩
class SeC (xs : List V) (i : Int) (v : V) (ys : outParam (List V)) : Prop where
  pf : xs.set i.toNat v = ys
instance (priority := low) seAny {xs : List V} {i : Int} {v : V} : SeC xs i v (xs.set i.toNat v) := ⟨rfl⟩
instance seL0 {x v : V} {r : List V} : SeC (x :: r) 0 v (v :: r) := ⟨rfl⟩
instance seL1 {x y v : V} {r : List V} : SeC (x :: y :: r) 1 v (x :: v :: r) := ⟨rfl⟩
instance seL2 {x y z v : V} {r : List V} : SeC (x :: y :: z :: r) 2 v (x :: y :: v :: r) := ⟨rfl⟩
/-- kinds -/
class TyC (K : PySem.W.Frag) (H : Hp) (v : V) (t : outParam String) : Prop where
  pf : TyX K H v (.type t)
class KiC (t n : String) (b : outParam Bool) : Prop where
  pf : kitB t n = some b
section
variable {σ σ' : L2.St} {D D' H : Hp} {L : Own} {Q : VK} {K : PySem.W.Frag}
instance tyInt {i : Int} : TyC K H (.int i) "int" := ⟨.base (.int i)⟩
instance tyBl {b : Bool} : TyC K H (.bl b) "bool" := ⟨.base (.bl b)⟩
instance tyNon : TyC K H .non "NoneType" := ⟨.base .non⟩
instance tyStr {z : Str} : TyC K H (.str z) "str" := ⟨.base (.str z)⟩
instance tyTup {a : Addr} {xs : List V} [S : Sx D L H] [k : Kn D a (.tup xs)] : TyC K H (.ref a) "tuple" := ⟨.base (.tup (S.dH _ _ k.pf))⟩
instance tyLst {a : Addr} {xs : List V} [S : Sx D L H] [k : Ml D L a xs] : TyC K H (.ref a) "list" := ⟨.base (.lst (k.pf.at S))⟩
instance v_isi {x : V} {t n : String} {b : Bool} [h : TyC K H x t] [k : KiC t n b] : VC (rIsi K [x, .ty n] H Q) (Q (.bl b) H) := ⟨isi h.pf k.pf⟩
instance v_nwl {xs : List V} [S : Sx D L H] : VC (NwL xs H Q) (xs.length ≤ 16777216 ∧ ∀ p H', Sx D ((p, .lst xs) :: L) H' → Q (.ref p) H') := ⟨fun h => nw_lst S h.1 h.2⟩
instance v_nwt {xs : List V} [S : Sx D L H] : VC (NwT xs H Q) (xs.length ≤ 16777216 ∧ ∀ p D' H', Sx D' L H' → Sm D D' → Kn D' p (.tup xs) → Q (.ref p) H') := ⟨fun h => nw_tup S h.1 fun p D' H' e k S' => h.2 p D' H' S' ⟨e⟩ ⟨k⟩⟩
instance v_cat {a b : Addr} {xs ys : List V} [S : Sx D L H] [ha : Ml D L a xs] [hb : Ml D L b ys] : VC (rAddX K (.ref a) (.ref b) H Q) (xs.length + ys.length ≤ 16777216 ∧ ∀ p H', Sx D ((p, .lst (xs ++ ys)) :: L) H' → Q (.ref p) H') := ⟨fun h => r_cat S ha.pf hb.pf h.1 h.2⟩
instance v_catT {a b : Addr} {xs ys : List V} [S : Sx D L H] [ha : Kn D a (.tup xs)] [hb : Kn D b (.tup ys)] : VC (rAddX K (.ref a) (.ref b) H Q) (xs.length + ys.length ≤ 16777216 ∧ ∀ p D' H', Sx D' L H' → Sm D D' → Kn D' p (.tup (xs ++ ys)) → Q (.ref p) H') := ⟨fun h => r_catT S ha.pf hb.pf h.1 fun p D' H' e k S' => h.2 p D' H' S' ⟨e⟩ ⟨k⟩⟩
instance v_rep {a : Addr} {x : V} {n : Int} [S : Sx D L H] [ha : Ml D L a [x]] : VC (rMulY K (.ref a) (.int n) H Q) ((-1000000 ≤ n ∧ n ≤ 1000000) ∧ ∀ p H', Sx D ((p, .lst (List.replicate n.toNat x)) :: L) H' → Q (.ref p) H') := ⟨fun h => r_mul (r_rep1 S ha.pf h.1.1 h.1.2 h.2)⟩
instance v_repT {a : Addr} {x : V} {n : Int} [S : Sx D L H] [ha : Kn D a (.tup [x])] : VC (rMulY K (.ref a) (.int n) H Q) ((1 ≤ n ∧ n ≤ 1000) ∧ ∀ p D' H', Sx D' L H' → Sm D D' → Kn D' p (.tup (List.replicate n.toNat x)) → Q (.ref p) H') := ⟨fun h => r_rep1T S ha.pf h.1.1 h.1.2 fun p D' H' e k S' => h.2 p D' H' S' ⟨e⟩ ⟨k⟩⟩
instance v_ixL {a : Addr} {xs : List V} {i : Int} {v : V} [S : Sx D L H] [ha : Sl K D L a xs] [h : AtC xs i v] : VC (rIx K (.ref a) (.int i) H Q) (Q v H) := ⟨r_ixL S ha.pf h.pf⟩
instance v_ixT {a : Addr} {xs : List V} {i : Int} {v : V} [S : Sx D L H] [ha : Kn D a (.tup xs)] [h : AtC xs i v] : VC (rIx K (.ref a) (.int i) H Q) (Q v H) := ⟨r_ixT S ha.pf h.pf⟩
instance v_slL {a : Addr} {xs ys : List V} {lo hi : Option Int} [S : Sx D L H] [ha : Sl K D L a xs] [c : CuC xs lo hi ys] : VC (rSlX K (.ref a) lo hi H Q) (∀ p H', Sx D ((p, .lst ys) :: L) H' → Q (.ref p) H') := ⟨fun h => r_slL S ha.pf (by rw [c.pf]; exact h)⟩
instance v_slT {a : Addr} {xs ys : List V} {lo hi : Option Int} [S : Sx D L H] [ha : Kn D a (.tup xs)] [c : CuC xs lo hi ys] : VC (rSlX K (.ref a) lo hi H Q) (∀ p D' H', Sx D' L H' → Sm D D' → Kn D' p (.tup ys) → Q (.ref p) H') := ⟨fun h => r_slT S ha.pf fun p D' H' e k S' => h p D' H' S' ⟨e⟩ ⟨by rw [← c.pf]; exact k⟩⟩
instance v_lenL {a : Addr} {xs : List V} {n : Nat} [S : Sx D L H] [ha : Sl K D L a xs] [l : LnC xs n] : VC (rLen K [.ref a] H Q) (Q (.int n) H) := ⟨fun h => c_lenL S ha.pf (by rw [l.pf]; exact h)⟩
instance v_lenT {a : Addr} {xs : List V} {n : Nat} [S : Sx D L H] [ha : Kn D a (.tup xs)] [l : LnC xs n] : VC (rLen K [.ref a] H Q) (Q (.int n) H) := ⟨fun h => c_lenT S ha.pf (by rw [l.pf]; exact h)⟩
instance v_tupL {a : Addr} {xs : List V} [S : Sx D L H] [ha : Sl K D L a xs] : VC (rTupOf K [.ref a] H Q) (∀ p D' H', Sx D' L H' → Sm D D' → Kn D' p (.tup xs) → Q (.ref p) H') := ⟨fun h => c_tupL S ha.pf fun p D' H' e k S' => h p D' H' S' ⟨e⟩ ⟨k⟩⟩
instance v_tupT {a : Addr} {xs : List V} [S : Sx D L H] [ha : Kn D a (.tup xs)] : VC (rTupOf K [.ref a] H Q) (Q (.ref a) H) := ⟨c_tupT S ha.pf⟩
instance v_lstL {a : Addr} {xs : List V} [S : Sx D L H] [ha : Sl K D L a xs] : VC (rLstOf K [.ref a] H Q) (∀ p H', Sx D ((p, .lst xs) :: L) H' → Q (.ref p) H') := ⟨fun h => c_lstL S ha.pf h⟩
instance v_lstT {a : Addr} {xs : List V} [S : Sx D L H] [ha : Kn D a (.tup xs)] : VC (rLstOf K [.ref a] H Q) (∀ p H', Sx D ((p, .lst xs) :: L) H' → Q (.ref p) H') := ⟨fun h => c_lstT S ha.pf h⟩
instance v_sumL {a : Addr} {xs : List V} {ns : List Int} [S : Sx D L H] [ha : Sl K D L a xs] [c : IsC xs ns] : VC (rSumX K [.ref a] H Q) (Q (.int ns.sum) H) := ⟨fun h => c_sumL S (by rw [← c.pf]; exact ha.pf) h⟩
instance v_sumT {a : Addr} {xs : List V} {ns : List Int} [S : Sx D L H] [ha : Kn D a (.tup xs)] [c : IsC xs ns] : VC (rSumX K [.ref a] H Q) (Q (.int ns.sum) H) := ⟨fun h => c_sumT S (by rw [← c.pf]; exact ha.pf) h⟩
instance v_allL {a : Addr} {xs : List V} {bs : List Bool} [S : Sx D L H] [ha : Sl K D L a xs] [c : BsC xs bs] : VC (rAll K [.ref a] H Q) (Q (.bl (bs.all id)) H) := ⟨fun h => c_all S (by rw [← c.pf]; exact ha.pf) h⟩
instance v_anyL {a : Addr} {xs : List V} {bs : List Bool} [S : Sx D L H] [ha : Sl K D L a xs] [c : BsC xs bs] : VC (rAny K [.ref a] H Q) (Q (.bl (bs.any id)) H) := ⟨fun h => c_any S (by rw [← c.pf]; exact ha.pf) h⟩
/-- all true -/
instance v_allR {a : Addr} {n : Nat} [S : Sx D L H] [ha : Sl K D L a (List.replicate n (V.bl true))] : VC (rAll K [.ref a] H Q) (Q (.bl true) H) := ⟨fun h => c_allT S ha.pf h⟩
instance v_sortL {a : Addr} {xs : List V} {ns : List Int} [S : Sx D L H] [ha : Sl K D L a xs] [c : IsC xs ns] : VC (rSortedX K [.ref a] H Q) (∀ ns' : List Int, ns'.Perm ns → ns'.Pairwise (· ≤ ·) → ∀ p H', Sx D ((p, .lst (ns'.map V.int)) :: L) H' → Q (.ref p) H') := ⟨fun h => c_sortL S (by rw [← c.pf]; exact ha.pf) fun ns' p H' h1 h2 S' => h ns' h1 h2 p H' S'⟩
instance v_sortT {a : Addr} {xs : List V} {ns : List Int} [S : Sx D L H] [ha : Kn D a (.tup xs)] [c : IsC xs ns] : VC (rSortedX K [.ref a] H Q) (∀ ns' : List Int, ns'.Perm ns → ns'.Pairwise (· ≤ ·) → ∀ p H', Sx D ((p, .lst (ns'.map V.int)) :: L) H' → Q (.ref p) H') := ⟨fun h => c_sortT S (by rw [← c.pf]; exact ha.pf) fun ns' p H' h1 h2 S' => h ns' h1 h2 p H' S'⟩
instance v_sortRL {a : Addr} {xs : List V} {ns : List Int} [S : Sx D L H] [ha : Sl K D L a xs] [c : IsC xs ns] : VC (rSortedR K [.ref a] [.bl true] H Q) (∀ ns' : List Int, ns'.Perm ns → ns'.Pairwise (· ≥ ·) → ∀ p H', Sx D ((p, .lst (ns'.map V.int)) :: L) H' → Q (.ref p) H') := ⟨fun h => c_sortRL S (by rw [← c.pf]; exact ha.pf) fun ns' p H' h1 h2 S' => h ns' h1 h2 p H' S'⟩
instance v_sortRT {a : Addr} {xs : List V} {ns : List Int} [S : Sx D L H] [ha : Kn D a (.tup xs)] [c : IsC xs ns] : VC (rSortedR K [.ref a] [.bl true] H Q) (∀ ns' : List Int, ns'.Perm ns → ns'.Pairwise (· ≥ ·) → ∀ p H', Sx D ((p, .lst (ns'.map V.int)) :: L) H' → Q (.ref p) H') := ⟨fun h => c_sortRT S (by rw [← c.pf]; exact ha.pf) fun ns' p H' h1 h2 S' => h ns' h1 h2 p H' S'⟩
instance v_ty {a : Addr} {xs : List V} {p : Prop} [S : Sx D L H] [ha : Ml D L a xs] : VC (tyV K "list" (.ref a) H ∧ p) p := ⟨mm_ty S ha.pf⟩
instance v_app {a : Addr} {xs : List V} {n : Nat} {y : V} {L' : Own} [S : Sx D L H] [h : Fi L a (.lst xs) n] [e : Se L n (a, .lst (xs ++ [y])) L'] : VC (rAppend (.ref a) [y] H Q) (xs.length < 16777216 ∧ ∀ H', Sx D L' H' → Q .non H') := ⟨fun k => m_app S h.pf k.1 e.pf k.2⟩
instance v_set {a : Addr} {xs ys : List V} {i : Int} {n : Nat} {v : V} {L' : Own} {q : Hp → Prop} [S : Sx D L H] [h : Fi L a (.lst xs) n] [c : SeC xs i v ys] [e : Se L n (a, .lst ys) L'] : VC (rSetL (.ref a) (.int i) v H q) ((0 ≤ i ∧ i.toNat < xs.length) ∧ ∀ H', Sx D L' H' → q H') := ⟨fun k => p_set S h.pf k.1.1 k.1.2 (by rw [c.pf]; exact e.pf) k.2⟩
instance v_sqL {a : Addr} {xs : List V} {R : It → Hp → Prop} [S : Sx D L H] [ha : Sl K D L a xs] : VC (IsSq K (.ref a) H R) (R (Itl K a) H) := ⟨i_isL S ha.pf⟩
instance v_sqT {a : Addr} {xs : List V} {R : It → Hp → Prop} [S : Sx D L H] [ha : Kn D a (.tup xs)] : VC (IsSq K (.ref a) H R) (R (Itt K a) H) := ⟨i_isT S ha.pf⟩
instance v_eqTT {a b : Addr} {us ws : List V} {xs ys : List Int} [S : Sx D L H] [ha : Kn D a (.tup us)] [hb : Kn D b (.tup ws)] [c : IsC us xs] [d : IsC ws ys] : VC (rEqX K (.ref a) (.ref b) H Q) (Q (.bl (decide (xs = ys))) H) := ⟨r_eqTT S (by rw [← c.pf]; exact ha.pf) (by rw [← d.pf]; exact hb.pf)⟩
instance v_neTT {a b : Addr} {us ws : List V} {xs ys : List Int} [S : Sx D L H] [ha : Kn D a (.tup us)] [hb : Kn D b (.tup ws)] [c : IsC us xs] [d : IsC ws ys] : VC (rNeX K (.ref a) (.ref b) H Q) (Q (.bl (!decide (xs = ys))) H) := ⟨r_neTT S (by rw [← c.pf]; exact ha.pf) (by rw [← d.pf]; exact hb.pf)⟩
instance v_eqLL {a b : Addr} {us ws : List V} {xs ys : List Int} [S : Sx D L H] [ha : Sl K D L a us] [hb : Sl K D L b ws] [c : IsC us xs] [d : IsC ws ys] : VC (rEqX K (.ref a) (.ref b) H Q) (Q (.bl (decide (xs = ys))) H) := ⟨r_eqLL S (by rw [← c.pf]; exact ha.pf) (by rw [← d.pf]; exact hb.pf)⟩
instance v_neLL {a b : Addr} {us ws : List V} {xs ys : List Int} [S : Sx D L H] [ha : Sl K D L a us] [hb : Sl K D L b ws] [c : IsC us xs] [d : IsC ws ys] : VC (rNeX K (.ref a) (.ref b) H Q) (Q (.bl (!decide (xs = ys))) H) := ⟨r_neLL S (by rw [← c.pf]; exact ha.pf) (by rw [← d.pf]; exact hb.pf)⟩
/-- what is no more asked of is left -/
class Sub (L2 L1 : Own) : Prop where
  pf : L2.Sublist L1
instance subRefl {L : Own} : Sub L L := ⟨List.Sublist.refl _⟩
instance (priority := low) subDrop {x : Addr × HO} {L M : Own} [h : Sub M L] : Sub M (x :: L) := ⟨h.pf.cons x⟩
instance subKeep {x : Addr × HO} {L M : Own} [h : Sub M L] : Sub (x :: M) (x :: L) := ⟨h.pf.cons_cons x⟩
class Er (L : Own) (n : Nat) (L' : outParam Own) : Prop where
  pf : L.eraseIdx n = L'
instance er0 {x : Addr × HO} {L : Own} : Er (x :: L) 0 L := ⟨rfl⟩
instance erS {x : Addr × HO} {L L' : Own} {n : Nat} [h : Er L n L'] : Er (x :: L) (n + 1) (x :: L') := ⟨by rw [List.eraseIdx_cons_succ, h.pf]⟩
theorem perm_front {α : Type} : ∀ {L : List α} {n : Nat} {x : α}, L[n]? = some x → L.Perm (x :: L.eraseIdx n)
  | [], _, _, h => by simp at h
  | y :: L, 0, x, h => by
    simp at h
    subst h
    exact List.Perm.refl _
  | y :: L, n + 1, x, h => by
    have ih := perm_front (L := L) (n := n) (x := x) (by simpa using h)
    rw [List.eraseIdx_cons_succ]
    exact (ih.cons y).trans (List.Perm.swap x y _)
/-- one thing in front -/
theorem Sx.front {a : Addr} {o : HO} {L1 L' : Own} {n : Nat} [S : Sx D L1 H] [h : Fi L1 a o n] [e : Er L1 n L'] : Sx D ((a, o) :: L') H := S.perm (by rw [← e.pf]; exact perm_front h.pf)
/-- my list is fixed from now on -/
theorem Sx.fix1 {a : Addr} {o : HO} {L1 L' : Own} {n : Nat} [S : Sx D L1 H] [h : Fi L1 a o n] [e : Er L1 n L'] : ∃ D', Sm D D' ∧ Kn D' a o ∧ Sx D' L' H :=
  ⟨_, ⟨same_upd (S.off h.pf)⟩, ⟨upd_same⟩, by have := S.frz h.pf; rw [e.pf] at this; exact this⟩
theorem Sx.gc {L1 : Own} [S : Sx D L1 H] [s : Sub L L1] : Sx D L H := ⟨S.dH, fun q hq => S.ow q (s.pf.subset hq), S.nd.sublist (s.pf.map _)⟩
end
instance ki_int_int : KiC "int" "int" true := ⟨by decide +kernel⟩
instance ki_int_bool : KiC "int" "bool" false := ⟨by decide +kernel⟩
instance ki_int_str : KiC "int" "str" false := ⟨by decide +kernel⟩
instance ki_int_list : KiC "int" "list" false := ⟨by decide +kernel⟩
instance ki_int_tuple : KiC "int" "tuple" false := ⟨by decide +kernel⟩
instance ki_int_dict : KiC "int" "dict" false := ⟨by decide +kernel⟩
instance ki_bool_int : KiC "bool" "int" true := ⟨by decide +kernel⟩
instance ki_bool_bool : KiC "bool" "bool" true := ⟨by decide +kernel⟩
instance ki_bool_str : KiC "bool" "str" false := ⟨by decide +kernel⟩
instance ki_bool_list : KiC "bool" "list" false := ⟨by decide +kernel⟩
instance ki_bool_tuple : KiC "bool" "tuple" false := ⟨by decide +kernel⟩
instance ki_bool_dict : KiC "bool" "dict" false := ⟨by decide +kernel⟩
instance ki_str_int : KiC "str" "int" false := ⟨by decide +kernel⟩
instance ki_str_bool : KiC "str" "bool" false := ⟨by decide +kernel⟩
instance ki_str_str : KiC "str" "str" true := ⟨by decide +kernel⟩
instance ki_str_list : KiC "str" "list" false := ⟨by decide +kernel⟩
instance ki_str_tuple : KiC "str" "tuple" false := ⟨by decide +kernel⟩
instance ki_str_dict : KiC "str" "dict" false := ⟨by decide +kernel⟩
instance ki_list_int : KiC "list" "int" false := ⟨by decide +kernel⟩
instance ki_list_bool : KiC "list" "bool" false := ⟨by decide +kernel⟩
instance ki_list_str : KiC "list" "str" false := ⟨by decide +kernel⟩
instance ki_list_list : KiC "list" "list" true := ⟨by decide +kernel⟩
instance ki_list_tuple : KiC "list" "tuple" false := ⟨by decide +kernel⟩
instance ki_list_dict : KiC "list" "dict" false := ⟨by decide +kernel⟩
instance ki_tuple_int : KiC "tuple" "int" false := ⟨by decide +kernel⟩
instance ki_tuple_bool : KiC "tuple" "bool" false := ⟨by decide +kernel⟩
instance ki_tuple_str : KiC "tuple" "str" false := ⟨by decide +kernel⟩
instance ki_tuple_list : KiC "tuple" "list" false := ⟨by decide +kernel⟩
instance ki_tuple_tuple : KiC "tuple" "tuple" true := ⟨by decide +kernel⟩
instance ki_tuple_dict : KiC "tuple" "dict" false := ⟨by decide +kernel⟩
instance ki_dict_int : KiC "dict" "int" false := ⟨by decide +kernel⟩
instance ki_dict_bool : KiC "dict" "bool" false := ⟨by decide +kernel⟩
instance ki_dict_str : KiC "dict" "str" false := ⟨by decide +kernel⟩
instance ki_dict_list : KiC "dict" "list" false := ⟨by decide +kernel⟩
instance ki_dict_tuple : KiC "dict" "tuple" false := ⟨by decide +kernel⟩
instance ki_dict_dict : KiC "dict" "dict" true := ⟨by decide +kernel⟩
instance ki_NoneType_int : KiC "NoneType" "int" false := ⟨by decide +kernel⟩
instance ki_NoneType_bool : KiC "NoneType" "bool" false := ⟨by decide +kernel⟩
instance ki_NoneType_str : KiC "NoneType" "str" false := ⟨by decide +kernel⟩
instance ki_NoneType_list : KiC "NoneType" "list" false := ⟨by decide +kernel⟩
instance ki_NoneType_tuple : KiC "NoneType" "tuple" false := ⟨by decide +kernel⟩
instance ki_NoneType_dict : KiC "NoneType" "dict" false := ⟨by decide +kernel⟩
end Fk

namespace Fk
open PySem PySem.Spec PyProof.Rows L2
/-! ## zip, enumerate, pairs -/
section
variable {X : Cx}
theorem pi_zipK (K : PySem.W.Frag) {e e2 : Expr} {ta : TA} {p pos tpos : Pos} {elts : List Expr} {kk : Nat} (hg : Gl X "zip") (hm : X.mg "zip" = none) (ha : PA X [e, e2] ta) (hK : X.K = K := by rfl)
    (hs : starEach [e, e2] X.env = (false, eval e X.env) :: starEach [e2] X.env := by rfl) (hpl : (backTo pos (starEach [e2] X.env)).any (·.1) = false := by rfl) :
    PI X (.Tuple elts kk tpos) (.Call (.Name "zip" p) [e, e2] [] pos) (RZ.iZipA K ta) := by subst hK; exact RZ.pi_zipA hg hm ha hs hpl
theorem pi_enumK (K : PySem.W.Frag) {e : Expr} {ta : TA} {p pos tpos : Pos} {elts : List Expr} {kk : Nat} (hg : Gl X "enumerate") (hm : X.mg "enumerate" = none) (ha : PA X [e] ta) (hK : X.K = K := by rfl) (hs : starEach [e] X.env = [(false, eval e X.env)] := by rfl) :
    PI X (.Tuple elts kk tpos) (.Call (.Name "enumerate" p) [e] [] pos) (iEnum K ta) := by subst hK; exact pi_enum hg hm ha hs
end
def IsZ (K : PySem.W.Frag) (vs : List V) (H1 : Hp) (R : It → Hp → Prop) : Prop := ∃ a b xs ys, vs = [.ref a, .ref b] ∧ ((SqL K H1 a xs ∧ SqL K H1 b ys ∧ R (Itz K a b) H1) ∨ (SqT K H1 a xs ∧ SqT K H1 b ys ∧ R (RZ.ItzT K a b) H1))
def IsE (K : PySem.W.Frag) (vs : List V) (H1 : Hp) (R : It → Hp → Prop) : Prop := ∃ a xs, vs = [.ref a] ∧ SqL K H1 a xs ∧ R (Ite K a) H1
theorem Sx.weak {D D' : Hp} {L : Own} {H : Hp} (S : Sx D' L H) (e : Same D D') : Sx D L H := ⟨e.trans S.dH, fun p hp => ⟨(S.ow p hp).1, e.free (S.ow p hp).2⟩, S.nd⟩
/-- less is known, less is owned -/
theorem Sx.gw {D D1 : Hp} {L L1 : Own} {H : Hp} [S : Sx D1 L1 H] [u : Up D D1] [s : Sub L L1] : Sx D L H := Sx.weak (Sx.gc (L1 := L1)) u.e
section
variable {σ σ' : L2.St} {D D' H H' : Hp} {L : Own} {Q : VK} {K : PySem.W.Frag} {q : L2.St → Hp → Prop}
instance v_zip {tr : TA} {R : It → Hp → Prop} : VC (RZ.iZipA K tr σ H R) (tr σ H fun vs H1 => IsZ K vs H1 R) := ⟨fun h => h⟩
instance v_zipL {a b : Addr} {xs ys : List V} {R : It → Hp → Prop} [S : Sx D L H] [ha : Sl K D L a xs] [hb : Sl K D L b ys] : VC (IsZ K [.ref a, .ref b] H R) (R (Itz K a b) H) := ⟨fun h => ⟨a, b, xs, ys, rfl, .inl ⟨ha.pf.sq S, hb.pf.sq S, h⟩⟩⟩
instance v_zipT {a b : Addr} {xs ys : List V} {R : It → Hp → Prop} [S : Sx D L H] [ha : Kn D a (.tup xs)] [hb : Kn D b (.tup ys)] : VC (IsZ K [.ref a, .ref b] H R) (R (RZ.ItzT K a b) H) := ⟨fun h => ⟨a, b, xs, ys, rfl, .inr ⟨sqT S ha.pf, sqT S hb.pf, h⟩⟩⟩
instance v_enum {tr : TA} {R : It → Hp → Prop} : VC (iEnum K tr σ H R) (tr σ H fun vs H1 => IsE K vs H1 R) := ⟨fun h => h⟩
instance v_enumL {a : Addr} {xs : List V} {R : It → Hp → Prop} [S : Sx D L H] [ha : Sl K D L a xs] : VC (IsE K [.ref a] H R) (R (Ite K a) H) := ⟨fun h => ⟨a, xs, rfl, ha.pf.sq S, h⟩⟩
instance v_gtup {n : Nat} {t : TGs} {a : Addr} {xs : List V} [S : Sx D L H] [k : Kn D a (.tup xs)] : VC (gTup K n t (.ref a) σ H q) (xs.length = n ∧ t xs σ H q) := ⟨fun h => ⟨a, xs, rfl, sqT S k.pf, h.1, h.2⟩⟩
instance v_gcons {t : TG} {u : TGs} {v : V} {r : List V} : VC (gCons t u (v :: r) σ H q) (t v σ H fun σ' H' => u r σ' H' q) := ⟨fun h => ⟨v, r, rfl, h⟩⟩
instance v_gnil : VC (gNil [] σ H q) (q σ H) := ⟨fun h => ⟨rfl, h⟩⟩
/-- a pair, new at each turn -/
theorem pair_step {f g : Nat → Option V} {i : Nat} {v : V} [S : Sx D L H] (y : YPair f g i H v H') : ∃ T x z D', v = .ref T ∧ f i = some x ∧ g i = some z ∧ Sm D D' ∧ Kn D' T (.tup [x, z]) ∧ Sx D' L H' := by
  obtain ⟨T, x, z, rfl, hT, rfl, h1, h2⟩ := y
  exact ⟨T, x, z, _, rfl, h1, h2, ⟨same_upd (S.dH.free hT)⟩, ⟨upd_same⟩, S.fix hT⟩
theorem walk_zipT {a b : Addr} {xs ys : List V} {n : Nat} (hn : n = min xs.length ys.length) : Walk (RZ.ItzT K a b) n (fun H => SqT K H a xs ∧ SqT K H b ys) (YPair (fun i => xs[i]?) (fun i => ys[i]?)) := by
  subst hn
  refine ⟨fun i H hi q => ?_, fun H q => ⟨xs, ys, q.1, q.2, by omega⟩, fun i H v H' hi q y => ?_⟩
  · have k1 : i < xs.length := by omega
    have k2 : i < ys.length := by omega
    exact ⟨xs, ys, xs[i], ys[i], q.1, q.2, by simp [k1], by simp [k2]⟩
  · obtain ⟨T, x, z, e1, e2, e3, e4, e5⟩ := y
    exact ⟨T, x, z, e1, e2, e3, e4 xs q.1, e5 ys q.2⟩
/-- range, plainly -/
theorem walk_rng {lo : Int} {n : Nat} : Walk (Itr lo n) n (fun _ => True) (fun i H x H' => H' = H ∧ x = .int (lo + (i : Int))) := walk_range
end
end Fk

namespace Fk
open PySem PySem.Spec PyProof.Rows L2
/-! ## insert, pop, reverse, extend; cuts -/
def rIns : V → List V → Hp → VK → Prop := fun x vs H Q => ∃ (l : Addr) (xs : List V) (i : Int) (y : V), x = .ref l ∧ vs = [.int i, y] ∧ H l = some (.lst xs) ∧ xs.length < sizeLine ∧ 0 ≤ i ∧ i < 2 ^ 63 ∧ Q .non (upd H l (.lst (xs.take i.toNat ++ [y] ++ xs.drop i.toNat)))
theorem mt_insN {X : Cx} : MtR X "list.insert" rIns := mt_insert
/-- the last item, and the others -/
class LaC (xs : List V) (y : outParam V) (ys : outParam (List V)) : Prop where
  pf : xs = ys ++ [y]
instance laApp {ys : List V} {y : V} : LaC (ys ++ [y]) y ys := ⟨rfl⟩
instance laMap {α : Type} {f : α → V} {ys : List α} {y : α} : LaC (List.map f (ys ++ [y])) (f y) (List.map f ys) := ⟨by rw [List.map_append]; rfl⟩
instance atLast {xs ys : List V} {y : V} [h : LaC xs y ys] : AtC xs (-1) y := ⟨by rw [h.pf]; exact atI_last ys y⟩
section
variable {σ σ' : L2.St} {D D' H H' : Hp} {L : Own} {Q : VK} {K : PySem.W.Frag} {q : L2.St → Hp → Prop}
instance v_ins {a : Addr} {xs : List V} {n : Nat} {i : Int} {y : V} {L' : Own} [S : Sx D L H] [h : Fi L a (.lst xs) n] [e : Se L n (a, .lst (xs.take i.toNat ++ [y] ++ xs.drop i.toNat)) L'] : VC (rIns (.ref a) [.int i, y] H Q) ((xs.length < 16777216 ∧ 0 ≤ i ∧ i < 4611686018427387904) ∧ ∀ H', Sx D L' H' → Q .non H') :=
  ⟨fun k => ⟨a, xs, i, y, rfl, rfl, S.at h.pf, k.1.1, k.1.2.1, by have := k.1.2.2; omega, k.2 _ (by have := S.put (.lst (xs.take i.toNat ++ [y] ++ xs.drop i.toNat)) h.pf; rw [e.pf] at this; exact this)⟩⟩
instance v_ins0 {a : Addr} {xs : List V} {n : Nat} {y : V} {L' : Own} [S : Sx D L H] [h : Fi L a (.lst xs) n] [e : Se L n (a, .lst (y :: xs)) L'] : VC (rIns (.ref a) [.int 0, y] H Q) (xs.length < 16777216 ∧ ∀ H', Sx D L' H' → Q .non H') :=
  ⟨fun k => ⟨a, xs, 0, y, rfl, rfl, S.at h.pf, k.1, by decide, by decide, k.2 _ (by have := S.put (.lst (y :: xs)) h.pf; rw [e.pf] at this; exact this)⟩⟩
instance v_pop {a : Addr} {xs ys : List V} {n : Nat} {y : V} {L' : Own} [S : Sx D L H] [h : Fi L a (.lst xs) n] [l : LaC xs y ys] [e : Se L n (a, .lst ys) L'] : VC (rPop (.ref a) [] H Q) (∀ H', Sx D L' H' → Q y H') := ⟨fun k => by
  obtain rfl := l.pf
  refine ⟨a, ys ++ [y], y, rfl, rfl, S.at h.pf, ?_, ?_⟩
  · rw [List.length_append, show ys.length + [y].length - 1 = ys.length by simp, List.getElem?_append_right (Nat.le_refl _), Nat.sub_self]
    rfl
  · rw [List.dropLast_concat]
    exact k _ (by have := S.put (.lst ys) h.pf; rw [e.pf] at this; exact this)⟩
instance v_rev {a : Addr} {xs : List V} {n : Nat} {L' : Own} [S : Sx D L H] [h : Fi L a (.lst xs) n] [e : Se L n (a, .lst xs.reverse) L'] : VC (rReverse (.ref a) [] H Q) (∀ H', Sx D L' H' → Q .non H') :=
  ⟨fun k => ⟨a, xs, rfl, rfl, S.at h.pf, k _ (by have := S.put (.lst xs.reverse) h.pf; rw [e.pf] at this; exact this)⟩⟩
instance v_ext {a b : Addr} {xs zs : List V} {n : Nat} {L' : Own} [S : Sx D L H] [h : Fi L a (.lst xs) n] [hb : Ml D L b zs] [e : Se L n (a, .lst (xs ++ zs)) L'] : VC (rExtend (.ref a) [.ref b] H Q) (xs.length + zs.length ≤ 16777216 ∧ ∀ H', Sx D L' H' → Q .non H') :=
  ⟨fun k => ⟨a, b, xs, zs, rfl, rfl, S.at h.pf, hb.pf.at S, k.1, k.2 _ (by have := S.put (.lst (xs ++ zs)) h.pf; rw [e.pf] at this; exact this)⟩⟩
end
theorem cut_toI {xs : List V} {i : Int} (h : 0 ≤ i) : cutV xs none (some i) = xs.take i.toNat := by
  have := cut_to xs i.toNat
  rwa [show ((i.toNat : Nat) : Int) = i from Int.toNat_of_nonneg h] at this
theorem cut_fromI {xs : List V} {i : Int} (h : 0 ≤ i) : cutV xs (some i) none = xs.drop i.toNat := by
  have := cut_from xs i.toNat
  rwa [show ((i.toNat : Nat) : Int) = i from Int.toNat_of_nonneg h] at this
end Fk

namespace Fk
open PySem PySem.Spec PyProof.Rows L2
/-! ## rows of numbers, nested -/
abbrev tI (r : List Int) : PyData := .tuple (dI r)
abbrev lI (r : List Int) : PyData := .list (dI r)
/-- fixed things that stand for data -/
class Ra (D : Hp) (vs : List V) (ds : outParam (List PyData)) : Prop where
  pf : RpAll D vs ds
instance raUp {D D' : Hp} {vs : List V} {ds : List PyData} [s : Sm D D'] [k : Ra D vs ds] : Ra D' vs ds := ⟨RpAll.up s.e k.pf⟩
theorem ra_cons {D : Hp} {vs : List V} {d : PyData} {ds : List PyData} (h : RpAll D vs (d :: ds)) : ∃ v us, vs = v :: us ∧ Rp D v d ∧ RpAll D us ds := by
  cases h with
  | cons h t => exact ⟨_, _, rfl, h, t⟩
theorem ra_consT {D : Hp} {vs : List V} {r : List Int} {rs : List (List Int)} (h : RpAll D vs ((r :: rs).map tI)) : ∃ b us, vs = .ref b :: us ∧ Kn D b (.tup (r.map V.int)) ∧ RpAll D us (rs.map tI) := by
  obtain ⟨v, us, rfl, h1, h2⟩ := ra_cons h
  obtain ⟨b, rfl, h3⟩ := h1.inv_tupI
  exact ⟨b, us, rfl, ⟨h3⟩, h2⟩
theorem ra_consL {D : Hp} {vs : List V} {r : List Int} {rs : List (List Int)} (h : RpAll D vs ((r :: rs).map lI)) : ∃ b us, vs = .ref b :: us ∧ Kn D b (.lst (r.map V.int)) ∧ RpAll D us (rs.map lI) := by
  obtain ⟨v, us, rfl, h1, h2⟩ := ra_cons h
  obtain ⟨b, rfl, h3⟩ := h1.inv_lstI
  exact ⟨b, us, rfl, ⟨h3⟩, h2⟩
theorem ra_getT {D : Hp} {vs : List V} {rs : List (List Int)} {i : Nat} {v : V} (h : RpAll D vs (rs.map tI)) (hv : vs[i]? = some v) : ∃ b r, v = .ref b ∧ rs[i]? = some r ∧ Kn D b (.tup (r.map V.int)) := by
  obtain ⟨d, h1, h2⟩ := RpAll.getV h hv
  rw [List.getElem?_map] at h1
  cases e : rs[i]? with
  | none => rw [e] at h1; cases h1
  | some r =>
    rw [e] at h1
    cases h1
    obtain ⟨b, rfl, h3⟩ := h2.inv_tupI
    exact ⟨b, r, rfl, rfl, ⟨h3⟩⟩
theorem ra_getL {D : Hp} {vs : List V} {rs : List (List Int)} {i : Nat} {v : V} (h : RpAll D vs (rs.map lI)) (hv : vs[i]? = some v) : ∃ b r, v = .ref b ∧ rs[i]? = some r ∧ Kn D b (.lst (r.map V.int)) := by
  obtain ⟨d, h1, h2⟩ := RpAll.getV h hv
  rw [List.getElem?_map] at h1
  cases e : rs[i]? with
  | none => rw [e] at h1; cases h1
  | some r =>
    rw [e] at h1
    cases h1
    obtain ⟨b, rfl, h3⟩ := h2.inv_lstI
    exact ⟨b, r, rfl, rfl, ⟨h3⟩⟩
theorem ra_oneT {D : Hp} {b : Addr} {r : List Int} [k : Kn D b (.tup (r.map V.int))] : RpAll D [.ref b] ([r].map tI) := .cons (.tupI k.pf) .nil
theorem ra_oneL {D : Hp} {b : Addr} {r : List Int} [k : Kn D b (.lst (r.map V.int))] : RpAll D [.ref b] ([r].map lI) := .cons (.lstI k.pf) .nil
theorem ra_drop {D : Hp} : ∀ {vs : List V} {ds : List PyData} (n : Nat), RpAll D vs ds → RpAll D (vs.drop n) (ds.drop n)
  | _, _, 0, h => h
  | _, _, _ + 1, .nil => .nil
  | _, _, n + 1, .cons _ t => ra_drop n t
theorem ra_take {D : Hp} : ∀ {vs : List V} {ds : List PyData} (n : Nat), RpAll D vs ds → RpAll D (vs.take n) (ds.take n)
  | _, _, 0, _ => .nil
  | _, _, _ + 1, .nil => .nil
  | _, _, n + 1, .cons h t => .cons h (ra_take n t)
theorem ra_rep {D : Hp} {v : V} {d : PyData} (h : Rp D v d) : ∀ n : Nat, RpAll D (List.replicate n v) (List.replicate n d)
  | 0 => .nil
  | n + 1 => .cons h (ra_rep h n)
/-! equality -/
theorem sh_TT (xss : List (List Int)) : SeqAt.shaped (.tuple (xss.map tI)) = true := (Sh.tup (n := 1) fun d hd => by
  obtain ⟨r, _, rfl⟩ := List.mem_map.mp hd
  exact Sh.tup (n := 0) Sh.ints).ok
theorem sh_LL (xss : List (List Int)) : SeqAt.shaped (.list (xss.map lI)) = true := (Sh.list (n := 1) fun d hd => by
  obtain ⟨r, _, rfl⟩ := List.mem_map.mp hd
  exact Sh.list (n := 0) Sh.ints).ok
theorem eqv_mapT : ∀ (xs ys : List (List Int)), PyData.eqvAll (xs.map tI) (ys.map tI) = decide (xs = ys)
  | [], [] => by simp [PyData.eqvAll]
  | [], y :: ys => by simp [PyData.eqvAll]
  | x :: xs, [] => by simp [PyData.eqvAll]
  | x :: xs, y :: ys => by
    rw [List.map_cons, List.map_cons]
    simp only [PyData.eqvAll]
    rw [eqv_mapT xs ys, eqv_tupI]
    by_cases h : x = y
    · subst h; simp
    · simp [h]
theorem eqv_mapL : ∀ (xs ys : List (List Int)), PyData.eqvAll (xs.map lI) (ys.map lI) = decide (xs = ys)
  | [], [] => by simp [PyData.eqvAll]
  | [], y :: ys => by simp [PyData.eqvAll]
  | x :: xs, [] => by simp [PyData.eqvAll]
  | x :: xs, y :: ys => by
    rw [List.map_cons, List.map_cons]
    simp only [PyData.eqvAll]
    rw [eqv_mapL xs ys, eqv_lstI]
    by_cases h : x = y
    · subst h; simp
    · simp [h]
theorem eqv_TT (xs ys : List (List Int)) : PyData.eqv (.tuple (xs.map tI)) (.tuple (ys.map tI)) = decide (xs = ys) := by simp only [PyData.eqv, eqv_mapT]
theorem eqv_LL (xs ys : List (List Int)) : PyData.eqv (.list (xs.map lI)) (.list (ys.map lI)) = decide (xs = ys) := by simp only [PyData.eqv, eqv_mapL]
section
variable {D D' H : Hp} {L : Own} {Q : VK} {K : PySem.W.Frag}
theorem r_eqTT2 {a b : Addr} {us ws : List V} {xs ys : List (List Int)} (S : Sx D L H) (ha : Kn D a (.tup us)) (hb : Kn D b (.tup ws)) (ra : RpAll D us (xs.map tI)) (rb : RpAll D ws (ys.map tI)) (k : Q (.bl (decide (xs = ys))) H) : rEqX K (.ref a) (.ref b) H Q :=
  r_eqD S (.tup ha.pf ra) (.tup hb.pf rb) (sh_TT xs) (sh_TT ys) (by rw [eqv_TT]; exact k)
theorem r_neTT2 {a b : Addr} {us ws : List V} {xs ys : List (List Int)} (S : Sx D L H) (ha : Kn D a (.tup us)) (hb : Kn D b (.tup ws)) (ra : RpAll D us (xs.map tI)) (rb : RpAll D ws (ys.map tI)) (k : Q (.bl (!decide (xs = ys))) H) : rNeX K (.ref a) (.ref b) H Q :=
  r_neD S (.tup ha.pf ra) (.tup hb.pf rb) (sh_TT xs) (sh_TT ys) (by rw [eqv_TT]; exact k)
theorem rp_H {v : V} {d : PyData} (S : Sx D L H) (h : Rp D v d) : Rp H v d := Rp.up S.dH h
theorem dpLL {a : Addr} {us : List V} {xs : List (List Int)} (S : Sx D L H) (ha : Rds K D L a us) (ra : RpAll D us (xs.map lI)) : Dp K H (.ref a) (.list (xs.map lI)) := .lst (ha.sq S) (RpAll.dp (RpAll.up S.dH ra))
theorem r_eqLL2 {a b : Addr} {us ws : List V} {xs ys : List (List Int)} (S : Sx D L H) (ha : Rds K D L a us) (hb : Rds K D L b ws) (ra : RpAll D us (xs.map lI)) (rb : RpAll D ws (ys.map lI)) (k : Q (.bl (decide (xs = ys))) H) : rEqX K (.ref a) (.ref b) H Q :=
  .inr ⟨_, _, dpLL S ha ra, dpLL S hb rb, sh_LL xs, sh_LL ys, by rw [eqv_LL]; exact k⟩
theorem r_neLL2 {a b : Addr} {us ws : List V} {xs ys : List (List Int)} (S : Sx D L H) (ha : Rds K D L a us) (hb : Rds K D L b ws) (ra : RpAll D us (xs.map lI)) (rb : RpAll D ws (ys.map lI)) (k : Q (.bl (!decide (xs = ys))) H) : rNeX K (.ref a) (.ref b) H Q :=
  .inr ⟨_, _, dpLL S ha ra, dpLL S hb rb, sh_LL xs, sh_LL ys, by rw [eqv_LL]; exact k⟩
end
end Fk

namespace Fk
open PySem PySem.Spec PyProof.Rows L2
/-! ## enumerate of a tuple -/
set_option maxHeartbeats 1000000 in
theorem meets_enumT {v : Value} {o : Obj} {G : Heap → Prop} (B : Begins v o G) :
    Meets (Builtin.«enumerate.__new__» ⟨[.type "enumerate", v], []⟩) (fun _ R s => G s.heap ∧
      R (.ok (.ret (.ref (s.heap.push o).objs.size))) { s with heap := (s.heap.push o).push { cls := .type "enumerate", data := .fields #[.none, .bool false, .ref s.heap.objs.size, rawInt 0, .none, .none] } }) :=
  .of_wp fun prog w A R s h => by
    obtain ⟨hp, g, d, tk, os⟩ := s
    obtain ⟨h1, h⟩ := h
    have hsub := sub_enumerate
    have q1 : ∀ {A' : Around} {E : Value → Shared → Prop} {Q : Value → Shared → Prop}, Q (.ref hp.objs.size) ⟨hp.push o, g, d, tk, os⟩ → wpAny (model prog w) A' (pyIter v) Q E ⟨hp, g, d, tk, os⟩ :=
      fun q => B.iter prog w _ _ ⟨hp, g, d, tk, os⟩ _ h1 q
    wp_walk using q1
    refine wpAny_stack_any fun st => wpAny_pure ?_
    split
    · rename_i c _ _ _ _ _
      cases (c == Value.type "enumerate")
      · wp_walk using q1
        exact ⟨_, rfl, h⟩
      · wp_walk using q1
        exact ⟨_, rfl, h⟩
    · wp_walk using q1
      exact ⟨_, rfl, h⟩
section
variable {prog : Program} {w : World} {A : Around} {E : Value → Shared → Prop} {s : Shared}
theorem call_enumB {v : Value} {o : Obj} {G : Heap → Prop} {Q : Value → Shared → Prop} (B : Begins v o G) (h1 : G s.heap)
    (h : ∀ h', IsEnum h' (s.heap.objs.size + 1) s.heap.objs.size 0 .none → h'.get? s.heap.objs.size = some o →
      (∀ b o, s.heap.get? b = some o → h'.get? b = some o) → Q (.ref (s.heap.objs.size + 1)) { s with heap := h' }) :
    wpAny (model prog w) A (call (.type "enumerate") [v]) Q E s := by
  refine callType_new F.called_enumerate (by decide) (F.typeCall_enumerate_1 _) (F.newCall_enumerate_1 _) (fun obj => F.args_object_init_2 obj _) F.entry_enumerate_new
    (meets_enumT B) ⟨h1, ?_⟩
  have hz : (s.heap.push o).objs.size = s.heap.objs.size + 1 := Heap.size_push ..
  show _ ∧ _
  rw [hz]
  have he : IsEnum ((s.heap.push o).push { cls := .type "enumerate", data := .fields #[.none, .bool false, .ref s.heap.objs.size, rawInt 0, .none, .none] }) (s.heap.objs.size + 1) s.heap.objs.size 0 .none := by
    have := Heap.get?_push_size (s.heap.push o) (o := { cls := .type "enumerate", data := .fields #[.none, .bool false, .ref s.heap.objs.size, rawInt 0, .none, .none] }) rfl
    rw [hz] at this
    exact this
  exact ⟨⟨_, he, rfl⟩, h _ he (Heap.get?_push_of_some _ (Heap.get?_push_size _ B.free)) fun b o x => Heap.get?_push_of_some _ (Heap.get?_push_of_some _ x)⟩
end
section
variable {prog : Program} {w : World} {A : Around} {E : Value → Shared → Prop} {s : Shared}
theorem enumT_end {e it l : Addr} {i : Nat} {items : Array Value} {old : Value} {Q : Option Value → Shared → Prop} (hh : A.handled = none)
    (he : IsEnum s.heap e it i old) (hit : s.heap.IsTupleIter it l i) (hl : s.heap.IsTuple l items) (hx : items[i]? = none)
    (hQ : ∀ h', Heap.ExtBut it s.heap h' → Q none { s with heap := h' }) : wpAny (model prog w) A (pyNext (.ref e)) Q E s := by
  have hT : s.TypeIs (.ref e) "enumerate" := ⟨_, he, rfl⟩
  unfold pyNext
  refine wpAny_bind (wpAny_attempt (wpAny_callSpecial?_slot (name := Str.ofString "__next__") hT F.slot_enumerate_next
    (wpAny_call_entry F.slot_enumerate_next hT F.entry_enumerate_next ?_ (F.args_enumerate_next_1 _))))
  show wpAny _ _ (field (.ref e) 2 >>= _) _ _ _
  refine wpAny_bind (wpAny_field he rfl (x := .ref it) rfl ?_)
  refine wpAny_bind (wpAny_nextOf_tuple_end hh hit hl hx fun h' x he' hx' => ?_)
  obtain ⟨o, ho, hc⟩ := hx'
  refine wpAny_bind (wpAny_isInstance (T := "StopIteration") (b := true) ⟨o, ho, hc⟩ isSubtype_stop ?_)
  exact wpAny_pure (hQ _ he')
end
/-- the tuple at a, each item in a new pair -/
def Itet (K : PySem.W.Frag) (a : Addr) : It :=
  ⟨fun i H => ∃ (xs : List V) (x : V), SqT K H a xs ∧ xs[i]? = some x, fun i H v H' => ∃ T x, v = .ref T ∧ H T = none ∧ H' = upd H T (.tup [.int (i : Nat), x]) ∧ ∀ xs, SqT K H a xs → xs[i]? = some x, fun i H => ∃ xs : List V, SqT K H a xs ∧ xs.length ≤ i⟩
theorem turn_enumT {P : Program} {w : World} {K : PySem.W.Frag} {elts : List Expr} {kk : Nat} {tpos : Pos} (a e it : Addr) :
    Turn P w K (.Tuple elts kk tpos) (Itet K a) [e, it] e (fun i h => (∃ old, IsEnum h e it ((i : Nat) : Int) old) ∧ h.IsTupleIter it a i ∧ e ≠ it) where
  mem := by simp
  obj := fun i h st b hb => by
    obtain ⟨⟨old, he⟩, ⟨o, ho, hc, hd⟩, _⟩ := st
    have e' : b = e ∨ b = it := by simpa using hb
    rcases e' with z | z
    · rw [z]; exact ⟨_, he, fun v q => nomatch q⟩
    · rw [z]; exact ⟨o, ho, fun v q => by rw [hd] at q; cases q⟩
  keep := fun i h h' st k => let ⟨⟨old, he⟩, hi, hne⟩ := st; ⟨⟨old, k e (by simp) _ he⟩, hi.at fun o q => k it (by simp) o q, hne⟩
  item := by
    intro X hP hw hK hc i pins s σ H E I hf st hg
    subst hP hw hK
    obtain ⟨⟨old, he⟩, hit, hne⟩ := st
    obtain ⟨xs, x, hq, hx⟩ := hg
    obtain ⟨its, rv, p, hz⟩ := I.tuple hq
    obtain ⟨u, hu, ru⟩ := rv.get hx
    have p' : s.heap.IsTuple a its.toArray := p
    have hel : e < s.heap.objs.size := Heap.lt_size he
    have hil : it < s.heap.objs.size := by obtain ⟨_, q, _⟩ := hit; exact Heap.lt_size q
    have hai : a ≠ it := by
      rintro rfl
      obtain ⟨o1, q1, c1, _⟩ := id p'
      obtain ⟨o2, q2, c2, _⟩ := id hit
      rw [q1] at q2
      cases q2
      rw [c1] at c2
      exact absurd c2 (by decide)
    have hae : e ≠ a := by
      rintro rfl
      obtain ⟨o1, q1, c1, _⟩ := id p'
      have q2 := he
      unfold IsEnum at q2
      rw [q1] at q2
      cases q2
      exact absurd (show Value.type "enumerate" = Value.type "tuple" from c1) (by decide)
    have hin : i < its.toArray.size := by
      have := (List.getElem?_eq_some_iff.mp hu).1
      simpa using this
    refine wpAny_pyNext_enum_itemD (Draws.tuple (A := X.A.in1) (show X.A.in1.handled = none from I.ok.hd hc) it a hai its.toArray) he ⟨hit, p'⟩ hin hne (by simp [hne, hae]) fun u' h' tk hu' ho hit' hT hsz hk => ?_
    have eu : u' = u := by
      rw [List.getElem?_toArray, hu] at hu'
      exact (Option.some.inj hu').symm
    subst eu
    refine ⟨_, rfl, wpAny_letOwnedTupleGo_enum (s := { s with heap := h', toks := tk + 1 }) ho fun h'' he' sb => ?_⟩
    have hT2 : h''.get? s.heap.objs.size = some { cls := .type "tuple", data := .seq #[.int i tk, u'] } := (sb.2 _ (Nat.ne_of_gt hel)).trans hT
    have new : ObjOk X.prog X.w (upd H s.heap.objs.size (.tup [.int (i : Nat), x])) h'' s.heap.objs.size (.tup [.int (i : Nat), x]) :=
      ⟨by show 2 ≤ sizeLine; decide, [.int i tk, u'], .cons ⟨_, rfl⟩ (.cons ru .nil), ⟨_, hT2, rfl, _, rfl⟩⟩
    have I1 : Inv X pins σ (upd H s.heap.objs.size (.tup [.int (i : Nat), x])) { s with heap := h'', toks := tk + 1 } :=
      I.turnedNew (ch := [e, it]) (fun b ob hb q => (sb.2 b (fun z => hb (by simp [z]))).trans (hk b ob (fun z => hb (by simp [z])) (fun z => hb (by simp [z])) q)) hf (Nat.le_refl _) new
    refine ⟨.ref s.heap.objs.size, _, I1, rfl, ⟨_, x, rfl, I.hok.fresh (Nat.le_refl _), rfl, fun ys hy => by rw [I.tuple_inj hy hq]; exact hx⟩, ⟨⟨u', ?_⟩, hit'.1.at fun o q => (sb.2 it (Ne.symm hne)).trans q, hne⟩, fun b hb => ?_⟩
    · have e1 : ((i + 1 : Nat) : Int) = (i : Int) + 1 := by omega
      rw [e1]; exact he'
    · have hb' : b < s.heap.objs.size := by
        have e' : b = e ∨ b = it := by simpa using hb
        rcases e' with z | z
        · rw [z]; exact hel
        · rw [z]; exact hil
      rw [upd_ne (Nat.ne_of_lt hb')]
      exact (hf b hb).1
  done := by
    intro X hP hw hK hc i pins s σ H E I hf st hg
    subst hP hw hK
    obtain ⟨⟨old, he⟩, hit, hne⟩ := st
    obtain ⟨xs, hq, hx⟩ := hg
    obtain ⟨its, rv, p, hz⟩ := I.tuple hq
    have p' : s.heap.IsTuple a its.toArray := p
    have hai : a ≠ it := by
      rintro rfl
      obtain ⟨o1, q1, c1, _⟩ := id p'
      obtain ⟨o2, q2, c2, _⟩ := id hit
      rw [q1] at q2
      cases q2
      rw [c1] at c2
      exact absurd c2 (by decide)
    obtain ⟨f0, f1, f2, f3, f4, f5⟩ := hf it (by simp)
    have hl := rv.length
    exact enumT_end (I.ok.hd hc) he hit p' (by simp; omega) fun h' eb => ⟨rfl, I.turned (t' := s.toks) (fun b o hb q => eb b o hb q) f0 f1 f3 f4 f5⟩
  self := fun A i s Q E st h => let ⟨⟨_, he⟩, _⟩ := st; wpAny_pyIter_enum he h
section
variable {X : Cx} {e : Expr} {ta : TA} {p pos tpos : Pos} {elts : List Expr} {kk : Nat}
def iEnX (K : PySem.W.Frag) (ta : TA) : TI := fun σ H R => ta σ H fun vs H1 => IsE K vs H1 R ∨ ∃ a xs, vs = [.ref a] ∧ SqT K H1 a xs ∧ R (Itet K a) H1
theorem pi_enX (K : PySem.W.Frag) (hg : Gl X "enumerate") (hm : X.mg "enumerate" = none) (ha : PA X [e] ta) (hK : X.K = K := by rfl) (hs : starEach [e] X.env = [(false, eval e X.env)] := by rfl) :
    PI X (.Tuple elts kk tpos) (.Call (.Name "enumerate" p) [e] [] pos) (iEnX K ta) := by
  subst hK
  refine ⟨fun pins s σ H R I h => ?_⟩
  refine Call_ (ld_blt I hg hm boot_enumerate (PyProof.Rows.callWith_type1 (thn (ha.run pos pins s σ H _ I h) fun us s1 ⟨vs, H1, I1, r1, q1⟩ => ?_) hs rfl))
  have fp : ∀ b ∈ [s1.heap.objs.size + 1, s1.heap.objs.size], FpOk X pins H1 b := fun b hb => by
    have e' : b = s1.heap.objs.size + 1 ∨ b = s1.heap.objs.size := by simpa using hb
    have hle : s1.heap.objs.size ≤ b := by
      rcases e' with z | z
      · rw [z]; exact Nat.le_add_right _ _
      · rw [z]; exact Nat.le_refl _
    exact I1.fpOk hle (I1.hok.fresh hle)
  rcases q1 with ⟨a, xs, ex, hq, q⟩ | ⟨a, xs, ex, hq, q⟩
  · subst ex
    cases r1 with
    | cons r rr =>
      cases rr
      cases r
      obtain ⟨its, rv, p', hz⟩ := I1.list hq
      refine call_enumerate_list p'.isList fun h' he hit hsz hk => wpAny_pyIter_enum he ?_
      have I2 : Inv X pins σ H1 { s1 with heap := h' } := I1.kept (t' := s1.toks) hk
      exact ⟨s1.heap.objs.size + 1, [s1.heap.objs.size + 1, s1.heap.objs.size], _, _, H1, rfl, I2, turn_enum a (s1.heap.objs.size + 1) s1.heap.objs.size, ⟨⟨.none, he⟩, hit, Nat.succ_ne_self _⟩, fp, q⟩
  · subst ex
    cases r1 with
    | cons r rr =>
      cases rr
      cases r
      obtain ⟨its, rv, p', hz⟩ := I1.tuple hq
      refine call_enumB (begins_tuple a its.toArray) (show s1.heap.IsTuple a its.toArray from p') fun h' he hit hk => wpAny_pyIter_enum he ?_
      have I2 : Inv X pins σ H1 { s1 with heap := h' } := I1.kept (t' := s1.toks) hk
      exact ⟨s1.heap.objs.size + 1, [s1.heap.objs.size + 1, s1.heap.objs.size], _, _, H1, rfl, I2, turn_enumT a (s1.heap.objs.size + 1) s1.heap.objs.size, ⟨⟨.none, he⟩, ⟨_, hit, rfl, rfl⟩, Nat.succ_ne_self _⟩, fp, q⟩
end
theorem walk_enumT {K : PySem.W.Frag} {a : Addr} {xs : List V} : Walk (Itet K a) xs.length (fun H => SqT K H a xs) (YPair (fun i => some (.int (i : Nat))) (fun i => xs[i]?)) := by
  refine ⟨fun i _ hi q => ⟨xs, xs[i], q, by simp [hi]⟩, fun _ q => ⟨xs, q, Nat.le_refl _⟩, fun i H v H' _ q y => ?_⟩
  obtain ⟨T, x, h1, h2, h3, h4⟩ := y
  exact ⟨T, .int (i : Nat), x, h1, h2, h3, rfl, h4 xs q⟩
section
variable {σ : L2.St} {D H : Hp} {L : Own} {K : PySem.W.Frag} {Q : VK}
def IsEX (K : PySem.W.Frag) (vs : List V) (H1 : Hp) (R : It → Hp → Prop) : Prop := IsE K vs H1 R ∨ ∃ a xs, vs = [.ref a] ∧ SqT K H1 a xs ∧ R (Itet K a) H1
instance v_enX {tr : TA} {R : It → Hp → Prop} : VC (iEnX K tr σ H R) (tr σ H fun vs H1 => IsEX K vs H1 R) := ⟨fun h => h⟩
instance v_enXL {a : Addr} {xs : List V} {R : It → Hp → Prop} [S : Sx D L H] [ha : Sl K D L a xs] : VC (IsEX K [.ref a] H R) (R (Ite K a) H) := ⟨fun h => .inl ⟨a, xs, rfl, ha.pf.sq S, h⟩⟩
instance v_enXT {a : Addr} {xs : List V} {R : It → Hp → Prop} [S : Sx D L H] [k : Kn D a (.tup xs)] : VC (IsEX K [.ref a] H R) (R (Itet K a) H) := ⟨fun h => .inr ⟨a, xs, rfl, sqT S k.pf, h⟩⟩
end

/-! ## max of a list, list.index, isinstance of several classes, great products -/
section
variable {X : Cx}
def rMaxL (K : PySem.W.Frag) : List V → Hp → VK → Prop := rMax K
theorem cr_maxX (hc : X.calm = true) : CallR X (.builtin "max") (rMaxL X.K) := cr_max hc
def rIdx (K : PySem.W.Frag) : V → List V → Hp → VK → Prop := rIndex K
theorem mt_idx : MtR X "list.index" (rIdx X.K) := mt_index
def rIsiX (K : PySem.W.Frag) : List V → Hp → VK → Prop := fun xs H Q => rIsi K xs H Q ∨ rIsiT K xs H Q
theorem call_isiX : CallR X (.builtin "isinstance") (rIsiX X.K) := CallR.or call_isi call_isiT
def rMulZ (K : PySem.W.Frag) : R2 := fun x y H Q => rMulY K x y H Q ∨ rI CMulX (fun i j => .int (i * j)) x y H Q
theorem opMulZ : OpR X (binaryOp .Mult) (rMulZ X.K) := OpR.or opMulY op_mulX
end
section
variable {σ : L2.St} {D H : Hp} {L : Own} {K : PySem.W.Frag} {Q : VK}
/-- the greatest of some, the first place of it -/
def mxL : List Int → Int
  | [] => 0
  | [x] => x
  | x :: y :: r => max x (mxL (y :: r))
theorem mxL_mem : ∀ {ns : List Int}, ns ≠ [] → mxL ns ∈ ns
  | [], h => absurd rfl h
  | [x], _ => List.mem_singleton.mpr rfl
  | x :: y :: r, _ => by
    have ih := mxL_mem (ns := y :: r) (by simp)
    show max x (mxL (y :: r)) ∈ _
    rcases Int.le_total x (mxL (y :: r)) with h | h
    · rw [Int.max_eq_right h]
      exact List.mem_cons_of_mem _ ih
    · rw [Int.max_eq_left h]
      exact List.mem_cons_self
theorem mxL_ge : ∀ {ns : List Int} {x : Int}, x ∈ ns → x ≤ mxL ns
  | [x], z, h => by rw [List.mem_singleton.mp h]; exact Int.le_refl _
  | x :: y :: r, z, h => by
    show z ≤ max x (mxL (y :: r))
    rcases List.mem_cons.mp h with e | h
    · rw [e]
      exact Int.le_max_left _ _
    · exact Int.le_trans (mxL_ge h) (Int.le_max_right _ _)
theorem mxL_uniq {ns : List Int} {m : Int} (h1 : m ∈ ns) (h2 : ∀ y, y ∈ ns → y ≤ m) : m = mxL ns :=
  Int.le_antisymm (mxL_ge h1) (h2 _ (mxL_mem (by intro e; rw [e] at h1; cases h1)))
instance v_maxL {a : Addr} {xs : List V} {ns : List Int} [S : Sx D L H] [ha : Sl K D L a xs] [c : IsC xs ns] : VC (rMaxL K [.ref a] H Q) (0 < ns.length ∧ Q (.int (mxL ns)) H) :=
  ⟨fun h => ⟨a, ns, rfl, by rw [← c.pf]; exact ha.pf.sq S, h.1, fun m h1 h2 => by rw [mxL_uniq h1 h2]; exact h.2⟩⟩
/-- the first place -/
def ixL (z : Int) : List Int → Nat
  | [] => 0
  | x :: r => if x = z then 0 else ixL z r + 1
theorem ixL_get {z : Int} : ∀ {ns : List Int}, z ∈ ns → ns[ixL z ns]? = some z
  | x :: r, h => by
    show (x :: r)[if x = z then 0 else ixL z r + 1]? = some z
    by_cases e : x = z
    · rw [if_pos e, e]
      rfl
    · rw [if_neg e]
      rcases List.mem_cons.mp h with e2 | h
      · exact absurd e2.symm e
      · exact ixL_get h
theorem ixL_no {z : Int} : ∀ {ns : List Int} {m : Nat} {y : Int}, m < ixL z ns → ns[m]? = some y → y ≠ z
  | [], m, y, h, _ => by simp [ixL] at h
  | x :: r, m, y, h, e => by
    have h' : m < (if x = z then 0 else ixL z r + 1) := h
    by_cases c : x = z
    · rw [if_pos c] at h'
      exact absurd h' (Nat.not_lt_zero _)
    · rw [if_neg c] at h'
      cases m with
      | zero =>
        have e' : x = y := Option.some.inj e
        rw [← e']
        exact c
      | succ m => exact ixL_no (ns := r) (m := m) (by omega) (by simpa using e)
theorem ixL_lt {z : Int} {ns : List Int} (h : z ∈ ns) : ixL z ns < ns.length := (List.getElem?_eq_some_iff.mp (ixL_get h)).1
instance v_idx {a : Addr} {xs : List V} {ns : List Int} {z : Int} [S : Sx D L H] [ha : Sl K D L a xs] [c : IsC xs ns] : VC (rIdx K (.ref a) [.int z] H Q) (z ∈ ns ∧ Q (.int (ixL z ns)) H) :=
  ⟨fun h => by
    obtain ⟨hm, k⟩ := h
    refine ⟨a, ns.map V.int, .int z, ixL z ns, .int z, rfl, rfl, by rw [← c.pf]; exact ha.pf.sq S, rfl, ?_, mapI (ixL_get hm), ?_, fun m z' hm' hz' => ?_, k⟩
    · rw [List.all_map]
      exact List.all_eq_true.mpr fun _ _ => rfl
    · simp [eqV]
    · obtain ⟨y, hy, rfl⟩ := getI hz'
      have := ixL_no hm' hy
      simp [eqV, this]⟩
/-- several classes -/
class KsC (K : PySem.W.Frag) (t : String) (us : List V) (b : outParam Bool) : Prop where
  pf : ∃ ws : List Value, Paired ClsV us ws ∧ PySem.W.kitAny K (.type t) ws = some b
instance v_isiX1 {x : V} {t n : String} {b : Bool} [h : TyC K H x t] [k : KiC t n b] : VC (rIsiX K [x, .ty n] H Q) (Q (.bl b) H) := ⟨fun q => .inl (isi h.pf k.pf q)⟩
instance v_isiX2 {x : V} {t : String} {tp : Addr} {us : List V} {b : Bool} [S : Sx D L H] [kt : Kn D tp (.tup us)] [h : TyC K H x t] [k : KsC K t us b] : VC (rIsiX K [x, .ref tp] H Q) (Q (.bl b) H) :=
  ⟨fun q => by
    obtain ⟨ws, h1, h2⟩ := k.pf
    exact .inr ⟨x, tp, us, .type t, ws, b, rfl, S.dH _ _ kt.pf, h1, h.pf, h2, q⟩⟩
theorem ks2 {t n1 n2 : String} {b1 b2 : Bool} (h1 : kitB t n1 = some b1) (h2 : kitB t n2 = some b2) : PySem.W.kitAny K (.type t) [.type n1, .type n2] = some (b1 || b2) := by
  unfold PySem.W.kitAny
  rw [kit_ty h1]
  cases b1
  · unfold PySem.W.kitAny
    rw [kit_ty h2]
    cases b2
    · rfl
    · rfl
  · rfl
instance ks2ff {t n1 n2 : String} [h1 : KiC t n1 false] [h2 : KiC t n2 false] : KsC K t [.ty n1, .ty n2] false := ⟨[.type n1, .type n2], .cons (.ty _) (.cons (.ty _) .nil), ks2 h1.pf h2.pf⟩
instance ks2ft {t n1 n2 : String} [h1 : KiC t n1 false] [h2 : KiC t n2 true] : KsC K t [.ty n1, .ty n2] true := ⟨[.type n1, .type n2], .cons (.ty _) (.cons (.ty _) .nil), ks2 h1.pf h2.pf⟩
instance ks2tx {t n1 n2 : String} {b : Bool} [h1 : KiC t n1 true] [h2 : KiC t n2 b] : KsC K t [.ty n1, .ty n2] true := ⟨[.type n1, .type n2], .cons (.ty _) (.cons (.ty _) .nil), ks2 h1.pf h2.pf⟩
instance v_mulZ {i j : Int} : VC (rMulZ K (.int i) (.int j) H Q) (MulOk i j ∧ Q (.int (i * j)) H) := ⟨fun h => .inl (VC.pf h)⟩
end
end Fk

namespace Fk
open PySem PySem.Spec PyProof.Rows L2
/-! ## zip of a tuple and a list -/
def Itzm (K : PySem.W.Frag) (a b : Addr) : It :=
  ⟨fun i H => ∃ (xs ys : List V) (x y : V), SqT K H a xs ∧ SqL K H b ys ∧ xs[i]? = some x ∧ ys[i]? = some y,
    fun i H v H' => ∃ T x y, v = .ref T ∧ H T = none ∧ H' = upd H T (.tup [x, y]) ∧ (∀ xs, SqT K H a xs → xs[i]? = some x) ∧ ∀ ys, SqL K H b ys → ys[i]? = some y,
    fun i H => ∃ xs ys : List V, SqT K H a xs ∧ SqL K H b ys ∧ i ≤ xs.length ∧ i ≤ ys.length ∧ (i = xs.length ∨ i = ys.length)⟩
theorem turn_zipM {P : Program} {w : World} {K : PySem.W.Frag} {elts : List Expr} {kk : Nat} {tpos : Pos} {a b z TI TO i1 i2 : Addr} (hai : a ≠ i1) (hbi : b ≠ i2) (S : ZipSep2 z TI TO i1 i2 [i1, a] [i2, b]) :
    Turn P w K (.Tuple elts kk tpos) (Itzm K a b) [z, TI, TO, i1, i2] z (fun i h => IsZip h z TI TO .none ∧ IsTupOf2 h TI (.ref i1) (.ref i2) ∧ (∃ x y, IsTupOf2 h TO x y) ∧ h.IsTupleIter i1 a i ∧ h.IsListIter i2 b i) where
  mem := by simp
  obj := fun i h st c hc => by
    obtain ⟨hz, hTI, ⟨x, y, hTO⟩, ⟨o1, e1, _, d1⟩, ⟨o2, e2, _, d2⟩⟩ := st
    have e' : c = z ∨ c = TI ∨ c = TO ∨ c = i1 ∨ c = i2 := by simpa using hc
    rcases e' with q | q | q | q | q
    · rw [q]; exact ⟨_, hz, fun v q => nomatch q⟩
    · rw [q]; exact ⟨_, hTI, fun v q => nomatch q⟩
    · rw [q]; exact ⟨_, hTO, fun v q => nomatch q⟩
    · rw [q]; exact ⟨o1, e1, fun v q => by rw [d1] at q; cases q⟩
    · rw [q]; exact ⟨o2, e2, fun v q => by rw [d2] at q; cases q⟩
  keep := fun i h h' st k => by
    obtain ⟨hz, hTI, ⟨x, y, hTO⟩, h1, h2⟩ := st
    exact ⟨k z (by simp) _ hz, k TI (by simp) _ hTI, ⟨x, y, k TO (by simp) _ hTO⟩, h1.at fun o q => k i1 (by simp) o q, h2.at fun o q => k i2 (by simp) o q⟩
  item := by
    intro X hP hw hK hc i pins s σ H E I hf st hg
    subst hP hw hK
    obtain ⟨hz, hTI, ⟨x0, y0, hTO⟩, h1, h2⟩ := st
    obtain ⟨xs, ys, x, y, hqx, hqy, hx, hy⟩ := hg
    obtain ⟨its, rv, p, _⟩ := I.tuple hqx
    obtain ⟨its2, rv2, p2, _⟩ := I.list hqy
    obtain ⟨u, hu, ru⟩ := rv.get hx
    obtain ⟨u2, hu2, ru2⟩ := rv2.get hy
    have hzl : z < s.heap.objs.size := Heap.lt_size hz
    have n1 : i < its.toArray.size := by simpa using (List.getElem?_eq_some_iff.mp hu).1
    have n2 : i < its2.toArray.size := by simpa using (List.getElem?_eq_some_iff.mp hu2).1
    have hh := I.ok.hd hc
    refine wpAny_pyNext_zipD2_item S (Draws.tuple (A := X.A.in1) (show X.A.in1.handled = none from hh) i1 a hai its.toArray) (Draws.list (A := X.A.in1) (show X.A.in1.handled = none from hh) i2 b hbi its2.toArray) hz hTI hTO ⟨h1, p⟩ ⟨h2, p2.isList⟩ n1 n2
      fun v1 v2 h' tk hv1 hv2 z' TO' st1 st2 hT hsz hk => ?_
    have ev1 : v1 = u := by
      rw [List.getElem?_toArray, hu] at hv1
      exact (Option.some.inj hv1).symm
    have ev2 : v2 = u2 := by
      rw [List.getElem?_toArray, hu2] at hv2
      exact (Option.some.inj hv2).symm
    subst ev1 ev2
    refine ⟨_, rfl, wpAny_letOwnedTupleGo_zip (s := { s with heap := h', toks := tk }) z' fun h'' z'' sb => ?_⟩
    have hT2 : h''.get? s.heap.objs.size = some { cls := .type "tuple", data := .seq #[v1, v2] } := (sb.2 _ (Nat.ne_of_gt hzl)).trans hT
    have new : ObjOk X.prog X.w (upd H s.heap.objs.size (.tup [x, y])) h'' s.heap.objs.size (.tup [x, y]) :=
      ⟨by show 2 ≤ sizeLine; decide, [v1, v2], .cons ru (.cons ru2 .nil), ⟨_, hT2, rfl, _, rfl⟩⟩
    have I1 : Inv X pins σ (upd H s.heap.objs.size (.tup [x, y])) { s with heap := h'', toks := tk } :=
      I.turnedNew (t' := tk) (ch := [z, TI, TO, i1, i2]) (fun c o hb q => (sb.2 c (fun q' => hb (by simp [q']))).trans (hk c o (fun q' => hb (by simp [q'])) (fun q' => hb (by simp [q'])) (fun q' => hb (by simp [q'])) (fun q' => hb (by simp [q'])) q)) hf (Nat.le_refl _) new
    refine ⟨.ref s.heap.objs.size, _, I1, rfl, ⟨_, x, y, rfl, I.hok.fresh (Nat.le_refl _), rfl, fun l hl => by rw [I.tuple_inj hl hqx]; exact hx, fun l hl => by rw [I.list_inj hl hqy]; exact hy⟩, ⟨z'', ?_, ⟨v1, v2, ?_⟩, ?_, ?_⟩, fun c hcm => ?_⟩
    · exact (sb.2 _ S.TIz).trans (hk _ _ S.TIz S.TITO S.TIi1 S.TIi2 hTI)
    · exact (sb.2 _ S.TOz).trans TO'
    · exact st1.1.at fun o q => (sb.2 _ (Ne.symm S.zi1)).trans q
    · exact st2.1.at fun o q => (sb.2 _ (Ne.symm S.zi2)).trans q
    · have hlt : c < s.heap.objs.size := by
        have e' : c = z ∨ c = TI ∨ c = TO ∨ c = i1 ∨ c = i2 := by simpa using hcm
        rcases e' with q | q | q | q | q
        · rw [q]; exact hzl
        · rw [q]; exact Heap.lt_size hTI
        · rw [q]; exact Heap.lt_size hTO
        · rw [q]; obtain ⟨_, e1, _⟩ := h1; exact Heap.lt_size e1
        · rw [q]; obtain ⟨_, e2, _⟩ := h2; exact Heap.lt_size e2
      rw [upd_ne (Nat.ne_of_lt hlt)]
      exact (hf c hcm).1
  done := by
    intro X hP hw hK hc i pins s σ H E I hf st hg
    subst hP hw hK
    obtain ⟨hz, hTI, ⟨x0, y0, hTO⟩, h1, h2⟩ := st
    obtain ⟨xs, ys, hqx, hqy, l1, l2, hend⟩ := hg
    obtain ⟨its, rv, p, _⟩ := I.tuple hqx
    obtain ⟨its2, rv2, p2, _⟩ := I.list hqy
    have q1 := rv.length
    have q2 := rv2.length
    have z1 : its.toArray.size = xs.length := by simp [q1]
    have z2 : its2.toArray.size = ys.length := by simp [q2]
    have hh := I.ok.hd hc
    refine wpAny_pyNext_zipD2_end (i := i) S (Draws.tuple (A := X.A.in1) (show X.A.in1.handled = none from hh) i1 a hai its.toArray) (Draws.list (A := X.A.in1) (show X.A.in1.handled = none from hh) i2 b hbi its2.toArray) hz hTI hTO ⟨h1, p⟩ ⟨h2, p2.isList⟩ (by rw [z1]; exact l1) (by rw [z2]; exact l2) (by rw [z1, z2]; exact hend)
      fun h' tk hk => ⟨rfl, I.turnedL (t' := tk) (ch := [z, TI, TO, i1, i2]) (fun c o hb q =>
      hk c o (fun q' => hb (by simp [q'])) (fun q' => hb (by simp [q'])) (fun q' => hb (by simp [q'])) (fun q' => hb (by simp [q'])) q) hf⟩
  self := fun A i s Q E st h => wpAny_pyIter_zip st.1 h
def iZipM (K : PySem.W.Frag) (ta : TA) : TI := fun σ H R => ta σ H fun vs H1 => IsZ K vs H1 R ∨ ∃ a b xs ys, vs = [.ref a, .ref b] ∧ SqT K H1 a xs ∧ SqL K H1 b ys ∧ R (Itzm K a b) H1
theorem pi_zipM (K : PySem.W.Frag) {X : Cx} {e e2 : Expr} {ta : TA} {p pos tpos : Pos} {elts : List Expr} {kk : Nat} (hg : Gl X "zip") (hm : X.mg "zip" = none) (ha : PA X [e, e2] ta) (hK : X.K = K := by rfl)
    (hs : starEach [e, e2] X.env = (false, eval e X.env) :: starEach [e2] X.env := by rfl) (hpl : (backTo pos (starEach [e2] X.env)).any (·.1) = false := by rfl) :
    PI X (.Tuple elts kk tpos) (.Call (.Name "zip" p) [e, e2] [] pos) (iZipM K ta) := by
  subst hK
  refine ⟨fun pins s σ H R I h => ?_⟩
  refine Call_ (ld_blt I hg hm PyProof.Rows.boot_zip (PyProof.Rows.callWith_type1 (thn (ha.run pos pins s σ H _ I h) fun us s1 ⟨vs, H1, I1, r1, q1⟩ => ?_) hs hpl))
  have fresh5 : ∀ c, c ∈ [s1.heap.objs.size + 4, s1.heap.objs.size + 2, s1.heap.objs.size + 3, s1.heap.objs.size, s1.heap.objs.size + 1] → FpOk X pins H1 c := fun c hcm => by
    have e' : c = s1.heap.objs.size + 4 ∨ c = s1.heap.objs.size + 2 ∨ c = s1.heap.objs.size + 3 ∨ c = s1.heap.objs.size ∨ c = s1.heap.objs.size + 1 := by simpa using hcm
    have hle : s1.heap.objs.size ≤ c := by
      rcases e' with z | z | z | z | z
      · rw [z]; exact Nat.le_add_right _ _
      · rw [z]; exact Nat.le_add_right _ _
      · rw [z]; exact Nat.le_add_right _ _
      · rw [z]; exact Nat.le_refl _
      · rw [z]; exact Nat.le_add_right _ _
    exact I1.fpOk hle (I1.hok.fresh hle)
  rcases q1 with ⟨a, b, xs, ys, ex, q1⟩ | ⟨a, b, xs, ys, ex, hqx, hqy, q⟩
  · subst ex
    cases r1 with
    | cons r rr =>
      cases rr with
      | cons r' rr =>
        cases rr
        cases r
        cases r'
        rcases q1 with ⟨hqx, hqy, q⟩ | ⟨hqx, hqy, q⟩
        · obtain ⟨its, rv, p1, _⟩ := I1.list hqx
          obtain ⟨its2, rv2, p2, _⟩ := I1.list hqy
          refine call_zip_2 p1.isList p2.isList fun h' hz hTI hTO h1 h2 hsz hk => wpAny_pyIter_zip hz ?_
          have I2 : Inv X pins σ H1 { s1 with heap := h' } := I1.kept (t' := s1.toks) hk
          exact ⟨s1.heap.objs.size + 4, [s1.heap.objs.size + 4, s1.heap.objs.size + 2, s1.heap.objs.size + 3, s1.heap.objs.size, s1.heap.objs.size + 1], _, _, H1, rfl, I2, turn_zip (PySem.W.ktu_apart s1.heap.objs.size a b p1.lt p2.lt), ⟨hz, hTI, ⟨_, _, hTO⟩, h1, h2⟩, fresh5, q⟩
        · obtain ⟨its, rv, p1, _⟩ := I1.tuple hqx
          obtain ⟨its2, rv2, p2, _⟩ := I1.tuple hqy
          obtain ⟨o1, ho1, _⟩ := id p1
          obtain ⟨o2, ho2, _⟩ := id p2
          refine RZ.call_zipT (show s1.heap.IsTuple a its.toArray from p1) (show s1.heap.IsTuple b its2.toArray from p2) fun h' hz hTI hTO h1 h2 hsz hk => wpAny_pyIter_zip hz ?_
          have I2 : Inv X pins σ H1 { s1 with heap := h' } := I1.kept (t' := s1.toks) hk
          exact ⟨s1.heap.objs.size + 4, [s1.heap.objs.size + 4, s1.heap.objs.size + 2, s1.heap.objs.size + 3, s1.heap.objs.size, s1.heap.objs.size + 1], _, _, H1, rfl, I2, RZ.turn_zipT (PySem.W.ktu_apart s1.heap.objs.size a b (Heap.lt_size ho1) (Heap.lt_size ho2)), ⟨hz, hTI, ⟨_, _, hTO⟩, h1, h2⟩, fresh5, q⟩
  · subst ex
    cases r1 with
    | cons r rr =>
      cases rr with
      | cons r' rr =>
        cases rr
        cases r
        cases r'
        obtain ⟨its, rv, p1, _⟩ := I1.tuple hqx
        obtain ⟨its2, rv2, p2, _⟩ := I1.list hqy
        obtain ⟨o1, ho1, _⟩ := id p1
        have la : a < s1.heap.objs.size := Heap.lt_size ho1
        have lb : b < s1.heap.objs.size := p2.lt
        refine zip_begins2 (begins_tuple a its.toArray) (begins_list b its2.toArray) (show s1.heap.IsTuple a its.toArray from p1) p2.isList fun h' hz hTI hTO h1 h2 hsz hk => wpAny_pyIter_zip hz ?_
        have I2 : Inv X pins σ H1 { s1 with heap := h' } := I1.kept (t' := s1.toks) hk
        exact ⟨s1.heap.objs.size + 4, [s1.heap.objs.size + 4, s1.heap.objs.size + 2, s1.heap.objs.size + 3, s1.heap.objs.size, s1.heap.objs.size + 1], _, _, H1, rfl, I2,
          turn_zipM (Nat.ne_of_lt la) (Nat.ne_of_lt (Nat.lt_succ_of_lt lb)) (zip_sep2 (N := s1.heap.objs.size) (fp1 := [a]) (fp2 := [b]) (fun c hc => by rw [List.mem_singleton.mp hc]; exact la) (fun c hc => by rw [List.mem_singleton.mp hc]; exact lb)),
          ⟨hz, hTI, ⟨_, _, hTO⟩, ⟨_, h1, rfl, rfl⟩, ⟨_, h2, rfl, rfl⟩⟩, fresh5, q⟩
theorem walk_zipM {K : PySem.W.Frag} {a b : Addr} {xs ys : List V} {n : Nat} (hn : n = min xs.length ys.length) : Walk (Itzm K a b) n (fun H => SqT K H a xs ∧ SqL K H b ys) (YPair (fun i => xs[i]?) (fun i => ys[i]?)) := by
  subst hn
  refine ⟨fun i H hi q => ?_, fun H q => ⟨xs, ys, q.1, q.2, by omega, by omega, by omega⟩, fun i H v H' hi q y => ?_⟩
  · have k1 : i < xs.length := by omega
    have k2 : i < ys.length := by omega
    exact ⟨xs, ys, xs[i], ys[i], q.1, q.2, by simp [k1], by simp [k2]⟩
  · obtain ⟨T, x, z, e1, e2, e3, e4, e5⟩ := y
    exact ⟨T, x, z, e1, e2, e3, e4 xs q.1, e5 ys q.2⟩
section
variable {σ : L2.St} {D H : Hp} {L : Own} {K : PySem.W.Frag} {Q : VK}
def IsZM (K : PySem.W.Frag) (vs : List V) (H1 : Hp) (R : It → Hp → Prop) : Prop := IsZ K vs H1 R ∨ ∃ a b xs ys, vs = [.ref a, .ref b] ∧ SqT K H1 a xs ∧ SqL K H1 b ys ∧ R (Itzm K a b) H1
instance v_zipM {tr : TA} {R : It → Hp → Prop} : VC (iZipM K tr σ H R) (tr σ H fun vs H1 => IsZM K vs H1 R) := ⟨fun h => h⟩
instance v_zipMLL {a b : Addr} {xs ys : List V} {R : It → Hp → Prop} [S : Sx D L H] [ha : Sl K D L a xs] [hb : Sl K D L b ys] : VC (IsZM K [.ref a, .ref b] H R) (R (Itz K a b) H) := ⟨fun h => .inl (VC.pf h)⟩
instance v_zipMTT {a b : Addr} {xs ys : List V} {R : It → Hp → Prop} [S : Sx D L H] [ha : Kn D a (.tup xs)] [hb : Kn D b (.tup ys)] : VC (IsZM K [.ref a, .ref b] H R) (R (RZ.ItzT K a b) H) := ⟨fun h => .inl (VC.pf h)⟩
instance v_zipMTL {a b : Addr} {xs ys : List V} {R : It → Hp → Prop} [S : Sx D L H] [ha : Kn D a (.tup xs)] [hb : Sl K D L b ys] : VC (IsZM K [.ref a, .ref b] H R) (R (Itzm K a b) H) := ⟨fun h => .inr ⟨a, b, xs, ys, rfl, sqT S ha.pf, hb.pf.sq S, h⟩⟩
end
section
variable {H : Hp} {Q : VK}
instance v_isNn : VC (rIsN .non .non H Q) (Q (.bl true) H) := ⟨fun h => ⟨rfl, h⟩⟩
instance v_isNi {i : Int} : VC (rIsN (.int i) .non H Q) (Q (.bl false) H) := ⟨fun h => ⟨rfl, h⟩⟩
instance v_isNr {a : Addr} : VC (rIsN (.ref a) .non H Q) (Q (.bl false) H) := ⟨fun h => ⟨rfl, h⟩⟩
instance v_isNb {b : Bool} : VC (rIsN (.bl b) .non H Q) (Q (.bl false) H) := ⟨fun h => ⟨rfl, h⟩⟩
instance v_notNn : VC (rNotN .non .non H Q) (Q (.bl false) H) := ⟨fun h => ⟨rfl, h⟩⟩
instance v_notNi {i : Int} : VC (rNotN (.int i) .non H Q) (Q (.bl true) H) := ⟨fun h => ⟨rfl, h⟩⟩
instance v_notNr {a : Addr} : VC (rNotN (.ref a) .non H Q) (Q (.bl true) H) := ⟨fun h => ⟨rfl, h⟩⟩
instance v_notNb {b : Bool} : VC (rNotN (.bl b) .non H Q) (Q (.bl true) H) := ⟨fun h => ⟨rfl, h⟩⟩
instance v_mulXI {i j : Int} : VC (rI CMulX (fun i j => .int (i * j)) (.int i) (.int j) H Q) (CMulX i j ∧ Q (.int (i * j)) H) := ⟨fun k => ⟨i, j, rfl, rfl, k⟩⟩
end
theorem Rds.push {K : PySem.W.Frag} {D : Hp} {L : Own} {a : Addr} {xs : List V} {x : Addr × HO} (h : Rds K D L a xs) : Rds K D (x :: L) a xs := by
  rcases h with ⟨n, h⟩ | h
  · exact .inl ⟨n + 1, by simpa using h⟩
  · exact .inr h
theorem Rds.upD {K : PySem.W.Frag} {D D' : Hp} {L : Own} {a : Addr} {xs : List V} {x : Addr × HO} (e : Sm D D') (h : Rds K D L a xs) : Rds K D' (x :: L) a xs := by
  rcases h with ⟨n, h⟩ | h
  · exact .inl ⟨n + 1, by simpa using h⟩
  · exact .inr (e.e.seq h)
/-- read lists stay so -/
instance (priority := low) slPush {K : PySem.W.Frag} {D : Hp} {L : Own} {a : Addr} {xs : List V} {x : Addr × HO} [h : Sl K D L a xs] : Sl K D (x :: L) a xs := ⟨h.pf.push⟩
section
variable {H : Hp} {Q : VK} {K : PySem.W.Frag} {D : Hp} {L : Own}
theorem r_eqB {b c : Bool} (k : Q (.bl (b == c)) H) : rEqX K (.bl b) (.bl c) H Q := .inl ⟨rfl, by
  have e : decide (V.bl b = V.bl c) = (b == c) := by cases b <;> cases c <;> decide
  rw [e]; exact k⟩
theorem r_neB {b c : Bool} (k : Q (.bl (b != c)) H) : rNeX K (.bl b) (.bl c) H Q := .inl ⟨rfl, by
  have e : (!decide (V.bl b = V.bl c)) = (b != c) := by cases b <;> cases c <;> decide
  rw [e]; exact k⟩
instance v_eqTt : VC (rEqX K (.bl true) (.bl true) H Q) (Q (.bl true) H) := ⟨fun h => r_eqB h⟩
instance v_eqFf : VC (rEqX K (.bl false) (.bl false) H Q) (Q (.bl true) H) := ⟨fun h => r_eqB h⟩
instance v_eqTf : VC (rEqX K (.bl true) (.bl false) H Q) (Q (.bl false) H) := ⟨fun h => r_eqB h⟩
instance v_eqFt : VC (rEqX K (.bl false) (.bl true) H Q) (Q (.bl false) H) := ⟨fun h => r_eqB h⟩
instance v_neTt : VC (rNeX K (.bl true) (.bl true) H Q) (Q (.bl false) H) := ⟨fun h => r_neB h⟩
instance v_neFf : VC (rNeX K (.bl false) (.bl false) H Q) (Q (.bl false) H) := ⟨fun h => r_neB h⟩
instance v_neTf : VC (rNeX K (.bl true) (.bl false) H Q) (Q (.bl true) H) := ⟨fun h => r_neB h⟩
instance v_neFt : VC (rNeX K (.bl false) (.bl true) H Q) (Q (.bl true) H) := ⟨fun h => r_neB h⟩
instance (priority := low) v_eqBr {b : Bool} : VC (rEqX K (.bl b) (.bl b) H Q) (Q (.bl true) H) := ⟨fun h => r_eqB (by rw [beq_self_eq_true]; exact h)⟩
end
theorem Rdl.rds {K : PySem.W.Frag} {D : Hp} {L : Own} {a : Addr} {xs : List V} (h : Rdl D L a xs) : Rds K D L a xs := by
  rcases h with h | h
  · exact .inl h
  · exact .inr (.of h)
theorem Rdl.push {D : Hp} {L : Own} {a : Addr} {xs : List V} {x : Addr × HO} (h : Rdl D L a xs) : Rdl D (x :: L) a xs := by
  rcases h with ⟨n, h⟩ | h
  · exact .inl ⟨n + 1, by simpa using h⟩
  · exact .inr h
instance (priority := low) mlPush {D : Hp} {L : Own} {a : Addr} {xs : List V} {x : Addr × HO} [h : Ml D L a xs] : Ml D (x :: L) a xs := ⟨h.pf.push⟩
theorem Rdl.up {D D' : Hp} {L : Own} {a : Addr} {xs : List V} (e : Sm D D') (h : Rdl D L a xs) : Rdl D' L a xs := by
  rcases h with h | h
  · exact .inl h
  · exact .inr (e.e _ _ h)
instance (priority := low) mlUp {D D' : Hp} {L : Own} {a : Addr} {xs : List V} [s : Sm D D'] [h : Ml D L a xs] : Ml D' L a xs := ⟨h.pf.up s⟩
/-- a read list is a list -/
instance (priority := low) slMl {K : PySem.W.Frag} {D : Hp} {L : Own} {a : Addr} {xs : List V} [h : Ml D L a xs] : Sl K D L a xs := ⟨h.pf.rds⟩
end Fk

namespace Fk
open PySem PySem.Spec PyProof.Rows L2
/-! ## a tuple not at all; rows of truths -/
theorem tupMul0 (l : Addr) (its : Array Value) (n : Nat) (dd : Option Addr) (sl : Array (Option Value)) (u : Tok) (hi : its.isEmpty = false) :
    Meets (Builtin.«tuple.__mul__» ⟨[.ref l, .int 0 u], []⟩) (fun _ R s => s.heap.get? l = some { cls := .type "tuple", dict := dd, data := .seq its n, slots := sl } ∧
      R (.ok (.ret (Value.ref s.heap.objs.size))) { s with heap := s.heap.push { cls := Value.type "tuple", data := Data.seq #[] }, toks := s.toks }) :=
  .of_wp fun prog w A R s h => by
    obtain ⟨hp, g, d, tk, os⟩ := s
    obtain ⟨hl, h⟩ := h
    have f1 := AutoSeq1.idx_int
    have c1 : (its.isEmpty || (0 : Int) == 1) = false := by rw [hi]; rfl
    have c2 : (decide ((0 : Int) ≤ 0) || its.isEmpty) = true := by simp
    wp_walk using wpAny_loadPart' hl
    repeat (first
      | (refine wpAny_ite_false (decide_eq_false (by rw [c1]; exact Bool.false_ne_true)) ?_; wp_walk using wpAny_loadPart' hl)
      | (refine wpAny_ite_true (decide_eq_true (by rw [c2])) ?_; wp_walk using wpAny_loadPart' hl)
      | (refine wpAny_ite_false (decide_eq_false (by decide)) ?_; wp_walk using wpAny_loadPart' hl))
    all_goals first | exact ⟨_, rfl, h⟩ | trace_state
def rRep0 (K : PySem.W.Frag) : R2 := fun x y H Q => ∃ l xs, x = .ref l ∧ y = .int 0 ∧ SqT K H l xs ∧ xs ≠ [] ∧ ∀ p, H p = none → Q (.ref p) (upd H p (.tup []))
section
variable {X : Cx}
theorem op_rep0 : OpR X (binaryOp .Mult) (rRep0 X.K) := by
  intro pins s σ H x y v u Q I rx ry h
  obtain ⟨l, xs, rfl, rfl, hT, hne, q⟩ := h
  cases rx
  obtain ⟨t, rfl⟩ := ry
  obtain ⟨its, r, ⟨⟨cls, dd, data, sl⟩, ho, hc, n, hd⟩, hs⟩ := I.tuple hT
  simp only at hc hd
  subst hc hd
  have hle : its.length = xs.length := r.length.symm
  have hi : its.toArray.isEmpty = false := by
    cases its with
    | nil => exact absurd (List.eq_nil_of_length_eq_zero hle.symm) hne
    | cons a b => rfl
  refine wpAny_binaryOp_repeat_ref (T := "tuple") (U := "int") (by decide) ⟨_, ho, rfl⟩ (fun s' => typeIs_int s' 0 t)
    noFill_tuple_mul F.fills_int_mul F.slot_int_rmul repeat_tuple F.slot_int_index.lookup ?_
  refine call_meets F.slot_int_rmul (typeIs_int s 0 t) F.entry_int_rmul (F.args_int_rmul_2 _ _)
    (int_rmul_tuple 0 t l its.toArray n dd sl) ⟨ho, rfl, ⟨_, ho, rfl⟩, ?_⟩
  refine call_meets F.slot_tuple_mul ⟨_, ho, rfl⟩ F.entry_tuple_mul (F.args_tuple_mul_2 _ _) (tupMul0 l its.toArray n dd sl t hi) ⟨ho, ?_⟩
  refine ⟨.ref s.heap.objs.size, _, I.laid (t' := s.toks) (o := .tup []) (fun b ob q => Heap.get?_push_of_some _ q) (Nat.le_refl _) ?_, rfl, q _ (I.hok.fresh (Nat.le_refl _))⟩
  exact ⟨Nat.zero_le _, [], .nil, IsTup.new _ _⟩
def rMulV (K : PySem.W.Frag) : R2 := fun x y H Q => rMulY K x y H Q ∨ rRep0 K x y H Q
theorem opMulV : OpR X (binaryOp .Mult) (rMulV X.K) := OpR.or opMulY op_rep0
end
section
variable {σ : L2.St} {D H : Hp} {L : Own} {K : PySem.W.Frag} {Q : VK}
instance v_mulVI {i j : Int} : VC (rMulV K (.int i) (.int j) H Q) (MulOk i j ∧ Q (.int (i * j)) H) := ⟨fun h => .inl (VC.pf h)⟩
instance v_mulVL {a : Addr} {x : V} {n : Int} [S : Sx D L H] [ha : Ml D L a [x]] : VC (rMulV K (.ref a) (.int n) H Q) ((-1000000 ≤ n ∧ n ≤ 1000000) ∧ ∀ p H', Sx D ((p, .lst (List.replicate n.toNat x)) :: L) H' → Q (.ref p) H') := ⟨fun h => .inl (VC.pf h)⟩
instance v_mulVT {a : Addr} {x : V} {n : Int} [S : Sx D L H] [ha : Kn D a (.tup [x])] : VC (rMulV K (.ref a) (.int n) H Q) ((0 ≤ n ∧ n ≤ 1000) ∧ ∀ p D' H', Sx D' L H' → Sm D D' → Kn D' p (.tup (List.replicate n.toNat x)) → Q (.ref p) H') := ⟨fun h => by
  by_cases c : n = 0
  · subst c
    exact .inr ⟨a, [x], rfl, rfl, sqT S ha.pf, by simp, fun p hp => h.2 p _ _ (S.fix hp) ⟨same_upd (S.dH.free hp)⟩ ⟨upd_same⟩⟩
  · exact .inl (VC.pf ⟨⟨by omega, h.1.2⟩, h.2⟩)⟩
end
/-- tuples of truths -/
def TbA (D : Hp) (us : List V) (bss : List (List Bool)) : Prop := us.length = bss.length ∧ ∀ (i : Nat) (u : V) (bs : List Bool), us[i]? = some u → bss[i]? = some bs → ∃ b, u = .ref b ∧ Kn D b (.tup (bs.map V.bl))
theorem TbA.nil {D : Hp} : TbA D [] [] := ⟨rfl, fun i u bs h => by simp at h⟩
theorem TbA.up {D D' : Hp} {us : List V} {bss : List (List Bool)} (e : Sm D D') (h : TbA D us bss) : TbA D' us bss := ⟨h.1, fun i u bs h1 h2 => by
  obtain ⟨b, e1, k⟩ := h.2 i u bs h1 h2
  exact ⟨b, e1, ⟨e.e _ _ k.pf⟩⟩⟩
theorem TbA.app {D : Hp} {us ws : List V} {bss css : List (List Bool)} (h : TbA D us bss) (k : TbA D ws css) : TbA D (us ++ ws) (bss ++ css) := by
  refine ⟨by rw [List.length_append, List.length_append, h.1, k.1], fun i u bs h1 h2 => ?_⟩
  by_cases c : i < us.length
  · rw [List.getElem?_append_left c] at h1
    rw [List.getElem?_append_left (by rw [← h.1]; exact c)] at h2
    exact h.2 i u bs h1 h2
  · rw [List.getElem?_append_right (by omega)] at h1
    rw [List.getElem?_append_right (by rw [← h.1]; omega)] at h2
    rw [← h.1] at h2
    exact k.2 _ u bs h1 h2
theorem TbA.one {D : Hp} {b : Addr} {bs : List Bool} (k : Kn D b (.tup (bs.map V.bl))) : TbA D [.ref b] [bs] := ⟨rfl, fun i u cs h1 h2 => by
  cases i with
  | zero =>
    simp at h1 h2
    subst h1 h2
    exact ⟨b, rfl, k⟩
  | succ i => simp at h1⟩
theorem TbA.rep {D : Hp} {b : Addr} {bs : List Bool} (k : Kn D b (.tup (bs.map V.bl))) (n : Nat) : TbA D (List.replicate n (.ref b)) (List.replicate n bs) := ⟨by rw [List.length_replicate, List.length_replicate], fun i u cs h1 h2 => by
  have e1 := (List.mem_replicate.mp (List.mem_of_getElem? h1)).2
  have e2 := (List.mem_replicate.mp (List.mem_of_getElem? h2)).2
  subst e1 e2
  exact ⟨b, rfl, k⟩⟩
end Fk

namespace Fk
open PySem PySem.Spec PyProof.Rows L2
/-! ## errors -/
/-- a class of the text as a value -/
structure ClC (K : PySem.W.Frag) (mg : Str → Option Value) (x : Str) (C : Addr) : Prop where
  ns : PySem.W.nsIn K mainGlobals x = some (some (.ref C))
  g : mg x = some (.ref C)
/-- .. an error of it can be made with a text, and raised -/
structure RzC (K : PySem.W.Frag) (C : Addr) : Prop where
  kp : PySem.W.keepIn K (.ref C) = true
  ex : PySem.W.excIn K C [.type "ValueError", .type "Exception", .type "BaseException", .type "object"] "ValueError.__new__" = true
  b : PySem.W.subIn K (.ref C) (.type "BaseException") = some true
  t : PySem.W.typeIn K (.ref C) = some (.type "type")
def tRz (W : WX) (C : Addr) : TS := fun _ σ H => W (.ref C) none σ H
theorem ps_rz {X : Cx} {W : WX} {C : Addr} {x m : Str} {j : Nat} {p p2 pos pos2 : Pos} (k : ClC X.K X.mg x C) (R : RzC X.K C) (hg : Gl X x) (tk : Takes X W) (hc : X.calm = true := by rfl) (hdb : (x == ("__debug__" : Str)) = false := by decide) :
    PS X (.Raise (some (.Call (.Name x p) [.Constant (.str m) j p2] [] pos)) none pos2) (tRz W C) :=
  ps_raise hc tk (pmk_own PySem.F.excBase_ValueError R.ex k.g R.kp (raises_own R.b R.t) hg hdb)
theorem pe_clS {X : Cx} {W : WX} {x : Str} {k j : Nat} {ps : List Str} {sp : Sp} {p pos : Pos} {e : Expr} {es : List Expr} {t : TA} (C : Cl X.prog X.w X.K X.mg X.base (L2.CX X.prog X.w) k x ps sp) (hr : Room j X.A) (hk : k ≤ j) (hg : Gl X x) (tk : Takes X W)
    (ha : PA X (e :: es) t) (hdb : (x == ("__debug__" : Str)) = false := by decide) (he : starEach (e :: es) X.env = (false, eval e X.env) :: starEach es X.env := by rfl) (hpl : (backTo pos (starEach es X.env)).any (·.1) = false := by rfl) :
    PE X (.Call (.Name x p) (e :: es) [] pos) (tCallS sp (WE W) t) := by
  obtain ⟨f, fd, F, hm, kp, hb⟩ := C.ex
  exact pe_callS F (hr.mono hk) hg hm kp hb (passAt tk) ha hdb he hpl
/-- a def that never raises, among those that may -/
theorem FnOk.toX {P : Program} {w : World} {K : PySem.W.Frag} {mg : Str → Option Value} {base : Heap} {k : Nat} {f : Addr} {fd : FuncData} {ps : List Str} {sp : Sp} (F : FnOk P w K mg base CX0 k f fd ps sp) :
    FnOk P w K mg base (L2.CX P w) k f fd ps (fun vs H Q _ => sp vs H Q E0) :=
  ⟨fun vs H Q E q => F.len vs H Q E0 q, fun A outer s H args us vs Q E hr he hb hv hs => codeAny_mono (F.run A outer s H args us vs Q E0 hr he hb hv hs) fun r s' h => by
    cases r with
    | error e => exact False.elim h
    | ok u => cases u <;> exact h⟩
theorem FnOk.join {P : Program} {w : World} {K : PySem.W.Frag} {mg : Str → Option Value} {base : Heap} {k j n : Nat} {f : Addr} {fd : FuncData} {ps : List Str} {sp sp2 : Sp} (F : FnOk P w K mg base CX0 k f fd ps sp) (G : FnOk P w K mg base (L2.CX P w) j f fd ps sp2) (hk : k ≤ n) (hj : j ≤ n) :
    FnOk P w K mg base (L2.CX P w) n f fd ps (fun vs H Q E => sp vs H Q E0 ∨ sp2 vs H Q E) :=
  ⟨fun vs H Q E q => by
    rcases q with q | q
    · exact F.len vs H Q E0 q
    · exact G.len vs H Q E q, fun A outer s H args us vs Q E hr he hb hv hs => by
    rcases hs with hs | hs
    · exact (FnOk.toX F).run A outer s H args us vs Q E (hr.mono hk) he hb hv hs
    · exact G.run A outer s H args us vs Q E (hr.mono hj) he hb hv hs⟩
section
variable {σ : L2.St} {D H : Hp} {L : Own} {K : PySem.W.Frag} {Q : VK}
instance v_rz {W : WX} {C : Addr} {Es : Ends} : VC (tRz W C Es σ H) (W (.ref C) none σ H) := ⟨fun h => h⟩
instance v_callS {sp : Sp} {E : L2.St → XK} {tr : TA} : VC (tCallS sp E tr σ H Q) (tr σ H fun vs H1 => sp vs H1 Q (E σ)) := ⟨fun h => h⟩
end
/-! isinstance of the caught error -/
def rIsES (K : PySem.W.Frag) (a : Addr) (cls : Value) (d : Option Addr) : List V → Hp → VK → Prop := fun xs H Q => ∃ (D : Addr), cls = .ref D ∧ d = none ∧ ExcC K D ∧
  ((∃ (c : V) (cv : Value) (b : Bool), xs = [.ref a, c] ∧ ClsV c cv ∧ PySem.W.kitOne K (.ref D) cv = some b ∧ Q (.bl b) H) ∨
   ∃ (tp : Addr) (cs : List V) (us : List Value) (b : Bool), xs = [.ref a, .ref tp] ∧ H tp = some (.tup cs) ∧ Paired ClsV cs us ∧ PySem.W.kitAny K (.ref D) us = some b ∧ Q (.bl b) H)
theorem call_isES {X : Cx} {a : Addr} {oe : Obj} {cls : Value} {d : Option Addr} {pn : List (Addr × Obj)} (hz : Zc cls d oe) (hf : ∃ vs, oe.data = .fields vs) : CallR (X.suite a ((a, oe) :: pn)) (.builtin "isinstance") (rIsES X.K a cls d) := by
  intro pins s σ H xs us Q I r h
  obtain ⟨D, rfl, rfl, C, h⟩ := h
  rcases h with ⟨c, cv, b, rfl, hcv, e, q⟩ | ⟨tp, cs, ws, b, rfl, hT, kp, e, q⟩
  · exact call_isE C hz hf pins s σ H _ us Q I r ⟨c, cv, b, rfl, fun u ru => hcv.eq ru, e, q⟩
  · obtain ⟨u1, u2, rfl, r1, r2⟩ := vals2 r
    cases (show u1 = Value.ref a from r1)
    cases (show u2 = Value.ref tp from r2)
    obtain ⟨hget, _⟩ := I.pin (a, oe) (List.mem_append.mpr (.inl List.mem_cons_self))
    obtain ⟨vs, hv⟩ := hf
    have J : PySem.W.InstAt s.heap a oe D none := by
      obtain ⟨oc, od, oda, osl⟩ := oe
      obtain ⟨h1, h2⟩ := hz
      dsimp only at h1 h2 hv
      subst h1 h2 hv
      exact ⟨hget, rfl, rfl, trivial⟩
    obtain ⟨_, its, rv, o, h1, h2, n, h3⟩ := (show ObjOk X.prog X.w H s.heap tp (.tup cs) from I.hok tp _ hT)
    have e3 := ClsV.all kp rv
    subst e3
    obtain ⟨oc, od, dt, sl⟩ := o
    simp only at h2 h3
    subst h2 h3
    exact PySem.W.kia_tup (PySem.W.handS_kitx_exc C.hg C.hk C.hs C.hd C.ha C.hn C.ht C.hm) I.kIn J h1 e (fun z => nomatch z) fun tk => ⟨.bl b, H, I.kept (t' := tk) fun _ _ z => z, rfl, q⟩
class ExC (K : PySem.W.Frag) (D : Addr) : Prop where
  pf : ExcC K D
class KtO (K : PySem.W.Frag) (D : Addr) (c : V) (b : outParam Bool) : Prop where
  pf : ∃ cv, ClsV c cv ∧ PySem.W.kitOne K (.ref D) cv = some b
class KtA (K : PySem.W.Frag) (D : Addr) (cs : List V) (b : outParam Bool) : Prop where
  pf : ∃ us, Paired ClsV cs us ∧ PySem.W.kitAny K (.ref D) us = some b
theorem KtO.own {K : PySem.W.Frag} {D C : Addr} {b : Bool} (h : PySem.W.kitOne K (.ref D) (.ref C) = some b) : KtO K D (.ref C) b := ⟨_, .own C, h⟩
theorem KtO.ty {K : PySem.W.Frag} {D : Addr} {n : String} {b : Bool} (h : PySem.W.kitOne K (.ref D) (.type n) = some b) : KtO K D (.ty n) b := ⟨_, .ty n, h⟩
instance kta0 {K : PySem.W.Frag} {D : Addr} : KtA K D [] false := ⟨[], .nil, rfl⟩
instance ktaF {K : PySem.W.Frag} {D : Addr} {c : V} {cs : List V} {b : Bool} [h : KtO K D c false] [t : KtA K D cs b] : KtA K D (c :: cs) b := by
  obtain ⟨cv, h1, h2⟩ := h.pf
  obtain ⟨us, t1, t2⟩ := t.pf
  refine ⟨cv :: us, .cons h1 t1, ?_⟩
  unfold PySem.W.kitAny
  rw [h2]
  exact t2
instance ktaT {K : PySem.W.Frag} {D : Addr} {c : V} {cs : List V} {b : Bool} [h : KtO K D c true] [t : KtA K D cs b] : KtA K D (c :: cs) true := by
  obtain ⟨cv, h1, h2⟩ := h.pf
  obtain ⟨us, t1, t2⟩ := t.pf
  refine ⟨cv :: us, .cons h1 t1, ?_⟩
  unfold PySem.W.kitAny
  rw [h2]
section
variable {σ : L2.St} {D0 H : Hp} {L : Own} {K : PySem.W.Frag} {Q : VK}
instance v_ise1 {a D : Addr} {c : V} {b : Bool} [x : ExC K D] [k : KtO K D c b] : VC (rIsES K a (.ref D) none [.ref a, c] H Q) (Q (.bl b) H) := ⟨fun q => by
  obtain ⟨cv, h1, h2⟩ := k.pf
  exact ⟨D, rfl, rfl, x.pf, .inl ⟨c, cv, b, rfl, h1, h2, q⟩⟩⟩
instance v_iseT {a D tp : Addr} {cs : List V} {b : Bool} [S : Sx D0 L H] [kt : Kn D0 tp (.tup cs)] [x : ExC K D] [k : KtA K D cs b] : VC (rIsES K a (.ref D) none [.ref a, .ref tp] H Q) (Q (.bl b) H) := ⟨fun q => by
  obtain ⟨us, h1, h2⟩ := k.pf
  exact ⟨D, rfl, rfl, x.pf, .inr ⟨tp, cs, us, b, rfl, S.dH _ _ kt.pf, h1, h2, q⟩⟩⟩
end
/-! kinds -/
class KnC (K : PySem.W.Frag) (H : Hp) (v : V) : Prop where
  pf : ∃ (t : String) (b1 b2 : Bool), TyX K H v (.type t) ∧ kitB t "int" = some b1 ∧ kitB t "bool" = some b2
/-- what is no whole number from lo to hi -/
inductive OddV (lo hi : Int) (D : Hp) : V → Prop
  | int (i : Int) (h : i < lo ∨ hi < i) : OddV lo hi D (.int i)
  | bl (b : Bool) : OddV lo hi D (.bl b)
  | non : OddV lo hi D .non
  | str (z : Str) : OddV lo hi D (.str z)
  | tup (a : Addr) (xs : List V) (h : D a = some (.tup xs)) : OddV lo hi D (.ref a)
  | lst (a : Addr) (xs : List V) (h : D a = some (.lst xs)) : OddV lo hi D (.ref a)
  | dic (a : Addr) (kvs : List (Key × V)) (h : D a = some (.dK kvs)) : OddV lo hi D (.ref a)
theorem OddV.up {lo hi : Int} {D D' : Hp} {v : V} (e : Same D D') (h : OddV lo hi D v) : OddV lo hi D' v := by
  cases h with
  | int i h => exact .int i h
  | bl b => exact .bl b
  | non => exact .non
  | str z => exact .str z
  | tup a xs h => exact .tup a xs (e _ _ h)
  | lst a xs h => exact .lst a xs (e _ _ h)
  | dic a kvs h => exact .dic a kvs (e _ _ h)
instance tyDk {K : PySem.W.Frag} {D H : Hp} {L : Own} {a : Addr} {kvs : List (Key × V)} [S : Sx D L H] [k : Kn D a (.dK kvs)] : TyC K H (.ref a) "dict" := ⟨.base (.dK (S.dH _ _ k.pf))⟩
/-- isinstance(v, int) and not isinstance(v, bool) -/
def whB (t : String) : Bool := (kitB t "int" == some true) && !(kitB t "bool" == some true)
/-! new dicts -/
section
variable {σ : L2.St} {D H : Hp} {L : Own} {K : PySem.W.Frag} {Q : VK}
instance v_dnew [S : Sx D L H] : VC (tDNewK σ H Q) (∀ p H', Sx D ((p, .dK []) :: L) H' → Q (.ref p) H') := ⟨fun h p hp => h p _ (S.new hp)⟩
end
theorem bb_ValueError : bootBuiltins "ValueError" = some (.type "ValueError") := by decide +kernel
/-! texts -/
section
variable {σ : L2.St} {D H : Hp} {L : Own} {K : PySem.W.Frag} {Q : VK}
instance v_eqSr {z : Str} : VC (rEqX K (.str z) (.str z) H Q) (Q (.bl true) H) := ⟨fun h => .inl ⟨rfl, by rw [decide_eq_true rfl]; exact h⟩⟩
instance v_neSr {z : Str} : VC (rNeX K (.str z) (.str z) H Q) (Q (.bl false) H) := ⟨fun h => .inl ⟨rfl, by rw [decide_eq_true rfl]; exact h⟩⟩
theorem ra_strs : ∀ zs : List Str, RpAll D (zs.map V.str) (zs.map PyData.str)
  | [] => .nil
  | z :: zs => .cons (.str z) (ra_strs zs)
theorem eqv_strs : ∀ zs : List Str, PyData.eqvAll (zs.map PyData.str) (zs.map PyData.str) = true
  | [] => by simp [PyData.eqvAll]
  | z :: zs => by
    rw [List.map_cons]
    simp only [PyData.eqvAll]
    rw [eqv_strs zs]
    simp [PyData.eqv]
end
end Fk

namespace Fk
open PySem PySem.Spec PyProof.Rows L2
/-! ## list.count -/
def rCnt (K : PySem.W.Frag) : V → List V → Hp → VK → Prop := fun x xs H Q => ∃ (a : Addr) (ys : List V) (y : V), x = V.ref a ∧ xs = [y] ∧ SqL K H a ys ∧ flatV y = true ∧ ys.all flatV = true ∧ Q (.int (ys.countP fun z => eqV z y : Nat)) H
theorem countP_eqU {y : V} : ∀ {ys : List V} {us : List Value}, Vals ys us → ys.all flatV = true → us.countP (eqU y) = ys.countP fun z => eqV z y
  | _, _, .nil, _ => rfl
  | z :: ys, u :: us, .cons r t, f => by
    rw [List.all_cons, Bool.and_eq_true] at f
    rw [List.countP_cons, List.countP_cons, countP_eqU t f.2, eqU_of r f.1]
section
variable {X : Cx}
theorem mt_cnt : MtR X "list.count" (rCnt X.K) := by
  intro pins s σ H x xs v us Q I rx rxs h
  obtain ⟨a, ys, y, rfl, rfl, hs, fy, fys, q⟩ := h
  cases rx
  cases rxs with
  | cons ry rt =>
    rename_i uy ut
    cases rt
    obtain ⟨its, rv, ⟨⟨cls, dd, data, sl⟩, n, ho, hc, hdn, hd⟩, hlen⟩ := I.list hs
    simp only at hc hd
    subst hc hd
    refine call_meets PySem.F.slot_list_count ⟨_, ho, rfl⟩ PySem.F.entry_list_count (PySem.F.args_list_count_2 _ _) (SeqAt.list_countAt a its.toArray n dd sl uy (eqU y)) ⟨ho, fun u' hu' => mem_eqAt ry fy rv fys u' (by simpa using hu'), ?_⟩
    refine ⟨.int (ys.countP fun z => eqV z y : Nat), H, I.tok _, ⟨s.toks, ?_⟩, q⟩
    rw [show its.toArray.toList = its from rfl, countP_eqU rv fys]
end
/-! ## defs that are handed the caught error -/
structure FnP (P : Program) (w : World) (K : PySem.W.Frag) (mg : Str → Option Value) (base : Heap) (CX : CXT) (k : Nat) (f : Addr) (fd : FuncData) (ps : List Str) (sp : Addr → Value → Option Addr → Sp) : Prop where
  len : ∀ a cls d vs H Q E, sp a cls d vs H Q E → vs.length = ps.length
  run : ∀ (A : Around) (outer : List Env) (s : Shared) (H : Hp) (args : Args) (us : List Value) (vs : List V) (Q : VK) (E : XK) (p : Addr × Obj) (cls : Value) (d : Option Addr), L2H.RoomH k A → L2H.PinOk outer H s p → Zc cls d p.2 → (∃ vs, p.2.data = .fields vs) → Env0 P w K mg base A outer s H → BindsTo s fd args (ps.zip us) → Vals vs us → sp p.1 cls d vs H Q E →
    codeAny (model P w) A (.call (.ref f) args) (CR CX outer P w H s Q E) s
theorem Fun.okP {P : Program} {w : World} {K : PySem.W.Frag} {mg : Str → Option Value} {base : Heap} {x qual : Str} {st : Stmt} {f : Addr} {fd : FuncData} {N ps : List Str} {k : Nat} {sp : Addr → Value → Option Addr → Sp} (F : Fun K x qual st f fd) (S : FnScope N ps (defScope st))
    (len : ∀ a cls d vs H Q E, sp a cls d vs H Q E → vs.length = ps.length)
    (hbody : ∀ (cdv : Value) (A : Around) (outer : List Env) (s : Shared) (H : Hp) (vs : List V) (Q : VK) (E : XK) (p : Addr × Obj) (cls : Value) (d : Option Addr), L2H.RoomH k (A.deeper (envOfC qual (defScope st) s.heap.objs.size f cdv)) → Zc cls d p.2 → (∃ vs, p.2.data = .fields vs) → sp p.1 cls d vs H Q E →
      ∃ t, PSs (L2H.cxH CX0 P w K mg base N qual (defScope st) f cdv A outer s H E p) (defBody st) t ∧ t { nx := fun _ H' => Q .non H', rt := Q } (start N vs) H) : FnP P w K mg base CX0 (k + 1) f fd ps sp := by
  obtain ⟨oc, od, kV, doc, pm, an, cdv, ct, osl, rfl, lk, hcd⟩ := F.ex
  refine ⟨len, fun A outer s H args us vs Q E p cls d hr hpin hz hf e0 hb r hsp => ?_⟩
  have hl := len _ _ _ _ _ _ _ hsp
  have KX : K.In s.heap := e0.mod.kin.keeps fun b o e => (e0.bs b o e).1
  have lim : s.heap.NoLimit := e0.mod.nolimit.keeps fun b o e => (e0.bs b o e).1
  have hkind : ∀ y ∈ ps.zip us, (defScope st).names.lookup y.1 = some .local ∨ ((defScope st).names.lookup y.1 = some .cell ∧ ((cellsFrom (s.heap.objs.size + 1) (defScope st).names []).lookup y.1).isSome = true) := fun ⟨n, v⟩ hy => by
    rcases S.par n (List.of_mem_zip hy).1 with q | q
    · exact .inl q
    · exact .inr ⟨q, PySem.W.cellsFrom_some _ _ _ (.inl q)⟩
  refine codeAny_call_function hr.depth (KX _ _ lk) rfl S.co S.gen rfl (PySem.W.codeRec_of KX hcd) (hb _ _ _ _ ?_)
  refine wpAny_newFunctionEnv_cells S.kind hkind fun env he s1 x => ?_
  subst he
  refine ⟨lim.keeps x.toInCall.keep, codeAny_func ?_⟩
  obtain ⟨t, ht, hq⟩ := hbody cdv A outer s H vs Q E p cls d (hr.deeper _) hz hf hsp
  have I : Inv (L2H.cxH CX0 P w K mg base N qual (defScope st) f cdv A outer s H E p) [] (start N vs) H s1 := L2H.inv_startH S hpin e0 hl r x
  refine wpAny_mono (ht.run [] s1 (start N vs) H _ I hq) (fun fl s' hs => ?_) fun e s' hs => hs
  have fin : ∀ {σ' : L2.St} {H' : Hp} {v : V} {u : Value}, Inv (L2H.cxH CX0 P w K mg base N qual (defScope st) f cdv A outer s H E p) [] σ' H' s' → RelV v u → Q v H' → CE outer P w H s Q u s' :=
    fun {σ' H' v u} J rv q => ⟨v, H', J.os, J.bare, J.base, J.hok, rv, q⟩
  cases fl with
  | ret u =>
    obtain ⟨v, σ', H', J, rv, q⟩ := hs
    exact fin J rv q
  | next =>
    obtain ⟨σ', H', J, q⟩ := hs
    exact fin (v := V.non) (u := Value.none) J rfl q
  | brk =>
    obtain ⟨_, _, _, q⟩ := hs
    exact False.elim q
  | cont =>
    obtain ⟨_, _, _, q⟩ := hs
    exact False.elim q
structure ClP (P : Program) (w : World) (K : PySem.W.Frag) (mg : Str → Option Value) (base : Heap) (CX : CXT) (k : Nat) (x : Str) (ps : List Str) (sp : Addr → Value → Option Addr → Sp) : Prop where
  ex : ∃ (f : Addr) (fd : FuncData), FnP P w K mg base CX k f fd ps sp ∧ mg x = some (.ref f) ∧ PySem.W.keepIn K (.ref f) = true ∧ Binds K fd ps []
theorem ClP.mk' {P : Program} {w : World} {K : PySem.W.Frag} {mg : Str → Option Value} {base : Heap} {CX : CXT} {k : Nat} {x : Str} {ps : List Str} {sp : Addr → Value → Option Addr → Sp} {f : Addr} {fd : FuncData} {st : Stmt}
    (F : Fun K x x st f fd) (o : FnP P w K mg base CX k f fd ps sp) (g : mg x = some (.ref f)) (b : Binds K fd ps []) : ClP P w K mg base CX k x ps sp := ⟨f, fd, o, g, F.kp, b⟩
def tCallP (sp : Addr → Value → Option Addr → Sp) (a : Addr) (cls : Value) (d : Option Addr) (t : TA) : TE := fun σ H Q => t σ H fun vs H1 => sp a cls d vs H1 Q E0
theorem pe_clP {X : Cx} {x : Str} {k j : Nat} {ps : List Str} {sp : Addr → Value → Option Addr → Sp} {q pos : Pos} {e : Expr} {es : List Expr} {t : TA} {a : Addr} {oe : Obj} {cls : Value} {d : Option Addr} (C : ClP X.prog X.w X.K X.mg X.base CX0 k x ps sp) (hr : L2H.RoomH j X.A) (hk : k ≤ j) (hp : (a, oe) ∈ X.pn) (hz : Zc cls d oe) (hf : ∃ vs, oe.data = .fields vs) (hg : Gl X x)
    (ha : PA X (e :: es) t) (hdb : (x == ("__debug__" : Str)) = false := by decide) (he : starEach (e :: es) X.env = (false, eval e X.env) :: starEach es X.env := by rfl) (hpl : (backTo pos (starEach es X.env)).any (·.1) = false := by rfl) :
    PE X (.Call (.Name x q) (e :: es) [] pos) (tCallP sp a cls d t) := by
  obtain ⟨f, fd, F, hm, kp, hb⟩ := C.ex
  refine ⟨fun pins s σ H Q I h => ?_⟩
  refine wpAny_Call_Name_kw (ld_glob I hg hm ?_ hdb)
  refine PySem.W.callWith_K (h₀ := X.base) I.ok.mod.kin kp (thn (ha.run pos pins s σ H _ I h) fun us s1 ⟨vs, H1, I1, r, q⟩ => ⟨I1.kIn, ?_⟩) he hpl
  have hl : us.length = ps.length := by rw [← r.length]; exact F.len _ _ _ _ _ _ _ q
  have b := hb s1 us I1.kIn (by rw [List.append_nil]; exact hl)
  rw [List.append_nil] at b
  have P1 := I1.pin (a, oe) (List.mem_append_left _ hp)
  have hpin : L2H.PinOk X.stack H1 s1 (a, oe) := ⟨P1.1, P1.2.1, fun hm => (List.mem_cons.mp (I1.stkSub a hm)).elim P1.2.2.1 P1.2.2.2.1, P1.2.2.2.2⟩
  refine wpAny_call (codeAny_mono (F.run X.A X.stack s1 H1 ⟨us, []⟩ us vs Q E0 (a, oe) cls d (hr.mono hk) hpin hz hf I1.env0 b r q) fun r s' hq => ?_)
  cases r with
  | error e => exact False.elim hq
  | ok fl =>
    cases fl with
    | ret u => exact I1.after hq
    | next => exact False.elim hq
    | brk => exact False.elim hq
    | cont => exact False.elim hq
/-- isinstance of an error that is pinned -/
theorem call_isEP {X : Cx} {p : Addr × Obj} {cls : Value} {d : Option Addr} (hp : p ∈ X.pn) (hz : Zc cls d p.2) (hf : ∃ vs, p.2.data = .fields vs) : CallR X (.builtin "isinstance") (rIsES X.K p.1 cls d) := by
  intro pins s σ H xs us Q I r h
  obtain ⟨D, rfl, rfl, C, h⟩ := h
  obtain ⟨hget, _⟩ := I.pin p (List.mem_append.mpr (.inl hp))
  obtain ⟨vs, hv⟩ := hf
  obtain ⟨a, oe⟩ := p
  have J : PySem.W.InstAt s.heap a oe D none := by
    obtain ⟨oc, od, oda, osl⟩ := oe
    obtain ⟨h1, h2⟩ := hz
    dsimp only at h1 h2 hv
    subst h1 h2 hv
    exact ⟨hget, rfl, rfl, trivial⟩
  rcases h with ⟨c, cv, b, rfl, hcv, e, q⟩ | ⟨tp, cs, ws, b, rfl, hT, kp, e, q⟩
  · obtain ⟨u1, u2, rfl, r1, r2⟩ := vals2 r
    cases (show u1 = Value.ref a from r1)
    have ec := hcv.eq r2
    subst ec
    exact PySem.W.kia_one (PySem.W.handS_kitx_exc C.hg C.hk C.hs C.hd C.ha C.hn C.ht C.hm) I.kIn J e (fun z => nomatch z) fun tk => ⟨.bl b, H, I.kept (t' := tk) fun _ _ z => z, rfl, q⟩
  · obtain ⟨u1, u2, rfl, r1, r2⟩ := vals2 r
    cases (show u1 = Value.ref a from r1)
    cases (show u2 = Value.ref tp from r2)
    obtain ⟨_, its, rv, o, h1, h2, n, h3⟩ := (show ObjOk X.prog X.w H s.heap tp (.tup cs) from I.hok tp _ hT)
    have e3 := ClsV.all kp rv
    subst e3
    obtain ⟨oc, od, dt, sl⟩ := o
    simp only at h2 h3
    subst h2 h3
    exact PySem.W.kia_tup (PySem.W.handS_kitx_exc C.hg C.hk C.hs C.hd C.ha C.hn C.ht C.hm) I.kIn J h1 e (fun z => nomatch z) fun tk => ⟨.bl b, H, I.kept (t' := tk) fun _ _ z => z, rfl, q⟩
theorem room_mark {j : Nat} {A : Around} (r : Room j A) (o : Option Value) : L2H.RoomH j (A.mark o) := ⟨r.dp, r.un⟩
section
variable {σ : L2.St} {D H : Hp} {L : Own} {K : PySem.W.Frag} {Q : VK}
instance v_callP {sp : Addr → Value → Option Addr → Sp} {a : Addr} {cls : Value} {d : Option Addr} {tr : TA} : VC (tCallP sp a cls d tr σ H Q) (tr σ H fun vs H1 => sp a cls d vs H1 Q E0) := ⟨fun h => h⟩
class EvC (z y : V) (b : outParam Bool) : Prop where
  pf : eqV z y = b
instance ev1 : EvC (.bl true) (.bl true) true := ⟨rfl⟩
instance ev2 : EvC (.bl false) (.bl true) false := ⟨rfl⟩
instance ev3 : EvC (.bl true) (.bl false) false := ⟨rfl⟩
instance ev4 : EvC (.bl false) (.bl false) true := ⟨rfl⟩
class CntC (bs : List V) (y : V) (n : outParam Nat) : Prop where
  pf : (bs.countP fun z => eqV z y) = n
  fl : bs.all flatV = true
instance cnt0 {y : V} : CntC [] y 0 := ⟨rfl, rfl⟩
instance cntT {b : Bool} {bs : List V} {y : V} {n : Nat} [h : EvC (.bl b) y true] [t : CntC bs y n] : CntC (.bl b :: bs) y (n + 1) := ⟨by rw [List.countP_cons, t.pf, h.pf]; rfl, by rw [List.all_cons, t.fl]; rfl⟩
instance cntF {b : Bool} {bs : List V} {y : V} {n : Nat} [h : EvC (.bl b) y false] [t : CntC bs y n] : CntC (.bl b :: bs) y n := ⟨by rw [List.countP_cons, t.pf, h.pf]; rfl, by rw [List.all_cons, t.fl]; rfl⟩
instance cntA {bs cs : List V} {y : V} {n m : Nat} [h : CntC bs y n] [t : CntC cs y m] : CntC (bs ++ cs) y (n + m) := ⟨by rw [List.countP_append, h.pf, t.pf], by rw [List.all_append, h.fl, t.fl]; rfl⟩
class IxC (bs : List V) (y : V) (j : outParam Nat) : Prop where
  pf : ∃ z, bs[j]? = some z ∧ eqV z y = true ∧ ∀ (m : Nat) (z' : V), m < j → bs[m]? = some z' → eqV z' y = false
instance ixT {b : Bool} {bs : List V} {y : V} [h : EvC (.bl b) y true] : IxC (.bl b :: bs) y 0 := ⟨.bl b, rfl, h.pf, fun m z' hm => absurd hm (Nat.not_lt_zero _)⟩
instance ixF {b : Bool} {bs : List V} {y : V} {j : Nat} [h : EvC (.bl b) y false] [t : IxC bs y j] : IxC (.bl b :: bs) y (j + 1) := by
  obtain ⟨z, h1, h2, h3⟩ := t.pf
  refine ⟨z, by simpa using h1, h2, fun m z' hm hz' => ?_⟩
  cases m with
  | zero =>
    simp at hz'
    rw [← hz']
    exact h.pf
  | succ m => exact h3 m z' (by omega) (by simpa using hz')
instance ixA {bs cs : List V} {y : V} {j : Nat} [h : IxC bs y j] : IxC (bs ++ cs) y j := by
  obtain ⟨z, h1, h2, h3⟩ := h.pf
  have hl := (List.getElem?_eq_some_iff.mp h1).1
  exact ⟨z, by rw [List.getElem?_append_left hl]; exact h1, h2, fun m z' hm hz' => h3 m z' hm (by rw [List.getElem?_append_left (by omega)] at hz'; exact hz')⟩
instance v_cnt {a : Addr} {bs : List V} {b : Bool} {n : Nat} [S : Sx D L H] [ha : Sl K D L a bs] [c : CntC bs (.bl b) n] : VC (rCnt K (.ref a) [.bl b] H Q) (Q (.int (n : Nat)) H) := ⟨fun h => ⟨a, bs, .bl b, rfl, rfl, ha.pf.sq S, rfl, c.fl, by rw [c.pf]; exact h⟩⟩
instance v_idxB {a : Addr} {bs : List V} {b : Bool} {n j : Nat} [S : Sx D L H] [ha : Sl K D L a bs] [c : CntC bs (.bl b) n] [x : IxC bs (.bl b) j] : VC (rIdx K (.ref a) [.bl b] H Q) (Q (.int (j : Nat)) H) := ⟨fun h => by
  obtain ⟨z, h1, h2, h3⟩ := x.pf
  exact ⟨a, bs, .bl b, j, z, rfl, rfl, ha.pf.sq S, rfl, c.fl, h1, h2, h3, h⟩⟩
instance v_disp1 {k v : Int} [S : Sx D L H] : VC (tDisp [(tC (.int k), tC (.int v))] σ H Q) (∀ p H', Sx D ((p, .dK [(Sum.inl k, .int v)]) :: L) H' → Q (.ref p) H') := ⟨fun h p hp => by
  show upd H p (.dK []) p = some (.dK []) ∧ _
  refine ⟨upd_same, [(Sum.inl k, .int v)], rfl, by show 1 ≤ 15; decide, ?_⟩
  have e : upd (upd H p (.dK [])) p (.dK (mergeK [] [((Sum.inl k : Key), V.int v)])) = upd H p (.dK [(Sum.inl k, .int v)]) := by
    funext b
    unfold upd
    by_cases c : b = p
    · rw [if_pos c, if_pos c]
      rfl
    · rw [if_neg c, if_neg c, if_neg c]
  rw [e]
  exact h p _ (S.new hp)⟩
instance v_pow_10_50 : VC (rI CPow (fun i j => .int (i ^ j.toNat)) (.int 10) (.int 50) H Q) (Q (.int 100000000000000000000000000000000000000000000000000) H) := ⟨fun k => ⟨10, 50, rfl, rfl, ⟨by decide, by decide, by decide⟩, k⟩⟩
end
end Fk

namespace Fk
open PySem PySem.Spec PyProof.Rows L2
/-! ## range downwards, min of a list, clear, lists of pairs -/
section
variable {X : Cx}
def rMinL (K : PySem.W.Frag) : List V → Hp → VK → Prop := rMin K
theorem cr_minX (hc : X.calm = true) : CallR X (.builtin "min") (rMinL X.K) := cr_min hc
end
def IsR3 (vs : List V) (H : Hp) (R : It → Hp → Prop) : Prop := ∃ (i j c : Int) (n : Nat), vs = [.int i, .int j, .int c] ∧ RgC i j c n ∧ R (Itc i c n) H
section
variable {σ : L2.St} {D H : Hp} {L : Own} {K : PySem.W.Frag} {Q : VK}
instance v_rng3 {tr : TA} {R : It → Hp → Prop} : VC (iRng3 tr σ H R) (tr σ H fun vs H1 => IsR3 vs H1 R) := ⟨fun h => h⟩
instance v_r3d {i j : Int} {R : It → Hp → Prop} : VC (IsR3 [.int i, .int j, .int (-1)] H R) (((-1000000000 ≤ i ∧ i ≤ 1000000000) ∧ -1000000000 ≤ j ∧ j ≤ 1000000000) ∧ R (Itc i (-1) (i - j).toNat) H) :=
  ⟨fun h => ⟨i, j, -1, _, rfl, RgC.neg (by omega) (by omega) (by omega) (by omega), h.2⟩⟩
instance v_minL {a : Addr} {xs : List V} {ns : List Int} [S : Sx D L H] [ha : Sl K D L a xs] [c : IsC xs ns] : VC (rMinL K [.ref a] H Q) (0 < ns.length ∧ ∀ m, m ∈ ns → (∀ y, y ∈ ns → m ≤ y) → Q (.int m) H) :=
  ⟨fun h => ⟨a, ns, rfl, by rw [← c.pf]; exact ha.pf.sq S, h.1, h.2⟩⟩
instance v_clear {a : Addr} {xs : List V} {n : Nat} {L' : Own} [S : Sx D L H] [h : Fi L a (.lst xs) n] [e : Se L n (a, .lst []) L'] : VC (rClear (.ref a) [] H Q) (∀ H', Sx D L' H' → Q .non H') :=
  ⟨fun k => ⟨a, xs, rfl, rfl, S.at h.pf, k _ (by have := S.put (.lst []) h.pf; rw [e.pf] at this; exact this)⟩⟩
theorem sh_LT (xss : List (List Int)) : SeqAt.shaped (.list (xss.map tI)) = true := (Sh.list (n := 1) fun d hd => by
  obtain ⟨r, _, rfl⟩ := List.mem_map.mp hd
  exact Sh.tup (n := 0) Sh.ints).ok
theorem eqv_LT (xs ys : List (List Int)) : PyData.eqv (.list (xs.map tI)) (.list (ys.map tI)) = decide (xs = ys) := by simp only [PyData.eqv, eqv_mapT]
theorem dpLT {a : Addr} {us : List V} {xs : List (List Int)} (S : Sx D L H) (ha : Rds K D L a us) (ra : RpAll D us (xs.map tI)) : Dp K H (.ref a) (.list (xs.map tI)) := .lst (ha.sq S) (RpAll.dp (RpAll.up S.dH ra))
theorem r_eqLT {a b : Addr} {us ws : List V} {xs ys : List (List Int)} (S : Sx D L H) (ha : Rds K D L a us) (hb : Rds K D L b ws) (ra : RpAll D us (xs.map tI)) (rb : RpAll D ws (ys.map tI)) (k : Q (.bl (decide (xs = ys))) H) : rEqX K (.ref a) (.ref b) H Q :=
  .inr ⟨_, _, dpLT S ha ra, dpLT S hb rb, sh_LT xs, sh_LT ys, by rw [eqv_LT]; exact k⟩
theorem r_neLT {a b : Addr} {us ws : List V} {xs ys : List (List Int)} (S : Sx D L H) (ha : Rds K D L a us) (hb : Rds K D L b ws) (ra : RpAll D us (xs.map tI)) (rb : RpAll D ws (ys.map tI)) (k : Q (.bl (!decide (xs = ys))) H) : rNeX K (.ref a) (.ref b) H Q :=
  .inr ⟨_, _, dpLT S ha ra, dpLT S hb rb, sh_LT xs, sh_LT ys, by rw [eqv_LT]; exact k⟩
end
theorem Sx.tail' {D : Hp} {L : Own} {H : Hp} (S : Sx D L H) : Sx D [] H := ⟨S.dH, fun q hq => (nomatch hq), List.nodup_nil⟩
theorem opNeS {X : Cx} {A : Around} (h : A.units + 64 < cLine) (e : X.A.units = A.units := by rfl) : OpR X (compareOp .NotEq) (rNeX X.K) := opNe (by rw [e]; exact h)
theorem opEqS {X : Cx} {A : Around} (h : A.units + 64 < cLine) (e : X.A.units = A.units := by rfl) : OpR X (compareOp .Eq) (rEqX X.K) := opEq (by rw [e]; exact h)
theorem pe_bmS (K : PySem.W.Frag) {X : Cx} {T id : String} {name : Str} {r : V → List V → Hp → VK → Prop} {o e : Expr} {es : List Expr} {to : TE} {t : TA} {apos cpos : Pos} (pa : PlainAttrs T) (slot : Slot T name id) (hty : typeOf (.builtin id) = pure (.type "method_descriptor")) (hm : MtR X id r) (ho : PE X o to) (ha : PA X (e :: es) t)
    (hK : X.K = K := by rfl)
    (hbase : attributeBase o name X.env (eval o X.env) = eval o X.env := by rfl)
    (hfew : ((backTo cpos (starEach (e :: es) X.env)).all (fun x => !x.1) && (backToKw cpos (keywordEach [] X.env)).all (fun x => x.1.isSome)
      && decide ((e :: es).length + ([] : List Keyword).length + (if ([] : List Keyword).isEmpty then 0 else 1) < 30)) = true := by rfl)
    (hline : (apos.endLine == cpos.line) = true := by rfl) (hs : starEach (e :: es) X.env = (false, eval e X.env) :: starEach es X.env := by rfl) (hplain : (backTo cpos (starEach es X.env)).any (·.1) = false := by rfl) :
    PE X (.Call (.Attribute o name apos) (e :: es) [] cpos) (tBM K T r to t) := by
  subst hK
  exact pe_bm pa slot hty hm ho ha hbase hfew hline hs hplain
end Fk

namespace Fk
open PySem PySem.Spec PyProof.Rows L2
/-! ## in, pop(i), list(range), lists or tuples -/
section
variable {X : Cx}
def rInX (K : PySem.W.Frag) : R2 := rIn K false
theorem opInX : OpR X (compareOp .In) (rInX X.K) := op_in_seq
theorem mt_popAtX : MtR X "list.pop" rPopAt := mt_popAt
end
theorem inV_int {x : Int} : ∀ {xs : List Int}, inV (.int x) (xs.map V.int) = decide (x ∈ xs)
  | [] => by simp [inV]
  | y :: xs => by
    have ih := inV_int (x := x) (xs := xs)
    unfold inV at ih ⊢
    rw [List.map_cons, List.any_cons, ih]
    by_cases h : y = x
    · subst h
      simp [eqV]
    · have h' : ¬ x = y := fun e => h e.symm
      simp [eqV, h, h']
theorem inV_bl {x : Bool} : ∀ {xs : List Bool}, inV (.bl x) (xs.map V.bl) = decide (x ∈ xs)
  | [] => by simp [inV]
  | y :: xs => by
    have ih := inV_bl (x := x) (xs := xs)
    unfold inV at ih ⊢
    rw [List.map_cons, List.any_cons, ih]
    cases x <;> cases y <;> simp [eqV]
theorem flat_ints {xs : List Int} : (xs.map V.int).all flatV = true := by
  rw [List.all_map]
  exact List.all_eq_true.mpr fun _ _ => rfl
theorem flat_bls {xs : List Bool} : (xs.map V.bl).all flatV = true := by
  rw [List.all_map]
  exact List.all_eq_true.mpr fun _ _ => rfl
/-- a list or a tuple -/
class Ks (D : Hp) (a : Addr) (xs : outParam (List V)) : Prop where
  pf : D a = some (.lst xs) ∨ D a = some (.tup xs)
instance ksUp {D D' : Hp} {a : Addr} {xs : List V} [s : Sm D D'] [k : Ks D a xs] : Ks D' a xs := ⟨k.pf.elim (fun h => .inl (s.e _ _ h)) fun h => .inr (s.e _ _ h)⟩
theorem Sm.rfl' {D : Hp} : Sm D D := ⟨Same.refl D⟩
section
variable {σ : L2.St} {D H : Hp} {L : Own} {K : PySem.W.Frag} {Q : VK}
instance v_inL {a : Addr} {us : List V} {xs : List Int} {x : Int} [S : Sx D L H] [ha : Sl K D L a us] [c : IsC us xs] : VC (rInX K (.int x) (.ref a) H Q) (Q (.bl (decide (x ∈ xs))) H) :=
  ⟨fun k => ⟨a, us, rfl, .inl (ha.pf.sq S), rfl, by rw [c.pf]; exact flat_ints, by rw [if_neg (fun z => nomatch z), c.pf, inV_int]; exact k⟩⟩
instance v_inT {a : Addr} {us : List V} {xs : List Int} {x : Int} [S : Sx D L H] [ha : Kn D a (.tup us)] [c : IsC us xs] : VC (rInX K (.int x) (.ref a) H Q) (Q (.bl (decide (x ∈ xs))) H) :=
  ⟨fun k => ⟨a, us, rfl, .inr (sqT S ha.pf), rfl, by rw [c.pf]; exact flat_ints, by rw [if_neg (fun z => nomatch z), c.pf, inV_int]; exact k⟩⟩
instance v_inBL {a : Addr} {us : List V} {xs : List Bool} {x : Bool} [S : Sx D L H] [ha : Sl K D L a us] [c : BsC us xs] : VC (rInX K (.bl x) (.ref a) H Q) (Q (.bl (decide (x ∈ xs))) H) :=
  ⟨fun k => ⟨a, us, rfl, .inl (ha.pf.sq S), rfl, by rw [c.pf]; exact flat_bls, by rw [if_neg (fun z => nomatch z), c.pf, inV_bl]; exact k⟩⟩
instance v_inBT {a : Addr} {us : List V} {xs : List Bool} {x : Bool} [S : Sx D L H] [ha : Kn D a (.tup us)] [c : BsC us xs] : VC (rInX K (.bl x) (.ref a) H Q) (Q (.bl (decide (x ∈ xs))) H) :=
  ⟨fun k => ⟨a, us, rfl, .inr (sqT S ha.pf), rfl, by rw [c.pf]; exact flat_bls, by rw [if_neg (fun z => nomatch z), c.pf, inV_bl]; exact k⟩⟩
instance v_popA {a : Addr} {xs : List V} {n : Nat} {i : Int} {y : V} {L' : Own} [S : Sx D L H] [h : Fi L a (.lst xs) n] [c : AtC xs i y] [e : Se L n (a, .lst (xs.eraseIdx i.toNat)) L'] : VC (rPopAt (.ref a) [.int i] H Q) ((0 ≤ i ∧ i < 4611686018427387904) ∧ ∀ H', Sx D L' H' → Q y H') :=
  ⟨fun k => by
    have hp := c.pf
    unfold atI at hp
    cases ej : ixN xs.length i with
    | none => rw [ej] at hp; cases hp
    | some j =>
      rw [ej] at hp
      have hy : xs[j]? = some y := hp
      have hs := ixN_seq ej
      have hj : j = i.toNat := by
        unfold ixN at ej
        rw [if_pos k.1.1, if_pos hs.2.2.2] at ej
        exact (Option.some.inj ej).symm
      subst hj
      exact ⟨a, xs, i, i.toNat, y, rfl, rfl, S.at h.pf, by omega, by omega, hs.1, hy, k.2 _ (by have := S.put (.lst (xs.eraseIdx i.toNat)) h.pf; rw [e.pf] at this; exact this)⟩⟩
instance v_lenK {a : Addr} {xs : List V} {n : Nat} [S : Sx D L H] [ha : Ks D a xs] [l : LnC xs n] : VC (rLen K [.ref a] H Q) (Q (.int n) H) := ⟨fun h => ha.pf.elim (fun e => c_lenL S (rsD e) (by rw [l.pf]; exact h)) fun e => c_lenT S e (by rw [l.pf]; exact h)⟩
instance v_ixK {a : Addr} {xs : List V} {i : Int} {v : V} [S : Sx D L H] [ha : Ks D a xs] [h : AtC xs i v] : VC (rIx K (.ref a) (.int i) H Q) (Q v H) := ⟨fun k => ha.pf.elim (fun e => r_ixL S (rsD e) h.pf k) fun e => r_ixT S e h.pf k⟩
instance v_tupK {a : Addr} {xs : List V} [S : Sx D L H] [ha : Ks D a xs] : VC (rTupOf K [.ref a] H Q) (∀ p D' H', Sx D' L H' → Sm D D' → Kn D' p (.tup xs) → Q (.ref p) H') := ⟨fun h => ha.pf.elim (fun e => c_tupL S (rsD e) fun p D' H' e k S' => h p D' H' S' ⟨e⟩ ⟨k⟩) fun e => c_tupT S e (h a D H S Sm.rfl' ⟨e⟩)⟩
instance v_sqK {a : Addr} {xs : List V} {R : It → Hp → Prop} [S : Sx D L H] [ha : Ks D a xs] : VC (IsSq K (.ref a) H R) (∀ (J : It) (G : Hp → Prop), Walk J xs.length G (fun i H v H' => H' = H ∧ xs[i]? = some v) → (∀ D' L' H', Sx D' L' H' → Sm D D' → G H') → R J H) := ⟨fun h => ha.pf.elim (fun e => i_isL S (rsD e) (h _ _ walk_list fun D' L' H' S' s => .of (S'.dH _ _ (s.e _ _ e)))) fun e => i_isT S e (h _ _ walk_tup fun D' L' H' S' s => .of (S'.dH _ _ (s.e _ _ e)))⟩
instance v_pow_10_15 : VC (rI CPow (fun i j => .int (i ^ j.toNat)) (.int 10) (.int 15) H Q) (Q (.int 1000000000000000) H) := ⟨fun k => ⟨10, 15, rfl, rfl, ⟨by decide, by decide, by decide⟩, k⟩⟩
instance v_lstRg {te : L2.St → Hp → (Int → Int → Hp → Prop) → Prop} : VC (tLstRg te σ H Q) (te σ H fun a b H1 => RgOk a b ∧ ∀ q, H1 q = none → Q (.ref q) (upd H1 q (.lst (rgV a b)))) := ⟨fun h => h⟩
instance v_rg1 {ta : TE} {R : Int → Int → Hp → Prop} : VC (tRg1 ta σ H R) (ta σ H fun x H1 => IsI x H1 fun n H2 => R 0 n H2) := ⟨fun h => by
  refine (show ta σ H _ from ?_)
  exact h⟩
end
end Fk

namespace Fk
open PySem PySem.Spec PyProof.Rows L2
/-! ## min, max of data; dicts by int keys; remove; bit_length -/
theorem hu1 {A : Around} (h : A.units + 64 < cLine) : A.units + 1 < cLine := by omega
section
variable {X : Cx}
def rMinD (K : PySem.W.Frag) : List V → Hp → VK → Prop := fun vs H Q => ∃ (a : Addr) (us : List V) (x : PyData) (xs : List PyData), vs = [.ref a] ∧ (SqL K H a us ∨ SqT K H a us) ∧ DpAll K H us (x :: xs) ∧ PySem.W.AlikeAll (x :: xs) ∧ PyData.canLayAll0 (x :: xs) = true ∧ PyData.depthAll (x :: xs) ≤ 60 ∧
  ∀ (i : Nat) (v : V), us[i]? = some v → (x :: xs)[i]? = some (PySem.W.minD x xs) → Q v H
def rMaxD (K : PySem.W.Frag) : List V → Hp → VK → Prop := fun vs H Q => ∃ (a : Addr) (us : List V) (x : PyData) (xs : List PyData), vs = [.ref a] ∧ (SqL K H a us ∨ SqT K H a us) ∧ DpAll K H us (x :: xs) ∧ PySem.W.AlikeAll (x :: xs) ∧ PyData.canLayAll0 (x :: xs) = true ∧ PyData.depthAll (x :: xs) ≤ 60 ∧
  ∀ (i : Nat) (v : V), us[i]? = some v → (x :: xs)[i]? = some (PySem.W.maxD x xs) → Q v H
theorem lay_of : ∀ {ds : List PyData} {z : PyData}, PyData.canLayAll0 ds = true → z ∈ ds → z.canLay0 = true
  | y :: ys, z, hc, hz => by
    rw [PyData.canLayAll0, Bool.and_eq_true] at hc
    rcases List.mem_cons.mp hz with rfl | hz
    · exact hc.1
    · exact lay_of hc.2 hz
theorem data_at {h h' : Heap} {ds : List PyData} {its : List Value} {as bs : List Addr} {i : Nat} {v : Value} {d : PyData} (hr : ReadsAll h its ds as) (hc : PyData.canLayAll0 ds = true) (hd : d ∈ ds) (hv : its.toArray[i]? = some v) (hk : ∀ b o, h.get? b = some o → h'.get? b = some o) (r : Reads h' v d bs) : ds[i]? = some d := by
  have hr2 := SeqAt.readsAll_map ds its as hc hr
  have hv' : its[i]? = some v := by simpa using hv
  obtain ⟨e, he, re, hm, _⟩ := PySem.W.readsAll_at hr i v hv'
  have e0 : ds[i]? = some (ds.getD i .none) := by
    rw [List.getD_eq_getElem?_getD, List.getElem?_eq_getElem re]
    rfl
  have e1 := SeqAt.readOf_eq (lay_of hc hm) (PySem.W.reads_keeps hk he)
  have e2 := SeqAt.readOf_eq (lay_of hc hd) r
  rw [e0, ← e1, e2]
theorem minD_mem (x : PyData) : ∀ (xs : List PyData), PySem.W.minD x xs ∈ x :: xs := by
  intro xs
  have key : ∀ (xs : List PyData) (a : PyData), xs.foldl (fun a y => if PySem.W.dataLt y a then y else a) a ∈ a :: xs := by
    intro xs
    induction xs with
    | nil => exact fun a => List.mem_cons_self
    | cons y ys ih =>
      intro a
      rw [List.foldl_cons]
      have := ih (if PySem.W.dataLt y a then y else a)
      rcases List.mem_cons.mp this with e | e
      · rw [e]
        by_cases c : PySem.W.dataLt y a = true
        · rw [if_pos c]
          exact List.mem_cons_of_mem _ List.mem_cons_self
        · rw [if_neg c]
          exact List.mem_cons_self
      · exact List.mem_cons_of_mem _ (List.mem_cons_of_mem _ e)
  exact key xs x
theorem maxD_mem (x : PyData) : ∀ (xs : List PyData), PySem.W.maxD x xs ∈ x :: xs := by
  intro xs
  have key : ∀ (xs : List PyData) (a : PyData), xs.foldl (fun a y => if PySem.W.dataLt a y then y else a) a ∈ a :: xs := by
    intro xs
    induction xs with
    | nil => exact fun a => List.mem_cons_self
    | cons y ys ih =>
      intro a
      rw [List.foldl_cons]
      have := ih (if PySem.W.dataLt a y then y else a)
      rcases List.mem_cons.mp this with e | e
      · rw [e]
        by_cases c : PySem.W.dataLt a y = true
        · rw [if_pos c]
          exact List.mem_cons_of_mem _ List.mem_cons_self
        · rw [if_neg c]
          exact List.mem_cons_self
      · exact List.mem_cons_of_mem _ (List.mem_cons_of_mem _ e)
  exact key xs x
theorem vals_back {us : List V} {its : List Value} {i : Nat} {v : Value} (rv : Vals us its) (hv : its.toArray[i]? = some v) : ∃ w, us[i]? = some w ∧ RelV w v := by
  have hv' : its[i]? = some v := by simpa using hv
  have hl := (List.getElem?_eq_some_iff.mp hv').1
  have hu : i < us.length := by rw [rv.length]; exact hl
  obtain ⟨u, h1, h2⟩ := rv.get (List.getElem?_eq_getElem hu)
  rw [hv'] at h1
  cases h1
  exact ⟨_, List.getElem?_eq_getElem hu, h2⟩
theorem cr_minD (hc : X.calm = true) (hu : X.A.units + 64 < cLine) : CallR X (.builtin "min") (rMinD X.K) := by
  intro pins s σ H vs us0 Q I r h
  obtain ⟨a, us, x, xs, rfl, hq, hd, ha, hcl, hdp, q⟩ := h
  rw [Vals.ref1 r]
  rcases hq with hq | hq
  · obtain ⟨its, rv, hl, _⟩ := I.list hq
    obtain ⟨as, hr⟩ := Dp.readsAll I (x :: xs) us its hd rv
    refine PySem.W.min_list_data (I.ok.hd hc) (vs := its.toArray) hl.isList (show ReadsAll s.heap its.toArray.toList _ as from hr) ha (by omega) fun i v h' tk bs hv hr2 hk => ?_
    obtain ⟨w, hw, rw'⟩ := vals_back rv hv
    exact ⟨w, H, I.kept hk, rw', q i w hw (data_at hr hcl (minD_mem x xs) hv hk hr2)⟩
  · obtain ⟨its, rv, hl, _⟩ := I.tuple hq
    obtain ⟨as, hr⟩ := Dp.readsAll I (x :: xs) us its hd rv
    refine PySem.W.min_tuple_data (I.ok.hd hc) (vs := its.toArray) hl (show ReadsAll s.heap its.toArray.toList _ as from hr) ha (by omega) fun i v h' tk bs hv hr2 hk => ?_
    obtain ⟨w, hw, rw'⟩ := vals_back rv hv
    exact ⟨w, H, I.kept hk, rw', q i w hw (data_at hr hcl (minD_mem x xs) hv hk hr2)⟩
theorem cr_maxD (hc : X.calm = true) (hu : X.A.units + 64 < cLine) : CallR X (.builtin "max") (rMaxD X.K) := by
  intro pins s σ H vs us0 Q I r h
  obtain ⟨a, us, x, xs, rfl, hq, hd, ha, hcl, hdp, q⟩ := h
  rw [Vals.ref1 r]
  rcases hq with hq | hq
  · obtain ⟨its, rv, hl, _⟩ := I.list hq
    obtain ⟨as, hr⟩ := Dp.readsAll I (x :: xs) us its hd rv
    refine PySem.W.max_list_data (I.ok.hd hc) (vs := its.toArray) hl.isList (show ReadsAll s.heap its.toArray.toList _ as from hr) ha (by omega) fun i v h' tk bs hv hr2 hk => ?_
    obtain ⟨w, hw, rw'⟩ := vals_back rv hv
    exact ⟨w, H, I.kept hk, rw', q i w hw (data_at hr hcl (maxD_mem x xs) hv hk hr2)⟩
  · obtain ⟨its, rv, hl, _⟩ := I.tuple hq
    obtain ⟨as, hr⟩ := Dp.readsAll I (x :: xs) us its hd rv
    refine PySem.W.max_tuple_data (I.ok.hd hc) (vs := its.toArray) hl (show ReadsAll s.heap its.toArray.toList _ as from hr) ha (by omega) fun i v h' tk bs hv hr2 hk => ?_
    obtain ⟨w, hw, rw'⟩ := vals_back rv hv
    exact ⟨w, H, I.kept hk, rw', q i w hw (data_at hr hcl (maxD_mem x xs) hv hk hr2)⟩
def rMinY (K : PySem.W.Frag) : List V → Hp → VK → Prop := fun xs H Q => rMinL K xs H Q ∨ rMinD K xs H Q
theorem cr_minY (hc : X.calm = true) (hu : X.A.units + 64 < cLine) : CallR X (.builtin "min") (rMinY X.K) := CallR.or (cr_minX hc) (cr_minD hc hu)
def rMaxY (K : PySem.W.Frag) : List V → Hp → VK → Prop := fun xs H Q => rMaxL K xs H Q ∨ rMaxD K xs H Q
theorem cr_maxY (hc : X.calm = true) (hu : X.A.units + 64 < cLine) : CallR X (.builtin "max") (rMaxY X.K) := CallR.or (cr_maxX hc) (cr_maxD hc hu)
def rDivM : List V → Hp → VK → Prop := fun xs H Q => ∃ i j, xs = [.int i, .int j] ∧ CDiv i j ∧ ∀ p, H p = none → Q (.ref p) (upd H p (.tup [.int (i / j), .int (i % j)]))
theorem call_dm : CallR X (.builtin "divmod") rDivM := call_divmod
def rRemX : V → List V → Hp → VK → Prop := rRemI
theorem mt_remX : MtR X "list.remove" rRemX := mt_remove
end
def IsDG (x y : V) (H : Hp) (q : Option V → Prop) : Prop := ∃ a o, x = .ref a ∧ DGet H a y o ∧ q o
def IsDP (x y v : V) (H : Hp) (q : Hp → Prop) : Prop := ∃ a H4, x = .ref a ∧ DPut H a y v H4 ∧ q H4
theorem alike_ints {ns : List Int} : PySem.W.AlikeAll (ns.map PyData.int) := by
  refine ⟨fun x hx y hy => ?_, fun x hx => ?_⟩
  · obtain ⟨a, _, rfl⟩ := List.mem_map.mp hx
    obtain ⟨b, _, rfl⟩ := List.mem_map.mp hy
    simp [PySem.W.alike]
  · obtain ⟨a, _, rfl⟩ := List.mem_map.mp hx
    exact fun e => nomatch e
theorem lay_ints : ∀ {ns : List Int}, PyData.canLayAll0 (ns.map PyData.int) = true
  | [] => by simp [PyData.canLayAll0]
  | n :: ns => by rw [List.map_cons, PyData.canLayAll0, lay_ints]; simp [PyData.canLay0]
theorem dep_ints : ∀ {ns : List Int}, PyData.depthAll (ns.map PyData.int) ≤ 1
  | [] => by simp [PyData.depthAll]
  | n :: ns => by
    have := dep_ints (ns := ns)
    rw [List.map_cons, PyData.depthAll]
    simp only [PyData.depth]
    omega
theorem dpa_ints {K : PySem.W.Frag} {H : Hp} : ∀ (ns : List Int), DpAll K H (ns.map V.int) (ns.map PyData.int)
  | [] => .nil
  | n :: ns => .cons (.int n) (dpa_ints ns)
section
variable {σ : L2.St} {D H : Hp} {L : Own} {K : PySem.W.Frag} {Q : VK} {nx : L2.St → Hp → Prop} {rt : VK} {bk ct : L2.St → Hp → Prop}
instance v_minY {a : Addr} {xs : List V} {ns : List Int} [S : Sx D L H] [ha : Sl K D L a xs] [c : IsC xs ns] : VC (rMinY K [.ref a] H Q) (0 < ns.length ∧ ∀ m, m ∈ ns → (∀ y, y ∈ ns → m ≤ y) → Q (.int m) H) := ⟨fun h => .inl (VC.pf h)⟩
instance v_maxY {a : Addr} {xs : List V} {ns : List Int} [S : Sx D L H] [ha : Sl K D L a xs] [c : IsC xs ns] : VC (rMaxY K [.ref a] H Q) (0 < ns.length ∧ Q (.int (mxL ns)) H) := ⟨fun h => .inl (VC.pf h)⟩
theorem c_minYS {a : Addr} {xs : List V} {ns : List Int} (hs : SqT K H a xs) [c : IsC xs ns] (h : 0 < ns.length ∧ ∀ m, m ∈ ns → (∀ y, y ∈ ns → m ≤ y) → Q (.int m) H) : rMinY K [.ref a] H Q := by
  obtain ⟨h0, k⟩ := h
  obtain ⟨n, ms, rfl⟩ : ∃ n ms, ns = n :: ms := by
    cases ns with
    | nil => simp at h0
    | cons n ms => exact ⟨n, ms, rfl⟩
  refine .inr ⟨a, xs, .int n, ms.map .int, rfl, .inr (hs), by rw [c.pf]; exact dpa_ints (n :: ms), alike_ints (ns := n :: ms), lay_ints (ns := n :: ms), by have := dep_ints (ns := n :: ms); rw [List.map_cons] at this; omega, fun i v hv hi => ?_⟩
  rw [c.pf] at hv
  obtain ⟨m, hm, rfl⟩ := getI hv
  rw [PySem.W.minD_ints, show (PyData.int n :: ms.map PyData.int) = (n :: ms).map PyData.int from rfl, List.getElem?_map, hm] at hi
  have em : m = ms.foldl min n := PyData.int.inj (Option.some.inj hi)
  have key : ∀ (ms : List Int) (n : Int), ms.foldl min n ≤ n ∧ ∀ y, y ∈ ms → ms.foldl min n ≤ y := by
    intro ms
    induction ms with
    | nil => exact fun n => ⟨Int.le_refl _, fun y hy => nomatch hy⟩
    | cons z ms ih =>
      intro n
      obtain ⟨i1, i2⟩ := ih (min n z)
      rw [List.foldl_cons]
      refine ⟨by omega, fun y hy => ?_⟩
      rcases List.mem_cons.mp hy with rfl | hy
      · omega
      · exact i2 y hy
  obtain ⟨i1, i2⟩ := key ms n
  refine k m (List.mem_of_getElem? hm) fun y hy => ?_
  rw [em]
  rcases List.mem_cons.mp hy with rfl | hy
  · exact i1
  · exact i2 y hy
instance v_minYT {a : Addr} {xs : List V} {ns : List Int} [S : Sx D L H] [ha : Kn D a (.tup xs)] [c : IsC xs ns] : VC (rMinY K [.ref a] H Q) (0 < ns.length ∧ ∀ m, m ∈ ns → (∀ y, y ∈ ns → m ≤ y) → Q (.int m) H) := ⟨fun h => c_minYS (sqT S ha.pf) h⟩
theorem c_maxYS {a : Addr} {xs : List V} {ns : List Int} (hs : SqT K H a xs) [c : IsC xs ns] (h : 0 < ns.length ∧ Q (.int (mxL ns)) H) : rMaxY K [.ref a] H Q := by
  obtain ⟨h0, k⟩ := h
  obtain ⟨n, ms, rfl⟩ : ∃ n ms, ns = n :: ms := by
    cases ns with
    | nil => simp at h0
    | cons n ms => exact ⟨n, ms, rfl⟩
  refine .inr ⟨a, xs, .int n, ms.map .int, rfl, .inr (hs), by rw [c.pf]; exact dpa_ints (n :: ms), alike_ints (ns := n :: ms), lay_ints (ns := n :: ms), by have := dep_ints (ns := n :: ms); rw [List.map_cons] at this; omega, fun i v hv hi => ?_⟩
  rw [c.pf] at hv
  obtain ⟨m, hm, rfl⟩ := getI hv
  rw [PySem.W.maxD_ints, show (PyData.int n :: ms.map PyData.int) = (n :: ms).map PyData.int from rfl, List.getElem?_map, hm] at hi
  have em : m = ms.foldl max n := PyData.int.inj (Option.some.inj hi)
  have key : ∀ (ms : List Int) (n : Int), n ≤ ms.foldl max n ∧ ∀ y, y ∈ ms → y ≤ ms.foldl max n := by
    intro ms
    induction ms with
    | nil => exact fun n => ⟨Int.le_refl _, fun y hy => nomatch hy⟩
    | cons z ms ih =>
      intro n
      obtain ⟨i1, i2⟩ := ih (max n z)
      rw [List.foldl_cons]
      refine ⟨by omega, fun y hy => ?_⟩
      rcases List.mem_cons.mp hy with rfl | hy
      · omega
      · exact i2 y hy
  obtain ⟨i1, i2⟩ := key ms n
  have : m = mxL (n :: ms) := mxL_uniq (List.mem_of_getElem? hm) fun y hy => by
    rw [em]
    rcases List.mem_cons.mp hy with rfl | hy
    · exact i1
    · exact i2 y hy
  rw [this]
  exact k
instance v_maxYT {a : Addr} {xs : List V} {ns : List Int} [S : Sx D L H] [ha : Kn D a (.tup xs)] [c : IsC xs ns] : VC (rMaxY K [.ref a] H Q) (0 < ns.length ∧ Q (.int (mxL ns)) H) := ⟨fun h => c_maxYS (sqT S ha.pf) h⟩
instance v_rem {a : Addr} {xs : List V} {ns : List Int} {n : Nat} {z : Int} {L' : Own} [S : Sx D L H] [h : Fi L a (.lst xs) n] [c : IsC xs ns] [e : Se L n (a, .lst ((ns.eraseIdx (ixL z ns)).map V.int)) L'] : VC (rRemX (.ref a) [.int z] H Q) (z ∈ ns ∧ ∀ H', Sx D L' H' → Q .non H') :=
  ⟨fun k => ⟨a, ns, z, ixL z ns, rfl, rfl, by rw [← c.pf]; exact S.at h.pf, ixL_get k.1, fun m hm hz => ixL_no hm hz rfl, k.2 _ (by have := S.put (.lst ((ns.eraseIdx (ixL z ns)).map V.int)) h.pf; rw [e.pf] at this; exact this)⟩⟩
instance v_bits {to : TE} : VC (tBits to σ H Q) (to σ H fun x H1 => IsI x H1 fun i H2 => Q (.int (Builtin.Int.intBits i : Nat)) H2) := ⟨fun h => h⟩
instance v_dnotin {ty td : TE} : VC (tDNotIn ty td σ H Q) (ty σ H fun y H1 => td σ H1 fun x H2 => IsDG x y H2 fun o => Q (.bl (!o.isSome)) H2) := ⟨fun h => h⟩
instance v_din {ty td : TE} : VC (tDIn ty td σ H Q) (ty σ H fun y H1 => td σ H1 fun x H2 => IsDG x y H2 fun o => Q (.bl o.isSome) H2) := ⟨fun h => h⟩
instance v_dg {a : Addr} {kvs : List (Key × V)} {n : Nat} {i : Int} {q : Option V → Prop} [S : Sx D L H] [h : Fi L a (.dK kvs) n] : VC (IsDG (.ref a) (.int i) H q) (q (valV kvs (Sum.inl i))) := ⟨fun k => ⟨a, _, rfl, DGet.k (k := Sum.inl i) (S.at h.pf), k⟩⟩
instance v_dput {td ty tv : TE} : VC (sDPut td ty tv ⟨nx, rt, bk, ct⟩ σ H) (tv σ H fun v H1 => td σ H1 fun x H2 => ty σ H2 fun y H3 => IsDP x y v H3 fun H4 => nx σ H4) := ⟨fun h => h⟩
instance v_dp {a : Addr} {kvs : List (Key × V)} {n : Nat} {i : Int} {v : V} {L' : Own} {q : Hp → Prop} [S : Sx D L H] [h : Fi L a (.dK kvs) n] [e : Se L n (a, .dK (putK kvs (Sum.inl i) v)) L'] : VC (IsDP (.ref a) (.int i) v H q) (kvs.length < 16777216 ∧ ∀ H', Sx D L' H' → q H') :=
  ⟨fun k => ⟨a, _, rfl, DPut.k (k := Sum.inl i) (S.at h.pf) k.1, k.2 _ (by have := S.put (.dK (putK kvs (Sum.inl i) v)) h.pf; rw [e.pf] at this; exact this)⟩⟩
instance v_dmod {i j : Int} [S : Sx D L H] : VC (rDivM [.int i, .int j] H Q) ((0 < j ∧ j < 1073741824) ∧ ∀ p D' H', Sx D' L H' → Sm D D' → Kn D' p (.tup [.int (i / j), .int (i % j)]) → Q (.ref p) H') := ⟨fun h => ⟨i, j, rfl, h.1, fun p hp => h.2 p _ _ (S.fix hp) ⟨same_upd (S.dH.free hp)⟩ ⟨upd_same⟩⟩⟩
instance v_lstK {a : Addr} {xs : List V} [S : Sx D L H] [ha : Ks D a xs] : VC (rLstOf K [.ref a] H Q) (∀ p H', Sx D ((p, .lst xs) :: L) H' → Q (.ref p) H') := ⟨fun h => ha.pf.elim (fun e => c_lstL S (rsD e) h) fun e => c_lstT S e h⟩
end
/-! pairs -/
theorem ltP (a b c d : Int) : PySem.W.dataLt (tI [a, b]) (tI [c, d]) = (decide (a < c) || (decide (a = c) && decide (b < d))) := by
  show PySem.W.dataLt (.tuple [.int a, .int b]) (.tuple [.int c, .int d]) = _
  rw [PySem.W.dataLt_tuple]
  by_cases e : a = c
  · subst e
    rw [PySem.W.dataLt_all_yes (by simp [PySem.W.alike]) (by simp [PyData.eqv])]
    by_cases e2 : b = d
    · subst e2
      rw [PySem.W.dataLt_all_yes (by simp [PySem.W.alike]) (by simp [PyData.eqv])]
      simp [PySem.W.keyToksAll]
      decide
    · rw [PySem.W.dataLt_all_no (by simp [PySem.W.alike]) (by simp [PyData.eqv, e2]), PySem.W.dataLt_int]
      simp
  · rw [PySem.W.dataLt_all_no (by simp [PySem.W.alike]) (by simp [PyData.eqv, e]), PySem.W.dataLt_int]
    simp [e]
/-- the least of pairs -/
def lessP (x y : Int × Int) : Bool := decide (x.1 < y.1) || (decide (x.1 = y.1) && decide (x.2 < y.2))
def minP (x : Int × Int) (xs : List (Int × Int)) : Int × Int := xs.foldl (fun a y => if lessP y a then y else a) x
abbrev pI (x : Int × Int) : PyData := tI [x.1, x.2]
theorem minP_D : ∀ (xs : List (Int × Int)) (x : Int × Int), PySem.W.minD (pI x) (xs.map pI) = pI (minP x xs)
  | [], x => rfl
  | y :: xs, x => by
    have ih := minP_D xs (if lessP y x then y else x)
    unfold PySem.W.minD minP at ih ⊢
    rw [List.map_cons, List.foldl_cons, List.foldl_cons, ← ih, ltP]
    congr 1
    show (if lessP y x = true then pI y else pI x) = _
    split <;> rfl
section
variable {D H : Hp} {L : Own} {K : PySem.W.Frag} {Q : VK}
theorem dep_pairs : ∀ {xs : List (Int × Int)}, PyData.depthAll (xs.map pI) ≤ 3
  | [] => by simp [PyData.depthAll]
  | x :: xs => by
    have := dep_pairs (xs := xs)
    rw [List.map_cons, PyData.depthAll]
    simp only [PyData.depth, PyData.depthAll, List.map_cons, List.map_nil]
    omega
theorem lay_pairs : ∀ {xs : List (Int × Int)}, PyData.canLayAll0 (xs.map pI) = true
  | [] => by simp [PyData.canLayAll0]
  | x :: xs => by rw [List.map_cons, PyData.canLayAll0, lay_pairs]; simp [PyData.canLay0, PyData.canLayAll0]
theorem c_minP {a : Addr} {us : List V} {x : Int × Int} {xs : List (Int × Int)} (S : Sx D L H) (ha : Rds K D L a us) (hr : RpAll D us ((x :: xs).map pI)) (k : ∀ b, Kn D b (.tup [.int (minP x xs).1, .int (minP x xs).2]) → Q (.ref b) H) : rMinY K [.ref a] H Q := by
  refine .inr ⟨a, us, pI x, xs.map pI, rfl, .inl (ha.sq S), RpAll.dp (RpAll.up S.dH hr), ⟨fun y hy z hz => ?_, fun y hy => ?_⟩, lay_pairs (xs := x :: xs), by have := dep_pairs (xs := x :: xs); rw [List.map_cons] at this; omega, fun i v hv hi => ?_⟩
  · obtain ⟨y, _, rfl⟩ := List.mem_map.mp (show y ∈ (x :: xs).map pI from hy)
    obtain ⟨z, _, rfl⟩ := List.mem_map.mp (show z ∈ (x :: xs).map pI from hz)
    simp [PySem.W.alike, PySem.W.alikeAll]
  · obtain ⟨y, _, rfl⟩ := List.mem_map.mp (show y ∈ (x :: xs).map pI from hy)
    exact fun e => nomatch e
  · obtain ⟨d, h1, h2⟩ := RpAll.getV hr hv
    rw [minP_D] at hi
    rw [show (x :: xs).map pI = pI x :: xs.map pI from rfl, hi] at h1
    cases h1
    obtain ⟨b, rfl, h3⟩ := h2.inv_tupI
    exact k b ⟨h3⟩
end
end Fk

namespace Fk
open PySem PySem.Spec PyProof.Rows L2
/-! ## comprehensions that own more and more; sorted pairs; len of a dict; lists or tuples -/
section
variable {σ : L2.St} {D H : Hp} {L : Own} {K : PySem.W.Frag}
theorem lc_goL {J : It} {n : Nat} {G : Hp → Prop} {Y : Nat → Hp → V → Hp → Prop} (w : Walk J n G Y) {g : TG} {tt : TT} {te : TE} {vs : List Nat} {Q : VK} {σw : L2.St} [S : Sx D L H] [hw : Wip σ vs σw] (hn : n < 16777216)
    (R : Nat → List V → Hp → Own → Prop) (h0 : R 0 [] D L) (hG : ∀ D' L' p acc H', Sm D D' → Sx D' ((p, .lst acc) :: L') H' → G H')
    (hs : ∀ i x p acc D' L' H' H'', i < n → Sm D D' → Sx D' ((p, .lst acc) :: L') H' → R i acc D' L' → Y i H' x H'' → ∀ (Ad : V → Hp → Prop) (Sk : Hp → Prop),
      (∀ y D'' L'' H4, Sm D' D'' → Sx D'' ((p, .lst acc) :: L'') H4 → R (i + 1) (acc ++ [y]) D'' L'' → Ad y H4) →
      (∀ D'' L'' H4, Sm D' D'' → Sx D'' ((p, .lst acc) :: L'') H4 → R (i + 1) acc D'' L'' → Sk H4) →
      g x σw H'' fun σ2 H2 => WOk σ2 vs σw (tt σ2 H2 fun b H3 => if b = true then te σ2 H3 Ad else Sk H3))
    (k : ∀ p D' L' acc H', Sm D D' → Sx D' ((p, .lst acc) :: L') H' → R n acc D' L' → Q (.ref p) H') : tLcJ J g tt te vs σ H Q := by
  obtain rfl := hw.pf
  intro p hp
  refine lc_it w (fun i H' => ∃ D' L' acc, Sm D D' ∧ Sx D' ((p, .lst acc) :: L') H' ∧ R i acc D' L' ∧ acc.length ≤ i) ⟨D, L, [], ⟨Same.refl _⟩, S.new hp, h0, Nat.le_refl _⟩ (fun i H' _ ⟨D', L', acc, e, S', _, _⟩ => hG D' L' p acc H' e S') (fun i x H' H'' hi ⟨D', L', acc, e, S', r, hl⟩ y => ?_) (fun H' ⟨D', L', acc, e, S', r, _⟩ => k p D' L' acc H' e S' r)
  refine hs i x p acc D' L' H' H'' hi e S' r y _ _ (fun z D'' L'' H4 e2 S2 r2 => ?_) (fun D'' L'' H4 e2 S2 r2 => ?_)
  · refine ⟨acc, S2.at (n := 0) rfl, ?_, D'', L'', acc ++ [z], ⟨e.e.trans e2.e⟩, ?_, r2, ?_⟩
    · show acc.length < 16777216
      omega
    · exact S2.put (n := 0) _ rfl
    · rw [List.length_append]
      show acc.length + 1 ≤ i + 1
      omega
  · exact ⟨D'', L'', acc, ⟨e.e.trans e2.e⟩, S2, r2, by omega⟩
end
section
variable {X : Cx}
def rSortedW (K : PySem.W.Frag) : List V → Hp → VK → Prop := fun xs H Q => rSortedX K xs H Q ∨ rSortedP K xs H Q
theorem cr_sortedW : CallR X (.builtin "sorted") (rSortedW X.K) := CallR.or cr_sortedX cr_sortedP
def rLenD : List V → Hp → VK → Prop := fun xs H Q => ∃ a kvs, xs = [V.ref a] ∧ H a = some (.dK kvs) ∧ Q (.int (kvs.length : Nat)) H
theorem call_lenDD : CallR X (.builtin "len") rLenD := call_lenD
end
section
variable {σ : L2.St} {D H : Hp} {L : Own} {K : PySem.W.Frag} {Q : VK}
instance v_sortWL {a : Addr} {xs : List V} {ns : List Int} [S : Sx D L H] [ha : Sl K D L a xs] [c : IsC xs ns] : VC (rSortedW K [.ref a] H Q) (∀ ns' : List Int, ns'.Perm ns → ns'.Pairwise (· ≤ ·) → ∀ p H', Sx D ((p, .lst (ns'.map V.int)) :: L) H' → Q (.ref p) H') := ⟨fun h => .inl (VC.pf h)⟩
instance v_sortWT {a : Addr} {xs : List V} {ns : List Int} [S : Sx D L H] [ha : Kn D a (.tup xs)] [c : IsC xs ns] : VC (rSortedW K [.ref a] H Q) (∀ ns' : List Int, ns'.Perm ns → ns'.Pairwise (· ≤ ·) → ∀ p H', Sx D ((p, .lst (ns'.map V.int)) :: L) H' → Q (.ref p) H') := ⟨fun h => .inl (VC.pf h)⟩
instance v_sortWK {a : Addr} {xs : List V} {ns : List Int} [S : Sx D L H] [ha : Ks D a xs] [c : IsC xs ns] : VC (rSortedW K [.ref a] H Q) (∀ ns' : List Int, ns'.Perm ns → ns'.Pairwise (· ≤ ·) → ∀ p H', Sx D ((p, .lst (ns'.map V.int)) :: L) H' → Q (.ref p) H') := ⟨fun h => .inl (ha.pf.elim
  (fun e => c_sortL S (by rw [← c.pf]; exact rsD e) fun ns' p H' h1 h2 S' => h ns' h1 h2 p H' S')
  (fun e => c_sortT S (by rw [← c.pf]; exact e) fun ns' p H' h1 h2 S' => h ns' h1 h2 p H' S'))⟩
theorem c_sortP {a : Addr} {us : List V} {xs : List (Int × Int)} (S : Sx D L H) (ha : Rds K D L a us) (hr : RpAll D us (xs.map pI)) (k : ∀ ys p H', ys.Perm us → Sx D ((p, .lst ys) :: L) H' → Q (.ref p) H') : rSortedW K [.ref a] H Q := by
  refine .inr ⟨a, us, rfl, ha.sq S, fun v hv => ?_, fun ys p hp hn => k ys p _ hp (S.new hn)⟩
  obtain ⟨i, hi⟩ := List.getElem?_of_mem hv
  obtain ⟨d, h1, h2⟩ := RpAll.getV hr hi
  rw [List.getElem?_map] at h1
  cases e : xs[i]? with
  | none => rw [e] at h1; cases h1
  | some x =>
    rw [e] at h1
    cases h1
    obtain ⟨b, rfl, h3⟩ := h2.inv_tupI
    exact ⟨b, x.1, x.2, rfl, S.dH _ _ h3⟩
theorem ra_memP {us : List V} {xs : List (Int × Int)} {v : V} (hr : RpAll D us (xs.map pI)) (hv : v ∈ us) : ∃ b x, x ∈ xs ∧ v = .ref b ∧ Kn D b (.tup [.int x.1, .int x.2]) := by
  obtain ⟨i, hi⟩ := List.getElem?_of_mem hv
  obtain ⟨d, h1, h2⟩ := RpAll.getV hr hi
  rw [List.getElem?_map] at h1
  cases e : xs[i]? with
  | none => rw [e] at h1; cases h1
  | some x =>
    rw [e] at h1
    cases h1
    obtain ⟨b, rfl, h3⟩ := h2.inv_tupI
    exact ⟨b, x, List.mem_of_getElem? e, rfl, ⟨h3⟩⟩
instance v_lenD {a : Addr} {kvs : List (Key × V)} {n : Nat} [S : Sx D L H] [h : Fi L a (.dK kvs) n] : VC (rLenD [.ref a] H Q) (Q (.int (kvs.length : Nat)) H) := ⟨fun k => ⟨a, kvs, rfl, S.at h.pf, k⟩⟩
instance v_enXK {a : Addr} {xs : List V} {R : It → Hp → Prop} [S : Sx D L H] [ha : Ks D a xs] : VC (IsEX K [.ref a] H R) (∀ (J : It) (G : Hp → Prop), Walk J xs.length G (YPair (fun i => some (.int (i : Nat))) (fun i => xs[i]?)) → (∀ D' L' H', Sx D' L' H' → Sm D D' → G H') → R J H) :=
  ⟨fun h => ha.pf.elim
    (fun e => .inl ⟨a, xs, rfl, .of (S.dH _ _ e), h _ _ walk_enum fun D' L' H' S' s => .of (S'.dH _ _ (s.e _ _ e))⟩)
    (fun e => .inr ⟨a, xs, rfl, sqT S e, h _ _ walk_enumT fun D' L' H' S' s => .of (S'.dH _ _ (s.e _ _ e))⟩)⟩
end
/-- some lists of three numbers -/
abbrev P3 := Addr × Int × Int × Int
def ownP (ps : List P3) : Own := ps.map fun q => (q.1, .lst [.int q.2.1, .int q.2.2.1, .int q.2.2.2])
theorem ownP_front {ps : List P3} {i : Nat} {q : P3} {x : Addr × HO} {L : Own} (h : ps[i]? = some q) : (x :: (ownP ps ++ L)).Perm ((q.1, .lst [.int q.2.1, .int q.2.2.1, .int q.2.2.2]) :: x :: (ownP (ps.eraseIdx i) ++ L)) := by
  have h1 := (perm_front h).map (fun q : P3 => ((q.1, HO.lst [V.int q.2.1, V.int q.2.2.1, V.int q.2.2.2]) : Addr × HO))
  have h2 : (ownP ps ++ L).Perm ((q.1, .lst [.int q.2.1, .int q.2.2.1, .int q.2.2.2]) :: (ownP (ps.eraseIdx i) ++ L)) := List.Perm.append_right L h1
  exact (h2.cons x).trans (List.Perm.swap _ _ _)
theorem ownP_back {ps : List P3} {i : Nat} {q r : P3} {x : Addr × HO} {L : Own} (h : ps[i]? = some q) : ((r.1, .lst [.int r.2.1, .int r.2.2.1, .int r.2.2.2]) :: x :: (ownP (ps.eraseIdx i) ++ L)).Perm (x :: (ownP (ps.set i r) ++ L)) := by
  have hi := (List.getElem?_eq_some_iff.mp h).1
  have hs : (ps.set i r)[i]? = some r := by rw [List.getElem?_set, if_pos rfl, if_pos hi]
  have he : (ps.set i r).eraseIdx i = ps.eraseIdx i := by
    clear h hs
    induction ps generalizing i with
    | nil => simp at hi
    | cons y ys ih =>
      cases i with
      | zero => rfl
      | succ i =>
        rw [List.set_cons_succ, List.eraseIdx_cons_succ, List.eraseIdx_cons_succ, ih (by simpa using hi)]
  have := ownP_front (x := x) (L := L) hs
  rw [he] at this
  exact this.symm
end Fk

namespace Fk
open PySem PySem.Spec PyProof.Rows L2
/-! ## insert at any place -/
def insP (i : Int) (n : Nat) : Nat := if i < 0 then (i + (n : Int)).toNat else min i.toNat n
def rInsG : V → List V → Hp → VK → Prop := fun x vs H Q => ∃ (l : Addr) (xs : List V) (i : Int) (y : V), x = .ref l ∧ vs = [.int i, y] ∧ H l = some (.lst xs) ∧ xs.length < sizeLine ∧ -(2 ^ 63) ≤ i ∧ i < 2 ^ 63 ∧ Q .non (upd H l (.lst (xs.take (insP i xs.length) ++ [y] ++ xs.drop (insP i xs.length))))
theorem mt_insG {X : Cx} : MtR X "list.insert" rInsG := by
  intro pins s σ H x xs v us Q I rx rv h
  obtain ⟨l, xs, i, y, rfl, rfl, hH, hz, h0, h1, q⟩ := h
  cases rx
  obtain ⟨u1, u2, rfl, r1, r2⟩ := rv.two
  obtain ⟨t, rfl⟩ := r1
  obtain ⟨z, its, n, r, hl, e⟩ := I.lstM hH
  have hfit : Builtin.List.listFitsIndex i = true := fitsIndex_both h0 h1
  have hk : (if i < 0 then (i + (its.toArray.size : Int)).toNat else min i.toNat its.toArray.size) = insP i xs.length := by
    unfold insP
    rw [List.size_toArray, hl]
  refine call_meets PySem.F.slot_list_insert ⟨_, e, rfl⟩ PySem.F.entry_list_insert (PySem.F.args_list_insert_3 _ _ _) (AutoSeq1.list_insert_list_int_val_1 l its.toArray n i t u2 (by simp [hfit]) (by rw [List.size_toArray]; omega)) ⟨e, ?_⟩
  refine ⟨.non, _, I.lset (its' := its.take (insP i xs.length) ++ [u2] ++ its.drop (insP i xs.length)) hH e ?_ (((r.take (insP i xs.length)).append (.cons r2 .nil)).append (r.drop (insP i xs.length))) ?_, rfl, q⟩
  · show (its.toArray.extract 0 (if i < 0 then (i + (its.toArray.size : Int)).toNat else min i.toNat its.toArray.size)).push u2 ++ its.toArray.extract (if i < 0 then (i + (its.toArray.size : Int)).toNat else min i.toNat its.toArray.size) =
      (its.take (insP i xs.length) ++ [u2] ++ its.drop (insP i xs.length)).toArray
    rw [hk, PySem.W.kl_ins_eq, List.append_assoc]
    rfl
  · rw [List.length_append, List.length_append, List.length_take, List.length_drop, List.length_singleton]
    omega
theorem ins_len {α : Type} {xs : List α} {y : α} {k : Nat} : (xs.take k ++ [y] ++ xs.drop k).length = xs.length + 1 := by
  rw [List.length_append, List.length_append, List.length_take, List.length_drop, List.length_singleton]
  omega
section
variable {σ : L2.St} {D H : Hp} {L : Own} {K : PySem.W.Frag} {Q : VK}
instance v_insG {a : Addr} {xs : List V} {n : Nat} {i : Int} {y : V} {L' : Own} [S : Sx D L H] [h : Fi L a (.lst xs) n] [e : Se L n (a, .lst (xs.take (insP i xs.length) ++ [y] ++ xs.drop (insP i xs.length))) L'] : VC (rInsG (.ref a) [.int i, y] H Q) ((xs.length < 16777216 ∧ -4611686018427387904 ≤ i ∧ i < 4611686018427387904) ∧ ∀ H', Sx D L' H' → Q .non H') :=
  ⟨fun k => ⟨a, xs, i, y, rfl, rfl, S.at h.pf, k.1.1, by have := k.1.2.1; omega, by have := k.1.2.2; omega, k.2 _ (by have := S.put (.lst (xs.take (insP i xs.length) ++ [y] ++ xs.drop (insP i xs.length))) h.pf; rw [e.pf] at this; exact this)⟩⟩
/-- a number and a list of numbers -/
abbrev nlI (c : Int) (xs : List Int) : PyData := .tuple [.int c, lI xs]
theorem sh_nl (c : Int) (xs : List Int) : SeqAt.shaped (nlI c xs) = true := (Sh.tup (n := 1) fun d hd => by
  rcases List.mem_cons.mp hd with rfl | hd
  · exact Sh.int 1 c
  · rw [List.mem_singleton.mp hd]
    exact Sh.list (n := 0) Sh.ints).ok
theorem eqv_nl (c d : Int) (xs ys : List Int) : PyData.eqv (nlI c xs) (nlI d ys) = decide (c = d ∧ xs = ys) := by
  simp only [PyData.eqv, PyData.eqvAll]
  rw [eqv_I]
  by_cases h : c = d <;> by_cases h2 : xs = ys <;> simp [h, h2]
theorem dp_nl {t g : Addr} {c : Int} {xs : List Int} (S : Sx D L H) (kt : Kn D t (.tup [.int c, .ref g])) (hg : Rds K D L g (xs.map V.int)) : Dp K H (.ref t) (nlI c xs) :=
  .tup (sqT S kt.pf) (.cons (.int c) (.cons (.lst (hg.sq S) (dpa_ints xs)) .nil))
theorem r_neNL {t t2 g g2 : Addr} {c d : Int} {xs ys : List Int} (S : Sx D L H) (kt : Kn D t (.tup [.int c, .ref g])) (hg : Rds K D L g (xs.map V.int)) (kt2 : Kn D t2 (.tup [.int d, .ref g2])) (hg2 : Rds K D L g2 (ys.map V.int)) (k : Q (.bl (!decide (c = d ∧ xs = ys))) H) : rNeX K (.ref t) (.ref t2) H Q :=
  .inr ⟨_, _, dp_nl S kt hg, dp_nl S kt2 hg2, sh_nl c xs, sh_nl d ys, by rw [eqv_nl]; exact k⟩
end
end Fk

namespace Fk
open PySem PySem.Spec PyProof.Rows L2
/-! ## any of a tuple; dicts by tuples of ints; tuples of truths -/
theorem dpa_bls {K : PySem.W.Frag} {H : Hp} : ∀ (bs : List Bool), DpAll K H (bs.map V.bl) (bs.map PyData.bool)
  | [] => .nil
  | b :: bs => .cons (.bl b) (dpa_bls bs)
theorem plain_bls : ∀ (bs : List Bool), PyData.plainAll (bs.map PyData.bool) = true
  | [] => by simp [PyData.plainAll]
  | b :: bs => by rw [List.map_cons, PyData.plainAll, plain_bls bs]; simp [PyData.plain]
section
variable {X : Cx}
def rAnyT (K : PySem.W.Frag) : List V → Hp → VK → Prop := fun vs H Q => ∃ (a : Addr) (bs : List Bool), vs = [V.ref a] ∧ SqT K H a (bs.map V.bl) ∧ Q (.bl (bs.any id)) H
theorem cr_anyT (hc : X.calm = true) : CallR X (.builtin "any") (rAnyT X.K) := by
  intro pins s σ H vs us Q I r h
  obtain ⟨a, bs, rfl, hs, q⟩ := h
  obtain ⟨its, rv, hl, _⟩ := I.tuple hs
  rw [Vals.ref1 r]
  obtain ⟨as, hr⟩ := Dp.readsAll I (bs.map PyData.bool) _ its (dpa_bls bs) rv
  refine PySem.W.any_tuple_data (I.ok.hd hc) (vs := its.toArray) hl (show ReadsAll s.heap its.toArray.toList _ as from hr) (plain_bls bs) (fun x hx => ?_) fun h' tk hk => ?_
  · obtain ⟨b, _, rfl⟩ := List.mem_map.mp hx
    simp [PyData.fits63]
  · have e : (bs.map PyData.bool).any PyData.truthy = bs.any id := by
      rw [List.any_map]
      rfl
    rw [e]
    exact ⟨.bl _, H, I.kept hk, rfl, q⟩
def rAnyX (K : PySem.W.Frag) : List V → Hp → VK → Prop := fun xs H Q => rAny K xs H Q ∨ rAnyT K xs H Q
theorem cr_anyX (hc : X.calm = true) : CallR X (.builtin "any") (rAnyX X.K) := CallR.or (cr_any hc) (cr_anyT hc)
end
class KeC (us : List V) (k : outParam (List Key)) : Prop where
  pf : us = k.map kV
instance ke0 : KeC [] [] := ⟨rfl⟩
instance keI {i : Int} {us : List V} {k : List Key} [h : KeC us k] : KeC (.int i :: us) (Sum.inl i :: k) := ⟨by rw [h.pf]; rfl⟩
theorem putK_len {κ : Type} [DecidableEq κ] (kvs : List (κ × V)) (k : κ) (v : V) : (putK kvs k v).length ≤ kvs.length + 1 := by
  unfold putK
  split
  · rw [List.length_map]
    omega
  · rw [List.length_append]
    exact Nat.le_refl _
section
variable {σ : L2.St} {D H : Hp} {L : Own} {K : PySem.W.Frag} {Q : VK}
instance v_anyXL {a : Addr} {xs : List V} {bs : List Bool} [S : Sx D L H] [ha : Sl K D L a xs] [c : BsC xs bs] : VC (rAnyX K [.ref a] H Q) (Q (.bl (bs.any id)) H) := ⟨fun h => .inl (VC.pf h)⟩
instance v_anyXT {a : Addr} {xs : List V} {bs : List Bool} [S : Sx D L H] [ha : Kn D a (.tup xs)] [c : BsC xs bs] : VC (rAnyX K [.ref a] H Q) (Q (.bl (bs.any id)) H) := ⟨fun h => .inr ⟨a, bs, rfl, by rw [← c.pf]; exact sqT S ha.pf, h⟩⟩
instance v_dgT {a b : Addr} {kvs : List (List Key × V)} {n : Nat} {us : List V} {k : List Key} {q : Option V → Prop} [S : Sx D L H] [h : Fi L a (.dT kvs) n] [kb : Kn D b (.tup us)] [c : KeC us k] : VC (IsDG (.ref a) (.ref b) H q) (q (valV kvs k)) := ⟨fun z => ⟨a, _, rfl, DGet.t (S.at h.pf) (by rw [← c.pf]; exact S.dH _ _ kb.pf), z⟩⟩
instance v_dpT {a b : Addr} {kvs : List (List Key × V)} {n : Nat} {us : List V} {k : List Key} {v : V} {L' : Own} {q : Hp → Prop} [S : Sx D L H] [h : Fi L a (.dT kvs) n] [kb : Kn D b (.tup us)] [c : KeC us k] [e : Se L n (a, .dT (putK kvs k v)) L'] : VC (IsDP (.ref a) (.ref b) v H q) (kvs.length < 16777216 ∧ ∀ H', Sx D L' H' → q H') :=
  ⟨fun z => ⟨a, _, rfl, DPut.t (S.at h.pf) (by rw [← c.pf]; exact S.dH _ _ kb.pf) z.1, z.2 _ (by have := S.put (.dT (putK kvs k v)) h.pf; rw [e.pf] at this; exact this)⟩⟩
instance v_dnewT [S : Sx D L H] : VC (tDNewT σ H Q) (∀ p H', Sx D ((p, .dT []) :: L) H' → Q (.ref p) H') := ⟨fun h p hp => h p _ (S.new hp)⟩
end
theorem ra_ers {D : Hp} : ∀ {vs : List V} {ds : List PyData} (n : Nat), RpAll D vs ds → RpAll D (vs.eraseIdx n) (ds.eraseIdx n)
  | _, _, _, .nil => .nil
  | _, _, 0, .cons _ t => t
  | _, _, n + 1, .cons h t => .cons h (ra_ers n t)
/-! (x,) * n, n to a million -/
def rRep1U (K : PySem.W.Frag) : R2 := fun x y H Q => ∃ l k v, x = .ref l ∧ y = .int k ∧ SqT K H l [v] ∧ 2 ≤ k ∧ k ≤ 1000000 ∧ ∀ p, H p = none → Q (.ref p) (upd H p (.tup (List.replicate k.toNat [v]).flatten))
theorem rep_size (w : Value) (k : Nat) : (List.replicate k [w]).flatten = List.replicate k w := by
  induction k with
  | zero => rfl
  | succ k ih => rw [List.replicate_succ, List.flatten_cons, ih]; rfl
theorem op_rep1U {X : Cx} : OpR X (binaryOp .Mult) (rRep1U X.K) := by
  intro pins s σ H x y v u Q I rx ry h
  obtain ⟨l, k, z, ex, ey, hT, k2, km, q⟩ := h
  subst ex ey
  cases rx
  obtain ⟨tk, rfl⟩ := ry
  obtain ⟨us, rs, tup, _⟩ := I.tuple hT
  obtain ⟨w, eu, rw1⟩ := vals1 rs
  subst eu
  obtain ⟨ob, at_l, cls_l, m, dat_l⟩ := id tup
  have eo : ob = { cls := .type "tuple", dict := ob.dict, data := .seq [w].toArray m, slots := ob.slots } := by
    obtain ⟨a1, a2, a3, a4⟩ := ob
    simp only at cls_l dat_l
    rw [cls_l, dat_l]
  rw [eo] at at_l
  have big : (List.replicate k.toNat [w]).flatten.length ≤ 1000000 := by rw [rep_size, List.length_replicate]; omega
  have line : 1000000 ≤ sizeLine := by rw [sizeLine_eq]; decide
  have made := tuple_mulW l [w].toArray m ob.dict ob.slots k tk (by simp; omega) (by simp; omega) (by simp; omega) (by simp; omega)
    (by unfold Builtin.Tuple.tupleTooMany; rw [sizeLine_eq]; simp; omega) (by rw [size_rep]; exact Nat.le_trans big line)
  have isT : ∀ s' : Shared, s'.heap = s.heap → s'.TypeIs (.ref l) "tuple" := fun s' e => ⟨_, by rw [e]; exact at_l, rfl⟩
  have fin : ObjOk X.prog X.w (upd H s.heap.objs.size (.tup (List.replicate k.toNat [z]).flatten)) (s.heap.push { cls := Value.type "tuple", data := Data.seq (List.replicate k.toNat [w]).flatten.toArray }) s.heap.objs.size (.tup (List.replicate k.toNat [z]).flatten) := by
    refine ⟨?_, _, rs.rep k.toNat, IsTup.new _ _⟩
    have : (List.replicate k.toNat [z]).flatten.length = (List.replicate k.toNat [w]).flatten.length := (rs.rep k.toNat).length
    omega
  refine wpAny_binaryOp_repeat_ref (T := "tuple") (U := "int") (by decide) (isT s rfl) (fun s' => typeIs_int s' k tk) noFill_tuple_mul PySem.F.fills_int_mul PySem.F.slot_int_rmul repeat_tuple PySem.F.slot_int_index.lookup ?_
  refine call_meets PySem.F.slot_int_rmul (typeIs_int s k tk) PySem.F.entry_int_rmul (PySem.F.args_int_rmul_2 _ _) (int_rmul_tuple k tk l [w].toArray m ob.dict ob.slots) ⟨at_l, rfl, isT s rfl, ?_⟩
  refine call_meets PySem.F.slot_tuple_mul (isT s rfl) PySem.F.entry_tuple_mul (PySem.F.args_tuple_mul_2 _ _) made ⟨at_l, ?_⟩
  rw [size_rep]
  exact ⟨.ref s.heap.objs.size, _, I.laid (t' := s.toks) (fun b o e => Heap.get?_push_of_some _ e) (Nat.le_refl _) fin, rfl, q _ (I.hok.fresh (Nat.le_refl _))⟩
def rMulU (K : PySem.W.Frag) : R2 := fun x y H Q => rMulV K x y H Q ∨ rRep1U K x y H Q
theorem opMulU {X : Cx} : OpR X (binaryOp .Mult) (rMulU X.K) := OpR.or opMulV op_rep1U
section
variable {D H : Hp} {L : Own} {K : PySem.W.Frag} {Q : VK}
instance v_mulUI {i j : Int} : VC (rMulU K (.int i) (.int j) H Q) (MulOk i j ∧ Q (.int (i * j)) H) := ⟨fun h => .inl (VC.pf h)⟩
instance v_mulUL {a : Addr} {x : V} {n : Int} [S : Sx D L H] [ha : Ml D L a [x]] : VC (rMulU K (.ref a) (.int n) H Q) ((-1000000 ≤ n ∧ n ≤ 1000000) ∧ ∀ p H', Sx D ((p, .lst (List.replicate n.toNat x)) :: L) H' → Q (.ref p) H') := ⟨fun h => .inl (VC.pf h)⟩
instance v_mulUT {a : Addr} {x : V} {n : Int} [S : Sx D L H] [ha : Kn D a (.tup [x])] : VC (rMulU K (.ref a) (.int n) H Q) ((0 ≤ n ∧ n ≤ 1000000) ∧ ∀ p D' H', Sx D' L H' → Sm D D' → Kn D' p (.tup (List.replicate n.toNat x)) → Q (.ref p) H') := ⟨fun h => by
  by_cases c : n ≤ 1
  · exact .inl (VC.pf ⟨⟨h.1.1, by omega⟩, h.2⟩)
  · refine .inr ⟨a, n, x, rfl, rfl, sqT S ha.pf, by omega, h.1.2, fun p hp => ?_⟩
    rw [flat_rep]
    exact h.2 p _ _ (S.fix hp) ⟨same_upd (S.dH.free hp)⟩ ⟨upd_same⟩⟩
end
section
variable {σ : L2.St} {D H : Hp} {L : Own} {K : PySem.W.Frag} {Q : VK}
def IsRv (K : PySem.W.Frag) (x : V) (H1 : Hp) (Q : VK) : Prop := ∃ a xs, x = .ref a ∧ SqL K H1 a xs ∧ ∀ p, H1 p = none → Q (.ref p) (upd H1 p (.lst xs.reverse))
instance v_rv0 {te : TE} : VC (tRevL K te σ H Q) (te σ H fun x H1 => IsRv K x H1 Q) := ⟨fun h => h⟩
instance v_rv1 {a : Addr} {xs : List V} [S : Sx D L H] [ha : Sl K D L a xs] : VC (IsRv K (.ref a) H Q) (∀ p H', Sx D ((p, .lst xs.reverse) :: L) H' → Q (.ref p) H') := ⟨fun h => ⟨a, xs, rfl, ha.pf.sq S, fun p hp => h p _ (S.new hp)⟩⟩
end
/-! tuples of truths, list by list -/
theorem TbA.get {D : Hp} {us : List V} {bss : List (List Bool)} (h : TbA D us bss) {i : Nat} {u : V} (hu : us[i]? = some u) : ∃ b bs, u = .ref b ∧ bss[i]? = some bs ∧ Kn D b (.tup (bs.map V.bl)) := by
  have hi := (List.getElem?_eq_some_iff.mp hu).1
  obtain ⟨bs0, hb⟩ : ∃ bs0, bss[i]? = some bs0 := ⟨_, List.getElem?_eq_getElem (by rw [← h.1]; exact hi)⟩
  obtain ⟨b, e, k⟩ := h.2 i u _ hu hb
  exact ⟨b, _, e, hb, k⟩
theorem TbA.take {D : Hp} {us : List V} {bss : List (List Bool)} (h : TbA D us bss) (n : Nat) : TbA D (us.take n) (bss.take n) := ⟨by rw [List.length_take, List.length_take, h.1], fun i u bs h1 h2 => by
  have hi := (List.getElem?_eq_some_iff.mp h1).1
  rw [List.length_take] at hi
  rw [List.getElem?_take_of_lt (by omega)] at h1 h2
  exact h.2 i u bs h1 h2⟩
theorem TbA.drop {D : Hp} {us : List V} {bss : List (List Bool)} (h : TbA D us bss) (n : Nat) : TbA D (us.drop n) (bss.drop n) := ⟨by rw [List.length_drop, List.length_drop, h.1], fun i u bs h1 h2 => by
  rw [List.getElem?_drop] at h1 h2
  exact h.2 _ u bs h1 h2⟩
theorem TbA.set {D : Hp} {us : List V} {bss : List (List Bool)} (h : TbA D us bss) (n : Nat) {b : Addr} {bs : List Bool} (k : Kn D b (.tup (bs.map V.bl))) : TbA D (us.set n (.ref b)) (bss.set n bs) := ⟨by rw [List.length_set, List.length_set, h.1], fun i u cs h1 h2 => by
  rw [List.getElem?_set] at h1 h2
  by_cases c : n = i
  · subst c
    rw [if_pos rfl] at h1 h2
    split at h1
    · split at h2
      · cases h1
        cases h2
        exact ⟨b, rfl, k⟩
      · cases h2
    · cases h1
  · rw [if_neg c] at h1 h2
    exact h.2 i u cs h1 h2⟩
theorem TbA.ers {D : Hp} {us : List V} {bss : List (List Bool)} (h : TbA D us bss) (n : Nat) : TbA D (us.eraseIdx n) (bss.eraseIdx n) := by
  rw [List.eraseIdx_eq_take_drop_succ, List.eraseIdx_eq_take_drop_succ]
  exact (h.take n).app (h.drop (n + 1))
theorem TbA.rev {D : Hp} {us : List V} {bss : List (List Bool)} (h : TbA D us bss) : TbA D us.reverse bss.reverse := ⟨by rw [List.length_reverse, List.length_reverse, h.1], fun i u cs h1 h2 => by
  have hi := (List.getElem?_eq_some_iff.mp h1).1
  rw [List.length_reverse] at hi
  rw [List.getElem?_reverse hi] at h1
  rw [List.getElem?_reverse (by rw [← h.1]; exact hi), ← h.1] at h2
  exact h.2 _ u cs h1 h2⟩
end Fk

namespace Fk
open PySem PySem.Spec PyProof.Rows L2
theorem divW1 {i m : Int} (h0 : 1 ≤ m) (h1 : m ≤ 1000000000000000000000000000000000000000000000000000000000001) : DivOk i m := by
  have h2 : m.natAbs ≤ 1000000000000000000000000000000000000000000000000000000000001 := by omega
  exact .inr (wide_div (b := 200) (by omega) (Nat.lt_of_le_of_lt h2 (by decide +kernel)) (by decide) (by decide))
/-! ## reversed(xs) -/
theorem walk_rev {K : PySem.W.Frag} {a : Addr} {xs : List V} : Walk (Itv K a xs.length) xs.length (fun H => SqL K H a xs) (fun i H v H' => H' = H ∧ xs[xs.length - 1 - i]? = some v) :=
  ⟨fun i _ hi q => ⟨hi, xs, xs[xs.length - 1 - i], q, List.getElem?_eq_getElem _⟩, fun _ q => Nat.le_refl _, fun i H v H' _ q y => ⟨y.1, y.2 xs q⟩⟩
section
variable {σ : L2.St} {D H : Hp} {L : Own} {K : PySem.W.Frag} {Q : VK}
def IsRvd (K : PySem.W.Frag) (v : V) (H1 : Hp) (R : It → Hp → Prop) : Prop := ∃ (a : Addr) (xs : List V), v = .ref a ∧ ((SqL K H1 a xs ∧ R (Itv K a xs.length) H1) ∨ (SqT K H1 a xs ∧ R (RT.ItvT K a xs.length) H1))
instance v_rv {te : TE} {R : It → Hp → Prop} : VC (RT.iRevA K te σ H R) (te σ H fun v H1 => IsRvd K v H1 R) := ⟨fun h => h⟩
instance v_rvL {a : Addr} {xs : List V} {R : It → Hp → Prop} [S : Sx D L H] [ha : Sl K D L a xs] : VC (IsRvd K (.ref a) H R) (R (Itv K a xs.length) H) := ⟨fun h => ⟨a, xs, rfl, .inl ⟨ha.pf.sq S, h⟩⟩⟩
/-! ## t.index(x), t a tuple of numbers -/
def rIdxT (K : PySem.W.Frag) : V → List V → Hp → VK → Prop := fun x xs H Q => ∃ (p : Addr) (ns : List Int) (z : Int), x = .ref p ∧ xs = [.int z] ∧ SqT K H p (ns.map V.int) ∧ z ∈ ns ∧ Q (.int (ns.idxOf z : Nat)) H
theorem mt_idxT {X : Cx} : MtR X "tuple.index" (rIdxT X.K) := by
  intro pins s σ H x xs v us Q I rx rs h
  obtain ⟨p, ns, z, rfl, rfl, hq, hz, q⟩ := h
  cases rx
  obtain ⟨u, rfl, t, rfl⟩ := vals1 rs
  obtain ⟨its, r, pl, _⟩ := I.tuple hq
  exact SeqAt.call_tuple_index pl (SeqAt.ItemsEq.ints r.ints) hz ⟨.int (ns.idxOf z : Nat), H, I.tok _, ⟨_, rfl⟩, q⟩
end
/-! ## tuples whose object is known: their methods can be called -/
class Kz (D : Hp) (a : Addr) (xs : outParam (List V)) : Prop where
  pf : ∃ o : Obj, D a = some (.frz o (.tup xs)) ∧ o.cls = .type "tuple" ∧ o.dict = none
instance kzUp {D D' : Hp} {a : Addr} {xs : List V} [s : Sm D D'] [k : Kz D a xs] : Kz D' a xs := ⟨let ⟨o, e, r⟩ := k.pf; ⟨o, s.e _ _ e, r⟩⟩
def rTupZ (K : PySem.W.Frag) : List V → Hp → VK → Prop := fun xs H Q => ∃ p ys, xs = [.ref p] ∧ SqL K H p ys ∧ ∀ (l : Addr) (o : Obj), H l = none → o.cls = .type "tuple" → o.dict = none → Q (.ref l) (upd H l (.frz o (.tup ys)))
theorem call_tupZ {X : Cx} : CallR X (.type "tuple") (rTupZ X.K) := by
  intro pins s σ H xs us Q I r h
  obtain ⟨p, ys, rfl, hq, q⟩ := h
  obtain ⟨u, rfl, rx⟩ := vals1 r
  cases rx
  obtain ⟨its, rv, pl, hz⟩ := I.list hq
  have hl := rv.length
  refine call_tuple_list pl.isList (fun h' kp => ?_) (by simp only [List.size_toArray] <;> omega)
  have I1 : Inv X pins σ H { s with heap := h' } := I.kept (t' := s.toks) kp
  refine ⟨.ref h'.objs.size, _, I1.laid (t' := s.toks) (o := .frz { cls := .type "tuple", data := .seq its.toArray } (.tup ys)) (fun b o e => Heap.get?_push_of_some _ e) (Nat.le_refl _) ⟨Heap.get?_push_size _ rfl, hz, its, rv, IsTup.new _ _⟩, rfl, q _ _ (I1.hok.fresh (Nat.le_refl _)) rfl rfl⟩
def tyZ : V → Hp → Prop := fun x H => ∃ (a : Addr) (o : Obj) (xs : List V), x = .ref a ∧ H a = some (.frz o (.tup xs)) ∧ o.cls = .type "tuple" ∧ o.dict = none
theorem ty_tupZ {X : Cx} : TyOk X "tuple" tyZ := by
  intro pins σ H s x v I r ty
  obtain ⟨a, o, xs, rfl, e, hc, hd⟩ := ty
  cases r
  obtain ⟨ho, _⟩ := (show ObjOk X.prog X.w H s.heap a (.frz o (.tup xs)) from I.hok a _ e)
  refine ⟨⟨o, ho, hc⟩, fun b hb => ?_⟩
  cases hb
  exact ⟨o, ho, hd⟩
section
variable {σ : L2.St} {D H : Hp} {L : Own} {K : PySem.W.Frag} {Q : VK}
theorem sqZ {a : Addr} {xs : List V} (S : Sx D L H) (h : Kz D a xs) : SqT K H a xs := let ⟨o, e, _⟩ := h.pf; .inl (.inr ⟨o, S.dH _ _ e⟩)
instance v_idxZ {a : Addr} {xs : List V} {ns : List Int} {z : Int} [S : Sx D L H] [ha : Kz D a xs] [c : IsC xs ns] : VC (rIdxT K (.ref a) [.int z] H Q) (z ∈ ns ∧ Q (.int (ns.idxOf z : Nat)) H) :=
  ⟨fun h => ⟨a, ns, z, rfl, rfl, by rw [← c.pf]; exact sqZ S ha, h.1, h.2⟩⟩
instance v_mG {to : TE} {t : TA} {ty : V → Hp → Prop} {r : V → List V → Hp → VK → Prop} : VC (tMG ty r to t σ H Q) (to σ H fun x H1 => ty x H1 ∧ t σ H1 fun xs H2 => r x xs H2 Q) := ⟨fun h => h⟩
instance v_tyZ {a : Addr} {xs : List V} {p : Prop} [S : Sx D L H] [ha : Kz D a xs] : VC (tyZ (.ref a) H ∧ p) p := ⟨fun h => ⟨let ⟨o, e, r1, r2⟩ := ha.pf; ⟨a, o, xs, rfl, S.dH _ _ e, r1, r2⟩, h⟩⟩
instance v_tupZ {a : Addr} {xs : List V} [S : Sx D L H] [ha : Sl K D L a xs] : VC (rTupZ K [.ref a] H Q) (∀ p D' H', Sx D' L H' → Sm D D' → Kz D' p xs → Q (.ref p) H') :=
  ⟨fun h => ⟨a, xs, rfl, ha.pf.sq S, fun p o hp h1 h2 => h p _ _ (S.fix hp) ⟨same_upd (S.dH.free hp)⟩ ⟨o, upd_same, h1, h2⟩⟩⟩
instance tyTupZ {a : Addr} {xs : List V} [S : Sx D L H] [k : Kz D a xs] : TyC K H (.ref a) "tuple" := ⟨let ⟨o, e, _⟩ := k.pf; .fTuple (S.dH _ _ e)⟩
instance v_lenZ {a : Addr} {xs : List V} {n : Nat} [S : Sx D L H] [ha : Kz D a xs] [l : LnC xs n] : VC (rLen K [.ref a] H Q) (Q (.int n) H) := ⟨fun h => ⟨.ref a, xs.length, rfl, .inr ⟨xs, sqZ S ha, rfl⟩, by rw [l.pf]; exact h⟩⟩
instance v_sqZ {a : Addr} {xs : List V} {R : It → Hp → Prop} [S : Sx D L H] [ha : Kz D a xs] : VC (IsSq K (.ref a) H R) (R (Itt K a) H) := ⟨fun h => .inr ⟨a, rfl, ⟨xs, sqZ S ha⟩, h⟩⟩
instance v_ixZ {a : Addr} {xs : List V} {i : Int} {v : V} [S : Sx D L H] [ha : Kz D a xs] [h : AtC xs i v] : VC (rIx K (.ref a) (.int i) H Q) (Q v H) := ⟨fun k => .inr (.inl ⟨a, xs, i, v, rfl, rfl, sqZ S ha, h.pf, k⟩)⟩
instance v_sumZ {a : Addr} {xs : List V} {ns : List Int} [S : Sx D L H] [ha : Kz D a xs] [c : IsC xs ns] : VC (rSumX K [.ref a] H Q) (Q (.int ns.sum) H) := ⟨fun h => .inr ⟨a, ns, rfl, by rw [← c.pf]; exact sqZ S ha, h⟩⟩
instance v_sortRZ {a : Addr} {xs : List V} {ns : List Int} [S : Sx D L H] [ha : Kz D a xs] [c : IsC xs ns] : VC (rSortedR K [.ref a] [.bl true] H Q) (∀ ns' : List Int, ns'.Perm ns → ns'.Pairwise (· ≥ ·) → ∀ p H', Sx D ((p, .lst (ns'.map V.int)) :: L) H' → Q (.ref p) H') :=
  ⟨fun h => ⟨a, ns, rfl, rfl, .inr (by rw [← c.pf]; exact sqZ S ha), fun ns' p h1 h2 hp => h ns' h1 h2 p _ (S.new hp)⟩⟩
instance v_minZ {a : Addr} {xs : List V} {ns : List Int} [S : Sx D L H] [ha : Kz D a xs] [c : IsC xs ns] : VC (rMinY K [.ref a] H Q) (0 < ns.length ∧ ∀ m, m ∈ ns → (∀ y, y ∈ ns → m ≤ y) → Q (.int m) H) := ⟨fun h => c_minYS (sqZ S ha) h⟩
instance v_maxZ {a : Addr} {xs : List V} {ns : List Int} [S : Sx D L H] [ha : Kz D a xs] [c : IsC xs ns] : VC (rMaxY K [.ref a] H Q) (0 < ns.length ∧ Q (.int (mxL ns)) H) := ⟨fun h => c_maxYS (sqZ S ha) h⟩
/-! ## the same data on both sides -/
theorem r_neSame {x y : V} {d : PyData} {n : Nat} (hx : Dp K H x d) (hy : Dp K H y d) (sh : Sh n d) (k : Q (.bl false) H) (hn : n ≤ 64 := by decide) : rNeX K x y H Q :=
  .inr ⟨d, d, hx, hy, sh.ok hn, sh.ok hn, by rw [SeqAt.eqv_refl d sh.1]; exact k⟩
theorem r_eqSame {x y : V} {d : PyData} {n : Nat} (hx : Dp K H x d) (hy : Dp K H y d) (sh : Sh n d) (k : Q (.bl true) H) (hn : n ≤ 64 := by decide) : rEqX K x y H Q :=
  .inr ⟨d, d, hx, hy, sh.ok hn, sh.ok hn, by rw [SeqAt.eqv_refl d sh.1]; exact k⟩
/-- a number, a list of pairs, one thing more -/
abbrev nplD (c : Int) (ps : List (Int × Int)) (d : PyData) : PyData := .tuple [.int c, .list (ps.map pI), d]
theorem sh_npl {c : Int} {ps : List (Int × Int)} {d : PyData} (h : Sh 2 d) : Sh 3 (nplD c ps d) := Sh.tup (n := 2) fun e he => by
  rcases List.mem_cons.mp he with rfl | he
  · exact Sh.int 2 c
  · rcases List.mem_cons.mp he with rfl | he
    · exact Sh.list (n := 1) fun z hz => by
        obtain ⟨p, _, rfl⟩ := List.mem_map.mp hz
        exact Sh.tup (n := 0) Sh.ints
    · rw [List.mem_singleton.mp he]
      exact h
theorem dp_npl {t g : Addr} {c : Int} {us : List V} {ps : List (Int × Int)} {v : V} {d : PyData} (S : Sx D L H) (kt : Kn D t (.tup [.int c, .ref g, v])) (hg : Rds K D L g us) (hr : RpAll D us (ps.map pI)) (hd : Dp K H v d) : Dp K H (.ref t) (nplD c ps d) :=
  .tup (sqT S kt.pf) (.cons (.int c) (.cons (.lst (hg.sq S) (RpAll.dp (RpAll.up S.dH hr))) (.cons hd .nil)))
end
/-! ## t + u, the object known -/
def rCatZ (K : PySem.W.Frag) : R2 := fun x y H Q => ∃ (a b : Addr) (xs ys : List V), x = .ref a ∧ y = .ref b ∧ SqT K H a xs ∧ SqT K H b ys ∧ xs ≠ [] ∧ ys ≠ [] ∧ xs.length + ys.length ≤ sizeLine ∧
  ∀ (p : Addr) (o : Obj), H p = none → o.cls = .type "tuple" → o.dict = none → Q (.ref p) (upd H p (.frz o (.tup (xs ++ ys))))
theorem opCatZ {X : Cx} : OpR X (binaryOp .Add) (rCatZ X.K) := by
  intro pins s σ H x y v u Q I rx ry h
  obtain ⟨a, b, xs, ys, rfl, rfl, ha, hb, hx, hy, hz, q⟩ := h
  cases rx
  cases ry
  obtain ⟨its, r1, p1, _⟩ := I.tuple ha
  obtain ⟨its2, r2, p2, _⟩ := I.tuple hb
  refine HT.cat_tup p1 p2 (fun z => hx (r1.nil_iff.mp z)) (fun z => absurd (r2.nil_iff.mp z) hy) (fun z => ?_) (by rw [← r1.length, ← r2.length]; exact hz)
  exact ⟨.ref s.heap.objs.size, _, I.laid (t' := s.toks) (o := .frz { cls := .type "tuple", data := .seq (its ++ its2).toArray } (.tup (xs ++ ys))) (fun b ob q => Heap.get?_push_of_some _ q) (Nat.le_refl _) ⟨Heap.get?_push_size _ rfl, by rw [List.length_append]; exact hz, _, r1.append r2, IsTup.new _ _⟩, rfl, q _ _ (I.hok.fresh (Nat.le_refl _)) rfl rfl⟩
section
variable {σ : L2.St} {D H : Hp} {L : Own} {K : PySem.W.Frag} {Q : VK}
instance v_catZ {a b : Addr} {xs ys : List V} [S : Sx D L H] [ha : Kz D a xs] [hb : Kn D b (.tup ys)] : VC (rCatZ K (.ref a) (.ref b) H Q) ((xs ≠ [] ∧ ys ≠ [] ∧ xs.length + ys.length ≤ 16777216) ∧ ∀ p D' H', Sx D' L H' → Sm D D' → Kz D' p (xs ++ ys) → Q (.ref p) H') :=
  ⟨fun h => ⟨a, b, xs, ys, rfl, rfl, sqZ S ha, sqT S hb.pf, h.1.1, h.1.2.1, h.1.2.2, fun p o hp h1 h2 => h.2 p _ _ (S.fix hp) ⟨same_upd (S.dH.free hp)⟩ ⟨o, upd_same, h1, h2⟩⟩⟩
end
end Fk

namespace Fk
open PySem PySem.Spec PyProof.Rows L2
/-! ## zip of a list and a tuple -/
def Itzl (K : PySem.W.Frag) (a b : Addr) : It :=
  ⟨fun i H => ∃ (xs ys : List V) (x y : V), SqL K H a xs ∧ SqT K H b ys ∧ xs[i]? = some x ∧ ys[i]? = some y,
    fun i H v H' => ∃ T x y, v = .ref T ∧ H T = none ∧ H' = upd H T (.tup [x, y]) ∧ (∀ xs, SqL K H a xs → xs[i]? = some x) ∧ ∀ ys, SqT K H b ys → ys[i]? = some y,
    fun i H => ∃ xs ys : List V, SqL K H a xs ∧ SqT K H b ys ∧ i ≤ xs.length ∧ i ≤ ys.length ∧ (i = xs.length ∨ i = ys.length)⟩
theorem turn_zipL {P : Program} {w : World} {K : PySem.W.Frag} {elts : List Expr} {kk : Nat} {tpos : Pos} {a b z TI TO i1 i2 : Addr} (hai : a ≠ i1) (hbi : b ≠ i2) (S : ZipSep2 z TI TO i1 i2 [i1, a] [i2, b]) :
    Turn P w K (.Tuple elts kk tpos) (Itzl K a b) [z, TI, TO, i1, i2] z (fun i h => IsZip h z TI TO .none ∧ IsTupOf2 h TI (.ref i1) (.ref i2) ∧ (∃ x y, IsTupOf2 h TO x y) ∧ h.IsListIter i1 a i ∧ h.IsTupleIter i2 b i) where
  mem := by simp
  obj := fun i h st c hc => by
    obtain ⟨hz, hTI, ⟨x, y, hTO⟩, ⟨o1, e1, _, d1⟩, ⟨o2, e2, _, d2⟩⟩ := st
    have e' : c = z ∨ c = TI ∨ c = TO ∨ c = i1 ∨ c = i2 := by simpa using hc
    rcases e' with q | q | q | q | q
    · rw [q]; exact ⟨_, hz, fun v q => nomatch q⟩
    · rw [q]; exact ⟨_, hTI, fun v q => nomatch q⟩
    · rw [q]; exact ⟨_, hTO, fun v q => nomatch q⟩
    · rw [q]; exact ⟨o1, e1, fun v q => by rw [d1] at q; cases q⟩
    · rw [q]; exact ⟨o2, e2, fun v q => by rw [d2] at q; cases q⟩
  keep := fun i h h' st k => by
    obtain ⟨hz, hTI, ⟨x, y, hTO⟩, h1, h2⟩ := st
    exact ⟨k z (by simp) _ hz, k TI (by simp) _ hTI, ⟨x, y, k TO (by simp) _ hTO⟩, h1.at fun o q => k i1 (by simp) o q, h2.at fun o q => k i2 (by simp) o q⟩
  item := by
    intro X hP hw hK hc i pins s σ H E I hf st hg
    subst hP hw hK
    obtain ⟨hz, hTI, ⟨x0, y0, hTO⟩, h1, h2⟩ := st
    obtain ⟨xs, ys, x, y, hqx, hqy, hx, hy⟩ := hg
    obtain ⟨its, rv, p, _⟩ := I.list hqx
    obtain ⟨its2, rv2, p2, _⟩ := I.tuple hqy
    obtain ⟨u, hu, ru⟩ := rv.get hx
    obtain ⟨u2, hu2, ru2⟩ := rv2.get hy
    have hzl : z < s.heap.objs.size := Heap.lt_size hz
    have n1 : i < its.toArray.size := by simpa using (List.getElem?_eq_some_iff.mp hu).1
    have n2 : i < its2.toArray.size := by simpa using (List.getElem?_eq_some_iff.mp hu2).1
    have hh := I.ok.hd hc
    refine wpAny_pyNext_zipD2_item S (Draws.list (A := X.A.in1) (show X.A.in1.handled = none from hh) i1 a hai its.toArray) (Draws.tuple (A := X.A.in1) (show X.A.in1.handled = none from hh) i2 b hbi its2.toArray) hz hTI hTO ⟨h1, p.isList⟩ ⟨h2, p2⟩ n1 n2
      fun v1 v2 h' tk hv1 hv2 z' TO' st1 st2 hT hsz hk => ?_
    have ev1 : v1 = u := by
      rw [List.getElem?_toArray, hu] at hv1
      exact (Option.some.inj hv1).symm
    have ev2 : v2 = u2 := by
      rw [List.getElem?_toArray, hu2] at hv2
      exact (Option.some.inj hv2).symm
    subst ev1 ev2
    refine ⟨_, rfl, wpAny_letOwnedTupleGo_zip (s := { s with heap := h', toks := tk }) z' fun h'' z'' sb => ?_⟩
    have hT2 : h''.get? s.heap.objs.size = some { cls := .type "tuple", data := .seq #[v1, v2] } := (sb.2 _ (Nat.ne_of_gt hzl)).trans hT
    have new : ObjOk X.prog X.w (upd H s.heap.objs.size (.tup [x, y])) h'' s.heap.objs.size (.tup [x, y]) :=
      ⟨by show 2 ≤ sizeLine; decide, [v1, v2], .cons ru (.cons ru2 .nil), ⟨_, hT2, rfl, _, rfl⟩⟩
    have I1 : Inv X pins σ (upd H s.heap.objs.size (.tup [x, y])) { s with heap := h'', toks := tk } :=
      I.turnedNew (t' := tk) (ch := [z, TI, TO, i1, i2]) (fun c o hb q => (sb.2 c (fun q' => hb (by simp [q']))).trans (hk c o (fun q' => hb (by simp [q'])) (fun q' => hb (by simp [q'])) (fun q' => hb (by simp [q'])) (fun q' => hb (by simp [q'])) q)) hf (Nat.le_refl _) new
    refine ⟨.ref s.heap.objs.size, _, I1, rfl, ⟨_, x, y, rfl, I.hok.fresh (Nat.le_refl _), rfl, fun l hl => by rw [I.list_inj hl hqx]; exact hx, fun l hl => by rw [I.tuple_inj hl hqy]; exact hy⟩, ⟨z'', ?_, ⟨v1, v2, ?_⟩, ?_, ?_⟩, fun c hcm => ?_⟩
    · exact (sb.2 _ S.TIz).trans (hk _ _ S.TIz S.TITO S.TIi1 S.TIi2 hTI)
    · exact (sb.2 _ S.TOz).trans TO'
    · exact st1.1.at fun o q => (sb.2 _ (Ne.symm S.zi1)).trans q
    · exact st2.1.at fun o q => (sb.2 _ (Ne.symm S.zi2)).trans q
    · have hlt : c < s.heap.objs.size := by
        have e' : c = z ∨ c = TI ∨ c = TO ∨ c = i1 ∨ c = i2 := by simpa using hcm
        rcases e' with q | q | q | q | q
        · rw [q]; exact hzl
        · rw [q]; exact Heap.lt_size hTI
        · rw [q]; exact Heap.lt_size hTO
        · rw [q]; obtain ⟨_, e1, _⟩ := h1; exact Heap.lt_size e1
        · rw [q]; obtain ⟨_, e2, _⟩ := h2; exact Heap.lt_size e2
      rw [upd_ne (Nat.ne_of_lt hlt)]
      exact (hf c hcm).1
  done := by
    intro X hP hw hK hc i pins s σ H E I hf st hg
    subst hP hw hK
    obtain ⟨hz, hTI, ⟨x0, y0, hTO⟩, h1, h2⟩ := st
    obtain ⟨xs, ys, hqx, hqy, l1, l2, hend⟩ := hg
    obtain ⟨its, rv, p, _⟩ := I.list hqx
    obtain ⟨its2, rv2, p2, _⟩ := I.tuple hqy
    have q1 := rv.length
    have q2 := rv2.length
    have z1 : its.toArray.size = xs.length := by simp [q1]
    have z2 : its2.toArray.size = ys.length := by simp [q2]
    have hh := I.ok.hd hc
    refine wpAny_pyNext_zipD2_end (i := i) S (Draws.list (A := X.A.in1) (show X.A.in1.handled = none from hh) i1 a hai its.toArray) (Draws.tuple (A := X.A.in1) (show X.A.in1.handled = none from hh) i2 b hbi its2.toArray) hz hTI hTO ⟨h1, p.isList⟩ ⟨h2, p2⟩ (by rw [z1]; exact l1) (by rw [z2]; exact l2) (by rw [z1, z2]; exact hend)
      fun h' tk hk => ⟨rfl, I.turnedL (t' := tk) (ch := [z, TI, TO, i1, i2]) (fun c o hb q =>
      hk c o (fun q' => hb (by simp [q'])) (fun q' => hb (by simp [q'])) (fun q' => hb (by simp [q'])) (fun q' => hb (by simp [q'])) q) hf⟩
  self := fun A i s Q E st h => wpAny_pyIter_zip st.1 h
def iZipL (K : PySem.W.Frag) (ta : TA) : TI := fun σ H R => ta σ H fun vs H1 => ∃ a b xs ys, vs = [.ref a, .ref b] ∧ SqL K H1 a xs ∧ SqT K H1 b ys ∧ R (Itzl K a b) H1
theorem pi_zipL (K : PySem.W.Frag) {X : Cx} {e e2 : Expr} {ta : TA} {p pos tpos : Pos} {elts : List Expr} {kk : Nat} (hg : Gl X "zip") (hm : X.mg "zip" = none) (ha : PA X [e, e2] ta) (hK : X.K = K := by rfl)
    (hs : starEach [e, e2] X.env = (false, eval e X.env) :: starEach [e2] X.env := by rfl) (hpl : (backTo pos (starEach [e2] X.env)).any (·.1) = false := by rfl) :
    PI X (.Tuple elts kk tpos) (.Call (.Name "zip" p) [e, e2] [] pos) (iZipL K ta) := by
  subst hK
  refine ⟨fun pins s σ H R I h => ?_⟩
  refine Call_ (ld_blt I hg hm PyProof.Rows.boot_zip (PyProof.Rows.callWith_type1 (thn (ha.run pos pins s σ H _ I h) fun us s1 ⟨vs, H1, I1, r1, q1⟩ => ?_) hs hpl))
  have fresh5 : ∀ c, c ∈ [s1.heap.objs.size + 4, s1.heap.objs.size + 2, s1.heap.objs.size + 3, s1.heap.objs.size, s1.heap.objs.size + 1] → FpOk X pins H1 c := fun c hcm => by
    have e' : c = s1.heap.objs.size + 4 ∨ c = s1.heap.objs.size + 2 ∨ c = s1.heap.objs.size + 3 ∨ c = s1.heap.objs.size ∨ c = s1.heap.objs.size + 1 := by simpa using hcm
    have hle : s1.heap.objs.size ≤ c := by
      rcases e' with z | z | z | z | z
      · rw [z]; exact Nat.le_add_right _ _
      · rw [z]; exact Nat.le_add_right _ _
      · rw [z]; exact Nat.le_add_right _ _
      · rw [z]; exact Nat.le_refl _
      · rw [z]; exact Nat.le_add_right _ _
    exact I1.fpOk hle (I1.hok.fresh hle)
  obtain ⟨a, b, xs, ys, ex, hqx, hqy, q⟩ := q1
  subst ex
  cases r1 with
  | cons r rr =>
    cases rr with
    | cons r' rr =>
      cases rr
      cases r
      cases r'
      obtain ⟨its, rv, p1, _⟩ := I1.list hqx
      obtain ⟨its2, rv2, p2, _⟩ := I1.tuple hqy
      obtain ⟨o2, ho2, _⟩ := id p2
      have la : a < s1.heap.objs.size := p1.lt
      have lb : b < s1.heap.objs.size := Heap.lt_size ho2
      refine zip_begins2 (begins_list a its.toArray) (begins_tuple b its2.toArray) p1.isList (show s1.heap.IsTuple b its2.toArray from p2) fun h' hz hTI hTO h1 h2 hsz hk => wpAny_pyIter_zip hz ?_
      have I2 : Inv X pins σ H1 { s1 with heap := h' } := I1.kept (t' := s1.toks) hk
      exact ⟨s1.heap.objs.size + 4, [s1.heap.objs.size + 4, s1.heap.objs.size + 2, s1.heap.objs.size + 3, s1.heap.objs.size, s1.heap.objs.size + 1], _, _, H1, rfl, I2,
        turn_zipL (Nat.ne_of_lt la) (Nat.ne_of_lt (Nat.lt_succ_of_lt lb)) (zip_sep2 (N := s1.heap.objs.size) (fp1 := [a]) (fp2 := [b]) (fun c hc => by rw [List.mem_singleton.mp hc]; exact la) (fun c hc => by rw [List.mem_singleton.mp hc]; exact lb)),
        ⟨hz, hTI, ⟨_, _, hTO⟩, ⟨_, h1, rfl, rfl⟩, ⟨_, h2, rfl, rfl⟩⟩, fresh5, q⟩
theorem walk_zipL {K : PySem.W.Frag} {a b : Addr} {xs ys : List V} {n : Nat} (hn : n = min xs.length ys.length) : Walk (Itzl K a b) n (fun H => SqL K H a xs ∧ SqT K H b ys) (YPair (fun i => xs[i]?) (fun i => ys[i]?)) := by
  subst hn
  refine ⟨fun i H hi q => ?_, fun H q => ⟨xs, ys, q.1, q.2, by omega, by omega, by omega⟩, fun i H v H' hi q y => ?_⟩
  · have k1 : i < xs.length := by omega
    have k2 : i < ys.length := by omega
    exact ⟨xs, ys, xs[i], ys[i], q.1, q.2, by simp [k1], by simp [k2]⟩
  · obtain ⟨T, x, z, e1, e2, e3, e4, e5⟩ := y
    exact ⟨T, x, z, e1, e2, e3, e4 xs q.1, e5 ys q.2⟩
section
variable {σ : L2.St} {D H : Hp} {L : Own} {K : PySem.W.Frag} {Q : VK}
def IsZL (K : PySem.W.Frag) (vs : List V) (H1 : Hp) (R : It → Hp → Prop) : Prop := ∃ a b xs ys, vs = [.ref a, .ref b] ∧ SqL K H1 a xs ∧ SqT K H1 b ys ∧ R (Itzl K a b) H1
instance v_zipLw {tr : TA} {R : It → Hp → Prop} : VC (iZipL K tr σ H R) (tr σ H fun vs H1 => IsZL K vs H1 R) := ⟨fun h => h⟩
instance v_zipLLT {a b : Addr} {xs ys : List V} {R : It → Hp → Prop} [S : Sx D L H] [ha : Sl K D L a xs] [hb : Kn D b (.tup ys)] : VC (IsZL K [.ref a, .ref b] H R) (R (Itzl K a b) H) := ⟨fun h => ⟨a, b, xs, ys, rfl, ha.pf.sq S, sqT S hb.pf, h⟩⟩
end
end Fk

namespace Fk
open PySem PySem.Spec PyProof.Rows L2
/-! ## {t: v}, t a tuple -/
def tDisp1T (tk tv : TE) : TE := fun σ H Q => ∀ p, H p = none → tk σ (upd H p (.dT [])) fun x H1 => tv σ H1 fun y H2 => H2 p = some (.dT []) ∧ ∃ (k : List Key) (b : Addr), x = .ref b ∧ H2 b = some (.tup (k.map kV)) ∧ Q (.ref p) (upd H2 p (.dT [(k, y)]))
theorem pe_disp1T {X : Cx} {pos : Pos} {ek ev : Expr} {tk tv : TE} (hu : X.A.units + 1 < cLine) (hk : PE X ek tk) (hv : PE X ev tv) : PE X (.Dict [some ek] [ev] pos) (tDisp1T tk tv) := by
  refine ⟨fun pins s σ H Q I q => ?_⟩
  have hn := I.hok.fresh (Nat.le_refl s.heap.objs.size)
  have I1 := I.laid (a := s.heap.objs.size) (o := .dT []) (h' := s.heap.push { cls := .type "dict", data := .dict #[] }) (t' := s.toks) (fun _ _ q => Heap.get?_push_of_some _ q) (Nat.le_refl _) (dt_empty s.heap I.big)
  have hlen := pairTrees_length [some ek] [ev] X.env pos rfl rfl
  rw [arm_eval_Dict, zip_pairTrees [some ek] [ev] X.env pos rfl rfl, dictDisplay_pairs (pairTrees [some ek] [ev] X.env pos) (fun e => by rw [e] at hlen; simp at hlen) (by rw [hlen]; show 1 < 17; decide)]
  refine wpAny_bind (wpAny_standAt (wpAny_bind (wpAny_subDictH (knd := tupleKind (mixKind X.prog X.w)) (Q := fun d s' => wpAny (model X.prog X.w) X.A (pure (Value.ref d)) (EP X pins σ Q) X.xe s') (Nat.lt_of_le_of_lt (Nat.le_succ _) hu) (by rw [hlen]; show 1 ≤ 15; decide) ?_)))
  refine thn ((pps_cons hk hv pps_nil).run pins _ σ _ (fun ps H2 => match ps with | [(x, y)] => H2 s.heap.objs.size = some (.dT []) ∧ ∃ (k : List Key) (b : Addr), x = .ref b ∧ H2 b = some (.tup (k.map kV)) ∧ Q (.ref s.heap.objs.size) (upd H2 s.heap.objs.size (.dT [(k, y)])) | _ => False) I1 (q _ hn)) fun ws s2 ⟨ps, H2, I2, rel, q2⟩ => ?_
  cases rel with
  | nil => exact q2.elim
  | @cons a b as bs h t =>
    cases t with
    | cons h' t' => exact q2.elim
    | nil =>
      obtain ⟨x, y⟩ := a
      obtain ⟨u, r⟩ := b
      obtain ⟨e, k, b, rfl, eb, q3⟩ := q2
      obtain ⟨h1, h2⟩ := h
      cases (show u = Value.ref b from h1)
      obtain ⟨z, hd, xs, rel0, dd⟩ := dt_of I2.hok e
      cases rel0
      refine ⟨[(k, b, r)], ⟨rfl, rfl, key_of I2.hok eb, True.intro⟩, dd, fun h' tk hm hs => wpAny_pure ⟨.ref s.heap.objs.size, _, ?_, rfl, q3⟩⟩
      obtain ⟨o, es, ep, hq, g2, g3, g4, _, g5⟩ := hm
      refine d_write I2 (by rw [e]; exact True.intro) hs ⟨o, hq⟩ ⟨by show 1 ≤ sizeLine; decide, hd, [(k, b, r)], .cons ⟨rfl, ?_, h2⟩ .nil, o, es, ep, hq, g2, g3, g4, g5⟩
      rw [upd_ne (ne_of eb e (fun z => nomatch z))]
      exact eb
instance keM {ns : List Int} : KeC (ns.map V.int) (ns.map Sum.inl) := ⟨by rw [List.map_map]; rfl⟩
section
variable {σ : L2.St} {D H : Hp} {L : Own} {K : PySem.W.Frag} {Q : VK}
instance v_sortWZ {a : Addr} {xs : List V} {ns : List Int} [S : Sx D L H] [ha : Kz D a xs] [c : IsC xs ns] : VC (rSortedW K [.ref a] H Q) (∀ ns' : List Int, ns'.Perm ns → ns'.Pairwise (· ≤ ·) → ∀ p H', Sx D ((p, .lst (ns'.map V.int)) :: L) H' → Q (.ref p) H') :=
  ⟨fun h => .inl ⟨a, ns, rfl, .inr (by rw [← c.pf]; exact sqZ S ha), fun ns' p h1 h2 hp => h ns' h1 h2 p _ (S.new hp)⟩⟩
def NwD1 (p : Addr) (x y : V) (H2 : Hp) (Q : VK) : Prop := H2 p = some (.dT []) ∧ ∃ (k : List Key) (b : Addr), x = .ref b ∧ H2 b = some (.tup (k.map kV)) ∧ Q (.ref p) (upd H2 p (.dT [(k, y)]))
instance v_disp1T {tk tv : TE} [S : Sx D L H] : VC (tDisp1T tk tv σ H Q) (∀ p H', Sx D ((p, .dT []) :: L) H' → tk σ H' fun x H1 => tv σ H1 fun y H2 => NwD1 p x y H2 Q) := ⟨fun h p hp => h p _ (S.new hp)⟩
instance v_nwD1 {p b : Addr} {y : V} {us : List V} {k : List Key} {n : Nat} {L' : Own} [S : Sx D L H] [h : Fi L p (.dT []) n] [kb : Kn D b (.tup us)] [c : KeC us k] [e : Se L n (p, .dT [(k, y)]) L'] : VC (NwD1 p (.ref b) y H Q) (∀ H', Sx D L' H' → Q (.ref p) H') :=
  ⟨fun z => ⟨S.at h.pf, k, b, rfl, by rw [← c.pf]; exact S.dH _ _ kb.pf, z _ (by have := S.put (.dT [(k, y)]) h.pf; rw [e.pf] at this; exact this)⟩⟩
end
end Fk

namespace Fk
open PySem PySem.Spec PyProof.Rows L2
/-! ## sorted pairs, in their order -/
def leP (a b : Int × Int) : Prop := a.1 < b.1 ∨ (a.1 = b.1 ∧ a.2 ≤ b.2)
/-- the two numbers of the tuple that stands there -/
def keyD (D : Hp) : V → Int × Int
  | .ref t => match D t with
    | some (.tup [.int i, .int j]) => (i, j)
    | _ => (0, 0)
  | _ => (0, 0)
theorem keyD_at {D : Hp} {b : Addr} {i j : Int} (e : D b = some (.tup [.int i, .int j])) : keyD D (.ref b) = (i, j) := by
  show (match D b with
    | some (.tup [.int i, .int j]) => (i, j)
    | _ => (0, 0)) = (i, j)
  rw [e]
theorem keyD_map {D : Hp} : ∀ {us : List V} {xs : List (Int × Int)}, RpAll D us (xs.map pI) → us.map (keyD D) = xs
  | [], [], _ => rfl
  | [], _ :: _, h => nomatch h
  | _ :: _, [], h => nomatch h
  | u :: us, x :: xs, .cons h t => by
    obtain ⟨b, rfl, e⟩ := h.inv_tupI
    have e1 : keyD D (.ref b) = x := keyD_at e
    rw [List.map_cons, e1, keyD_map t]
theorem rp_keys {D : Hp} {us : List V} {xs : List (Int × Int)} (h : RpAll D us (xs.map pI)) : ∀ {ys : List V}, (∀ y, y ∈ ys → y ∈ us) → RpAll D ys ((ys.map (keyD D)).map pI)
  | [], _ => .nil
  | y :: ys, hy => by
    obtain ⟨b, x, _, rfl, kb⟩ := ra_memP h (hy y List.mem_cons_self)
    have e1 : keyD D (.ref b) = x := keyD_at kb.pf
    rw [List.map_cons, List.map_cons, e1]
    exact .cons (.tupI (ns := [x.1, x.2]) kb.pf) (rp_keys h fun z hz => hy z (List.mem_cons_of_mem _ hz))
section
variable {σ : L2.St} {D H : Hp} {L : Own} {K : PySem.W.Frag} {Q : VK}
theorem c_sortPO {a : Addr} {us : List V} {xs : List (Int × Int)} (S : Sx D L H) (ha : Rds K D L a us) (hr : RpAll D us (xs.map pI)) (k : ∀ (ys : List V) (P : List (Int × Int)) p H', P.Perm xs → P.Pairwise leP → RpAll D ys (P.map pI) → Sx D ((p, .lst ys) :: L) H' → Q (.ref p) H') : rSortedPO K [.ref a] H Q := by
  refine ⟨a, us, keyD D, rfl, ha.sq S, fun v hv => ?_, fun ys p h1 h2 hn => k ys (ys.map (keyD D)) p _ ?_ ?_ (rp_keys hr fun y hy => h2.perm.mem_iff.mp hy) (S.new hn)⟩
  · obtain ⟨b, x, _, rfl, kb⟩ := ra_memP hr hv
    have e1 : keyD D (.ref b) = x := keyD_at kb.pf
    rw [e1]
    exact ⟨b, rfl, S.dH _ _ kb.pf⟩
  · have := h2.perm.map (keyD D)
    rw [keyD_map hr] at this
    exact this
  · refine List.Pairwise.map _ (fun x y h => ?_) h1
    have := SrtO.lexB_no.mp h
    show (keyD D x).1 < (keyD D y).1 ∨ ((keyD D x).1 = (keyD D y).1 ∧ (keyD D x).2 ≤ (keyD D y).2)
    omega
end
end Fk

namespace Fk
open PySem PySem.Spec PyProof.Rows L2
/-! ## sorted(d.items()), keys and values numbers -/
abbrev entI (e : Int × Int) : Key × V := (Sum.inl e.1, V.int e.2)
def rItemsK : V → List V → Hp → VK → Prop := fun x xs H Q => ∃ (a : Addr) (kvs : List (Key × V)), x = .ref a ∧ xs = [] ∧ H a = some (.dK kvs) ∧ ∀ p, H p = none → Q (.ref p) (upd H p (DX.itemsO p a))
theorem mt_itemsK {X : Cx} : MtR X "dict.items" rItemsK := by
  intro pins s σ H x xs v us Q I rx rxs h
  obtain ⟨a, kvs, rfl, rfl, ha, q⟩ := h
  cases rx
  cases rxs
  obtain ⟨z, hd, vs, rel, o, es, ep, ho, hx, hdat, _⟩ := dk_of I.hok ha
  refine DT.callItems (es := es) (ep := ep) hd ⟨o, ho, hx, hdat⟩ ?_
  have hf : H s.heap.objs.size = none := I.hok.fresh (Nat.le_refl _)
  exact ⟨.ref s.heap.objs.size, _, I.laid (t' := s.toks) (fun b u e => Heap.get?_push_of_some _ e) (Nat.le_refl _) (DX.itemsO_ok (Heap.get?_push_size _ rfl)), rfl, q _ hf⟩
/-- one call deeper -/
abbrev inX (X : Cx) : Cx := { X with A := X.A.in1 }
theorem inv_in {X : Cx} {pins : List (Addr × Obj)} {σ : L2.St} {H : Hp} {s : Shared} (I : Inv X pins σ H s) : Inv (inX X) pins σ H s :=
  ⟨⟨I.ok.mod, I.ok.kind, I.ok.glob, I.ok.blt, I.ok.above, I.ok.inj, I.ok.has, I.ok.cab, I.ok.hd, I.ok.frames, I.ok.stk, I.ok.exf, I.ok.bs, I.ok.bsz, I.ok.noex, I.ok.exfs, I.ok.funs, I.ok.frf⟩, I.os, I.bare, I.base, I.loc, I.cell, I.free, I.freeC, I.pin, I.hok, I.len⟩
theorem inv_out {X : Cx} {pins : List (Addr × Obj)} {σ : L2.St} {H : Hp} {s : Shared} (ok : X.Ok) (I : Inv (inX X) pins σ H s) : Inv X pins σ H s :=
  ⟨ok, I.os, I.bare, I.base, I.loc, I.cell, I.free, I.freeC, I.pin, I.hok, I.len⟩
theorem pairs_at {prog : Program} {w : World} {KK : Type} [DecidableEq KK] {knd : PySem.KeyKind prog w KK} : ∀ {es : List DictEntry} {kvs : List (KK × Value)} {j : Nat} {e : DictEntry}, Pairs knd es kvs → es[j]? = some e → ∃ kv, kvs[j]? = some kv ∧ knd.is kv.1 e.key = true ∧ e.val = kv.2
  | _, _, j, _, .nil, h => by simp at h
  | _, _, 0, _, .cons h1 h2 _, h => by
    simp only [List.getElem?_cons_zero] at h
    cases h
    exact ⟨_, rfl, h1, h2⟩
  | _, _, j + 1, _, .cons _ _ t, h => by
    simp only [List.getElem?_cons_succ] at h
    obtain ⟨kv, h1, h2⟩ := pairs_at t h
    exact ⟨kv, by rw [List.getElem?_cons_succ]; exact h1, h2⟩
theorem pairs_len {prog : Program} {w : World} {KK : Type} [DecidableEq KK] {knd : PySem.KeyKind prog w KK} : ∀ {es : List DictEntry} {kvs : List (KK × Value)}, Pairs knd es kvs → es.length = kvs.length
  | _, _, .nil => rfl
  | _, _, .cons _ _ t => by rw [List.length_cons, List.length_cons, pairs_len t]
def rSortItK : List V → Hp → VK → Prop := fun vs H Q => ∃ (p a : Addr) (kvs : List (Int × Int)), vs = [.ref p] ∧ H p = some (DX.itemsO p a) ∧ H a = some (.dK (kvs.map entI)) ∧
  ∀ (H3 : Hp) (l : Addr) (ts : List (Addr × Int × Int)), (∀ b o, H b = some o → H3 b = some o) → H l = none → (∀ z, z ∈ ts → H z.1 = none ∧ z.1 ≠ l ∧ H3 z.1 = some (.tup [.int z.2.1, .int z.2.2])) → (ts.map (·.2)).Perm kvs → (ts.map (·.2)).Pairwise leP → H3 l = some (.lst (ts.map fun z => V.ref z.1)) → Q (.ref l) H3
theorem cr_sortItK {X : Cx} (hc : X.calm = true) : CallR X (.builtin "sorted") rSortItK := by
  intro pins s σ H xs us Q I r h
  obtain ⟨p, a, kvs, rfl, hp, ha, q⟩ := h
  obtain rfl := Vals.ref1 r
  have view : s.heap.IsItemsView p a := (show ObjOk X.prog X.w H s.heap p (DX.itemsO p a) from I.hok p _ hp).1
  obtain ⟨z, hd, vs, rel, o, es, ep, ho, hx, hdat, _, hes, _⟩ := dk_of I.hok ha
  have l1 : kvs.length = vs.length := by
    have := Paired.length rel
    rw [List.length_map] at this
    exact this
  have l2 : es.size = vs.length := by rw [← Array.length_toList]; exact pairs_len hes
  rw [List.length_map] at z
  refine DT.sortedI (es := es) (ep := ep) (I.ok.hd hc) view ⟨o, ho, hx, hdat⟩ (by omega) fun h' tk as hk hlt hl hG => ?_
  have lak : as.length = kvs.length := by omega
  have nd : as.Nodup := List.Pairwise.imp (fun h => Nat.ne_of_lt h) hG.rise
  have pr : ∀ (j : Nat) (b : Addr), as[j]? = some b → ∃ e : Int × Int, kvs[j]? = some e ∧ ∃ t u, h'.get? b = some { cls := .type "tuple", data := .seq #[Value.int e.1 t, Value.int e.2 u] } := by
    intro j b hj
    obtain ⟨en, he, hg⟩ := hG.pairs j b hj
    rw [← Array.getElem?_toList] at he
    obtain ⟨kv, h1, h2, h3⟩ := pairs_at hes he
    obtain ⟨e0, he0, r1, r2⟩ := DX.pget rel h1
    rw [List.getElem?_map] at he0
    cases hkj : kvs[j]? with
    | none => rw [hkj] at he0; exact nomatch he0
    | some e =>
      rw [hkj] at he0
      have ee : entI e = e0 := Option.some.inj he0
      rw [← ee] at r1 r2
      rw [← show Sum.inl e.1 = kv.1 from r1] at h2
      obtain ⟨t, ht⟩ : ∃ t, en.key = Value.int e.1 t := by
        rcases keyIs_shape (show keyIs (Sum.inl e.1) en.key = true from h2) with ⟨i, t, ei, et⟩ | ⟨x, t, ei, _⟩
        · exact ⟨t, by rw [et, Sum.inl.inj ei]⟩
        · exact nomatch ei
      obtain ⟨u, hu⟩ : ∃ u, kv.2 = Value.int e.2 u := r2
      refine ⟨e, rfl, t, u, ?_⟩
      rw [hg, ht, h3, hu]
  have I1 : Inv X pins σ H { s with heap := h', toks := tk } := I.kept (t' := tk) hk
  have hn0 : H h'.objs.size = none := I1.hok.fresh (Nat.le_refl _)
  have hlen : (as.map V.ref).length ≤ sizeLine := by rw [List.length_map]; omega
  have I2 := I1.laid (a := h'.objs.size) (o := .lst (as.map V.ref)) (h' := h'.push { cls := .type "list", data := .seq (as.map Value.ref).toArray }) (t' := tk) (fun _ _ q => Heap.get?_push_of_some _ q) (Nat.le_refl _)
    ⟨hlen, as.map Value.ref, 0, vals_maps V.ref Value.ref as fun _ _ => rfl, Heap.get?_push_size _ rfl⟩
  obtain ⟨H2, I3, g, qt⟩ := DX.takeT (P := fun b ws => ∃ (j : Nat) (e : Int × Int), as[j]? = some b ∧ kvs[j]? = some e ∧ ws = [.int e.1, .int e.2]) I as _ I2 nd fun b hb => by
    obtain ⟨j, hj⟩ := List.mem_iff_getElem?.mp hb
    obtain ⟨e, he, t, u, hg⟩ := pr j b hj
    have hbl : s.heap.objs.size ≤ b := Nat.le_of_lt (hG.above b hb)
    refine ⟨hbl, ?_, [.int e.1, .int e.2], ⟨j, e, hj, he, rfl⟩, fun H3 => ⟨(by rw [sizeLine_eq]; show 2 ≤ 16777216; omega), [Value.int e.1 t, Value.int e.2 u], .cons ⟨t, rfl⟩ (.cons ⟨u, rfl⟩ .nil), ⟨_, Heap.get?_push_of_some _ hg, rfl, 0, rfl⟩⟩⟩
    rw [upd_ne (Nat.ne_of_lt (Heap.lt_size hg))]
    exact I.hok.fresh hbl
  have hne : ∀ b, b ∈ as → H b = none ∧ b ≠ h'.objs.size := fun b hb => by
    obtain ⟨j, hj⟩ := List.mem_iff_getElem?.mp hb
    obtain ⟨e, he, t, u, hg⟩ := pr j b hj
    exact ⟨I.hok.fresh (Nat.le_of_lt (hG.above b hb)), Nat.ne_of_lt (Heap.lt_size hg)⟩
  have gr : ∀ b o, H b = some o → H2 b = some o := fun b o e => g b o (by rw [upd_ne (ne_of_none e hn0)]; exact e)
  have hkey : ∀ (j : Nat) (b : Addr) (e : Int × Int), as[j]? = some b → kvs[j]? = some e → H2 b = some (.tup [.int e.1, .int e.2]) := fun j b e hj he => by
    obtain ⟨ws, ⟨j2, e2, a1, a2, a3⟩, hH⟩ := qt b (List.mem_of_getElem? hj)
    have eij : j2 = j := (List.getElem?_inj (List.getElem?_eq_some_iff.mp a1).1 nd).mp (a1.trans hj.symm)
    subst eij
    rw [he] at a2
    cases a2
    rw [hH, a3]
  have hmap : (as.map V.ref).map (keyD H2) = kvs := by
    refine List.ext_getElem? fun j => ?_
    rw [List.getElem?_map, List.getElem?_map]
    by_cases c : j < as.length
    · have hj := List.getElem?_eq_getElem c
      have he : kvs[j]? = some kvs[j] := List.getElem?_eq_getElem (by omega)
      rw [hj, he]
      show some (keyD H2 (.ref as[j])) = _
      rw [keyD_at (hkey j _ _ hj he)]
    · rw [List.getElem?_eq_none (by omega), List.getElem?_eq_none (by omega)]
      rfl
  refine wpAny_mono (mt_sortPO (X := inX X) pins { s with heap := h'.push { cls := .type "list", data := .seq (as.map Value.ref).toArray }, toks := tk } σ H2 (.ref h'.objs.size) [] (.ref h'.objs.size) [] (fun _ H3 => Q (.ref h'.objs.size) H3) (inv_in I3) rfl .nil
    ⟨h'.objs.size, as.map V.ref, keyD H2, rfl, rfl, g _ _ upd_same, fun y hy => ?_, fun zs h1 h2 => ?_⟩) (fun u s' hu => ?_) (fun _ _ e => e)
  · obtain ⟨b, hb, rfl⟩ := List.mem_map.mp hy
    obtain ⟨j, hj⟩ := List.mem_iff_getElem?.mp hb
    obtain ⟨e, he, _⟩ := pr j b hj
    have := hkey j b e hj he
    exact ⟨b, rfl, by rw [keyD_at this]; exact this⟩
  · have hz : ∀ y, y ∈ zs → ∃ b, b ∈ as ∧ y = .ref b ∧ H2 b = some (.tup [.int (keyD H2 y).1, .int (keyD H2 y).2]) := fun y hy => by
      obtain ⟨b, hb, rfl⟩ := List.mem_map.mp (h2.perm.mem_iff.mp hy)
      obtain ⟨j, hj⟩ := List.mem_iff_getElem?.mp hb
      obtain ⟨e, he, _⟩ := pr j b hj
      have := hkey j b e hj he
      exact ⟨b, hb, rfl, by rw [keyD_at this]; exact this⟩
    have hts : (zs.map fun y => ((match y with | .ref b => b | _ => 0 : Addr), keyD H2 y)).map (fun z => V.ref z.1) = zs := by
      rw [List.map_map]
      refine (List.map_congr_left fun y hy => ?_).trans (List.map_id zs)
      obtain ⟨b, _, rfl, _⟩ := hz y hy
      rfl
    have ht2 : (zs.map fun y => ((match y with | .ref b => b | _ => 0 : Addr), keyD H2 y)).map (·.2) = zs.map (keyD H2) := by
      rw [List.map_map]
      rfl
    refine q _ h'.objs.size (zs.map fun y => ((match y with | .ref b => b | _ => 0 : Addr), keyD H2 y)) (fun b o e => ?_) hn0 (fun w hw => ?_) ?_ ?_ ?_
    · rw [upd_ne (ne_of_none e hn0)]
      exact gr b o e
    · obtain ⟨y, hy, rfl⟩ := List.mem_map.mp hw
      obtain ⟨b, hb, rfl, hH⟩ := hz y hy
      obtain ⟨f1, f2⟩ := hne b hb
      refine ⟨f1, f2, ?_⟩
      show upd H2 h'.objs.size _ b = _
      rw [upd_ne f2]
      exact hH
    · rw [ht2, ← hmap]
      exact h2.perm.map _
    · rw [ht2]
      refine List.Pairwise.map _ (fun x y h => ?_) h1
      have := SrtO.lexB_no.mp h
      show (keyD H2 x).1 < (keyD H2 y).1 ∨ ((keyD H2 x).1 = (keyD H2 y).1 ∧ (keyD H2 x).2 ≤ (keyD H2 y).2)
      omega
    · rw [hts]
      exact upd_same
  · obtain ⟨v, H4, J, _, qq⟩ := hu
    exact ⟨.ref h'.objs.size, H4, inv_out I.ok J, rfl, qq⟩
section
variable {σ : L2.St} {D H : Hp} {L : Own} {K : PySem.W.Frag} {Q : VK}
instance v_itemsK {a : Addr} {kvs : List (Key × V)} {n : Nat} [S : Sx D L H] [h : Fi L a (.dK kvs) n] : VC (rItemsK (.ref a) [] H Q) (∀ p D' H', Sx D' L H' → Sm D D' → Kn D' p (DX.itemsO p a) → Q (.ref p) H') :=
  ⟨fun k => ⟨a, kvs, rfl, rfl, S.at h.pf, fun p hp => k p _ _ (S.fix hp) ⟨same_upd (S.dH.free hp)⟩ ⟨upd_same⟩⟩⟩
instance v_tyD {a : Addr} {kvs : List (Key × V)} {n : Nat} {p : Prop} [S : Sx D L H] [h : Fi L a (.dK kvs) n] : VC (tyV K "dict" (.ref a) H ∧ p) p := ⟨fun k => ⟨.inr (.inr (.inl ⟨rfl, .inl ⟨kvs, S.at h.pf⟩⟩)), k⟩⟩
def DGo (a : Addr) (y z : V) (H3 : Hp) (Q : VK) : Prop := ∃ o, DGet H3 a y o ∧ Q (o.getD z) H3
def DG2 (ty tx : TE) (σ : L2.St) (x : V) (H1 : Hp) (Q : VK) : Prop := ∃ a, x = .ref a ∧ IsD H1 a ∧ ty σ H1 fun y H2 => tx σ H2 fun z H3 => DGo a y z H3 Q
instance v_dget2 {td ty tx : TE} : VC (tDGet2 td ty tx σ H Q) (td σ H fun x H1 => DG2 ty tx σ x H1 Q) := ⟨fun h => h⟩
instance v_dg2 {a : Addr} {kvs : List (Key × V)} {n : Nat} {ty tx : TE} [S : Sx D L H] [h : Fi L a (.dK kvs) n] : VC (DG2 ty tx σ (.ref a) H Q) (ty σ H fun y H2 => tx σ H2 fun z H3 => DGo a y z H3 Q) := ⟨fun k => ⟨a, rfl, .inl ⟨kvs, .inl (S.at h.pf)⟩, k⟩⟩
instance v_dgo {a : Addr} {kvs : List (Key × V)} {n : Nat} {i : Int} {z : V} [S : Sx D L H] [h : Fi L a (.dK kvs) n] : VC (DGo a (.int i) z H Q) (Q ((valV kvs (Sum.inl i)).getD z) H) := ⟨fun k => ⟨_, DGet.k (k := Sum.inl i) (S.at h.pf), k⟩⟩
theorem c_sortItK {p a : Addr} {kvs : List (Int × Int)} {n : Nat} (S : Sx D L H) (hp : Kn D p (DX.itemsO p a)) (h : L[n]? = some (a, .dK (kvs.map entI))) (k : ∀ (ys : List V) (P : List (Int × Int)) l D' H', P.Perm kvs → P.Pairwise leP → RpAll D' ys (P.map pI) → Sm D D' → Sx D' ((l, .lst ys) :: L) H' → Q (.ref l) H') : rSortItK [.ref p] H Q := by
  refine ⟨p, a, kvs, rfl, S.dH _ _ hp.pf, S.at h, fun H3 l ts g hl ht hP hs hH => ?_⟩
  obtain ⟨D', hD'⟩ : ∃ D' : Hp, D' = fun b => if ts.any (fun z => z.1 == b) = true then H3 b else D b := ⟨_, rfl⟩
  have hin : ∀ z, z ∈ ts → D' z.1 = some (.tup [.int z.2.1, .int z.2.2]) := fun z hz => by
    rw [hD']
    show (if ts.any (fun w => w.1 == z.1) = true then H3 z.1 else D z.1) = _
    have hc : (ts.any fun w => w.1 == z.1) = true := List.any_eq_true.mpr ⟨z, hz, beq_self_eq_true z.1⟩
    rw [if_pos hc]
    exact (ht z hz).2.2
  have hout : ∀ b, H b ≠ none → D' b = D b := fun b hb => by
    rw [hD']
    show (if ts.any (fun w => w.1 == b) = true then H3 b else D b) = _
    rw [if_neg]
    intro e
    obtain ⟨z, hz, ez⟩ := List.any_eq_true.mp e
    have ez2 : z.1 = b := by simpa using ez
    exact hb (ez2 ▸ (ht z hz).1)
  have hDs : Same D D' := fun b o e => by
    rw [hout b (by rw [S.dH b o e]; exact fun z => nomatch z)]
    exact e
  have hDH : Same D' H3 := fun b o e => by
    rw [hD'] at e
    have e' : (if ts.any (fun w => w.1 == b) = true then H3 b else D b) = some o := e
    by_cases c : ts.any (fun w => w.1 == b) = true
    · rw [if_pos c] at e'
      exact e'
    · rw [if_neg c] at e'
      exact g b o (S.dH b o e')
  refine k (ts.map fun z => V.ref z.1) (ts.map (·.2)) l D' H3 hP hs ?_ ⟨hDs⟩ ⟨hDH, fun q hq => ?_, ?_⟩
  · have : ∀ {us : List (Addr × Int × Int)}, (∀ z, z ∈ us → z ∈ ts) → RpAll D' (us.map fun z => V.ref z.1) ((us.map (·.2)).map pI) := by
      intro us
      induction us with
      | nil => exact fun _ => .nil
      | cons z us ih => exact fun hz => .cons (.tupI (ns := [z.2.1, z.2.2]) (hin z (hz z List.mem_cons_self))) (ih fun w hw => hz w (List.mem_cons_of_mem _ hw))
    exact this fun _ h => h
  · rcases List.mem_cons.mp hq with rfl | hq
    · refine ⟨hH, ?_⟩
      cases e : D' l with
      | none => rfl
      | some o =>
        exfalso
        rw [hD'] at e
        have e' : (if ts.any (fun w => w.1 == l) = true then H3 l else D l) = some o := e
        by_cases c : ts.any (fun w => w.1 == l) = true
        · obtain ⟨z, hz, ez⟩ := List.any_eq_true.mp c
          have ez2 : z.1 = l := by simpa using ez
          exact (ht z hz).2.1 ez2
        · rw [if_neg c] at e'
          rw [S.dH l o e'] at hl
          exact nomatch hl
    · obtain ⟨q1, q2⟩ := S.ow q hq
      exact ⟨g _ _ q1, by rw [hout q.1 (by rw [q1]; exact fun z => nomatch z)]; exact q2⟩
  · rw [List.map_cons]
    refine List.nodup_cons.mpr ⟨fun hm => ?_, S.nd⟩
    obtain ⟨q, hq, eq⟩ := List.mem_map.mp hm
    have := (S.ow q hq).1
    rw [eq, hl] at this
    exact nomatch this
end
end Fk

namespace Fk
open PySem PySem.Spec PyProof.Rows L2
/-! ## list(range(a, b)), a = list.index, more -/
def IsII (x y : V) (H : Hp) (R : Int → Int → Hp → Prop) : Prop := ∃ i j, x = .int i ∧ y = .int j ∧ R i j H
theorem ra_getP {D : Hp} {vs : List V} {xs : List (Int × Int)} {i : Nat} {v : V} (h : RpAll D vs (xs.map pI)) (hv : vs[i]? = some v) : ∃ b x, v = .ref b ∧ xs[i]? = some x ∧ Kn D b (.tup [.int x.1, .int x.2]) := by
  have e : xs.map pI = (xs.map fun x => [x.1, x.2]).map tI := by rw [List.map_map]; rfl
  rw [e] at h
  obtain ⟨b, r, h1, h2, h3⟩ := ra_getT h hv
  rw [List.getElem?_map] at h2
  cases c : xs[i]? with
  | none => rw [c] at h2; exact nomatch h2
  | some x =>
    rw [c] at h2
    have h2' : [x.1, x.2] = r := Option.some.inj h2
    subst h2'
    exact ⟨b, x, h1, rfl, h3⟩
section
variable {σ : L2.St} {D H : Hp} {L : Own} {K : PySem.W.Frag} {Q : VK}
instance v_rg2 {ta tb : TE} {R : Int → Int → Hp → Prop} : VC (tRg2 ta tb σ H R) (ta σ H fun x H1 => tb σ H1 fun y H2 => IsII x y H2 R) := ⟨fun h => by
  refine (show ta σ H _ from ?_)
  exact h⟩
instance v_isII {i j : Int} {R : Int → Int → Hp → Prop} : VC (IsII (.int i) (.int j) H R) (R i j H) := ⟨fun h => ⟨i, j, rfl, rfl, h⟩⟩
end
end Fk

namespace Fk
open PySem PySem.Spec PyProof.Rows L2
/-! ## a law that is run where no guard is set: str of lists and tuples -/
structure FnG (P : Program) (w : World) (K : PySem.W.Frag) (mg : Str → Option Value) (base : Heap) (CX : CXT) (k : Nat) (f : Addr) (fd : FuncData) (ps : List Str) (sp : Sp) : Prop where
  len : ∀ vs H Q E, sp vs H Q E → vs.length = ps.length
  run : ∀ (A : Around) (outer : List Env) (s : Shared) (H : Hp) (args : Args) (us : List Value) (vs : List V) (Q : VK) (E : XK), Room k A → A.guards = some [] → Env0 P w K mg base A outer s H → BindsTo s fd args (ps.zip us) → Vals vs us → sp vs H Q E → codeAny (model P w) A (.call (.ref f) args) (CR CX outer P w H s Q E) s
theorem Fun.okG {P : Program} {w : World} {K : PySem.W.Frag} {mg : Str → Option Value} {base : Heap} {x qual : Str} {st : Stmt} {f : Addr} {fd : FuncData} {N ps : List Str} {k : Nat} {sp : Sp} (F : Fun K x qual st f fd) (S : FnScope N ps (defScope st))
    (len : ∀ vs H Q E, sp vs H Q E → vs.length = ps.length)
    (hb : ∀ (cdv : Value) (A : Around) (outer : List Env) (s : Shared) (H : Hp) (vs : List V) (Q : VK) (E : XK), Room k (A.deeper (envOfC qual (defScope st) s.heap.objs.size f cdv)) → (A.deeper (envOfC qual (defScope st) s.heap.objs.size f cdv)).guards = some [] → sp vs H Q E →
      ∃ t, PSs (cxOf CX0 P w K mg base N qual (defScope st) f cdv A outer s H E).nox (defBody st) t ∧ t { nx := fun _ H' => Q .non H', rt := Q } (start N vs) H) : FnG P w K mg base CX0 (k + 1) f fd ps sp := by
  obtain ⟨oc, od, kV, doc, pm, an, cdv, ct, osl, rfl, lk, hcd⟩ := F.ex
  refine ⟨len, fun A outer s H args us vs Q E hr hg e0 bd r hsp => ?_⟩
  have hl := len _ _ _ _ hsp
  have grow : ∀ b o, base.get? b = some o → s.heap.get? b = some o := fun b o e => (e0.bs b o e).1
  have KX := e0.mod.kin.keeps grow
  have lim := e0.mod.nolimit.keeps grow
  refine codeAny_call_function hr.depth (KX _ _ lk) rfl S.co S.gen rfl (PySem.W.codeRec_of KX hcd) (bd _ _ _ _ ?_)
  refine wpAny_newFunctionEnv_cells S.kind (fun z hz => ?_) fun env he s1 y => ?_
  · rcases S.par z.1 (List.of_mem_zip (show (z.1, z.2) ∈ _ from hz)).1 with q | q
    · exact .inl q
    · exact .inr ⟨q, PySem.W.cellsFrom_some _ _ _ (.inl q)⟩
  subst he
  obtain ⟨t, ht, hq⟩ := hb cdv A outer s H vs Q E (hr.deeper _) hg hsp
  refine ⟨lim.keeps y.toInCall.keep, codeAny_func (wpAny_mono (ht.nox.run [] s1 (start N vs) H _ (inv_start S hr.hd e0 hl r y) hq) (fun fl s' hs => ?_) fun _ _ hs => hs)⟩
  cases fl with
  | ret u =>
    obtain ⟨v, _, H', J, rv, q⟩ := hs
    exact ⟨v, H', J.os, J.bare, J.base, J.hok, rv, q⟩
  | next =>
    obtain ⟨_, H', J, q⟩ := hs
    exact ⟨V.non, H', J.os, J.bare, J.base, J.hok, rfl, q⟩
  | brk => exact hs.elim fun _ h => h.elim fun _ h => h.2.elim
  | cont => exact hs.elim fun _ h => h.elim fun _ h => h.2.elim
/-- the head, for such a law -/
theorem head_G {P : Program} {w : World} {K : PySem.W.Frag} {mg mb : Str → Option Value} {k : Nat} {fa a : Addr} {fd : FuncData} {x : Str} {sp : Sp} {S : Shared} {vs : List Value} {H : Hp}
    (KX : K.In S.heap) (gm : S.heap.Ns mainGlobals mg) (gb : S.heap.Ns builtinsNs mb) (hbb : ∀ x : Str, x ≠ "__name__" → mb x = bootBuiltins x) (lim : S.heap.NoLimit) (hg : S.gens = #[])
    (ha : S.heap.get? a = some { cls := .type "list", data := .seq vs.toArray }) (hr : Room k callerA)
    (F : ∀ base : Heap, K.In base → base.Ns mainGlobals mg → FnG P w K mg base CX0 k fa fd [x] sp) (bd : ∀ (s : Shared) (u : Value), BindsTo s fd ⟨[u], []⟩ [(x, u)])
    (q : sp [.ref a] H (fun v _ => v = .bl true) fun _ _ _ => False) (hok : HOk P w H S.heap) (only : ∀ b u, H b = some u → b = a ∧ ∃ o xs, u = .frz o (.lst xs)) (hK : H a ≠ none → K.lookup a = none) :
    codeAny (model P w) callerA (.call (.ref fa) ⟨[.ref a], []⟩) (fun r s' => r = .ok (.ret (.bool true)) ∧ OldK S.heap s'.heap ∧ s'.os = S.os ∧ AllBare s'.gens) S := by
  have off : ∀ {b : Addr} {o : Obj}, S.heap.get? b = some o → (b = a → H a = none) → (hidT S.heap H).get? b = some o := fun {b o} e h => hidT_get e (by
    cases c : H b with
    | none => rfl
    | some u =>
      obtain ⟨e1, _⟩ := only b u c
      rw [e1, h e1] at c
      exact nomatch c)
  have nsH : ∀ {b : Addr} {m : Str → Option Value}, S.heap.Ns b m → (hidT S.heap H).Ns b m := fun {b m} ⟨o, es, ep, e, d, r⟩ => ⟨o, es, ep, off e (fun eb => by
    subst eb
    rw [ha] at e
    cases e
    exact nomatch d), d, r⟩
  have KH : K.In (hidT S.heap H) := fun b o e => off (KX b o e) fun eb => by
    cases c : H a with
    | none => rfl
    | some u =>
      have := hK (by rw [c]; simp)
      rw [← eb, e] at this
      exact nomatch this
  have M : Mod K mg (hidT S.heap H) := ⟨KH, nsH gm, ⟨mb, nsH gb, hbb⟩, lim.elim fun mc h => ⟨mc, nsH h.1, h.2⟩⟩
  have nofs : ∀ b : Addr, b ∉ ([] : List Addr) := fun _ => List.not_mem_nil
  refine codeAny_mono ((F _ KH (nsH gm)).run callerA [] S H ⟨[.ref a], []⟩ [.ref a] [.ref a] _ _ hr rfl ⟨rfl, M, fun b o e => of_hidT e, Nat.le_of_eq (hidT_size _ _), trivial, fun b hb => absurd hb (nofs b), hok, .of_eq hg⟩ (bd S (.ref a)) (.cons rfl .nil) q) fun r s' h => ?_
  cases r with
  | error e => exact False.elim h
  | ok fl =>
    cases fl with
    | ret u =>
      obtain ⟨v, H2, os, bare, un, ok2, rv, qv⟩ := h
      have qv : v = .bl true := qv
      subst qv
      have eu : u = Value.bool true := rv
      subst eu
      refine ⟨rfl, OldK.of_keep fun b o e => ?_, os, bare⟩
      cases c : H b with
      | none => exact un.keep b o e c (nofs b) (nofs b)
      | some u =>
        obtain ⟨_, ob, xs, eu⟩ := only b u c
        rw [eu] at c
        have f1 := (hok b _ c).1
        rw [e] at f1
        cases f1
        exact (ok2 b _ (un.frzs b _ _ c)).1
    | next => exact False.elim h
    | brk => exact False.elim h
    | cont => exact False.elim h
theorem walk_ofG {l : PySem.W.OpenLaw} {n k : Nat} {q : Program} {loose : List Str} {XP : (Str → Option Value) → Heap → Prop} {YP : World → Heap → Prop} {d : DefRec} {K : Params → PySem.W.Frag} {sp : World → Sp} {x : Str}
    (hn : l.most = some n) (hn2 : n ≤ sizeLine) (hdf : d.params.defaults = []) (hr : Room k callerA) (hY : ∀ (w : World) (h : Heap), YP w h → (K w.params).In h)
    (F : ∀ (w : World) (mg : Str → Option Value) (fa : Addr) (h : Heap), (K w.params).In h → h.Ns mainGlobals mg → mg d.name = some (.ref fa) →
      ∃ fd : FuncData, (∀ (s : Shared) (u : Value), BindsTo s fd ⟨[u], []⟩ [(x, u)]) ∧ ∀ base : Heap, (K w.params).In base → base.Ns mainGlobals mg → FnG l.prog w (K w.params) mg base CX0 k fa fd [x] (sp w))
    (hsp : ∀ (w : World) (H : Hp) (a : Addr) (ns : List Int), ns.length ≤ n → (∀ z ∈ ns, Builtin.Int.intBits z ≤ 1048576) → Only H → SqL (K w.params) H a (ns.map V.int) → sp w [.ref a] H (fun v _ => v = .bl true) fun _ _ _ => False) :
    PySem.W.WalkO q loose XP YP l.row.toRowW d [] (fun f vs => PySem.call f vs) := by
  refine Att.attach_callB hn hdf fun w _ S mg mb fa _ _ _ _ a vs ns G Y _ _ _ hmg ha hi hl hbt hg => ?_
  obtain ⟨fd, bd, hF⟩ := F w mg fa _ (hY w _ Y) G.T.g hmg
  have lens : (ns.map V.int).length ≤ sizeLine := by rw [List.length_map]; exact Nat.le_trans hl hn2
  have go := fun H => head_G (H := H) (hY w _ Y) G.T.g G.T.b G.T.builtins G.T.nolimit hg ha hr hF bd
  cases ek : (K w.params).lookup a with
  | some o =>
    have e := hY w _ Y a o ek
    rw [ha] at e
    cases e
    refine go (fun _ => none) (hsp w _ a ns hl hbt (fun _ => .inl rfl) (.inr ⟨_, vs.toArray, _, ek, rfl, rfl, rfl, ?_, by simpa using vals_ints hi⟩)) (fun b u z => nomatch (show (none : Option HO) = some u from z)) (fun b u z => nomatch (show (none : Option HO) = some u from z)) fun z => absurd rfl z
    rw [List.size_toArray, hi.length]
    exact Nat.le_trans hl hn2
  | none =>
    have at' : ∀ b u, (if b = a then some (HO.frz { cls := .type "list", data := .seq vs.toArray } (.lst (ns.map V.int))) else none) = some u → b = a ∧ u = .frz { cls := .type "list", data := .seq vs.toArray } (.lst (ns.map V.int)) := fun b u z => by
      by_cases c : b = a
      · rw [if_pos c] at z
        exact ⟨c, (Option.some.inj z).symm⟩
      · rw [if_neg c] at z
        exact nomatch z
    refine go (fun b => if b = a then some (.frz { cls := .type "list", data := .seq vs.toArray } (.lst (ns.map V.int))) else none) (hsp w _ a ns hl hbt (fun b => ?_) (.inl (.inr ⟨_, if_pos rfl⟩))) (fun b u z => ?_) (fun b u z => ?_) fun _ => ek
    · by_cases c : b = a
      · exact .inr ⟨_, _, if_pos c⟩
      · exact .inl (if_neg c)
    · obtain ⟨rfl, rfl⟩ := at' b u z
      exact ⟨ha, lens, vs, _, vals_ints hi, ha⟩
    · obtain ⟨e1, e2⟩ := at' b u z
      exact ⟨e1, _, _, e2⟩
/-- data whose text is no longer than a text may be -/
def Pr (n m : Nat) (d : PyData) : Prop := d.showable = true ∧ d.hasDict = false ∧ d.leavesShort 700 = true ∧ d.bulk ≤ n ∧ d.depth ≤ m
def PrAll (n m : Nat) (ds : List PyData) : Prop := PyData.showableAll ds = true ∧ PyData.hasDictAll ds = false ∧ PyData.leavesShortAll 700 ds = true ∧ PyData.bulkAll ds ≤ n ∧ PyData.depthAll ds ≤ m
theorem pr_nil (n m : Nat) : PrAll n m [] := ⟨rfl, rfl, rfl, Nat.zero_le _, Nat.zero_le _⟩
theorem pr_cons {n n1 n2 m : Nat} {d : PyData} {ds : List PyData} (h : Pr n1 m d) (t : PrAll n2 m ds) (e : n1 + 1 + n2 ≤ n) : PrAll n m (d :: ds) := by
  obtain ⟨a1, a2, a3, a4, a5⟩ := h
  obtain ⟨b1, b2, b3, b4, b5⟩ := t
  refine ⟨?_, ?_, ?_, ?_, ?_⟩
  · simp [PyData.showableAll, a1, b1]
  · simp [PyData.hasDictAll, a2, b2]
  · simp [PyData.leavesShortAll, a3, b3]
  · simp only [PyData.bulkAll]; omega
  · simp only [PyData.depthAll]; omega
theorem pr_lst {n m : Nat} {ds : List PyData} (h : PrAll n m ds) : Pr n (m + 1) (.list ds) := by
  obtain ⟨b1, b2, b3, b4, b5⟩ := h
  exact ⟨by simp [PyData.showable, b1], by simp [PyData.hasDict, b2], by simp [PyData.leavesShort, b3], by simp only [PyData.bulk]; omega, by simp only [PyData.depth]; omega⟩
theorem pr_tup {n m : Nat} {ds : List PyData} (h : PrAll n m ds) : Pr n (m + 1) (.tuple ds) := by
  obtain ⟨b1, b2, b3, b4, b5⟩ := h
  exact ⟨by simp [PyData.showable, b1], by simp [PyData.hasDict, b2], by simp [PyData.leavesShort, b3], by simp only [PyData.bulk]; omega, by simp only [PyData.depth]; omega⟩
theorem pr_all {n m c : Nat} {ds : List PyData} (h : ∀ d, d ∈ ds → Pr n m d) (e : (n + 1) * ds.length ≤ c) : PrAll c m ds := by
  induction ds generalizing c with
  | nil => exact pr_nil _ _
  | cons d ds ih =>
    rw [List.length_cons, Nat.mul_add] at e
    exact pr_cons (h d List.mem_cons_self) (ih (fun d hd => h d (List.mem_cons_of_mem _ hd)) (Nat.le_refl _)) (by omega)
theorem pr_int {i : Int} (h : i.natAbs.log2 < 600) : Pr 0 0 (.int i) := by
  refine ⟨by simp only [PyData.showable]; exact decide_eq_true (by omega), rfl, ?_, Nat.le_refl _, Nat.le_refl _⟩
  simp only [PyData.leavesShort]
  refine decide_eq_true ?_
  have := int_text_length_le (a := i) (k := 600) (by decide) h
  show (Str.ofString (toString i)).length ≤ 700
  rw [PySem.ofString_length]
  omega
theorem pr_non : Pr 0 0 .none := ⟨rfl, rfl, rfl, Nat.le_refl _, Nat.le_refl _⟩
theorem pr_bl (b : Bool) : Pr 0 0 (.bool b) := ⟨rfl, rfl, rfl, Nat.le_refl _, Nat.le_refl _⟩
theorem Pr.mono {n n' m m' : Nat} {d : PyData} (h : Pr n m d) (h1 : n ≤ n') (h2 : m ≤ m') : Pr n' m' d := ⟨h.1, h.2.1, h.2.2.1, Nat.le_trans h.2.2.2.1 h1, Nat.le_trans h.2.2.2.2 h2⟩
def rStrD (K : PySem.W.Frag) : List V → Hp → VK → Prop := fun xs H Q => ∃ (a : Addr) (d : PyData), xs = [.ref a] ∧ Dp K H (.ref a) d ∧ Pr 23000 50 d ∧ Q (.str d.shown) H
theorem call_strD {X : Cx} (hg : X.A.guards = some []) (hu : X.A.units + 64 < cLine) : CallR X (.type "str") (rStrD X.K) := by
  intro pins s σ H xs us Q I r h
  obtain ⟨a, d, rfl, hd, hp, q⟩ := h
  obtain ⟨u, rfl, rx⟩ := vals1 r
  obtain ⟨as, hr⟩ := Dp.reads I d _ _ hd rx
  cases (show u = Value.ref a from rx)
  obtain ⟨h1, h2, h3, h4, h5⟩ := hp
  refine str_of_reads hr h1 (fun z => by rw [h2] at z; exact nomatch z) hg (by omega) (fun _ _ e => e) (fun h' u tk hk => ⟨V.str d.shown, H, I.kept (t' := tk) hk, ⟨u, rfl⟩, q⟩) ?_
  have := PyData.shown_le_bulk 700 (by decide) d h3
  rw [sizeLine_eq]
  omega
section
variable {σ : L2.St} {D H : Hp} {L : Own} {K : PySem.W.Frag} {Q : VK}
theorem c_strD {a : Addr} {d : PyData} (h : Dp K H (.ref a) d) (p : Pr 23000 50 d) (k : Q (.str d.shown) H) : rStrD K [.ref a] H Q := ⟨a, d, rfl, h, p, k⟩
instance v_neStr {t : Str} : VC (rNeX K (.str t) (.str t) H Q) (Q (.bl false) H) := ⟨fun h => .inl ⟨rfl, by
  have e : (!decide (V.str t = V.str t)) = false := by rw [decide_eq_true rfl]; rfl
  rw [e]; exact h⟩⟩
instance v_eqStr {t : Str} : VC (rEqX K (.str t) (.str t) H Q) (Q (.bl true) H) := ⟨fun h => .inl ⟨rfl, by
  have e : decide (V.str t = V.str t) = true := decide_eq_true rfl
  rw [e]; exact h⟩⟩
theorem dpLLH {a : Addr} {us : List V} {xs : List (List Int)} (ha : SqL K H a us) (ra : RpAll H us (xs.map lI)) : Dp K H (.ref a) (.list (xs.map lI)) := .lst ha ra.dp
theorem r_eqLLH {a b : Addr} {us ws : List V} {xs ys : List (List Int)} (ha : SqL K H a us) (hb : SqL K H b ws) (ra : RpAll H us (xs.map lI)) (rb : RpAll H ws (ys.map lI)) (k : Q (.bl (decide (xs = ys))) H) : rEqX K (.ref a) (.ref b) H Q :=
  .inr ⟨_, _, dpLLH ha ra, dpLLH hb rb, sh_LL xs, sh_LL ys, by rw [eqv_LL]; exact k⟩
theorem r_neLLH {a b : Addr} {us ws : List V} {xs ys : List (List Int)} (ha : SqL K H a us) (hb : SqL K H b ws) (ra : RpAll H us (xs.map lI)) (rb : RpAll H ws (ys.map lI)) (k : Q (.bl (!decide (xs = ys))) H) : rNeX K (.ref a) (.ref b) H Q :=
  .inr ⟨_, _, dpLLH ha ra, dpLLH hb rb, sh_LL xs, sh_LL ys, by rw [eqv_LL]; exact k⟩
end
end Fk

namespace Fk
open PySem PySem.Spec PyProof.Rows L2
/-! ## a list extended by a tuple -/
open Builtin in
theorem ext_tup (l : Addr) (items : Array Value) (n : Nat) (b : Addr) (items2 : Array Value) (n2 : Nat) (dd : Option Addr) (sl : Array (Option Value)) (h0 : ¬(!items.isEmpty && Builtin.List.listTooLong (items.size + items2.size)) = true) (h1 : items.size ≤ sizeLine) (h2 : items.size + items2.size ≤ sizeLine + 1) :
    Meets (Builtin.«list.extend» ⟨[.ref l, .ref b], []⟩) (fun _ R s => s.heap.get? l = some { cls := .type "list", dict := none, data := .seq items n, slots := #[] } ∧ s.heap.get? b = some { cls := .type "tuple", dict := dd, data := .seq items2 n2, slots := sl } ∧ R (.ok (.ret Value.none)) { s with heap := s.heap.update l (Obj.mapSeq fun x => x ++ items2), toks := s.toks }) :=
  .of_wp fun prog w A R s h => by
    obtain ⟨hq, gg, dw, tk, oz⟩ := s
    obtain ⟨hl, hb, h⟩ := h
    have f2 := sub_tuple_tuple
    have f3 := sub_list_list
    have f4 := sub_tuple_list
    have f5 := sub_list_tuple
    have hz' : (items ++ items2).size ≤ sizeLine + 1 := by rw [Array.size_append]; exact h2
    wp_walk using (wpAny_updateSeq hl rfl (hz := h1) (_hz' := hz')), wpAny_loadPart' hl, wpAny_loadPart' hb
    exact ⟨_, rfl, h⟩
def rExtK (K : PySem.W.Frag) : V → List V → Hp → VK → Prop := fun x vs H Q => rExtend x vs H Q ∨ ∃ l b xs zs, x = .ref l ∧ vs = [.ref b] ∧ H l = some (.lst xs) ∧ SqT K H b zs ∧ xs.length + zs.length ≤ sizeLine ∧ Q .non (upd H l (.lst (xs ++ zs)))
theorem mt_extK {X : Cx} : MtM X "list.extend" (rExtK X.K) := by
  intro pins s σ H x vs v us Q I rx rv h
  rcases h with h | ⟨l, b, xs, zs, rfl, rfl, hH, hB, hz, q⟩
  · exact mt_extend pins s σ H x vs v us Q I rx rv h
  cases rx
  obtain ⟨u, rfl, ru⟩ := rv.one
  cases ru
  obtain ⟨z, its, n, r, hl, e⟩ := I.lstM hH
  obtain ⟨its2, r2, ⟨⟨oc, od, da, sl⟩, e2, ec, n2, ed⟩, hl2⟩ := I.tuple hB
  dsimp only at ec ed
  subst ec ed
  have hl3 := r2.length
  have hsz : its.toArray.size + its2.toArray.size ≤ sizeLine := by
    rw [List.size_toArray, List.size_toArray]
    omega
  refine call_meets PySem.F.slot_list_extend ⟨_, e, rfl⟩ PySem.F.entry_list_extend (PySem.F.args_list_extend_2 _ _) (ext_tup l its.toArray n b its2.toArray n2 od sl (by rw [notLongL hsz, Bool.and_false]; exact Bool.false_ne_true) (by rw [List.size_toArray]; omega) (by omega)) ⟨e, e2, .non, _, I.lset (its' := its ++ its2) hH e (by simp) (r.append r2) ?_, rfl, q⟩
  rw [List.length_append]
  omega
section
variable {σ : L2.St} {D H : Hp} {L : Own} {K : PySem.W.Frag} {Q : VK}
instance v_extK {a b : Addr} {xs zs : List V} {n : Nat} {L' : Own} [S : Sx D L H] [h : Fi L a (.lst xs) n] [hb : Ks D b zs] [e : Se L n (a, .lst (xs ++ zs)) L'] : VC (rExtK K (.ref a) [.ref b] H Q) (xs.length + zs.length ≤ 16777216 ∧ ∀ H', Sx D L' H' → Q .non H') :=
  ⟨fun k => by
    have k2 := k.2 _ (by have := S.put (.lst (xs ++ zs)) h.pf; rw [e.pf] at this; exact this)
    rcases hb.pf with g | g
    · exact .inl ⟨a, b, xs, zs, rfl, rfl, S.at h.pf, S.dH _ _ g, k.1, k2⟩
    · exact .inr ⟨a, b, xs, zs, rfl, rfl, S.at h.pf, sqT S g, k.1, k2⟩⟩
end
/-- rows that are lists or tuples -/
def RKs (D : Hp) (us : List V) (rs : List (List Int)) : Prop := us.length = rs.length ∧ ∀ (i : Nat) (v : V), us[i]? = some v → ∃ g r, v = .ref g ∧ rs[i]? = some r ∧ Ks D g (r.map V.int)
theorem rks_up {D D' : Hp} {us : List V} {rs : List (List Int)} (h : RKs D us rs) (s : Sm D D') : RKs D' us rs := ⟨h.1, fun i v hv => by
  obtain ⟨g, r, e, hr, k⟩ := h.2 i v hv
  exact ⟨g, r, e, hr, k.pf.elim (fun z => ⟨.inl (s.e _ _ z)⟩) fun z => ⟨.inr (s.e _ _ z)⟩⟩⟩
theorem rks_L {D : Hp} {us : List V} {rs : List (List Int)} (h : RpAll D us (rs.map lI)) : RKs D us rs := ⟨by have := RpAll.length h; rw [List.length_map] at this; exact this, fun i v hv => by
  obtain ⟨g, r, e, hr, k⟩ := ra_getL h hv
  exact ⟨g, r, e, hr, ⟨.inl k.pf⟩⟩⟩
theorem rks_T {D : Hp} {us : List V} {rs : List (List Int)} (h : RpAll D us (rs.map tI)) : RKs D us rs := ⟨by have := RpAll.length h; rw [List.length_map] at this; exact this, fun i v hv => by
  obtain ⟨g, r, e, hr, k⟩ := ra_getT h hv
  exact ⟨g, r, e, hr, ⟨.inr k.pf⟩⟩⟩
end Fk

namespace Fk
open PySem PySem.Spec PyProof.Rows L2
/-! ## a caught error that is kept behind its suite -/
/-- an error at a, of this class -/
def ErO (a : Addr) (cls : Value) (d : Option Addr) : HO := .ext fun h => ∃ oe, h.get? a = some oe ∧ Zc cls d oe ∧ ∃ vs, oe.data = .fields vs
theorem erO_ok {P : Program} {w : World} {H : Hp} {h : Heap} {a : Addr} {oe : Obj} {cls : Value} {d : Option Addr} (e : h.get? a = some oe) (z : Zc cls d oe) (f : ∃ vs, oe.data = .fields vs) : ObjOk P w H h a (ErO a cls d) :=
  ⟨⟨oe, e, z, f⟩, ⟨oe, e⟩, fun _ _ ⟨o, e1, z1⟩ k => ⟨o, k o e1, z1⟩⟩
section
variable {X : Cx} {pins : List (Addr × Obj)} {σ : L2.St} {H : Hp} {s : Shared} {a : Addr} {oe : Obj} {cls : Value} {d : Option Addr}
/-- the suite's end: its error is a thing of the heap from now on -/
theorem adopt (S : Inv (X.suite a ((a, oe) :: (X.pn ++ pins))) [] σ H s) (ok : X.Ok) (z : Zc cls d oe) (f : ∃ vs, oe.data = .fields vs) (n0 : X.s_0.heap.get? a = none) (np : ∀ p, p ∈ X.pn ++ pins → p.1 ≠ a) : Inv X pins σ (upd H a (ErO a cls d)) s := by
  obtain ⟨ga, na, nl, nf, nc⟩ := S.pin (a, oe) (by rw [List.append_nil]; exact List.mem_cons_self)
  have old : ∀ {b : Addr} {o : Obj}, X.s_0.heap.get? b = some o → b ≠ a := fun e q => by rw [q, n0] at e; exact nomatch e
  have tr : ∀ {b : Addr} {o : HO}, H b = some o → upd H a (ErO a cls d) b = some o := fun {b o} e => by rw [upd_ne (ne_of_none e na)]; exact e
  have U := S.base
  refine ⟨ok, S.os, S.bare, ⟨U.keep, U.slot, fun b o e h hx => ?_, U.there, fun b xs e => tr (U.tups b xs e), fun b o u e => tr (U.frzs b o u e), fun b ps e => ?_⟩, S.loc, S.cell, ?_, fun x c e => ?_, fun p hp => ?_, ?_, S.len⟩
  · rw [upd_ne (old e)]
    exact U.free b o e h hx
  · obtain ⟨m, hm⟩ := U.tbls b ps e
    exact ⟨m, tr hm⟩
  · rw [upd_ne (fun q => nl q.symm)]
    exact S.free
  · rw [upd_ne]
    · exact S.freeC x c e
    · intro q
      obtain ⟨v, oc, ho, hv⟩ := S.cell x c e
      rw [q, ga] at ho
      cases ho
      exact nc v hv
  · obtain ⟨q1, q2, q3⟩ := S.pin p (by rw [List.append_nil]; exact List.mem_cons_of_mem _ hp)
    exact ⟨q1, by rw [upd_ne (np p hp)]; exact q2, q3⟩
  · exact HOk.laidN S.hok (fun _ _ e => e) na (erO_ok ga z f)
end
def wKeep (K : PySem.W.Frag) (c : Value) (i : Nat) (ts : Addr → Value → Option Addr → TS) (Wout : WX) (D : Ends) : WX := fun cls d σ H =>
  ∃ yes, PySem.W.exmOne K cls c = some yes ∧ (yes = true → ∀ a, H a = none → ts a cls d { nx := fun σ2 H2 => D.nx (σ2.set i none) (upd H2 a (ErO a cls d)), rt := D.rt, bk := fun σ2 H2 => D.bk (σ2.set i none) H2, ct := fun σ2 H2 => D.ct (σ2.set i none) H2 } (σ.set i (some (.ref a))) H) ∧ (yes = false → Wout cls d σ H)
section
variable {X : Cx} {x n : Str} {c : Value} {i : Nat} {body rest : List Stmt} {s0 : Stmt} {p1 p2 p3 : Pos} {tb : WX → TS} {ts : Addr → Value → Option Addr → TS} {Wout : WX}
theorem ps_try_keep (hs : X.stack = X.env :: X.outer) (hf : X.env.frame = some X.env.locals) (hN : X.N.Nodup) (hi : X.N[i]? = some n) (hl : X.env.kindOf n = some .local) (hx : X.ex = []) (hc : Names X x c) (tk : Takes X Wout)
    (hb : ∀ (W : WX) (pn : List (Addr × Obj)) (xe : Value → Shared → Prop), Takes (X.tr pn xe) W → PassesOwn (model X.prog X.w) X.A X.env xe → PSs (X.tr pn xe) body (tb W))
    (ht : ∀ (a : Addr) (oe : Obj) (cls : Value) (d : Option Addr) (pn : List (Addr × Obj)), Zc cls d oe → (∃ vs, oe.data = .fields vs) → PSs (X.suite a ((a, oe) :: pn)) (s0 :: rest) (ts a cls d)) :
    PS X (.Try body [.ExceptHandler (some (.Name x p1)) (some n) (s0 :: rest) p2] [] [] p3) (fun D σ H => tb (wKeep X.K c i ts Wout D) D σ H) := by
  refine ⟨fun pins s σ H D I h => ?_⟩
  have okX := I.ok
  have hfs : X.A.frames = some (X.env :: X.outer) := by rw [okX.frames, hs]
  obtain ⟨hd9, hh9⟩ : ∃ hd, hd = Stmt.Try body [.ExceptHandler (some (.Name x p1)) (some n) (s0 :: rest) p2] [] [] p3 := ⟨_, rfl⟩
  refine wpAny_Try_except (wpAny_mono ((hb (wKeep X.K c i ts Wout D) (X.pn ++ pins) _ (fun u t hX => ?_) PassesOwn.looking).run [] s σ H D (I.toTry _) h) (fun f t hf9 => ?_) fun _ _ z => z)
  rotate_left
  · cases f with
    | next => exact hf9.elim fun σ2 z => z.elim fun H2 z => wpAny_execs_nil ⟨σ2, H2, z.1.ofTry okX, z.2⟩
    | brk => exact hf9.elim fun σ2 z => z.elim fun H2 z => ⟨σ2, H2, z.1.ofTry okX, z.2⟩
    | cont => exact hf9.elim fun σ2 z => z.elim fun H2 z => ⟨σ2, H2, z.1.ofTry okX, z.2⟩
    | ret u =>
      obtain ⟨v, σ2, H2, J, z⟩ := hf9
      exact ⟨v, σ2, H2, J.ofTry okX, z⟩
  obtain ⟨a, G, sJ, q, σ2, H2, cls, d, rfl, J0, keepG, upS, sk, fr, osE, gs, yes, hyes, wY, wN⟩ := hX
  rw [show (X.tr (X.pn ++ pins) _).stack = X.env :: X.outer from hs] at sk keepG
  have J := J0.ofTry okX
  show wpAny (model X.prog X.w) X.A (noteFrame (.ref a) X.env) _ _ _
  refine Sky.land Zc.steady hfs hf sk fun g1 F1 up1 => ?_
  obtain ⟨o1, v1, e1, zc1, f1⟩ := F1.there
  have notF : a ∉ frs (X.env :: X.outer) := fun hm => by
    obtain ⟨_, o2, e2, bad⟩ := F1.2.2.1.mem hm
    rw [e1] at e2
    exact bad v1 (Option.some.inj e2 ▸ f1)
  have notL : a ≠ X.env.locals := fun z => notF (List.mem_filterMap.mpr ⟨X.env, List.mem_cons_self, by rw [hf, z]⟩)
  have notO : a ∉ X.fs := fun hm => by
    obtain ⟨e, he, z⟩ := List.mem_filterMap.mp hm
    exact notF (List.mem_filterMap.mpr ⟨e, List.mem_cons_of_mem _ he, z⟩)
  have newJ : ∀ o, sJ.heap.get? a = some o → False := fun o e => by
    have := keepG a o e notF
    rw [F1.2.1] at this
    exact nomatch this
  have new0 : X.s_0.heap.get? a = none := by
    cases e : X.s_0.heap.get? a with
    | none => rfl
    | some o =>
      obtain ⟨o2, e2⟩ := J.base.there a o e (by rw [hx]; exact List.not_mem_nil)
      exact (newJ o2 e2).elim
  have newP : ∀ p, p ∈ X.pn ++ pins → p.1 ≠ a := fun p hp z => newJ p.2 (by rw [← z]; exact (J.pin p hp).1)
  have J1 : Inv X pins σ2 H2 { t with heap := g1 } := J.landed (by rw [hs]; exact keepG) F1.1 (upS.trans up1) osE gs
  have T1 := J1.suite e1 f1 fr notL notO
  have ask := PySem.W.exm_one (M := model X.prog X.w) J1.kIn (show PySem.W.Looks (model X.prog X.w) g1 (typeOf (.ref a)) cls from fun A Q E s9 k z => wpAny_typeOf_ref (k _ _ e1) (by rw [zc1.1]; exact z)) hyes
  have look : ∀ {Q E : Value → Shared → Prop}, Q c { t with heap := g1 } → wpAny (model X.prog X.w) (X.A.mark (some (.ref a))) (eval (.Name x p1) X.env) Q E { t with heap := g1 } := fun {Q E} z => by
    rcases hc with ⟨hg, hdb, hm | ⟨hm, hv, hnn⟩⟩
    · exact ld_glob (X := X.suite a ((a, o1) :: (X.pn ++ pins))) T1 hg hm z hdb
    · exact ld_blt (X := X.suite a ((a, o1) :: (X.pn ++ pins))) T1 hg hm hv z hnn hdb
  refine wpAny_handleBy_cons (codeAny_handlers_test (look (ask.here ?_))) (by intro z; cases z)
  cases yes with
  | true =>
    refine codeAny_handlers_suite_as (HandSPX.lands_againZ F1 fun g2 F2 up2 => ?_)
    obtain ⟨o2, v2, e2, zc2, f2⟩ := F2.there
    have T2 := (J.landed (s' := { t with heap := g2 }) (by rw [hs]; exact keepG) F2.1 ((upS.trans up1).trans up2) osE gs).suite e2 f2 fr notL notO
    refine store_ok (X := X.suite a ((a, o2) :: (X.pn ++ pins))) (v := .ref a) T2 hN hi (.inl hl) rfl (fun t3 T3 => ?_) (.inr hl)
    refine wpAny_mono ((ht a o2 cls d (X.pn ++ pins) zc2 ⟨_, f2⟩).run [] t3 _ H2 _ T3 (wY rfl a fr)) (fun f t4 r4 => ?_) fun _ _ z => z.elim
    cases f with
    | next =>
      obtain ⟨σ4, H4, T4, z4⟩ := r4
      exact gone_ok (X := X.suite a ((a, o2) :: (X.pn ++ pins))) T4 hN hi hl fun t5 T5 => ⟨_, _, adopt T5 okX zc2 ⟨_, f2⟩ new0 newP, z4⟩
    | brk =>
      obtain ⟨σ4, H4, T4, z4⟩ := r4
      exact gone_ok (X := X.suite a ((a, o2) :: (X.pn ++ pins))) T4 hN hi hl fun t5 T5 => ⟨_, _, T5.unsuite okX, z4⟩
    | cont =>
      obtain ⟨σ4, H4, T4, z4⟩ := r4
      exact gone_ok (X := X.suite a ((a, o2) :: (X.pn ++ pins))) T4 hN hi hl fun t5 T5 => ⟨_, _, T5.unsuite okX, z4⟩
    | ret u =>
      obtain ⟨v4, σ4, H4, T4, r4, z4⟩ := r4
      exact gone_ok (X := X.suite a ((a, o2) :: (X.pn ++ pins))) T4 hN hi hl fun t5 T5 => ⟨_, _, _, T5.unsuite okX, r4, z4⟩
  | false =>
    show wpAny _ X.A (handleBy (.ref a) X.env []) _ _ _
    refine wpAny_handleBy_nil ?_
    have F1' := F1
    obtain ⟨_, _, _, o3, v3, T, oT, ts3, e3, zc3, f3, i3, _⟩ := F1'
    have on : wpAny (model X.prog X.w) X.A (setFlight (.ref a) X.env.frame) (fun _ s9 => wpAny (model X.prog X.w) X.A (throw (.ref a) : Sem Flow) (SP X pins D) X.xe s9) X.xe { t with heap := g1 } := by
      rw [hf]
      exact HandSPX.setFlight_upZ F1 fun g2 F2 up2 => wpAny_throw (tk _ _ ⟨a, G, sJ, pins, σ2, H2, cls, d, rfl, J, by rw [hs]; exact keepG, (upS.trans up1).trans up2, .inr (.inr (by rw [hs]; exact F2)), fr, osE, gs, wN rfl⟩)
    unfold PySem.passOn
    refine wpAny_bind (wpAny_field e3 f3 i3 ?_)
    rw [if_neg (show ¬ ((Value.ref T == Value.none) = true) from by simp)]
    first
      | exact wpAny_bind (wpAny_pure (wpAny_bind on))
      | exact wpAny_bind on
end
/-! isinstance of a kept error -/
def rIsEK (K : PySem.W.Frag) : List V → Hp → VK → Prop := fun xs H Q => (∃ (a : Addr) (cls : Value) (d : Option Addr), H a = some (ErO a cls d) ∧ rIsES K a cls d xs H Q) ∨ rIsiX K xs H Q
theorem call_isEK {X : Cx} : CallR X (.builtin "isinstance") (rIsEK X.K) := by
  intro pins s σ H xs us Q I r h
  rcases h with ⟨a, cls, d, hE, C, rfl, rfl, x, h⟩ | h
  rotate_left
  · exact call_isiX pins s σ H xs us Q I r h
  obtain ⟨⟨oe, hget, ⟨z1, z2⟩, vs, hv⟩, _⟩ := (show ObjOk X.prog X.w H s.heap a (ErO a (.ref C) none) from I.hok a _ hE)
  have J : PySem.W.InstAt s.heap a oe C none := by
    cases oe
    dsimp only at z1 z2 hv
    subst z1 z2 hv
    exact ⟨hget, rfl, rfl, trivial⟩
  rcases h with ⟨c, cv, b, rfl, hcv, e, q⟩ | ⟨tp, cs, ws, b, rfl, hT, kp, e, q⟩
  · obtain ⟨u1, u2, rfl, r1, r2⟩ := vals2 r
    cases (show u1 = Value.ref a from r1)
    have ec := hcv.eq r2
    subst ec
    exact PySem.W.kia_one (PySem.W.handS_kitx_exc x.hg x.hk x.hs x.hd x.ha x.hn x.ht x.hm) I.kIn J e (fun z => nomatch z) fun tk => ⟨.bl b, H, I.kept (t' := tk) fun _ _ z => z, rfl, q⟩
  · obtain ⟨u1, u2, rfl, r1, r2⟩ := vals2 r
    cases (show u1 = Value.ref a from r1)
    cases (show u2 = Value.ref tp from r2)
    obtain ⟨_, its, rv, ot, g1, g2, n, g3⟩ := (show ObjOk X.prog X.w H s.heap tp (.tup cs) from I.hok tp _ hT)
    have ew := ClsV.all kp rv
    subst ew
    cases ot
    simp only at g2 g3
    subst g2 g3
    exact PySem.W.kia_tup (PySem.W.handS_kitx_exc x.hg x.hk x.hs x.hd x.ha x.hn x.ht x.hm) I.kIn J g1 e (fun z => nomatch z) fun tk => ⟨.bl b, H, I.kept (t' := tk) fun _ _ z => z, rfl, q⟩
class Kx (D : Hp) (a : Addr) (C : outParam Addr) : Prop where
  pf : D a = some (ErO a (.ref C) none)
instance kxUp {D D' : Hp} {a C : Addr} [s : Sm D D'] [k : Kx D a C] : Kx D' a C := ⟨s.e _ _ k.pf⟩
section
variable {σ : L2.St} {D H : Hp} {L : Own} {K : PySem.W.Frag} {Q : VK}
instance (priority := 2000) v_isEK1 {a C : Addr} {c : V} {b : Bool} [S : Sx D L H] [e : Kx D a C] [x : ExC K C] [k : KtO K C c b] : VC (rIsEK K [.ref a, c] H Q) (Q (.bl b) H) := ⟨fun q => by
  obtain ⟨cv, h1, h2⟩ := k.pf
  exact .inl ⟨a, _, _, S.dH _ _ e.pf, C, rfl, rfl, x.pf, .inl ⟨c, cv, b, rfl, h1, h2, q⟩⟩⟩
instance (priority := 2000) v_isEKT {a C tp : Addr} {cs : List V} {b : Bool} [S : Sx D L H] [kt : Kn D tp (.tup cs)] [e : Kx D a C] [x : ExC K C] [k : KtA K C cs b] : VC (rIsEK K [.ref a, .ref tp] H Q) (Q (.bl b) H) := ⟨fun q => by
  obtain ⟨us, h1, h2⟩ := k.pf
  exact .inl ⟨a, _, _, S.dH _ _ e.pf, C, rfl, rfl, x.pf, .inr ⟨tp, cs, us, b, rfl, S.dH _ _ kt.pf, h1, h2, q⟩⟩⟩
instance (priority := 100) v_isEKx {xs : List V} : VC (rIsEK K xs H Q) (rIsiX K xs H Q) := ⟨fun q => .inr q⟩
/-- the error is adopted -/
theorem Sx.err {a C : Addr} (S : Sx D L H) (h : H a = none) : Sx (upd D a (ErO a (.ref C) none)) L (upd H a (ErO a (.ref C) none)) ∧ Sm D (upd D a (ErO a (.ref C) none)) ∧ Kx (upd D a (ErO a (.ref C) none)) a C := ⟨S.fix h, ⟨same_upd (S.dH.free h)⟩, ⟨upd_same⟩⟩
end
end Fk

namespace Fk
open PySem PySem.Spec PyProof.Rows L2
/-! ## dicts that are written no more: walks, sorted(d) -/
class Kf (D : Hp) (a : Addr) (u : outParam HO) : Prop where
  pf : ∃ o, D a = some (.frz o u)
instance kfUp {D D' : Hp} {a : Addr} {u : HO} [s : Sm D D'] [k : Kf D a u] : Kf D' a u := ⟨let ⟨o, e⟩ := k.pf; ⟨o, s.e _ _ e⟩⟩
def tFrz (t : TS) : TS := fun E σ H => ∃ d u, H d = some u ∧ Mut (some u) ∧ ∀ od, t E σ (upd H d (.frz od u))
theorem ps_frz {X : Cx} {st : Stmt} {t : TS} (h : PS X st t) : PS X st (tFrz t) := by
  refine ⟨fun pins s σ H E I hw => ?_⟩
  obtain ⟨d, u, hd, mu, hw⟩ := hw
  obtain ⟨od, I1⟩ := I.lock hd mu
  exact h.run pins s σ _ _ I1 (hw od)
/-- sorted(d), the keys numbers, any number of them -/
def rSortDK : List V → Hp → VK → Prop := fun vs H Q => ∃ (a : Addr) (kvs : List (Int × Int)), vs = [.ref a] ∧ Rd H a (.dK (kvs.map entI)) ∧
  ∀ (ys : List Int) (p : Addr), ys.Perm (kvs.map (·.1)) → ys.Pairwise (· ≤ ·) → H p = none → Q (.ref p) (upd H p (.lst (ys.map V.int)))
theorem cr_sortDK {X : Cx} (hcalm : X.calm = true) : CallR X (.builtin "sorted") rSortDK := by
  intro pins s σ H xs us Q I r q
  obtain ⟨a, kvs, ex, hd, q⟩ := q
  subst ex
  obtain ⟨u, eu, rx⟩ := vals1 r
  subst eu
  cases rx
  obtain ⟨z, lo, vs, rel, dd⟩ := dk_rd I.hok hd
  obtain ⟨ep, hat⟩ := dd.dictAt
  have hkeys : vs.map (·.1) = (kvs.map (·.1)).map Sum.inl := by
    rw [← rel.keys, List.map_map, List.map_map]
    rfl
  have hl : vs.length = kvs.length := by
    have e := congrArg List.length hkeys
    rw [List.length_map, List.length_map, List.length_map] at e
    exact e
  rw [List.length_map] at z
  have h16 : vs.length ≤ sizeLine := by rw [hl]; exact z
  refine Calls.call_function_entry PyProof.Rows.kind_sorted PyProof.Rows.plain_sorted PyProof.Rows.entry_sorted (PyProof.Rows.args_sorted1 _) ?_
  unfold Builtin.«sorted»
  refine wpAny_bind (m := checkCount "sorted" 1 1 _) (wpAny_pure ?_)
  refine wpAny_bind (PySem.W.kdu_collect (A := X.A.in1) (PySem.W.kdl_dict (knd := mixKind X.prog X.w) (kvs := vs) (ep := ep) lo) (I.ok.hd hcalm) hat h16 fun h' tk acc hk hacc => ?_)
  have hal : acc.toList.length = (kvs.map (·.1)).length := by rw [Array.length_toList, hacc.1, hl, List.length_map]
  have hS : IntsAre acc.toList (kvs.map (·.1)) := ints_each hal fun j v e => by
    obtain ⟨k, x, e1, e2⟩ := hacc.2 j v (by rw [← Array.getElem?_toList]; exact e)
    have e3 : (vs.map (·.1))[j]? = some k := by rw [List.getElem?_map, e1]; rfl
    rw [hkeys, List.getElem?_map] at e3
    cases e4 : (kvs.map (·.1))[j]? with
    | none => rw [e4] at e3; cases e3
    | some y =>
      rw [e4] at e3
      have e5 : Sum.inl y = k := Option.some.inj e3
      subst e5
      rcases keyIs_shape (show keyIs (Sum.inl y) v = true from e2) with ⟨i, t, ek, ev⟩ | ⟨z, t, ek, ev⟩
      · cases ek
        exact ⟨y, t, rfl, ev⟩
      · cases ek
  have I1 : Inv X pins σ H { s with heap := h', toks := tk } := I.kept hk
  have hz2 : acc.toList.length ≤ sizeLine := by rw [hal, List.length_map]; exact z
  refine wpAny_bind (wpAny_newList ?_ hz2)
  have hoL : (h'.push (seqObj "list" acc.toList.toArray 0)).get? h'.objs.size = some (seqObj "list" acc.toList.toArray 0) := Heap.get?_push_size _ rfl
  show wpAny _ _ _ _ _ { s with heap := h'.push (seqObj "list" acc.toList.toArray 0), toks := tk }
  have hn0 : H h'.objs.size = none := I1.hok.fresh (Nat.le_refl _)
  have hlen : ((kvs.map (·.1)).map V.int).length ≤ sizeLine := by rw [List.length_map, List.length_map]; exact z
  have I2 := I1.laid (a := h'.objs.size) (o := .lst ((kvs.map (·.1)).map V.int)) (h' := h'.push (seqObj "list" acc.toList.toArray 0)) (t' := tk) (fun _ _ q => Heap.get?_push_of_some _ q) (Nat.le_refl _)
    ⟨hlen, acc.toList, 0, vals_of_ints hS, Heap.get?_push_size _ rfl⟩
  refine wpAny_bind (wpAny_holding (wpAny_mono (mt_sortI (X := inX X) pins { s with heap := h'.push (seqObj "list" acc.toList.toArray 0), toks := tk } σ (upd H h'.objs.size (.lst ((kvs.map (·.1)).map V.int))) (.ref h'.objs.size) [] (.ref h'.objs.size) [] (fun _ H3 => Q (.ref h'.objs.size) H3) (inv_in I2) rfl .nil
    ⟨h'.objs.size, kvs.map (·.1), rfl, rfl, upd_same, fun ns' h1 h2 => ?_⟩) (fun u s' hu => ?_) (fun _ _ e => e)))
  · have e : upd (upd H h'.objs.size (.lst ((kvs.map (·.1)).map V.int))) h'.objs.size (.lst (ns'.map V.int)) = upd H h'.objs.size (.lst (ns'.map V.int)) := funext fun b => by
      by_cases c : b = h'.objs.size
      · rw [c, upd_same, upd_same]
      · rw [upd_ne c, upd_ne c, upd_ne c]
    rw [e]
    exact q ns' _ h1 h2 hn0
  · obtain ⟨v, H4, J, _, qq⟩ := hu
    exact wpAny_pure ⟨_, rfl, .ref h'.objs.size, H4, inv_out I.ok J, rfl, qq⟩
section
variable {σ : L2.St} {D H : Hp} {L : Own} {K : PySem.W.Frag} {Q : VK} {nx : L2.St → Hp → Prop} {rt : VK} {bk ct : L2.St → Hp → Prop}
/-- my dict is frozen from now on -/
theorem Sx.frzK {a : Addr} {u : HO} {L1 L' : Own} {n : Nat} (od : Obj) [S : Sx D L1 H] [h : Fi L1 a u n] [e : Er L1 n L'] : Sm D (upd D a (.frz od u)) ∧ Kf (upd D a (.frz od u)) a u ∧ Sx (upd D a (.frz od u)) L' (upd H a (.frz od u)) := by
  have hDa : D a = none := S.off h.pf
  have hF := Sx.front (S := S) (h := h) (e := e)
  have hnd : a ∉ L'.map (·.1) := by have := hF.nd; rw [List.map_cons] at this; exact (List.nodup_cons.mp this).1
  refine ⟨⟨same_upd hDa⟩, ⟨⟨od, upd_same⟩⟩, ⟨fun b o hb => ?_, fun q hq => ?_, ?_⟩⟩
  · by_cases c : b = a
    · rw [c, upd_same] at hb ⊢
      exact hb
    · rw [upd_ne c] at hb ⊢
      exact S.dH b o hb
  · obtain ⟨q1, q2⟩ := hF.ow q (List.mem_cons_of_mem _ hq)
    have c : q.1 ≠ a := fun z => hnd (z ▸ List.mem_map.mpr ⟨q, hq, rfl⟩)
    rw [upd_ne c, upd_ne c]
    exact ⟨q1, q2⟩
  · have := hF.nd
    rw [List.map_cons] at this
    exact (List.nodup_cons.mp this).2
def IsKy (x : V) (H : Hp) (R : It → Hp → Prop) : Prop := ∃ d o, x = .ref d ∧ ((∃ kvs, H d = some (.frz o (.dK kvs)) ∧ R (Itk d o kvs) H) ∨ ∃ kvs, H d = some (.frz o (.dT kvs)) ∧ R (Itkt d o kvs) H)
instance v_keys {td : TE} {R : It → Hp → Prop} : VC (iKeys td σ H R) (td σ H fun x H1 => IsKy x H1 R) := ⟨fun h => h⟩
instance v_ky {a : Addr} {kvs : List (Key × V)} {R : It → Hp → Prop} [S : Sx D L H] [h : Kf D a (.dK kvs)] : VC (IsKy (.ref a) H R) (∀ o, D a = some (.frz o (.dK kvs)) → R (Itk a o kvs) H) :=
  ⟨fun k => let ⟨o, e⟩ := h.pf; ⟨a, o, rfl, .inl ⟨kvs, S.dH _ _ e, k o e⟩⟩⟩
theorem rdF {a : Addr} {u : HO} (S : Sx D L H) (h : Kf D a u) : Rd H a u := let ⟨o, e⟩ := h.pf; .inr ⟨o, S.dH _ _ e⟩
instance v_dgF {a : Addr} {kvs : List (Key × V)} {i : Int} {q : Option V → Prop} [S : Sx D L H] [h : Kf D a (.dK kvs)] : VC (IsDG (.ref a) (.int i) H q) (q (valV kvs (Sum.inl i))) := ⟨fun k => ⟨a, _, rfl, .inl ⟨kvs, Sum.inl i, rdF S h, rfl, rfl⟩, k⟩⟩
instance v_dg2F {a : Addr} {kvs : List (Key × V)} {ty tx : TE} [S : Sx D L H] [h : Kf D a (.dK kvs)] : VC (DG2 ty tx σ (.ref a) H Q) (ty σ H fun y H2 => tx σ H2 fun z H3 => DGo a y z H3 Q) := ⟨fun k => ⟨a, rfl, .inl ⟨kvs, rdF S h⟩, k⟩⟩
instance v_dgoF {a : Addr} {kvs : List (Key × V)} {i : Int} {z : V} [S : Sx D L H] [h : Kf D a (.dK kvs)] : VC (DGo a (.int i) z H Q) (Q ((valV kvs (Sum.inl i)).getD z) H) := ⟨fun k => ⟨_, .inl ⟨kvs, Sum.inl i, rdF S h, rfl, rfl⟩, k⟩⟩
/-- d[k], the key there -/
def DGe (x y : V) (H : Hp) (Q : VK) : Prop := ∃ a v, x = .ref a ∧ DGet H a y (some v) ∧ Q v H
instance v_dget {td ty : TE} : VC (tDGet td ty σ H Q) (td σ H fun x H1 => ty σ H1 fun y H2 => DGe x y H2 Q) := ⟨fun h => h⟩
class DvC (kvs : List (Key × V)) (i : Int) (v : outParam V) : Prop where
  pf : valV kvs (Sum.inl i) = some v
instance v_dge {a : Addr} {kvs : List (Key × V)} {n : Nat} {i : Int} {v : V} [S : Sx D L H] [h : Fi L a (.dK kvs) n] [c : DvC kvs i v] : VC (DGe (.ref a) (.int i) H Q) (Q v H) := ⟨fun k => ⟨a, v, rfl, .inl ⟨kvs, Sum.inl i, .inl (S.at h.pf), rfl, c.pf.symm⟩, k⟩⟩
instance v_dgeF {a : Addr} {kvs : List (Key × V)} {i : Int} {v : V} [S : Sx D L H] [h : Kf D a (.dK kvs)] [c : DvC kvs i v] : VC (DGe (.ref a) (.int i) H Q) (Q v H) := ⟨fun k => ⟨a, v, rfl, .inl ⟨kvs, Sum.inl i, rdF S h, rfl, c.pf.symm⟩, k⟩⟩
theorem c_sortDK {a : Addr} {kvs : List (Int × Int)} (S : Sx D L H) (hR : Rd H a (.dK (kvs.map entI))) (k : ∀ (ys : List Int), ys.Perm (kvs.map (·.1)) → ys.Pairwise (· ≤ ·) → ∀ p H', Sx D ((p, .lst (ys.map V.int)) :: L) H' → Q (.ref p) H') : rSortDK [.ref a] H Q :=
  ⟨a, kvs, rfl, hR, fun ys p h1 h2 hp => k ys h1 h2 p _ (S.new hp)⟩
end
end Fk

namespace Fk
open PySem PySem.Spec PyProof.Rows L2 SrtO
/-! ## sorted(xs), xs triples of numbers, any number of them -/
abbrev T3 := Int × Int × Int
def lexT (p q : T3) : Bool := if p.1 = q.1 then lexB p.2 q.2 else decide (p.1 < q.1)
theorem lexT_iff {p q : T3} : lexT p q = true ↔ p.1 < q.1 ∨ (p.1 = q.1 ∧ (p.2.1 < q.2.1 ∨ (p.2.1 = q.2.1 ∧ p.2.2 < q.2.2))) := by
  unfold lexT
  by_cases e : p.1 = q.1
  · rw [if_pos e, lexB_iff]
    omega
  · rw [if_neg e, decide_eq_true_eq]
    omega
theorem lexT_no {p q : T3} : lexT p q = false ↔ ¬ (p.1 < q.1 ∨ (p.1 = q.1 ∧ (p.2.1 < q.2.1 ∨ (p.2.1 = q.2.1 ∧ p.2.2 < q.2.2)))) := by
  rw [← lexT_iff]
  cases lexT p q <;> simp
theorem swo_lexT {α : Type} (k : α → T3) : Swo fun v u => lexT (k v) (k u) := by
  refine ⟨fun x y h => ?_, fun x y z h1 h2 => ?_⟩
  · have a := lexT_iff.mp h
    refine lexT_no.mpr ?_
    omega
  · have a := lexT_no.mp h1
    have b := lexT_no.mp h2
    refine lexT_no.mpr ?_
    omega
def IsTrip (h : Heap) (v : Value) (p : T3) : Prop := ∃ a o t u w n, v = .ref a ∧ h.get? a = some o ∧ o.cls = .type "tuple" ∧ o.data = .seq #[.int p.1 t, .int p.2.1 u, .int p.2.2 w] n
theorem IsTrip.keeps {h h' : Heap} {v : Value} {x : T3} (p : IsTrip h v x) (k : ∀ b o, h.get? b = some o → o.cls = .type "tuple" → h'.get? b = some o) : IsTrip h' v x := by
  obtain ⟨a, o, t, u, w, n, e, ho, hc, hd⟩ := p
  exact ⟨a, o, t, u, w, n, e, k _ _ ho hc, hc, hd⟩
section
variable {prog : Program} {w : World} {A : Around} {E : Value → Shared → Prop} {s : Shared}
theorem trip_firsts {h : Heap} {k : Value → T3} : ∀ {vs : List Value}, (∀ v ∈ vs, IsTrip h v (k v)) → ∃ fs : List Value, PySem.W.KatTups h vs fs ∧ fs.length = vs.length ∧ ∀ f ∈ fs, ∃ x t, f = Value.int x t
  | [], _ => ⟨[], PySem.W.KatTups.nil, rfl, fun _ hm => by simp at hm⟩
  | v :: vs, hp => by
    obtain ⟨fs, h1, h2, h3⟩ := trip_firsts (vs := vs) fun v' hm => hp v' (List.mem_cons_of_mem _ hm)
    obtain ⟨a, o, t, u, ww, n, e, ho, hc, hd⟩ := hp v (List.mem_cons_self ..)
    refine ⟨.int (k v).1 t :: fs, by rw [e]; rw [e] at hd; exact PySem.W.KatTups.cons ho hc hd rfl h1, by rw [List.length_cons, List.length_cons, h2], fun f hm => ?_⟩
    rcases List.mem_cons.mp hm with rfl | hm
    · exact ⟨_, t, rfl⟩
    · exact h3 f hm
theorem trip_cmp {vs : List Value} {k : Value → T3} (hp : ∀ v ∈ vs, IsTrip s.heap v (k v)) : Cmp prog w A s (tuples' true) (fun p => p.1 ∈ vs) (lt2 fun v u => lexT (k v) (k u)) := by
  intro p q hm hm'
  have h1 := hp _ hm
  have h2 := hp _ hm'
  show wpAny (model prog w) A (keyLt' (tuples' true) p.1 q.1) (fun r s' => s' = s ∧ r = lexT (k p.1) (k q.1)) (fun _ _ => False) s
  unfold lexT lexB
  generalize (k p.1) = kp at h1 ⊢
  generalize (k q.1) = kq at h2 ⊢
  obtain ⟨x, y, z⟩ := kp
  obtain ⟨x', y', z'⟩ := kq
  obtain ⟨a, o, t, u, c, n, e, ho, hc, hd⟩ := h1
  obtain ⟨a', o', t', u', c', n', e', ho', hc', hd'⟩ := h2
  rw [e, e']
  refine PySem.W.kat_lt ho hd ho' hd' ?_
  show PySem.W.KatLex prog w A true (decide (3 < 3)) _ [(.int x t, .int x' t'), (.int y u, .int y' u'), (.int z c, .int z' c')] 0 s
  show PySem.W.KatLex prog w A true (decide (3 < 3)) (fun r s' => s' = s ∧ r = (if x = x' then (if y = y' then decide (z < z') else decide (y < y')) else decide (x < x'))) _ 0 s
  refine PySem.W.kat_cons (SeqAt.EqAt.int_int x t x' t' prog w _ _ ?_)
  refine PySem.W.kat_go (fun e1 => ?_) (fun e1 => ?_)
  · have ex : x = x' := by simpa using e1
    refine PySem.W.kat_yes (PySem.W.kat_cons (SeqAt.EqAt.int_int y u y' u' prog w _ _ ?_))
    refine PySem.W.kat_go (fun e2 => ?_) (fun e2 => ?_)
    · have ey : y = y' := by simpa using e2
      refine PySem.W.kat_yes (PySem.W.kat_cons (SeqAt.EqAt.int_int z c z' c' prog w _ _ ?_))
      refine PySem.W.kat_go (fun e3 => ?_) (fun e3 => ?_)
      · have ez : z = z' := by simpa using e3
        have e4 : (if x = x' then (if y = y' then decide (z < z') else decide (y < y')) else decide (x < x')) = false := by
          rw [if_pos ex, if_pos ey, ez]
          exact decide_eq_false (Int.lt_irrefl _)
        exact PySem.W.kat_yes (PySem.W.kat_nil ⟨rfl, e4.symm⟩)
      · have e4 : (if x = x' then (if y = y' then decide (z < z') else decide (y < y')) else decide (x < x')) = decide (z < z') := by rw [if_pos ex, if_pos ey]
        refine PySem.W.kat_no (PySem.W.kat_one _ _ (PyProof.Rows.lt_int ?_))
        exact ⟨rfl, e4.symm⟩
    · have e4 : (if x = x' then (if y = y' then decide (z < z') else decide (y < y')) else decide (x < x')) = decide (y < y') := by rw [if_pos ex, if_neg (by simpa using e2)]
      refine PySem.W.kat_no (PySem.W.kat_one _ _ (PyProof.Rows.lt_int ?_))
      exact ⟨rfl, e4.symm⟩
  · have ex : ¬ x = x' := by simpa using e1
    have e3 : (if x = x' then (if y = y' then decide (z < z') else decide (y < y')) else decide (x < x')) = decide (x < x') := if_neg ex
    exact PySem.W.kat_no (oneLt_int ⟨rfl, e3.symm⟩)
theorem trip_sortableO {a : Addr} {vs : List Value} {k : Value → T3} (h0 : 0 < vs.length) (hp : ∀ v ∈ vs, IsTrip s.heap v (k v)) (ha : ∀ o, s.heap.get? a = some o → o.cls ≠ .type "tuple") : SortableO prog w A s a vs fun v u => lexT (k v) (k u) := by
  intro h' keep
  have hp' : ∀ v ∈ vs, IsTrip h' v (k v) := fun v hm => (hp v hm).keeps fun b o e c => keep b o (fun z => by subst z; exact ha o e c) e
  obtain ⟨fs, h1, h2, h3⟩ := trip_firsts hp'
  refine ⟨tuples' true, fun Q E hq => ?_, trip_cmp hp'⟩
  refine PySem.W.kat_kind (T := .type "int") h1 (by omega) (fun f hm => ?_) (by rfl) ?_
  · obtain ⟨x, t, rfl⟩ := h3 f hm
    exact PySem.W.Looks.now
  · have e : (Value.type "int" != Value.type "tuple") = true := by first | decide +kernel | rfl | decide
    rw [e]
    exact hq
theorem sorted_tripO {l : Addr} {vs : List Value} {k : Value → T3} {Q : Value → Shared → Prop} (hl : s.heap.IsList l vs.toArray) (hz : vs.length ≤ sizeLine) (hp : ∀ v ∈ vs, IsTrip s.heap v (k v))
    (h : ∀ (h' : Heap) (d : Addr) (out : List Value), Srtd (fun v u => lexT (k v) (k u)) out → Stb (fun v u => lexT (k v) (k u)) out vs → (∀ b o, s.heap.get? b = some o → h'.get? b = some o) → s.heap.objs.size ≤ d → (∃ n, h'.get? d = some (seqObj "list" out.toArray n)) → Q (.ref d) { s with heap := h' }) :
    wpAny (model prog w) A (call (.builtin "sorted") [.ref l]) Q E s := by
  refine sorted_ord (swo_lexT k) hl hz (fun h2 h₁ a ha kk => ?_) fun out hs hb => ?_
  · refine trip_sortableO (s := { s with heap := h₁ }) (by omega) (fun v hm => (hp v hm).keeps fun b o e _ => (kk b o e).2) fun o e => ?_
    have e' : some o = some (seqObj "list" vs.toArray 0) := e.symm.trans ha
    cases e'
    intro c
    exact absurd (Value.type.inj c) (by decide)
  · exact h _ _ out hs hb (fun b o e => sortedAll_old e) (Nat.le_succ _) (sortedAll_at s.heap vs out.toArray)
end
abbrev ltT (k : V → T3) (x y : V) : Bool := lexT (k x) (k y)
/-- sorted(xs), xs a list of triples of numbers (k says which) -/
def rSortedT3 (K : PySem.W.Frag) : List V → Hp → VK → Prop := fun vs H Q => ∃ (a : Addr) (xs : List V) (k : V → T3), vs = [V.ref a] ∧ SqL K H a xs ∧ (∀ x ∈ xs, ∃ t, x = V.ref t ∧ H t = some (.tup [.int (k x).1, .int (k x).2.1, .int (k x).2.2])) ∧
  ∀ ys p, Srtd (ltT k) ys → Stb (ltT k) ys xs → H p = none → Q (.ref p) (upd H p (.lst ys))
theorem cr_sortedT3 {X : Cx} : CallR X (.builtin "sorted") (rSortedT3 X.K) := by
  intro pins s σ H vs us Q I r h
  obtain ⟨a, xs, k, rfl, hs, hx, q⟩ := h
  obtain ⟨its, rv, hl, hz⟩ := I.list hs
  obtain ⟨u, rfl, ru⟩ := vals1 r
  obtain rfl : u = Value.ref a := ru
  obtain ⟨e1, e2⟩ := refs_back rv fun x m => by
    obtain ⟨t, e, _⟩ := hx x m
    exact ⟨t, e⟩
  refine sorted_tripO (k := fun u => k (backV u)) hl.isList (by rw [← rv.length]; exact hz) (fun v hv => ?_) fun h' d out h1 h2 kp hd hn => ?_
  · obtain ⟨t, rfl⟩ := e2 v hv
    have hm : V.ref t ∈ xs := by rw [e1]; exact List.mem_map.mpr ⟨_, hv, rfl⟩
    obtain ⟨t', e, ht⟩ := hx _ hm
    cases e
    obtain ⟨_, its2, r2, o, ho, hc, n, hd⟩ := I.hok _ _ ht
    cases r2 with
    | cons r1 r2 =>
      obtain ⟨u2, u3, rfl, ri, rj⟩ := vals2 r2
      obtain ⟨t1, rfl⟩ := r1
      obtain ⟨t2, rfl⟩ := ri
      obtain ⟨t3, rfl⟩ := rj
      exact ⟨t, o, t1, t2, t3, n, rfl, ho, hc, hd⟩
  · have h3 : ∀ u ∈ out, ∃ a, u = Value.ref a := fun u hu => e2 u (h2.perm.mem_iff.mp hu)
    obtain ⟨n, hn⟩ := hn
    have hb : Stb (ltT k) (out.map backV) xs := by
      rw [e1]
      exact Stb.map (swo_lexT k) backV h2
    refine ⟨.ref d, upd H d (.lst (out.map backV)), I.laid (t' := s.toks) kp hd ⟨?_, out, n, L2.vals_back h3, hn⟩, rfl, q _ d (srtd_map h1) hb (I.hok.fresh hd)⟩
    rw [hb.len]
    exact hz
def leT (a b : T3) : Prop := a.1 < b.1 ∨ (a.1 = b.1 ∧ (a.2.1 < b.2.1 ∨ (a.2.1 = b.2.1 ∧ a.2.2 ≤ b.2.2)))
def keyT (D : Hp) : V → T3
  | .ref t => match D t with
    | some (.tup [.int i, .int j, .int l]) => (i, j, l)
    | _ => (0, 0, 0)
  | _ => (0, 0, 0)
theorem keyT_at {D : Hp} {b : Addr} {i j l : Int} (e : D b = some (.tup [.int i, .int j, .int l])) : keyT D (.ref b) = (i, j, l) := by
  show (match D b with
    | some (.tup [.int i, .int j, .int l]) => (i, j, l)
    | _ => (0, 0, 0)) = (i, j, l)
  rw [e]
/-- triples that stand there -/
def T3A (D : Hp) (us : List V) (xs : List T3) : Prop := us.length = xs.length ∧ ∀ (i : Nat) (v : V), us[i]? = some v → ∃ b x, v = .ref b ∧ xs[i]? = some x ∧ Kn D b (.tup [.int x.1, .int x.2.1, .int x.2.2])
theorem T3A.nil {D : Hp} : T3A D [] [] := ⟨rfl, fun i v h => by simp at h⟩
theorem T3A.up {D D' : Hp} {us : List V} {xs : List T3} (h : T3A D us xs) (s : Sm D D') : T3A D' us xs := ⟨h.1, fun i v hv => by
  obtain ⟨b, x, e, hx, k⟩ := h.2 i v hv
  exact ⟨b, x, e, hx, inferInstance⟩⟩
theorem T3A.snoc {D : Hp} {us : List V} {xs : List T3} (h : T3A D us xs) {b : Addr} {x : T3} (k : Kn D b (.tup [.int x.1, .int x.2.1, .int x.2.2])) : T3A D (us ++ [.ref b]) (xs ++ [x]) := ⟨by rw [List.length_append, List.length_append, h.1]; rfl, fun i v hv => by
  by_cases c : i < us.length
  · rw [List.getElem?_append_left c] at hv
    obtain ⟨b, x, e, hx, k⟩ := h.2 i v hv
    exact ⟨b, x, e, by rw [List.getElem?_append_left (by rw [← h.1]; exact c)]; exact hx, k⟩
  · rw [List.getElem?_append_right (by omega)] at hv
    have hi : i - us.length = 0 := by
      have := (List.getElem?_eq_some_iff.mp hv).1
      rw [List.length_singleton] at this
      omega
    rw [hi] at hv
    exact ⟨b, x, (Option.some.inj hv).symm, by rw [List.getElem?_append_right (by rw [← h.1]; omega), ← h.1, hi]; rfl, k⟩⟩
theorem T3A.app {D : Hp} {us ws : List V} {xs ys : List T3} (h : T3A D us xs) (k : T3A D ws ys) : T3A D (us ++ ws) (xs ++ ys) := ⟨by rw [List.length_append, List.length_append, h.1, k.1], fun i v hv => by
  by_cases c : i < us.length
  · rw [List.getElem?_append_left c] at hv
    obtain ⟨b, x, e, hx, kk⟩ := h.2 i v hv
    exact ⟨b, x, e, by rw [List.getElem?_append_left (by rw [← h.1]; exact c)]; exact hx, kk⟩
  · rw [List.getElem?_append_right (by omega)] at hv
    obtain ⟨b, x, e, hx, kk⟩ := k.2 _ v hv
    exact ⟨b, x, e, by rw [List.getElem?_append_right (by rw [← h.1]; omega), ← h.1]; exact hx, kk⟩⟩
theorem T3A.map {D : Hp} {us : List V} {xs : List T3} (h : T3A D us xs) : us.map (keyT D) = xs := by
  refine List.ext_getElem? fun i => ?_
  rw [List.getElem?_map]
  cases e : us[i]? with
  | none =>
    have := List.getElem?_eq_none_iff.mp e
    rw [List.getElem?_eq_none (by rw [← h.1]; exact this)]
    rfl
  | some v =>
    obtain ⟨b, x, rfl, hx, k⟩ := h.2 i v e
    rw [hx]
    show some (keyT D (.ref b)) = _
    rw [keyT_at k.pf]
section
variable {σ : L2.St} {D H : Hp} {L : Own} {K : PySem.W.Frag} {Q : VK}
theorem T3A.mem {us : List V} {xs : List T3} (h : T3A D us xs) {v : V} (hv : v ∈ us) : ∃ b, v = .ref b ∧ Kn D b (.tup [.int (keyT D v).1, .int (keyT D v).2.1, .int (keyT D v).2.2]) := by
  obtain ⟨i, hi⟩ := List.getElem?_of_mem hv
  obtain ⟨b, x, rfl, hx, k⟩ := h.2 i v hi
  exact ⟨b, rfl, by rw [keyT_at k.pf]; exact k⟩
theorem c_sortT3 {a : Addr} {us : List V} {xs : List T3} (S : Sx D L H) (ha : Rds K D L a us) (hr : T3A D us xs) (k : ∀ (ys : List V) (P : List T3) p H', P.Perm xs → P.Pairwise leT → T3A D ys P → Sx D ((p, .lst ys) :: L) H' → Q (.ref p) H') : rSortedT3 K [.ref a] H Q := by
  refine ⟨a, us, keyT D, rfl, ha.sq S, fun v hv => ?_, fun ys p h1 h2 hn => k ys (ys.map (keyT D)) p _ ?_ ?_ ⟨by rw [List.length_map], fun i v hv => ?_⟩ (S.new hn)⟩
  · obtain ⟨b, rfl, kb⟩ := hr.mem hv
    exact ⟨b, rfl, S.dH _ _ kb.pf⟩
  · have := h2.perm.map (keyT D)
    rw [hr.map] at this
    exact this
  · refine List.Pairwise.map _ (fun x y h => ?_) h1
    have := lexT_no.mp h
    show (keyT D x).1 < (keyT D y).1 ∨ ((keyT D x).1 = (keyT D y).1 ∧ ((keyT D x).2.1 < (keyT D y).2.1 ∨ ((keyT D x).2.1 = (keyT D y).2.1 ∧ (keyT D x).2.2 ≤ (keyT D y).2.2)))
    omega
  · obtain ⟨b, e, kb⟩ := hr.mem (h2.perm.mem_iff.mp (List.mem_of_getElem? hv))
    exact ⟨b, keyT D v, e, by rw [List.getElem?_map, hv]; rfl, kb⟩
end
end Fk

namespace Fk
open PySem PySem.Spec PyProof.Rows L2
/-! ## all(t), t a tuple of truths -/
section
variable {X : Cx}
def rAllT (K : PySem.W.Frag) : List V → Hp → VK → Prop := fun vs H Q => ∃ (a : Addr) (bs : List Bool), vs = [V.ref a] ∧ SqT K H a (bs.map V.bl) ∧ Q (.bl (bs.all id)) H
theorem cr_allT (hc : X.calm = true) : CallR X (.builtin "all") (rAllT X.K) := by
  intro pins s σ H vs us Q I r h
  obtain ⟨a, bs, rfl, hs, q⟩ := h
  obtain ⟨its, rv, hl, _⟩ := I.tuple hs
  rw [Vals.ref1 r]
  obtain ⟨as, hr⟩ := Dp.readsAll I (bs.map PyData.bool) _ its (dpa_bls bs) rv
  refine PySem.W.all_tuple_data (I.ok.hd hc) (vs := its.toArray) hl (show ReadsAll s.heap its.toArray.toList _ as from hr) (plain_bls bs) (fun x hx => ?_) fun h' tk hk => ?_
  · obtain ⟨b, _, rfl⟩ := List.mem_map.mp hx
    simp [PyData.fits63]
  · have e : (bs.map PyData.bool).all PyData.truthy = bs.all id := by
      rw [List.all_map]
      rfl
    rw [e]
    exact ⟨.bl (bs.all id), H, I.kept (t' := tk) hk, rfl, q⟩
def rAllX (K : PySem.W.Frag) : List V → Hp → VK → Prop := fun xs H Q => rAll K xs H Q ∨ rAllT K xs H Q
theorem cr_allX (hc : X.calm = true) : CallR X (.builtin "all") (rAllX X.K) := CallR.or (cr_all hc) (cr_allT hc)
end
section
variable {σ : L2.St} {D H : Hp} {L : Own} {K : PySem.W.Frag} {Q : VK}
instance (priority := 2000) v_allXT {a : Addr} {bs : List Bool} {xs : List V} [S : Sx D L H] [ha : Kn D a (.tup xs)] [c : BsC xs bs] : VC (rAllX K [.ref a] H Q) (Q (.bl (bs.all id)) H) := ⟨fun h => .inr ⟨a, bs, rfl, by rw [← c.pf]; exact sqT S ha.pf, h⟩⟩
instance (priority := 2100) v_allXR {a : Addr} {n : Nat} [S : Sx D L H] [ha : Kn D a (.tup (List.replicate n (V.bl true)))] : VC (rAllX K [.ref a] H Q) (Q (.bl true) H) := ⟨fun h => .inr ⟨a, List.replicate n true, rfl, by rw [List.map_replicate]; exact sqT S ha.pf, by
  have e : (List.replicate n true).all id = true := List.all_eq_true.mpr fun x hx => (List.eq_of_mem_replicate hx)
  rw [e]; exact h⟩⟩
instance (priority := 100) v_allXx {xs : List V} : VC (rAllX K xs H Q) (rAll K xs H Q) := ⟨fun h => .inl h⟩
end
end Fk

namespace Fk
open PySem PySem.Spec PyProof.Rows L2
/-! ## many things frozen at once -/
def tFz : Nat → TS → TS
  | 0, t => t
  | n + 1, t => fun E σ H => ∃ d u, H d = some u ∧ Mut (some u) ∧ ∀ od, tFz n t E σ (upd H d (.frz od u))
def tFzS (t : TS) : TS := fun E σ H => ∃ n, tFz n t E σ H
theorem ps_frzS {X : Cx} {st : Stmt} {t : TS} (h : PS X st t) : PS X st (tFzS t) := by
  refine ⟨fun pins s σ H E I hw => ?_⟩
  obtain ⟨n, hw⟩ := hw
  have key : ∀ n H, Inv X pins σ H s → tFz n t E σ H → _ := fun n => by
    induction n with
    | zero => exact fun H I hw => h.run pins s σ H E I hw
    | succ n ih =>
      intro H I hw
      obtain ⟨d, u, hd, mu, hw⟩ := hw
      obtain ⟨od, I1⟩ := I.lock hd mu
      exact ih _ I1 (hw od)
  exact key n H I hw
theorem frzS_go {t : TS} {E : Ends} {σ : L2.St} {L : Own} : ∀ (ds : List (Addr × HO)) {D H : Hp}, (∀ x, x ∈ ds → Mut (some x.2)) → Sx D (ds ++ L) H →
    (∀ D' H', Sx D' L H' → Sm D D' → (∀ x, x ∈ ds → Kf D' x.1 x.2) → t E σ H') → tFzS t E σ H
  | [], D, H, _, S, k => ⟨0, k D H S Sm.rfl' fun _ h => nomatch h⟩
  | x :: ds, D, H, hm, S, k => by
    obtain ⟨a, u⟩ := x
    have S1 : Sx D ((a, u) :: (ds ++ L)) H := S
    have hH : H a = some u := (S1.ow (a, u) List.mem_cons_self).1
    have hD : D a = none := (S1.ow (a, u) List.mem_cons_self).2
    have hnd : a ∉ (ds ++ L).map (·.1) := by have := S1.nd; rw [List.map_cons] at this; exact (List.nodup_cons.mp this).1
    have S2 : ∀ od, Sx (upd D a (.frz od u)) (ds ++ L) (upd H a (.frz od u)) := fun od => by
      refine ⟨fun b o hb => ?_, fun q hq => ?_, ?_⟩
      · by_cases c : b = a
        · rw [c, upd_same] at hb ⊢
          exact hb
        · rw [upd_ne c] at hb ⊢
          exact S1.dH b o hb
      · obtain ⟨q1, q2⟩ := S1.ow q (List.mem_cons_of_mem _ hq)
        have c : q.1 ≠ a := fun z => hnd (z ▸ List.mem_map.mpr ⟨q, hq, rfl⟩)
        rw [upd_ne c, upd_ne c]
        exact ⟨q1, q2⟩
      · have := S1.nd
        rw [List.map_cons] at this
        exact (List.nodup_cons.mp this).2
    have key : ∀ od, tFzS t E σ (upd H a (.frz od u)) := fun od => frzS_go ds (fun y hy => hm y (List.mem_cons_of_mem _ hy)) (S2 od) fun D' H' S' e' hk => k D' H' S' ⟨fun b o hb => by
      have c : b ≠ a := fun z => by rw [z, hD] at hb; exact nomatch hb
      exact e'.e b o (by rw [upd_ne c]; exact hb)⟩ fun y hy => by
        rcases List.mem_cons.mp hy with rfl | hy
        · exact ⟨od, e'.e _ _ upd_same⟩
        · exact hk y hy
    -- the same number of steps whatever the object
    have len : ∀ (ds : List (Addr × HO)) {D H : Hp}, (∀ x, x ∈ ds → Mut (some x.2)) → Sx D (ds ++ L) H → (∀ D' H', Sx D' L H' → Sm D D' → (∀ x, x ∈ ds → Kf D' x.1 x.2) → t E σ H') → tFz ds.length t E σ H := by
      intro ds
      induction ds with
      | nil => exact fun _ S k => k _ _ S Sm.rfl' fun _ h => nomatch h
      | cons x ds ih =>
        intro D H hm S k
        obtain ⟨a, u⟩ := x
        have S1 : Sx D ((a, u) :: (ds ++ L)) H := S
        have hH : H a = some u := (S1.ow (a, u) List.mem_cons_self).1
        have hD : D a = none := (S1.ow (a, u) List.mem_cons_self).2
        have hnd : a ∉ (ds ++ L).map (·.1) := by have := S1.nd; rw [List.map_cons] at this; exact (List.nodup_cons.mp this).1
        refine ⟨a, u, hH, hm (a, u) List.mem_cons_self, fun od => ih (fun y hy => hm y (List.mem_cons_of_mem _ hy)) (D := upd D a (.frz od u)) ⟨fun b o hb => ?_, fun q hq => ?_, ?_⟩ fun D' H' S' e' hk => k D' H' S' ⟨fun b o hb => ?_⟩ fun y hy => ?_⟩
        · by_cases c : b = a
          · rw [c, upd_same] at hb ⊢
            exact hb
          · rw [upd_ne c] at hb ⊢
            exact S1.dH b o hb
        · obtain ⟨q1, q2⟩ := S1.ow q (List.mem_cons_of_mem _ hq)
          have c : q.1 ≠ a := fun z => hnd (z ▸ List.mem_map.mpr ⟨q, hq, rfl⟩)
          rw [upd_ne c, upd_ne c]
          exact ⟨q1, q2⟩
        · have := S1.nd
          rw [List.map_cons] at this
          exact (List.nodup_cons.mp this).2
        · have c : b ≠ a := fun z => by rw [z, hD] at hb; exact nomatch hb
          exact e'.e b o (by rw [upd_ne c]; exact hb)
        · rcases List.mem_cons.mp hy with rfl | hy
          · exact ⟨od, e'.e _ _ upd_same⟩
          · exact hk y hy
    exact ⟨_, len ((a, u) :: ds) hm S k⟩
end Fk

namespace Fk
open PySem PySem.Spec PyProof.Rows L2 PySem.Calls PyProof.V
/-! ## sum(d.values()), keys and values numbers -/
def valsO (p d : Addr) : HO := .ext fun h => h.IsValuesView p d
theorem valsO_ok {P : Program} {w : World} {H : Hp} {h : Heap} {p d : Addr} (e : h.get? p = some { cls := .type "dict_values", data := .fields #[.ref d] }) : ObjOk P w H h p (valsO p d) :=
  ⟨⟨_, e, rfl, rfl⟩, ⟨_, e⟩, fun h1 h2 x k => let ⟨o, ho, r⟩ := x; ⟨o, k o ho, r⟩⟩
def rValsK : V → List V → Hp → VK → Prop := fun x xs H Q => ∃ (a : Addr) (kvs : List (Key × V)), x = .ref a ∧ xs = [] ∧ Rd H a (.dK kvs) ∧ ∀ p, H p = none → Q (.ref p) (upd H p (valsO p a))
theorem mt_valsK {X : Cx} : MtR X "dict.values" rValsK := by
  intro pins s σ H x xs v us Q I rx rxs h
  obtain ⟨a, kvs, rfl, rfl, ha, q⟩ := h
  cases rx
  cases rxs
  obtain ⟨z, lo, vs, rel, dd⟩ := dk_rd I.hok ha
  have hf : H s.heap.objs.size = none := I.hok.fresh (Nat.le_refl _)
  refine call_meetsIn PySem.F.slot_dict_values dd.typeIs PySem.F.entry_dict_values (PySem.F.args_dict_values_1 _) (PySem.meets_dict_values_raw a lo) ⟨let ⟨es, ep, h, _⟩ := dd.raw; ⟨es, ep, h⟩, ?_⟩
  exact ⟨.ref s.heap.objs.size, _, I.laid (t' := s.toks) (fun b u e => Heap.get?_push_of_some _ e) (Nat.le_refl _) (valsO_ok (Heap.get?_push_size _ rfl)), rfl, q _ hf⟩
def tyKF : V → Hp → Prop := fun x H => ∃ (a : Addr) (kvs : List (Key × V)), x = .ref a ∧ Rd H a (.dK kvs)
theorem ty_dKF {X : Cx} : TyOk X "dict" tyKF := by
  intro pins σ H s x v I r ty
  obtain ⟨a, kvs, rfl, e⟩ := ty
  cases r
  obtain ⟨h1, h2, _⟩ := isD_at I (.inl ⟨kvs, e⟩)
  exact ⟨h1, h2⟩
theorem pre_sum (f : Nat → Int) : ∀ (kvs : List (Int × Int)) (k : Nat), (∀ i e, kvs[i]? = some e → f (k + i) = e.2) → preSum (fun i => f (k + i)) kvs.length = (kvs.map (·.2)).sum
  | [], _, _ => rfl
  | e :: kvs, k, h => by
    have ih := pre_sum f kvs (k + 1) fun i x hx => by rw [show k + 1 + i = k + (i + 1) by omega]; exact h (i + 1) x (by simpa using hx)
    rw [List.length_cons, PySem.W.kdu_shift, List.map_cons, List.sum_cons, ← ih, h 0 e rfl]
    congr 1
    congr 1
    funext i
    congr 1
    omega
def rSumV : List V → Hp → VK → Prop := fun vs H Q => ∃ (p a : Addr) (kvs : List (Int × Int)), vs = [.ref p] ∧ H p = some (valsO p a) ∧ Rd H a (.dK (kvs.map entI)) ∧ Q (.int (kvs.map (·.2)).sum) H
theorem cr_sumV {X : Cx} (hc : X.calm = true) : CallR X (.builtin "sum") rSumV := by
  intro pins s σ H xs us Q I r h
  obtain ⟨p, a, kvs, rfl, hp, ha, q⟩ := h
  obtain rfl := Vals.ref1 r
  have view : s.heap.IsValuesView p a := (show ObjOk X.prog X.w H s.heap p (valsO p a) from I.hok p _ hp).1
  obtain ⟨z, lo, vs, rel, dd⟩ := dk_rd I.hok ha
  obtain ⟨ep, hat⟩ := dd.dictAt
  have hlen : kvs.length = vs.length := by have := Paired.length rel; rw [List.length_map] at this; exact this
  have Ks := PySem.W.kdl_values (prog := X.prog) (w := X.w) (knd := mixKind X.prog X.w) (r := p) (d := a) (kvs := vs) (ep := ep)
  obtain ⟨f, hf⟩ : ∃ f : Nat → Int, f = fun i => (kvs.getD i (0, 0)).2 := ⟨_, rfl⟩
  refine call_sum_walkAnyS ?_
  obtain ⟨oI, St, hit, W, st⟩ := Ks.iter X.A.in1 s (I.ok.hd hc) ⟨view, hat⟩
  refine hit _ _ ⟨s.heap.objs.size, _, _, _, vs.length, _, _, f, rfl, W.toS, st, fun b hb => ?_, fun i v hv => ?_, fun s' t' hm => ?_⟩
  · show b < (s.heap.push oI).objs.size
    rw [size_push']
    rcases List.mem_cons.mp hb with e | hb
    · rw [e]; exact Nat.lt_succ_self _
    · rw [List.mem_singleton.mp hb]; exact Nat.lt_succ_of_lt (Ks.there _ ⟨view, hat⟩).2
  · obtain ⟨k, hk⟩ := hv
    obtain ⟨e0, he0, r1, r2⟩ := DX.pget rel hk
    rw [List.getElem?_map] at he0
    cases g : kvs[i]? with
    | none => rw [g] at he0; exact nomatch he0
    | some e =>
      rw [g] at he0
      have ee : entI e = e0 := Option.some.inj he0
      rw [← ee] at r2
      obtain ⟨t, ht⟩ := (show ∃ t, v = Value.int e.2 t from r2)
      exact ⟨t, by rw [hf]; show v = Value.int (kvs.getD i (0, 0)).2 t; rw [List.getD_eq_getElem?_getD, g]; exact ht⟩
  · have hk : ∀ b o, s.heap.get? b = some o → s'.heap.get? b = some o := fun b o e =>
      hm.heap b o (fun hI => absurd (Heap.lt_size e) (by rw [List.mem_singleton.mp hI]; exact Nat.lt_irrefl _)) (Heap.get?_push_of_some _ e)
    rw [Moved.eq_with hm]
    have es : preSum f vs.length = (kvs.map (·.2)).sum := by
      rw [← hlen]
      have := pre_sum f kvs 0 fun i e he => by rw [hf, Nat.zero_add]; show (kvs.getD i (0, 0)).2 = e.2; rw [List.getD_eq_getElem?_getD, he]; rfl
      simp only [Nat.zero_add] at this
      exact this
    exact ⟨.int (kvs.map (·.2)).sum, H, I.kept (t' := s'.toks) hk, ⟨t', by rw [es]⟩, q⟩
section
variable {σ : L2.St} {D H : Hp} {L : Own} {K : PySem.W.Frag} {Q : VK}
instance v_valsF {a : Addr} {kvs : List (Key × V)} [S : Sx D L H] [h : Kf D a (.dK kvs)] : VC (rValsK (.ref a) [] H Q) (∀ p D' H', Sx D' L H' → Sm D D' → Kn D' p (valsO p a) → Q (.ref p) H') :=
  ⟨fun k => ⟨a, kvs, rfl, rfl, rdF S h, fun p hp => k p _ _ (S.fix hp) ⟨same_upd (S.dH.free hp)⟩ ⟨upd_same⟩⟩⟩
instance v_mG0 {to : TE} {ty : V → Hp → Prop} {r : V → List V → Hp → VK → Prop} : VC (tMG0 ty r to σ H Q) (to σ H fun x H1 => ty x H1 ∧ r x [] H1 Q) := ⟨fun h => h⟩
instance v_tyKF {a : Addr} {kvs : List (Key × V)} {p : Prop} [S : Sx D L H] [h : Kf D a (.dK kvs)] : VC (tyKF (.ref a) H ∧ p) p := ⟨fun k => ⟨⟨a, kvs, rfl, rdF S h⟩, k⟩⟩
instance v_sumV {p a : Addr} {kvs : List (Int × Int)} [S : Sx D L H] [hp : Kn D p (valsO p a)] [h : Kf D a (.dK (kvs.map entI))] : VC (rSumV [.ref p] H Q) (Q (.int (kvs.map (·.2)).sum) H) := ⟨fun k => ⟨p, a, kvs, rfl, S.dH _ _ hp.pf, rdF S h, k⟩⟩
theorem c_sumV {p a : Addr} {kvs : List (Int × Int)} (S : Sx D L H) (hp : Kn D p (valsO p a)) (h : Kf D a (.dK (kvs.map entI))) (k : Q (.int (kvs.map (·.2)).sum) H) : rSumV [.ref p] H Q := ⟨p, a, kvs, rfl, S.dH _ _ hp.pf, rdF S h, k⟩
end
end Fk

namespace Fk
open PySem PySem.Spec PyProof.Rows L2 ClX
/-! ## B.__init__(self, ..), B an exception class of the program's own that has no __init__ -/
theorem pe_ceinit {X : Cx} {o e : Expr} {es : List Expr} {ta : TA} {B : Addr} {mc : Value} {pos p2 : Pos} {pl : Sem Bool} (ho : PE X o (tC (.ref B))) (r : CRead X.K B mc)
    (vV : PySem.W.findCls X.K (.ref B) mc "__init__" = some (.val (.builtin "ValueError.__init__"))) (ha : PA X (e :: es) ta)
    (hc : eval (.Call (.Attribute o "__init__" p2) (e :: es) [] pos) X.env = (do
      let ov ← eval o X.env
      standAt p2.atName
      let (f, first) ← holding [ov] (getMethod ov "__init__" pl)
      callWith pos f first (backTo pos (starEach (e :: es) X.env)) (backToKw pos (keywordEach [] X.env))) := by rfl)
    (he : starEach (e :: es) X.env = (false, eval e X.env) :: starEach es X.env := by rfl) (hpl : (backTo pos (starEach es X.env)).any (·.1) = false := by rfl) :
    PE X (.Call (.Attribute o "__init__" p2) (e :: es) [] pos) (tVeI X.K ta) := by
  refine ⟨fun pins s σ H Q I h => ?_⟩
  have h0 : tC (.ref B) σ H (fun x H1 => x = .ref B ∧ tVeI X.K ta σ H1 Q) := ⟨rfl, h⟩
  refine PySem.W.methodCall_KW (pl := pl) (thn (ho.run pins s σ H _ I h0) fun u s1 ⟨x, H1, I1, rx, ex, q⟩ => ?_) hc
  subst ex
  obtain rfl : u = Value.ref B := rx
  refine PySem.W.method_cls I1.kIn r.ga (PySem.W.cls_value I1.kIn r.rd vV rfl ?_)
  show wpAny _ _ (callWith pos (Value.builtin "ValueError.__init__") [] (backTo pos (starEach (e :: es) X.env)) []) _ _ _
  refine PyProof.Rows.callWith_method1 (thn (ha.run pos pins _ σ H1 _ (I1.tok _) q) fun us s1 ⟨vs, H2, I2, r1, a, C, ws, ev, hl, T, ea, q⟩ => ?_) he hpl
  subst ev
  cases r1 with
  | @cons _ u0 _ ur ra rw' =>
    obtain rfl : u0 = Value.ref a := ra
    have hlen : ur.length ≤ sizeLine := by
      rw [← Paired.length rw', sizeLine_eq]
      omega
    exact oinit_ok T I2 ea hlen fun s' J => ⟨.non, H2, J, rfl, q⟩
end Fk

namespace Fk
open PySem PySem.Spec PyProof.Rows L2
/-! ## dict(xs), xs a list of pairs (tuple, value) -/
def mergeT (kvs more : List (List Key × V)) : List (List Key × V) := more.foldl (fun acc kv => putK acc kv.1 kv.2) kvs
def rDictPT (K : PySem.W.Frag) : List V → Hp → VK → Prop := fun xs H Q => ∃ (a : Addr) (ps : List Addr) (kvs : List (List Key × V)), xs = [.ref a] ∧ SqL K H a (ps.map V.ref) ∧
  Paired (fun p kv => ∃ b, SqT K H p [.ref b, kv.2] ∧ H b = some (.tup (kv.1.map kV))) ps kvs ∧ ∀ p, H p = none → Q (.ref p) (upd H p (.dT (mergeT [] kvs)))
theorem kt_mergeT {H : Hp} {more : List (List Key × V)} {rs : List (List Key × Addr × Value)} (r : KT H more rs) : ∀ {kvs : List (List Key × V)} {xs : List (List Key × Addr × Value)}, KT H kvs xs → KT H (mergeT kvs more) (storedAllH xs rs) := by
  induction r with
  | nil => exact fun h => h
  | @cons p q ps qs hq t ih =>
    intro kvs xs h
    obtain ⟨e1, e2, e3⟩ := hq
    show KT H (mergeT (putK kvs p.1 p.2) ps) (storedAllH (storedH xs q.1 q.2.1 q.2.2) qs)
    refine ih ?_
    rw [← e1]
    exact KT.put h p.1 e2 e3
theorem mergeT_len (more : List (List Key × V)) : ∀ kvs, (mergeT kvs more).length ≤ kvs.length + more.length := by
  induction more with
  | nil => exact fun kvs => Nat.le_refl _
  | cons p ps ih =>
    intro kvs
    have h1 := ih (putK kvs p.1 p.2)
    have h2 : (putK kvs p.1 p.2).length ≤ kvs.length + 1 := by
      unfold putK
      split
      · rw [List.length_map]; omega
      · rw [List.length_append]; exact Nat.le_refl _
    show (mergeT (putK kvs p.1 p.2) ps).length ≤ _
    rw [List.length_cons]
    omega
theorem pairsT_of {X : Cx} {pins : List (Addr × Obj)} {σ : L2.St} {H : Hp} {s : Shared} (I : L2.Inv X pins σ H s) : ∀ {ps : List Addr} {kvs : List (List Key × V)}, Paired (fun p kv => ∃ b, SqT X.K H p [.ref b, kv.2] ∧ H b = some (.tup (kv.1.map kV))) ps kvs →
    ∃ prs : List (List Key × Addr × Value), KT H kvs prs ∧ prs.length = ps.length ∧ ∀ (j : Nat) (q : List Key × Addr × Value), prs[j]? = some q → ∃ b : Addr, ps[j]? = some b ∧ IsTup s.heap b #[.ref q.2.1, q.2.2]
  | _, _, .nil => ⟨[], .nil, rfl, fun j q e => by simp at e⟩
  | _, _, .cons (a := p) (b := kv) h t => by
    obtain ⟨b, h, hb⟩ := h
    obtain ⟨prs, r, hl, hp⟩ := pairsT_of I t
    obtain ⟨its, rv, ht, _⟩ := I.tuple h
    obtain ⟨u, y, ei, ru, ry⟩ := vals2 rv
    subst ei
    obtain rfl : u = .ref b := ru
    refine ⟨(kv.1, b, y) :: prs, .cons ⟨rfl, hb, ry⟩ r, by simp [hl], fun j q e => ?_⟩
    cases j with
    | zero =>
      cases e
      exact ⟨p, rfl, ht⟩
    | succ j => exact hp j q e
theorem call_dictPT {X : Cx} (hcalm : X.calm = true) (hu : X.A.units + 64 < cLine) : CallR X (.type "dict") (rDictPT X.K) := by
  intro pins s σ H xs us Q I r q
  obtain ⟨a, ps, kvs, ex, hq, hp, q⟩ := q
  subst ex
  obtain ⟨u, eu, rx⟩ := vals1 r
  subst eu
  cases rx
  obtain ⟨its, rv, pl, hz⟩ := I.list hq
  have ei := refs_at rv
  subst ei
  rw [List.length_map] at hz
  obtain ⟨prs, rel, hl, hpr⟩ := pairsT_of I hp
  have hks : ∀ {kv : List (List Key × V)} {l : List (List Key × Addr × Value)}, KT H kv l → ∀ x, x ∈ l → (tupleKind (mixKind X.prog X.w)).is s.heap x.1 x.2.1 := by
    intro kv l r
    induction r with
    | nil => intro x hx; exact nomatch hx
    | @cons p q ps qs hq t ih =>
      intro x hx
      rcases List.mem_cons.mp hx with e | hx
      · subst e
        exact key_of I.hok (by rw [← hq.1]; exact hq.2.1)
      · exact ih x hx
  have hm : (s.heap.objs.size == sysModules) = false := beq_eq_false_iff_ne.mpr (Nat.ne_of_gt I.big)
  have hlen : (mergeT [] kvs).length ≤ sizeLine := by
    refine Nat.le_trans (mergeT_len kvs []) ?_
    rw [List.length_nil, Nat.zero_add, rel.length, hl]
    exact hz
  have hkt : KT H (mergeT [] kvs) (storedAllH [] prs) := kt_mergeT rel .nil
  refine PySem.call_dict_pairsH (K := List Key) (knd := tupleKind (mixKind X.prog X.w)) (ps := prs) (PairArg.list a (ps.map Value.ref).toArray (fun j => ps.getD j 0) (prs.map fun q => (Value.ref q.2.1, q.2.2))) (I.ok.hd hcalm) ?_ ⟨pl, ?_, fun j k v e => ?_⟩ ⟨by simp, fun i key v e => ?_⟩ (fun h' hk x hx => ?_) ?_ fun h' tk hd' k => ?_
  · exact tupleKind_room_in1 (A := X.A.in1) (by first | (show X.A.units + 1 + 1 < cLine; omega) | (show X.A.units + 1 < cLine; omega))
  · simp [hl]
  · rw [List.getElem?_map] at e
    cases e1 : prs[j]? with
    | none => rw [e1] at e; exact nomatch e
    | some q0 =>
      rw [e1] at e
      cases e
      obtain ⟨b, h1, h2⟩ := hpr j q0 e1
      refine ⟨by simp [List.getD_eq_getElem?_getD, h1], ?_⟩
      show PairAt s.heap (ps.getD j 0) _ _
      rw [List.getD_eq_getElem?_getD, h1]
      exact .inl h2
  · have e : (prs.map fun q => (Value.ref q.2.1, q.2.2))[i]? = some (key, v) := e
    rw [List.getElem?_map] at e
    cases e1 : prs[i]? with
    | none => rw [e1] at e; exact nomatch e
    | some q0 =>
      rw [e1] at e
      cases e
      exact ⟨q0.1, q0.2.1, rfl, rfl⟩
  · exact tupleKind_stays.stays (fun b o _ _ eb _ => hk b o (Nat.ne_of_lt (Heap.lt_size eb)) (fun z => nomatch z) eb) (hks rel x hx)
  · rw [List.length_map, hl]
    exact hz
  · have kk : ∀ b o, s.heap.get? b = some o → h'.get? b = some o := fun b o e => k b o (fun z => nomatch z) e
    obtain ⟨o, es, ep, h1, h2, h3, h4, _, h5⟩ := hd'
    refine ⟨.ref s.heap.objs.size, upd H s.heap.objs.size (.dT (mergeT [] kvs)), I.laid (t' := tk) kk (Nat.le_refl _) (show ObjOk X.prog X.w _ _ _ (.dT (mergeT [] kvs)) from ⟨hlen, hm, storedAllH [] prs, ?_, o, es, ep, h1, h2, h3, h4, h5⟩), rfl, q _ (I.hok.fresh (Nat.le_refl _))⟩
    exact KT.keeps hkt fun b ys hb => (upd_ne (fun z => by rw [z, I.hok.fresh (Nat.le_refl _)] at hb; exact nomatch hb)).trans hb
section
variable {K : PySem.W.Frag} {D H : Hp} {L : Own} {Q : VK}
theorem c_dictPT {a : Addr} {ps : List Addr} {kvs : List (List Key × V)} (S : Sx D L H) (ha : Rds K D L a (ps.map V.ref)) (hp : Paired (fun p kv => ∃ b, Kn D p (.tup [.ref b, kv.2]) ∧ Kn D b (.tup (kv.1.map kV))) ps kvs)
    (k : ∀ p H', Sx D ((p, .dT (mergeT [] kvs)) :: L) H' → Q (.ref p) H') : rDictPT K [.ref a] H Q := by
  refine ⟨a, ps, kvs, rfl, ha.sq S, ?_, fun p hp => k p _ (S.new hp)⟩
  clear ha k
  induction hp with
  | nil => exact .nil
  | cons h t ih =>
    obtain ⟨b, h1, h2⟩ := h
    exact .cons ⟨b, sqT S h1.pf, S.dH _ _ h2.pf⟩ ih
/-- keys that are all different: in their order -/
theorem mergeT_new : ∀ (more kvs : List (List Key × V)), (more.map (·.1)).Nodup → (∀ m, m ∈ more → ∀ k, k ∈ kvs → k.1 ≠ m.1) → mergeT kvs more = kvs ++ more
  | [], kvs, _, _ => (List.append_nil kvs).symm
  | m :: more, kvs, hn, hd => by
    have e1 : putK kvs m.1 m.2 = kvs ++ [m] := by
      unfold putK
      rw [if_neg]
      rw [List.any_eq_true]
      rintro ⟨k, hk, e⟩
      exact hd m List.mem_cons_self k hk (of_decide_eq_true e)
    rw [List.map_cons, List.nodup_cons] at hn
    show mergeT (putK kvs m.1 m.2) more = _
    rw [e1, mergeT_new more (kvs ++ [m]) hn.2 (fun m' hm' k hk => ?_), List.append_assoc, List.singleton_append]
    rcases List.mem_append.mp hk with hk | hk
    · exact hd m' (List.mem_cons_of_mem _ hm') k hk
    · rw [List.mem_singleton.mp hk]
      exact fun e => hn.1 (by rw [e]; exact List.mem_map_of_mem hm')
end
end Fk

namespace Fk
open PySem PySem.Spec PyProof.Rows L2
/-! ## t.count(x), t a tuple whose object is known -/
def rCntT (K : PySem.W.Frag) : V → List V → Hp → VK → Prop := fun x xs H Q => ∃ (a : Addr) (ys : List V) (y : V), x = V.ref a ∧ xs = [y] ∧ SqT K H a ys ∧ flatV y = true ∧ ys.all flatV = true ∧ Q (.int (ys.countP fun z => eqV z y : Nat)) H
theorem mt_cntT {X : Cx} : MtR X "tuple.count" (rCntT X.K) := by
  intro pins s σ H x xs v us Q I rx rxs h
  obtain ⟨a, ys, y, rfl, rfl, hs, fy, fys, q⟩ := h
  cases rx
  cases rxs with
  | cons ry rt =>
    rename_i uy ut
    cases rt
    obtain ⟨its, rv, ⟨⟨cls, dd, data, sl⟩, ho, hc, n, hd⟩, hlen⟩ := I.tuple hs
    simp only at hc hd
    subst hc hd
    refine call_meets PySem.F.slot_tuple_count ⟨_, ho, rfl⟩ PySem.F.entry_tuple_count (PySem.F.args_tuple_count_2 _ _) (SeqAt.tuple_countAt a its.toArray n dd sl uy (eqU y)) ⟨ho, fun u' hu' => mem_eqAt ry fy rv fys u' (by simpa using hu'), ?_⟩
    refine ⟨.int (ys.countP fun z => eqV z y : Nat), H, I.tok _, ⟨s.toks, ?_⟩, q⟩
    rw [show its.toArray.toList = its from rfl, countP_eqU rv fys]
section
variable {σ : L2.St} {D D' H : Hp} {L : Own} {K : PySem.W.Frag} {Q : VK}
instance v_cntZ {a : Addr} {bs : List V} {b : Bool} {n : Nat} [S : Sx D L H] [ha : Kz D a bs] [c : CntC bs (.bl b) n] : VC (rCntT K (.ref a) [.bl b] H Q) (Q (.int (n : Nat)) H) := ⟨fun h => ⟨a, bs, .bl b, rfl, rfl, sqZ S ha, rfl, c.fl, by rw [c.pf]; exact h⟩⟩
instance v_zipLLZ {a b : Addr} {xs ys : List V} {R : It → Hp → Prop} [S : Sx D L H] [ha : Sl K D L a xs] [hb : Kz D b ys] : VC (IsZL K [.ref a, .ref b] H R) (R (Itzl K a b) H) := ⟨fun h => ⟨a, b, xs, ys, rfl, ha.pf.sq S, sqZ S hb, h⟩⟩
theorem cntB (b : Bool) : ∀ bs : List Bool, ((bs.map V.bl).countP fun z => eqV z (.bl b)) = bs.count b ∧ (bs.map V.bl).all flatV = true
  | [] => ⟨rfl, rfl⟩
  | x :: bs => by
    obtain ⟨h1, h2⟩ := cntB b bs
    refine ⟨?_, by rw [List.map_cons, List.all_cons, h2]; rfl⟩
    rw [List.map_cons, List.countP_cons, h1, List.count_cons]
    cases x <;> cases b <;> rfl
instance (priority := low) cntMap {b : Bool} {bs : List Bool} : CntC (bs.map V.bl) (.bl b) (bs.count b) := ⟨(cntB b bs).1, (cntB b bs).2⟩
end
/-! ## tuples of truths, their objects known -/
def TbZ (D : Hp) (us : List V) (bss : List (List Bool)) : Prop := us.length = bss.length ∧ ∀ (i : Nat) (u : V) (bs : List Bool), us[i]? = some u → bss[i]? = some bs → ∃ b, u = .ref b ∧ Kz D b (bs.map V.bl)
theorem TbZ.up {D D' : Hp} {us : List V} {bss : List (List Bool)} (h : TbZ D us bss) (s : Sm D D') : TbZ D' us bss := ⟨h.1, fun i u bs h1 h2 => let ⟨b, e, k⟩ := h.2 i u bs h1 h2; ⟨b, e, inferInstance⟩⟩
theorem TbZ.nil {D : Hp} : TbZ D [] [] := ⟨rfl, fun i u bs h _ => by simp at h⟩
theorem TbZ.put {D : Hp} {us : List V} {bss : List (List Bool)} (h : TbZ D us bss) {b : Addr} {bs : List Bool} (k : Kz D b (bs.map V.bl)) : TbZ D (us ++ [.ref b]) (bss ++ [bs]) := by
  refine ⟨by rw [List.length_append, List.length_append, h.1]; rfl, fun i u cs h1 h2 => ?_⟩
  rcases Nat.lt_or_ge i us.length with c | c
  · rw [List.getElem?_append_left c] at h1
    rw [List.getElem?_append_left (by rw [← h.1]; exact c)] at h2
    exact h.2 i u cs h1 h2
  · rw [List.getElem?_append_right c] at h1
    rw [List.getElem?_append_right (by rw [← h.1]; exact c), ← h.1] at h2
    cases e : i - us.length with
    | zero =>
      rw [e] at h1 h2
      cases h1
      cases h2
      exact ⟨b, rfl, k⟩
    | succ j =>
      rw [e] at h1
      simp at h1
theorem TbZ.get {D : Hp} {us : List V} {bss : List (List Bool)} (h : TbZ D us bss) {i : Nat} {u : V} (hu : us[i]? = some u) : ∃ b bs, u = .ref b ∧ bss[i]? = some bs ∧ Kz D b (bs.map V.bl) := by
  have hi : i < bss.length := by rw [← h.1]; exact (List.getElem?_eq_some_iff.mp hu).1
  obtain ⟨b, e, k⟩ := h.2 i u bss[i] hu (List.getElem?_eq_getElem hi)
  exact ⟨b, bss[i], e, List.getElem?_eq_getElem hi, k⟩
end Fk

namespace Fk
open PySem PySem.Spec PyProof.Rows L2
/-! ## dict(t), t a tuple of pairs whose object is known -/
def rDictZ (K : PySem.W.Frag) : List V → Hp → VK → Prop := fun xs H Q => ∃ (a : Addr) (o : Obj) (ps : List Addr) (kvs : List (Key × V)), xs = [.ref a] ∧ H a = some (.frz o (.tup (ps.map V.ref))) ∧ o.cls = .type "tuple" ∧ o.dict = none ∧
  Paired (fun p kv => SqT K H p [kV kv.1, kv.2]) ps kvs ∧ ∀ p, H p = none → Q (.ref p) (upd H p (.dK (mergeK [] kvs)))
theorem pairsK_of {X : Cx} {pins : List (Addr × Obj)} {σ : L2.St} {H : Hp} {s : Shared} (I : L2.Inv X pins σ H s) : ∀ {ps : List Addr} {kvs : List (Key × V)}, Paired (fun p kv => SqT X.K H p [kV kv.1, kv.2]) ps kvs →
    ∃ prs : List (Key × Value × Value), KV kvs (prs.map fun q => (q.1, q.2.2)) ∧ prs.length = ps.length ∧ ∀ (j : Nat) (q : Key × Value × Value), prs[j]? = some q → ∃ b : Addr, ps[j]? = some b ∧ IsTup s.heap b #[q.2.1, q.2.2] ∧ keyIs q.1 q.2.1 = true
  | _, _, .nil => ⟨[], .nil, rfl, fun j q e => by simp at e⟩
  | _, _, .cons (a := p) (b := kv) h t => by
    obtain ⟨prs, r, hl, hp⟩ := pairsK_of I t
    obtain ⟨its, rv, ht, _⟩ := I.tuple h
    obtain ⟨u, y, ei, ru, ry⟩ := vals2 rv
    subst ei
    refine ⟨(kv.1, u, y) :: prs, .cons ⟨rfl, ry⟩ r, by rw [List.length_cons, List.length_cons, hl], fun j q e => ?_⟩
    cases j with
    | zero =>
      cases e
      exact ⟨p, rfl, ht, kV_is (P := X.prog) (w := X.w) ru⟩
    | succ j => exact hp j q e
theorem call_dictZ {X : Cx} (hcalm : X.calm = true) : CallR X (.type "dict") (rDictZ X.K) := by
  intro pins s σ H xs us Q I r q
  obtain ⟨a, o, ps, kvs, ex, hq, hc, hd, hp, q⟩ := q
  subst ex
  obtain ⟨u, eu, rx⟩ := vals1 r
  subst eu
  cases rx
  obtain ⟨its, rv, pl, hz⟩ := I.tuple (X := X) (.inl (.inr ⟨o, hq⟩))
  obtain ⟨ho, _⟩ := (show ObjOk X.prog X.w H s.heap a (.frz o (.tup (ps.map V.ref))) from I.hok a _ hq)
  obtain ⟨o', ho', hc', n, hdat⟩ := pl
  have eo : o' = o := Option.some.inj (ho'.symm.trans ho)
  subst eo
  have ei := refs_at rv
  subst ei
  rw [List.length_map] at hz
  obtain ⟨prs, rel, hl, hpr⟩ := pairsK_of I hp
  refine PySem.call_dict_pairs (K := Key) (knd := mixKind X.prog X.w) (kvs := prs.map fun q => (q.1, q.2.2)) (PairArg.tuple a (ps.map Value.ref).toArray (fun j => ps.getD j 0) (prs.map fun q => (q.2.1, q.2.2))) (I.ok.hd hcalm) ⟨⟨o', n, ho, hc, hd, hdat⟩, ?_, fun j k v e => ?_⟩ ⟨by simp, fun i key v e => ?_⟩ ?_ fun h' tk hd' k => ?_
  · simp [hl]
  · rw [List.getElem?_map] at e
    cases e1 : prs[j]? with
    | none => rw [e1] at e; exact nomatch e
    | some q0 =>
      rw [e1] at e
      cases e
      obtain ⟨b, h1, h2, h3⟩ := hpr j q0 e1
      refine ⟨by simp [List.getD_eq_getElem?_getD, h1], ?_⟩
      show PairAt s.heap (ps.getD j 0) _ _
      rw [List.getD_eq_getElem?_getD, h1]
      exact .inl h2
  · have e : (prs.map fun q => (q.2.1, q.2.2))[i]? = some (key, v) := e
    rw [List.getElem?_map] at e
    cases e1 : prs[i]? with
    | none => rw [e1] at e; exact nomatch e
    | some q0 =>
      rw [e1] at e
      cases e
      obtain ⟨b, h1, h2, h3⟩ := hpr i q0 e1
      exact ⟨q0.1, by rw [List.getElem?_map, e1]; rfl, h3⟩
  · rw [List.length_map, hl]
    exact hz
  · have hm : (s.heap.objs.size == sysModules) = false := beq_eq_false_iff_ne.mpr (Nat.ne_of_gt I.big)
    have hlen : (mergeK [] kvs).length ≤ sizeLine := by
      refine Nat.le_trans (length_mergeK kvs []) ?_
      rw [List.length_nil, Nat.zero_add, rel.length, List.length_map, hl]
      exact hz
    exact ⟨.ref s.heap.objs.size, upd H s.heap.objs.size (.dK (mergeK [] kvs)), I.laid (t' := tk) (fun b o e => k b o (fun z => nomatch z) e) (Nat.le_refl _) (show ObjOk X.prog X.w _ _ _ (.dK (mergeK [] kvs)) from ⟨hlen, hm, merged [] (prs.map fun q => (q.1, q.2.2)), KV.merge rel .nil, hd'⟩), rfl, q _ (I.hok.fresh (Nat.le_refl _))⟩
section
variable {K : PySem.W.Frag} {D H : Hp} {L : Own} {Q : VK}
/-- pairs of numbers, as a tuple's things -/
theorem c_dictZ {a : Addr} {us : List V} {es : List (Int × Int)} (S : Sx D L H) (ha : Kz D a us) (hr : RpAll D us (es.map pI)) (k : ∀ p H', Sx D ((p, .dK (mergeK [] (es.map fun e => ((Sum.inl e.1 : Key), V.int e.2)))) :: L) H' → Q (.ref p) H') : rDictZ K [.ref a] H Q := by
  obtain ⟨o, e, hc, hd⟩ := ha.pf
  obtain ⟨ps, hps, hp⟩ : ∃ ps : List Addr, us = ps.map V.ref ∧ Paired (fun p kv => SqT K H p [kV kv.1, kv.2]) ps (es.map fun e => ((Sum.inl e.1 : Key), V.int e.2)) := by
    clear ha e k
    induction es generalizing us with
    | nil => cases hr; exact ⟨[], rfl, .nil⟩
    | cons x es ih =>
      cases hr with
      | cons h t =>
        obtain ⟨ps, e1, e2⟩ := ih t
        obtain ⟨b, e3, e4⟩ := Rp.inv_tupI (ns := [x.1, x.2]) h
        subst e1 e3
        exact ⟨b :: ps, rfl, .cons (sqT S e4) e2⟩
  subst hps
  exact ⟨a, o, ps, _, rfl, S.dH _ _ e, hc, hd, hp, fun p hp => k p _ (S.new hp)⟩
end
end Fk

namespace Fk
open PySem PySem.Spec PyProof.Rows L2
/-! ## errors of a class with an __init__ of its own, that keep one field -/
class RzO (K : PySem.W.Frag) (C : Addr) (f : outParam Str) : Prop where
  T : OexC K C
  no : PySem.W.findIn K (.ref C) f = some none
/-- what the __init__ does: the field is set -/
def spI (K : PySem.W.Frag) (f : Str) : Sp := fun vs H Q _ => ∃ (a C : Addr) (v : V), vs = [.ref a, v] ∧ RzO K C f ∧ H a = some (exo a C none) ∧
  ∀ dx, H dx = none → dx ≠ a → Q .non (upd (upd H dx (exd dx [(f, v)])) a (exo a C (some dx)))
structure RzI (P : Program) (w : World) (K : PySem.W.Frag) (mg : Str → Option Value) (base : Heap) (C : Addr) (f : Str) (k : Nat) : Prop where
  o : RzO K C f
  ex : ∃ (fI : Addr) (fd : FuncData) (ps : List Str), PySem.W.findIn K (.ref C) "__init__" = some (some (.ref fI)) ∧ PySem.W.typeIn K (.ref fI) = some (.type "function") ∧ FnOk P w K mg base CX0 k fI fd ps (spI K f) ∧ Binds K fd ps []
def tRzI (K : PySem.W.Frag) (W : WX) (C : Addr) (f : Str) (te : TE) : TS := fun _ σ H => tMkO C (spI K f) [] (tCons te tNil) σ H (fun cls d H' => W cls d σ H')
theorem ps_rzI (K : PySem.W.Frag) {X : Cx} {W : WX} {C : Addr} {x f : Str} {k j : Nat} {p pos pos2 : Pos} {e : Expr} {te : TE} (kc : ClC X.K X.mg x C) (R : RzI X.prog X.w X.K X.mg X.base C f k) (hr : Room j X.A) (hk : k + 1 ≤ j) (hg : Gl X x) (tk : Takes X W) (ha : PA X [e] (tCons te tNil)) (eK : X.K = K := by rfl)
    (hc : X.calm = true := by rfl) (hdb : (x == ("__debug__" : Str)) = false := by decide) (hs : starEach [e] X.env = (false, eval e X.env) :: starEach [] X.env := by rfl) :
    PS X (.Raise (some (.Call (.Name x p) [e] [] pos)) none pos2) (tRzI K W C f te) := by
  subst eK
  obtain ⟨fI, fd, ps, iC, tI, F1, hb⟩ := R.ex
  exact ps_raise hc tk (pmk_oex R.o.T iC tI F1 (hr.mono hk) hb .nil pass0 hg kc.g ha hdb hs rfl)
def RzA (K : PySem.W.Frag) (W : WX) (C : Addr) (f : Str) (σ : L2.St) (x : V) (H1 : Hp) : Prop := [x].length ≤ 1000 ∧ ∀ a, H1 a = none → spI K f (.ref a :: ([x] ++ [])) (upd H1 a (exo a C none))
  (fun v H2 => v = .non ∧ ∃ (d : Addr) (fs : List (Str × V)), H2 a = some (exo a C (some d)) ∧ H2 d = some (exd d fs) ∧ H1 d = none ∧ W (.ref C) (some d) σ (upd (del H2 a) d (.xd fs))) (fun _ _ _ => False)
section
variable {σ : L2.St} {D H : Hp} {L : Own} {K : PySem.W.Frag} {Q : VK}
def VeA (K : PySem.W.Frag) (vs : List V) (H1 : Hp) (Q : VK) : Prop := ∃ (a C : Addr) (ws : List V), vs = .ref a :: ws ∧ ws.length ≤ 1000 ∧ OexC K C ∧ H1 a = some (exo a C none) ∧ Q .non H1
instance v_veI {ta : TA} : VC (tVeI K ta σ H Q) (ta σ H fun vs H1 => VeA K vs H1 Q) := ⟨fun h => h⟩
instance v_rzI {W : WX} {C : Addr} {f : Str} {te : TE} {Es : Ends} : VC (tRzI K W C f te Es σ H) (te σ H fun x H1 => RzA K W C f σ x H1) := ⟨fun h => h⟩
instance v_rzA {W : WX} {C : Addr} {f : Str} {x : V} [S : Sx D L H] [r : RzO K C f] : VC (RzA K W C f σ x H) (∀ d D' H', Sx D' L H' → Sm D D' → Kn D' d (.xd [(f, x)]) → W (.ref C) (some d) σ H') := ⟨fun h => by
  refine ⟨by show 1 ≤ 1000; decide, fun a ha => ⟨a, C, x, rfl, r, upd_same, fun dx hdx hne => ⟨rfl, dx, [(f, x)], upd_same, ?_, ?_, ?_⟩⟩⟩
  · rw [upd_ne hne, upd_same]
  · rw [upd_ne hne] at hdx
    exact hdx
  · rw [upd_ne hne] at hdx
    have e : upd (del (upd (upd (upd H a (exo a C none)) dx (exd dx [(f, x)])) a (exo a C (some dx))) a) dx (.xd [(f, x)]) = upd H dx (.xd [(f, x)]) := by
      funext b
      by_cases hb : b = dx
      · rw [hb, upd_same, upd_same]
      · rw [upd_ne hb, upd_ne hb]
        by_cases hba : b = a
        · rw [hba, del_same, ha]
        · rw [del_ne hba, upd_ne hba, upd_ne hb, upd_ne hba]
    rw [e]
    exact h dx _ _ (S.fix hdx) ⟨same_upd (S.dH.free hdx)⟩ ⟨upd_same⟩⟩
end
/-- the shape of such a class -/
def oexB (C : Addr) : Obj → Bool
  | ⟨.type "type", _, .cls cd, sl⟩ => (match cd.mro, sl.toList with
    | .ref C' :: bm, [_, _, _, _, some (.builtin n), _] => C' == C && n == "ValueError.__new__" && !cd.hasDel && cd.hasDict && PySem.HandSPX.refsVE bm
    | _, _ => false)
  | _ => false
theorem oexB_ok {K : PySem.W.Frag} {C : Addr} {o : Obj} (l : K.lookup C = some o) (h : oexB C o = true) : ∃ nm q N bs bm sn sub ab col dd k0 k1 k2 k3 k5, K.lookup C = some (excClassObj nm q C N bs bm true sn sub ab col dd k0 k1 k2 k3 k5 "ValueError.__new__") ∧ PySem.HandSPX.refsVE bm = true := by
  unfold oexB at h
  split at h
  · rename_i dd cd sl
    split at h
    · rename_i C' bm k0 k1 k2 k3 n k5 hm hs
      simp only [Bool.and_eq_true, beq_iff_eq, Bool.not_eq_true'] at h
      obtain ⟨⟨⟨⟨rfl, rfl⟩, hdel⟩, hd1⟩, hr⟩ := h
      obtain ⟨nm, bs, mro, ns, qn, hd, sn, sub, ab, col, del⟩ := cd
      dsimp only at hm hdel hd1
      subst hm hdel hd1
      have hsl : sl = #[k0, k1, k2, k3, some (.builtin "ValueError.__new__"), k5] := by
        obtain ⟨l⟩ := sl
        simp only at hs
        rw [hs]
      subst hsl
      exact ⟨nm, qn, ns, bs, bm, sn, sub, ab, col, dd, k0, k1, k2, k3, k5, l, hr⟩
    · cases h
  · cases h
/-! ## e.f of the caught error; isinstance(e, ..) -/
theorem XfC.of {K : PySem.W.Frag} {C : Addr} (h : ExC K C) : XfC K C := ⟨h.pf.hg, h.pf.hk, h.pf.hs, h.pf.hd⟩
def XfA (a dd : Addr) (f : Str) (x : V) (H1 : Hp) (Q : VK) : Prop := x = .ref a ∧ ∃ (fs : List (Str × V)) (v : V), H1 dd = some (.xd fs) ∧ fs.lookup f = some v ∧ Q v H1
def rIsEI (K : PySem.W.Frag) (a : Addr) (cls : Value) (d : Option Addr) : List V → Hp → VK → Prop := fun xs H Q => ∃ (D dd : Addr) (fs : List (Str × V)), cls = .ref D ∧ d = some dd ∧ H dd = some (.xd fs) ∧ ExcC K D ∧
  ((∃ (c : V) (cv : Value) (b : Bool), xs = [.ref a, c] ∧ ClsV c cv ∧ PySem.W.kitOne K (.ref D) cv = some b ∧ Q (.bl b) H) ∨
   ∃ (tp : Addr) (cs : List V) (us : List Value) (b : Bool), xs = [.ref a, .ref tp] ∧ H tp = some (.tup cs) ∧ Paired ClsV cs us ∧ PySem.W.kitAny K (.ref D) us = some b ∧ Q (.bl b) H)
theorem call_isEI {X : Cx} {a : Addr} {oe : Obj} {cls : Value} {d : Option Addr} {pn : List (Addr × Obj)} (hz : Zc cls d oe) (hf : ∃ vs, oe.data = .fields vs) : CallR (X.suite a ((a, oe) :: pn)) (.builtin "isinstance") (rIsEI X.K a cls d) := by
  intro pins s σ H xs us Q I r h
  obtain ⟨D, dd, fs, rfl, rfl, hx, C, h⟩ := h
  obtain ⟨hget, _⟩ := I.pin (a, oe) (List.mem_append.mpr (.inl List.mem_cons_self))
  obtain ⟨vs, hv⟩ := hf
  obtain ⟨_, ⟨od, _, _, hod, _⟩, _⟩ := (show ObjOk X.prog X.w H s.heap dd (.xd fs) from I.hok dd _ hx)
  have J : PySem.W.InstAt s.heap a oe D (some od) := by
    obtain ⟨oc, odd, oda, osl⟩ := oe
    obtain ⟨h1, h2⟩ := hz
    dsimp only at h1 h2 hv
    subst h1 h2 hv
    exact ⟨hget, rfl, rfl, hod⟩
  have hcl : (PySem.W.clsIn X.K D).isSome = true := by
    have h := C.hd
    unfold PySem.W.hasDictIn at h
    cases e : PySem.W.clsIn X.K D with
    | none => rw [e] at h; cases h
    | some c => rfl
  have Z := PySem.W.kitx_exc (x := a) (ox := oe) (od := some od) hcl C.hg C.hk C.hs C.ha C.hn C.ht C.hm
  rcases h with ⟨c, cv, b, rfl, hcv, e, q⟩ | ⟨tp, cs, ws, b, rfl, hT, kp, e, q⟩
  · obtain ⟨u1, u2, rfl, r1, r2⟩ := vals2 r
    cases (show u1 = Value.ref a from r1)
    have ec := hcv.eq r2
    subst ec
    exact PySem.W.kia_one Z I.kIn J e (fun z => nomatch z) fun tk => ⟨.bl b, H, I.kept (t' := tk) fun _ _ z => z, rfl, q⟩
  · obtain ⟨u1, u2, rfl, r1, r2⟩ := vals2 r
    cases (show u1 = Value.ref a from r1)
    cases (show u2 = Value.ref tp from r2)
    obtain ⟨_, its, rv, o, h1, h2, n, h3⟩ := (show ObjOk X.prog X.w H s.heap tp (.tup cs) from I.hok tp _ hT)
    have e3 := ClsV.all kp rv
    subst e3
    obtain ⟨oc, od2, dt, sl⟩ := o
    simp only at h2 h3
    subst h2 h3
    exact PySem.W.kia_tup Z I.kIn J h1 e (fun z => nomatch z) fun tk => ⟨.bl b, H, I.kept (t' := tk) fun _ _ z => z, rfl, q⟩
section
variable {σ : L2.St} {D0 H : Hp} {L : Own} {K : PySem.W.Frag} {Q : VK}
instance v_xf {a C dd : Addr} {n : Str} {i : Nat} [h : Nth σ i (.ref a)] : VC (tXf a (.ref C) (some dd) C n (tVar i) σ H Q) (XfA a dd n (.ref a) H Q) := ⟨fun ⟨_, fs, v, h1, h2, h3⟩ => ⟨.ref a, h.pf, rfl, rfl, dd, fs, v, rfl, h1, h2, h3⟩⟩
instance v_xfA {a dd : Addr} {n : Str} {v : V} [S : Sx D0 L H] [k : Kn D0 dd (.xd [(n, v)])] : VC (XfA a dd n (.ref a) H Q) (Q v H) := ⟨fun h => ⟨rfl, [(n, v)], v, S.dH _ _ k.pf, by simp [List.lookup], h⟩⟩
instance v_isi1 {a D dd : Addr} {fs : List (Str × V)} {c : V} {b : Bool} [S : Sx D0 L H] [k0 : Kn D0 dd (.xd fs)] [x : ExC K D] [k : KtO K D c b] : VC (rIsEI K a (.ref D) (some dd) [.ref a, c] H Q) (Q (.bl b) H) := ⟨fun q => by
  obtain ⟨cv, h1, h2⟩ := k.pf
  exact ⟨D, dd, fs, rfl, rfl, S.dH _ _ k0.pf, x.pf, .inl ⟨c, cv, b, rfl, h1, h2, q⟩⟩⟩
instance v_isiT {a D tp dd : Addr} {fs : List (Str × V)} {cs : List V} {b : Bool} [S : Sx D0 L H] [k0 : Kn D0 dd (.xd fs)] [kt : Kn D0 tp (.tup cs)] [x : ExC K D] [k : KtA K D cs b] : VC (rIsEI K a (.ref D) (some dd) [.ref a, .ref tp] H Q) (Q (.bl b) H) := ⟨fun q => by
  obtain ⟨us, h1, h2⟩ := k.pf
  exact ⟨D, dd, fs, rfl, rfl, S.dH _ _ k0.pf, x.pf, .inr ⟨tp, cs, us, b, rfl, S.dH _ _ kt.pf, h1, h2, q⟩⟩⟩
end
end Fk

namespace Fk
open PySem PySem.Spec PyProof.Rows L2
/-! ## t < u of two tuples of ints -/
def rLtT (K : PySem.W.Frag) : R2 := fun x y H Q => ∃ (a b : Addr) (ns ms : List Int), x = .ref a ∧ y = .ref b ∧ SqT K H a (ns.map V.int) ∧ SqT K H b (ms.map V.int) ∧
  Q (.bl (Ob.lexAt (fun j => decide (ns.getD j 0 = ms.getD j 0)) (fun j => decide (ns.getD j 0 < ms.getD j 0)) (decide (ns.length < ms.length)) 0 (min ns.length ms.length))) H
theorem op_ltT {X : Cx} (hu : X.A.units + 64 < cLine) : OpR X (compareOp .Lt) (rLtT X.K) := by
  intro pins s σ H x y v u Q I rx ry h
  obtain ⟨a, b, ns, ms, rfl, rfl, ha, hb, q⟩ := h
  cases rx
  cases ry
  obtain ⟨its, r1, p1, _⟩ := I.tuple ha
  obtain ⟨its2, r2, p2, _⟩ := I.tuple hb
  have i1 : IntsAre its ns := Vals.ints r1
  have i2 : IntsAre its2 ms := Vals.ints r2
  have sz1 : its.toArray.size = ns.length := by rw [List.size_toArray]; exact i1.length
  have sz2 : its2.toArray.size = ms.length := by rw [List.size_toArray]; exact i2.length
  have g1 : ∀ j, j < its.toArray.size → ∃ t, its[j]? = some (.int (ns.getD j 0) t) := fun j hj => by
    have hj2 : j < its.length := by rwa [List.size_toArray] at hj
    obtain ⟨t, e⟩ := PyProof.Rows.IntsAre.int_at i1 j _ (List.getElem?_eq_getElem hj2)
    exact ⟨t, by rw [List.getElem?_eq_getElem hj2, e]⟩
  have g2 : ∀ j, j < its2.toArray.size → ∃ t, its2[j]? = some (.int (ms.getD j 0) t) := fun j hj => by
    have hj2 : j < its2.length := by rwa [List.size_toArray] at hj
    obtain ⟨t, e⟩ := PyProof.Rows.IntsAre.int_at i2 j _ (List.getElem?_eq_getElem hj2)
    exact ⟨t, by rw [List.getElem?_eq_getElem hj2, e]⟩
  have val1 : ∀ j (h1 : j < its.toArray.size), ∃ t, its.toArray[j] = .int (ns.getD j 0) t := fun j h1 => by
    obtain ⟨t, e⟩ := g1 j h1
    obtain ⟨_, e2⟩ := List.getElem?_eq_some_iff.mp e
    exact ⟨t, by simpa using e2⟩
  have val2 : ∀ j (h1 : j < its2.toArray.size), ∃ t, its2.toArray[j] = .int (ms.getD j 0) t := fun j h1 => by
    obtain ⟨t, e⟩ := g2 j h1
    obtain ⟨_, e2⟩ := List.getElem?_eq_some_iff.mp e
    exact ⟨t, by simpa using e2⟩
  have key := Ob.RcOp.tuples_lt (A := X.A) (s := s) (e := fun j => decide (ns.getD j 0 = ms.getD j 0)) (r := fun j => decide (ns.getD j 0 < ms.getD j 0)) p1 p2 (by omega)
    (fun j h1 h2 => by
      obtain ⟨t, et⟩ := val1 j h1
      obtain ⟨t', et'⟩ := val2 j h2
      rw [et, et']
      have z : (ns.getD j 0 == ms.getD j 0) = decide (ns.getD j 0 = ms.getD j 0) := by
        by_cases c : ns.getD j 0 = ms.getD j 0
        · rw [decide_eq_true c]; exact beq_iff_eq.mpr c
        · rw [decide_eq_false c]; exact beq_eq_false_iff_ne.mpr c
      rw [← z]
      exact SeqAt.EqAt.int_int _ _ _ _)
    (fun j h1 h2 _ => by
      obtain ⟨t, et⟩ := val1 j h1
      obtain ⟨t', et'⟩ := val2 j h2
      rw [et, et']
      exact Ob.RcOp.lt_int _ _ _ _)
  rw [sz1, sz2] at key
  exact key X.prog X.w X.xe (EP X pins σ Q) ⟨.bl _, H, I, rfl, q⟩
def lsQ (p q : Int × Int) : Bool := decide (p.1 < q.1 ∨ (p.1 = q.1 ∧ p.2 < q.2))
theorem lsQ_lex (a b c d : Int) : Ob.lexAt (fun j => decide (([a, b] : List Int).getD j 0 = ([c, d] : List Int).getD j 0)) (fun j => decide (([a, b] : List Int).getD j 0 < ([c, d] : List Int).getD j 0)) (decide (2 < 2)) 0 2 = lsQ (a, b) (c, d) := by
  show (if decide (a = c) = true then (if decide (b = d) = true then false else decide (b < d)) else decide (a < c)) = decide (a < c ∨ (a = c ∧ b < d))
  by_cases h1 : a = c
  · subst h1
    by_cases h2 : b = d
    · subst h2; simp
    · simp [h2]
  · simp [h1]
def rLtX (K : PySem.W.Frag) : R2 := fun x y H Q => rI0 (fun i j => .bl (decide (i < j))) x y H Q ∨ rLtT K x y H Q
theorem opLtX {X : Cx} (hu : X.A.units + 64 < cLine) : OpR X (compareOp .Lt) (rLtX X.K) := OpR.or op_lt (op_ltT hu)
/-! ## x not in xs -/
def rNotInX (K : PySem.W.Frag) : R2 := rIn K true
theorem opNotInX {X : Cx} : OpR X (compareOp .NotIn) (rNotInX X.K) := op_notIn_seq
section
variable {D H : Hp} {L : Own} {K : PySem.W.Frag} {Q : VK}
instance v_ninL {a : Addr} {us : List V} {xs : List Int} {x : Int} [S : Sx D L H] [ha : Sl K D L a us] [c : IsC us xs] : VC (rNotInX K (.int x) (.ref a) H Q) (Q (.bl (!decide (x ∈ xs))) H) :=
  ⟨fun k => ⟨a, us, rfl, .inl (ha.pf.sq S), rfl, by rw [c.pf]; exact flat_ints, by rw [if_pos rfl, c.pf, inV_int]; exact k⟩⟩
instance v_ninT {a : Addr} {us : List V} {xs : List Int} {x : Int} [S : Sx D L H] [ha : Kn D a (.tup us)] [c : IsC us xs] : VC (rNotInX K (.int x) (.ref a) H Q) (Q (.bl (!decide (x ∈ xs))) H) :=
  ⟨fun k => ⟨a, us, rfl, .inr (sqT S ha.pf), rfl, by rw [c.pf]; exact flat_ints, by rw [if_pos rfl, c.pf, inV_int]; exact k⟩⟩
instance v_ltXI {i j : Int} : VC (rLtX K (.int i) (.int j) H Q) (Q (.bl (decide (i < j))) H) := ⟨fun h => .inl ⟨i, j, rfl, rfl, h⟩⟩
instance v_ltXT {a b : Addr} {x y z u : Int} [S : Sx D L H] [ha : Kn D a (.tup [.int x, .int y])] [hb : Kn D b (.tup [.int z, .int u])] : VC (rLtX K (.ref a) (.ref b) H Q) (Q (.bl (lsQ (x, y) (z, u))) H) :=
  ⟨fun h => .inr ⟨a, b, [x, y], [z, u], rfl, rfl, sqT S ha.pf, sqT S hb.pf, by
    show Q (.bl (Ob.lexAt (fun j => decide (([x, y] : List Int).getD j 0 = ([z, u] : List Int).getD j 0)) (fun j => decide (([x, y] : List Int).getD j 0 < ([z, u] : List Int).getD j 0)) (decide (2 < 2)) 0 2)) H
    rw [lsQ_lex]
    exact h⟩⟩
end
end Fk

namespace Fk
open PySem PySem.Spec PyProof.Rows L2
/-! ## texts -/
section
variable {X : Cx}
def rJoin (K : PySem.W.Frag) : V → List V → Hp → VK → Prop := fun x xs H Q => ∃ a p, ∃ ys : List Str, x = .str a ∧ xs = [.ref p] ∧ (SqL K H p (ys.map V.str) ∨ SqT K H p (ys.map V.str)) ∧
    (ys.map (·.length)).sum + ys.length * a.length ≤ 16777216 ∧ Q (.str (Txt.join a ys)) H
theorem pe_joinN (K : PySem.W.Frag) {o e : Expr} {to te : TE} {apos pos : Pos} (ho : PE X o to) (he : PE X e te) (hK : X.K = K := by rfl) (hs : starEach [e] X.env = [(false, eval e X.env)] := by rfl) (hbase : attributeBase o "join" X.env (eval o X.env) = eval o X.env := by rfl) (hline : (apos.endLine == pos.line) = true := by rfl) :
    PE X (.Call (.Attribute o "join" apos) [e] [] pos) (tM1 (rJoin K) to te) := by
  subst hK
  exact pe_m1 PySem.F.slot_str_join PySem.F.type_str_join mt_join ho he hs hbase hline
def rSplit : V → List V → Hp → VK → Prop := fun x xs H Q => ∃ a b, x = .str a ∧ xs = [.str b] ∧ (b.length == 0) = false ∧ a.length + 2 ≤ sizeLine ∧ rNewStrs (Txt.split a b) H Q
theorem pe_splitN {o e : Expr} {to te : TE} {apos pos : Pos} (ho : PE X o to) (he : PE X e te) (hs : starEach [e] X.env = [(false, eval e X.env)] := by rfl) (hbase : attributeBase o "split" X.env (eval o X.env) = eval o X.env := by rfl) (hline : (apos.endLine == pos.line) = true := by rfl) :
    PE X (.Call (.Attribute o "split" apos) [e] [] pos) (tM1 rSplit to te) := pe_m1 PySem.F.slot_str_split PySem.F.type_str_split mt_split ho he hs hbase hline
def rAddS : R2 := fun x y H Q => ∃ i j, x = .str i ∧ y = .str j ∧ i.length + j.length ≤ sizeLine ∧ Q (.str (i ++ j)) H
theorem opAddS : OpR X (binaryOp .Add) rAddS := op_add_str
def rStrI : List V → Hp → VK → Prop := fun xs H Q => ∃ i, xs = [.int i] ∧ i.natAbs.log2 < 1920 ∧ Q (.str (toString i)) H
theorem call_strI : CallR X (.type "str") rStrI := call_str_int
def rIntT : List V → Hp → VK → Prop := fun xs H Q => ∃ a n, xs = [.str a] ∧ PySem.intText? a = some n ∧ a.length ≤ 640 ∧ Q (.int n) H
theorem call_intT : CallR X (.type "int") rIntT := call_int_str
def rInSg : R2 := fun x y H Q => ∃ (c : Nat) (z : Str), x = .str ⟨#[c]⟩ ∧ y = .str z ∧ Q (.bl (decide (c ∈ z.cps.toList))) H
theorem opInSg : OpR X (compareOp .In) rInSg := op_in_sign
end
theorem eqvS : ∀ (xs ys : List Str), PyData.eqvAll (xs.map PyData.str) (ys.map PyData.str) = decide (xs = ys)
  | [], [] => by simp [PyData.eqvAll]
  | [], y :: ys => by simp [PyData.eqvAll]
  | x :: xs, [] => by simp [PyData.eqvAll]
  | x :: xs, y :: ys => by
    simp only [List.map_cons, PyData.eqvAll, PyData.eqv, eqvS xs ys]
    by_cases h : x = y
    · subst h; simp
    · simp [h]
theorem eqv_lstS (xs ys : List Str) : PyData.eqv (.list (xs.map PyData.str)) (.list (ys.map PyData.str)) = decide (xs = ys) := by simp only [PyData.eqv, eqvS]
def Sk (x : Str) : Prop := PyData.strOk x = true
theorem Sh.str (n : Nat) {x : Str} (h : Sk x) : Sh n (.str x) := ⟨by unfold Sk at h; simp [PyData.canLay0, h], by simp [PyData.depth]⟩
theorem sh_lstS {xs : List Str} (h : ∀ x, x ∈ xs → Sk x) : SeqAt.shaped (.list (xs.map PyData.str)) = true := (Sh.list (n := 0) fun d hd => by
  obtain ⟨x, hx, rfl⟩ := List.mem_map.mp hd
  exact Sh.str 0 (h x hx)).ok
theorem sk_of (s : String) : Sk (Str.ofString s) := by
  rw [PySem.Str.ofString_eq_toList]
  unfold Sk PyData.strOk
  rw [Array.all_eq_true']
  intro c hc
  have hc2 : c ∈ s.toList.map Char.toNat := by simpa using hc
  obtain ⟨d, _, rfl⟩ := List.mem_map.mp hc2
  refine decide_eq_true ?_
  have := d.valid
  unfold UInt32.isValidChar Nat.isValidChar at this
  show d.val.toNat < _
  omega
theorem sk_app {x y : Str} (hx : Sk x) (hy : Sk y) : Sk (x ++ y) := by
  unfold Sk PyData.strOk at *
  rw [Str.cps_append, Array.all_append, hx, hy]
  rfl
theorem sk_join {a : Str} (ha : Sk a) : ∀ {ys : List Str}, (∀ y, y ∈ ys → Sk y) → Sk (Txt.join a ys) := by
  have key : ∀ (ys : List Str), (∀ y, y ∈ ys → Sk y) → Sk (Str.join a ys) := by
    intro ys
    induction ys with
    | nil => exact fun _ => (by unfold Sk PyData.strOk Str.empty; simp : Sk Str.empty)
    | cons x r ih =>
      intro h
      cases r with
      | nil => exact h x List.mem_cons_self
      | cons y r => exact sk_app (sk_app (h x List.mem_cons_self) ha) (ih fun z hz => h z (List.mem_cons_of_mem _ hz))
  intro ys h
  rw [TL.join_eq]
  exact key ys h
class StC (xs : List V) (ys : outParam (List Str)) : Prop where
  pf : xs = ys.map V.str
instance stMap {ys : List Str} : StC (ys.map V.str) ys := ⟨rfl⟩
instance stNil : StC [] [] := ⟨rfl⟩
instance stCons {y : Str} {r : List V} {ys : List Str} [h : StC r ys] : StC (.str y :: r) (y :: ys) := ⟨by rw [h.pf]; rfl⟩
instance stApp {r s : List V} {ns ms : List Str} [h : StC r ns] [k : StC s ms] : StC (r ++ s) (ns ++ ms) := ⟨by rw [h.pf, k.pf, List.map_append]⟩
theorem rp_strs {D : Hp} : ∀ ys : List Str, RpAll D (ys.map V.str) (ys.map PyData.str)
  | [] => .nil
  | y :: r => .cons (.str y) (rp_strs r)
section
variable {σ : L2.St} {D H : Hp} {L : Own} {K : PySem.W.Frag} {Q : VK}
instance v_tM1 {r : V → List V → Hp → VK → Prop} {to te : TE} : VC (tM1 r to te σ H Q) (to σ H fun x H1 => (∃ a, x = .str a) ∧ te σ H1 fun y H2 => r x [y] H2 Q) := ⟨fun h => h⟩
instance v_exS {a : Str} {p : Prop} : VC ((∃ b, V.str a = .str b) ∧ p) p := ⟨fun h => ⟨⟨a, rfl⟩, h⟩⟩
instance v_joinL {a : Str} {p : Addr} {us : List V} {ys : List Str} [S : Sx D L H] [ha : Sl K D L p us] [c : StC us ys] : VC (rJoin K (.str a) [.ref p] H Q) ((ys.map (·.length)).sum + ys.length * a.length ≤ 16777216 ∧ Q (.str (Txt.join a ys)) H) :=
  ⟨fun h => ⟨a, p, ys, rfl, rfl, .inl (by rw [← c.pf]; exact ha.pf.sq S), h.1, h.2⟩⟩
instance v_split {a b : Str} [S : Sx D L H] : VC (rSplit (.str a) [.str b] H Q) ((b.length == 0) = false ∧ a.length + 2 ≤ 16777216 ∧ ∀ p H', Sx D ((p, .lst ((Txt.split a b).map V.str)) :: L) H' → Q (.ref p) H') :=
  ⟨fun h => ⟨a, b, rfl, rfl, h.1, h.2.1, fun p hp => h.2.2 p _ (S.new hp)⟩⟩
instance v_addS {i j : Str} : VC (rAddS (.str i) (.str j) H Q) (i.length + j.length ≤ 16777216 ∧ Q (.str (i ++ j)) H) := ⟨fun h => ⟨i, j, rfl, rfl, h.1, h.2⟩⟩
instance v_strI {i : Int} : VC (rStrI [.int i] H Q) (i.natAbs.log2 < 1920 ∧ Q (.str (toString i)) H) := ⟨fun h => ⟨i, rfl, h.1, h.2⟩⟩
instance v_eqS {a b : Str} : VC (rEqX K (.str a) (.str b) H Q) (Q (.bl (decide (a = b))) H) := ⟨fun k => .inl ⟨rfl, by
  have e : decide (V.str a = V.str b) = decide (a = b) := by
    by_cases c : a = b
    · subst c; rw [decide_eq_true rfl, decide_eq_true rfl]
    · rw [decide_eq_false c, decide_eq_false (fun z => c (V.str.inj z))]
  rw [e]; exact k⟩⟩
instance v_neS {a b : Str} : VC (rNeX K (.str a) (.str b) H Q) (Q (.bl (!decide (a = b))) H) := ⟨fun k => .inl ⟨rfl, by
  have e : decide (V.str a = V.str b) = decide (a = b) := by
    by_cases c : a = b
    · subst c; rw [decide_eq_true rfl, decide_eq_true rfl]
    · rw [decide_eq_false c, decide_eq_false (fun z => c (V.str.inj z))]
  rw [e]; exact k⟩⟩
theorem dplS {a : Addr} {us : List V} {xs : List Str} (S : Sx D L H) (ha : Rds K D L a us) (e : us = xs.map V.str) : Dp K H (.ref a) (.list (xs.map PyData.str)) := .lst (ha.sq S) (by rw [e]; exact RpAll.dp (rp_strs xs))
instance v_eqSS {a b : Addr} {us ws : List V} {xs ys : List Str} [S : Sx D L H] [ha : Sl K D L a us] [hb : Sl K D L b ws] [c : StC us xs] [d : StC ws ys] : VC (rEqX K (.ref a) (.ref b) H Q) (((∀ x, x ∈ xs → Sk x) ∧ ∀ y, y ∈ ys → Sk y) ∧ Q (.bl (decide (xs = ys))) H) :=
  ⟨fun k => .inr ⟨_, _, dplS S ha.pf c.pf, dplS S hb.pf d.pf, sh_lstS k.1.1, sh_lstS k.1.2, by rw [eqv_lstS]; exact k.2⟩⟩
instance v_neSS {a b : Addr} {us ws : List V} {xs ys : List Str} [S : Sx D L H] [ha : Sl K D L a us] [hb : Sl K D L b ws] [c : StC us xs] [d : StC ws ys] : VC (rNeX K (.ref a) (.ref b) H Q) (((∀ x, x ∈ xs → Sk x) ∧ ∀ y, y ∈ ys → Sk y) ∧ Q (.bl (!decide (xs = ys))) H) :=
  ⟨fun k => .inr ⟨_, _, dplS S ha.pf c.pf, dplS S hb.pf d.pf, sh_lstS k.1.1, sh_lstS k.1.2, by rw [eqv_lstS]; exact k.2⟩⟩
/-- a sign of a text -/
class AtS (z : Str) (i : Int) (c : outParam Nat) : Prop where
  pf : z.length ≤ sizeLine ∧ atI z.cps.toList i = some c
instance v_ixS {z : Str} {i : Int} {c : Nat} [h : AtS z i c] : VC (rIx K (.str z) (.int i) H Q) (Q (.str ⟨#[c]⟩) H) := ⟨fun k => .inr (.inr ⟨z, i, c, rfl, rfl, h.pf.1, h.pf.2, k⟩)⟩
instance v_inSg {c : Nat} {z : Str} : VC (rInSg (.str ⟨#[c]⟩) (.str z) H Q) (Q (.bl (decide (c ∈ z.cps.toList))) H) := ⟨fun k => ⟨c, z, rfl, rfl, k⟩⟩
end
/-! lengths of texts -/
theorem len_sjoin (a : Str) : ∀ ys : List Str, (Str.join a ys).length ≤ (ys.map (·.length)).sum + ys.length * a.length
  | [] => Nat.zero_le _
  | [x] => by
    show x.length ≤ _
    simp
  | x :: y :: r => by
    have ih := len_sjoin a (y :: r)
    show (x ++ a ++ Str.join a (y :: r)).length ≤ _
    rw [PySem.Str.length_append, PySem.Str.length_append, List.map_cons, List.sum_cons, List.length_cons (as := y :: r), Nat.succ_mul]
    omega
theorem len_join (a : Str) (ys : List Str) : (Txt.join a ys).length ≤ (ys.map (·.length)).sum + ys.length * a.length := by
  rw [TL.join_eq]
  exact len_sjoin a ys
theorem len_str {i : Int} (h : i.natAbs < 10000000000000000000000000000000000000000) : (Str.ofString (toString i)).length ≤ 41 := by
  rw [PySem.ofString_length]
  exact int_text_length_le10 (k := 40) (by decide) (Nat.lt_of_lt_of_le h (by decide))
theorem log_str {i : Int} (h : i.natAbs < 10000000000000000000000000000000000000000) : i.natAbs.log2 < 1920 := by
  rcases Nat.eq_zero_or_pos i.natAbs with e | e
  · rw [e]; decide
  · refine (Nat.log2_lt (by omega)).mpr (Nat.lt_trans h ?_)
    decide +kernel
theorem sum_len {B : Nat} {ys : List Str} (h : ∀ y, y ∈ ys → y.length ≤ B) : (ys.map (·.length)).sum ≤ ys.length * B := PySem.StrLaws.sumLen_le ys h
end Fk

namespace Fk
open PySem PySem.Spec PyProof.Rows L2
/-! ## texts that are read -/
def IsStr (v : V) (H : Hp) (R : It → Hp → Prop) : Prop := ∃ x, v = .str x ∧ R (Its x) H
def oN : Option Int → V
  | none => .non
  | some i => .int i
theorem inV_oN : ∀ {xs : List (Option Int)}, inV .non (xs.map oN) = xs.any (·.isNone)
  | [] => by simp [inV]
  | y :: xs => by
    have ih := inV_oN (xs := xs)
    unfold inV at ih ⊢
    rw [List.map_cons, List.any_cons, List.any_cons, ih]
    cases y <;> rfl
theorem flat_oN {xs : List (Option Int)} : (xs.map oN).all flatV = true := by
  rw [List.all_map]
  exact List.all_eq_true.mpr fun x _ => by cases x <;> rfl
section
variable {σ : L2.St} {D H : Hp} {L : Own} {K : PySem.W.Frag} {Q : VK}
instance v_iStr {te : TE} {R : It → Hp → Prop} : VC (iStr te σ H R) (te σ H fun v H1 => IsStr v H1 R) := ⟨fun h => h⟩
instance v_isStr {z : Str} {R : It → Hp → Prop} : VC (IsStr (.str z) H R) (R (Its z) H) := ⟨fun h => ⟨z, rfl, h⟩⟩
instance v_lenS {z : Str} : VC (rLen K [.str z] H Q) (z.length ≤ 16777216 ∧ Q (.int z.length) H) := ⟨fun h => ⟨.str z, z.length, rfl, ⟨h.1, rfl⟩, h.2⟩⟩
instance v_inNL {a : Addr} {xs : List (Option Int)} [S : Sx D L H] [ha : Sl K D L a (xs.map oN)] : VC (rInX K .non (.ref a) H Q) (Q (.bl (xs.any (·.isNone))) H) :=
  ⟨fun k => ⟨a, xs.map oN, rfl, .inl (ha.pf.sq S), rfl, flat_oN, by rw [if_neg (fun z => nomatch z), inV_oN]; exact k⟩⟩
instance v_inNT {a : Addr} {xs : List (Option Int)} [S : Sx D L H] [ha : Kn D a (.tup (xs.map oN))] : VC (rInX K .non (.ref a) H Q) (Q (.bl (xs.any (·.isNone))) H) :=
  ⟨fun k => ⟨a, xs.map oN, rfl, .inr (sqT S ha.pf), rfl, flat_oN, by rw [if_neg (fun z => nomatch z), inV_oN]; exact k⟩⟩
end
theorem op_inDS {X : Cx} {A : Around} (h : A.units + 80 < cLine) (e : X.A.units = A.units := by rfl) : OpR X (compareOp .In) (rInD X.K) := op_inD (by rw [e]; omega)
/-! words and texts -/
def spT (z : Str) : List Str := Txt.split z (Str.ofString " ")
def clT (z : Str) : List Str := Txt.split z (Str.ofString ":")
theorem sp_join {ws : List Str} (hne : ws ≠ []) (h : ∀ w, w ∈ ws → 32 ∉ TL.tl w) : spT (Txt.join (Str.ofString " ") ws) = ws := TL.split_join (s := 32) (S := []) (by decide +kernel) (by decide +kernel) hne h
theorem cl_join {ws : List Str} (hne : ws ≠ []) (h : ∀ w, w ∈ ws → 58 ∉ TL.tl w) : clT (Txt.join (Str.ofString ":") ws) = ws := TL.split_join (s := 58) (S := []) (by decide +kernel) (by decide +kernel) hne h
def digB (c : Nat) : Bool := decide (c ∈ (Str.ofString "0123456789").cps.toList)
theorem figs_eq : (Str.ofString "0123456789").cps.toList = [48, 49, 50, 51, 52, 53, 54, 55, 56, 57] := by decide +kernel
theorem digB_iff {c : Nat} : digB c = true ↔ 48 ≤ c ∧ c ≤ 57 := by
  unfold digB
  rw [figs_eq, decide_eq_true_iff]
  simp only [List.mem_cons, List.not_mem_nil, or_false]
  omega
theorem all_dig {w : Str} : (TL.tl w).all digB = true ↔ NumText.AllDigits (TL.tl w) := by
  rw [List.all_eq_true]
  exact ⟨fun h c hc => digB_iff.mp (h c hc), fun h c hc => digB_iff.mpr (h c hc)⟩
open Classical in
/-- the number that a word writes -/
noncomputable def numR (w : Str) : Option Int :=
  if (1 ≤ w.length ∧ w.length ≤ 20) ∧ (TL.tl w).all digB = true ∧ ¬ ((TL.tl w).head? = some 48 ∧ w ≠ Str.ofString "0") then some ((NumText.digitsVal (TL.tl w) : Nat) : Int) else none
theorem numL_head : ∀ (n : Nat), 1 ≤ n → (TL.numL n).head? ≠ some 48 := by
  intro n
  induction n using Nat.strongRecOn with
  | _ n ih =>
    intro h1
    by_cases h : n < 10
    · rw [TL.numL_lt h]
      simp only [List.head?_cons]
      intro e
      have := Option.some.inj e
      omega
    · rw [TL.numL_step (by omega)]
      have h2 := ih (n / 10) (by omega) (by omega)
      have h3 := TL.numL_ne (n / 10)
      cases e : TL.numL (n / 10) with
      | nil => exact absurd e h3
      | cons c r =>
        rw [e] at h2
        exact h2
end Fk

namespace Fk
open PySem PySem.Spec PyProof.Rows L2
/-! ## sets of ints: set(t), sorted(set) -/
def SetIO (w : World) (a : Addr) (S : Int → Bool) (n : Nat) : HO := .ext fun h => SetR w h a S n
theorem setIO_new {P : Program} {w : World} {H : Hp} {h : Heap} {a : Addr} {S : Int → Bool} {n : Nat} (R : SetR w h a S n) : ObjOk P w H h a (SetIO w a S n) := by
  have R2 := R
  obtain ⟨o, es, ep, t, ho, r⟩ := R2
  exact ⟨R, ⟨o, ho⟩, fun h1 h2 p k => p.at k⟩
def rSetI (K : PySem.W.Frag) (w : World) : List V → Hp → VK → Prop := fun xs H Q => ∃ (l : Addr) (ns : List Int), xs = [.ref l] ∧ SqT K H l (ns.map V.int) ∧ ns.length ≤ 63 ∧
  ∀ a c, H a = none → c ≤ ns.length → Q (.ref a) (upd H a (SetIO w a (fun j => decide (j ∈ ns)) c))
theorem cr_setI {X : Cx} (hc : X.calm = true) : CallR X (.type "set") (rSetI X.K X.w) := by
  intro pins s σ H xs us Q I r h
  obtain ⟨l, ns, rfl, hl, hf, q⟩ := h
  rw [Vals.ref1 r]
  obtain ⟨its, rv, pt, hz⟩ := I.tuple hl
  have hi : IntsAre its.toArray.toList ns := ints_of_vals rv
  have hn : H s.heap.objs.size = none := I.hok.fresh (Nat.le_refl _)
  refine call_set_tupI ns (I.ok.hd hc) (show s.heap.IsTuple l its.toArray from pt) hi (by unfold scanBound; omega) fun h' tk c R1 hcn k => ?_
  exact ⟨.ref s.heap.objs.size, upd H s.heap.objs.size (SetIO X.w s.heap.objs.size (fun j => decide (j ∈ ns)) c), I.laid (t' := tk) k (Nat.le_refl _) (setIO_new R1), rfl, q _ c hn hcn⟩
def rSortedSI (w : World) : List V → Hp → VK → Prop := fun xs H Q => ∃ (a : Addr) (S : Int → Bool) (n : Nat), xs = [.ref a] ∧ H a = some (SetIO w a S n) ∧ n ≤ 63 ∧
  ∀ (p : Addr) (ns : List Int), H p = none → ns.Pairwise (· < ·) → (∀ k, k ∈ ns ↔ S k = true) → Q (.ref p) (upd H p (.lst (ns.map V.int)))
theorem cr_sortedSI {X : Cx} (hc : X.calm = true) : CallR X (.builtin "sorted") (rSortedSI X.w) := by
  intro pins s σ H xs us Q I r h
  obtain ⟨a, S, n, rfl, ha, h63, q⟩ := h
  have R0 : SetR X.w s.heap a S n := (I.hok a _ ha).1
  rw [Vals.ref1 r]
  refine sorted_set R0 (I.ok.hd hc) (by omega) fun s' p out c ns k g o hp hg hI hw hm hl => ?_
  have hn : H p = none := I.hok.fresh hp
  have hlen : (ns.map V.int).length ≤ sizeLine := by rw [List.length_map, sizeLine_eq]; omega
  have J : Inv X pins σ (upd H p (.lst (ns.map V.int))) { s with heap := s'.heap, gens := s'.gens, drawn := s'.drawn, toks := s'.toks } :=
    I.call (ch := []) (Un.laid k hp hn) (I.hok.laid k hp ⟨hlen, out.toList, c, vals_ints hI, hg⟩) (by rw [g]; exact I.bare) (fun _ z => nomatch z)
  have e : s' = { s with heap := s'.heap, gens := s'.gens, drawn := s'.drawn, toks := s'.toks } := by
    cases s'
    cases s
    cases o
    rfl
  rw [e]
  exact ⟨.ref p, _, J, rfl, q p ns hn hw hm⟩
section
variable {D H : Hp} {L : Own} {K : PySem.W.Frag} {Q : VK}
instance v_setI {w : World} {a : Addr} {xs : List V} {ns : List Int} [S : Sx D L H] [ha : Kn D a (.tup xs)] [c : IsC xs ns] : VC (rSetI K w [.ref a] H Q) (ns.length ≤ 63 ∧ ∀ p D' H' n, Sx D' L H' → Sm D D' → Kn D' p (SetIO w p (fun j => decide (j ∈ ns)) n) → n ≤ ns.length → Q (.ref p) H') :=
  ⟨fun h => ⟨a, ns, rfl, sqT S (by rw [← c.pf]; exact ha.pf), h.1, fun p n hp hn => h.2 p _ _ n (S.fix hp) ⟨same_upd (S.dH.free hp)⟩ ⟨upd_same⟩ hn⟩⟩
instance v_sortSI {w : World} {a : Addr} {F : Int → Bool} {n : Nat} [S : Sx D L H] [ha : Kn D a (SetIO w a F n)] : VC (rSortedSI w [.ref a] H Q) (n ≤ 63 ∧ ∀ ns : List Int, ns.Pairwise (· < ·) → (∀ k, k ∈ ns ↔ F k = true) → ∀ p H', Sx D ((p, .lst (ns.map V.int)) :: L) H' → Q (.ref p) H') :=
  ⟨fun h => ⟨a, F, n, rfl, S.dH _ _ ha.pf, h.1, fun p ns hp h1 h2 => h.2 ns h1 h2 p _ (S.new hp)⟩⟩
end
end Fk

namespace Fk
open PySem PySem.Spec PyProof.Rows L2
/-! ## zip of lists and tuples, whichever -/
def iZipX (K : PySem.W.Frag) (ta : TA) : TI := fun σ H R => ta σ H fun vs H1 => (IsZ K vs H1 R ∨ ∃ a b xs ys, vs = [.ref a, .ref b] ∧ SqT K H1 a xs ∧ SqL K H1 b ys ∧ R (Itzm K a b) H1) ∨ IsZL K vs H1 R
def IsZX (K : PySem.W.Frag) (vs : List V) (H1 : Hp) (R : It → Hp → Prop) : Prop := IsZM K vs H1 R ∨ IsZL K vs H1 R
theorem pi_zipX (K : PySem.W.Frag) {X : Cx} {e e2 : Expr} {ta : TA} {p pos tpos : Pos} {elts : List Expr} {kk : Nat} (hg : Gl X "zip") (hm : X.mg "zip" = none) (ha : PA X [e, e2] ta) (hK : X.K = K := by rfl)
    (hs : starEach [e, e2] X.env = (false, eval e X.env) :: starEach [e2] X.env := by rfl) (hpl : (backTo pos (starEach [e2] X.env)).any (·.1) = false := by rfl) :
    PI X (.Tuple elts kk tpos) (.Call (.Name "zip" p) [e, e2] [] pos) (iZipX K ta) := by
  subst hK
  refine ⟨fun pins s σ H R I h => ?_⟩
  refine Call_ (ld_blt I hg hm PyProof.Rows.boot_zip (PyProof.Rows.callWith_type1 (thn (ha.run pos pins s σ H _ I h) fun us s1 ⟨vs, H1, I1, r1, q1⟩ => ?_) hs hpl))
  have fresh5 : ∀ c, c ∈ [s1.heap.objs.size + 4, s1.heap.objs.size + 2, s1.heap.objs.size + 3, s1.heap.objs.size, s1.heap.objs.size + 1] → FpOk X pins H1 c := fun c hcm => by
    have e' : c = s1.heap.objs.size + 4 ∨ c = s1.heap.objs.size + 2 ∨ c = s1.heap.objs.size + 3 ∨ c = s1.heap.objs.size ∨ c = s1.heap.objs.size + 1 := by simpa using hcm
    have hle : s1.heap.objs.size ≤ c := by
      rcases e' with z | z | z | z | z
      · rw [z]; exact Nat.le_add_right _ _
      · rw [z]; exact Nat.le_add_right _ _
      · rw [z]; exact Nat.le_add_right _ _
      · rw [z]; exact Nat.le_refl _
      · rw [z]; exact Nat.le_add_right _ _
    exact I1.fpOk hle (I1.hok.fresh hle)
  rcases q1 with (⟨a, b, xs, ys, ex, q1⟩ | ⟨a, b, xs, ys, ex, hqx, hqy, q⟩) | ⟨a, b, xs, ys, ex, hqx, hqy, q⟩
  · subst ex
    cases r1 with
    | cons r rr =>
      cases rr with
      | cons r' rr =>
        cases rr
        cases r
        cases r'
        rcases q1 with ⟨hqx, hqy, q⟩ | ⟨hqx, hqy, q⟩
        · obtain ⟨its, rv, p1, _⟩ := I1.list hqx
          obtain ⟨its2, rv2, p2, _⟩ := I1.list hqy
          refine call_zip_2 p1.isList p2.isList fun h' hz hTI hTO h1 h2 hsz hk => wpAny_pyIter_zip hz ?_
          have I2 : Inv X pins σ H1 { s1 with heap := h' } := I1.kept (t' := s1.toks) hk
          exact ⟨s1.heap.objs.size + 4, [s1.heap.objs.size + 4, s1.heap.objs.size + 2, s1.heap.objs.size + 3, s1.heap.objs.size, s1.heap.objs.size + 1], _, _, H1, rfl, I2, turn_zip (PySem.W.ktu_apart s1.heap.objs.size a b p1.lt p2.lt), ⟨hz, hTI, ⟨_, _, hTO⟩, h1, h2⟩, fresh5, q⟩
        · obtain ⟨its, rv, p1, _⟩ := I1.tuple hqx
          obtain ⟨its2, rv2, p2, _⟩ := I1.tuple hqy
          obtain ⟨o1, ho1, _⟩ := id p1
          obtain ⟨o2, ho2, _⟩ := id p2
          refine RZ.call_zipT (show s1.heap.IsTuple a its.toArray from p1) (show s1.heap.IsTuple b its2.toArray from p2) fun h' hz hTI hTO h1 h2 hsz hk => wpAny_pyIter_zip hz ?_
          have I2 : Inv X pins σ H1 { s1 with heap := h' } := I1.kept (t' := s1.toks) hk
          exact ⟨s1.heap.objs.size + 4, [s1.heap.objs.size + 4, s1.heap.objs.size + 2, s1.heap.objs.size + 3, s1.heap.objs.size, s1.heap.objs.size + 1], _, _, H1, rfl, I2, RZ.turn_zipT (PySem.W.ktu_apart s1.heap.objs.size a b (Heap.lt_size ho1) (Heap.lt_size ho2)), ⟨hz, hTI, ⟨_, _, hTO⟩, h1, h2⟩, fresh5, q⟩
  · subst ex
    cases r1 with
    | cons r rr =>
      cases rr with
      | cons r' rr =>
        cases rr
        cases r
        cases r'
        obtain ⟨its, rv, p1, _⟩ := I1.tuple hqx
        obtain ⟨its2, rv2, p2, _⟩ := I1.list hqy
        obtain ⟨o1, ho1, _⟩ := id p1
        have la : a < s1.heap.objs.size := Heap.lt_size ho1
        have lb : b < s1.heap.objs.size := p2.lt
        refine zip_begins2 (begins_tuple a its.toArray) (begins_list b its2.toArray) (show s1.heap.IsTuple a its.toArray from p1) p2.isList fun h' hz hTI hTO h1 h2 hsz hk => wpAny_pyIter_zip hz ?_
        have I2 : Inv X pins σ H1 { s1 with heap := h' } := I1.kept (t' := s1.toks) hk
        exact ⟨s1.heap.objs.size + 4, [s1.heap.objs.size + 4, s1.heap.objs.size + 2, s1.heap.objs.size + 3, s1.heap.objs.size, s1.heap.objs.size + 1], _, _, H1, rfl, I2,
          turn_zipM (Nat.ne_of_lt la) (Nat.ne_of_lt (Nat.lt_succ_of_lt lb)) (zip_sep2 (N := s1.heap.objs.size) (fp1 := [a]) (fp2 := [b]) (fun c hc => by rw [List.mem_singleton.mp hc]; exact la) (fun c hc => by rw [List.mem_singleton.mp hc]; exact lb)),
          ⟨hz, hTI, ⟨_, _, hTO⟩, ⟨_, h1, rfl, rfl⟩, ⟨_, h2, rfl, rfl⟩⟩, fresh5, q⟩
  · subst ex
    cases r1 with
    | cons r rr =>
      cases rr with
      | cons r' rr =>
        cases rr
        cases r
        cases r'
        obtain ⟨its, rv, p1, _⟩ := I1.list hqx
        obtain ⟨its2, rv2, p2, _⟩ := I1.tuple hqy
        obtain ⟨o2, ho2, _⟩ := id p2
        have la : a < s1.heap.objs.size := p1.lt
        have lb : b < s1.heap.objs.size := Heap.lt_size ho2
        refine zip_begins2 (begins_list a its.toArray) (begins_tuple b its2.toArray) p1.isList (show s1.heap.IsTuple b its2.toArray from p2) fun h' hz hTI hTO h1 h2 hsz hk => wpAny_pyIter_zip hz ?_
        have I2 : Inv X pins σ H1 { s1 with heap := h' } := I1.kept (t' := s1.toks) hk
        exact ⟨s1.heap.objs.size + 4, [s1.heap.objs.size + 4, s1.heap.objs.size + 2, s1.heap.objs.size + 3, s1.heap.objs.size, s1.heap.objs.size + 1], _, _, H1, rfl, I2,
          turn_zipL (Nat.ne_of_lt la) (Nat.ne_of_lt (Nat.lt_succ_of_lt lb)) (zip_sep2 (N := s1.heap.objs.size) (fp1 := [a]) (fp2 := [b]) (fun c hc => by rw [List.mem_singleton.mp hc]; exact la) (fun c hc => by rw [List.mem_singleton.mp hc]; exact lb)),
          ⟨hz, hTI, ⟨_, _, hTO⟩, ⟨_, h1, rfl, rfl⟩, ⟨_, h2, rfl, rfl⟩⟩, fresh5, q⟩
section
variable {σ : L2.St} {D H : Hp} {L : Own} {K : PySem.W.Frag} {Q : VK}
instance v_zipX {tr : TA} {R : It → Hp → Prop} : VC (iZipX K tr σ H R) (tr σ H fun vs H1 => IsZX K vs H1 R) := ⟨fun h => h⟩
instance v_zipXLL {a b : Addr} {xs ys : List V} {R : It → Hp → Prop} [S : Sx D L H] [ha : Sl K D L a xs] [hb : Sl K D L b ys] : VC (IsZX K [.ref a, .ref b] H R) (R (Itz K a b) H) := ⟨fun h => .inl (VC.pf h)⟩
instance v_zipXTT {a b : Addr} {xs ys : List V} {R : It → Hp → Prop} [S : Sx D L H] [ha : Kn D a (.tup xs)] [hb : Kn D b (.tup ys)] : VC (IsZX K [.ref a, .ref b] H R) (R (RZ.ItzT K a b) H) := ⟨fun h => .inl (VC.pf h)⟩
instance v_zipXTL {a b : Addr} {xs ys : List V} {R : It → Hp → Prop} [S : Sx D L H] [ha : Kn D a (.tup xs)] [hb : Sl K D L b ys] : VC (IsZX K [.ref a, .ref b] H R) (R (Itzm K a b) H) := ⟨fun h => .inl (VC.pf h)⟩
instance v_zipXLT {a b : Addr} {xs ys : List V} {R : It → Hp → Prop} [S : Sx D L H] [ha : Sl K D L a xs] [hb : Kn D b (.tup ys)] : VC (IsZX K [.ref a, .ref b] H R) (R (Itzl K a b) H) := ⟨fun h => .inr (VC.pf h)⟩
/-! ## the least of what is a list or a tuple -/
instance v_minYK {a : Addr} {xs : List V} {ns : List Int} [S : Sx D L H] [ha : Ks D a xs] [c : IsC xs ns] : VC (rMinY K [.ref a] H Q) (0 < ns.length ∧ ∀ m, m ∈ ns → (∀ y, y ∈ ns → m ≤ y) → Q (.int m) H) := ⟨fun h => ha.pf.elim (fun k => have : Kn D a (.lst xs) := ⟨k⟩; VC.pf (g := rMinY K [.ref a] H Q) h) fun k => have : Kn D a (.tup xs) := ⟨k⟩; VC.pf (g := rMinY K [.ref a] H Q) h⟩
end
/-! ## a def as a thing: called where it was put -/
noncomputable def Cl.f {P : Program} {w : World} {K : PySem.W.Frag} {mg : Str → Option Value} {base : Heap} {CX : CXT} {k : Nat} {x : Str} {ps : List Str} {sp : Sp} (C : Cl P w K mg base CX k x ps sp) : Addr := C.ex.choose
theorem Cl.g {P : Program} {w : World} {K : PySem.W.Frag} {mg : Str → Option Value} {base : Heap} {CX : CXT} {k : Nat} {x : Str} {ps : List Str} {sp : Sp} (C : Cl P w K mg base CX k x ps sp) : mg x = some (.ref C.f) := let ⟨_, _, g, _⟩ := C.ex.choose_spec; g
def tCallE (f1 f2 : Addr) (s1 s2 : Sp) (tf : TE) (t : TA) : TE := fun σ H Q => tf σ H fun y H1 => (y = V.ref f1 ∧ t σ H1 fun vs H2 => s1 vs H2 Q E0) ∨ (y = V.ref f2 ∧ t σ H1 fun vs H2 => s2 vs H2 Q E0)
theorem pe_callE {X : Cx} {fe : Expr} {tf : TE} {x1 x2 : Str} {k1 k2 j : Nat} {p1 p2 : List Str} {s1 s2 : Sp} {e : Expr} {es : List Expr} {t : TA} {pos : Pos} (hf : PE X fe tf) (C1 : Cl X.prog X.w X.K X.mg X.base CX0 k1 x1 p1 s1) (C2 : Cl X.prog X.w X.K X.mg X.base CX0 k2 x2 p2 s2) (hr : Room j X.A) (hk1 : k1 ≤ j) (hk2 : k2 ≤ j) (ha : PA X (e :: es) t)
    (ht : eval (.Call fe (e :: es) [] pos) X.env = (do callWith pos (← eval fe X.env) [] (backTo pos (starEach (e :: es) X.env)) (backToKw pos (keywordEach [] X.env))) := by rfl)
    (he : starEach (e :: es) X.env = (false, eval e X.env) :: starEach es X.env := by rfl) (hpl : (backTo pos (starEach es X.env)).any (·.1) = false := by rfl) : PE X (.Call fe (e :: es) [] pos) (tCallE C1.f C2.f s1 s2 tf t) := by
  refine ⟨fun pins s σ H Q I h => ?_⟩
  refine Call_ (thn (hf.run pins s σ H _ I h) fun u sA ⟨y, H1, I1, ry, q⟩ => ?_) ht
  obtain ⟨fd1, F1, g1, kp1, hb1⟩ := C1.ex.choose_spec
  obtain ⟨fd2, F2, g2, kp2, hb2⟩ := C2.ex.choose_spec
  rcases q with ⟨ey, q⟩ | ⟨ey, q⟩
  · subst ey
    obtain rfl : u = Value.ref C1.f := ry
    refine PySem.W.callWith_K (h₀ := X.base) I1.ok.mod.kin kp1 (thn (ha.run pos pins sA σ _ _ I1 q) fun us s2 ⟨vs, H2, I2, r, q2⟩ => ⟨I2.kIn, ?_⟩) he hpl
    exact run_fn (dvs := []) F1 (hr.mono hk1) hb1 .nil pass0 I2 r (by rw [List.append_nil]; exact q2)
  · subst ey
    obtain rfl : u = Value.ref C2.f := ry
    refine PySem.W.callWith_K (h₀ := X.base) I1.ok.mod.kin kp2 (thn (ha.run pos pins sA σ _ _ I1 q) fun us s2 ⟨vs, H2, I2, r, q2⟩ => ⟨I2.kIn, ?_⟩) he hpl
    exact run_fn (dvs := []) F2 (hr.mono hk2) hb2 .nil pass0 I2 r (by rw [List.append_nil]; exact q2)
instance v_callE {σ : L2.St} {H : Hp} {Q : VK} {f1 f2 : Addr} {s1 s2 : Sp} {tf : TE} {t : TA} : VC (tCallE f1 f2 s1 s2 tf t σ H Q) (tf σ H fun y H1 => (y = V.ref f1 ∧ t σ H1 fun vs H2 => s1 vs H2 Q E0) ∨ (y = V.ref f2 ∧ t σ H1 fun vs H2 => s2 vs H2 Q E0)) := ⟨fun h => h⟩
end Fk

namespace Fk
open PySem PySem.Spec PyProof.Rows L2
/-! ## xs[i] += n, a list of mine, i no less than nought -/
def rIxA (K : PySem.W.Frag) : V → V → Hp → VK → Prop := fun x y H Q => ∃ p xs i v, x = .ref p ∧ y = .int i ∧ SqL K H p xs ∧ 0 ≤ i ∧ atI xs i = some v ∧ Q v H
theorem ix_aug {X : Cx} : PGet X (rIxA X.K) := by
  intro pins s σ H o i ov iv Q I ro ri h
  obtain ⟨p, xs, k, z, rfl, rfl, hq, h0, he, q⟩ := h
  cases ro
  obtain ⟨t, rfl⟩ := ri
  obtain ⟨its, r, pl, hz⟩ := I.list hq
  obtain ⟨j, h1, h2, h3, h4, h5⟩ := L2.atI_get he
  obtain ⟨w, ew, rw'⟩ := r.get h2
  have hl := r.length
  have hn := line63
  have hj : k.toNat = j := by
    rw [seqIndex_of h0 h5] at h1
    exact Option.some.inj h1
  exact wpAny_getItem_list pl.isList h0 (by omega) (by rw [hj]; simpa using ew) ⟨z, H, I, rw', q⟩
def IpI (f : Int → Int → Int) (x y : V) (H : Hp) (Q : VK) : Prop := ipI f x y H Q
section
variable {σ : L2.St} {D H : Hp} {L : Own} {K : PySem.W.Frag} {Q : VK} {nx bk ct : L2.St → Hp → Prop} {rt : VK}
instance v_augS {to ti te : TE} {tget : V → V → Hp → VK → Prop} {tip : TIp} {tset : TSet} : VC (tAugS to ti te tget tip tset ⟨nx, rt, bk, ct⟩ σ H) (to σ H fun o H1 => ti σ H1 fun i H2 => tget o i H2 fun x H3 => te σ H3 fun y H4 => tip x y H4 fun z H5 => tset o i z H5 fun H6 => nx σ H6) := ⟨fun h => h⟩
instance v_ipI {f : Int → Int → Int} {i j : Int} : VC (ipI f (.int i) (.int j) H Q) (Q (.int (f i j)) H) := ⟨fun h => ⟨i, j, rfl, rfl, h⟩⟩
instance v_ixA {a : Addr} {xs : List V} {i : Int} {v : V} [S : Sx D L H] [ha : Sl K D L a xs] [c : AtC xs i v] : VC (rIxA K (.ref a) (.int i) H Q) (0 ≤ i ∧ Q v H) := ⟨fun h => ⟨a, xs, i, v, rfl, rfl, ha.pf.sq S, h.1, c.pf, h.2⟩⟩
end
end Fk

namespace Fk
open PySem PySem.Spec PyProof.Rows L2 PySem.Calls PyProof.V
/-! ## dict(enumerate(xs)) of a list, d.pop(k), sorted(d.values()) -/
def enK : Nat → List V → List (Key × V)
  | _, [] => []
  | j, v :: vs => (Sum.inl (j : Int), v) :: enK (j + 1) vs
def enKV : Nat → List Value → List (Key × Value)
  | _, [] => []
  | j, v :: vs => (Sum.inl (j : Int), v) :: enKV (j + 1) vs
theorem enKV_rel : ∀ {vs : List V} {us : List Value} {j : Nat}, Vals vs us → KV (enK j vs) (enKV j us)
  | _, _, _, .nil => .nil
  | _, _, _, .cons r t => .cons ⟨rfl, r⟩ (enKV_rel t)
theorem enKV_get : ∀ {us : List Value} {j i : Nat} {u : Value}, us[i]? = some u → (enKV j us)[i]? = some (Sum.inl ((j + i : Nat) : Int), u)
  | y :: ys, j, 0, x, h => by cases h; rfl
  | y :: ys, j, i + 1, x, h => by
    have h : ys[i]? = some x := h
    show (enKV (j + 1) ys)[i]? = _
    rw [enKV_get h, show j + 1 + i = j + (i + 1) by omega]
theorem enKV_len : ∀ (us : List Value) (j : Nat), (enKV j us).length = us.length
  | [], _ => rfl
  | x :: xs, j => congrArg (· + 1) (enKV_len xs (j + 1))
theorem enK_len : ∀ (us : List V) (j : Nat), (enK j us).length = us.length
  | [], _ => rfl
  | x :: xs, j => congrArg (· + 1) (enK_len xs (j + 1))
theorem enK_key : ∀ {xs : List V} {j : Nat} {kv : Key × V}, kv ∈ enK j xs → ∃ i : Nat, j ≤ i ∧ kv.1 = Sum.inl (i : Int)
  | x :: xs, j, kv, h => by
    rcases List.mem_cons.mp h with h | h
    · exact ⟨j, Nat.le_refl _, by rw [h]⟩
    · obtain ⟨i, h1, h2⟩ := enK_key h
      exact ⟨i, by omega, h2⟩
theorem merge_en : ∀ (xs : List V) (j : Nat) (acc : List (Key × V)), (∀ kv, kv ∈ acc → ∃ i : Nat, i < j ∧ kv.1 = Sum.inl (i : Int)) → mergeK acc (enK j xs) = acc ++ enK j xs
  | [], j, acc, _ => by rw [show enK j [] = [] from rfl, List.append_nil]; rfl
  | x :: xs, j, acc, h => by
    have hn : (acc.any fun kv => decide (kv.1 = Sum.inl (j : Int))) = false := by
      rw [List.any_eq_false]
      intro kv hkv
      obtain ⟨i, h1, h2⟩ := h kv hkv
      rw [h2]
      simp only [decide_eq_true_eq, Sum.inl.injEq]
      omega
    have e : putK acc (Sum.inl (j : Int)) x = acc ++ [(Sum.inl (j : Int), x)] := by
      unfold putK
      rw [hn]
      rfl
    show mergeK (putK acc (Sum.inl (j : Int)) x) (enK (j + 1) xs) = _
    rw [e, merge_en xs (j + 1) _ (fun kv hkv => by
      rcases List.mem_append.mp hkv with g | g
      · obtain ⟨i, h1, h2⟩ := h kv g
        exact ⟨i, by omega, h2⟩
      · rw [List.mem_singleton.mp g]
        exact ⟨j, by omega, rfl⟩), List.append_assoc]
    rfl
def DEn (K : PySem.W.Frag) (vs : List V) (H1 : Hp) (Q : VK) : Prop := ∃ a xs, vs = [.ref a] ∧ SqL K H1 a xs ∧ ∀ d, H1 d = none → Q (.ref d) (upd H1 d (.dK (enK 0 xs)))
def tDictEn (K : PySem.W.Frag) (ta : TA) : TE := fun σ H Q => ta σ H fun vs H1 => DEn K vs H1 Q
theorem pe_dictEn (K : PySem.W.Frag) {X : Cx} {e : Expr} {ta : TA} {p p2 pos pos2 : Pos} (hc : X.calm = true) (hgd : Gl X "dict") (hmd : X.mg "dict" = none) (hge : Gl X "enumerate") (hme : X.mg "enumerate" = none) (ha : PA X [e] ta) (hK : X.K = K := by rfl)
    (hs1 : starEach [e] X.env = [(false, eval e X.env)] := by rfl) (hs2 : starEach [.Call (.Name "enumerate" p2) [e] [] pos2] X.env = [(false, eval (.Call (.Name "enumerate" p2) [e] [] pos2) X.env)] := by rfl) :
    PE X (.Call (.Name "dict" p) [.Call (.Name "enumerate" p2) [e] [] pos2] [] pos) (tDictEn K ta) := by
  subst hK
  refine ⟨fun pins s σ H Q I h => ?_⟩
  refine Call_ (ld_blt I hgd hmd PyProof.Rows.boot_dict (PyProof.Rows.callWith_type1 ?_ hs2 rfl))
  rw [hs2]
  show wpAny _ _ (spliced ((false, eval (.Call (.Name "enumerate" p2) [e] [] pos2) X.env) :: [])) _ _ s
  refine Calls.spliced_cons ?_
  refine Call_ (ld_blt I hge hme boot_enumerate (PyProof.Rows.callWith_type1 (thn (ha.run pos2 pins s σ H _ I h) fun us s1 ⟨vs, H1, I1, r1, a, xs, ex, hq, q⟩ => ?_) hs1 rfl))
  subst ex
  cases r1 with
  | cons r rr =>
    cases rr
    cases r
    obtain ⟨its, rv, p', hz⟩ := I1.list hq
    have la : a < s1.heap.objs.size := p'.lt
    refine call_enumerate_list p'.isList fun h' he hit hsz hk => ?_
    refine Calls.spliced_nil ?_
    have hl' : h'.IsList a its.toArray := p'.isList.at fun o x => hk a o x
    refine PySem.call_dict_pairs (K := Key) (knd := mixKind X.prog X.w) (kvs := enKV 0 its) (PairArg.enumerate (s1.heap.objs.size + 1) s1.heap.objs.size a (Nat.succ_ne_self _) (Nat.ne_of_lt (Nat.lt_succ_of_lt la)) (Nat.ne_of_lt la) its.toArray) (I1.ok.hd hc) ⟨⟨_, he⟩, hit, hl'⟩ ⟨by rw [enKV_len]; simp, fun i key v ⟨⟨t, ek⟩, ev⟩ => ?_⟩ ?_ fun h2 tk hd' k => ?_
    · refine ⟨Sum.inl (i : Int), ?_, ?_⟩
      · have := enKV_get (j := 0) (us := its) (i := i) (u := v) (by simpa using ev)
        rw [Nat.zero_add] at this
        exact this
      · rw [ek]
        exact kV_is (P := X.prog) (w := X.w) (k := Sum.inl (i : Int)) ⟨t, rfl⟩
    · have := rv.length
      simp only [List.size_toArray]
      omega
    · have hlv := rv.length
      have hm : (h'.objs.size == sysModules) = false := beq_eq_false_iff_ne.mpr (Nat.ne_of_gt (by rw [hsz]; exact Nat.lt_succ_of_lt (Nat.lt_succ_of_lt I1.big)))
      have e0 : mergeK [] (enK 0 xs) = enK 0 xs := by rw [merge_en xs 0 [] (fun kv h => nomatch h), List.nil_append]
      have hrel : KV (enK 0 xs) (merged [] (enKV 0 its)) := by
        have := KV.merge (enKV_rel (j := 0) rv) (.nil : KV [] [])
        rw [e0] at this
        exact this
      have hlen : (enK 0 xs).length ≤ sizeLine := by rw [enK_len]; exact hz
      refine ⟨.ref h'.objs.size, upd H1 h'.objs.size (.dK (enK 0 xs)), I1.laid (t' := tk) (h' := h2) (fun b o e => k b o (fun z => ?_) (hk b o e)) (by rw [hsz]; exact Nat.le_add_right _ _) (show ObjOk X.prog X.w _ _ _ (.dK (enK 0 xs)) from ⟨hlen, hm, merged [] (enKV 0 its), hrel, hd'⟩), rfl, q _ (I1.hok.fresh (by rw [hsz]; exact Nat.le_add_right _ _))⟩
      have hb := Heap.lt_size e
      have z2 : b = s1.heap.objs.size + 1 ∨ b = s1.heap.objs.size := by simpa using z
      rcases z2 with z | z
      · rw [z] at hb; exact absurd hb (Nat.not_lt.mpr (Nat.le_succ _))
      · rw [z] at hb; exact absurd hb (Nat.lt_irrefl _)
/-- sorted(d.values()), the values numbers -/
def rSortVs : List V → Hp → VK → Prop := fun xs H Q => ∃ (p a : Addr) (kvs : List (Int × Int)), xs = [.ref p] ∧ H p = some (valsO p a) ∧ Rd H a (.dK (kvs.map entI)) ∧
  ∀ (ys : List Int) (p : Addr), ys.Perm (kvs.map (·.2)) → ys.Pairwise (· ≤ ·) → H p = none → Q (.ref p) (upd H p (.lst (ys.map V.int)))
theorem cr_sortVs {X : Cx} (hcalm : X.calm = true) : CallR X (.builtin "sorted") rSortVs := by
  intro pins s σ H xs us Q I r q
  obtain ⟨p, a, kvs, ex, hp, hd, q⟩ := q
  subst ex
  obtain ⟨u, eu, rx⟩ := vals1 r
  subst eu
  cases rx
  have view : s.heap.IsValuesView p a := (show ObjOk X.prog X.w H s.heap p (valsO p a) from I.hok p _ hp).1
  obtain ⟨z, lo, vs, rel, dd⟩ := dk_rd I.hok hd
  obtain ⟨ep, hat⟩ := dd.dictAt
  have hl : vs.length = kvs.length := by have := Paired.length rel; rw [List.length_map] at this; exact this.symm
  rw [List.length_map] at z
  have h16 : vs.length ≤ sizeLine := by rw [hl]; exact z
  refine Calls.call_function_entry PyProof.Rows.kind_sorted PyProof.Rows.plain_sorted PyProof.Rows.entry_sorted (PyProof.Rows.args_sorted1 _) ?_
  unfold Builtin.«sorted»
  refine wpAny_bind (m := checkCount "sorted" 1 1 _) (wpAny_pure ?_)
  refine wpAny_bind (PySem.W.kdu_collect (A := X.A.in1) (PySem.W.kdl_values (prog := X.prog) (w := X.w) (knd := mixKind X.prog X.w) (r := p) (d := a) (kvs := vs) (ep := ep)) (I.ok.hd hcalm) ⟨view, hat⟩ h16 fun h' tk acc hk hacc => ?_)
  have hal : acc.toList.length = (kvs.map (·.2)).length := by rw [Array.length_toList, hacc.1, hl, List.length_map]
  have hS : IntsAre acc.toList (kvs.map (·.2)) := ints_each hal fun j v e => by
    obtain ⟨k, h1⟩ := hacc.2 j v (by rw [← Array.getElem?_toList]; exact e)
    obtain ⟨e0, he0, r1, r2⟩ := DX.pget rel h1
    rw [List.getElem?_map] at he0
    cases g : kvs[j]? with
    | none => rw [g] at he0; exact nomatch he0
    | some e =>
      rw [g] at he0
      have ee : entI e = e0 := Option.some.inj he0
      rw [← ee] at r2
      obtain ⟨t, ht⟩ := (show ∃ t, v = Value.int e.2 t from r2)
      exact ⟨e.2, t, by rw [List.getElem?_map, g]; rfl, ht⟩
  have I1 : Inv X pins σ H { s with heap := h', toks := tk } := I.kept hk
  have hz2 : acc.toList.length ≤ sizeLine := by rw [hal, List.length_map]; exact z
  refine wpAny_bind (wpAny_newList ?_ hz2)
  have hoL : (h'.push (seqObj "list" acc.toList.toArray 0)).get? h'.objs.size = some (seqObj "list" acc.toList.toArray 0) := Heap.get?_push_size _ rfl
  show wpAny _ _ _ _ _ { s with heap := h'.push (seqObj "list" acc.toList.toArray 0), toks := tk }
  have hn0 : H h'.objs.size = none := I1.hok.fresh (Nat.le_refl _)
  have hlen : ((kvs.map (·.2)).map V.int).length ≤ sizeLine := by rw [List.length_map, List.length_map]; exact z
  have I2 := I1.laid (a := h'.objs.size) (o := .lst ((kvs.map (·.2)).map V.int)) (h' := h'.push (seqObj "list" acc.toList.toArray 0)) (t' := tk) (fun _ _ q => Heap.get?_push_of_some _ q) (Nat.le_refl _)
    ⟨hlen, acc.toList, 0, vals_of_ints hS, Heap.get?_push_size _ rfl⟩
  refine wpAny_bind (wpAny_holding (wpAny_mono (mt_sortI (X := inX X) pins { s with heap := h'.push (seqObj "list" acc.toList.toArray 0), toks := tk } σ (upd H h'.objs.size (.lst ((kvs.map (·.2)).map V.int))) (.ref h'.objs.size) [] (.ref h'.objs.size) [] (fun _ H3 => Q (.ref h'.objs.size) H3) (inv_in I2) rfl .nil
    ⟨h'.objs.size, kvs.map (·.2), rfl, rfl, upd_same, fun ns' h1 h2 => ?_⟩) (fun u s' hu => ?_) (fun _ _ e => e)))
  · have e : upd (upd H h'.objs.size (.lst ((kvs.map (·.2)).map V.int))) h'.objs.size (.lst (ns'.map V.int)) = upd H h'.objs.size (.lst (ns'.map V.int)) := funext fun b => by
      by_cases c : b = h'.objs.size
      · rw [c, upd_same, upd_same]
      · rw [upd_ne c, upd_ne c, upd_ne c]
    rw [e]
    exact q ns' _ h1 h2 hn0
  · obtain ⟨v, H4, J, _, qq⟩ := hu
    exact wpAny_pure ⟨_, rfl, .ref h'.objs.size, H4, inv_out I.ok J, rfl, qq⟩
section
variable {σ : L2.St} {D H : Hp} {L : Own} {K : PySem.W.Frag} {Q : VK}
instance v_valsO {a : Addr} {kvs : List (Key × V)} {n : Nat} [S : Sx D L H] [h : Fi L a (.dK kvs) n] : VC (rValsK (.ref a) [] H Q) (∀ p D' H', Sx D' L H' → Sm D D' → Kn D' p (valsO p a) → Q (.ref p) H') :=
  ⟨fun k => ⟨a, kvs, rfl, rfl, .inl (S.at h.pf), fun p hp => k p _ _ (S.fix hp) ⟨same_upd (S.dH.free hp)⟩ ⟨upd_same⟩⟩⟩
instance v_tyKO {a : Addr} {kvs : List (Key × V)} {n : Nat} {p : Prop} [S : Sx D L H] [h : Fi L a (.dK kvs) n] : VC (tyKF (.ref a) H ∧ p) p := ⟨fun k => ⟨⟨a, kvs, rfl, .inl (S.at h.pf)⟩, k⟩⟩
instance v_sortVs {p a : Addr} {kvs : List (Int × Int)} {n : Nat} [S : Sx D L H] [hp : Kn D p (valsO p a)] [h : Fi L a (.dK (kvs.map entI)) n] : VC (rSortVs [.ref p] H Q) (∀ ys : List Int, ys.Perm (kvs.map (·.2)) → ys.Pairwise (· ≤ ·) → ∀ l H', Sx D ((l, .lst (ys.map V.int)) :: L) H' → Q (.ref l) H') :=
  ⟨fun k => ⟨p, a, kvs, rfl, S.dH _ _ hp.pf, .inl (S.at h.pf), fun ys l h1 h2 hl => k ys h1 h2 l _ (S.new hl)⟩⟩
def DPo (ty : TE) (σ : L2.St) (x : V) (H1 : Hp) (Q : VK) : Prop := ∃ a, x = .ref a ∧ IsD H1 a ∧ ty σ H1 fun y H2 => ∃ kvs k v, H2 a = some (.dK kvs) ∧ y = kV k ∧ valV kvs k = some v ∧ Q v (upd H2 a (.dK (dropK kvs k)))
def DPo2 (a : Addr) (y : V) (H2 : Hp) (Q : VK) : Prop := ∃ kvs k v, H2 a = some (.dK kvs) ∧ y = kV k ∧ valV kvs k = some v ∧ Q v (upd H2 a (.dK (dropK kvs k)))
instance v_dpop1 {td ty : TE} : VC (tDPop1 td ty σ H Q) (td σ H fun x H1 => DPo ty σ x H1 Q) := ⟨fun h => h⟩
instance v_dpo {a : Addr} {ty : TE} {kvs : List (Key × V)} {n : Nat} [S : Sx D L H] [h : Fi L a (.dK kvs) n] : VC (DPo ty σ (.ref a) H Q) (ty σ H fun y H2 => DPo2 a y H2 Q) := ⟨fun k => ⟨a, rfl, .inl ⟨kvs, .inl (S.at h.pf)⟩, k⟩⟩
instance v_dpo2 {a : Addr} {kvs : List (Key × V)} {n : Nat} {i : Int} {v : V} {L' : Own} [S : Sx D L H] [h : Fi L a (.dK kvs) n] [c : DvC kvs i v] [e : Se L n (a, .dK (dropK kvs (Sum.inl i))) L'] : VC (DPo2 a (.int i) H Q) (∀ H', Sx D L' H' → Q v H') :=
  ⟨fun k => ⟨kvs, Sum.inl i, v, S.at h.pf, rfl, c.pf, k _ (by rw [← e.pf]; exact S.put _ h.pf)⟩⟩
instance v_dictEn {ta : TA} : VC (tDictEn K ta σ H Q) (ta σ H fun vs H1 => DEn K vs H1 Q) := ⟨fun h => h⟩
instance v_dEn {a : Addr} {xs : List V} [S : Sx D L H] [ha : Sl K D L a xs] : VC (DEn K [.ref a] H Q) (∀ d H', Sx D ((d, .dK (enK 0 xs)) :: L) H' → Q (.ref d) H') := ⟨fun k => ⟨a, xs, rfl, ha.pf.sq S, fun d hd => k d _ (S.new hd)⟩⟩
end
end Fk

namespace Fk
open PySem PySem.Spec PyProof.Rows L2
/-! ## list + list, whichever lists (the law's script, too) -/
def rCatQ (K : PySem.W.Frag) : R2 := fun x y H Q => ∃ l b xs zs, x = .ref l ∧ y = .ref b ∧ SqL K H l xs ∧ SqL K H b zs ∧ xs.length + zs.length ≤ sizeLine ∧ ∀ p, H p = none → Q (.ref p) (upd H p (.lst (xs ++ zs)))
theorem op_catQ {X : Cx} : OpR X (binaryOp .Add) (rCatQ X.K) := by
  intro pins s σ H x y v u Q I rx ry h
  obtain ⟨l, b, xs, zs, rfl, rfl, hH, hB, hz, q⟩ := h
  cases rx
  cases ry
  obtain ⟨its, r, ⟨⟨cls, dd, data, sl⟩, n, ho, hc, hd0, hd⟩, hl⟩ := I.list hH
  obtain ⟨its2, r2, ⟨⟨cls2, dd2, data2, sl2⟩, n2, ho2, hc2, hd02, hd2⟩, hl2⟩ := I.list hB
  simp only at hc hd hc2 hd2
  subst hc hd hc2 hd2
  have e1 := r.length
  have e2 := r2.length
  have ea : its.toArray ++ its2.toArray = (its ++ its2).toArray := by simp
  refine concat_meets ⟨_, ho, rfl⟩ ⟨_, ho2, rfl⟩ noFill_list_add seq_list_add PySem.F.slot_list_add PySem.F.entry_list_add (PySem.F.args_list_add_2 _ _) (list_addW l b its.toArray its2.toArray n n2 dd dd2 sl sl2 (by rw [List.size_toArray, List.size_toArray]; omega)) ⟨ho, ho2, ?_⟩
  rw [ea]
  exact ⟨.ref _, _, I.lnew (t' := s.toks) (r.append r2) (by rw [List.length_append]; omega), rfl, q _ I.fresh⟩
instance v_catQ {D H : Hp} {L : Own} {K : PySem.W.Frag} {Q : VK} {a b : Addr} {xs ys : List V} [S : Sx D L H] [ha : Sl K D L a xs] [hb : Sl K D L b ys] : VC (rCatQ K (.ref a) (.ref b) H Q) (xs.length + ys.length ≤ 16777216 ∧ ∀ p H', Sx D ((p, .lst (xs ++ ys)) :: L) H' → Q (.ref p) H') :=
  ⟨fun h => ⟨a, b, xs, ys, rfl, rfl, ha.pf.sq S, hb.pf.sq S, h.1, fun p hp => h.2 p _ (S.new hp)⟩⟩
instance v_pow_10_11 {H : Hp} {Q : VK} : VC (rI CPow (fun i j => .int (i ^ j.toNat)) (.int 10) (.int 11) H Q) (Q (.int 100000000000) H) := ⟨fun k => ⟨10, 11, rfl, rfl, ⟨by decide, by decide, by decide⟩, k⟩⟩
/-- a, b = x + .., y + .. with plain local names: stored the other way about -/
theorem sw_two {x y u : Str} {px py pt pu pa pb : Pos} {v bl br : Expr} {o1 o2 : Operator} {kt k2 pt2} {env : Env} (hb : env.blockKind = .function) (hl : (py.line == px.line) = true) (hx : env.scope.names.lookup x = some .local) (hy : env.scope.names.lookup y = some .local) (hne : (x == y) = false)
    (hc : (u == Str.ofString "__debug__") = false) :
    swappedStores [.Tuple [.Name x px, .Name y py] kt pt] (.Tuple [.BinOp (.Name u pu) o1 v pa, .BinOp bl o2 br pb] k2 pt2) env = pure (some [x, y]) := by
  unfold swappedStores
  have e1 : (env.blockKind != .function) = false := by rw [hb]; rfl
  have kx : env.kindOf x = some .local := hx
  have ky : env.kindOf y = some .local := hy
  have e2 : (px.line == px.line) = true := by simp
  have hne' : (y == x) = false := by
    rw [beq_eq_false_iff_ne] at hne ⊢
    exact fun h => hne h.symm
  have e3 : ([.BinOp (.Name u pu) o1 v pa, .BinOp bl o2 br pb] : List Expr).all (constantsAlone 8) = false := by
    simp only [List.all_cons, constantsAlone]
    rw [show (u == ("__debug__" : Str)) = false from hc]
    rfl
  have e4 : List.filterMap (fun x_1 => match x_1 with | Expr.Name id pos => if (env.kindOf id == some NameKind.local && pos.line == px.line) = true then some id else none | x => none) [Expr.Name x px, Expr.Name y py] = [x, y] := by
    simp only [List.filterMap_cons, kx, ky, e2, hl]
    rfl
  have e5 : [x, y].eraseDups = [x, y] := by
    rw [List.eraseDups_cons, List.filter_cons, if_pos (by rw [hne']; rfl)]
    rfl
  simp only [e1, e3]
  show (if _ then _ else if _ then _ else if ((List.filterMap (fun x_1 => match x_1 with | Expr.Name id pos => if (env.kindOf id == some NameKind.local && pos.line == px.line) = true then some id else none | x => none) [Expr.Name x px, Expr.Name y py]).length != 2 || (List.filterMap (fun x_1 => match x_1 with | Expr.Name id pos => if (env.kindOf id == some NameKind.local && pos.line == px.line) = true then some id else none | x => none) [Expr.Name x px, Expr.Name y py]).eraseDups.length != (List.filterMap (fun x_1 => match x_1 with | Expr.Name id pos => if (env.kindOf id == some NameKind.local && pos.line == px.line) = true then some id else none | x => none) [Expr.Name x px, Expr.Name y py]).length) then _ else _) = _
  rw [e4, e5]
  exact congrArg (fun l => (pure (some l) : Sem (Option (List Str)))) e4
end Fk

namespace Fk
open PySem PySem.Spec PyProof.Rows L2 HT
section
variable {prog : Program} {w : World} {A : Around} {E : Value → Shared → Prop} {s : Shared}
theorem places_rev (n : Nat) : Builtin.Slice.slicePlaces ((n : Int) - 1) (-1) (-1) = n := by
  unfold Builtin.Slice.slicePlaces
  have h1 : ¬ ((-1 : Int) > 0) := by omega
  simp only [h1, if_false, Int.neg_neg, Int.ediv_one]
  split <;> omega
theorem sliceApplied_rev {sl : Addr} {vl vu vs : Value} {n : Nat} {Q : Int × Int × Nat → Shared → Prop} (hs : s.heap.IsSliceOf sl vl vu vs) (pl : IsPart vl none) (pu : IsPart vu none) (ps : IsPart vs (some (-1)))
    (h : Q ((n : Int) - 1, -1, n) s) : wpAny (model prog w) A (Builtin.Slice.sliceApplied (.ref sl) (pure (n : Int))) Q E s := by
  obtain ⟨os, hos, hcs, hds⟩ := id hs
  unfold Builtin.Slice.sliceApplied Builtin.Slice.sliceFields
  refine wpAny_bind (wpAny_bind (wpAny_field hos hds (x := vl) rfl (wpAny_bind (wpAny_field hos hds (x := vu) rfl (wpAny_bind (wpAny_field hos hds (x := vs) rfl (wpAny_pure ?_)))))))
  refine wpAny_bind (slicePart_ ps ?_)
  show wpAny _ _ (if ((-1 : Int) == 0) = true then _ else _) _ _ s
  rw [if_neg (by decide)]
  refine wpAny_bind (slicePart_ pl (wpAny_bind (slicePart_ pu (wpAny_bind (wpAny_pure ?_)))))
  show wpAny _ _ (match Builtin.Slice.sliceAdjust none none (-1) (n : Int) with | (lo, hi) => pure (lo, (-1 : Int), Builtin.Slice.slicePlaces lo hi (-1))) _ _ s
  have e : Builtin.Slice.sliceAdjust none none (-1) (n : Int) = ((n : Int) - 1, -1) := by
    unfold Builtin.Slice.sliceAdjust
    simp
  rw [e]
  show wpAny _ _ (pure ((n : Int) - 1, (-1 : Int), Builtin.Slice.slicePlaces ((n : Int) - 1) (-1) (-1))) _ _ s
  rw [places_rev]
  exact wpAny_pure h
theorem fm_congr {α β : Type} {f g : α → Option β} : ∀ {l : List α}, (∀ x, x ∈ l → f x = g x) → l.filterMap f = l.filterMap g
  | [], _ => rfl
  | x :: l, h => by
    rw [List.filterMap_cons, List.filterMap_cons, h x List.mem_cons_self, fm_congr fun y hy => h y (List.mem_cons_of_mem _ hy)]
theorem pick_rev (xs : Array Value) : ((List.range xs.size).filterMap fun (m : Nat) => xs[(((xs.size : Int) - 1) + (m : Int) * (-1)).toNat]?).toArray = xs.toList.reverse.toArray := by
  have := pick_gen xs.toList.reverse.toArray 0 xs.size
  rw [show ((xs.toList.reverse.toArray.toList.drop 0).take xs.size) = xs.toList.reverse by
    show (xs.toList.reverse).take xs.size = _
    rw [List.take_of_length_le (by rw [List.length_reverse, Array.length_toList]; exact Nat.le_refl _)]] at this
  rw [← this]
  refine congrArg List.toArray (fm_congr fun m hm => ?_)
  have hm := List.mem_range.mp hm
  rw [show (((xs.size : Int) - 1) + (m : Int) * (-1)).toNat = xs.size - 1 - m by omega, show (((0 : Nat) : Int) + (m : Int) * 1).toNat = m by omega]
  have e2 : xs.toList.reverse.toArray[m]? = xs.toList.reverse[m]? := by simp
  rw [e2, List.getElem?_reverse (by rw [Array.length_toList]; exact hm), Array.length_toList, Array.getElem?_toList]
theorem getItem_tuple_rev {t sl : Addr} {items : Array Value} {vl vu vs : Value} {Q : Value → Shared → Prop} (ht : IsTup s.heap t items) (hs : s.heap.IsSliceOf sl vl vu vs) (pl : IsPart vl none) (pu : IsPart vu none) (ps : IsPart vs (some (-1)))
    (h : Q (.ref s.heap.objs.size) { s with heap := s.heap.push { cls := .type "tuple", data := .seq items.toList.reverse.toArray } })
    (hsz : items.size ≤ sizeLine) : wpAny (model prog w) A (getItem (.ref t) (.ref sl)) Q E s := by
  have htake : sizeOk (.seq items.toList.reverse.toArray) := by
    show items.toList.reverse.toArray.size ≤ sizeLine
    rw [List.size_toArray, List.length_reverse, Array.length_toList]
    omega
  obtain ⟨os, hos, hcs, hds⟩ := id hs
  have hTs : s.TypeIs (.ref sl) "slice" := ⟨os, hos, hcs⟩
  unfold getItem
  try with_reducible refine wpAny_holding ?_
  first | refine wpAny_bind (wpAny_pure ?_) | skip
  refine wpAny_bind (wpAny_sequenceKey ht.typeIs (by decide) ?_)
  refine wpAny_bind (wpAny_callSpecial?_slot (name := Str.ofString "__getitem__") ht.typeIs PyProof.Rows.slot_tuple_getitem
    (wpAny_call_entry PyProof.Rows.slot_tuple_getitem ht.typeIs entry_tuple_getitem ?_ (args_tuple_getitem _ _)))
  show wpAny _ _ (Builtin.Tuple.tupleItemsOf (.ref t) >>= _) _ _ s
  refine wpAny_bind (tupleItemsOf_ ht ?_)
  refine wpAny_bind (wpAny_typeOf hTs ?_)
  rw [if_pos (by decide)]
  refine wpAny_bind (sliceApplied_rev hs pl pu ps ?_)
  have hno : ¬ ((((items.size : Int) - 1) == 0 && (-1 : Int) == 1 && items.size == items.size) = true) := by
    rw [show ((-1 : Int) == 1) = false from rfl, Bool.and_false, Bool.false_and]
    exact Bool.false_ne_true
  show wpAny _ _ (if (((items.size : Int) - 1) == 0 && (-1 : Int) == 1 && items.size == items.size) = true then _ else _) _ _ s
  rw [if_neg hno, pick_rev]
  first
    | exact wpAny_bind (m := Builtin.Tuple.tupleExact _) (wpAny_newObj_type (wpAny_pure ⟨_, rfl, wpAny_pure h⟩) htake)
    | exact wpAny_bind (m := Builtin.Tuple.tupleExact _) (wpAny_newObj_type (wpAny_bind (wpAny_pure (wpAny_pure ⟨_, rfl, wpAny_pure h⟩))) htake)
    | exact wpAny_bind (wpAny_bind (m := Builtin.Tuple.tupleExact _) (wpAny_newObj_type (wpAny_pure (wpAny_pure ⟨_, rfl, wpAny_pure h⟩)) htake))
    | exact wpAny_bind (wpAny_bind (m := Builtin.Tuple.tupleExact _) (wpAny_newObj_type (wpAny_pure ⟨_, rfl, wpAny_pure h⟩) htake))
end
/-! ### t[::-1] -/
section
variable {X : Cx}
def tRevT (K : PySem.W.Frag) (te : TE) : TE := fun σ H Q => te σ H fun x H1 => ∃ a xs, x = .ref a ∧ SqT K H1 a xs ∧ ∀ p, H1 p = none → Q (.ref p) (upd H1 p (.tup xs.reverse))
theorem pe_revT {e : Expr} {te : TE} {k : Nat} {p1 p2 p3 pos : Pos} (he : PE X e te) : PE X (.Subscript e (.Slice none none (some (.UnaryOp .USub (.Constant (.int 1) k p1) p2)) p3) pos) (tRevT X.K te) := by
  refine ⟨fun pins s σ H Q I h => ?_⟩
  refine Subscript_ (thn (he.run pins s σ H _ I h) fun v s1 ⟨x, H1, I1, r1, q1⟩ => ?_)
  obtain ⟨a, xs, ex, hx, q⟩ := q1
  subst ex
  cases r1
  have hst : PO X (some (.UnaryOp .USub (.Constant (.int 1) k p1) p2)) (tPart (tUn (rU fun i => .int (-i)) (tC (.int 1)))) := po_some (pe_un un_neg pe_int)
  refine wpAny_Slice (thn (po_none.run pins s1 σ H1 (fun o H2 => o = none ∧ H2 = H1) I1 ⟨rfl, rfl⟩) fun vl s2 ⟨l, H2, I2, pl, el, e2⟩ => ?_)
  subst el e2
  refine thn (po_none.run pins s2 σ H2 (fun o H3 => o = none ∧ H3 = H2) I2 ⟨rfl, rfl⟩) fun vu s3 ⟨u, H3, I3, pu, eu, e3⟩ => ?_
  subst eu e3
  refine thn (hst.run pins s3 σ H3 (fun o H4 => o = some (-1) ∧ H4 = H3) I3 ⟨1, rfl, -1, rfl, rfl, rfl⟩) fun vs s4 ⟨o, H4, I4, ps, eo, e4⟩ => ?_
  subst eo e4
  have I5 : Inv X pins σ H4 { s4 with heap := s4.heap.push { cls := .type "slice", data := .fields #[vl, vu, vs] } } := I4.kept (t' := s4.toks) fun b ob q => Heap.get?_push_of_some _ q
  obtain ⟨its, r, ht, hz⟩ := I5.tuple hx
  have hlen := r.length
  show wpAny (model X.prog X.w) X.A (subscriptTail e (.Slice none none (some (.UnaryOp .USub (.Constant (.int 1) k p1) p2)) p3) (.ref a) (.ref s4.heap.objs.size)) (EP X pins σ Q) X.xe { s4 with heap := s4.heap.push { cls := .type "slice", data := .fields #[vl, vu, vs] } }
  refine tail_any (ops := [.ref a, .ref s4.heap.objs.size]) ht.typeIs PyProof.Rows.slot_tuple_getitem.lookup ?_ (by with_unfolding_all rfl)
  refine getItem_tuple_rev ht (Heap.IsSliceOf.new _ vl vu vs) pl pu ps ?_ (by rw [List.size_toArray]; omega)
  refine ⟨.ref _, _, I5.laid (t' := s4.toks) (o := .tup xs.reverse) (fun b ob q => Heap.get?_push_of_some _ q) (Nat.le_refl _) ?_, rfl, q _ (I5.hok.fresh (Nat.le_refl _))⟩
  exact ⟨by rw [List.length_reverse]; exact hz, _, r.reverse, IsTup.new _ _⟩
end
section
variable {σ : L2.St} {D H : Hp} {L : Own} {K : PySem.W.Frag} {Q : VK}
def IsRvT (K : PySem.W.Frag) (x : V) (H1 : Hp) (Q : VK) : Prop := ∃ a xs, x = .ref a ∧ SqT K H1 a xs ∧ ∀ p, H1 p = none → Q (.ref p) (upd H1 p (.tup xs.reverse))
instance v_rvT0 {te : TE} : VC (tRevT K te σ H Q) (te σ H fun x H1 => IsRvT K x H1 Q) := ⟨fun h => h⟩
instance v_rvT1 {a : Addr} {xs : List V} [S : Sx D L H] [ha : Kn D a (.tup xs)] : VC (IsRvT K (.ref a) H Q) (∀ p D' H', Sx D' L H' → Sm D D' → Kn D' p (.tup xs.reverse) → Q (.ref p) H') := ⟨fun h => ⟨a, xs, rfl, sqT S ha.pf, fun p hp => h p _ _ (S.fix hp) ⟨same_upd (S.dH.free hp)⟩ ⟨upd_same⟩⟩⟩
end
end Fk

namespace Fk
open PySem PySem.Spec PyProof.Rows L2 PySem.Calls PyProof.V
/-! ## dict(enumerate(t)) of a tuple: the list's facts of the library turned to tuples -/
section
variable {prog : Program} {w : World} {A : Around} {E : Value → Shared → Prop} {s : Shared}
theorem enumT_next_held {e it l T : Addr} {i : Nat} {items : Array Value} {x old : Value} {f : Bool} {oT : Obj} {Q : Value → Shared → Prop}
    (he : IsEnumHeld s.heap e it i old T f) (hT : s.heap.get? T = some oT) (hTe : T ≠ e) (hTi : T ≠ it) (hit : s.heap.IsTupleIter it l i) (hl : s.heap.IsTuple l items) (hx : items[i]? = some x) (hne : e ≠ it)
    (hQ : ∀ h', IsEnumHeld h' e it ((i : Int) + 1) old T true → h'.IsTupleIter it l (i + 1) →
      h'.get? s.heap.objs.size = some { cls := .type "tuple", data := .seq #[.int i s.toks, x] } → h'.objs.size = s.heap.objs.size + 1 →
      (∀ b o, b ≠ e → b ≠ it → s.heap.get? b = some o → h'.get? b = some o) → Q (.ref s.heap.objs.size) { s with heap := h', toks := s.toks + 1 }) :
    wpAny (model prog w) A (Builtin.«enumerate.__next__» ⟨[.ref e], []⟩) (fun fin s' => ∃ v, fin = .done (.ret v) ∧ Q v s') E s := by
  obtain ⟨hp, g, d, tk, os⟩ := s
  show wpAny _ _ (field (.ref e) 2 >>= _) _ _ _
  refine wpAny_bind (wpAny_field he rfl (x := .ref it) rfl ?_)
  refine wpAny_bind (wpAny_nextOf_tuple_item hit hl hx fun h₁ hit₁ hs₁ => ?_)
  replace hs₁ : Heap.SameBut it hp h₁ := hs₁
  have he₁ : IsEnumHeld h₁ e it i old T f := (hs₁.2 e hne).trans he
  show wpAny _ _ (field (.ref e) 3 >>= _) _ _ ⟨h₁, g, d, tk, os⟩
  refine wpAny_bind (wpAny_field he₁ rfl (x := rawInt i) rfl ?_)
  show wpAny _ _ (field (.ref e) 4 >>= _) _ _ ⟨h₁, g, d, tk, os⟩
  refine wpAny_bind (wpAny_field he₁ rfl (x := .none) rfl ?_)
  show wpAny _ _ (mkInt i >>= _) _ _ ⟨h₁, g, d, tk, os⟩
  refine wpAny_bind (wpAny_mkInt ?_)
  show wpAny _ _ (setField (.ref e) 3 (rawInt ((i : Int) + 1)) >>= _) _ _ ⟨h₁, g, d, tk + 1, os⟩
  refine wpAny_bind (wpAny_setField_rec he₁ (by simp) fun h₂ he₂ hs₂ => ?_)
  replace hs₂ : Heap.SameBut e h₁ h₂ := hs₂
  replace he₂ : IsEnumHeld h₂ e it ((i : Int) + 1) old T f := he₂
  show wpAny _ _ (setField (.ref e) 4 .none >>= _) _ _ ⟨h₂, g, d, tk + 1, os⟩
  refine wpAny_bind (wpAny_setField_rec he₂ (by simp) fun h₃ he₃ hs₃ => ?_)
  replace hs₃ : Heap.SameBut e h₂ h₃ := hs₃
  replace he₃ : IsEnumHeld h₃ e it ((i : Int) + 1) old T f := he₃
  show wpAny _ _ (newTuple [.int i tk, x] >>= _) _ _ ⟨h₃, g, d, tk + 1, os⟩
  refine wpAny_bind (wpAny_newTuple ?_)
  have he₄ : IsEnumHeld (h₃.push { cls := .type "tuple", data := .seq #[.int i tk, x] }) e it ((i : Int) + 1) old T f := Heap.get?_push_of_some _ he₃
  generalize hh₄ : h₃.push { cls := .type "tuple", data := .seq #[.int i tk, x] } = h₄ at he₄
  have hsz : h₃.objs.size = hp.objs.size := by rw [hs₃.1, hs₂.1, hs₁.1]
  have hel : e < hp.objs.size := Heap.lt_size he
  have ht₄ : h₄.get? hp.objs.size = some { cls := .type "tuple", data := .seq #[.int i tk, x] } := by rw [← hh₄, ← hsz]; exact Heap.get?_push_size _ rfl
  have hz₄ : h₄.objs.size = hp.objs.size + 1 := by rw [← hh₄, Heap.size_push, hsz]
  have hk₄ : ∀ b o, b ≠ e → b ≠ it → hp.get? b = some o → h₄.get? b = some o := fun b o hbe hbi hb => by
    rw [← hh₄]; exact Heap.get?_push_of_some _ (hs₃.extBut b o hbe (hs₂.extBut b o hbe (hs₁.extBut b o hbi hb)))
  have hit₄ : h₄.IsTupleIter it l (i + 1) := by
    rw [← hh₄]; obtain ⟨o, ho, r⟩ := (hit₁.extBut hs₂.extBut (Ne.symm hne)).extBut hs₃.extBut (Ne.symm hne); exact ⟨o, Heap.get?_push_of_some _ ho, r⟩
  show wpAny _ _ (Builtin.SmallTypes.ownedTupleIsFree (.ref e) >>= _) _ _ ⟨h₄, g, d, tk + 1, os⟩
  rw [hsz]
  clear hh₄ he₃ hs₃ he₂ hs₂ he₁ hs₁ hit₁ hsz h₃ h₂ h₁
  refine wpAny_bind (wpAny_tupleHeld_enum (s := ⟨h₄, g, d, tk + 1, os⟩) he₄ (hk₄ T oT hTe hTi hT) fun h₅ he₅ hs₅ => ?_)
  replace hs₅ : Heap.SameBut e h₄ h₅ := hs₅
  simp only [Bool.false_eq_true, if_false]
  refine wpAny_pure ⟨_, rfl, hQ h₅ he₅ (hit₄.extBut hs₅.extBut (Ne.symm hne)) (hs₅.extBut _ _ (Nat.ne_of_gt hel) ht₄) ?_ fun b o hbe hbi hb => hs₅.extBut b o hbe (hk₄ b o hbe hbi hb)⟩
  show h₅.objs.size = hp.objs.size + 1
  rw [hs₅.1, hz₄]
theorem enumT_item_held {e it l T : Addr} {i : Nat} {items : Array Value} {x old : Value} {f : Bool} {oT : Obj} {Q : Option Value → Shared → Prop}
    (he : IsEnumHeld s.heap e it i old T f) (hT : s.heap.get? T = some oT) (hTe : T ≠ e) (hTi : T ≠ it) (hit : s.heap.IsTupleIter it l i) (hl : s.heap.IsTuple l items) (hx : items[i]? = some x) (hne : e ≠ it)
    (hQ : ∀ h', IsEnumHeld h' e it ((i : Int) + 1) old T true → h'.IsTupleIter it l (i + 1) →
      h'.get? s.heap.objs.size = some { cls := .type "tuple", data := .seq #[.int i s.toks, x] } → h'.objs.size = s.heap.objs.size + 1 →
      (∀ b o, b ≠ e → b ≠ it → s.heap.get? b = some o → h'.get? b = some o) → Q (some (.ref s.heap.objs.size)) { s with heap := h', toks := s.toks + 1 }) :
    wpAny (model prog w) A (pyNext (.ref e)) Q E s := by
  have hTy : s.TypeIs (.ref e) "enumerate" := ⟨_, he, rfl⟩
  unfold pyNext
  exact wpAny_bind (wpAny_attempt (wpAny_callSpecial?_slot (name := Str.ofString "__next__") hTy F.slot_enumerate_next
    (wpAny_call_entry F.slot_enumerate_next hTy F.entry_enumerate_next
      (enumT_next_held he hT hTe hTi hit hl hx hne fun h' a1 a2 a3 a4 a5 => wpAny_pure (hQ h' a1 a2 a3 a4 a5)) (F.args_enumerate_next_1 _))))
theorem enumT_end_held {e it l T : Addr} {i : Nat} {items : Array Value} {old : Value} {f : Bool} {Q : Option Value → Shared → Prop} (hh : A.handled = none)
    (he : IsEnumHeld s.heap e it i old T f) (hit : s.heap.IsTupleIter it l i) (hl : s.heap.IsTuple l items) (hx : items[i]? = none)
    (hQ : ∀ h', Heap.ExtBut it s.heap h' → Q none { s with heap := h' }) : wpAny (model prog w) A (pyNext (.ref e)) Q E s := by
  have hTy : s.TypeIs (.ref e) "enumerate" := ⟨_, he, rfl⟩
  unfold pyNext
  refine wpAny_bind (wpAny_attempt (wpAny_callSpecial?_slot (name := Str.ofString "__next__") hTy F.slot_enumerate_next
    (wpAny_call_entry F.slot_enumerate_next hTy F.entry_enumerate_next ?_ (F.args_enumerate_next_1 _))))
  show wpAny _ _ (field (.ref e) 2 >>= _) _ _ _
  refine wpAny_bind (wpAny_field he rfl (x := .ref it) rfl ?_)
  refine wpAny_bind (wpAny_nextOf_tuple_end hh hit hl hx fun h' x he' hx' => ?_)
  obtain ⟨o, ho, hc⟩ := hx'
  refine wpAny_bind (wpAny_isInstance (T := "StopIteration") (b := true) ⟨o, ho, hc⟩ isSubtype_stop ?_)
  exact wpAny_pure (hQ _ he')

theorem pairArg_enumT (e it l : Addr) (hei : e ≠ it) (hle : l ≠ e) (hli : l ≠ it) (items : Array Value) :
    PairArg prog w "enumerate" e [e, it, l] [e, it] items.size (fun i k v => (∃ t, k = .int i t) ∧ items[i]? = some v)
      (fun h => (∃ old, IsEnum h e it 0 old) ∧ h.IsTupleIter it l 0 ∧ h.IsTuple l items) where
  type := fun s ok => let ⟨⟨_, he⟩, _⟩ := ok; ⟨_, he, rfl⟩
  notDict := by decide
  keep := fun h h' ok hk => by
    obtain ⟨⟨old, he⟩, hit, hl⟩ := ok
    exact ⟨⟨old, hk _ _ he⟩, hit.at fun o x => hk _ o x, hl.at fun o x => hk _ o x⟩
  there := fun h ok b hb => by
    obtain ⟨⟨old, he⟩, ⟨o1, h1, _⟩, ⟨o2, h2, _⟩⟩ := ok
    simp only [List.mem_cons, List.not_mem_nil, or_false] at hb
    rcases hb with rfl | rfl | rfl
    all_goals first | exact ⟨_, he⟩ | exact ⟨_, h1⟩ | exact ⟨_, h2⟩
  sub := fun b hb => by simp at hb ⊢; rcases hb with rfl | rfl <;> simp
  noKeys := fun A s Q E hA ok h => let ⟨⟨_, he⟩, _⟩ := ok; getAttrOr_miss_enumerate he rfl rfl rfl enumerate_no_keys (by decide +kernel) hA h
  iter := fun A s d Q E hA ok hd hdf h => by
    obtain ⟨⟨old, he⟩, hit, hl⟩ := ok
    simp only [List.mem_cons, List.not_mem_nil, or_false, not_or] at hdf
    obtain ⟨de, dit, dl⟩ := hdf
    refine wpAny_pyIter_enum he (h e [e, it] (fun i h => h.IsTupleIter it l i ∧ h.IsTuple l items ∧ ((∃ old, IsEnum h e it i old) ∨ ∃ old T f oT, IsEnumHeld h e it i old T f ∧ h.get? T = some oT ∧ T ≠ e ∧ T ≠ it ∧ T ≠ d)) s.heap s.toks ?_
      ⟨hit, hl, .inl ⟨old, he⟩⟩ (fun _ _ e => e) fun b hb => .inl hb)
    exact {
      off := fun hm => by
        simp only [List.mem_cons, List.not_mem_nil, or_false] at hm
        rcases hm with x | x
        · exact de x
        · exact dit x
      frame := fun i h₁ h₂ st hk => by
        obtain ⟨hit, hl, he⟩ := st
        refine ⟨hit.at fun o x => hk _ o (Ne.symm dit) x, hl.at fun o x => hk _ o (Ne.symm dl) x, ?_⟩
        rcases he with ⟨old, he⟩ | ⟨old, T, f, oT, he, hT, r1, r2, r3⟩
        · exact .inl ⟨old, hk _ _ (Ne.symm de) he⟩
        · exact .inr ⟨old, T, f, oT, hk _ _ (Ne.symm de) he, hk _ _ r3 hT, r1, r2, r3⟩
      item := fun i s₁ Q₁ E₁ hi st hds hQ => by
        obtain ⟨hit, hl, he⟩ := st
        have ex := Array.getElem?_eq_getElem hi
        have ec : ((i + 1 : Nat) : Int) = (i : Int) + 1 := by omega
        have nit : s₁.heap.objs.size ≠ it := let ⟨_, x, _⟩ := hit; Nat.ne_of_gt (Heap.lt_size x)
        rcases he with ⟨old, he⟩ | ⟨old, T, f, oT, he, hT, r1, r2, r3⟩
        · refine wpAny_pyNext_enum_itemD (Draws.tuple (A := A.in1) (show A.in1.handled = none from hA) it l hli items) he ⟨hit, hl⟩ hi hei (by simp [hei, Ne.symm hle]) fun x h' tk hx ho hit' hT hsz hk => ?_
          exact hQ s₁.heap.objs.size _ _ h' (tk + 1) ⟨⟨_, rfl⟩, hx⟩ (.inl ⟨_, hT, rfl, _, rfl⟩)
            ⟨hit'.1, hit'.2, .inr ⟨_, s₁.heap.objs.size, false, _, (by rw [ec]; exact ho), hT, Nat.ne_of_gt (Heap.lt_size he), nit, Nat.ne_of_gt hds⟩⟩
            fun b o hb x => hk b o (fun y => hb (by simp [y])) (fun y => hb (by simp [y])) x
        · refine enumT_item_held he hT r1 r2 hit hl ex hei fun h' ho hit' hT' hsz hk => ?_
          exact hQ s₁.heap.objs.size _ _ h' (s₁.toks + 1) ⟨⟨_, rfl⟩, ex⟩ (.inl ⟨_, hT', rfl, _, rfl⟩)
            ⟨hit', hl.at fun o x => hk l o hle hli x, .inr ⟨old, T, true, oT, (by rw [ec]; exact ho), hk _ _ r1 r2 hT, r1, r2, r3⟩⟩
            fun b o hb x => hk b o (fun y => hb (by simp [y])) (fun y => hb (by simp [y])) x
      done := fun s₁ Q₁ E₁ st hQ => by
        obtain ⟨hit, hl, he⟩ := st
        have hx : items[items.size]? = none := Array.getElem?_eq_none (Nat.le_refl _)
        rcases he with ⟨old, he⟩ | ⟨old, T, f, oT, he, hT, r1, r2, r3⟩
        · exact enumT_end hA he hit hl hx fun h' hk => hQ h' s₁.toks fun b o hb x => hk b o (fun y => hb (by simp [y])) x
        · exact enumT_end_held hA he hit hl hx fun h' hk => hQ h' s₁.toks fun b o hb x => hk b o (fun y => hb (by simp [y])) x }
end

def DEnX (K : PySem.W.Frag) (vs : List V) (H1 : Hp) (Q : VK) : Prop := DEn K vs H1 Q ∨ ∃ a xs, vs = [.ref a] ∧ SqT K H1 a xs ∧ ∀ d, H1 d = none → Q (.ref d) (upd H1 d (.dK (enK 0 xs)))
def tDictEnX (K : PySem.W.Frag) (ta : TA) : TE := fun σ H Q => ta σ H fun vs H1 => DEnX K vs H1 Q
theorem pe_dictEnX (K : PySem.W.Frag) {X : Cx} {e : Expr} {ta : TA} {p p2 pos pos2 : Pos} (hc : X.calm = true) (hgd : Gl X "dict") (hmd : X.mg "dict" = none) (hge : Gl X "enumerate") (hme : X.mg "enumerate" = none) (ha : PA X [e] ta) (hK : X.K = K := by rfl)
    (hs1 : starEach [e] X.env = [(false, eval e X.env)] := by rfl) (hs2 : starEach [.Call (.Name "enumerate" p2) [e] [] pos2] X.env = [(false, eval (.Call (.Name "enumerate" p2) [e] [] pos2) X.env)] := by rfl) :
    PE X (.Call (.Name "dict" p) [.Call (.Name "enumerate" p2) [e] [] pos2] [] pos) (tDictEnX K ta) := by
  subst hK
  refine ⟨fun pins s σ H Q I h => ?_⟩
  refine Call_ (ld_blt I hgd hmd PyProof.Rows.boot_dict (PyProof.Rows.callWith_type1 ?_ hs2 rfl))
  rw [hs2]
  show wpAny _ _ (spliced ((false, eval (.Call (.Name "enumerate" p2) [e] [] pos2) X.env) :: [])) _ _ s
  refine Calls.spliced_cons ?_
  refine Call_ (ld_blt I hge hme boot_enumerate (PyProof.Rows.callWith_type1 (thn (ha.run pos2 pins s σ H _ I h) fun us s1 ⟨vs, H1, I1, r1, q1⟩ => ?_) hs1 rfl))
  rcases q1 with ⟨a, xs, ex, hq, q⟩ | ⟨a, xs, ex, hq, q⟩
  · subst ex
    cases r1 with
    | cons r rr =>
      cases rr
      cases r
      obtain ⟨its, rv, p', hz⟩ := I1.list hq
      have la : a < s1.heap.objs.size := p'.lt
      refine call_enumerate_list p'.isList fun h' he hit hsz hk => ?_
      refine Calls.spliced_nil ?_
      have hl' : h'.IsList a its.toArray := p'.isList.at fun o x => hk a o x
      refine PySem.call_dict_pairs (K := Key) (knd := mixKind X.prog X.w) (kvs := enKV 0 its) (PairArg.enumerate (s1.heap.objs.size + 1) s1.heap.objs.size a (Nat.succ_ne_self _) (Nat.ne_of_lt (Nat.lt_succ_of_lt la)) (Nat.ne_of_lt la) its.toArray) (I1.ok.hd hc) ⟨⟨_, he⟩, hit, hl'⟩ ⟨by rw [enKV_len]; simp, fun i key v ⟨⟨t, ek⟩, ev⟩ => ?_⟩ ?_ fun h2 tk hd' k => ?_
      · refine ⟨Sum.inl (i : Int), ?_, ?_⟩
        · have := enKV_get (j := 0) (us := its) (i := i) (u := v) (by simpa using ev)
          rw [Nat.zero_add] at this
          exact this
        · rw [ek]
          exact kV_is (P := X.prog) (w := X.w) (k := Sum.inl (i : Int)) ⟨t, rfl⟩
      · have := rv.length
        simp only [List.size_toArray]
        omega
      · have hlv := rv.length
        have hm : (h'.objs.size == sysModules) = false := beq_eq_false_iff_ne.mpr (Nat.ne_of_gt (by rw [hsz]; exact Nat.lt_succ_of_lt (Nat.lt_succ_of_lt I1.big)))
        have e0 : mergeK [] (enK 0 xs) = enK 0 xs := by rw [merge_en xs 0 [] (fun kv h => nomatch h), List.nil_append]
        have hrel : KV (enK 0 xs) (merged [] (enKV 0 its)) := by
          have := KV.merge (enKV_rel (j := 0) rv) (.nil : KV [] [])
          rw [e0] at this
          exact this
        have hlen : (enK 0 xs).length ≤ sizeLine := by rw [enK_len]; exact hz
        refine ⟨.ref h'.objs.size, upd H1 h'.objs.size (.dK (enK 0 xs)), I1.laid (t' := tk) (h' := h2) (fun b o e => k b o (fun z => ?_) (hk b o e)) (by rw [hsz]; exact Nat.le_add_right _ _) (show ObjOk X.prog X.w _ _ _ (.dK (enK 0 xs)) from ⟨hlen, hm, merged [] (enKV 0 its), hrel, hd'⟩), rfl, q _ (I1.hok.fresh (by rw [hsz]; exact Nat.le_add_right _ _))⟩
        have hb := Heap.lt_size e
        have z2 : b = s1.heap.objs.size + 1 ∨ b = s1.heap.objs.size := by simpa using z
        rcases z2 with z | z
        · rw [z] at hb; exact absurd hb (Nat.not_lt.mpr (Nat.le_succ _))
        · rw [z] at hb; exact absurd hb (Nat.lt_irrefl _)
  · subst ex
    cases r1 with
    | cons r rr =>
      cases rr
      cases r
      obtain ⟨its, rv, p', hz⟩ := I1.tuple hq
      have la : a < s1.heap.objs.size := p'.lt
      refine call_enumB (begins_tuple a its.toArray) (show s1.heap.IsTuple a its.toArray from p') fun h' he hit0 hk => ?_
      refine Calls.spliced_nil ?_
      have hsl : s1.heap.objs.size < h'.objs.size := Nat.lt_trans (Nat.lt_succ_self _) (Heap.lt_size he)
      have p2' : s1.heap.IsTuple a its.toArray := p'
      have hl' : h'.IsTuple a its.toArray := p2'.at fun o x => hk a o x
      have hit : h'.IsTupleIter s1.heap.objs.size a 0 := ⟨_, hit0, rfl, rfl⟩
      refine PySem.call_dict_pairs (K := Key) (knd := mixKind X.prog X.w) (kvs := enKV 0 its) (pairArg_enumT (s1.heap.objs.size + 1) s1.heap.objs.size a (Nat.succ_ne_self _) (Nat.ne_of_lt (Nat.lt_succ_of_lt la)) (Nat.ne_of_lt la) its.toArray) (I1.ok.hd hc) ⟨⟨_, he⟩, hit, hl'⟩ ⟨by rw [enKV_len]; simp, fun i key v ⟨⟨t, ek⟩, ev⟩ => ?_⟩ ?_ fun h2 tk hd' k => ?_
      · refine ⟨Sum.inl (i : Int), ?_, ?_⟩
        · have := enKV_get (j := 0) (us := its) (i := i) (u := v) (by simpa using ev)
          rw [Nat.zero_add] at this
          exact this
        · rw [ek]
          exact kV_is (P := X.prog) (w := X.w) (k := Sum.inl (i : Int)) ⟨t, rfl⟩
      · have := rv.length
        simp only [List.size_toArray]
        omega
      · have hlv := rv.length
        have hm : (h'.objs.size == sysModules) = false := beq_eq_false_iff_ne.mpr (Nat.ne_of_gt (Nat.lt_trans I1.big hsl))
        have e0 : mergeK [] (enK 0 xs) = enK 0 xs := by rw [merge_en xs 0 [] (fun kv h => nomatch h), List.nil_append]
        have hrel : KV (enK 0 xs) (merged [] (enKV 0 its)) := by
          have := KV.merge (enKV_rel (j := 0) rv) (.nil : KV [] [])
          rw [e0] at this
          exact this
        have hlen : (enK 0 xs).length ≤ sizeLine := by rw [enK_len]; exact hz
        refine ⟨.ref h'.objs.size, upd H1 h'.objs.size (.dK (enK 0 xs)), I1.laid (t' := tk) (h' := h2) (fun b o e => k b o (fun z => ?_) (hk b o e)) (Nat.le_of_lt hsl) (show ObjOk X.prog X.w _ _ _ (.dK (enK 0 xs)) from ⟨hlen, hm, merged [] (enKV 0 its), hrel, hd'⟩), rfl, q _ (I1.hok.fresh (Nat.le_of_lt hsl))⟩
        have hb := Heap.lt_size e
        have z2 : b = s1.heap.objs.size + 1 ∨ b = s1.heap.objs.size := by simpa using z
        rcases z2 with z | z
        · rw [z] at hb; exact absurd hb (Nat.not_lt.mpr (Nat.le_succ _))
        · rw [z] at hb; exact absurd hb (Nat.lt_irrefl _)
section
variable {σ : L2.St} {D H : Hp} {L : Own} {K : PySem.W.Frag} {Q : VK}
instance v_dictEnX0 {ta : TA} : VC (tDictEnX K ta σ H Q) (ta σ H fun vs H1 => DEnX K vs H1 Q) := ⟨fun h => h⟩
instance v_dictEnX1 {a : Addr} {xs : List V} [S : Sx D L H] [ha : Ks D a xs] : VC (DEnX K [.ref a] H Q) (∀ p H', Sx D ((p, .dK (enK 0 xs)) :: L) H' → Q (.ref p) H') := ⟨fun h => ha.pf.elim
  (fun e => .inl ⟨a, xs, rfl, (rsD (K := K) (L := L) e).sq S, fun p hp => h p _ (S.new hp)⟩)
  (fun e => .inr ⟨a, xs, rfl, sqT S e, fun p hp => h p _ (S.new hp)⟩)⟩
end
end Fk

set_option Elab.async false
set_option linter.all false
set_option maxRecDepth 100000
set_option maxHeartbeats 1000000
namespace Fk
open PySem PySem.Spec PyProof.Rows L2
local macro_rules | `(tactic| wtm_at "sz") => `(tactic| (simp only [List.length_map, List.length_cons, List.length_nil, List.length_append, List.length_replicate, List.length_take, List.length_drop, List.length_range, List.length_reverse]; omega))
local macro_rules | `(tactic| wtm_at "side") => `(tactic| first | omega | assumption | wtm_at "sz" | (simp only [List.length_cons, List.length_nil, Nat.reduceAdd, Nat.reduceLeDiff, Nat.reduceLT]; done) | exact Or.inl (by omega) | exact Or.inr (Or.inl (by omega)) | exact ⟨by decide, by decide, by decide⟩)
local macro_rules | `(tactic| wtm_at "v2") => `(tactic| first
  | refine And.intro (by wtm_at "side") ?_
  | with_reducible intro _
  | with_reducible refine if_dt (by first | assumption | omega) ?_ | with_reducible refine if_df (by first | assumption | omega) ?_
  | with_reducible refine if_ndt (by first | assumption | omega) ?_ | with_reducible refine if_ndf (by first | assumption | omega) ?_)
local macro_rules | `(tactic| wtm_at "vc") => `(tactic| repeat (first | refine VC.pf ?_ | wtm_at "v2"))
def clsBody : Stmt → List Stmt
  | .ClassDef (body := b) .. => b
  | _ => []
def topS (i : Nat) : Stmt := PySem.Challenge.pw_fewreels_k48_phases_played.main.body.getD i (.Pass ⟨0, 0, 0, 0⟩)
section
variable {P : Program} {w : World} {K : PySem.W.Frag} {mg : Str → Option Value} {base : Heap}
abbrev st__law_all_lists : Stmt := topS 21
theorem sc__law_all_lists : FnScope ["found", "reels", "read", "part", "reel", "row", "sums", "one"] ["found"] (defScope st__law_all_lists) := ⟨rfl, rfl, rfl, by decide +kernel, rfl, by decide +kernel, by decide +kernel⟩
/-- the pairs of a thing and its row's number, rows from n on -/
def prs : Nat → List (List Int) → List (Int × Int)
  | _, [] => []
  | n, r :: rs => r.map (fun t => (t, (n : Int))) ++ prs (n + 1) rs
theorem prs_bound : ∀ {n : Nat} {rs : List (List Int)} {q : Int × Int}, q ∈ prs n rs → (n : Int) ≤ q.2 ∧ q.2 < (n : Int) + rs.length
  | _, [], _, h => absurd h List.not_mem_nil
  | n, r :: rs, q, h => by
    rw [List.length_cons]
    rcases List.mem_append.mp h with h1 | h1
    · obtain ⟨t, _, rfl⟩ := List.mem_map.mp h1
      show (n : Int) ≤ (n : Int) ∧ (n : Int) < (n : Int) + ((rs.length + 1 : Nat) : Int)
      omega
    · have := prs_bound h1
      omega
theorem prs_filter : ∀ {n : Nat} {rs : List (List Int)} {k : Nat} {r : List Int}, rs[k]? = some r → (prs n rs).filter (fun q => decide (q.2 = ((n + k : Nat) : Int))) = r.map (fun t => (t, ((n + k : Nat) : Int)))
  | _, [], _, _, h => by simp at h
  | n, a :: rs, 0, r, h => by
    have e : a = r := by simpa using h
    subst e
    show (a.map (fun t => (t, (n : Int))) ++ prs (n + 1) rs).filter _ = _
    rw [List.filter_append, List.filter_eq_self.mpr, List.filter_eq_nil_iff.mpr, List.append_nil]
    · rfl
    · intro q hq hd
      have h1 := prs_bound hq
      have h2 : q.2 = ((n + 0 : Nat) : Int) := of_decide_eq_true hd
      omega
    · intro q hq
      obtain ⟨t, _, rfl⟩ := List.mem_map.mp hq
      exact decide_eq_true rfl
  | n, a :: rs, k + 1, r, h => by
    have h' : rs[k]? = some r := by simpa using h
    have ih := prs_filter (n := n + 1) h'
    show (a.map (fun t => (t, (n : Int))) ++ prs (n + 1) rs).filter _ = _
    rw [List.filter_append, List.filter_eq_nil_iff.mpr, List.nil_append, show n + (k + 1) = n + 1 + k by omega]
    · exact ih
    · intro q hq hd
      obtain ⟨t, _, rfl⟩ := List.mem_map.mp hq
      have h2 : (n : Int) = ((n + (k + 1) : Nat) : Int) := of_decide_eq_true hd
      omega
theorem prs_fst : ∀ (n : Nat) (rs : List (List Int)), (prs n rs).map (·.1) = rs.flatten
  | _, [] => rfl
  | n, r :: rs => by
    show (r.map (fun t => (t, (n : Int))) ++ prs (n + 1) rs).map (·.1) = _
    rw [List.map_append, prs_fst (n + 1) rs, List.map_map, List.flatten_cons]
    congr 1
    exact List.map_id _
/-- one thing taken of a row -/
def stepO (rs : List (List Int)) (tk : List Int) (x : Int) : Option (List Int × Int) :=
  if 0 ≤ x ∧ x < rs.length ∧ tk.getD x.toNat 0 < ((rs.getD x.toNat []).length : Int) then some (tk.set x.toNat (tk.getD x.toNat 0 + 1), (rs.getD x.toNat []).getD (tk.getD x.toNat 0).toNat 0) else none
def runO (rs : List (List Int)) : List Int → List Int → Option (List Int × List Int)
  | tk, [] => some (tk, [])
  | tk, x :: o => match stepO rs tk x with
    | none => none
    | some (tk', t) => (runO rs tk' o).map fun z => (z.1, t :: z.2)
def lensO (rs : List (List Int)) : List Int := rs.map fun r => (r.length : Int)
def zerosO (rs : List (List Int)) : List Int := rs.map fun _ => 0
def okOrd (rs : List (List Int)) (o : List Int) : Prop := ∃ ts, runO rs (zerosO rs) o = some (lensO rs, ts) ∧ ts.Pairwise (· ≤ ·)
def filO (P : List (Int × Int)) (k : Nat) : List (Int × Int) := P.filter fun q => decide (q.2 = (k : Int))
def cntO (rs : List (List Int)) (P : List (Int × Int)) : List Int := (List.range rs.length).map fun k => ((filO P k).length : Int)
theorem cntO_get {rs : List (List Int)} {P : List (Int × Int)} {k : Nat} (h : k < rs.length) : (cntO rs P)[k]? = some ((filO P k).length : Int) := by
  unfold cntO
  rw [List.getElem?_map, List.getElem?_range h]
  rfl
theorem cntO_len (rs : List (List Int)) (P : List (Int × Int)) : (cntO rs P).length = rs.length := by
  unfold cntO
  rw [List.length_map, List.length_range]
theorem filO_snoc (P : List (Int × Int)) (t : Int) (k j : Nat) : filO (P ++ [(t, (k : Int))]) j = filO P j ++ if j = k then [(t, (k : Int))] else [] := by
  unfold filO
  rw [List.filter_append]
  congr 1
  by_cases c : j = k
  · subst c
    rw [if_pos rfl, List.filter_cons_of_pos (p := fun q : Int × Int => decide (q.2 = (j : Int))) (a := (t, (j : Int))) (decide_eq_true rfl)]
    rfl
  · rw [if_neg c, List.filter_cons_of_neg (fun e => c (by have : (k : Int) = (j : Int) := of_decide_eq_true e; omega))]
    rfl
/-- P takes each row's things in their order -/
def Fair (rs : List (List Int)) (P : List (Int × Int)) : Prop := (∀ q, q ∈ P → 0 ≤ q.2 ∧ q.2 < rs.length) ∧ ∀ (k : Nat) (r : List Int), rs[k]? = some r → filO P k = r.map fun t => (t, (k : Int))
theorem run_fair {rs : List (List Int)} : ∀ (P2 P1 : List (Int × Int)), Fair rs (P1 ++ P2) → runO rs (cntO rs P1) (P2.map (·.2)) = some (lensO rs, P2.map (·.1))
  | [], P1, h => by
    rw [List.append_nil] at h
    have e : cntO rs P1 = lensO rs := by
      refine List.ext_getElem? fun k => ?_
      by_cases c : k < rs.length
      · rw [cntO_get c]
        unfold lensO
        rw [List.getElem?_map, List.getElem?_eq_getElem c, h.2 k _ (List.getElem?_eq_getElem c), List.length_map]
        rfl
      · rw [List.getElem?_eq_none (by rw [cntO_len]; omega), List.getElem?_eq_none (by unfold lensO; rw [List.length_map]; omega)]
    rw [List.map_nil, List.map_nil, e]
    rfl
  | (t, x) :: P2, P1, h => by
    obtain ⟨h1, h2⟩ := h
    have hx := h1 (t, x) (List.mem_append_right _ List.mem_cons_self)
    obtain ⟨k, rfl⟩ : ∃ k : Nat, x = (k : Int) := ⟨x.toNat, by have : 0 ≤ x := hx.1; omega⟩
    have hk : k < rs.length := by have : (k : Int) < rs.length := hx.2; omega
    have hr := List.getElem?_eq_getElem hk
    have hf := h2 k _ hr
    have hsp : filO (P1 ++ (t, (k : Int)) :: P2) k = filO P1 k ++ (t, (k : Int)) :: filO P2 k := by
      unfold filO
      rw [List.filter_append, List.filter_cons_of_pos (p := fun q : Int × Int => decide (q.2 = (k : Int))) (a := (t, (k : Int))) (decide_eq_true rfl)]
    rw [hsp] at hf
    have hc : rs[k][(filO P1 k).length]? = some t := by
      have e := congrArg (fun l => l[(filO P1 k).length]?) hf
      rw [List.getElem?_append_right (Nat.le_refl _), Nat.sub_self, List.getElem?_map] at e
      cases e2 : rs[k][(filO P1 k).length]? with
      | none => rw [e2] at e; exact nomatch e
      | some z =>
        rw [e2] at e
        have e3 : (t, (k : Int)) = (z, (k : Int)) := Option.some.inj e
        rw [(Prod.mk.inj e3).1]
    have hcl := (List.getElem?_eq_some_iff.mp hc).1
    have g1 : (cntO rs P1).getD k 0 = ((filO P1 k).length : Int) := by rw [List.getD_eq_getElem?_getD, cntO_get hk]; rfl
    have g2 : rs.getD k [] = rs[k] := by rw [List.getD_eq_getElem?_getD, hr]; rfl
    have hst : stepO rs (cntO rs P1) (k : Int) = some (cntO rs (P1 ++ [(t, (k : Int))]), t) := by
      unfold stepO
      rw [Int.toNat_natCast, g1, g2, if_pos ⟨by omega, by omega, by omega⟩, Int.toNat_natCast, List.getD_eq_getElem?_getD, hc]
      congr 2
      refine List.ext_getElem? fun j => ?_
      by_cases cj : j < rs.length
      · rw [cntO_get cj, filO_snoc]
        by_cases c : j = k
        · subst c
          rw [List.getElem?_set_self (by rw [cntO_len]; exact cj), if_pos rfl, List.length_append]
          rfl
        · rw [List.getElem?_set_ne (fun e => c e.symm), cntO_get cj, if_neg c, List.append_nil]
      · rw [List.getElem?_eq_none (by rw [List.length_set, cntO_len]; omega), List.getElem?_eq_none (by rw [cntO_len]; omega)]
    have ih := run_fair (rs := rs) P2 (P1 ++ [(t, (k : Int))]) (by rw [List.append_assoc]; exact ⟨h1, h2⟩)
    show runO rs (cntO rs P1) ((k : Int) :: P2.map (·.2)) = _
    unfold runO
    rw [hst]
    show (runO rs (cntO rs (P1 ++ [(t, (k : Int))])) (P2.map (·.2))).map _ = _
    rw [ih]
    rfl
theorem cntO_nil (rs : List (List Int)) : cntO rs [] = zerosO rs := by
  unfold cntO zerosO
  refine List.ext_getElem? fun k => ?_
  rw [List.getElem?_map, List.getElem?_map]
  by_cases c : k < rs.length
  · rw [List.getElem?_range c, List.getElem?_eq_getElem c]
    rfl
  · rw [List.getElem?_eq_none (by rw [List.length_range]; omega), List.getElem?_eq_none (by omega)]
    rfl
theorem eq_leP : ∀ {xs ys : List (Int × Int)}, xs.Perm ys → xs.Pairwise leP → ys.Pairwise leP → xs = ys
  | [], ys, p, _, _ => (List.nil_perm.mp p).symm
  | x :: xs, [], p, _, _ => by have := p.length_eq; simp at this
  | x :: xs, y :: ys, p, h1, h2 => by
    obtain ⟨a1, a2⟩ := List.pairwise_cons.mp h1
    obtain ⟨b1, b2⟩ := List.pairwise_cons.mp h2
    have e : x = y := by
      rcases List.mem_cons.mp (p.mem_iff.mp List.mem_cons_self) with e | hx
      · exact e
      · rcases List.mem_cons.mp (p.mem_iff.mpr List.mem_cons_self) with e | hy
        · exact e.symm
        · have q1 := b1 x hx
          have q2 := a1 y hy
          unfold leP at q1 q2
          exact Prod.ext (by omega) (by omega)
    subst e
    rw [eq_leP (List.perm_cons x |>.mp p) a2 b2]
/-- the told order: the pairs, sorted -/
theorem merge_ok {rs : List (List Int)} {P : List (Int × Int)} (hp : P.Perm (prs 0 rs)) (hs : P.Pairwise leP) (hr : ∀ r, r ∈ rs → r.Pairwise (· ≤ ·)) : okOrd rs (P.map (·.2)) ∧ runO rs (zerosO rs) (P.map (·.2)) = some (lensO rs, P.map (·.1)) ∧ (P.map (·.1)).Perm rs.flatten ∧ (P.map (·.1)).Pairwise (· ≤ ·) := by
  have hF : Fair rs P := by
    refine ⟨fun q hq => ?_, fun k r hk => ?_⟩
    · have := prs_bound (hp.mem_iff.mp hq)
      omega
    · have e := prs_filter (n := 0) hk
      rw [Nat.zero_add] at e
      refine eq_leP (by rw [← e]; exact hp.filter _) (hs.sublist List.filter_sublist) ?_
      exact List.Pairwise.map _ (fun a b (h : a ≤ b) => by
        show a < b ∨ (a = b ∧ (k : Int) ≤ (k : Int))
        omega) (hr r (List.mem_of_getElem? hk))
  have h1 := run_fair P [] hF
  rw [cntO_nil] at h1
  have h2 : (P.map (·.1)).Pairwise (· ≤ ·) := List.Pairwise.map _ (fun a b (h : leP a b) => by unfold leP at h; omega) hs
  exact ⟨⟨_, h1, h2⟩, h1, by rw [← prs_fst 0 rs]; exact hp.map _, h2⟩
def neverF (ns : List Int) : Bool := (List.zipWith (fun x y => decide (x ≤ y)) ns (ns.drop 1)).all id
theorem neverF_iff : ∀ {ns : List Int}, neverF ns = true ↔ ns.Pairwise (· ≤ ·)
  | [] => ⟨fun _ => .nil, fun _ => rfl⟩
  | [a] => ⟨fun _ => List.pairwise_singleton _ _, fun _ => rfl⟩
  | a :: b :: r => by
    have ih := neverF_iff (ns := b :: r)
    have e : neverF (a :: b :: r) = (decide (a ≤ b) && neverF (b :: r)) := rfl
    rw [e, Bool.and_eq_true, ih, decide_eq_true_eq]
    constructor
    · rintro ⟨h1, h2⟩
      refine List.pairwise_cons.mpr ⟨fun y hy => ?_, h2⟩
      rcases List.mem_cons.mp hy with e | e
      · rw [e]; exact h1
      · exact Int.le_trans h1 ((List.pairwise_cons.mp h2).1 y e)
    · intro h
      obtain ⟨h1, h2⟩ := List.pairwise_cons.mp h
      exact ⟨h1 b List.mem_cons_self, h2⟩
theorem neverF_T {ns : List Int} (h : ns.Pairwise (· ≤ ·)) : neverF ns = true := neverF_iff.mpr h
theorem flat_len : ∀ {rs : List (List Int)} {m : Nat}, (∀ r, r ∈ rs → r.length ≤ m) → rs.flatten.length ≤ rs.length * m
  | [], _, _ => Nat.zero_le _
  | r :: rs, m, h => by
    have ih := flat_len (rs := rs) (m := m) fun x hx => h x (List.mem_cons_of_mem _ hx)
    have h1 := h r List.mem_cons_self
    rw [List.flatten_cons, List.length_append, List.length_cons, Nat.succ_mul]
    omega
theorem prs_len : ∀ (n : Nat) (rs : List (List Int)), (prs n rs).length = rs.flatten.length := fun n rs => by
  rw [← prs_fst n rs, List.length_map]
theorem prs_snoc : ∀ (n : Nat) (rs : List (List Int)) (r : List Int), prs n (rs ++ [r]) = prs n rs ++ r.map (fun t => (t, ((n + rs.length : Nat) : Int)))
  | n, [], r => by
    show r.map _ ++ [] = [] ++ _
    rw [List.append_nil, List.nil_append]
    rfl
  | n, a :: rs, r => by
    show a.map _ ++ prs (n + 1) (rs ++ [r]) = (a.map _ ++ prs (n + 1) rs) ++ _
    rw [prs_snoc (n + 1) rs r, List.append_assoc, List.length_cons, show n + 1 + rs.length = n + (rs.length + 1) by omega]
theorem runO_cons {rs : List (List Int)} (tk : List Int) (x : Int) (o : List Int) : runO rs tk (x :: o) = (stepO rs tk x).bind fun (z : List Int × Int) => (runO rs z.1 o).map fun w => (w.1, z.2 :: w.2) := by
  show (match stepO rs tk x with
    | none => none
    | some (tk', t) => (runO rs tk' o).map fun (z : List Int × List Int) => (z.1, t :: z.2)) = _
  cases stepO rs tk x <;> rfl
theorem runO_app {rs : List (List Int)} : ∀ (o o' tk : List Int), runO rs tk (o ++ o') = (runO rs tk o).bind fun (z : List Int × List Int) => (runO rs z.1 o').map fun w => (w.1, z.2 ++ w.2)
  | [], o', tk => by
    show runO rs tk o' = (runO rs tk o').map fun w => (w.1, [] ++ w.2)
    cases runO rs tk o' <;> rfl
  | x :: o, o', tk => by
    rw [List.cons_append, runO_cons, runO_cons]
    cases stepO rs tk x with
    | none => rfl
    | some z =>
      show (runO rs z.1 (o ++ o')).map _ = ((runO rs z.1 o).map _).bind _
      rw [runO_app o o' z.1]
      cases runO rs z.1 o with
      | none => rfl
      | some y =>
        show ((runO rs y.1 o').map _).map _ = (runO rs y.1 o').map _
        cases runO rs y.1 o' <;> rfl
theorem runO_next {rs : List (List Int)} {os tks ts : List Int} {i : Nat} {x : Int} {z : List Int × Int} (h : runO rs (zerosO rs) (os.take i) = some (tks, ts)) (hx : os[i]? = some x) (hz : stepO rs tks x = some z) : runO rs (zerosO rs) (os.take (i + 1)) = some (z.1, ts ++ [z.2]) := by
  rw [List.take_add_one, hx]
  show runO rs (zerosO rs) (os.take i ++ [x]) = _
  rw [runO_app, h]
  show (runO rs tks [x]).map _ = _
  rw [runO_cons, hz]
  rfl
theorem runO_bad {rs : List (List Int)} {os tks ts : List Int} {i : Nat} {x : Int} (h : runO rs (zerosO rs) (os.take i) = some (tks, ts)) (hx : os[i]? = some x) (hz : stepO rs tks x = none) : ¬ okOrd rs os := by
  rintro ⟨ts2, h2, _⟩
  have hi := (List.getElem?_eq_some_iff.mp hx).1
  have e : os = os.take i ++ x :: os.drop (i + 1) := by
    rw [← (List.getElem?_eq_some_iff.mp hx).2, List.getElem_cons_drop, List.take_append_drop]
  rw [e, runO_app, h] at h2
  have h3 : (runO rs tks (x :: os.drop (i + 1))).map (fun w => (w.1, ts ++ w.2)) = some (lensO rs, ts2) := h2
  rw [runO_cons, hz] at h3
  exact nomatch h3
theorem lens_all : ∀ {tks : List Int} {rs : List (List Int)}, tks.length = rs.length → ((List.zipWith (fun (c : Int) (r : List Int) => decide (c = (r.length : Int))) tks rs).all id = true ↔ tks = lensO rs)
  | [], [], _ => ⟨fun _ => rfl, fun _ => rfl⟩
  | [], _ :: _, h => absurd h (by simp)
  | _ :: _, [], h => absurd h (by simp)
  | c :: tks, r :: rs, h => by
    have ih := lens_all (tks := tks) (rs := rs) (by simpa using h)
    have e1 : (List.zipWith (fun (c : Int) (r : List Int) => decide (c = (r.length : Int))) (c :: tks) (r :: rs)).all id = (decide (c = (r.length : Int)) && (List.zipWith (fun (c : Int) (r : List Int) => decide (c = (r.length : Int))) tks rs).all id) := rfl
    have e2 : lensO (r :: rs) = (r.length : Int) :: lensO rs := rfl
    rw [e1, e2, Bool.and_eq_true, ih, decide_eq_true_eq, List.cons.injEq]
theorem okOrd_iff {rs : List (List Int)} {os tks ts : List Int} (h : runO rs (zerosO rs) os = some (tks, ts)) (hl : tks.length = rs.length) : okOrd rs os ↔ neverF ts = true ∧ (List.zipWith (fun (c : Int) (r : List Int) => decide (c = (r.length : Int))) tks rs).all id = true := by
  rw [lens_all hl, neverF_iff]
  constructor
  · rintro ⟨ts2, h2, h3⟩
    rw [h] at h2
    have e := Option.some.inj h2
    exact ⟨(Prod.mk.inj e).2 ▸ h3, (Prod.mk.inj e).1⟩
  · rintro ⟨h1, h2⟩
    exact ⟨ts, by rw [h, h2], h1⟩
def lastV (ts : List Int) : V := match ts.getLast? with
  | none => .non
  | some t => .int t
theorem lastV_nil : lastV [] = .non := rfl
theorem lastV_snoc (ts : List Int) (t : Int) : lastV (ts ++ [t]) = .int t := by
  unfold lastV
  rw [List.getLast?_append]
  rfl
/-- the counts are no more than the rows have -/
def Few (rs : List (List Int)) (tks : List Int) : Prop := ∀ (k : Nat) (c : Int) (r : List Int), tks[k]? = some c → rs[k]? = some r → 0 ≤ c ∧ c ≤ r.length
theorem few0 (rs : List (List Int)) : Few rs (zerosO rs) := fun k c r h _ => by
  unfold zerosO at h
  obtain ⟨_, _, e⟩ := List.mem_map.mp (List.mem_of_getElem? h)
  omega
theorem okOrd_pre {rs : List (List Int)} {os tks ts : List Int} {i : Nat} (h : runO rs (zerosO rs) (os.take i) = some (tks, ts)) (hs : ¬ ts.Pairwise (· ≤ ·)) : ¬ okOrd rs os := by
  rintro ⟨ts2, h2, h3⟩
  rw [← List.take_append_drop i os, runO_app, h] at h2
  have h4 : (runO rs tks (os.drop i)).map (fun w => (w.1, ts ++ w.2)) = some (lensO rs, ts2) := h2
  cases e : runO rs tks (os.drop i) with
  | none => rw [e] at h4; exact nomatch h4
  | some w =>
    rw [e] at h4
    have e2 : (w.1, ts ++ w.2) = (lensO rs, ts2) := Option.some.inj h4
    rw [← (Prod.mk.inj e2).2] at h3
    exact hs (List.pairwise_append.mp h3).1
theorem sorted_snoc {ts : List Int} {l w : Int} (h : (ts ++ [l]).Pairwise (· ≤ ·)) (hw : l ≤ w) : ((ts ++ [l]) ++ [w]).Pairwise (· ≤ ·) := by
  refine List.pairwise_append.mpr ⟨h, List.pairwise_singleton _ _, fun a ha b hb => ?_⟩
  rw [List.mem_singleton.mp hb]
  rcases List.mem_append.mp ha with e | e
  · have := (List.pairwise_append.mp h).2.2 a e l (List.mem_singleton.mpr rfl)
    omega
  · rw [List.mem_singleton.mp e]
    exact hw
theorem not_sorted {ts : List Int} {l w : Int} (hw : w < l) : ¬ ((ts ++ [l]) ++ [w]).Pairwise (· ≤ ·) := fun h => by
  have := (List.pairwise_append.mp h).2.2 l (List.mem_append_right _ (List.mem_singleton.mpr rfl)) w (List.mem_singleton.mpr rfl)
  omega
theorem eqA : ∀ {xs ys : List Int}, xs.Perm ys → xs.Pairwise (· ≤ ·) → ys.Pairwise (· ≤ ·) → xs = ys
  | [], ys, p, _, _ => (List.nil_perm.mp p).symm
  | x :: xs, [], p, _, _ => by have := p.length_eq; simp at this
  | x :: xs, y :: ys, p, h1, h2 => by
    obtain ⟨a1, a2⟩ := List.pairwise_cons.mp h1
    obtain ⟨b1, b2⟩ := List.pairwise_cons.mp h2
    have e : x = y := by
      rcases List.mem_cons.mp (p.mem_iff.mp List.mem_cons_self) with e | hx
      · exact e
      · rcases List.mem_cons.mp (p.mem_iff.mpr List.mem_cons_self) with e | hy
        · exact e.symm
        · have q1 : y ≤ x := b1 x hx
          have q2 : x ≤ y := a1 y hy
          omega
    subst e
    rw [eqA (List.perm_cons x |>.mp p) a2 b2]

abbrev Rw := Option (List Int)
def rwD : Rw → PyData
  | none => .none
  | some r => .list (dI r)
def ownZ (ads : List Addr) (vss : List (List V)) : Own := List.zipWith (fun a v => (a, HO.lst v)) ads vss
theorem ownZ_get {ads : List Addr} {vss : List (List V)} {i : Nat} {a : Addr} {v : List V} (h1 : ads[i]? = some a) (h2 : vss[i]? = some v) : (ownZ ads vss)[i]? = some (a, .lst v) := by
  unfold ownZ
  rw [List.getElem?_zipWith, h1, h2]
theorem zipW_ers {α β γ : Type} (f : α → β → γ) : ∀ (xs : List α) (ys : List β) (i : Nat), (List.zipWith f xs ys).eraseIdx i = List.zipWith f (xs.eraseIdx i) (ys.eraseIdx i)
  | [], ys, i => by simp
  | x :: xs, [], i => by simp
  | x :: xs, y :: ys, 0 => by simp
  | x :: xs, y :: ys, i + 1 => by
    have ih := zipW_ers f xs ys i
    simp [ih]
theorem ownZ_front {ads : List Addr} {vss : List (List V)} {i : Nat} {a : Addr} {v : List V} {L : Own} (h1 : ads[i]? = some a) (h2 : vss[i]? = some v) : (ownZ ads vss ++ L).Perm ((a, .lst v) :: (ownZ (ads.eraseIdx i) (vss.eraseIdx i) ++ L)) := by
  have h := perm_front (ownZ_get h1 h2)
  have e : (ownZ ads vss).eraseIdx i = ownZ (ads.eraseIdx i) (vss.eraseIdx i) := zipW_ers _ _ _ _
  rw [e] at h
  exact h.append_right L
theorem ers_set {α : Type} : ∀ (xs : List α) (i : Nat) (x : α), (xs.set i x).eraseIdx i = xs.eraseIdx i
  | [], i, x => by simp
  | y :: xs, 0, x => by simp
  | y :: xs, i + 1, x => by simp [ers_set xs i x]
theorem ownZ_back {ads : List Addr} {vss : List (List V)} {i : Nat} {a : Addr} {w : List V} {L : Own} (h1 : ads[i]? = some a) (h2 : i < vss.length) : ((a, .lst w) :: (ownZ (ads.eraseIdx i) (vss.eraseIdx i) ++ L)).Perm (ownZ ads (vss.set i w) ++ L) := by
  have h := ownZ_front (ads := ads) (vss := vss.set i w) (v := w) (L := L) h1 (by rw [List.getElem?_set, if_pos rfl, if_pos h2])
  rw [ers_set] at h
  exact h.symm
/-- one merging: what is taken off, what stays -/
def tkN {α : Type} (out : Nat) (xs : List (List α)) : Nat → List (List α)
  | 0 => xs
  | i + 1 => if i = out then tkN out xs i else (tkN out xs i).set i ((tkN out xs i).getD i []).tail
def tfN {α : Type} (out : Nat) (xs : List (List α)) : Nat → List (Nat × α)
  | 0 => []
  | i + 1 => tfN out xs i ++ (if i = out then [] else match (tkN out xs i).getD i [] with
    | [] => []
    | v :: _ => [(i, v)])
theorem tkN_len {α : Type} (out : Nat) (xs : List (List α)) : ∀ i, (tkN out xs i).length = xs.length
  | 0 => rfl
  | i + 1 => by
    unfold tkN
    split
    · exact tkN_len out xs i
    · rw [List.length_set, tkN_len out xs i]
theorem tkN_late {α : Type} (out : Nat) (xs : List (List α)) : ∀ i j, i ≤ j → (tkN out xs i)[j]? = xs[j]?
  | 0, _, _ => rfl
  | i + 1, j, h => by
    unfold tkN
    split
    · exact tkN_late out xs i j (by omega)
    · rw [List.getElem?_set, if_neg (by omega)]
      exact tkN_late out xs i j (by omega)
/-- values and data of reels -/
inductive RsA (D : Hp) : List (List V) → List (List Rw) → Prop
  | nil : RsA D [] []
  | cons {us : List V} {vss : List (List V)} {R : List Rw} {Rs : List (List Rw)} : RpAll D us (R.map rwD) → RsA D vss Rs → RsA D (us :: vss) (R :: Rs)
theorem RsA.up {D D' : Hp} {vss : List (List V)} {Rs : List (List Rw)} (e : Same D D') (h : RsA D vss Rs) : RsA D' vss Rs := by
  induction h with
  | nil => exact .nil
  | cons h _ ih => exact .cons (h.up e) ih
theorem RsA.len {D : Hp} {vss : List (List V)} {Rs : List (List Rw)} (h : RsA D vss Rs) : vss.length = Rs.length := by
  induction h with
  | nil => rfl
  | cons _ _ ih => rw [List.length_cons, List.length_cons, ih]
theorem RsA.get {D : Hp} {vss : List (List V)} {Rs : List (List Rw)} (h : RsA D vss Rs) : ∀ {i : Nat} {us : List V}, vss[i]? = some us → ∃ R, Rs[i]? = some R ∧ RpAll D us (R.map rwD) := by
  induction h with
  | nil => intro i us e; simp at e
  | cons h t ih =>
    intro i us e
    cases i with
    | zero => cases e; exact ⟨_, rfl, h⟩
    | succ i => exact ih (by simpa using e)
theorem RsA.set {D : Hp} {vss : List (List V)} {Rs : List (List Rw)} (h : RsA D vss Rs) {us : List V} {R : List Rw} (k : RpAll D us (R.map rwD)) : ∀ i, RsA D (vss.set i us) (Rs.set i R) := by
  induction h with
  | nil => intro i; exact .nil
  | cons h t ih =>
    intro i
    cases i with
    | zero => exact .cons k t
    | succ i => exact .cons h (ih i)
theorem RsA.app {D : Hp} {vss wss : List (List V)} {Rs Ss : List (List Rw)} (h : RsA D vss Rs) (k : RsA D wss Ss) : RsA D (vss ++ wss) (Rs ++ Ss) := by
  induction h with
  | nil => exact k
  | cons h _ ih => exact .cons h ih
/-- what was taken, values and data -/
inductive TkA (D : Hp) : List V → List (Nat × Rw) → Prop
  | nil : TkA D [] []
  | cons {t : Addr} {n : Nat} {v : V} {r : Rw} {us : List V} {rs : List (Nat × Rw)} : Kn D t (.tup [.int (n : Int), v]) → Rp D v (rwD r) → TkA D us rs → TkA D (.ref t :: us) ((n, r) :: rs)
theorem TkA.up {D D' : Hp} {us : List V} {rs : List (Nat × Rw)} (e : Sm D D') (h : TkA D us rs) : TkA D' us rs := by
  induction h with
  | nil => exact .nil
  | cons k r _ ih => exact .cons inferInstance (r.up e.e) ih
theorem TkA.len {D : Hp} {us : List V} {rs : List (Nat × Rw)} (h : TkA D us rs) : us.length = rs.length := by
  induction h with
  | nil => rfl
  | cons _ _ _ ih => rw [List.length_cons, List.length_cons, ih]
theorem TkA.get {D : Hp} {us : List V} {rs : List (Nat × Rw)} (h : TkA D us rs) : ∀ {i : Nat} {u : V}, us[i]? = some u → ∃ t n v r, u = .ref t ∧ rs[i]? = some (n, r) ∧ Kn D t (.tup [.int (n : Int), v]) ∧ Rp D v (rwD r) := by
  induction h with
  | nil => intro i us e; simp at e
  | cons k r t ih =>
    intro i u e
    cases i with
    | zero => cases e; exact ⟨_, _, _, _, rfl, rfl, k, r⟩
    | succ i => exact ih (by simpa using e)
theorem TkA.app {D : Hp} {us ws : List V} {rs ss : List (Nat × Rw)} (h : TkA D us rs) (k : TkA D ws ss) : TkA D (us ++ ws) (rs ++ ss) := by
  induction h with
  | nil => exact k
  | cons k r _ ih => exact .cons k r ih
/-- addresses of rows -/
def adV : V → List Addr
  | .ref a => [a]
  | _ => []
def adR (us : List V) : List Addr := us.flatMap adV
def adS (vss : List (List V)) : List Addr := vss.flatMap adR
theorem adR_app (us ws : List V) : adR (us ++ ws) = adR us ++ adR ws := by unfold adR; rw [List.flatMap_append]
theorem adS_split {vss : List (List V)} {i : Nat} {us : List V} (h : vss[i]? = some us) (w : List V) : adS (vss.set i w) = adS (vss.take i) ++ (adR w ++ adS (vss.drop (i + 1))) := by
  have hi := (List.getElem?_eq_some_iff.mp h).1
  rw [List.set_eq_take_append_cons_drop, if_pos hi]
  unfold adS
  rw [List.flatMap_append, List.flatMap_cons]
theorem set_id {α : Type} {xs : List α} {i : Nat} {x : α} (h : xs[i]? = some x) : xs.set i x = xs := by
  apply List.ext_getElem?
  intro m
  rw [List.getElem?_set]
  by_cases c : i = m
  · subst c
    rw [if_pos rfl, if_pos (List.getElem?_eq_some_iff.mp h).1, h]
  · rw [if_neg c]
theorem adS_sub {vss : List (List V)} {i : Nat} {v : V} {us : List V} (h : vss[i]? = some (v :: us)) : (adS (vss.set i us)).Sublist (adS vss) := by
  have e := adS_split h (v :: us)
  rw [set_id h] at e
  rw [e, adS_split h us]
  refine List.Sublist.append (List.Sublist.refl _) (List.Sublist.append ?_ (List.Sublist.refl _))
  show (adR us).Sublist (adV v ++ adR us)
  exact List.sublist_append_right _ _
theorem adS_put {vss : List (List V)} {i : Nat} {us : List V} (h : vss[i]? = some us) (v : V) : (adS (vss.set i (us ++ [v]))).Perm (adV v ++ adS vss) := by
  have e := adS_split h us
  rw [set_id h] at e
  rw [e, adS_split h, adR_app]
  have e2 : adR [v] = adV v := by simp [adR]
  rw [e2]
  have p1 : (adS (vss.take i) ++ (adR us ++ adV v ++ adS (vss.drop (i + 1)))).Perm (adS (vss.take i) ++ (adV v ++ (adR us ++ adS (vss.drop (i + 1))))) := by
    refine List.Perm.append_left _ ?_
    rw [← List.append_assoc (adV v)]
    exact List.Perm.append_right _ List.perm_append_comm
  exact p1.trans (List.perm_append_comm_assoc _ _ _)
/-- rows that are new since D0, all unlike -/
structure Fq (D0 D : Hp) (vss : List (List V)) : Prop where
  nd : (adS vss).Nodup
  fr : ∀ a, a ∈ adS vss → D0 a = none ∧ ∃ o, D a = some o
theorem Fq.sub {D0 D D' : Hp} {vss wss : List (List V)} (h : Fq D0 D vss) (e : Same D D') (s : (adS wss).Sublist (adS vss)) : Fq D0 D' wss := ⟨h.nd.sublist s, fun a ha => by
  obtain ⟨h1, o, h2⟩ := h.fr a (s.subset ha)
  exact ⟨h1, o, e _ _ h2⟩⟩

theorem Fq.put {D0 D D' : Hp} {vss : List (List V)} (h : Fq D0 D vss) (e : Same D D') {i : Nat} {us : List V} (hi : vss[i]? = some us) {v : V} (hv : ∀ a, a ∈ adV v → D0 a = none ∧ a ∉ adS vss ∧ ∃ o, D' a = some o) : Fq D0 D' (vss.set i (us ++ [v])) := by
  have hp := adS_put hi v
  refine ⟨hp.nodup_iff.mpr (List.nodup_append.mpr ⟨?_, h.nd, fun x hx y hy e => (hv x hx).2.1 (e ▸ hy)⟩), fun a ha => ?_⟩
  · cases v <;> first | exact List.pairwise_singleton _ _ | exact List.nodup_nil
  · rcases List.mem_append.mp (hp.mem_iff.mp ha) with h1 | h1
    · obtain ⟨h2, _, h3⟩ := hv a h1
      exact ⟨h2, h3⟩
    · obtain ⟨h2, o, h3⟩ := h.fr a h1
      exact ⟨h2, o, e _ _ h3⟩
/-- reels that are handed in: lists or tuples of rows, lists or tuples or None -/
def InR (D : Hp) (v : V) : Rw → Prop
  | none => v = .non
  | some ns => ∃ a, v = .ref a ∧ Ks D a (ns.map V.int)
inductive InL (D : Hp) : List V → List Rw → Prop
  | nil : InL D [] []
  | cons {v : V} {vs : List V} {r : Rw} {rs : List Rw} : InR D v r → InL D vs rs → InL D (v :: vs) (r :: rs)
inductive InA (D : Hp) : List V → List (List Rw) → Prop
  | nil : InA D [] []
  | cons {a : Addr} {vs us : List V} {R : List Rw} {Rs : List (List Rw)} : Ks D a vs → InL D vs R → InA D us Rs → InA D (.ref a :: us) (R :: Rs)
theorem InR.up {D D' : Hp} (e : Sm D D') {v : V} {r : Rw} (h : InR D v r) : InR D' v r := by
  cases r with
  | none => exact h
  | some ns => obtain ⟨a, h1, h2⟩ := h; exact ⟨a, h1, inferInstance⟩
theorem InL.up {D D' : Hp} (e : Sm D D') {vs : List V} {rs : List Rw} (h : InL D vs rs) : InL D' vs rs := by
  induction h with
  | nil => exact .nil
  | cons h _ ih => exact .cons (h.up e) ih
theorem InL.len {D : Hp} {vs : List V} {rs : List Rw} (h : InL D vs rs) : vs.length = rs.length := by
  induction h with
  | nil => rfl
  | cons _ _ ih => rw [List.length_cons, List.length_cons, ih]
theorem InL.get {D : Hp} {vs : List V} {rs : List Rw} (h : InL D vs rs) : ∀ {i : Nat} {v : V}, vs[i]? = some v → ∃ r, rs[i]? = some r ∧ InR D v r := by
  induction h with
  | nil => intro i v e; simp at e
  | cons h _ ih =>
    intro i v e
    cases i with
    | zero => cases e; exact ⟨_, rfl, h⟩
    | succ i => exact ih (by simpa using e)
theorem InA.up {D D' : Hp} (e : Sm D D') {vs : List V} {rs : List (List Rw)} (h : InA D vs rs) : InA D' vs rs := by
  induction h with
  | nil => exact .nil
  | cons k h _ ih => exact .cons inferInstance (h.up e) ih
theorem InA.len {D : Hp} {vs : List V} {rs : List (List Rw)} (h : InA D vs rs) : vs.length = rs.length := by
  induction h with
  | nil => rfl
  | cons _ _ _ ih => rw [List.length_cons, List.length_cons, ih]
theorem InA.get {D : Hp} {vs : List V} {rs : List (List Rw)} (h : InA D vs rs) : ∀ {i : Nat} {v : V}, vs[i]? = some v → ∃ a us R, v = .ref a ∧ rs[i]? = some R ∧ Ks D a us ∧ InL D us R := by
  induction h with
  | nil => intro i v e; simp at e
  | cons k h _ ih =>
    intro i v e
    cases i with
    | zero => cases e; exact ⟨_, _, _, rfl, rfl, k, h⟩
    | succ i => exact ih (by simpa using e)
def insI (x : Int) : List Int → List Int
  | [] => [x]
  | y :: ys => if x ≤ y then x :: y :: ys else y :: insI x ys
def srtI : List Int → List Int
  | [] => []
  | x :: xs => insI x (srtI xs)
theorem insI_perm (x : Int) : ∀ ys, (insI x ys).Perm (x :: ys)
  | [] => List.Perm.refl _
  | y :: ys => by
    unfold insI
    split
    · exact List.Perm.refl _
    · exact ((insI_perm x ys).cons y).trans (List.Perm.swap _ _ _)
theorem srtI_perm : ∀ xs, (srtI xs).Perm xs
  | [] => List.Perm.refl _
  | x :: xs => (insI_perm x _).trans ((srtI_perm xs).cons x)
theorem insI_srt (x : Int) : ∀ {ys : List Int}, ys.Pairwise (· ≤ ·) → (insI x ys).Pairwise (· ≤ ·)
  | [], _ => List.pairwise_singleton _ _
  | y :: ys, h => by
    obtain ⟨h1, h2⟩ := List.pairwise_cons.mp h
    unfold insI
    split
    · rename_i c
      exact List.pairwise_cons.mpr ⟨fun z hz => by
        rcases List.mem_cons.mp hz with e | e
        · omega
        · have := h1 z e
          omega, h⟩
    · rename_i c
      refine List.pairwise_cons.mpr ⟨fun z hz => ?_, insI_srt x h2⟩
      rcases List.mem_cons.mp ((insI_perm x ys).mem_iff.mp hz) with e | e
      · omega
      · exact h1 z e
theorem srtI_srt : ∀ xs, (srtI xs).Pairwise (· ≤ ·)
  | [] => .nil
  | x :: xs => insI_srt x (srtI_srt xs)
theorem srtI_uniq {xs ys : List Int} (h : xs.Perm ys) (hx : xs.Pairwise (· ≤ ·)) : xs = srtI ys :=
  (h.trans (srtI_perm ys).symm).eq_of_pairwise (fun a b _ _ h1 h2 => Int.le_antisymm h1 h2) hx (srtI_srt ys)
theorem srtI_len (xs : List Int) : (srtI xs).length = xs.length := (srtI_perm xs).length_eq
def rwT (tk : List (Nat × Rw)) : List (List Int) := tk.filterMap (·.2)
def nwT (tk : List (Nat × Rw)) : Rw := if rwT tk = [] then none else some (srtI (rwT tk).flatten)
def rd1 (zs : List Int) (p : Nat × Rw) : List Int := match p.2 with
  | none => zs
  | some r => zs.set p.1 (zs.getD p.1 0 + r.length)
def rdT (tk : List (Nat × Rw)) (zs : List Int) : List Int := tk.foldl rd1 zs
theorem rd1_len (zs : List Int) (p : Nat × Rw) : (rd1 zs p).length = zs.length := by
  unfold rd1
  split
  · rfl
  · rw [List.length_set]
theorem rdT_len : ∀ (tk : List (Nat × Rw)) (zs : List Int), (rdT tk zs).length = zs.length
  | [], zs => rfl
  | p :: tk, zs => by
    show (rdT tk (rd1 zs p)).length = _
    rw [rdT_len tk, rd1_len]
def mgS (o : Nat) (s : List (List Rw) × List Int) : List (List Rw) × List Int :=
  ((tkN o s.1 s.1.length).set o ((tkN o s.1 s.1.length).getD o [] ++ [nwT (tfN o s.1 s.1.length)]), rdT (tfN o s.1 s.1.length) s.2)
def phZ (o : Nat) (s : List (List Rw) × List Int) : Nat → List (List Rw) × List Int
  | 0 => s
  | k + 1 => mgS o (phZ o s k)
theorem mgS_len (o : Nat) (s : List (List Rw) × List Int) : (mgS o s).1.length = s.1.length ∧ (mgS o s).2.length = s.2.length := by
  unfold mgS
  exact ⟨by rw [List.length_set, tkN_len], rdT_len _ _⟩
theorem phZ_len (o : Nat) (s : List (List Rw) × List Int) : ∀ k, (phZ o s k).1.length = s.1.length ∧ (phZ o s k).2.length = s.2.length
  | 0 => ⟨rfl, rfl⟩
  | k + 1 => by
    obtain ⟨h1, h2⟩ := mgS_len o (phZ o s k)
    obtain ⟨h3, h4⟩ := phZ_len o s k
    exact ⟨h1.trans h3, h2.trans h4⟩
def zerI (n : Nat) : List Int := List.replicate n 0
/-- a phase on reels: what is there behind it, what was read -/
def phQ (p : Int × Int) (Rs : List (List Rw)) : List (List Rw) × List Int := phZ p.1.toNat (Rs, zerI Rs.length) p.2.toNat
def plQ (Rs : List (List Rw)) : List (Int × Int) → List (List Rw) × List (List Int)
  | [] => (Rs, [])
  | p :: ps => ((plQ (phQ p Rs).1 ps).1, (phQ p Rs).2 :: (plQ (phQ p Rs).1 ps).2)
def isPh (cs : List Int) (p : Int × Int) : Prop := 0 ≤ p.1 ∧ p.1 < (cs.length : Int) ∧ cs.getD p.1.toNat 0 = 0 ∧ 1 ≤ p.2 ∧ ∃ c, c ∈ cs ∧ p.2 ≤ c
def cntI (Rs : List (List Rw)) : List Int := Rs.map fun r => (r.length : Int)
def okPl : List (List Rw) → List (Int × Int) → Prop
  | _, [] => True
  | Rs, p :: ps => isPh (cntI Rs) p ∧ okPl (phQ p Rs).1 ps
/-- all things on the reels -/
def allT (Rs : List (List Rw)) : List Int := (Rs.map fun R => (R.filterMap id).flatten).flatten

def thR (R : List Rw) : List Int := (R.filterMap id).flatten
theorem allT_eq (Rs : List (List Rw)) : allT Rs = (Rs.map thR).flatten := rfl
theorem thR_cons (r : Rw) (R : List Rw) : thR (r :: R) = r.getD [] ++ thR R := by
  unfold thR
  cases r <;> simp
theorem thR_app (R S : List Rw) : thR (R ++ S) = thR R ++ thR S := by
  unfold thR
  rw [List.filterMap_append, List.flatten_append]
theorem th_front {Rs : List (List Rw)} {i : Nat} {R : List Rw} (h : Rs[i]? = some R) : (allT Rs).Perm (thR R ++ allT (Rs.eraseIdx i)) := by
  have p := ((perm_front h).map thR).flatten
  rw [List.map_cons, List.flatten_cons] at p
  exact p
theorem th_set {Rs : List (List Rw)} {i : Nat} (h : i < Rs.length) (R : List Rw) : (allT (Rs.set i R)).Perm (thR R ++ allT (Rs.eraseIdx i)) := by
  have := th_front (Rs := Rs.set i R) (i := i) (R := R) (by rw [List.getElem?_set, if_pos rfl, if_pos h])
  rw [ers_set] at this
  exact this
theorem rwT_app (a b : List (Nat × Rw)) : rwT (a ++ b) = rwT a ++ rwT b := by unfold rwT; rw [List.filterMap_append]
theorem tk_perm (o : Nat) (Rs : List (List Rw)) : ∀ i, i ≤ Rs.length → (allT (tkN o Rs i) ++ (rwT (tfN o Rs i)).flatten).Perm (allT Rs)
  | 0, _ => by
    show (allT Rs ++ []).Perm _
    rw [List.append_nil]
  | i + 1, h => by
    have ih := tk_perm o Rs i (by omega)
    unfold tkN tfN
    by_cases c : i = o
    · rw [if_pos c, if_pos c, List.append_nil]
      exact ih
    · rw [if_neg c, if_neg c]
      have hi : (tkN o Rs i)[i]? = some ((tkN o Rs i).getD i []) := by
        have hl := tkN_len o Rs i
        rw [List.getD_eq_getElem?_getD, List.getElem?_eq_getElem (by omega)]
        rfl
      obtain ⟨X, hX⟩ : ∃ X, X = tkN o Rs i := ⟨_, rfl⟩
      obtain ⟨R, hR⟩ : ∃ R, R = X.getD i [] := ⟨_, rfl⟩
      rw [← hX] at hi ih ⊢
      rw [← hR] at hi ⊢
      have hil := (List.getElem?_eq_some_iff.mp hi).1
      cases R with
      | nil =>
        show (allT (X.set i []) ++ (rwT (tfN o Rs i ++ [])).flatten).Perm _
        rw [List.append_nil, set_id hi]
        exact ih
      | cons r R =>
        show (allT (X.set i R) ++ (rwT (tfN o Rs i ++ [(i, r)])).flatten).Perm _
        have p1 := th_set hil R
        have p2 := th_front hi
        rw [thR_cons] at p2
        rw [rwT_app, List.flatten_append]
        have e : (rwT [(i, r)]).flatten = r.getD [] := by
          unfold rwT
          cases r <;> simp
        rw [e]
        refine List.Perm.trans ?_ ih
        obtain ⟨x, hx⟩ : ∃ x : List Int, x = r.getD [] := ⟨_, rfl⟩
        rw [← hx] at p2 ⊢
        refine ((p1.append_right _).trans ?_).trans (p2.symm.append_right _)
        rw [List.append_assoc, List.append_assoc, List.append_assoc]
        have q1 : (thR R ++ (allT (X.eraseIdx i) ++ ((rwT (tfN o Rs i)).flatten ++ x))).Perm (x ++ (thR R ++ (allT (X.eraseIdx i) ++ (rwT (tfN o Rs i)).flatten))) := by
          rw [← List.append_assoc, ← List.append_assoc, ← List.append_assoc (thR R)]
          exact List.perm_append_comm
        exact q1
theorem nwT_th (tk : List (Nat × Rw)) : (thR [nwT tk]).Perm (rwT tk).flatten := by
  unfold nwT
  split
  · rename_i c
    rw [c]
    exact List.Perm.refl _
  · show (([srtI (rwT tk).flatten] : List (List Int)).flatten).Perm _
    rw [List.flatten_cons, List.flatten_nil, List.append_nil]
    exact srtI_perm _
theorem mg_perm {o : Nat} {s : List (List Rw) × List Int} (h : o < s.1.length) : (allT (mgS o s).1).Perm (allT s.1) := by
  have p := tk_perm o s.1 s.1.length (Nat.le_refl _)
  unfold mgS
  obtain ⟨X, hX⟩ : ∃ X, X = tkN o s.1 s.1.length := ⟨_, rfl⟩
  have hXl : X.length = s.1.length := by rw [hX]; exact tkN_len _ _ _
  rw [← hX] at p ⊢
  have hi : X[o]? = some (X.getD o []) := by rw [List.getD_eq_getElem?_getD, List.getElem?_eq_getElem (by omega)]; rfl
  refine List.Perm.trans ?_ p
  refine (th_set (by omega) _).trans ?_
  rw [thR_app]
  have p2 := th_front hi
  refine List.Perm.trans ?_ (p2.symm.append_right _)
  rw [List.append_assoc, List.append_assoc]
  refine List.Perm.append_left _ ?_
  exact List.perm_append_comm.trans (List.Perm.append_left _ (nwT_th _))
theorem ph_perm {o : Nat} {s : List (List Rw) × List Int} (h : o < s.1.length) : ∀ k, (allT (phZ o s k).1).Perm (allT s.1)
  | 0 => List.Perm.refl _
  | k + 1 => (mg_perm (by rw [(phZ_len o s k).1]; exact h)).trans (ph_perm h k)
theorem tfN_lt {α : Type} (o : Nat) (xs : List (List α)) : ∀ i p, p ∈ tfN o xs i → p.1 < i
  | 0, p, h => by cases h
  | i + 1, p, h => by
    unfold tfN at h
    rcases List.mem_append.mp h with h | h
    · have := tfN_lt o xs i p h
      omega
    · split at h
      · cases h
      · split at h
        · cases h
        · rw [List.mem_singleton.mp h]
          exact Nat.lt_succ_self _
theorem tfN_len {α : Type} (o : Nat) (xs : List (List α)) : ∀ i, (tfN o xs i).length ≤ i
  | 0 => Nat.le_refl _
  | i + 1 => by
    have ih := tfN_len o xs i
    unfold tfN
    rw [List.length_append]
    have : (if i = o then [] else match (tkN o xs i).getD i [] with | [] => [] | v :: _ => [(i, v)] : List (Nat × α)).length ≤ 1 := by
      split
      · exact Nat.zero_le _
      · split
        · exact Nat.zero_le _
        · exact Nat.le_refl _
    omega
theorem rwT_len {tk : List (Nat × Rw)} {r : List Int} (h : r ∈ rwT tk) : r.length ≤ (rwT tk).flatten.length := (List.sublist_flatten_of_mem h).length_le

theorem tkN_cnt {α : Type} (o : Nat) (Rs : List (List α)) : ∀ i (j : Nat) (R : List α), (tkN o Rs i)[j]? = some R → ∃ R0, Rs[j]? = some R0 ∧ R.length ≤ R0.length ∧ (j = o → R = R0)
  | 0, j, R, h => ⟨R, h, Nat.le_refl _, fun _ => rfl⟩
  | i + 1, j, R, h => by
    unfold tkN at h
    by_cases c : i = o
    · rw [if_pos c] at h
      exact tkN_cnt o Rs i j R h
    · rw [if_neg c, List.getElem?_set] at h
      by_cases c2 : i = j
      · subst c2
        rw [if_pos rfl] at h
        split at h
        · rename_i hl
          have hg : (tkN o Rs i)[i]? = some ((tkN o Rs i).getD i []) := by
            rw [List.getD_eq_getElem?_getD, List.getElem?_eq_getElem hl]
            rfl
          obtain ⟨R0, h1, h2, h3⟩ := tkN_cnt o Rs i i _ hg
          have e := Option.some.inj h
          refine ⟨R0, h1, ?_, fun e2 => absurd e2 c⟩
          rw [← e, List.length_tail]
          omega
        · cases h
      · rw [if_neg c2] at h
        exact tkN_cnt o Rs i j R h
theorem mg_cnt {o : Nat} {s : List (List Rw) × List Int} {j : Nat} {R : List Rw} (h : (mgS o s).1[j]? = some R) : ∃ R0, s.1[j]? = some R0 ∧ (if j = o then R.length = R0.length + 1 else R.length ≤ R0.length) := by
  unfold mgS at h
  have h' : ((tkN o s.1 s.1.length).set o ((tkN o s.1 s.1.length).getD o [] ++ [nwT (tfN o s.1 s.1.length)]))[j]? = some R := h
  rw [List.getElem?_set] at h'
  by_cases c : o = j
  · subst c
    rw [if_pos rfl] at h'
    split at h'
    · rename_i hl
      have hg : (tkN o s.1 s.1.length)[o]? = some ((tkN o s.1 s.1.length).getD o []) := by
        rw [List.getD_eq_getElem?_getD, List.getElem?_eq_getElem hl]
        rfl
      obtain ⟨R0, h1, h2, h3⟩ := tkN_cnt o s.1 _ o _ hg
      refine ⟨R0, h1, ?_⟩
      rw [if_pos rfl, ← Option.some.inj h', List.length_append, h3 rfl]
      rfl
    · cases h'
  · rw [if_neg c] at h'
    obtain ⟨R0, h1, h2, h3⟩ := tkN_cnt o s.1 _ j _ h'
    exact ⟨R0, h1, by rw [if_neg (fun e => c e.symm)]; exact h2⟩
theorem ph_cnt {o : Nat} {s : List (List Rw) × List Int} : ∀ (k j : Nat) (R : List Rw), (phZ o s k).1[j]? = some R → ∃ R0, s.1[j]? = some R0 ∧ (if j = o then R.length = R0.length + k else R.length ≤ R0.length)
  | 0, j, R, h => ⟨R, h, by split <;> simp⟩
  | k + 1, j, R, h => by
    obtain ⟨R1, h1, h2⟩ := mg_cnt (show (mgS o (phZ o s k)).1[j]? = some R from h)
    obtain ⟨R0, h3, h4⟩ := ph_cnt k j R1 h1
    refine ⟨R0, h3, ?_⟩
    by_cases c : j = o
    · rw [if_pos c] at h2 h4 ⊢
      omega
    · rw [if_neg c] at h2 h4 ⊢
      omega
theorem ph_bound {p : Int × Int} {Rs : List (List Rw)} {B : Nat} (hp : isPh (cntI Rs) p) (hB : ∀ R, R ∈ Rs → R.length ≤ B) : p.2 ≤ (B : Int) ∧ p.1.toNat < Rs.length ∧ ∀ R, R ∈ (phQ p Rs).1 → R.length ≤ B := by
  obtain ⟨h1, h2, h3, h4, c, hc, h5⟩ := hp
  unfold cntI at h2 h3 hc
  obtain ⟨R0, hR0, rfl⟩ := List.mem_map.mp hc
  have hb0 := hB R0 hR0
  rw [List.length_map] at h2
  have ho : p.1.toNat < Rs.length := by omega
  have hm : p.2 ≤ (B : Int) := by omega
  refine ⟨hm, ho, fun R hR => ?_⟩
  obtain ⟨j, hj⟩ := List.getElem?_of_mem hR
  obtain ⟨R1, h6, h7⟩ := ph_cnt p.2.toNat j R hj
  have h6' : Rs[j]? = some R1 := h6
  by_cases e : j = p.1.toNat
  · rw [if_pos e] at h7
    rw [List.getD_eq_getElem?_getD, List.getElem?_map, ← e, h6'] at h3
    have h3' : (R1.length : Int) = 0 := h3
    omega
  · rw [if_neg e] at h7
    have := hB R1 (List.mem_of_getElem? h6')
    omega
theorem plQ_snoc : ∀ (ps : List (Int × Int)) (Rs : List (List Rw)) (p : Int × Int), plQ Rs (ps ++ [p]) = ((phQ p (plQ Rs ps).1).1, (plQ Rs ps).2 ++ [(phQ p (plQ Rs ps).1).2])
  | [], Rs, p => rfl
  | x :: ps, Rs, p => by
    have ih := plQ_snoc ps (phQ x Rs).1 p
    show ((plQ (phQ x Rs).1 (ps ++ [p])).1, (phQ x Rs).2 :: (plQ (phQ x Rs).1 (ps ++ [p])).2) = _
    rw [ih]
    rfl
theorem okPl_app : ∀ (ps qs : List (Int × Int)) (Rs : List (List Rw)), okPl Rs (ps ++ qs) → okPl Rs ps ∧ okPl (plQ Rs ps).1 qs
  | [], qs, Rs, h => ⟨trivial, h⟩
  | p :: ps, qs, Rs, h => by
    obtain ⟨h1, h2⟩ := h
    obtain ⟨h3, h4⟩ := okPl_app ps qs (phQ p Rs).1 h2
    exact ⟨⟨h1, h3⟩, h4⟩
theorem phQ_len (p : Int × Int) (Rs : List (List Rw)) : (phQ p Rs).1.length = Rs.length ∧ (phQ p Rs).2.length = Rs.length := by
  obtain ⟨h1, h2⟩ := phZ_len p.1.toNat (Rs, zerI Rs.length) p.2.toNat
  exact ⟨h1, by unfold phQ; rw [h2]; exact List.length_replicate⟩
/-- what stays true along a play -/
theorem pl_inv {B : Nat} : ∀ (ps : List (Int × Int)) (Rs : List (List Rw)), okPl Rs ps → (∀ R, R ∈ Rs → R.length ≤ B) → (plQ Rs ps).1.length = Rs.length ∧ (∀ R, R ∈ (plQ Rs ps).1 → R.length ≤ B) ∧ (allT (plQ Rs ps).1).Perm (allT Rs)
  | [], Rs, _, hB => ⟨rfl, hB, List.Perm.refl _⟩
  | p :: ps, Rs, h, hB => by
    obtain ⟨h1, h2⟩ := h
    obtain ⟨_, ho, hB2⟩ := ph_bound h1 hB
    obtain ⟨i1, i2, i3⟩ := pl_inv ps (phQ p Rs).1 h2 hB2
    exact ⟨i1.trans (phQ_len p Rs).1, i2, i3.trans (ph_perm (s := (Rs, zerI Rs.length)) ho _)⟩
theorem zipW_snoc {α β γ : Type} (f : α → β → γ) {xs : List α} {ys : List β} (h : xs.length = ys.length) (x : α) (y : β) : List.zipWith f (xs ++ [x]) (ys ++ [y]) = List.zipWith f xs ys ++ [f x y] := by
  rw [List.zipWith_append (by exact h)]
  rfl
theorem adS_snoc (vss : List (List V)) (us : List V) : adS (vss ++ [us]) = adS vss ++ adR us := by
  unfold adS
  rw [List.flatMap_append]
  simp

theorem take_sn {α : Type} {xs : List α} {i : Nat} {x : α} (h : xs[i]? = some x) : xs.take (i + 1) = xs.take i ++ [x] := by rw [List.take_add_one, h]; rfl

--@need TSN
theorem ownZ_sn2 {ads : List Addr} {wss : List (List V)} (h : ads.length = wss.length) (a : Addr) (w : List V) : ownZ (ads ++ [a]) (wss ++ [w]) = ownZ ads wss ++ [(a, HO.lst w)] := by
  unfold ownZ
  rw [List.zipWith_append h]
  rfl
/-- a list of truths -/
abbrev lB (r : List Bool) : PyData := .list (r.map PyData.bool)
theorem rp_bl2 {D : Hp} : ∀ bs : List Bool, RpAll D (bs.map V.bl) (bs.map PyData.bool)
  | [] => .nil
  | b :: bs => .cons (.bl b) (rp_bl2 bs)
theorem Sx.fixZ2 {H : Hp} {L : Own} : ∀ (ads : List Addr) (wss : List (List V)) (D : Hp), ads.length = wss.length → Sx D (ownZ ads wss ++ L) H → ∃ D', Sm D D' ∧ Sx D' L H ∧ (∀ (i : Nat) (a : Addr) (ws : List V), ads[i]? = some a → wss[i]? = some ws → Kn D' a (.lst ws)) ∧ (∀ a, a ∈ ads → D a = none) ∧ ads.Nodup
  | [], [], D, _, S => ⟨D, Sm.rfl', S, fun i a ws h => by simp at h, fun a h => (nomatch h), List.nodup_nil⟩
  | [], _ :: _, _, h, _ => by simp at h
  | _ :: _, [], _, h, _ => by simp at h
  | a :: ads, w :: wss, D, h, S => by
    have S1 : Sx D ((a, .lst w) :: (ownZ ads wss ++ L)) H := S
    have h0 : D a = none := (S1.ow _ List.mem_cons_self).2
    obtain ⟨D1, e1, k1, S2⟩ := Sx.fix1 (a := a) (S := S1)
    obtain ⟨D2, e2, S3, h3, h4, h5⟩ := Sx.fixZ2 ads wss D1 (by simpa using h) S2
    have hn : a ∉ ads := fun hm => by
      have := h4 a hm
      rw [k1.pf] at this
      cases this
    refine ⟨D2, up, S3, fun i b ws q4 q5 => ?_, fun b hb => ?_, List.nodup_cons.mpr ⟨hn, h5⟩⟩
    · cases i with
      | zero => cases q4; cases q5; infer_instance
      | succ i => exact h3 i b ws q4 q5
    · rcases List.mem_cons.mp hb with rfl | hb
      · exact h0
      · cases e : D b with
        | none => rfl
        | some u =>
          have := h4 b hb
          rw [e1.e _ _ e] at this
          cases this
theorem ra_fixL {D : Hp} : ∀ {ads : List Addr} {nss : List (List Int)}, ads.length = nss.length → (∀ (i : Nat) (a : Addr) (ws : List V), ads[i]? = some a → (nss.map fun r => r.map V.int)[i]? = some ws → Kn D a (.lst ws)) → RpAll D (ads.map V.ref) (nss.map lI)
  | [], [], _, _ => .nil
  | [], _ :: _, h, _ => by simp at h
  | _ :: _, [], h, _ => by simp at h
  | a :: ads, ns :: nss, h, k => .cons (.lstI (k 0 a _ rfl rfl).pf) (ra_fixL (by simpa using h) fun i b ws h1 h2 => k (i + 1) b ws h1 h2)
theorem ra_fixB {D : Hp} : ∀ {ads : List Addr} {bss : List (List Bool)}, ads.length = bss.length → (∀ (i : Nat) (a : Addr) (ws : List V), ads[i]? = some a → (bss.map fun r => r.map V.bl)[i]? = some ws → Kn D a (.lst ws)) → RpAll D (ads.map V.ref) (bss.map lB)
  | [], [], _, _ => .nil
  | [], _ :: _, h, _ => by simp at h
  | _ :: _, [], h, _ => by simp at h
  | a :: ads, ns :: nss, h, k => .cons (.lst (k 0 a _ rfl rfl).pf (rp_bl2 ns)) (ra_fixB (by simpa using h) fun i b ws h1 h2 => k (i + 1) b ws h1 h2)
theorem sh_LB (bss : List (List Bool)) : Sh 2 (.list (bss.map lB)) := Sh.list (n := 1) fun d hd => by
  obtain ⟨r, _, rfl⟩ := List.mem_map.mp hd
  exact Sh.list (n := 0) fun e he => by
    obtain ⟨b, _, rfl⟩ := List.mem_map.mp he
    exact Sh.bl 0 b
theorem dpLB {D : Hp} {K : PySem.W.Frag} {L : Own} {H : Hp} {a : Addr} {us : List V} {xs : List (List Bool)} (S : Sx D L H) (ha : Rds K D L a us) (ra : RpAll D us (xs.map lB)) : Dp K H (.ref a) (.list (xs.map lB)) := .lst (ha.sq S) (RpAll.dp (RpAll.up S.dH ra))
theorem r_neSB {D : Hp} {K : PySem.W.Frag} {L : Own} {H : Hp} {Q : VK} {a b : Addr} {us ws : List V} {xs : List (List Bool)} (S : Sx D L H) (ha : Rds K D L a us) (hb : Rds K D L b ws) (ra : RpAll D us (xs.map lB)) (rb : RpAll D ws (xs.map lB)) (k : Q (.bl false) H) : rNeX K (.ref a) (.ref b) H Q := r_neSame (dpLB S ha ra) (dpLB S hb rb) (sh_LB xs) k

def OkRw (r : Rw) : Prop := ∀ ns, r = some ns → ns.Pairwise (· ≤ ·) ∧ ns.length ≤ 8 ∧ ∀ t, t ∈ ns → -1000000000000000000000000000000000000000000000000000000000000 ≤ t ∧ t ≤ 1000000000000000000000000000000000000000000000000000000000000
def reelQ (R : List Rw) : PyData := .list (R.map rwD)
theorem reelQ_inv {D : Hp} {v : V} {R : List Rw} (h : Rp D v (reelQ R)) : ∃ a us, v = .ref a ∧ Kn D a (.lst us) ∧ RpAll D us (R.map rwD) := by
  obtain ⟨a, us, rfl, k, hr⟩ := Rp.inv_lst h
  exact ⟨a, us, rfl, ⟨k⟩, hr⟩
theorem pm_mid8 {α : Type} (x : α) (A L : List α) : (x :: (A ++ L)).Perm ((A ++ [x]) ++ L) := by
  rw [List.append_assoc A [x] L]
  exact List.perm_middle.symm
theorem rs_all8 {D : Hp} {wss : List (List V)} {Rs : List (List Rw)} (h : RsA D wss Rs) : ∀ (ads : List Addr), ads.length = wss.length → (∀ (i : Nat) (a : Addr) (ws : List V), ads[i]? = some a → wss[i]? = some ws → Kn D a (.lst ws)) → RpAll D (ads.map V.ref) (Rs.map reelQ) := by
  induction h with
  | nil =>
    intro ads hl _
    cases ads with
    | nil => exact .nil
    | cons a ads => simp at hl
  | cons h1 _ ih =>
    intro ads hl hk
    cases ads with
    | nil => simp at hl
    | cons a ads => exact .cons (.lst (hk 0 a _ rfl rfl).pf h1) (ih ads (by simpa using hl) fun i b ws g1 g2 => hk (i + 1) b ws g1 g2)
theorem zw_rd8 (zs : List Int) (p : Nat × Rw) (ws : List Int) (h : zs.length = ws.length) : List.zipWith (· + ·) zs (rd1 ws p) = rd1 (List.zipWith (· + ·) zs ws) p := by
  obtain ⟨k, r⟩ := p
  cases r with
  | none => rfl
  | some r =>
    show List.zipWith (· + ·) zs (ws.set k (ws.getD k 0 + (r.length : Int))) = (List.zipWith (· + ·) zs ws).set k ((List.zipWith (· + ·) zs ws).getD k 0 + (r.length : Int))
    refine List.ext_getElem? fun i => ?_
    rw [List.getElem?_zipWith, List.getElem?_set, List.getElem?_set, List.getElem?_zipWith, List.length_zipWith]
    by_cases c : k = i
    · subst c
      rw [if_pos rfl, if_pos rfl]
      by_cases c2 : k < ws.length
      · rw [if_pos c2, if_pos (by omega), List.getElem?_eq_getElem (show k < zs.length by omega), List.getD_eq_getElem?_getD, List.getD_eq_getElem?_getD, List.getElem?_zipWith, List.getElem?_eq_getElem c2, List.getElem?_eq_getElem (show k < zs.length by omega)]
        show some _ = some _
        congr 1
        show zs[k] + (ws[k] + (r.length : Int)) = zs[k] + ws[k] + (r.length : Int)
        omega
      · rw [if_neg c2, if_neg (by omega)]
        cases zs[k]? <;> rfl
    · rw [if_neg c, if_neg c]
theorem zw_rdT8 (zs : List Int) : ∀ (tk : List (Nat × Rw)) (ws : List Int), zs.length = ws.length → List.zipWith (· + ·) zs (rdT tk ws) = rdT tk (List.zipWith (· + ·) zs ws)
  | [], ws, _ => rfl
  | p :: tk, ws, h => by
    show List.zipWith (· + ·) zs (rdT tk (rd1 ws p)) = rdT tk (rd1 (List.zipWith (· + ·) zs ws) p)
    rw [zw_rdT8 zs tk (rd1 ws p) (by rw [rd1_len]; exact h), zw_rd8 zs p ws h]
theorem zw_zer8 : ∀ zs : List Int, List.zipWith (· + ·) zs (zerI zs.length) = zs
  | [] => rfl
  | z :: zs => by
    have ih := zw_zer8 zs
    show (z + 0) :: List.zipWith (· + ·) zs (zerI zs.length) = z :: zs
    rw [ih, Int.add_zero]
theorem rsA_cnt8 {D : Hp} {vss : List (List V)} {Rs : List (List Rw)} (h : RsA D vss Rs) : vss.map (fun v => (v.length : Int)) = cntI Rs := by
  induction h with
  | nil => rfl
  | cons h1 _ ih =>
    have h2 := h1.length
    rw [List.length_map] at h2
    show ((_ : List V).length : Int) :: _ = ((_ : List Rw).length : Int) :: _
    rw [ih, h2]
    rfl
theorem plQ_len8 : ∀ (ps : List (Int × Int)) (Rs : List (List Rw)), (plQ Rs ps).2.length = ps.length
  | [], _ => rfl
  | p :: ps, Rs => by
    show ((phQ p Rs).2 :: (plQ (phQ p Rs).1 ps).2).length = _
    rw [List.length_cons, plQ_len8 ps, List.length_cons]
theorem rp_td8 {D : Hp} : ∀ (us : List V) (ds : List PyData) (k : Nat), RpAll D us ds → RpAll D (us.take k) (ds.take k) ∧ RpAll D (us.drop k) (ds.drop k)
  | us, ds, 0, h => ⟨.nil, h⟩
  | [], [], k + 1, h => ⟨.nil, .nil⟩
  | u :: us, d :: ds, k + 1, h => by
    cases h with
    | cons h1 h2 =>
      obtain ⟨a, b⟩ := rp_td8 us ds k h2
      exact ⟨.cons h1 a, b⟩
  | [], _ :: _, k + 1, h => nomatch h
  | _ :: _, [], k + 1, h => nomatch h
theorem rp_set8 {D : Hp} : ∀ (us : List V) (ds : List PyData) (k : Nat) (v : V) (d : PyData), RpAll D us ds → Rp D v d → RpAll D (us.set k v) (ds.set k d)
  | [], [], k, v, d, h, hv => .nil
  | u :: us, e :: ds, 0, v, d, h, hv => by
    cases h with
    | cons h1 h2 => exact .cons hv h2
  | u :: us, e :: ds, k + 1, v, d, h, hv => by
    cases h with
    | cons h1 h2 => exact .cons h1 (rp_set8 us ds k v d h2 hv)
  | [], _ :: _, k, _, _, h, _ => nomatch h
  | _ :: _, [], k, _, _, h, _ => nomatch h
theorem cut_last8 (xs : List V) : cutV xs (some (-1)) none = xs.drop (xs.length - 1) := by
  unfold cutV
  rw [HT.sIx_none]
  have e : HT.sIx xs.length 0 (some (-1)) = xs.length - 1 := by
    show (-1 + (xs.length : Int)).toNat = _
    omega
  rw [e, List.take_of_length_le (by rw [List.length_drop]; omega)]
theorem okPl_sn8 : ∀ (ps : List (Int × Int)) (Rs : List (List Rw)) (p : Int × Int), okPl Rs ps → isPh (cntI (plQ Rs ps).1) p → okPl Rs (ps ++ [p])
  | [], _, _, _, h => ⟨h, trivial⟩
  | _ :: ps, _, p, h, h2 => ⟨h.1, okPl_sn8 ps _ p h.2 h2⟩
theorem pm_own8 {ads : List Addr} {vss : List (List V)} {i : Nat} {x : Addr} {v : List V} {A P : Own} (h1 : ads[i]? = some x) (h2 : vss[i]? = some v) : (A ++ (ownZ ads vss ++ P)).Perm ((x, HO.lst v) :: (A ++ (ownZ (ads.eraseIdx i) (vss.eraseIdx i) ++ P))) := ((ownZ_front (L := P) h1 h2).append_left A).trans List.perm_middle
theorem pm_back8 {ads : List Addr} {vss : List (List V)} {i : Nat} {x : Addr} {w : List V} {A P : Own} (h1 : ads[i]? = some x) (h2 : i < vss.length) : ((x, HO.lst w) :: (A ++ (ownZ (ads.eraseIdx i) (vss.eraseIdx i) ++ P))).Perm (A ++ (ownZ ads (vss.set i w) ++ P)) := List.perm_middle.symm.trans ((ownZ_back (L := P) h1 h2).append_left A)
theorem sl_own8 {K : PySem.W.Frag} {D : Hp} {ads : List Addr} {vss : List (List V)} {i : Nat} {x : Addr} {v : List V} {A P : Own} (h1 : ads[i]? = some x) (h2 : vss[i]? = some v) : Sl K D (A ++ (ownZ ads vss ++ P)) x v := ⟨.inl (List.getElem?_of_mem (List.mem_append_right _ (List.mem_append_left _ (List.mem_of_getElem? (ownZ_get h1 h2)))))⟩

theorem rdT_sn8 (tk : List (Nat × Rw)) (p : Nat × Rw) (zs : List Int) : rdT (tk ++ [p]) zs = rd1 (rdT tk zs) p := by
  unfold rdT
  rw [List.foldl_append]
  rfl
theorem rwT_sn8 (tk : List (Nat × Rw)) (i : Nat) (r : Rw) : rwT (tk ++ [(i, r)]) = rwT tk ++ (match r with | none => [] | some r => [r]) := by
  unfold rwT
  rw [List.filterMap_append]
  cases r <;> rfl
theorem zer_st8 {cs : List Int} {n k : Nat} (h : cs.length = k) (hk : k < n) : cs ++ List.replicate (n - k) 0 = (cs ++ [0]) ++ List.replicate (n - (k + 1)) 0 := by
  rw [List.append_assoc, show n - k = (n - (k + 1)) + 1 by omega, List.replicate_succ]
  rfl
theorem zer_set8 {cs : List Int} {n k : Nat} (h : cs.length = k) (hk : k < n) (m : Int) : (cs ++ List.replicate (n - k) 0).set k ((cs ++ List.replicate (n - k) 0).getD k 0 + m) = (cs ++ [m]) ++ List.replicate (n - (k + 1)) 0 := by
  have e : (cs ++ List.replicate (n - k) (0 : Int)).getD k 0 = 0 := by
    rw [List.getD_eq_getElem?_getD, List.getElem?_append_right (by omega), List.getElem?_replicate, if_pos (by omega)]
    rfl
  rw [e, Int.zero_add, List.set_append_right _ _ (by omega), h, Nat.sub_self, show n - k = (n - (k + 1)) + 1 by omega, List.replicate_succ, List.append_assoc]
  rfl
theorem tf_nil8 {o : Nat} {Rs : List (List Rw)} {i : Nat} (h : (tkN o Rs i).getD i [] = []) : tfN o Rs (i + 1) = tfN o Rs i := by
  show tfN o Rs i ++ _ = _
  by_cases c : i = o
  · rw [if_pos c, List.append_nil]
  · rw [if_neg c, h, List.append_nil]
theorem tf_out8 {o : Nat} {Rs : List (List Rw)} {i : Nat} (h : i = o) : tfN o Rs (i + 1) = tfN o Rs i ∧ tkN o Rs (i + 1) = tkN o Rs i := by
  constructor
  · show tfN o Rs i ++ _ = _
    rw [if_pos h, List.append_nil]
  · show (if i = o then _ else _) = _
    rw [if_pos h]
theorem tf_cons8 {o : Nat} {Rs : List (List Rw)} {i : Nat} {r : Rw} {R : List Rw} (hi : i ≠ o) (h : (tkN o Rs i).getD i [] = r :: R) : tfN o Rs (i + 1) = tfN o Rs i ++ [(i, r)] ∧ tkN o Rs (i + 1) = (tkN o Rs i).set i R := by
  constructor
  · show tfN o Rs i ++ _ = _
    rw [if_neg hi, h]
  · show (if i = o then _ else _) = _
    rw [if_neg hi, h]
    rfl
theorem tk_nil8 {o : Nat} {Rs : List (List Rw)} {i : Nat} (hl : i < Rs.length) (h : (tkN o Rs i).getD i [] = []) : tkN o Rs (i + 1) = tkN o Rs i := by
  show (if i = o then _ else _) = _
  by_cases c : i = o
  · rw [if_pos c]
  · rw [if_neg c, h]
    show (tkN o Rs i).set i [] = _
    refine List.ext_getElem? fun k => ?_
    rw [List.getElem?_set]
    by_cases c2 : i = k
    · subst c2
      rw [if_pos rfl, if_pos (by rw [tkN_len]; exact hl)]
      rw [List.getD_eq_getElem?_getD, List.getElem?_eq_getElem (by rw [tkN_len]; exact hl)] at h
      rw [List.getElem?_eq_getElem (by rw [tkN_len]; exact hl)]
      exact congrArg some h.symm
    · rw [if_neg c2]

def firstC (p : Nat) : List Int := 1 :: List.replicate (p - 1) 0
def highC (ns : List Int) : List Int := (ns.drop 1).map (fun x => ns.headD 0 + x) ++ [ns.headD 0]
def lvlC (p : Nat) : Nat → List Int
  | 0 => firstC p
  | n + 1 => highC (lvlC p n)
theorem firstC_len {p : Nat} (h : 1 ≤ p) : (firstC p).length = p := by
  unfold firstC
  rw [List.length_cons, List.length_replicate]
  omega
theorem highC_len {ns : List Int} (h : 1 ≤ ns.length) : (highC ns).length = ns.length := by
  unfold highC
  rw [List.length_append, List.length_map, List.length_drop]
  show _ + 1 = _
  omega
theorem lvlC_len {p : Nat} (h : 1 ≤ p) (n : Nat) : (lvlC p n).length = p := by
  induction n with
  | zero => exact firstC_len h
  | succ n ih => show (highC (lvlC p n)).length = p; rw [highC_len (by omega), ih]
theorem lvlC_cons {p : Nat} (h : 1 ≤ p) (n : Nat) : ∃ y r, lvlC p n = y :: r ∧ r.length = p - 1 := by
  have hl := lvlC_len h n
  cases e : lvlC p n with
  | nil => rw [e] at hl; simp at hl; omega
  | cons y r => rw [e, List.length_cons] at hl; exact ⟨y, r, rfl, by omega⟩
theorem firstC_eq {p : Int} (h : 2 ≤ p) : firstC p.toNat = 1 :: List.replicate (p - 1).toNat 0 := by
  unfold firstC
  rw [show p.toNat - 1 = (p - 1).toNat by omega]

theorem lvlC_ge {p : Nat} (h : 1 ≤ p) (n : Nat) : (lvlC p n).Pairwise (· ≥ ·) ∧ ∀ x ∈ lvlC p n, 0 ≤ x := by
  induction n with
  | zero =>
    show (firstC p).Pairwise (· ≥ ·) ∧ ∀ x ∈ firstC p, 0 ≤ x
    unfold firstC
    refine ⟨List.pairwise_cons.mpr ⟨fun b hb => ?_, List.pairwise_replicate.mpr (.inr (Int.le_refl 0))⟩, fun x hx => ?_⟩
    · rw [List.mem_replicate] at hb
      omega
    · rcases List.mem_cons.mp hx with e | e
      · omega
      · rw [List.mem_replicate] at e
        omega
  | succ n ih =>
    obtain ⟨i1, i2⟩ := ih
    show (highC (lvlC p n)).Pairwise (· ≥ ·) ∧ ∀ x ∈ highC (lvlC p n), 0 ≤ x
    obtain ⟨y, r, e, _⟩ := lvlC_cons h n
    rw [e] at i1 i2
    rw [e]
    obtain ⟨j1, j2⟩ := List.pairwise_cons.mp i1
    have h0 := i2 y List.mem_cons_self
    have hh : highC (y :: r) = r.map (fun x => y + x) ++ [y] := rfl
    rw [hh]
    refine ⟨List.pairwise_append.mpr ⟨List.pairwise_map.mpr (j2.imp fun {a b} hab => ?_), List.pairwise_singleton _ _, fun a ha b hb => ?_⟩, fun x hx => ?_⟩
    · show y + a ≥ y + b
      have : a ≥ b := hab
      omega
    · obtain ⟨z, hz, rfl⟩ := List.mem_map.mp ha
      have := i2 z (List.mem_cons_of_mem _ hz)
      rw [List.mem_singleton] at hb
      show y + z ≥ b
      omega
    · rcases List.mem_append.mp hx with hx | hx
      · obtain ⟨z, hz, rfl⟩ := List.mem_map.mp hx
        have := i2 z (List.mem_cons_of_mem _ hz)
        omega
      · rw [List.mem_singleton] at hx
        omega

theorem lvlC_sum {p : Nat} (h : 2 ≤ p) (n : Nat) : (lvlC p n).sum < (lvlC p (n + 1)).sum ∧ 1 ≤ (lvlC p n).sum ∧ 1 ≤ (lvlC p n).headD 0 ∧ (lvlC p n).headD 0 ≤ 2 ^ n ∧ (lvlC p n).sum ≤ (p : Int) * (lvlC p n).headD 0 := by
  have key : ∀ n, ∃ y r, lvlC p n = y :: r ∧ r.length = p - 1 ∧ 1 ≤ y ∧ y ≤ 2 ^ n ∧ (∀ z ∈ r, 0 ≤ z ∧ z ≤ y) := by
    intro n
    induction n with
    | zero =>
      refine ⟨1, List.replicate (p - 1) 0, rfl, List.length_replicate, by decide, by decide, fun z hz => ?_⟩
      rw [List.mem_replicate] at hz
      omega
    | succ n ih =>
      obtain ⟨y, r, e, hl, h1, h2, h3⟩ := ih
      have ex : lvlC p (n + 1) = r.map (fun z => y + z) ++ [y] := by
        show highC (lvlC p n) = _
        rw [e]
        rfl
      cases r with
      | nil => simp at hl; omega
      | cons z r =>
        have hz := h3 z List.mem_cons_self
        have g := (lvlC_ge (p := p) (by omega) n).1
        rw [e] at g
        obtain ⟨_, g2⟩ := List.pairwise_cons.mp g
        obtain ⟨g3, _⟩ := List.pairwise_cons.mp g2
        refine ⟨y + z, r.map (fun z => y + z) ++ [y], by rw [ex]; rfl, ?_, by omega, ?_, fun w hw => ?_⟩
        · rw [List.length_append, List.length_map]
          rw [List.length_cons] at hl
          show r.length + 1 = p - 1
          omega
        · rw [Int.pow_succ]
          omega
        · rcases List.mem_append.mp hw with hw | hw
          · obtain ⟨v, hv, rfl⟩ := List.mem_map.mp hw
            have := h3 v (List.mem_cons_of_mem _ hv)
            have : z ≥ v := g3 v hv
            omega
          · rw [List.mem_singleton] at hw
            omega
  have sm : ∀ (y : Int) (r : List Int), (r.map fun z => y + z).sum = r.sum + y * r.length := by
    intro y r
    induction r with
    | nil => simp
    | cons z r ih =>
      rw [List.map_cons, List.sum_cons, List.sum_cons, ih, List.length_cons, Int.natCast_succ, Int.mul_add]
      omega
  have sl : ∀ (y : Int) (r : List Int), (∀ z ∈ r, 0 ≤ z ∧ z ≤ y) → 0 ≤ r.sum ∧ r.sum ≤ y * r.length := by
    intro y r
    induction r with
    | nil => intro _; simp
    | cons z r ih =>
      intro hh
      have h1 := hh z List.mem_cons_self
      have h2 := ih fun w hw => hh w (List.mem_cons_of_mem _ hw)
      rw [List.sum_cons, List.length_cons, Int.natCast_succ, Int.mul_add]
      omega
  obtain ⟨y, r, e, hl, h1, h2, h3⟩ := key n
  have hs := sl y r h3
  have ex : lvlC p (n + 1) = r.map (fun z => y + z) ++ [y] := by
    show highC (lvlC p n) = _
    rw [e]
    rfl
  have h4 : y * 1 ≤ y * (r.length : Int) := Int.mul_le_mul_of_nonneg_left (by omega) (by omega)
  have h5 : (p : Int) * y = y * r.length + y := by
    rw [show (p : Int) = (r.length : Int) + 1 by omega, Int.add_mul, Int.mul_comm]
    omega
  rw [ex, e, List.sum_append, sm, List.sum_cons, List.sum_singleton]
  show _ ∧ _ ∧ 1 ≤ y ∧ y ≤ 2 ^ n ∧ y + r.sum ≤ p * y
  omega
theorem lvlC_mono {p : Nat} (h : 2 ≤ p) {m n : Nat} (hmn : m ≤ n) : (lvlC p m).sum ≤ (lvlC p n).sum := by
  induction n with
  | zero => rw [show m = 0 by omega]; exact Int.le_refl _
  | succ n ih =>
    by_cases c : m = n + 1
    · rw [c]; exact Int.le_refl _
    · exact Int.le_trans (ih (by omega)) (Int.le_of_lt (lvlC_sum h n).1)
theorem lvlC_first {p : Nat} (h : 2 ≤ p) {rows : Int} {m n : Nat} (h1 : rows ≤ (lvlC p m).sum) (h2 : ∀ k < m, (lvlC p k).sum < rows) (h3 : rows ≤ (lvlC p n).sum) (h4 : ∀ k < n, (lvlC p k).sum < rows) : m = n := by
  rcases Nat.lt_trichotomy m n with c | c | c
  · have := h4 m c
    omega
  · exact c
  · have := h2 n c
    omega

def behindN : List (List Int) → List (List Int)
  | [] => []
  | r :: rs => rs.map (fun x => r.map (· + 1) ++ x) ++ [r.map (· + 1)]
def numsN (p : Nat) : Nat → List (List Int)
  | 0 => [0] :: List.replicate (p - 1) []
  | n + 1 => behindN (numsN p n)
theorem behindN_len {rs : List (List Int)} : (behindN rs).length = rs.length := by
  cases rs with
  | nil => rfl
  | cons r rs => simp [behindN]
theorem numsN_len {p : Nat} (h : 1 ≤ p) (n : Nat) : (numsN p n).length = p := by
  induction n with
  | zero =>
    show (List.replicate (p - 1) ([] : List Int)).length + 1 = p
    rw [List.length_replicate]
    omega
  | succ n ih => show (behindN (numsN p n)).length = p; rw [behindN_len, ih]
theorem behindN_lens {rs : List (List Int)} (h : rs ≠ []) : (behindN rs).map (fun r => (r.length : Int)) = highC (rs.map fun r => (r.length : Int)) := by
  cases rs with
  | nil => exact absurd rfl h
  | cons r rs =>
    show List.map _ (rs.map (fun x => r.map (· + 1) ++ x) ++ [r.map (· + 1)]) = highC ((r.length : Int) :: rs.map fun r => (r.length : Int))
    unfold highC
    rw [List.map_append, List.map_map]
    simp [Function.comp_def]
theorem numsN_lens {p : Nat} (h : 1 ≤ p) (n : Nat) : (numsN p n).map (fun r => (r.length : Int)) = lvlC p n := by
  induction n with
  | zero =>
    show (((([0] : List Int).length : Nat) : Int)) :: (List.replicate (p - 1) ([] : List Int)).map (fun r => (r.length : Int)) = firstC p
    rw [List.map_replicate]
    rfl
  | succ n ih =>
    show (behindN (numsN p n)).map _ = highC (lvlC p n)
    rw [behindN_lens (by intro e; have := numsN_len h n; rw [e] at this; simp at this; omega), ih]
theorem len_le_sum : ∀ {rs : List (List Int)} {r : List Int}, r ∈ rs → (r.length : Int) ≤ (rs.map fun r => (r.length : Int)).sum
  | x :: rs, r, h => by
    rw [List.map_cons, List.sum_cons]
    have h0 : 0 ≤ (rs.map fun r : List Int => (r.length : Int)).sum := by
      clear h
      induction rs with
      | nil => simp
      | cons y ys ih => rw [List.map_cons, List.sum_cons]; omega
    rcases List.mem_cons.mp h with e | e
    · subst e
      omega
    · have := len_le_sum e
      omega

def sum0 (f : Nat → Int) : Nat → Int
  | 0 => 0
  | m + 1 => sum0 f m + f m
theorem sum0_nn {f : Nat → Int} : ∀ m, (∀ q, q < m → 0 ≤ f q) → 0 ≤ sum0 f m
  | 0, _ => Int.le_refl _
  | m + 1, h => by
    have h1 := sum0_nn m fun q hq => h q (by omega)
    have h2 := h m (by omega)
    show 0 ≤ sum0 f m + f m
    omega
theorem sum0_ge {f : Nat → Int} : ∀ m q, (∀ q, q < m → 0 ≤ f q) → q < m → f q ≤ sum0 f m
  | 0, q, _, h => absurd h (Nat.not_lt_zero _)
  | m + 1, q, h, hq => by
    have h1 := sum0_nn m fun q hq => h q (by omega)
    have h2 := h m (by omega)
    show f q ≤ sum0 f m + f m
    by_cases c : q = m
    · subst c
      omega
    · have := sum0_ge m q (fun q hq => h q (by omega)) (by omega)
      omega
theorem sum0_zero {f : Nat → Int} : ∀ m, (∀ q, q < m → f q = 0) → sum0 f m = 0
  | 0, _ => rfl
  | m + 1, h => by
    show sum0 f m + f m = 0
    rw [sum0_zero m fun q hq => h q (by omega), h m (by omega)]
    rfl
theorem sum0_congr {f g : Nat → Int} : ∀ m, (∀ q, q < m → f q = g q) → sum0 f m = sum0 g m
  | 0, _ => rfl
  | m + 1, h => by
    show sum0 f m + f m = sum0 g m + g m
    rw [sum0_congr m fun q hq => h q (by omega), h m (by omega)]

--@need SUM0A
theorem sum0_add (f : Nat → Int) (a : Nat) : ∀ b, sum0 f (a + b) = sum0 f a + sum0 (fun t => f (a + t)) b
  | 0 => by show sum0 f a = sum0 f a + 0; omega
  | b + 1 => by
    show sum0 f (a + b) + f (a + b) = sum0 f a + (sum0 (fun t => f (a + t)) b + f (a + b))
    rw [sum0_add f a b]
    omega
theorem sum0_plus (f g : Nat → Int) : ∀ m, sum0 (fun i => f i + g i) m = sum0 f m + sum0 g m
  | 0 => rfl
  | m + 1 => by
    show sum0 (fun i => f i + g i) m + (f m + g m) = (sum0 f m + f m) + (sum0 g m + g m)
    rw [sum0_plus f g m]
    omega
theorem sum0_mulr (f : Nat → Int) (c : Int) : ∀ m, sum0 (fun i => f i * c) m = sum0 f m * c
  | 0 => by show (0 : Int) = 0 * c; omega
  | m + 1 => by
    show sum0 (fun i => f i * c) m + f m * c = (sum0 f m + f m) * c
    rw [sum0_mulr f c m, Int.add_mul]
theorem sum0_comm (f : Nat → Nat → Int) (b : Nat) : ∀ a, sum0 (fun i => sum0 (fun j => f i j) b) a = sum0 (fun j => sum0 (fun i => f i j) a) b
  | 0 => (sum0_zero b fun _ _ => rfl).symm
  | a + 1 => by
    show sum0 (fun i => sum0 (fun j => f i j) b) a + sum0 (fun j => f a j) b = sum0 (fun j => sum0 (fun i => f i j) a + f a j) b
    rw [sum0_comm f b a, sum0_plus]
theorem sum0_one (g : Int) (a : Nat) : ∀ m, a < m → sum0 (fun i => if i = a then g else 0) m = g
  | 0, h => absurd h (Nat.not_lt_zero _)
  | m + 1, h => by
    show sum0 (fun i => if i = a then g else 0) m + (if m = a then g else 0) = g
    by_cases c : m = a
    · rw [if_pos c, sum0_zero m fun q hq => if_neg (by omega)]
      omega
    · rw [if_neg c, sum0_one g a m (by omega)]
      omega
theorem sum0_head (f : Nat → Int) (m : Nat) : sum0 f (m + 1) = f 0 + sum0 (fun i => f (i + 1)) m := by
  rw [Nat.add_comm m 1, sum0_add f 1 m]
  show (0 : Int) + f 0 + _ = _
  rw [Int.zero_add]
  exact congrArg (f 0 + ·) (sum0_congr m fun q _ => by rw [Nat.add_comm 1 q])
theorem sum0_rev (f : Nat → Int) : ∀ m, sum0 (fun i => f (m - 1 - i)) m = sum0 f m
  | 0 => rfl
  | m + 1 => by
    rw [sum0_head]
    show f (m + 1 - 1 - 0) + sum0 (fun i => f (m + 1 - 1 - (i + 1))) m = sum0 f m + f m
    rw [sum0_congr (f := fun i => f (m + 1 - 1 - (i + 1))) (g := fun i => f (m - 1 - i)) m (fun q _ => by rw [show m + 1 - 1 - (q + 1) = m - 1 - q by omega]), sum0_rev f m, show m + 1 - 1 - 0 = m by omega]
    omega
/-- a triangle, row by row or column by column -/

def wB (p n k : Nat) : Nat := ((numsN p n).getD k []).length
def vB (p n k i : Nat) : Int := ((numsN p n).getD k []).getD i 0
theorem nums_cons {p : Nat} (h : 1 ≤ p) (n : Nat) : ∃ r rs, numsN p n = r :: rs ∧ rs.length + 1 = p := by
  have hl := numsN_len h n
  cases e : numsN p n with
  | nil => rw [e] at hl; simp at hl; omega
  | cons r rs => rw [e] at hl; exact ⟨r, rs, rfl, hl⟩
theorem nums_at {p : Nat} (h : 1 ≤ p) (n k : Nat) (hk : k < p) : (numsN p (n + 1)).getD k [] = ((numsN p n).getD 0 []).map (· + 1) ++ (numsN p n).getD (k + 1) [] := by
  obtain ⟨r, rs, e, hl⟩ := nums_cons h n
  show (behindN (numsN p n)).getD k [] = _
  rw [e]
  show (rs.map (fun x => r.map (· + 1) ++ x) ++ [r.map (· + 1)]).getD k [] = r.map (· + 1) ++ rs.getD k []
  rw [List.getD_eq_getElem?_getD, List.getD_eq_getElem?_getD]
  rcases Nat.lt_or_ge k rs.length with c | c
  · rw [List.getElem?_append_left (by rw [List.length_map]; exact c), List.getElem?_map, List.getElem?_eq_getElem c]
    rfl
  · have : k = rs.length := by omega
    rw [List.getElem?_append_right (by rw [List.length_map]; exact c), List.length_map, this, Nat.sub_self, List.getElem?_eq_none (Nat.le_refl _)]
    simp
theorem wB_succ {p : Nat} (h : 1 ≤ p) (n k : Nat) (hk : k < p) : wB p (n + 1) k = wB p n 0 + wB p n (k + 1) := by
  unfold wB
  rw [nums_at h n k hk, List.length_append, List.length_map]
theorem wB_out {p : Nat} (h : 1 ≤ p) (n : Nat) : wB p n p = 0 := by
  unfold wB
  rw [List.getD_eq_getElem?_getD, List.getElem?_eq_none (by rw [numsN_len h n]; exact Nat.le_refl _)]
  rfl
theorem vB_lt {p : Nat} (h : 1 ≤ p) (n k i : Nat) (hk : k < p) (hi : i < wB p n 0) : vB p (n + 1) k i = vB p n 0 i + 1 := by
  unfold vB wB at *
  rw [nums_at h n k hk, List.getD_eq_getElem?_getD, List.getElem?_append_left (by rw [List.length_map]; exact hi), List.getElem?_map, List.getElem?_eq_getElem hi, List.getD_eq_getElem?_getD (i := i), List.getElem?_eq_getElem hi]
  rfl
theorem vB_ge {p : Nat} (h : 1 ≤ p) (n k i : Nat) (hk : k < p) : vB p (n + 1) k (wB p n 0 + i) = vB p n (k + 1) i := by
  unfold vB wB
  rw [nums_at h n k hk, List.getD_eq_getElem?_getD, List.getElem?_append_right (by rw [List.length_map]; omega), List.length_map, Nat.add_sub_cancel_left, List.getD_eq_getElem?_getD (i := i)]
def TB (p n : Nat) (c : Nat → Nat → Int) : Int := sum0 (fun k => sum0 (fun i => c k i * vB p n k i) (wB p n k)) p
def SB (p n : Nat) (c : Nat → Nat → Int) : Int := sum0 (fun k => sum0 (fun i => c k i) (wB p n k)) p
def nxB (p n : Nat) (c : Nat → Nat → Int) (k i : Nat) : Int := if k = 0 then sum0 (fun k => c k i) p else c (k - 1) (wB p n 0 + i)
theorem lastB (p : Nat) (f : Nat → Int) (h : 1 ≤ p) (h0 : f p = 0) (f0 : Int) : f0 + sum0 (fun k => f (k + 1)) p = f0 + sum0 (fun k => f (k + 1)) (p - 1) := by
  obtain ⟨q, rfl⟩ : ∃ q, p = q + 1 := ⟨p - 1, by omega⟩
  show f0 + (sum0 (fun k => f (k + 1)) q + f (q + 1)) = f0 + sum0 (fun k => f (k + 1)) q
  rw [h0]
  omega
theorem SB_succ {p : Nat} (h : 1 ≤ p) (n : Nat) (c : Nat → Nat → Int) : SB p (n + 1) c = SB p n (nxB p n c) := by
  have e1 : SB p (n + 1) c = sum0 (fun k => sum0 (fun i => c k i) (wB p n 0)) p + sum0 (fun k => sum0 (fun i => c k (wB p n 0 + i)) (wB p n (k + 1))) p := by
    rw [← sum0_plus]
    refine sum0_congr p fun k hk => ?_
    rw [wB_succ h n k hk, sum0_add]
  have e2 : SB p n (nxB p n c) = sum0 (fun i => sum0 (fun k => c k i) p) (wB p n 0) + sum0 (fun k => sum0 (fun i => c k (wB p n 0 + i)) (wB p n (k + 1))) (p - 1) := by
    unfold SB
    obtain ⟨q, rfl⟩ : ∃ q, p = q + 1 := ⟨p - 1, by omega⟩
    rw [sum0_head]
    rfl
  rw [e1, e2, sum0_comm]
  exact lastB p (fun k => sum0 (fun i => c (k - 1) (wB p n 0 + i)) (wB p n k)) h (by show sum0 _ (wB p n p) = 0; rw [wB_out h]; rfl) _
theorem TB_succ {p : Nat} (h : 1 ≤ p) (n : Nat) (c : Nat → Nat → Int) : TB p (n + 1) c = TB p n (nxB p n c) + sum0 (fun i => sum0 (fun k => c k i) p) (wB p n 0) := by
  have e1 : TB p (n + 1) c = sum0 (fun k => sum0 (fun i => c k i * vB p n 0 i) (wB p n 0)) p + sum0 (fun k => sum0 (fun i => c k i) (wB p n 0)) p + sum0 (fun k => sum0 (fun i => c k (wB p n 0 + i) * vB p n (k + 1) i) (wB p n (k + 1))) p := by
    rw [← sum0_plus, ← sum0_plus]
    refine sum0_congr p fun k hk => ?_
    rw [wB_succ h n k hk, sum0_add, ← sum0_plus]
    congr 1
    · refine sum0_congr _ fun i hi => ?_
      rw [vB_lt h n k i hk hi, Int.mul_add, Int.mul_one]
    · refine sum0_congr _ fun i _ => ?_
      rw [vB_ge h n k i hk]
  have e2 : TB p n (nxB p n c) = sum0 (fun i => sum0 (fun k => c k i) p * vB p n 0 i) (wB p n 0) + sum0 (fun k => sum0 (fun i => c k (wB p n 0 + i) * vB p n (k + 1) i) (wB p n (k + 1))) (p - 1) := by
    unfold TB
    obtain ⟨q, rfl⟩ : ∃ q, p = q + 1 := ⟨p - 1, by omega⟩
    rw [sum0_head]
    rfl
  have e3 := lastB p (fun k => sum0 (fun i => c (k - 1) (wB p n 0 + i) * vB p n k i) (wB p n k)) h (by show sum0 _ (wB p n p) = 0; rw [wB_out h]; rfl) 0
  have e4 : sum0 (fun k => sum0 (fun i => c k i * vB p n 0 i) (wB p n 0)) p = sum0 (fun i => sum0 (fun k => c k i) p * vB p n 0 i) (wB p n 0) := by
    rw [sum0_comm]
    exact sum0_congr _ fun i _ => sum0_mulr _ _ _
  have e5 : sum0 (fun k => sum0 (fun i => c k i) (wB p n 0)) p = sum0 (fun i => sum0 (fun k => c k i) p) (wB p n 0) := sum0_comm _ _ _
  rw [e1, e2, e4, e5]
  have e6 : sum0 (fun k => sum0 (fun i => c k (wB p n 0 + i) * vB p n (k + 1) i) (wB p n (k + 1))) p = sum0 (fun k => sum0 (fun i => c k (wB p n 0 + i) * vB p n (k + 1) i) (wB p n (k + 1))) (p - 1) := by
    have e3 : (0 : Int) + sum0 (fun k => sum0 (fun i => c k (wB p n 0 + i) * vB p n (k + 1) i) (wB p n (k + 1))) p = 0 + sum0 (fun k => sum0 (fun i => c k (wB p n 0 + i) * vB p n (k + 1) i) (wB p n (k + 1))) (p - 1) := e3
    omega
  rw [e6]
  omega
abbrev Pl := Int × Int
abbrev Rl := List (List Pl)
def gB (g : List Pl → Int) (X : List Rl) (k i : Nat) : Int := g ((X.getD k []).getD i [])
/-- the rows that a phase writes -/
def wrB (m : Nat) (Z : List Rl) : Rl := (List.range m).map fun t => (Z.map fun r => r.getD t []).flatten
def nxX (m : Nat) (W : Rl) (X : List Rl) : List Rl := W :: X.dropLast.map (List.drop m)
structure Addv (g : List Pl → Int) : Prop where
  z : g [] = 0
  a : ∀ r s, g (r ++ s) = g r + g s
theorem adv_cnt (x : Pl) : Addv (fun r => (r.count x : Int)) := ⟨rfl, fun r s => by show ((r ++ s).count x : Int) = _; rw [List.count_append]; rfl⟩
theorem adv_len : Addv (fun r => (r.length : Int)) := ⟨rfl, fun r s => by show ((r ++ s).length : Int) = _; rw [List.length_append]; rfl⟩
theorem Addv.flat {g : List Pl → Int} (h : Addv g) : ∀ (xs : Rl), g xs.flatten = (xs.map g).sum
  | [] => h.z
  | x :: xs => by rw [List.flatten_cons, h.a, List.map_cons, List.sum_cons, h.flat xs]
theorem sum_sum0 {α : Type} (f : α → Int) (d : α) : ∀ (xs : List α), (xs.map f).sum = sum0 (fun k => f (xs.getD k d)) xs.length
  | [] => rfl
  | x :: xs => by
    rw [List.map_cons, List.sum_cons, List.length_cons, sum0_head, sum_sum0 f d xs]
    rfl
/-- a row that is written, told by the reels in their own order -/
theorem Addv.row {g : List Pl → Int} (h : Addv g) {A B : List Rl} {m t : Nat} (ht : t < m) : g ((wrB m (A ++ [] :: B)).getD t []) = sum0 (fun k => gB g (B ++ A) k t) (B ++ A).length := by
  have e1 : (wrB m (A ++ [] :: B)).getD t [] = ((A ++ [] :: B).map fun r => r.getD t []).flatten := by
    unfold wrB
    rw [List.getD_eq_getElem?_getD, List.getElem?_map, List.getElem?_range ht]
    rfl
  rw [e1, h.flat, List.map_map]
  have e2 := sum_sum0 (fun r : Rl => g (r.getD t [])) [] (B ++ A)
  show ((A ++ [] :: B).map fun r : Rl => g (r.getD t [])).sum = _
  rw [show sum0 (fun k => gB g (B ++ A) k t) (B ++ A).length = ((B ++ A).map fun r : Rl => g (r.getD t [])).sum from e2.symm]
  rw [List.map_append, List.map_append, List.map_cons, List.sum_append, List.sum_append, List.sum_cons]
  show _ + (g [] + _) = _
  rw [h.z]
  omega
structure CfB (p n : Nat) (T : Int) (X : List Rl) : Prop where
  len : X.length = p
  lens : ∀ k, k < p → (X.getD k []).length = wB p n k
  tot : SB p n (gB (fun r => (r.length : Int)) X) = T
theorem nxX_len {m : Nat} {W : Rl} {X : List Rl} (h : 1 ≤ X.length) : (nxX m W X).length = X.length := by
  unfold nxX
  rw [List.length_cons, List.length_map, List.length_dropLast]
  omega
theorem nxX_at {m k : Nat} {W : Rl} {X : List Rl} (h : k + 1 < X.length) : (nxX m W X).getD (k + 1) [] = (X.getD k []).drop m := by
  unfold nxX
  rw [List.getD_cons_succ, List.getD_eq_getElem?_getD, List.getElem?_map, List.getElem?_dropLast, if_pos (by omega), List.getD_eq_getElem?_getD, List.getElem?_eq_getElem (by omega)]
  rfl
theorem nxB_row {p n : Nat} {T : Int} {X : List Rl} {g : List Pl → Int} {W : Rl} (h : CfB p (n + 1) T X) (hW : ∀ t, t < wB p n 0 → g (W.getD t []) = sum0 (fun k => gB g X k t) p) (k i : Nat) (hk : k < p) (hi : i < wB p n k) : gB g (nxX (wB p n 0) W X) k i = nxB p n (gB g X) k i := by
  cases k with
  | zero => exact hW i hi
  | succ k =>
    unfold nxB
    rw [if_neg (by omega)]
    show g (((nxX (wB p n 0) W X).getD (k + 1) []).getD i []) = g ((X.getD k []).getD (wB p n 0 + i) [])
    rw [nxX_at (by rw [h.len]; exact hk), List.getD_eq_getElem?_getD, List.getElem?_drop, List.getD_eq_getElem?_getD (i := wB p n 0 + i)]
theorem CfB.next {p n : Nat} {T : Int} {X : List Rl} {W : Rl} (h1 : 1 ≤ p) (h : CfB p (n + 1) T X) (hl : W.length = wB p n 0) (hW : ∀ t, t < wB p n 0 → ((W.getD t []).length : Int) = sum0 (fun k => gB (fun r => (r.length : Int)) X k t) p) : CfB p n T (nxX (wB p n 0) W X) := by
  refine ⟨by rw [nxX_len (by rw [h.len]; exact h1), h.len], fun k hk => ?_, ?_⟩
  · cases k with
    | zero => exact hl
    | succ k =>
      rw [nxX_at (by rw [h.len]; exact hk), List.length_drop, h.lens k (by omega), wB_succ h1 n k (by omega)]
      omega
  · rw [← h.tot, SB_succ h1]
    exact sum0_congr p fun k hk => sum0_congr _ fun i hi => nxB_row (g := fun r => (r.length : Int)) h hW k i hk hi
theorem CfB.read {p n : Nat} {T : Int} {X : List Rl} {W : Rl} {g : List Pl → Int} (h1 : 1 ≤ p) (h : CfB p (n + 1) T X) (hg : Addv g) (hl : W.length = wB p n 0) (hW : ∀ t, t < wB p n 0 → g (W.getD t []) = sum0 (fun k => gB g X k t) p) : TB p (n + 1) (gB g X) = TB p n (gB g (nxX (wB p n 0) W X)) + g W.flatten := by
  rw [TB_succ h1, hg.flat, sum_sum0 g [], hl]
  congr 1
  · exact sum0_congr p fun k hk => sum0_congr _ fun i hi => by rw [nxB_row h hW k i hk hi]
  · exact sum0_congr _ fun i hi => (hW i hi).symm
theorem CfB.flat {p n : Nat} {T : Int} {X : List Rl} {W : Rl} (h1 : 1 ≤ p) (h : CfB p (n + 1) T X) (hl : W.length = wB p n 0) (hW : ∀ t, t < wB p n 0 → ((W.getD t []).length : Int) = sum0 (fun k => gB (fun r => (r.length : Int)) X k t) p) : (W.flatten.length : Int) ≤ T := by
  have e := (h.next h1 hl hW).tot
  obtain ⟨q, rfl⟩ : ∃ q, p = q + 1 := ⟨p - 1, by omega⟩
  unfold SB at e
  rw [sum0_head] at e
  have e2 := adv_len.flat W
  rw [sum_sum0 _ [], hl] at e2
  have e3 : (W.flatten.length : Int) = sum0 (fun i => gB (fun r => (r.length : Int)) (nxX (wB (q + 1) n 0) W X) 0 i) (wB (q + 1) n 0) := e2
  have e4 := sum0_nn (f := fun k => sum0 (fun i => gB (fun r => (r.length : Int)) (nxX (wB (q + 1) n 0) W X) (k + 1) i) (wB (q + 1) n (k + 1))) q fun k _ => sum0_nn _ fun i _ => Int.natCast_nonneg _
  omega
/-- the reels turn -/
theorem rotB {A B : List Rl} {m : Nat} {W : Rl} (h1 : 1 ≤ (B ++ A).length) (hl : ((B ++ A).getD ((B ++ A).length - 1) []).length = m) : ∃ A' B', A.map (List.drop m) ++ W :: B.map (List.drop m) = A' ++ [] :: B' ∧ B' ++ A' = nxX m W (B ++ A) := by
  rcases List.eq_nil_or_concat A with e | ⟨A0, a, e⟩
  · subst e
    rw [List.append_nil] at h1 hl
    rcases List.eq_nil_or_concat B with e | ⟨B0, b, e⟩
    · subst e
      simp at h1
    · subst e
      rw [List.concat_eq_append] at hl ⊢
      have hb : b.drop m = [] := by
        rw [List.length_append, List.length_singleton, Nat.add_sub_cancel, List.getD_eq_getElem?_getD, List.getElem?_append_right (Nat.le_refl _), Nat.sub_self] at hl
        exact List.drop_eq_nil_of_le (by rw [← hl]; exact Nat.le_refl _)
      refine ⟨W :: B0.map (List.drop m), [], ?_, ?_⟩
      · rw [List.map_append, List.map_cons, List.map_nil, hb]
        rfl
      · unfold nxX
        rw [List.append_nil, List.dropLast_concat]
        rfl
  · subst e
    rw [List.concat_eq_append] at hl ⊢
    rw [← List.append_assoc] at hl
    have hb : a.drop m = [] := by
      rw [List.length_append (as := B ++ A0), List.length_singleton, Nat.add_sub_cancel, List.getD_eq_getElem?_getD, List.getElem?_append_right (Nat.le_refl _), Nat.sub_self] at hl
      exact List.drop_eq_nil_of_le (by rw [← hl]; exact Nat.le_refl _)
    refine ⟨A0.map (List.drop m), W :: B.map (List.drop m), ?_, ?_⟩
    · rw [List.map_append, List.map_cons, List.map_nil, hb, List.append_assoc]
      rfl
    · unfold nxX
      rw [← List.append_assoc, List.dropLast_concat, List.map_append]
      rfl
theorem wB_pos {p : Nat} (h : 1 ≤ p) : ∀ n, 1 ≤ wB p n 0
  | 0 => by unfold wB; exact Nat.le_refl 1
  | n + 1 => by
    rw [wB_succ h n 0 (by omega)]
    have := wB_pos h n
    omega
/-- the dict's numbers -/
def kP (x : Pl) : List Key := [Sum.inl x.1, Sum.inl x.2]
def getZ (kvs : List (List Key × V)) (x : Pl) : Int := match valV kvs (kP x) with
  | some (.int v) => v
  | _ => 0
def AllZ (kvs : List (List Key × V)) : Prop := ∀ k v, valV kvs k = some v → ∃ i, v = V.int i
theorem getZ_val {kvs : List (List Key × V)} (h : AllZ kvs) (x : Pl) : (valV kvs (kP x)).getD (.int 0) = .int (getZ kvs x) := by
  unfold getZ
  cases e : valV kvs (kP x) with
  | none => rfl
  | some v =>
    obtain ⟨i, rfl⟩ := h _ _ e
    rfl
theorem kP_inj {x y : Pl} : kP x = kP y ↔ x = y := by
  constructor
  · intro h
    unfold kP at h
    injection h with h1 h2
    injection h2 with h3 _
    exact Prod.ext (Sum.inl.inj h1) (Sum.inl.inj h3)
  · rintro rfl
    rfl
theorem getZ_put {kvs : List (List Key × V)} (x y : Pl) (v : Int) : getZ (putK kvs (kP x) (.int v)) y = if y = x then v else getZ kvs y := by
  unfold getZ
  rw [valV_put]
  by_cases c : y = x
  · subst c
    rw [if_pos rfl, if_pos rfl]
  · rw [if_neg (fun e => c (kP_inj.mp e)), if_neg c]
theorem AllZ.put {kvs : List (List Key × V)} (h : AllZ kvs) (k : List Key) (v : Int) : AllZ (putK kvs k (.int v)) := fun j u e => by
  rw [valV_put] at e
  by_cases c : j = k
  · rw [if_pos c] at e
    exact ⟨v, (Option.some.inj e).symm⟩
  · rw [if_neg c] at e
    exact h j u e
theorem allZ_nil : AllZ [] := fun _ _ e => nomatch (show (none : Option V) = some _ from e)
theorem cntP_take1 {x : Pl} {r : List Pl} {i : Nat} {y : Pl} (h : r[i]? = some y) : ((r.take (i + 1)).count x : Int) = (r.take i).count x + (if x = y then 1 else 0) := by
  rw [List.take_add_one, h, List.count_append]
  show ((_ + ([y] : List Pl).count x : Nat) : Int) = _
  by_cases c : x = y
  · subst c
    rw [if_pos rfl]
    simp
  · rw [if_neg c, List.count_eq_zero.mpr (fun hm => c (List.mem_singleton.mp hm))]
    simp
abbrev qP (r : List Pl) : PyData := .list (r.map pI)
abbrev rP (r : Rl) : PyData := .list (r.map qP)

theorem zero_fin {A B : List Rl} (h : ∀ r, r ∈ A ++ B → 1 ≤ r.length) : ((List.range (A ++ [] :: B).length).filter fun k => decide (((A ++ [] :: B).getD k []).length = 0)) = [A.length] := by
  have e1 : (A ++ [] :: B).length = A.length + (B.length + 1) := by rw [List.length_append, List.length_cons]
  rw [e1, List.range_add, List.filter_append, List.range_succ_eq_map, List.map_cons, List.map_map]
  have f1 : ((List.range A.length).filter fun k => decide (((A ++ [] :: B).getD k []).length = 0)) = [] := List.filter_eq_nil_iff.mpr fun k hk => by
    have hk := List.mem_range.mp hk
    rw [List.getD_eq_getElem?_getD, List.getElem?_append_left hk, List.getElem?_eq_getElem hk]
    have := h A[k] (List.mem_append_left _ (List.getElem_mem hk))
    show ¬ decide (A[k].length = 0) = true
    rw [decide_eq_true_eq]
    omega
  have f2 : (((List.range B.length).map ((fun x => A.length + x) ∘ Nat.succ)).filter fun k => decide (((A ++ [] :: B).getD k []).length = 0)) = [] := List.filter_eq_nil_iff.mpr fun k hk => by
    obtain ⟨j, hj, rfl⟩ := List.mem_map.mp hk
    have hj := List.mem_range.mp hj
    show ¬ decide (((A ++ [] :: B).getD (A.length + (j + 1)) []).length = 0) = true
    rw [List.getD_eq_getElem?_getD, List.getElem?_append_right (by omega), show A.length + (j + 1) - A.length = j + 1 by omega, List.getElem?_cons_succ, List.getElem?_eq_getElem hj]
    have := h B[j] (List.mem_append_right _ (List.getElem_mem hj))
    show ¬ decide (B[j].length = 0) = true
    rw [decide_eq_true_eq]
    omega
  rw [f1, List.nil_append, List.filter_cons_of_pos (by
    rw [decide_eq_true_eq, List.getD_eq_getElem?_getD, List.getElem?_append_right (by omega), Nat.add_zero, Nat.sub_self]
    rfl), f2]
  rfl
def nonI (Z : List Rl) (i : Nat) : List Nat := (List.range i).filter fun k => decide (0 < (Z.getD k []).length)
theorem nonI_mem {A B : List Rl} {i k : Nat} (h : k ∈ nonI (A ++ [] :: B) i) : k < i ∧ (k < (A ++ [] :: B).length → (A ++ [] :: B).getD k [] ∈ A ++ B) := by
  obtain ⟨h1, h2⟩ := List.mem_filter.mp h
  have h2 := of_decide_eq_true h2
  refine ⟨List.mem_range.mp h1, fun h3 => ?_⟩
  rw [List.getD_eq_getElem?_getD, List.getElem?_eq_getElem h3] at h2 ⊢
  have h4 : (A ++ [] :: B)[k] ∈ A ++ [] :: B := List.getElem_mem h3
  show (A ++ [] :: B)[k] ∈ A ++ B
  rcases List.mem_append.mp h4 with c | c
  · exact List.mem_append_left _ c
  · rcases List.mem_cons.mp c with d | d
    · exfalso
      have h2 : 0 < ((A ++ [] :: B)[k]).length := h2
      rw [d] at h2
      exact absurd h2 (Nat.lt_irrefl _)
    · exact List.mem_append_right _ d
theorem nonI_has {A B : List Rl} {r : Rl} (h : r ∈ A ++ B) (h1 : 1 ≤ r.length) : ∃ k, k ∈ nonI (A ++ [] :: B) (A ++ [] :: B).length ∧ (A ++ [] :: B).getD k [] = r := by
  have hr : r ∈ A ++ [] :: B := by
    rcases List.mem_append.mp h with c | c
    · exact List.mem_append_left _ c
    · exact List.mem_append_right _ (List.mem_cons_of_mem _ c)
  obtain ⟨k, hk, e⟩ := List.mem_iff_getElem.mp hr
  have e2 : (A ++ [] :: B).getD k [] = r := by
    rw [List.getD_eq_getElem?_getD, List.getElem?_eq_getElem hk]
    exact e
  exact ⟨k, List.mem_filter.mpr ⟨List.mem_range.mpr hk, by rw [e2]; exact decide_eq_true h1⟩, e2⟩
theorem flat_filt {α β : Type} (f : α → List β) (p : α → Bool) : ∀ (xs : List α), (∀ x, x ∈ xs → p x = false → f x = []) → ((xs.filter p).map f).flatten = (xs.map f).flatten
  | [], _ => rfl
  | x :: xs, h => by
    have ih := flat_filt f p xs fun y hy => h y (List.mem_cons_of_mem _ hy)
    cases c : p x with
    | true => rw [List.filter_cons_of_pos c, List.map_cons, List.flatten_cons, ih, List.map_cons, List.flatten_cons]
    | false =>
      rw [List.filter_cons_of_neg (by rw [c]; exact fun h => nomatch h), ih, List.map_cons, List.flatten_cons, h x List.mem_cons_self c]
      rfl
theorem map_rg {α : Type} (f : Rl → α) (Z : List Rl) : (List.range Z.length).map (fun k => f (Z.getD k [])) = Z.map f := by
  refine List.ext_getElem? fun i => ?_
  rw [List.getElem?_map, List.getElem?_map]
  rcases Nat.lt_or_ge i Z.length with c | c
  · rw [List.getElem?_range c, List.getElem?_eq_getElem c]
    show some (f (Z.getD i [])) = some (f Z[i])
    rw [List.getD_eq_getElem?_getD, List.getElem?_eq_getElem c]
    rfl
  · rw [List.getElem?_eq_none (by rw [List.length_range]; exact c), List.getElem?_eq_none c]
    rfl
theorem wr_row (Z : List Rl) (t : Nat) : ((nonI Z Z.length).map fun k => (Z.getD k []).getD t []).flatten = (Z.map fun r => r.getD t []).flatten := by
  unfold nonI
  rw [flat_filt _ _ _ fun k _ hk => ?_, map_rg (fun r => r.getD t []) Z]
  have h := of_decide_eq_false hk
  have : Z.getD k [] = [] := List.eq_nil_of_length_eq_zero (by omega)
  rw [this]
  rfl
theorem wr_at {m t : Nat} (Z : List Rl) (h : t < m) : (wrB m Z)[t]? = some (((nonI Z Z.length).map fun k => (Z.getD k []).getD t []).flatten) := by
  unfold wrB
  rw [List.getElem?_map, List.getElem?_range h, wr_row]
  rfl
theorem nonI_len (Z : List Rl) (i : Nat) : (nonI Z i).length ≤ i := by
  have := List.length_filter_le (fun k => decide (0 < (Z.getD k []).length)) (List.range i)
  rw [List.length_range] at this
  exact this
theorem nonI_succ (Z : List Rl) (i : Nat) : nonI Z (i + 1) = nonI Z i ++ if 0 < (Z.getD i []).length then [i] else [] := by
  unfold nonI
  rw [List.range_succ, List.filter_append]
  by_cases c : 0 < (Z.getD i []).length
  · rw [if_pos c]
    congr 1
    exact List.filter_cons_of_pos (p := fun k => decide (0 < (Z.getD k []).length)) (decide_eq_true c)
  · rw [if_neg c]
    congr 1
    exact List.filter_cons_of_neg (p := fun k => decide (0 < (Z.getD k []).length)) (by rw [decide_eq_false c]; exact fun h => nomatch h)
theorem zero_succ (Z : List Rl) (i : Nat) : ((List.range (i + 1)).filter fun k => decide ((Z.getD k []).length = 0)) = ((List.range i).filter fun k => decide ((Z.getD k []).length = 0)) ++ if (Z.getD i []).length = 0 then [i] else [] := by
  rw [List.range_succ, List.filter_append]
  by_cases c : (Z.getD i []).length = 0
  · rw [if_pos c]
    congr 1
    exact List.filter_cons_of_pos (p := fun k => decide ((Z.getD k []).length = 0)) (decide_eq_true c)
  · rw [if_neg c]
    congr 1
    exact List.filter_cons_of_neg (p := fun k => decide ((Z.getD k []).length = 0)) (by rw [decide_eq_false c]; exact fun h => nomatch h)
theorem getD_at {α : Type} {l : List α} {t : Nat} (d : α) (h : t < l.length) : l[t]? = some (l.getD t d) := by
  rw [List.getD_eq_getElem?_getD, List.getElem?_eq_getElem h]
  rfl
theorem ra_set {D : Hp} {v : V} {d : PyData} : ∀ {vs : List V} {ds : List PyData} (n : Nat), RpAll D vs ds → Rp D v d → RpAll D (vs.set n v) (ds.set n d)
  | _, _, _, .nil, _ => .nil
  | _, _, 0, .cons _ t, h => .cons h t
  | _, _, n + 1, .cons h t, k => .cons h (ra_set n t k)
theorem mem_flat_len {W : Rl} {t : Nat} {r : List Pl} (h : W[t]? = some r) : r.length ≤ W.flatten.length := by
  have h1 := List.mem_of_getElem? h
  have h2 : r.length ≤ (W.map List.length).sum := by
    clear h
    induction W with
    | nil => exact absurd h1 List.not_mem_nil
    | cons w W ih =>
      rw [List.map_cons, List.sum_cons]
      rcases List.mem_cons.mp h1 with e | e
      · subst e; omega
      · have := ih e; omega
  rw [List.length_flatten]
  exact h2

section
variable {σ : L2.St} {D H : Hp} {L : Own} {K : PySem.W.Frag} {Q : VK}
instance v_dg2T {a : Addr} {kvs : List (List Key × V)} {n : Nat} {ty tx : TE} [S : Sx D L H] [h : Fi L a (.dT kvs) n] : VC (DG2 ty tx σ (.ref a) H Q) (ty σ H fun y H2 => tx σ H2 fun z H3 => DGo a y z H3 Q) := ⟨fun k => ⟨a, rfl, .inr ⟨kvs, .inl (S.at h.pf)⟩, k⟩⟩
instance v_dgoT {a b : Addr} {kvs : List (List Key × V)} {n : Nat} {us : List V} {k : List Key} {z : V} [S : Sx D L H] [h : Fi L a (.dT kvs) n] [kb : Kn D b (.tup us)] [c : KeC us k] : VC (DGo a (.ref b) z H Q) (Q ((valV kvs k).getD z) H) := ⟨fun q => ⟨_, DGet.t (S.at h.pf) (by rw [← c.pf]; exact S.dH _ _ kb.pf), q⟩⟩
end

def startB (p n : Nat) : List Rl := (List.range p).map fun (k : Nat) => (List.range (wB p n k)).map fun (i : Nat) => [((k : Int), (i : Int))]
theorem startB_at {p n k : Nat} (h : k < p) : (startB p n).getD k [] = (List.range (wB p n k)).map fun (i : Nat) => [((k : Int), (i : Int))] := by
  unfold startB
  rw [List.getD_eq_getElem?_getD, List.getElem?_map, List.getElem?_range h]
  rfl
theorem startB_gB {p n k i : Nat} (g : List Pl → Int) (h : k < p) (hi : i < wB p n k) : gB g (startB p n) k i = g [((k : Int), (i : Int))] := by
  unfold gB
  rw [startB_at h, List.getD_eq_getElem?_getD, List.getElem?_map, List.getElem?_range hi]
  rfl
theorem sum0_k (m : Nat) : sum0 (fun _ => (1 : Int)) m = (m : Int) := by
  induction m with
  | zero => rfl
  | succ m ih =>
    show sum0 (fun _ => (1 : Int)) m + 1 = _
    rw [ih]
    omega
theorem wB_sum {p : Nat} (h : 1 ≤ p) (n : Nat) : sum0 (fun k => (wB p n k : Int)) p = (lvlC p n).sum := by
  rw [← numsN_lens h n, sum_sum0 (fun r : List Int => (r.length : Int)) [], numsN_len h n]
  rfl
theorem startB_ok {p : Nat} (h : 1 ≤ p) (n : Nat) : CfB p n (lvlC p n).sum (startB p n) := by
  refine ⟨by unfold startB; rw [List.length_map, List.length_range], fun k hk => by rw [startB_at hk, List.length_map, List.length_range], ?_⟩
  rw [← wB_sum h n]
  refine sum0_congr p fun k hk => ?_
  rw [sum0_congr (g := fun _ => (1 : Int)) _ fun i hi => startB_gB _ hk hi, sum0_k]
theorem startB_cnt {p n k i : Nat} (hk : k < p) (hi : i < wB p n k) : TB p n (gB (fun r => (r.count ((k : Int), (i : Int)) : Int)) (startB p n)) = vB p n k i := by
  have e1 : ∀ k', k' < p → sum0 (fun i' => gB (fun r => (r.count ((k : Int), (i : Int)) : Int)) (startB p n) k' i' * vB p n k' i') (wB p n k') = if k' = k then vB p n k i else 0 := fun k' hk' => by
    have e2 : ∀ i', i' < wB p n k' → gB (fun r => (r.count ((k : Int), (i : Int)) : Int)) (startB p n) k' i' * vB p n k' i' = if i' = i then (if k' = k then vB p n k i else 0) else 0 := fun i' hi' => by
      rw [startB_gB _ hk' hi']
      by_cases c : k' = k
      · subst c
        by_cases d : i' = i
        · subst d
          rw [if_pos rfl, if_pos rfl]
          simp
        · rw [if_neg d, List.count_eq_zero.mpr fun hm => d (by have := List.mem_singleton.mp hm; have := congrArg Prod.snd this; simp at this; omega)]
          simp
      · rw [if_neg c, List.count_eq_zero.mpr fun hm => c (by have := List.mem_singleton.mp hm; have := congrArg Prod.fst this; simp at this; omega)]
        simp
    rw [sum0_congr _ e2]
    by_cases c : k' = k
    · subst c
      rw [if_pos rfl]
      exact sum0_one _ i _ hi
    · rw [if_neg c]
      exact sum0_zero _ fun q _ => by split <;> rfl
  show sum0 _ p = _
  rw [sum0_congr p e1]
  exact sum0_one _ k p hk
theorem wB_zero0 (p : Nat) : wB p 0 0 = 1 := rfl
theorem wB_zeroS (p k : Nat) : wB p 0 (k + 1) = 0 := by
  unfold wB
  show ((List.replicate (p - 1) ([] : List Int)).getD k []).length = 0
  rw [List.getD_eq_getElem?_getD, List.getElem?_replicate]
  split <;> rfl
theorem TB_zero {p : Nat} (c : Nat → Nat → Int) : TB p 0 c = 0 := sum0_zero _ fun k _ => sum0_zero _ fun i hi => by
  cases k with
  | zero =>
    have hi : i < 1 := hi
    have : vB p 0 0 i = 0 := by rw [show i = 0 by omega]; rfl
    rw [this, Int.mul_zero]
  | succ k =>
    rw [wB_zeroS] at hi
    exact absurd hi (Nat.not_lt_zero _)
theorem CfB.one {p : Nat} {T : Int} {X : List Rl} (h1 : 1 ≤ p) (h : CfB p 0 T X) : ∃ r, X.flatten = [r] ∧ (r.length : Int) = T := by
  obtain ⟨hl, hs, ht⟩ := h
  cases X with
  | nil => rw [← hl] at h1; exact absurd h1 (by decide)
  | cons x xs =>
    have h0 : x.length = 1 := hs 0 (by omega)
    obtain ⟨r, rfl⟩ : ∃ r, x = [r] := List.length_eq_one_iff.mp h0
    have hx : ∀ y, y ∈ xs → y = [] := fun y hy => by
      obtain ⟨k, hk, rfl⟩ := List.mem_iff_getElem.mp hy
      rw [List.length_cons] at hl
      have := hs (k + 1) (by omega)
      rw [wB_zeroS, List.getD_cons_succ, List.getD_eq_getElem?_getD, List.getElem?_eq_getElem hk] at this
      exact List.eq_nil_of_length_eq_zero this
    refine ⟨r, ?_, ?_⟩
    · rw [List.flatten_cons, List.flatten_eq_nil_iff.mpr hx]
      rfl
    · rw [← ht]
      obtain ⟨q, rfl⟩ : ∃ q, p = q + 1 := ⟨p - 1, by omega⟩
      unfold SB
      rw [sum0_head, sum0_zero q fun k _ => by rw [wB_zeroS]; rfl]
      show (r.length : Int) = (0 + (r.length : Int)) + 0
      omega
theorem flat_turn {A B : List Rl} {r : List Pl} (h : (B ++ A).flatten = [r]) : (A ++ [] :: B).flatten = [r] := by
  rw [List.flatten_append] at h
  rw [List.flatten_append, List.flatten_cons, List.nil_append]
  exact List.perm_singleton.mp ((List.perm_append_comm).trans (by rw [h]))
theorem wB_le {p n k : Nat} (h : 1 ≤ p) : ((wB p n k : Nat) : Int) ≤ (lvlC p n).sum := by
  rw [← numsN_lens h n]
  unfold wB
  rcases Nat.lt_or_ge k (numsN p n).length with c | c
  · refine len_le_sum ?_
    rw [List.getD_eq_getElem?_getD, List.getElem?_eq_getElem c]
    exact List.getElem_mem c
  · rw [List.getD_eq_getElem?_getD, List.getElem?_eq_none c]
    show ((0 : Nat) : Int) ≤ _
    have : ∀ rs : List (List Int), 0 ≤ (rs.map fun r => (r.length : Int)).sum := fun rs => by
      induction rs with
      | nil => exact Int.le_refl _
      | cons y ys ih => rw [List.map_cons, List.sum_cons]; omega
    exact this _
theorem CfB.mem {p n : Nat} {T : Int} {X : List Rl} (h : CfB p n T X) {r : Rl} (hr : r ∈ X) : ∃ k, k < p ∧ r.length = wB p n k := by
  obtain ⟨k, hk, rfl⟩ := List.mem_iff_getElem.mp hr
  refine ⟨k, by rw [← h.len]; exact hk, ?_⟩
  have := h.lens k (by rw [← h.len]; exact hk)
  rw [List.getD_eq_getElem?_getD, List.getElem?_eq_getElem hk] at this
  exact this
theorem wB_cnt {p n k : Nat} (h : 1 ≤ p) (hk : k < p) : (lvlC p n)[k]? = some ((wB p n k : Nat) : Int) := by
  rw [← numsN_lens h n, List.getElem?_map]
  unfold wB
  have hl := numsN_len h n
  rw [List.getD_eq_getElem?_getD, List.getElem?_eq_getElem (by omega)]
  rfl

theorem lvlC_succ {p : Nat} {n : Nat} {y : Int} {r : List Int} (e : lvlC p n = y :: r) : lvlC p (n + 1) = r.map (fun z => y + z) ++ [y] := by
  show highC (lvlC p n) = _
  rw [e]
  rfl
/-- the first count -/
def lv0 (p n : Nat) : Int := (lvlC p n).headD 0
theorem lv0_eq {p n : Nat} {y : Int} {r : List Int} (e : lvlC p n = y :: r) : lv0 p n = y := by
  unfold lv0
  rw [e]
  rfl
theorem lvlC_at0 {p : Nat} (h : 1 ≤ p) (n : Nat) : (lvlC p n)[0]? = some (lv0 p n) := by
  obtain ⟨y, r, e, _⟩ := lvlC_cons h n
  rw [lv0_eq e, e]
  rfl
theorem lvlC_atS {p : Nat} (h : 1 ≤ p) (n j : Nat) (hj : j + 1 < p) : ∃ z, (lvlC p n)[j + 1]? = some z ∧ (lvlC p (n + 1))[j]? = some (lv0 p n + z) := by
  obtain ⟨y, r, e, hl⟩ := lvlC_cons h n
  have hr : j < r.length := by omega
  refine ⟨r[j], ?_, ?_⟩
  · rw [e, List.getElem?_cons_succ, List.getElem?_eq_getElem hr]
  · rw [lvlC_succ e, lv0_eq e, List.getElem?_append_left (by rw [List.length_map]; exact hr), List.getElem?_map, List.getElem?_eq_getElem hr]
    rfl
theorem lvlC_atL {p : Nat} (h : 1 ≤ p) (n : Nat) : (lvlC p (n + 1))[p - 1]? = some (lv0 p n) := by
  obtain ⟨y, r, e, hl⟩ := lvlC_cons h n
  rw [lvlC_succ e, lv0_eq e, List.getElem?_append_right (by rw [List.length_map]; omega), List.length_map, show p - 1 - r.length = 0 by omega]
  rfl
theorem lvlC_back {p : Nat} (h : 1 ≤ p) : ∀ (d : Nat) (n : Nat), d < p → d + 1 ≤ n → (lvlC p n)[p - 1 - d]? = some ((List.range (d + 1)).map fun k => lv0 p (n - 1 - k)).sum := by
  intro d
  induction d with
  | zero =>
    intro n _ hn
    obtain ⟨m, rfl⟩ : ∃ m, n = m + 1 := ⟨n - 1, by omega⟩
    rw [Nat.sub_zero, lvlC_atL h]
    simp
  | succ d ih =>
    intro n hd hn
    obtain ⟨m, rfl⟩ : ∃ m, n = m + 1 := ⟨n - 1, by omega⟩
    obtain ⟨z, h1, h2⟩ := lvlC_atS h m (p - 1 - (d + 1)) (by omega)
    rw [show p - 1 - (d + 1) + 1 = p - 1 - d by omega, ih m (by omega) (by omega)] at h1
    rw [h2, List.range_succ_eq_map, List.map_cons, List.sum_cons, List.map_map, ← Option.some.inj h1]
    refine congrArg some ?_
    refine congrArg (fun q => lv0 p m + q) (congrArg List.sum (List.map_congr_left fun k hk => ?_))
    show lv0 p (m - 1 - k) = lv0 p (m + 1 - 1 - (k + 1))
    rw [show m + 1 - 1 - (k + 1) = m - 1 - k by omega]
theorem lvlC_firsts {p : Nat} (h : 1 ≤ p) {n : Nat} (hn : p ≤ n) : lv0 p n = ((List.range p).map fun k => lv0 p (n - 1 - k)).sum := by
  have e := lvlC_back h (p - 1) n (by omega) (by omega)
  rw [show p - 1 - (p - 1) = 0 by omega, lvlC_at0 h, show p - 1 + 1 = p by omega] at e
  exact Option.some.inj e
theorem lvlC_tot {p : Nat} (h : 1 ≤ p) (n : Nat) : (lvlC p (n + 1)).sum = (lvlC p n).sum + ((p : Int) - 1) * lv0 p n := by
  obtain ⟨y, r, e, hl⟩ := lvlC_cons h n
  have sm : ∀ (r : List Int), (r.map fun z => y + z).sum = r.sum + y * r.length := by
    intro r
    induction r with
    | nil => simp
    | cons z r ih =>
      rw [List.map_cons, List.sum_cons, List.sum_cons, ih, List.length_cons, Int.natCast_succ, Int.mul_add]
      omega
  rw [lvlC_succ e, lv0_eq e, e, List.sum_append, sm, show ((p : Int) - 1) = (r.length : Int) by omega, Int.mul_comm y]
  simp only [List.sum_cons, List.sum_nil]
  omega
theorem lvlC_up {p : Nat} (h : 1 ≤ p) (n j : Nat) {x z : Int} (h1 : (lvlC p n)[j]? = some x) (h2 : (lvlC p (n + 1))[j]? = some z) : x ≤ z := by
  have hl := lvlC_len h n
  have hj : j < p := by
    have := (List.getElem?_eq_some_iff.mp h1).1
    omega
  obtain ⟨y, r, e, hl⟩ := lvlC_cons h n
  have hx : x ≤ y := by
    have g := (lvlC_ge h n).1
    rw [e] at g h1
    obtain ⟨g1, _⟩ := List.pairwise_cons.mp g
    rcases List.mem_cons.mp (List.mem_of_getElem? h1) with q | q
    · omega
    · have := g1 x q
      omega
  by_cases c : j + 1 < p
  · obtain ⟨w, k1, k2⟩ := lvlC_atS h n j c
    have := (lvlC_ge h n).2 w (List.mem_of_getElem? k1)
    rw [k2, lv0_eq e] at h2
    have := Option.some.inj h2
    omega
  · have k := lvlC_atL h n
    rw [show p - 1 = j by omega, h2, lv0_eq e] at k
    have := Option.some.inj k
    omega
theorem lvlC_wide {p q : Nat} (h : 1 ≤ p) (hq : p ≤ q) (n : Nat) : ∀ (j : Nat) {x z : Int}, j < p → (lvlC p n)[j]? = some x → (lvlC q n)[j]? = some z → x ≤ z := by
  induction n with
  | zero =>
    intro j x z hj h1 h2
    have e1 : (firstC p)[j]? = some x := h1
    have e2 : (firstC q)[j]? = some z := h2
    unfold firstC at e1 e2
    cases j with
    | zero =>
      have a1 : (1 : Int) = x := Option.some.inj e1
      have a2 : (1 : Int) = z := Option.some.inj e2
      omega
    | succ j =>
      rw [List.getElem?_cons_succ, List.getElem?_replicate, if_pos (by omega)] at e1 e2
      have a1 : (0 : Int) = x := Option.some.inj e1
      have a2 : (0 : Int) = z := Option.some.inj e2
      omega
  | succ n ih =>
    intro j x z hj h1 h2
    have g : lv0 p n ≤ lv0 q n := ih 0 (by omega) (lvlC_at0 h n) (lvlC_at0 (by omega) n)
    by_cases c : j + 1 < p
    · obtain ⟨w, k1, k2⟩ := lvlC_atS h n j c
      obtain ⟨w', k1', k2'⟩ := lvlC_atS (p := q) (by omega) n j (by omega)
      have := ih (j + 1) c k1 k1'
      rw [k2] at h1
      rw [k2'] at h2
      have a1 := Option.some.inj h1
      have a2 := Option.some.inj h2
      omega
    · have k := lvlC_atL h n
      rw [show p - 1 = j by omega, h1] at k
      have a1 := Option.some.inj k
      by_cases c' : j + 1 < q
      · obtain ⟨w', k1', k2'⟩ := lvlC_atS (p := q) (by omega) n j c'
        have := (lvlC_ge (p := q) (by omega) n).2 w' (List.mem_of_getElem? k1')
        rw [k2'] at h2
        have a2 := Option.some.inj h2
        omega
      · have k' := lvlC_atL (p := q) (by omega) n
        rw [show q - 1 = j by omega, h2] at k'
        have a2 := Option.some.inj k'
        omega
theorem atL {xs : List V} {v : V} {n : Nat} (hn : xs.length = n + 1) (h : xs[n]? = some v) : atI xs (-1) = some v := by
  unfold atI ixN
  rw [if_neg (by decide), if_pos (by omega), hn]
  show xs[(-1 + ((n + 1 : Nat) : Int)).toNat]? = some v
  rw [show (-1 + ((n + 1 : Nat) : Int)).toNat = n by omega]
  exact h

def cAt (p l j : Nat) : Int := ((lvlC p l)[j]?).getD 0
theorem cAt_get {p l j : Nat} (h : 1 ≤ p) (hj : j < p) : (lvlC p l)[j]? = some (cAt p l j) := by
  unfold cAt
  rw [List.getElem?_eq_getElem (by rw [lvlC_len h]; exact hj)]
  rfl
theorem cAt_zero {p l : Nat} (h : 1 ≤ p) : cAt p l 0 = lv0 p l := by
  have := lvlC_at0 h l
  rw [cAt_get h (by omega)] at this
  exact Option.some.inj this
theorem cAt_succ {p l j : Nat} (h : 1 ≤ p) (hj : j + 1 < p) : cAt p (l + 1) j = lv0 p l + cAt p l (j + 1) := by
  obtain ⟨z, h1, h2⟩ := lvlC_atS h l j hj
  rw [cAt_get h hj] at h1
  rw [cAt_get h (by omega)] at h2
  have e1 := Option.some.inj h1
  have e2 := Option.some.inj h2
  omega
theorem cAt_last {p l : Nat} (h : 1 ≤ p) : cAt p (l + 1) (p - 1) = lv0 p l := by
  have := lvlC_atL h l
  rw [cAt_get h (by omega)] at this
  exact Option.some.inj this
theorem cAt_ge {p l i j : Nat} (h : 1 ≤ p) (hij : i ≤ j) (hj : j < p) : cAt p l j ≤ cAt p l i := by
  rcases Nat.lt_or_eq_of_le hij with c | c
  · have h1 := (lvlC_ge h l).1
    have hj' : j < (lvlC p l).length := by rw [lvlC_len h]; exact hj
    have hi' : i < (lvlC p l).length := by omega
    have h2 := List.pairwise_iff_getElem.mp h1 i j hi' hj' c
    have e1 : cAt p l i = (lvlC p l)[i] := by
      unfold cAt
      rw [List.getElem?_eq_getElem hi']
      rfl
    have e2 : cAt p l j = (lvlC p l)[j] := by
      unfold cAt
      rw [List.getElem?_eq_getElem hj']
      rfl
    rw [e1, e2]
    exact h2
  · rw [c]
    exact Int.le_refl _
theorem cAt_pos {p l j : Nat} (h : 2 ≤ p) (hj : j < p) : 1 ≤ cAt p (l + 1) j := by
  have h1 := cAt_ge (p := p) (l := l + 1) (i := j) (j := p - 1) (by omega) (by omega) (by omega)
  rw [cAt_last (by omega)] at h1
  have h2 := (lvlC_sum h l).2.2.1
  have h3 : lv0 p l = (lvlC p l).headD 0 := rfl
  omega
def rotA (p out l i : Nat) : Int := if (i + p - out) % (p + 1) = p then 0 else cAt p l ((i + p - out) % (p + 1))
def rotL (p out l : Nat) : List Int := (List.range (p + 1)).map (rotA p out l)
theorem rotL_len {p out l : Nat} : (rotL p out l).length = p + 1 := by
  unfold rotL
  rw [List.length_map, List.length_range]
theorem rotL_get {p out l i : Nat} (h : i < p + 1) : (rotL p out l)[i]? = some (rotA p out l i) := by
  unfold rotL
  rw [List.getElem?_map, List.getElem?_range h]
  rfl
theorem rot_ix {p out i : Nat} (ho : out ≤ p) (hi : i ≤ p) : (i + p - out) % (p + 1) = if i ≤ out then i + p - out else i - out - 1 := by
  by_cases c : i ≤ out
  · rw [if_pos c, Nat.mod_eq_of_lt (by omega)]
  · rw [if_neg c, show i + p - out = (i - out - 1) + (p + 1) by omega, Nat.add_mod_right, Nat.mod_eq_of_lt (by omega)]
theorem rotA_out {p out l : Nat} (ho : out ≤ p) : rotA p out l out = 0 := by
  unfold rotA
  rw [rot_ix ho ho, if_pos (Nat.le_refl out), if_pos (show out + p - out = p by omega)]
theorem rotA_lt {p out l i : Nat} (ho : out ≤ p) (h : i < out) : rotA p out l i = cAt p l (i + p - out) := by
  unfold rotA
  rw [rot_ix ho (by omega), if_pos (show i ≤ out by omega), if_neg (show ¬ i + p - out = p by omega)]
theorem rotA_gt {p out l i : Nat} (ho : out ≤ p) (hi : i ≤ p) (h : out < i) : rotA p out l i = cAt p l (i - out - 1) := by
  unfold rotA
  rw [rot_ix ho hi, if_neg (show ¬ i ≤ out by omega), if_neg (show ¬ i - out - 1 = p by omega)]
theorem rotA_else {p out l i : Nat} (h : 2 ≤ p) (ho : out ≤ p) (hi : i ≤ p) (hne : i ≠ out) : 1 ≤ rotA p out (l + 1) i ∧ cAt p (l + 1) (p - 1) ≤ rotA p out (l + 1) i := by
  by_cases c : i < out
  · rw [rotA_lt ho c]
    exact ⟨cAt_pos h (by omega), cAt_ge (by omega) (by omega) (by omega)⟩
  · rw [rotA_gt ho hi (by omega)]
    exact ⟨cAt_pos h (by omega), cAt_ge (by omega) (by omega) (by omega)⟩
theorem rotL_index {p out l : Nat} (h : 2 ≤ p) (ho : out ≤ p) : 0 ∈ rotL p out (l + 1) ∧ ixL 0 (rotL p out (l + 1)) = out := by
  have hg : (rotL p out (l + 1))[out]? = some 0 := by rw [rotL_get (by omega), rotA_out ho]
  have hm : (0 : Int) ∈ rotL p out (l + 1) := List.mem_of_getElem? hg
  refine ⟨hm, ?_⟩
  have hx := ixL_get hm
  have hlt := ixL_lt hm
  rw [rotL_len] at hlt
  apply Classical.byContradiction
  intro hne
  rw [rotL_get hlt] at hx
  have e := Option.some.inj hx
  have := (rotA_else (l := l) h ho (by omega) hne).1
  omega
/-- the least of what is there -/
theorem rotL_min {p out l : Nat} (h : 2 ≤ p) (ho : out ≤ p) {m : Int} (h1 : m ∈ (rotL p out (l + 1)).filter fun c => decide (c > 0)) (h2 : ∀ y ∈ (rotL p out (l + 1)).filter fun c => decide (c > 0), m ≤ y) : m = cAt p (l + 1) (p - 1) := by
  have hle : cAt p (l + 1) (p - 1) ≤ m := by
    obtain ⟨h3, h4⟩ := List.mem_filter.mp h1
    obtain ⟨i, hi⟩ := List.getElem?_of_mem h3
    have hlt := (List.getElem?_eq_some_iff.mp hi).1
    rw [rotL_len] at hlt
    rw [rotL_get hlt] at hi
    have e := Option.some.inj hi
    have h5 : m > 0 := of_decide_eq_true h4
    by_cases c : i = out
    · rw [c, rotA_out ho] at e
      omega
    · have := (rotA_else (l := l) h ho (by omega) c).2
      omega
  refine Int.le_antisymm (h2 _ (List.mem_filter.mpr ⟨?_, decide_eq_true (by have := cAt_pos (l := l) h (j := p - 1) (by omega); omega)⟩)) hle
  have hz : ∃ i, i ≤ p ∧ rotA p out (l + 1) i = cAt p (l + 1) (p - 1) := by
    by_cases c : out = 0
    · refine ⟨p, Nat.le_refl _, ?_⟩
      rw [rotA_gt ho (Nat.le_refl _) (by omega), show p - out - 1 = p - 1 by omega]
    · refine ⟨out - 1, by omega, ?_⟩
      rw [rotA_lt ho (by omega), show out - 1 + p - out = p - 1 by omega]
  obtain ⟨i, hi, e⟩ := hz
  rw [← e]
  exact List.mem_of_getElem? (rotL_get (by omega))
def outN (p out : Nat) : Nat := (out + p) % (p + 1)
theorem outN_le {p out : Nat} : outN p out ≤ p := by
  unfold outN
  have := Nat.mod_lt (out + p) (show 0 < p + 1 by omega)
  omega
theorem outN_eq {p out : Nat} (ho : out ≤ p) : outN p out = if out = 0 then p else out - 1 := by
  unfold outN
  by_cases c : out = 0
  · rw [if_pos c, c, Nat.zero_add, Nat.mod_eq_of_lt (by omega)]
  · rw [if_neg c, show out + p = (out - 1) + (p + 1) by omega, Nat.add_mod_right, Nat.mod_eq_of_lt (by omega)]
theorem rot_step {p out l i : Nat} (h : 2 ≤ p) (ho : out ≤ p) (hi : i ≤ p) : rotA p (outN p out) l i = if i = out then cAt p (l + 1) (p - 1) else rotA p out (l + 1) i - cAt p (l + 1) (p - 1) := by
  have hp1 : 1 ≤ p := by omega
  have hle := outN_le (p := p) (out := out)
  by_cases c : i = out
  · subst c
    rw [if_pos rfl, cAt_last hp1, ← cAt_zero hp1]
    by_cases c0 : i = 0
    · have e : outN p i = p := by rw [outN_eq ho, if_pos c0]
      rw [e, rotA_lt (Nat.le_refl _) (by omega), show i + p - p = 0 by omega]
    · have e : outN p i = i - 1 := by rw [outN_eq ho, if_neg c0]
      rw [e, rotA_gt (by omega) hi (by omega), show i - (i - 1) - 1 = 0 by omega]
  · rw [if_neg c, cAt_last hp1]
    by_cases c0 : out = 0
    · have e : outN p out = p := by rw [outN_eq ho, if_pos c0]
      rw [e, rotA_gt ho hi (by omega)]
      by_cases c1 : i = p
      · rw [c1, rotA_out (Nat.le_refl _), c0, show p - 0 - 1 = p - 1 by omega, cAt_last hp1]
        omega
      · rw [rotA_lt (Nat.le_refl _) (by omega), cAt_succ hp1 (by omega), c0, show i - 0 - 1 + 1 = i + p - p by omega]
        omega
    · have e : outN p out = out - 1 := by rw [outN_eq ho, if_neg c0]
      rw [e]
      rcases Nat.lt_trichotomy i (out - 1) with c1 | c1 | c1
      · rw [rotA_lt (by omega) c1, rotA_lt ho (by omega), cAt_succ hp1 (by omega), show i + p - out + 1 = i + p - (out - 1) by omega]
        omega
      · rw [c1, rotA_out (by omega), rotA_lt ho (by omega), show out - 1 + p - out = p - 1 by omega, cAt_last hp1]
        omega
      · rw [rotA_gt (by omega) hi c1, rotA_gt ho hi (by omega), cAt_succ hp1 (by omega), show i - out - 1 + 1 = i - (out - 1) - 1 by omega]
        omega
theorem rotL_next {p out l : Nat} (h : 2 ≤ p) (ho : out ≤ p) : ((rotL p out (l + 1)).map fun c => c - cAt p (l + 1) (p - 1)).set out (cAt p (l + 1) (p - 1)) = rotL p (outN p out) l := by
  apply List.ext_getElem?
  intro i
  rw [List.getElem?_set, List.length_map, rotL_len, List.getElem?_map]
  by_cases hi : i < p + 1
  · rw [rotL_get hi, rotL_get hi, rot_step h ho (by omega)]
    by_cases c : out = i
    · rw [if_pos c, if_pos (by omega), if_pos c.symm]
    · rw [if_neg c, if_neg (Ne.symm c)]
      rfl
  · have e1 : (rotL p out (l + 1))[i]? = none := List.getElem?_eq_none (by rw [rotL_len]; omega)
    have e2 : (rotL p (outN p out) l)[i]? = none := List.getElem?_eq_none (by rw [rotL_len]; omega)
    rw [if_neg (by omega), e1, e2]
    rfl
theorem rotL_first {p n : Nat} (h : 1 ≤ p) : lvlC p n ++ [0] = rotL p p n := by
  apply List.ext_getElem?
  intro i
  by_cases hi : i < p + 1
  · rw [rotL_get hi]
    by_cases c : i = p
    · rw [c, rotA_out (Nat.le_refl _), List.getElem?_append_right (by rw [lvlC_len h]; omega), lvlC_len h, Nat.sub_self]
      rfl
    · rw [rotA_lt (Nat.le_refl _) (by omega), show i + p - p = i by omega, List.getElem?_append_left (by rw [lvlC_len h]; omega), cAt_get h (by omega)]
  · rw [List.getElem?_eq_none (by rw [List.length_append, lvlC_len h]; simp; omega), List.getElem?_eq_none (by rw [rotL_len]; omega)]
def outAt (p : Nat) : Nat → Nat
  | 0 => p
  | i + 1 => outN p (outAt p i)
theorem outAt_le {p : Nat} : ∀ i, outAt p i ≤ p
  | 0 => Nat.le_refl _
  | i + 1 => outN_le
/-- the phases of a level -/
def phsL (p n i : Nat) : List (List Int) := (List.range i).map fun j => [((outAt p j : Nat) : Int), cAt p (n - j) (p - 1)]
theorem phsL_succ (p n i : Nat) : phsL p n (i + 1) = phsL p n i ++ [[((outAt p i : Nat) : Int), cAt p (n - i) (p - 1)]] := by
  unfold phsL
  rw [List.range_succ, List.map_append]
  rfl
theorem phsL_len (p n i : Nat) : (phsL p n i).length = i := by
  unfold phsL
  rw [List.length_map, List.length_range]
theorem phsL_two {p n i : Nat} {r : List Int} (h : r ∈ phsL p n i) : ∃ x y, r = [x, y] := by
  unfold phsL at h
  obtain ⟨j, _, e⟩ := List.mem_map.mp h
  exact ⟨_, _, e.symm⟩

theorem tkN_at {α : Type} (o : Nat) (Rs : List (List α)) : ∀ i (j : Nat) (R : List α), Rs[j]? = some R → (tkN o Rs i)[j]? = some (if j < i ∧ j ≠ o then R.tail else R)
  | 0, j, R, h => by
    rw [if_neg (by omega)]
    exact h
  | i + 1, j, R, h => by
    have ih := tkN_at o Rs i j R h
    unfold tkN
    by_cases c : i = o
    · rw [if_pos c, ih]
      by_cases c2 : j < i ∧ j ≠ o
      · rw [if_pos c2, if_pos (by omega)]
      · rw [if_neg c2, if_neg (by omega)]
    · rw [if_neg c, List.getElem?_set]
      by_cases c2 : i = j
      · subst c2
        have hl := (List.getElem?_eq_some_iff.mp ih).1
        rw [if_pos rfl, if_pos hl, if_pos (by omega), List.getD_eq_getElem?_getD, ih, if_neg (by omega)]
        rfl
      · rw [if_neg c2, ih]
        by_cases c3 : j < i ∧ j ≠ o
        · rw [if_pos c3, if_pos (by omega)]
        · rw [if_neg c3, if_neg (by omega)]
theorem mg_at {o : Nat} {s : List (List Rw) × List Int} {j : Nat} {R : List Rw} (h : s.1[j]? = some R) : (mgS o s).1[j]? = some (if j = o then R ++ [nwT (tfN o s.1 s.1.length)] else R.tail) := by
  have hj := (List.getElem?_eq_some_iff.mp h).1
  have ht := tkN_at o s.1 s.1.length j R h
  show ((tkN o s.1 s.1.length).set o ((tkN o s.1 s.1.length).getD o [] ++ [nwT (tfN o s.1 s.1.length)]))[j]? = _
  rw [List.getElem?_set]
  by_cases c : j = o
  · subst c
    rw [if_neg (by omega)] at ht
    rw [if_pos rfl, if_pos (by rw [tkN_len]; exact hj), if_pos rfl, List.getD_eq_getElem?_getD, ht]
    rfl
  · rw [if_neg (fun e => c e.symm), if_neg c, ht, if_pos (by omega)]
theorem ph_at {o : Nat} {s : List (List Rw) × List Int} {j : Nat} {R : List Rw} (h : s.1[j]? = some R) : ∀ k, ∃ X, (phZ o s k).1[j]? = some X ∧ (X.length : Int) = if j = o then (R.length : Int) + k else max 0 ((R.length : Int) - k)
  | 0 => ⟨R, h, by split <;> omega⟩
  | k + 1 => by
    obtain ⟨X, h1, h2⟩ := ph_at h k
    refine ⟨_, mg_at h1, ?_⟩
    by_cases c : j = o
    · rw [if_pos c] at h2
      rw [if_pos c, if_pos c, List.length_append]
      simp only [List.length_cons, List.length_nil]
      omega
    · rw [if_neg c] at h2
      rw [if_neg c, if_neg c, List.length_tail]
      omega
/-- all rows are there and rise -/
def UpS (Rs : List (List Rw)) : Prop := ∀ R, R ∈ Rs → ∀ r, r ∈ R → ∃ x : List Int, r = some x ∧ x.Pairwise (· ≤ ·)
theorem tfN_mem {α : Type} (o : Nat) (Rs : List (List α)) : ∀ i p, p ∈ tfN o Rs i → ∃ R, R ∈ Rs ∧ p.2 ∈ R
  | 0, p, h => by cases h
  | i + 1, p, h => by
    unfold tfN at h
    rcases List.mem_append.mp h with h | h
    · exact tfN_mem o Rs i p h
    · split at h
      · cases h
      · split at h
        · cases h
        · rename_i v tail e
          rw [List.mem_singleton.mp h]
          rcases Nat.lt_or_ge i (tkN o Rs i).length with c | c
          · have hg : (tkN o Rs i)[i]? = some (v :: tail) := by rw [← e, List.getD_eq_getElem?_getD, List.getElem?_eq_getElem c]; rfl
            obtain ⟨R0, h1, h2, h3⟩ : ∃ R0, Rs[i]? = some R0 ∧ (tkN o Rs i)[i]? = some R0 ∧ True := by
              rw [tkN_len] at c
              have hR : Rs[i]? = some Rs[i] := List.getElem?_eq_getElem c
              have := tkN_at o Rs i i _ hR
              rw [if_neg (by omega)] at this
              exact ⟨_, hR, this, trivial⟩
            rw [hg] at h2
            refine ⟨R0, List.mem_of_getElem? h1, ?_⟩
            rw [← Option.some.inj h2]
            exact List.mem_cons_self
          · rw [List.getD_eq_getElem?_getD, List.getElem?_eq_none c] at e
            cases e
theorem tfN_has {α : Type} (o : Nat) (Rs : List (List α)) : ∀ i (j : Nat) (v : α) (R : List α), j < i → j ≠ o → Rs[j]? = some (v :: R) → (j, v) ∈ tfN o Rs i
  | 0, j, v, R, h, _, _ => absurd h (Nat.not_lt_zero _)
  | i + 1, j, v, R, h, hj, hR => by
    unfold tfN
    rcases Nat.lt_or_ge j i with c | c
    · exact List.mem_append_left _ (tfN_has o Rs i j v R c hj hR)
    · have e : j = i := by omega
      subst e
      refine List.mem_append_right _ ?_
      have := tkN_at o Rs j j _ hR
      rw [if_neg (by omega)] at this
      rw [if_neg hj, List.getD_eq_getElem?_getD, this]
      exact List.mem_singleton.mpr rfl
theorem mg_up {o : Nat} {s : List (List Rw) × List Int} (h : UpS s.1) (ht : tfN o s.1 s.1.length ≠ []) : UpS (mgS o s).1 := by
  have hnw : ∃ x : List Int, nwT (tfN o s.1 s.1.length) = some x ∧ x.Pairwise (· ≤ ·) := by
    unfold nwT
    rw [if_neg]
    · exact ⟨_, rfl, srtI_srt _⟩
    · intro e
      cases e2 : tfN o s.1 s.1.length with
      | nil => exact ht e2
      | cons p tk =>
        obtain ⟨R, hR, hp⟩ := tfN_mem o s.1 s.1.length p (by rw [e2]; exact List.mem_cons_self)
        obtain ⟨x, hx, _⟩ := h R hR p.2 hp
        rw [e2] at e
        unfold rwT at e
        rw [List.filterMap_cons, hx] at e
        cases e
  intro R hR r hr
  obtain ⟨j, hj⟩ := List.getElem?_of_mem hR
  have hjl : j < s.1.length := by
    have := (List.getElem?_eq_some_iff.mp hj).1
    rw [(mgS_len o s).1] at this
    exact this
  have h0 : s.1[j]? = some s.1[j] := List.getElem?_eq_getElem hjl
  rw [mg_at h0] at hj
  have e := Option.some.inj hj
  by_cases c : j = o
  · rw [if_pos c] at e
    rw [← e] at hr
    rcases List.mem_append.mp hr with h1 | h1
    · exact h _ (List.mem_of_getElem? h0) r h1
    · rw [List.mem_singleton.mp h1]
      exact hnw
  · rw [if_neg c] at e
    rw [← e] at hr
    exact h _ (List.mem_of_getElem? h0) r (List.mem_of_mem_tail hr)
theorem ph_up {p : Int × Int} {Rs : List (List Rw)} (hp : isPh (cntI Rs) p) (h : UpS Rs) : UpS (phQ p Rs).1 := by
  obtain ⟨h1, h2, h3, h4, c, hc, h5⟩ := hp
  obtain ⟨j, hj⟩ := List.getElem?_of_mem hc
  have hjo : j ≠ p.1.toNat := by
    intro e
    rw [List.getD_eq_getElem?_getD, ← e, hj] at h3
    have h3' : c = 0 := h3
    omega
  unfold cntI at hj
  rw [List.getElem?_map] at hj
  cases eR : Rs[j]? with
  | none => rw [eR] at hj; cases hj
  | some R =>
    rw [eR] at hj
    have hcR : (R.length : Int) = c := Option.some.inj hj
    have key : ∀ k : Nat, (k : Int) ≤ p.2 → UpS (phZ p.1.toNat (Rs, zerI Rs.length) k).1 := by
      intro k
      induction k with
      | zero => exact fun _ => h
      | succ k ih =>
        intro hk
        refine mg_up (ih (by omega)) ?_
        obtain ⟨X, hX, hXl⟩ := ph_at (o := p.1.toNat) (s := (Rs, zerI Rs.length)) (j := j) eR k
        rw [if_neg hjo] at hXl
        cases X with
        | nil =>
          have : (([] : List Rw).length : Int) = 0 := rfl
          omega
        | cons v X =>
          have := tfN_has p.1.toNat _ (phZ p.1.toNat (Rs, zerI Rs.length) k).1.length j v X (List.getElem?_eq_some_iff.mp hX).1 hjo hX
          intro e
          rw [e] at this
          cases this
    exact key _ (by omega)
theorem pl_up : ∀ {ps : List (Int × Int)} {Rs : List (List Rw)}, okPl Rs ps → UpS Rs → UpS (plQ Rs ps).1
  | [], _, _, h => h
  | _ :: ps, _, h, hu => pl_up (ps := ps) h.2 (ph_up h.1 hu)
/-- one row is left: all things, sorted -/
theorem one_left {Rs Ss : List (List Rw)} (hu : UpS Ss) (hp : (allT Ss).Perm (allT Rs)) (hs : (cntI Ss).sum = 1) : Ss.flatten = [some (srtI (allT Rs))] := by
  have hl : Ss.flatten.length = 1 := by
    have : ((Ss.flatten.length : Nat) : Int) = (cntI Ss).sum := by
      unfold cntI
      clear hu hp hs
      induction Ss with
      | nil => rfl
      | cons S Ss ih => rw [List.flatten_cons, List.length_append, List.map_cons, List.sum_cons, ← ih]; omega
    omega
  obtain ⟨r, hr⟩ : ∃ r, Ss.flatten = [r] := List.length_eq_one_iff.mp hl
  have hm : r ∈ Ss.flatten := by rw [hr]; exact List.mem_cons_self
  obtain ⟨R, hR, hrR⟩ := List.mem_flatten.mp hm
  obtain ⟨x, rfl, hx⟩ := hu R hR r hrR
  have ht : allT Ss = x := by
    have e : allT Ss = thR Ss.flatten := by
      unfold allT
      clear hu hp hs hl hr hm hR
      induction Ss with
      | nil => rfl
      | cons S Ss ih => rw [List.map_cons, List.flatten_cons, List.flatten_cons, thR_app, ← ih]; rfl
    rw [e, hr]
    unfold thR
    simp
  rw [hr, srtI_uniq (ht ▸ hp) hx]

def lnW : Rw → Int
  | none => 0
  | some r => r.length
def hdW (R : List Rw) : Int := lnW (R.getD 0 none)
theorem lnW_nn (r : Rw) : 0 ≤ lnW r := by
  cases r with
  | none => exact Int.le_refl 0
  | some r => exact Int.natCast_nonneg _
theorem nw_len (tk : List (Nat × Rw)) : lnW (nwT tk) = (tk.map fun p => lnW p.2).sum := by
  have h : ((rwT tk).flatten.length : Int) = (tk.map fun p => lnW p.2).sum := by
    unfold rwT
    induction tk with
    | nil => rfl
    | cons p tk ih =>
      obtain ⟨i, r⟩ := p
      rw [List.map_cons, List.sum_cons, ← ih]
      cases r with
      | none =>
        show ((List.filterMap (fun x => x.2) tk).flatten.length : Int) = (0 : Int) + _
        omega
      | some r =>
        show (((r :: List.filterMap (fun x => x.2) tk).flatten.length : Nat) : Int) = (r.length : Int) + _
        rw [List.flatten_cons, List.length_append]
        omega
  unfold nwT
  split
  · rename_i e
    rw [e] at h
    exact h
  · show (((srtI (rwT tk).flatten).length : Nat) : Int) = _
    rw [(srtI_perm _).length_eq, h]
theorem tf_sum (o : Nat) (Rs : List (List Rw)) : ∀ i, i ≤ Rs.length → ((tfN o Rs i).map fun p => lnW p.2).sum = sum0 (fun j => if j = o then 0 else hdW (Rs.getD j [])) i
  | 0, _ => rfl
  | i + 1, h => by
    have ih := tf_sum o Rs i (by omega)
    have hR : Rs[i]? = some Rs[i] := List.getElem?_eq_getElem (by omega)
    have ht := tkN_at o Rs i i _ hR
    rw [if_neg (by omega)] at ht
    have eR : Rs.getD i [] = Rs[i] := by rw [List.getD_eq_getElem?_getD, hR]; rfl
    unfold tfN
    show _ = sum0 _ i + (if i = o then 0 else hdW (Rs.getD i []))
    rw [List.map_append, List.sum_append, ih, eR]
    congr 1
    by_cases c : i = o
    · rw [if_pos c, if_pos c]
      rfl
    · have eT : (tkN o Rs i).getD i [] = Rs[i] := by rw [List.getD_eq_getElem?_getD, ht]; rfl
      rw [if_neg c, if_neg c, eT]
      cases Rs[i] with
      | nil => rfl
      | cons v tail => exact Int.add_zero _
theorem tf_sel (o : Nat) (Rs : List (List Rw)) (j : Nat) : ∀ i, i ≤ Rs.length → ((tfN o Rs i).map fun p => if p.1 = j then lnW p.2 else 0).sum = if j < i ∧ j ≠ o then hdW (Rs.getD j []) else 0
  | 0, _ => by rw [if_neg (by omega)]; rfl
  | i + 1, h => by
    have ih := tf_sel o Rs j i (by omega)
    have hR : Rs[i]? = some Rs[i] := List.getElem?_eq_getElem (by omega)
    have ht := tkN_at o Rs i i _ hR
    rw [if_neg (by omega)] at ht
    have eR : Rs.getD i [] = Rs[i] := by rw [List.getD_eq_getElem?_getD, hR]; rfl
    unfold tfN
    rw [List.map_append, List.sum_append, ih]
    by_cases c : i = o
    · rw [if_pos c]
      show _ + (0 : Int) = _
      by_cases c2 : j < i ∧ j ≠ o
      · rw [if_pos c2, if_pos (by omega)]
        omega
      · rw [if_neg c2, if_neg (by omega)]
        rfl
    · have eT : (tkN o Rs i).getD i [] = Rs[i] := by rw [List.getD_eq_getElem?_getD, ht]; rfl
      rw [if_neg c, eT]
      obtain ⟨X, hX⟩ : ∃ X, X = Rs[i] := ⟨_, rfl⟩
      rw [← hX] at eR ⊢
      have key : hdW X = (match X with | [] => 0 | v :: _ => lnW v) := by cases X <;> rfl
      by_cases c3 : i = j
      · subst c3
        rw [if_neg (by omega), if_pos (by omega), eR]
        cases X with
        | nil => rfl
        | cons v tail =>
          show (0 : Int) + ((if i = i then lnW v else 0) + 0) = lnW v
          rw [if_pos rfl]
          omega
      · have e3 : ∀ (Y : List Rw), (if j < i ∧ j ≠ o then hdW (Rs.getD j []) else 0) = if j < i + 1 ∧ j ≠ o then hdW (Rs.getD j []) else 0 := fun _ => by
          by_cases c2 : j < i ∧ j ≠ o
          · rw [if_pos c2, if_pos (by omega)]
          · rw [if_neg c2, if_neg (by omega)]
        rw [← e3 []]
        cases X with
        | nil => exact Int.add_zero _
        | cons v tail =>
          show _ + ((if i = j then lnW v else 0) + 0) = _
          rw [if_neg c3]
          exact Int.add_zero _
theorem rd_at (j : Nat) : ∀ (tk : List (Nat × Rw)) (zs : List Int), j < zs.length → (rdT tk zs).getD j 0 = zs.getD j 0 + (tk.map fun p => if p.1 = j then lnW p.2 else 0).sum
  | [], zs, _ => (Int.add_zero _).symm
  | (i, r) :: tk, zs, h => by
    have e1 : (rd1 zs (i, r)).getD j 0 = zs.getD j 0 + if i = j then lnW r else 0 := by
      unfold rd1
      cases r with
      | none =>
        show zs.getD j 0 = zs.getD j 0 + if i = j then 0 else 0
        split <;> omega
      | some r =>
        show (zs.set i (zs.getD i 0 + r.length)).getD j 0 = _
        rw [List.getD_eq_getElem?_getD, List.getElem?_set]
        by_cases c : i = j
        · subst c
          rw [if_pos rfl, if_pos h, if_pos rfl]
          rfl
        · rw [if_neg c, if_neg c, ← List.getD_eq_getElem?_getD]
          omega
    have ih := rd_at j tk (rd1 zs (i, r)) (by rw [rd1_len]; exact h)
    show (rdT tk (rd1 zs (i, r))).getD j 0 = _
    rw [ih, e1, List.map_cons, List.sum_cons]
    show _ = _ + ((if i = j then lnW r else 0) + _)
    omega
theorem hd_drop (R : List Rw) (k : Nat) : hdW (R.drop k) = lnW (R.getD k none) := by
  unfold hdW
  rw [List.getD_eq_getElem?_getD, List.getElem?_drop, Nat.add_zero, ← List.getD_eq_getElem?_getD]
/-- a phase onto an empty reel, merging by merging -/
theorem phZ_lv {Z : List (List Rw)} {o : Nat} (ho : o < Z.length) (h0 : Z.getD o [] = []) : ∀ k, ∃ W : List Rw, (phZ o (Z, zerI Z.length) k).1 = (Z.map (List.drop k)).set o W ∧ W.length = k ∧ (∀ t, t < k → lnW (W.getD t none) = sum0 (fun j => lnW ((Z.getD j []).getD t none)) Z.length) ∧ ∀ j, j < Z.length → (phZ o (Z, zerI Z.length) k).2.getD j 0 = sum0 (fun t => lnW ((Z.getD j []).getD t none)) k
  | 0 => by
    refine ⟨[], ?_, rfl, fun t ht => absurd ht (Nat.not_lt_zero _), fun j hj => ?_⟩
    · show Z = _
      rw [show (List.drop 0 : List Rw → List Rw) = id from rfl, List.map_id]
      apply List.ext_getElem?
      intro j
      rw [List.getElem?_set]
      by_cases c : o = j
      · subst c
        rw [if_pos rfl, if_pos ho, List.getElem?_eq_getElem ho]
        rw [List.getD_eq_getElem?_getD, List.getElem?_eq_getElem ho] at h0
        exact congrArg some h0
      · rw [if_neg c]
    · show (zerI Z.length).getD j 0 = 0
      unfold zerI
      rw [List.getD_eq_getElem?_getD, List.getElem?_replicate, if_pos hj]
      rfl
  | k + 1 => by
    obtain ⟨W, h1, h2, h3, h4⟩ := phZ_lv ho h0 k
    obtain ⟨s, hs⟩ : ∃ s, s = phZ o (Z, zerI Z.length) k := ⟨_, rfl⟩
    have hl := phZ_len o (Z, zerI Z.length) k
    rw [← hs] at h1 h4 hl
    have hl1 : s.1.length = Z.length := hl.1
    have hl2 : s.2.length = Z.length := by rw [hl.2]; exact List.length_replicate
    have hg : ∀ j, j < Z.length → j ≠ o → s.1.getD j [] = (Z.getD j []).drop k := fun j hj hjo => by
      rw [h1, List.getD_eq_getElem?_getD, List.getElem?_set, if_neg (fun e => hjo e.symm), List.getElem?_map, List.getD_eq_getElem?_getD, List.getElem?_eq_getElem hj]
      rfl
    have hhd : ∀ j, j < Z.length → (if j = o then 0 else hdW (s.1.getD j [])) = lnW ((Z.getD j []).getD k none) := fun j hj => by
      by_cases c : j = o
      · rw [if_pos c, c, h0]
        rfl
      · rw [if_neg c, hg j hj c, hd_drop]
    show ∃ W : List Rw, (mgS o (phZ o (Z, zerI Z.length) k)).1 = _ ∧ _
    rw [← hs]
    have hnw : lnW (nwT (tfN o s.1 s.1.length)) = sum0 (fun j => lnW ((Z.getD j []).getD k none)) Z.length := by
      rw [nw_len, tf_sum o s.1 _ (Nat.le_refl _), hl1]
      exact sum0_congr _ hhd
    refine ⟨W ++ [nwT (tfN o s.1 s.1.length)], ?_, by rw [List.length_append, h2]; rfl, fun t ht => ?_, fun j hj => ?_⟩
    · apply List.ext_getElem?
      intro j
      rcases Nat.lt_or_ge j Z.length with c | c
      · obtain ⟨X, hj⟩ : ∃ X, s.1[j]? = some X := ⟨_, List.getElem?_eq_getElem (by omega)⟩
        rw [mg_at hj, List.getElem?_set]
        have hj2 := hj
        rw [h1, List.getElem?_set] at hj2
        by_cases e : j = o
        · subst e
          rw [if_pos rfl, if_pos rfl, List.length_map, if_pos c]
          rw [if_pos rfl, List.length_map, if_pos c] at hj2
          have e9 := Option.some.inj hj2
          rw [← e9]
        · rw [if_neg e, if_neg (fun z => e z.symm), List.getElem?_map, List.getElem?_eq_getElem c]
          rw [if_neg (fun z => e z.symm), List.getElem?_map, List.getElem?_eq_getElem c] at hj2
          have e9 := Option.some.inj hj2
          show some (X.tail) = some (Z[j].drop (k + 1))
          rw [← e9, List.tail_drop]
      · have hm := (mgS_len o s).1
        rw [List.getElem?_eq_none (by omega), List.getElem?_eq_none (by rw [List.length_set, List.length_map]; exact c)]
    · rcases Nat.lt_or_ge t k with c | c
      · rw [List.getD_eq_getElem?_getD, List.getElem?_append_left (by omega), ← List.getD_eq_getElem?_getD]
        exact h3 t c
      · have e : t = k := by omega
        subst e
        rw [List.getD_eq_getElem?_getD, List.getElem?_append_right (by omega), h2, Nat.sub_self]
        exact hnw
    · show (mgS o (phZ o (Z, zerI Z.length) k)).2.getD j 0 = sum0 (fun t => lnW ((Z.getD j []).getD t none)) k + lnW ((Z.getD j []).getD k none)
      rw [← hs]
      show (rdT (tfN o s.1 s.1.length) s.2).getD j 0 = _
      rw [rd_at j _ _ (by omega), tf_sel o s.1 j _ (Nat.le_refl _), h4 j hj, ← hhd j hj]
      congr 1
      by_cases c : j = o
      · rw [if_pos c, if_neg (by omega)]
      · rw [if_neg c, if_pos (by omega)]
/-- the reels turn -/
theorem rotG {α : Type} {A B : List (List α)} {m : Nat} {W : List α} (h1 : 1 ≤ (B ++ A).length) (hl : ((B ++ A).getD ((B ++ A).length - 1) []).length = m) : ∃ A' B', A.map (List.drop m) ++ W :: B.map (List.drop m) = A' ++ [] :: B' ∧ B' ++ A' = W :: (B ++ A).dropLast.map (List.drop m) ∧ A'.length = if A.length = 0 then B.length else A.length - 1 := by
  rcases List.eq_nil_or_concat A with e | ⟨A0, a, e⟩
  · subst e
    rw [List.append_nil] at h1 hl
    rcases List.eq_nil_or_concat B with e | ⟨B0, b, e⟩
    · subst e
      simp at h1
    · subst e
      rw [List.concat_eq_append] at hl ⊢
      have hb : b.drop m = [] := by
        rw [List.length_append, List.length_singleton, Nat.add_sub_cancel, List.getD_eq_getElem?_getD, List.getElem?_append_right (Nat.le_refl _), Nat.sub_self] at hl
        exact List.drop_eq_nil_of_le (by rw [← hl]; exact Nat.le_refl _)
      refine ⟨W :: B0.map (List.drop m), [], ?_, ?_, ?_⟩
      · rw [List.map_append, List.map_cons, List.map_nil, hb]
        rfl
      · rw [List.append_nil, List.dropLast_concat]
        rfl
      · show _ = if 0 = 0 then _ else _
        rw [if_pos rfl, List.length_cons, List.length_map, List.length_append, List.length_singleton]
  · subst e
    rw [List.concat_eq_append] at hl ⊢
    rw [← List.append_assoc] at hl
    have hb : a.drop m = [] := by
      rw [List.length_append (as := B ++ A0), List.length_singleton, Nat.add_sub_cancel, List.getD_eq_getElem?_getD, List.getElem?_append_right (Nat.le_refl _), Nat.sub_self] at hl
      exact List.drop_eq_nil_of_le (by rw [← hl]; exact Nat.le_refl _)
    refine ⟨A0.map (List.drop m), W :: B.map (List.drop m), ?_, ?_, ?_⟩
    · rw [List.map_append, List.map_cons, List.map_nil, hb, List.append_assoc]
      rfl
    · rw [← List.append_assoc, List.dropLast_concat, List.map_append]
      rfl
    · rw [if_neg (by rw [List.length_append, List.length_singleton]; omega), List.length_append, List.length_singleton, List.length_map]
      omega

structure CfR (p n : Nat) (X : List (List Rw)) : Prop where
  len : X.length = p
  lens : ∀ k, k < p → (X.getD k []).length = wB p n k
def gR (X : List (List Rw)) (k i : Nat) : Int := lnW ((X.getD k []).getD i none)
def nxR (m : Nat) (W : List Rw) (X : List (List Rw)) : List (List Rw) := W :: X.dropLast.map (List.drop m)
theorem nxR_at {m k : Nat} {W : List Rw} {X : List (List Rw)} (h : k + 1 < X.length) : (nxR m W X).getD (k + 1) [] = (X.getD k []).drop m := by
  unfold nxR
  rw [List.getD_cons_succ, List.getD_eq_getElem?_getD, List.getElem?_map, List.getElem?_dropLast, if_pos (by omega), List.getD_eq_getElem?_getD, List.getElem?_eq_getElem (by omega)]
  rfl
theorem nxR_row {p n : Nat} {X : List (List Rw)} {W : List Rw} (h : CfR p (n + 1) X) (hW : ∀ t, t < wB p n 0 → lnW (W.getD t none) = sum0 (fun k => gR X k t) p) (k i : Nat) (hk : k < p) (hi : i < wB p n k) : gR (nxR (wB p n 0) W X) k i = nxB p n (gR X) k i := by
  cases k with
  | zero => exact hW i hi
  | succ k =>
    unfold nxB
    rw [if_neg (by omega)]
    show lnW (((nxR (wB p n 0) W X).getD (k + 1) []).getD i none) = lnW ((X.getD k []).getD (wB p n 0 + i) none)
    rw [nxR_at (by rw [h.len]; exact hk), List.getD_eq_getElem?_getD, List.getElem?_drop, List.getD_eq_getElem?_getD (i := wB p n 0 + i)]
theorem CfR.next {p n : Nat} {X : List (List Rw)} {W : List Rw} (h1 : 1 ≤ p) (h : CfR p (n + 1) X) (hl : W.length = wB p n 0) : CfR p n (nxR (wB p n 0) W X) := by
  refine ⟨?_, fun k hk => ?_⟩
  · unfold nxR
    rw [List.length_cons, List.length_map, List.length_dropLast, h.len]
    omega
  · cases k with
    | zero => exact hl
    | succ k =>
      rw [nxR_at (by rw [h.len]; exact hk), List.length_drop, h.lens k (by omega), wB_succ h1 n k (by omega)]
      omega
theorem sum_turn {f : List Rw → Int} (hf : f [] = 0) (A B : List (List Rw)) : sum0 (fun j => f ((A ++ [] :: B).getD j [])) (A ++ [] :: B).length = sum0 (fun j => f ((B ++ A).getD j [])) (B ++ A).length := by
  rw [← sum_sum0 f [], ← sum_sum0 f [], List.map_append, List.map_append, List.map_cons, List.sum_append, List.sum_append, List.sum_cons, hf]
  omega
theorem set_mid {α : Type} (A B : List α) (x y : α) : (A ++ x :: B).set A.length y = A ++ y :: B := by
  rw [List.set_append_right _ _ (Nat.le_refl _), Nat.sub_self]
  rfl
theorem get_mid {α : Type} (A B : List α) (x d : α) : (A ++ x :: B).getD A.length d = x := by
  rw [List.getD_eq_getElem?_getD, List.getElem?_append_right (Nat.le_refl _), Nat.sub_self]
  rfl
/-- a phase of a level -/
theorem phQ_lv {p n : Nat} {A B : List (List Rw)} (h1 : 1 ≤ p) (h : CfR p (n + 1) (B ++ A)) : ∃ (W : List Rw) (A' B' : List (List Rw)), (phQ ((A.length : Int), ((wB p n 0 : Nat) : Int)) (A ++ [] :: B)).1 = A' ++ [] :: B' ∧ B' ++ A' = nxR (wB p n 0) W (B ++ A) ∧ W.length = wB p n 0 ∧ (∀ t, t < wB p n 0 → lnW (W.getD t none) = sum0 (fun k => gR (B ++ A) k t) p) ∧ A'.length = outN p A.length ∧ (phQ ((A.length : Int), ((wB p n 0 : Nat) : Int)) (A ++ [] :: B)).2.sum = sum0 (fun t => sum0 (fun k => gR (B ++ A) k t) p) (wB p n 0) ∧ ∀ j, j < (A ++ [] :: B).length → (phQ ((A.length : Int), ((wB p n 0 : Nat) : Int)) (A ++ [] :: B)).2.getD j 0 = sum0 (fun t => lnW (((A ++ [] :: B).getD j []).getD t none)) (wB p n 0) := by
  obtain ⟨Z, hZ⟩ : ∃ Z, Z = A ++ [] :: B := ⟨_, rfl⟩
  have hZl : Z.length = A.length + (B.length + 1) := by rw [hZ, List.length_append, List.length_cons]
  have hpl : B.length + A.length = p := by rw [← h.len, List.length_append]
  have h0 : Z.getD A.length [] = [] := by rw [hZ, get_mid]
  have eP : phQ ((A.length : Int), ((wB p n 0 : Nat) : Int)) Z = phZ A.length (Z, zerI Z.length) (wB p n 0) := by
    unfold phQ
    rw [Int.toNat_natCast, Int.toNat_natCast]
  obtain ⟨W, e1, e2, e3, e4⟩ := phZ_lv (Z := Z) (o := A.length) (by omega) h0 (wB p n 0)
  rw [← eP] at e1 e4
  have e3' : ∀ t, t < wB p n 0 → lnW (W.getD t none) = sum0 (fun k => gR (B ++ A) k t) p := fun t ht => by
    rw [e3 t ht, hZ, sum_turn (f := fun r => lnW (r.getD t none)) rfl A B, h.len]
    rfl
  have hlast : ((B ++ A).getD ((B ++ A).length - 1) []).length = wB p n 0 := by
    rw [h.len, h.lens (p - 1) (by omega), wB_succ h1 n (p - 1) (by omega), show p - 1 + 1 = p by omega, wB_out h1]
    rfl
  obtain ⟨A', B', r1, r2, r3⟩ := rotG (A := A) (B := B) (m := wB p n 0) (W := W) (by rw [h.len]; exact h1) hlast
  have eS : (Z.map (List.drop (wB p n 0))).set A.length W = A.map (List.drop (wB p n 0)) ++ W :: B.map (List.drop (wB p n 0)) := by
    rw [hZ, List.map_append, List.map_cons]
    have := set_mid (A.map (List.drop (wB p n 0))) (B.map (List.drop (wB p n 0))) (List.drop (wB p n 0) ([] : List Rw)) W
    rw [List.length_map] at this
    exact this
  rw [← hZ]
  refine ⟨W, A', B', by rw [e1, eS, r1], r2, e2, e3', ?_, ?_, e4⟩
  · rw [r3]
    unfold outN
    by_cases c : A.length = 0
    · rw [if_pos c, c, Nat.zero_add, Nat.mod_eq_of_lt (by omega)]
      omega
    · rw [if_neg c, show A.length + p = (A.length - 1) + (p + 1) by omega, Nat.add_mod_right, Nat.mod_eq_of_lt (by omega)]
  · have hl : (phQ ((A.length : Int), ((wB p n 0 : Nat) : Int)) Z).2.length = Z.length := (phQ_len _ _).2
    have e5 := sum_sum0 (fun x : Int => x) 0 (phQ ((A.length : Int), ((wB p n 0 : Nat) : Int)) Z).2
    rw [List.map_id', hl] at e5
    rw [e5, sum0_congr Z.length e4, sum0_comm]
    refine sum0_congr _ fun t _ => ?_
    rw [hZ, sum_turn (f := fun r => lnW (r.getD t none)) rfl A B, h.len]
    rfl
/-- the phases of a level, from any empty reel on -/
def psL (p n i : Nat) : List (Int × Int) := (List.range n).map fun j => (((outAt p (i + j) : Nat) : Int), ((wB p (n - 1 - j) 0 : Nat) : Int))
theorem psL_succ (p n i : Nat) : psL p (n + 1) i = (((outAt p i : Nat) : Int), ((wB p n 0 : Nat) : Int)) :: psL p n (i + 1) := by
  unfold psL
  rw [List.range_succ_eq_map, List.map_cons, List.map_map]
  congr 1
  refine List.map_congr_left fun j _ => ?_
  show (((outAt p (i + (j + 1)) : Nat) : Int), ((wB p (n + 1 - 1 - (j + 1)) 0 : Nat) : Int)) = (((outAt p (i + 1 + j) : Nat) : Int), ((wB p (n - 1 - j) 0 : Nat) : Int))
  rw [show i + (j + 1) = i + 1 + j by omega, show n + 1 - 1 - (j + 1) = n - 1 - j by omega]
theorem cfR_cnt {p n : Nat} {X : List (List Rw)} (h : CfR p n X) {k : Nat} (hk : k < p) : ((wB p n k : Nat) : Int) ∈ cntI X := by
  have hl := h.len
  refine List.mem_map.mpr ⟨X[k], List.getElem_mem (by omega), ?_⟩
  have := h.lens k hk
  rw [List.getD_eq_getElem?_getD, List.getElem?_eq_getElem (by omega)] at this
  show ((X[k].length : Nat) : Int) = _
  rw [← this]
  rfl
theorem isPh_lv {p n : Nat} {A B : List (List Rw)} (h1 : 1 ≤ p) (h : CfR p (n + 1) (B ++ A)) : isPh (cntI (A ++ [] :: B)) ((A.length : Int), ((wB p n 0 : Nat) : Int)) := by
  have hcl : (cntI (A ++ [] :: B)).length = A.length + (B.length + 1) := by unfold cntI; rw [List.length_map, List.length_append, List.length_cons]
  have hpos := wB_pos h1 n
  refine ⟨Int.natCast_nonneg _, by show (A.length : Int) < _; rw [hcl]; omega, ?_, by show (1 : Int) ≤ ((wB p n 0 : Nat) : Int); omega, ((wB p (n + 1) 0 : Nat) : Int), ?_, ?_⟩
  · show (cntI (A ++ [] :: B)).getD ((A.length : Int)).toNat 0 = 0
    unfold cntI
    rw [Int.toNat_natCast, List.map_append, List.map_cons]
    have := get_mid (A.map fun r => (r.length : Int)) (B.map fun r => (r.length : Int)) (([] : List Rw).length : Int) 0
    rw [List.length_map] at this
    exact this
  · have := cfR_cnt h (k := 0) (by omega)
    unfold cntI at this ⊢
    rw [List.map_append, List.mem_append] at this
    rw [List.map_append, List.mem_append]
    exact this.elim (fun c => .inr (List.mem_cons_of_mem _ c)) .inl
  · show ((wB p n 0 : Nat) : Int) ≤ ((wB p (n + 1) 0 : Nat) : Int)
    rw [wB_succ h1 n 0 (by omega)]
    omega
theorem play_lv {p : Nat} (h1 : 1 ≤ p) : ∀ (n i : Nat) (A B : List (List Rw)), A.length = outAt p i → CfR p n (B ++ A) → okPl (A ++ [] :: B) (psL p n i) ∧ (∃ A' B', (plQ (A ++ [] :: B) (psL p n i)).1 = A' ++ [] :: B' ∧ CfR p 0 (B' ++ A')) ∧ ((plQ (A ++ [] :: B) (psL p n i)).2.map List.sum).sum = TB p n (gR (B ++ A))
  | 0, _, A, B, _, h => ⟨trivial, ⟨A, B, rfl, h⟩, (TB_zero _).symm⟩
  | n + 1, i, A, B, ha, h => by
    obtain ⟨W, A', B', q1, q2, q3, q4, q5, q6, _⟩ := phQ_lv h1 h
    have hn : CfR p n (B' ++ A') := by rw [q2]; exact h.next h1 q3
    obtain ⟨i1, i2, i3⟩ := play_lv h1 n (i + 1) A' B' (by rw [q5, ha]; rfl) hn
    rw [psL_succ, ← ha]
    refine ⟨⟨isPh_lv h1 h, by rw [q1]; exact i1⟩, ?_, ?_⟩
    · show ∃ A'' B'', (plQ (phQ ((A.length : Int), ((wB p n 0 : Nat) : Int)) (A ++ [] :: B)).1 (psL p n (i + 1))).1 = _ ∧ _
      rw [q1]
      exact i2
    · show ((phQ ((A.length : Int), ((wB p n 0 : Nat) : Int)) (A ++ [] :: B)).2 :: (plQ (phQ ((A.length : Int), ((wB p n 0 : Nat) : Int)) (A ++ [] :: B)).1 (psL p n (i + 1))).2 |>.map List.sum).sum = _
      rw [List.map_cons, List.sum_cons, q6, q1, i3, TB_succ h1, q2]
      have e : TB p n (gR (nxR (wB p n 0) W (B ++ A))) = TB p n (nxB p n (gR (B ++ A))) := sum0_congr p fun k hk => sum0_congr _ fun i hi => by rw [nxR_row h q4 k i hk hi]
      rw [e]
      omega
theorem psL_phs {p : Nat} (h1 : 1 ≤ p) (n : Nat) : (phsL p n n).map tI = (psL p n 0).map pI := by
  unfold phsL psL
  rw [List.map_map, List.map_map]
  refine List.map_congr_left fun j hj => ?_
  have hj := List.mem_range.mp hj
  have e : cAt p (n - j) (p - 1) = ((wB p (n - 1 - j) 0 : Nat) : Int) := by
    rw [show n - j = (n - 1 - j) + 1 by omega, cAt_last h1]
    have := wB_cnt (p := p) (n := n - 1 - j) (k := 0) h1 (by omega)
    rw [lvlC_at0 h1] at this
    exact Option.some.inj this
  show PyData.tuple (dI [((outAt p j : Nat) : Int), cAt p (n - j) (p - 1)]) = _
  rw [e]
  show _ = pI (((outAt p (0 + j) : Nat) : Int), ((wB p (n - 1 - j) 0 : Nat) : Int))
  rw [Nat.zero_add]
/-- the rows that are there rise; there is one -/
def UpN (Rs : List (List Rw)) : Prop := ∀ R, R ∈ Rs → ∀ x : List Int, some x ∈ R → x.Pairwise (· ≤ ·)
def HasS (Rs : List (List Rw)) : Prop := ∃ R, R ∈ Rs ∧ ∃ x : List Int, some x ∈ R
theorem nw_up {tk : List (Nat × Rw)} {x : List Int} (h : nwT tk = some x) : x.Pairwise (· ≤ ·) := by
  unfold nwT at h
  split at h
  · cases h
  · rw [← Option.some.inj h]
    exact srtI_srt _
theorem nw_has {tk : List (Nat × Rw)} {i : Nat} {x : List Int} (h : (i, some x) ∈ tk) : ∃ y, nwT tk = some y := by
  unfold nwT
  rw [if_neg]
  · exact ⟨_, rfl⟩
  · intro e
    have : x ∈ rwT tk := List.mem_filterMap.mpr ⟨(i, some x), h, rfl⟩
    rw [e] at this
    cases this
theorem mg_upN {o : Nat} {s : List (List Rw) × List Int} (h : UpN s.1) : UpN (mgS o s).1 := by
  intro R hR x hx
  obtain ⟨j, hj⟩ := List.getElem?_of_mem hR
  have hjl : j < s.1.length := by
    have := (List.getElem?_eq_some_iff.mp hj).1
    rw [(mgS_len o s).1] at this
    exact this
  have h0 : s.1[j]? = some s.1[j] := List.getElem?_eq_getElem hjl
  rw [mg_at h0] at hj
  have e := Option.some.inj hj
  by_cases c : j = o
  · rw [if_pos c] at e
    rw [← e] at hx
    rcases List.mem_append.mp hx with h1 | h1
    · exact h _ (List.mem_of_getElem? h0) x h1
    · exact nw_up (List.mem_singleton.mp h1).symm
  · rw [if_neg c] at e
    rw [← e] at hx
    exact h _ (List.mem_of_getElem? h0) x (List.mem_of_mem_tail hx)
theorem mg_has {o : Nat} {s : List (List Rw) × List Int} (ho : o < s.1.length) (h : HasS s.1) : HasS (mgS o s).1 := by
  obtain ⟨R, hR, x, hx⟩ := h
  obtain ⟨j, hj⟩ := List.getElem?_of_mem hR
  have hm := mg_at (o := o) hj
  by_cases c : j = o
  · rw [if_pos c] at hm
    exact ⟨_, List.mem_of_getElem? hm, x, List.mem_append_left _ hx⟩
  · rw [if_neg c] at hm
    cases R with
    | nil => cases hx
    | cons v R =>
      rcases List.mem_cons.mp hx with e | e
      · have h1 := tfN_has o s.1 s.1.length j v R (List.getElem?_eq_some_iff.mp hj).1 c hj
        rw [← e] at h1
        obtain ⟨y, hy⟩ := nw_has h1
        obtain ⟨Ro, hRo⟩ : ∃ Ro, s.1[o]? = some Ro := ⟨_, List.getElem?_eq_getElem ho⟩
        have hm2 := mg_at (o := o) hRo
        rw [if_pos rfl] at hm2
        exact ⟨_, List.mem_of_getElem? hm2, y, List.mem_append_right _ (by rw [hy]; exact List.mem_singleton.mpr rfl)⟩
      · exact ⟨_, List.mem_of_getElem? hm, x, e⟩
theorem pl_upN : ∀ {ps : List (Int × Int)} {Rs : List (List Rw)}, okPl Rs ps → UpN Rs → HasS Rs → UpN (plQ Rs ps).1 ∧ HasS (plQ Rs ps).1
  | [], _, _, h1, h2 => ⟨h1, h2⟩
  | p :: ps, Rs, h, h1, h2 => by
    have key : ∀ k, UpN (phZ p.1.toNat (Rs, zerI Rs.length) k).1 ∧ HasS (phZ p.1.toNat (Rs, zerI Rs.length) k).1 := by
      intro k
      induction k with
      | zero => exact ⟨h1, h2⟩
      | succ k ih =>
        refine ⟨mg_upN ih.1, mg_has ?_ ih.2⟩
        rw [(phZ_len _ _ k).1]
        have h3 := h.1.2.1
        have h4 := h.1.1
        unfold cntI at h3
        rw [List.length_map] at h3
        show p.1.toNat < Rs.length
        omega
    exact pl_upN (ps := ps) h.2 (key _).1 (key _).2
theorem one_leftN {Rs Ss : List (List Rw)} (hu : UpN Ss) (hh : HasS Ss) (hp : (allT Ss).Perm (allT Rs)) (hs : (cntI Ss).sum = 1) : Ss.flatten = [some (srtI (allT Rs))] := by
  obtain ⟨R, hR, x, hx⟩ := hh
  have hl : Ss.flatten.length = 1 := by
    have : ((Ss.flatten.length : Nat) : Int) = (cntI Ss).sum := by
      unfold cntI
      clear hu hp hs hR hx
      induction Ss with
      | nil => rfl
      | cons S Ss ih => rw [List.flatten_cons, List.length_append, List.map_cons, List.sum_cons, ← ih]; omega
    omega
  obtain ⟨r, hr⟩ : ∃ r, Ss.flatten = [r] := List.length_eq_one_iff.mp hl
  have hm : some x ∈ Ss.flatten := List.mem_flatten.mpr ⟨R, hR, hx⟩
  rw [hr] at hm
  have er := List.mem_singleton.mp hm
  subst er
  refine (one_left (Rs := Rs) (Ss := Ss) (fun R' hR' r' hr' => ?_) hp hs)
  have : r' ∈ Ss.flatten := List.mem_flatten.mpr ⟨R', hR', hr'⟩
  rw [hr] at this
  rw [List.mem_singleton.mp this]
  exact ⟨x, rfl, hu R hR x hx⟩
theorem cfR_one {p : Nat} (h2 : 1 ≤ p) {A B : List (List Rw)} (h : CfR p 0 (B ++ A)) : (cntI (A ++ [] :: B)).sum = 1 := by
  have e1 : (cntI (A ++ [] :: B)).sum = (cntI (B ++ A)).sum := by
    unfold cntI
    rw [List.map_append, List.map_append, List.map_cons, List.sum_append, List.sum_append, List.sum_cons]
    show _ + ((0 : Int) + _) = _
    omega
  have e2 : (cntI (B ++ A)).sum = sum0 (fun k => ((wB p 0 k : Nat) : Int)) p := by
    unfold cntI
    rw [sum_sum0 (fun r : List Rw => (r.length : Int)) [], h.len]
    exact sum0_congr p fun k hk => by rw [h.lens k hk]
  rw [e1, e2, wB_sum h2]
  show (firstC p).sum = 1
  unfold firstC
  rw [List.sum_cons, List.sum_replicate_int]
  try omega

theorem sums_len {D : Hp} {us : List V} {bss : List (List Bool)} (h : TbA D us bss) {i : Nat} {v : V} (hv : us[i]? = some v) : ∃ b bs, v = .ref b ∧ bss[i]? = some bs ∧ Kn D b (.tup (bs.map V.bl)) := h.get hv
theorem take_sum {cs : List Int} (h : ∀ x, x ∈ cs → 0 ≤ x) : ∀ i, (cs.take i).sum ≤ cs.sum := by
  induction cs with
  | nil => intro i; simp
  | cons c cs ih =>
    intro i
    have hc := h c List.mem_cons_self
    have h2 : ∀ x, x ∈ cs → 0 ≤ x := fun x hx => h x (List.mem_cons_of_mem _ hx)
    cases i with
    | zero =>
      rw [List.take_zero]
      have : 0 ≤ cs.sum := by
        have := ih h2 0
        rw [List.take_zero] at this
        exact this
      rw [List.sum_cons]
      show (0 : Int) ≤ _
      omega
    | succ i =>
      rw [List.take_succ_cons, List.sum_cons, List.sum_cons]
      have := ih h2 i
      omega
--@need TSN
def lensB (bss : List (List Bool)) : List Int := bss.map fun b => (b.length : Int)

theorem take_snQ {α : Type} {xs : List α} {i : Nat} {x : α} (h : xs[i]? = some x) : xs.take (i + 1) = xs.take i ++ [x] := by rw [List.take_add_one, h]; rfl
theorem Sx.drop1 {D : Hp} {x : Addr × HO} {L : Own} {H : Hp} (S : Sx D (x :: L) H) : Sx D L H := ⟨S.dH, fun q hq => S.ow q (List.mem_cons_of_mem _ hq), S.nd.sublist ((List.sublist_cons_self _ _).map _)⟩
theorem InL.app {D : Hp} {us vs : List V} {rs ss : List Rw} (h : InL D us rs) (k : InL D vs ss) : InL D (us ++ vs) (rs ++ ss) := by
  induction h with
  | nil => exact k
  | cons h1 _ ih => exact .cons h1 ih
theorem InA.app {D : Hp} {us vs : List V} {Rs Ss : List (List Rw)} (h : InA D us Rs) (k : InA D vs Ss) : InA D (us ++ vs) (Rs ++ Ss) := by
  induction h with
  | nil => exact k
  | cons k1 h1 _ ih => exact .cons k1 h1 ih
/-- rows on the real places of a reel -/
def layR : List Bool → List (List Int) → List Rw
  | [], _ => []
  | false :: bs, rs => none :: layR bs rs
  | true :: bs, rs => some (rs.headD []) :: layR bs rs.tail
theorem layR_len : ∀ (bs : List Bool) (rs : List (List Int)), (layR bs rs).length = bs.length
  | [], _ => rfl
  | false :: bs, rs => congrArg (· + 1) (layR_len bs rs)
  | true :: bs, rs => congrArg (· + 1) (layR_len bs rs.tail)
theorem layR_snoc (x : Bool) : ∀ (bs : List Bool) (rs : List (List Int)), layR (bs ++ [x]) rs = layR bs rs ++ [if x = true then some ((rs.drop (bs.count true)).headD []) else none]
  | [], rs => by cases x <;> rfl
  | false :: bs, rs => by
    show none :: layR (bs ++ [x]) rs = _
    rw [layR_snoc x bs rs, List.count_cons_of_ne (by decide)]
    rfl
  | true :: bs, rs => by
    show some (rs.headD []) :: layR (bs ++ [x]) rs.tail = _
    have e : rs.tail.drop (bs.count true) = rs.drop (bs.count true + 1) := by rw [← List.drop_one, List.drop_drop, Nat.add_comm]
    rw [layR_snoc x bs rs.tail, List.count_cons_self, e]
    rfl
def cnB (bss : List (List Bool)) : Nat := (bss.map fun b => b.count true).sum
def layA : List (List Bool) → List (List Int) → List (List Rw)
  | [], _ => []
  | b :: bss, rs => layR b rs :: layA bss (rs.drop (b.count true))
theorem cnB_snoc (bss : List (List Bool)) (b : List Bool) : cnB (bss ++ [b]) = cnB bss + b.count true := by
  unfold cnB
  rw [List.map_append, List.sum_append]
  rfl
theorem cnB_cons (bss : List (List Bool)) (b : List Bool) : cnB (b :: bss) = b.count true + cnB bss := rfl
theorem layA_snoc (b : List Bool) : ∀ (bss : List (List Bool)) (rs : List (List Int)), layA (bss ++ [b]) rs = layA bss rs ++ [layR b (rs.drop (cnB bss))]
  | [], rs => rfl
  | c :: bss, rs => by
    show layR c rs :: layA (bss ++ [b]) _ = _
    rw [layA_snoc b bss, List.drop_drop, cnB_cons]
    rfl
theorem layA_len : ∀ (bss : List (List Bool)) (rs : List (List Int)), (layA bss rs).length = bss.length
  | [], _ => rfl
  | _ :: bss, rs => congrArg (· + 1) (layA_len bss _)
theorem layA_at : ∀ (bss : List (List Bool)) (rs : List (List Int)) (k : Nat) (b : List Bool), bss[k]? = some b → ∃ ss, (layA bss rs)[k]? = some (layR b ss)
  | [], _, _, _, h => by simp at h
  | c :: bss, rs, 0, b, h => by cases h; exact ⟨rs, rfl⟩
  | c :: bss, rs, k + 1, b, h => layA_at bss _ k b h
theorem cnB_split (bss : List (List Bool)) {i : Nat} {b : List Bool} (h : bss[i]? = some b) : cnB (bss.take i) + b.count true ≤ cnB bss := by
  have := List.take_append_drop (i + 1) bss
  rw [take_snQ h] at this
  have e : cnB bss = cnB (bss.take i ++ [b]) + cnB (bss.drop (i + 1)) := by
    conv => lhs; rw [← this]
    unfold cnB
    rw [List.map_append, List.sum_append]
  rw [e, cnB_snoc]
  omega
theorem cnt_split (bs : List Bool) {i : Nat} (h : bs[i]? = some true) : (bs.take i).count true + 1 ≤ bs.count true := by
  have := List.take_append_drop (i + 1) bs
  rw [take_snQ h] at this
  conv => rhs; rw [← this]
  rw [List.count_append, List.count_append]
  show _ ≤ (bs.take i).count true + 1 + _
  omega
theorem mem_leS : ∀ {cs : List Int}, (∀ x, x ∈ cs → 0 ≤ x) → ∀ {x : Int}, x ∈ cs → x ≤ cs.sum
  | [], _, x, h => by cases h
  | c :: cs, h0, x, h => by
    rw [List.sum_cons]
    have hs : 0 ≤ cs.sum := by
      clear h
      have h1 := fun y (hy : y ∈ cs) => h0 y (List.mem_cons_of_mem _ hy)
      clear h0
      induction cs with
      | nil => exact Int.le_refl 0
      | cons a cs ih =>
        rw [List.sum_cons]
        have := h1 a List.mem_cons_self
        have := ih fun y hy => h1 y (List.mem_cons_of_mem _ hy)
        omega
    rcases List.mem_cons.mp h with e | e
    · omega
    · have := mem_leS (fun y hy => h0 y (List.mem_cons_of_mem _ hy)) e
      have := h0 c List.mem_cons_self
      omega
def TlA (D : Hp) (us : List V) (bss : List (List Bool)) : Prop := us.length = bss.length ∧ ∀ (i : Nat) (u : V), us[i]? = some u → ∃ b bs, u = .ref b ∧ bss[i]? = some bs ∧ Kn D b (.lst (bs.map V.bl))
theorem TlA.nil {D : Hp} : TlA D [] [] := ⟨rfl, fun i u h => by simp at h⟩
theorem TlA.up {D D' : Hp} {us : List V} {bss : List (List Bool)} (e : Sm D D') (h : TlA D us bss) : TlA D' us bss := ⟨h.1, fun i u h1 => by
  obtain ⟨b, bs, e1, e2, k⟩ := h.2 i u h1
  exact ⟨b, bs, e1, e2, inferInstance⟩⟩
theorem TlA.snoc {D : Hp} {us : List V} {bss : List (List Bool)} (h : TlA D us bss) {c : Addr} {bs : List Bool} (k : Kn D c (.lst (bs.map V.bl))) : TlA D (us ++ [.ref c]) (bss ++ [bs]) := ⟨by rw [List.length_append, List.length_append, h.1]; rfl, fun i u hu => by
  rcases Nat.lt_or_ge i us.length with c1 | c1
  · rw [List.getElem?_append_left c1] at hu
    obtain ⟨b, bs, e1, e2, k⟩ := h.2 i u hu
    exact ⟨b, bs, e1, by rw [List.getElem?_append_left (by rw [← h.1]; exact c1)]; exact e2, k⟩
  · rw [List.getElem?_append_right c1] at hu
    have hi : i - us.length = 0 := by
      have := (List.getElem?_eq_some_iff.mp hu).1
      rw [List.length_singleton] at this
      omega
    rw [hi] at hu
    exact ⟨c, bs, (Option.some.inj hu).symm, by rw [List.getElem?_append_right (by rw [← h.1]; exact c1), ← h.1, hi]; rfl, k⟩⟩
theorem TlA.cons {D : Hp} {us : List V} {bss : List (List Bool)} (h : TlA D us bss) {c : Addr} {bs : List Bool} (k : Kn D c (.lst (bs.map V.bl))) : TlA D (.ref c :: us) (bs :: bss) := ⟨by rw [List.length_cons, List.length_cons, h.1], fun i u hu => by
  cases i with
  | zero => exact ⟨c, bs, (Option.some.inj hu).symm, rfl, k⟩
  | succ i => exact h.2 i u hu⟩
section
variable {K : PySem.W.Frag} {D H : Hp} {L : Own} {Q : VK}
instance v_zipTZ9 {a b : Addr} {xs ys : List V} {R : It → Hp → Prop} [S : Sx D L H] [ha : Kn D a (.tup xs)] [hb : Kz D b ys] : VC (IsZ K [.ref a, .ref b] H R) (R (RZ.ItzT K a b) H) := ⟨fun h => ⟨a, b, xs, ys, rfl, .inr ⟨sqT S ha.pf, sqZ S hb, h⟩⟩⟩
instance v_anyXZ9 {a : Addr} {xs : List V} {bs : List Bool} [S : Sx D L H] [ha : Kz D a xs] [c : BsC xs bs] : VC (rAnyX K [.ref a] H Q) (Q (.bl (bs.any id)) H) := ⟨fun h => .inr ⟨a, bs, rfl, by rw [← c.pf]; exact sqZ S ha, h⟩⟩
instance v_zipMTZ9 {a b : Addr} {xs ys : List V} {R : It → Hp → Prop} [S : Sx D L H] [ha : Kn D a (.tup xs)] [hb : Kz D b ys] : VC (IsZM K [.ref a, .ref b] H R) (R (RZ.ItzT K a b) H) := ⟨fun h => .inl (VC.pf h)⟩
end

/-- a reel whose rows are owned, one by one -/
inductive RwO : List V → List Rw → List Addr → List (List Int) → Prop
  | nil : RwO [] [] [] []
  | non {vs : List V} {R : List Rw} {as : List Addr} {rs : List (List Int)} : RwO vs R as rs → RwO (.non :: vs) (none :: R) as rs
  | row {vs : List V} {R : List Rw} {as : List Addr} {rs : List (List Int)} (a : Addr) (r : List Int) : RwO vs R as rs → RwO (.ref a :: vs) (some r :: R) (a :: as) (r :: rs)
theorem RwO.app {vs : List V} {R : List Rw} {as : List Addr} {rs : List (List Int)} (h : RwO vs R as rs) {vs' : List V} {R' : List Rw} {as' : List Addr} {rs' : List (List Int)} (k : RwO vs' R' as' rs') : RwO (vs ++ vs') (R ++ R') (as ++ as') (rs ++ rs') := by
  induction h with
  | nil => exact k
  | non _ ih => exact .non ih
  | row a r _ ih => exact .row a r ih
theorem RwO.len {vs : List V} {R : List Rw} {as : List Addr} {rs : List (List Int)} (h : RwO vs R as rs) : vs.length = R.length := by
  induction h with
  | nil => rfl
  | non _ ih => rw [List.length_cons, List.length_cons, ih]
  | row a r _ ih => rw [List.length_cons, List.length_cons, ih]
theorem RwO.lens {vs : List V} {R : List Rw} {as : List Addr} {rs : List (List Int)} (h : RwO vs R as rs) : as.length = rs.length := by
  induction h with
  | nil => rfl
  | non _ ih => exact ih
  | row a r _ ih => rw [List.length_cons, List.length_cons, ih]
inductive RlO : List (List V) → List (List Rw) → List Addr → List (List Int) → Prop
  | nil : RlO [] [] [] []
  | cons {vs : List V} {R : List Rw} {as : List Addr} {rs : List (List Int)} {wss : List (List V)} {Rs : List (List Rw)} {bs : List Addr} {ss : List (List Int)} : RwO vs R as rs → RlO wss Rs bs ss → RlO (vs :: wss) (R :: Rs) (as ++ bs) (rs ++ ss)
theorem RlO.snoc {wss : List (List V)} {Rs : List (List Rw)} {bs : List Addr} {ss : List (List Int)} (h : RlO wss Rs bs ss) {vs : List V} {R : List Rw} {as : List Addr} {rs : List (List Int)} (k : RwO vs R as rs) : RlO (wss ++ [vs]) (Rs ++ [R]) (bs ++ as) (ss ++ rs) := by
  induction h with
  | nil =>
    have := RlO.cons k .nil
    rw [List.append_nil, List.append_nil] at this
    exact this
  | cons h1 _ ih =>
    rw [List.append_assoc, List.append_assoc]
    exact .cons h1 ih
theorem RlO.len {wss : List (List V)} {Rs : List (List Rw)} {bs : List Addr} {ss : List (List Int)} (h : RlO wss Rs bs ss) : wss.length = Rs.length := by
  induction h with
  | nil => rfl
  | cons _ _ ih => rw [List.length_cons, List.length_cons, ih]
theorem RlO.lens {wss : List (List V)} {Rs : List (List Rw)} {bs : List Addr} {ss : List (List Int)} (h : RlO wss Rs bs ss) : bs.length = ss.length := by
  induction h with
  | nil => rfl
  | cons h1 _ ih => rw [List.length_append, List.length_append, h1.lens, ih]
theorem ownZ_sn5 {ads : List Addr} {wss : List (List V)} (h : ads.length = wss.length) (a : Addr) (w : List V) : ownZ (ads ++ [a]) (wss ++ [w]) = ownZ ads wss ++ [(a, HO.lst w)] := by
  unfold ownZ
  rw [List.zipWith_append h]
  rfl
theorem tb_put5 {D : Hp} {us : List V} {bss : List (List Bool)} (h : TbA D us bss) {b : Addr} {bs : List Bool} (k : Kn D b (.tup (bs.map V.bl))) : TbA D (us ++ [.ref b]) (bss ++ [bs]) := h.app ⟨rfl, fun i u cs h1 h2 => by
  cases i with
  | zero => cases h1; cases h2; exact ⟨b, rfl, k⟩
  | succ i => simp at h1⟩
theorem pm_in {α : Type} (x : α) (A B L : List α) : (x :: (A ++ (B ++ L))).Perm (A ++ ((B ++ [x]) ++ L)) := by
  rw [List.append_assoc B [x] L]
  show List.Perm _ (A ++ (B ++ (x :: L)))
  exact ((List.perm_middle.append_left A).trans List.perm_middle).symm
theorem pm_mid {α : Type} (x : α) (A L : List α) : (x :: (A ++ L)).Perm ((A ++ [x]) ++ L) := by
  rw [List.append_assoc A [x] L]
  exact List.perm_middle.symm
theorem rks_get {D : Hp} {ws : List V} {rs : List (List Int)} (h : RpAll D ws (rs.map lI) ∨ RpAll D ws (rs.map tI)) {k : Nat} {r : List Int} (hr : rs[k]? = some r) : ∃ g, ws[k]? = some (.ref g) ∧ Ks D g (r.map V.int) := by
  rcases h with h | h
  · obtain ⟨v, hv, hp⟩ := h.get (i := k) (d := lI r) (by rw [List.getElem?_map, hr]; rfl)
    obtain ⟨g, rfl, kg⟩ := Rp.inv_lstI hp
    exact ⟨g, hv, ⟨.inl kg⟩⟩
  · obtain ⟨v, hv, hp⟩ := h.get (i := k) (d := tI r) (by rw [List.getElem?_map, hr]; rfl)
    obtain ⟨g, rfl, kg⟩ := Rp.inv_tupI hp
    exact ⟨g, hv, ⟨.inr kg⟩⟩

def dR : Rw → PyData
  | none => .none
  | some r => lI r
def reelD (R : List Rw) : PyData := .list (R.map dR)
def lgR (R : List Rw) : List Rw := R.map (fun r => r.map fun xs => xs ++ [0]) ++ [none]
theorem dr_inv {D : Hp} {v : V} {r : Rw} (h : Rp D v (dR r)) : (r = none ∧ v = .non) ∨ ∃ a xs, r = some xs ∧ v = .ref a ∧ Kn D a (.lst (xs.map V.int)) := by
  cases r with
  | none => cases h; exact .inl ⟨rfl, rfl⟩
  | some xs =>
    obtain ⟨a, rfl, k⟩ := Rp.inv_lstI h
    exact .inr ⟨a, xs, rfl, rfl, ⟨k⟩⟩
theorem reel_inv {D : Hp} {v : V} {R : List Rw} (h : Rp D v (reelD R)) : ∃ a us, v = .ref a ∧ Kn D a (.lst us) ∧ RpAll D us (R.map dR) := by
  obtain ⟨a, us, rfl, k, hr⟩ := Rp.inv_lst h
  exact ⟨a, us, rfl, ⟨k⟩, hr⟩

def cS (R : List Rw) : Nat := (R.filterMap id).length
theorem cS_app (A B : List Rw) : cS (A ++ B) = cS A + cS B := by
  unfold cS
  rw [List.filterMap_append, List.length_append]
theorem rw_rp {D : Hp} {vs : List V} {R : List Rw} {as : List Addr} {rs : List (List Int)} (h : RwO vs R as rs) : (∀ (i : Nat) (a : Addr) (r : List Int), as[i]? = some a → rs[i]? = some r → Kn D a (.lst (r.map V.int))) → RpAll D vs (R.map dR) := by
  induction h with
  | nil => intro _; exact .nil
  | non _ ih => intro k; exact .cons .non (ih k)
  | row a r _ ih => intro k; exact .cons (.lstI (k 0 a r rfl rfl).pf) (ih fun i b s h1 h2 => k (i + 1) b s h1 h2)
theorem rl_rp {D : Hp} {wss : List (List V)} {Rs : List (List Rw)} {as : List Addr} {rs : List (List Int)} (h : RlO wss Rs as rs) : (∀ (i : Nat) (a : Addr) (r : List Int), as[i]? = some a → rs[i]? = some r → Kn D a (.lst (r.map V.int))) → ∀ (ads : List Addr), ads.length = wss.length → (∀ (i : Nat) (a : Addr) (ws : List V), ads[i]? = some a → wss[i]? = some ws → Kn D a (.lst ws)) → RpAll D (ads.map V.ref) (Rs.map reelD) := by
  induction h with
  | nil =>
    intro _ ads hl _
    cases ads with
    | nil => exact .nil
    | cons a ads => simp at hl
  | cons h1 h2 ih =>
    rename_i vs R as1 rs1 wss Rs bs ss
    intro k ads hl hk
    have e1 := h1.lens
    cases ads with
    | nil => simp at hl
    | cons a ads =>
      refine .cons (.lst (hk 0 a vs rfl rfl).pf (rw_rp h1 fun i b s g1 g2 => ?_)) (ih (fun i b s g1 g2 => ?_) ads (by simpa using hl) fun i b ws g1 g2 => hk (i + 1) b ws g1 g2)
      · exact k i b s (by rw [List.getElem?_append_left (List.getElem?_eq_some_iff.mp g1).1]; exact g1) (by rw [List.getElem?_append_left (List.getElem?_eq_some_iff.mp g2).1]; exact g2)
      · exact k (as1.length + i) b s (by rw [List.getElem?_append_right (Nat.le_add_right _ _), Nat.add_sub_cancel_left]; exact g1) (by rw [e1, List.getElem?_append_right (Nat.le_add_right _ _), Nat.add_sub_cancel_left]; exact g2)
theorem pm_out {α : Type} (x : α) (A B L : List α) : (x :: (A ++ (B ++ L))).Perm (A ++ (B ++ (x :: L))) := ((List.perm_middle.append_left A).trans List.perm_middle).symm
theorem dp_own {D H : Hp} {L : Own} {K : PySem.W.Frag} {fo : Addr} {ads rads : List Addr} {wss : List (List V)} {Rs : List (List Rw)} {rs : List (List Int)} (S : Sx D ((fo, .lst (ads.map V.ref)) :: (ownZ ads wss ++ (ownZ rads (rs.map fun r => r.map V.int) ++ L))) H) (hl : ads.length = wss.length) (h : RlO wss Rs rads rs) : Dp K H (.ref fo) (.list (Rs.map reelD)) := by
  obtain ⟨D1, e1, S1, k1, _, _⟩ := Sx.fixZ2 ads wss D hl (Sx.perm S (pm_out _ _ _ _))
  obtain ⟨D2, e2, S2, k2, _, _⟩ := Sx.fixZ2 rads _ D1 (by rw [List.length_map]; exact h.lens) S1
  obtain ⟨D3, e3, k3, S3⟩ := Sx.fix1 (a := fo) (S := S2)
  refine Rp.dp ((Rp.lst k3.pf (rl_rp h (fun i a r h1 h2 => ?_) ads hl fun i a ws h1 h2 => ?_)).up S3.dH)
  · exact ⟨e3.e _ _ (k2 i a (r.map V.int) h1 (by rw [List.getElem?_map, h2]; rfl)).pf⟩
  · exact ⟨e3.e _ _ (e2.e _ _ (k1 i a ws h1 h2).pf)⟩
theorem rw_at {vs : List V} {R : List Rw} {as : List Addr} {rs : List (List Int)} (h : RwO vs R as rs) : ∀ (j : Nat) (v : V), vs[j]? = some v → (v = .non ∧ R[j]? = some none) ∨ ∃ a r, v = .ref a ∧ R[j]? = some (some r) ∧ as[cS (R.take j)]? = some a ∧ rs[cS (R.take j)]? = some r := by
  induction h with
  | nil => intro j v h; simp at h
  | non _ ih =>
    intro j v hv
    cases j with
    | zero => cases hv; exact .inl ⟨rfl, rfl⟩
    | succ j => exact ih j v hv
  | row a r _ ih =>
    intro j v hv
    cases j with
    | zero => cases hv; exact .inr ⟨a, r, rfl, rfl, rfl, rfl⟩
    | succ j => exact ih j v hv
theorem RwO.cnt {vs : List V} {R : List Rw} {as : List Addr} {rs : List (List Int)} (h : RwO vs R as rs) : cS R = as.length := by
  induction h with
  | nil => rfl
  | non _ ih => exact ih
  | row a r _ ih => exact congrArg (· + 1) ih
theorem RlO.cnt {wss : List (List V)} {Rs : List (List Rw)} {as : List Addr} {rs : List (List Int)} (h : RlO wss Rs as rs) : cS Rs.flatten = as.length := by
  induction h with
  | nil => rfl
  | cons h1 _ ih => rw [List.flatten_cons, cS_app, List.length_append, h1.cnt, ih]
theorem rw_rs {vs : List V} {R : List Rw} {as : List Addr} {rs : List (List Int)} (h : RwO vs R as rs) : rs = R.filterMap id := by
  induction h with
  | nil => rfl
  | non _ ih => exact ih
  | row a r _ ih => exact congrArg (r :: ·) ih
theorem rl_rs {wss : List (List V)} {Rs : List (List Rw)} {as : List Addr} {rs : List (List Int)} (h : RlO wss Rs as rs) : rs = Rs.flatten.filterMap id := by
  induction h with
  | nil => rfl
  | cons h1 _ ih => rw [List.flatten_cons, List.filterMap_append, ← ih, ← rw_rs h1]
theorem rl_at {wss : List (List V)} {Rs : List (List Rw)} {as : List Addr} {rs : List (List Int)} (h : RlO wss Rs as rs) : ∀ (i : Nat) (ws : List V), wss[i]? = some ws → ∃ R as' rs', Rs[i]? = some R ∧ RwO ws R as' rs' ∧ ∀ (k : Nat) (a : Addr) (r : List Int), as'[k]? = some a → rs'[k]? = some r → as[cS (Rs.take i).flatten + k]? = some a ∧ rs[cS (Rs.take i).flatten + k]? = some r := by
  induction h with
  | nil => intro i ws h; simp at h
  | cons h1 h2 ih =>
    rename_i vs R as1 rs1 wss Rs bs ss
    intro i ws hi
    cases i with
    | zero =>
      cases hi
      refine ⟨R, as1, rs1, rfl, h1, fun k a r g1 g2 => ?_⟩
      rw [List.take_zero]
      show (as1 ++ bs)[0 + k]? = _ ∧ (rs1 ++ ss)[0 + k]? = _
      rw [Nat.zero_add]
      exact ⟨by rw [List.getElem?_append_left (List.getElem?_eq_some_iff.mp g1).1]; exact g1, by rw [List.getElem?_append_left (List.getElem?_eq_some_iff.mp g2).1]; exact g2⟩
    | succ i =>
      obtain ⟨R2, as2, rs2, g1, g2, g3⟩ := ih i ws hi
      refine ⟨R2, as2, rs2, g1, g2, fun k a r g4 g5 => ?_⟩
      obtain ⟨g6, g7⟩ := g3 k a r g4 g5
      rw [List.take_succ_cons, List.flatten_cons, cS_app, h1.cnt, Nat.add_assoc]
      exact ⟨by rw [List.getElem?_append_right (Nat.le_add_right _ _), Nat.add_sub_cancel_left]; exact g6, by rw [h1.lens, List.getElem?_append_right (Nat.le_add_right _ _), Nat.add_sub_cancel_left]; exact g7⟩
/-- the first c things changed -/
def bmpG {α : Type} (g : α → α) (c : Nat) (xs : List α) : List α := (xs.take c).map g ++ xs.drop c
theorem bmp_0 {α : Type} (g : α → α) (xs : List α) : bmpG g 0 xs = xs := rfl
theorem bmp_all {α : Type} (g : α → α) (xs : List α) : bmpG g xs.length xs = xs.map g := by
  unfold bmpG
  rw [List.take_length, List.drop_length, List.append_nil]
theorem bmp_len {α : Type} (g : α → α) (c : Nat) (xs : List α) : (bmpG g c xs).length = xs.length := by
  unfold bmpG
  rw [List.length_append, List.length_map, List.length_take, List.length_drop]
  omega
theorem bmp_get {α : Type} (g : α → α) {c : Nat} {xs : List α} {x : α} (h : xs[c]? = some x) : (bmpG g c xs)[c]? = some x := by
  have hl := (List.getElem?_eq_some_iff.mp h).1
  unfold bmpG
  rw [List.getElem?_append_right (by rw [List.length_map, List.length_take]; omega), List.length_map, List.length_take, List.getElem?_drop, show c + (c - min c xs.length) = c by omega]
  exact h
theorem bmp_set {α : Type} (g : α → α) {c : Nat} {xs : List α} {x : α} (h : xs[c]? = some x) : (bmpG g c xs).set c (g x) = bmpG g (c + 1) xs := by
  have hl := (List.getElem?_eq_some_iff.mp h).1
  unfold bmpG
  rw [List.set_append_right _ _ (by rw [List.length_map, List.length_take]; omega), List.length_map, List.length_take, show c - min c xs.length = 0 by omega, List.take_add_one, h, List.map_append, List.append_assoc, List.drop_eq_getElem_cons hl]
  show _ ++ (g x :: xs.drop (c + 1)) = _ ++ ([g x] ++ xs.drop (c + 1))
  rfl
theorem RwO.lg {vs : List V} {R : List Rw} {as : List Addr} {rs : List (List Int)} (h : RwO vs R as rs) : RwO vs (R.map fun r => r.map fun xs => xs ++ [0]) as (rs.map fun r => r ++ [0]) := by
  induction h with
  | nil => exact .nil
  | non _ ih => exact .non ih
  | row a r _ ih => exact .row a (r ++ [0]) ih
theorem RlO.lg {wss : List (List V)} {Rs : List (List Rw)} {as : List Addr} {rs : List (List Int)} (h : RlO wss Rs as rs) : RlO (wss.map fun w => w ++ [V.non]) (Rs.map lgR) as (rs.map fun r => r ++ [0]) := by
  induction h with
  | nil => exact .nil
  | cons h1 _ ih =>
    rw [List.map_append, List.map_cons, List.map_cons]
    have := h1.lg.app (RwO.non .nil)
    rw [List.append_nil, List.append_nil] at this
    exact .cons this ih
theorem layR_of : ∀ (R : List Rw) (rest : List (List Int)), layR (R.map Option.isSome) (R.filterMap id ++ rest) = R
  | [], _ => rfl
  | none :: R, rest => congrArg (none :: ·) (layR_of R rest)
  | some r :: R, rest => by
    show some r :: layR (R.map Option.isSome) (R.filterMap id ++ rest) = _
    rw [layR_of R rest]
theorem cS_cnt : ∀ R : List Rw, (R.map Option.isSome).count true = (R.filterMap id).length
  | [] => rfl
  | none :: R => by rw [List.map_cons, List.count_cons_of_ne (by decide), cS_cnt R]; rfl
  | some r :: R => by rw [List.map_cons]; show (true :: _).count true = _; rw [List.count_cons_self, cS_cnt R]; rfl
theorem layA_of : ∀ Rs : List (List Rw), layA (Rs.map fun R => R.map Option.isSome) (Rs.flatten.filterMap id) = Rs
  | [] => rfl
  | R :: Rs => by
    rw [List.map_cons, List.flatten_cons, List.filterMap_append]
    show layR _ _ :: layA _ (List.drop ((R.map Option.isSome).count true) _) = _
    rw [layR_of, cS_cnt, List.drop_left, layA_of Rs]
theorem cnB_of : ∀ Rs : List (List Rw), cnB (Rs.map fun R => R.map Option.isSome) = (Rs.flatten.filterMap id).length
  | [] => rfl
  | R :: Rs => by
    rw [List.map_cons, cnB_cons, cnB_of Rs, List.flatten_cons, List.filterMap_append, List.length_append, cS_cnt]
theorem sh_reels {n : Nat} (Rs : List (List Rw)) : Sh (n + 3) (.list (Rs.map reelD)) := Sh.list fun d hd => by
  obtain ⟨R, _, rfl⟩ := List.mem_map.mp hd
  refine Sh.list fun d hd => ?_
  obtain ⟨r, _, rfl⟩ := List.mem_map.mp hd
  cases r with
  | none => exact Sh.non _
  | some xs => exact Sh.list Sh.ints

structure FqR (D0 D : Hp) (wss : List (List V)) (rus : List V) : Prop where
  nd : (adR rus).Nodup
  fr : ∀ a, a ∈ adR rus → D0 a = none ∧ ∃ o, D a = some o
  dj : ∀ a, a ∈ adS wss → a ∉ adR rus
open Classical in
noncomputable def exD (D0 D : Hp) (rus : List V) : Hp := fun x => if x ∈ adR rus then D x else D0 x
theorem FqR.up {D0 D D' : Hp} {wss : List (List V)} {rus : List V} (h : FqR D0 D wss rus) (e : Sm D D') : FqR D0 D' wss rus := ⟨h.nd, fun a ha => by
  obtain ⟨h1, o, h2⟩ := h.fr a ha
  exact ⟨h1, o, e.e _ _ h2⟩, h.dj⟩
theorem FqR.ex {D0 D : Hp} {wss : List (List V)} {rus : List V} (h : FqR D0 D wss rus) (hF : Fq D0 D wss) : Fq (exD D0 D rus) D wss := ⟨hF.nd, fun a ha => ⟨by unfold exD; rw [if_neg (h.dj a ha)]; exact (hF.fr a ha).1, (hF.fr a ha).2⟩⟩
theorem exD_sm {D0 D : Hp} {rus : List V} (h : Sm D0 D) : Sm (exD D0 D rus) D := ⟨fun a o e => by
  unfold exD at e
  by_cases c : a ∈ adR rus
  · rw [if_pos c] at e
    exact e
  · rw [if_neg c] at e
    exact h.e a o e⟩
theorem FqR.back {D0 D D' : Hp} {wss yss : List (List V)} {rus : List V} (h : FqR D0 D wss rus) (hF : Fq (exD D0 D rus) D' yss) : Fq D0 D' yss ∧ ∀ a, a ∈ adS yss → a ∉ adR rus := by
  have key : ∀ a, a ∈ adS yss → a ∉ adR rus := fun a ha hr => by
    have h1 := (hF.fr a ha).1
    unfold exD at h1
    rw [if_pos hr] at h1
    obtain ⟨_, o, h2⟩ := h.fr a hr
    rw [h2] at h1
    cases h1
  refine ⟨⟨hF.nd, fun a ha => ⟨?_, (hF.fr a ha).2⟩⟩, key⟩
  have h1 := (hF.fr a ha).1
  unfold exD at h1
  rw [if_neg (key a ha)] at h1
  exact h1
theorem FqR.put {D0 D D7 D8 : Hp} {wss yss : List (List V)} {rus : List V} (h : FqR D0 D wss rus) (e : Sm D D7) (e0 : Sm D0 D7) (e8 : Sm D7 D8) (hF : Fq D0 D7 yss) (hd : ∀ a, a ∈ adS yss → a ∉ adR rus) {nb : Addr} (hn : D7 nb = none) (hk : ∃ o, D8 nb = some o) : FqR D0 D8 yss (rus ++ [.ref nb]) := by
  have e1 : adR (rus ++ [V.ref nb]) = adR rus ++ [nb] := by rw [adR_app]; simp [adR, adV]
  refine ⟨?_, fun a ha => ?_, fun a ha hr => ?_⟩
  · rw [e1]
    refine List.nodup_append.mpr ⟨h.nd, List.pairwise_singleton _ _, fun x hx y hy exy => ?_⟩
    rw [List.mem_singleton.mp hy] at exy
    obtain ⟨_, o, h2⟩ := h.fr x hx
    have h3 := e.e _ _ h2
    rw [exy, hn] at h3
    cases h3
  · rw [e1] at ha
    rcases List.mem_append.mp ha with h1 | h1
    · obtain ⟨h2, o, h3⟩ := h.fr a h1
      exact ⟨h2, o, e8.e _ _ (e.e _ _ h3)⟩
    · rw [List.mem_singleton.mp h1]
      exact ⟨e0.e.free hn, hk⟩
  · rw [e1] at hr
    rcases List.mem_append.mp hr with h1 | h1
    · exact hd a ha h1
    · rw [List.mem_singleton.mp h1] at ha
      obtain ⟨_, o, h2⟩ := hF.fr nb ha
      rw [hn] at h2
      cases h2

theorem reelQ_D : reelQ = reelD := by
  funext R
  unfold reelQ reelD
  congr 1
def rwTD : Rw → PyData
  | none => .none
  | some r => .tuple (dI r)
def reelT (R : List Rw) : PyData := .tuple (R.map rwTD)
theorem inL_of {D : Hp} : ∀ {us : List V} {R : List Rw}, RpAll D us (R.map rwD) → InL D us R
  | [], [], _ => .nil
  | u :: us, r :: R, h => by
    cases h with
    | cons h1 h2 =>
      refine .cons ?_ (inL_of h2)
      cases r with
      | none => cases h1; rfl
      | some ns =>
        obtain ⟨a, rfl, k⟩ := Rp.inv_lstI h1
        exact ⟨a, rfl, ⟨.inl k⟩⟩
  | [], _ :: _, h => nomatch h
  | _ :: _, [], h => nomatch h
theorem inL_ofT {D : Hp} : ∀ {us : List V} {R : List Rw}, RpAll D us (R.map rwTD) → InL D us R
  | [], [], _ => .nil
  | u :: us, r :: R, h => by
    cases h with
    | cons h1 h2 =>
      refine .cons ?_ (inL_ofT h2)
      cases r with
      | none => cases h1; rfl
      | some ns =>
        obtain ⟨a, rfl, k⟩ := Rp.inv_tupI h1
        exact ⟨a, rfl, ⟨.inr k⟩⟩
  | [], _ :: _, h => nomatch h
  | _ :: _, [], h => nomatch h
theorem inA_of {D : Hp} : ∀ {us : List V} {Rs : List (List Rw)}, RpAll D us (Rs.map reelQ) → InA D us Rs
  | [], [], _ => .nil
  | u :: us, R :: Rs, h => by
    cases h with
    | cons h1 h2 =>
      obtain ⟨a, ws, rfl, k, hr⟩ := Rp.inv_lst h1
      exact .cons ⟨.inl k⟩ (inL_of hr) (inA_of h2)
  | [], _ :: _, h => nomatch h
  | _ :: _, [], h => nomatch h
theorem inA_ofT {D : Hp} : ∀ {us : List V} {Rs : List (List Rw)}, RpAll D us (Rs.map reelT) → InA D us Rs
  | [], [], _ => .nil
  | u :: us, R :: Rs, h => by
    cases h with
    | cons h1 h2 =>
      obtain ⟨a, ws, rfl, k, hr⟩ := Rp.inv_tup h1
      exact .cons ⟨.inr k⟩ (inL_ofT hr) (inA_ofT h2)
  | [], _ :: _, h => nomatch h
  | _ :: _, [], h => nomatch h
theorem rw_inv8 {D : Hp} {v : V} {r : Rw} (h : Rp D v (rwD r)) : (r = none ∧ v = .non) ∨ ∃ a xs, r = some xs ∧ v = .ref a ∧ Kn D a (.lst (xs.map V.int)) := by
  cases r with
  | none => cases h; exact .inl ⟨rfl, rfl⟩
  | some xs =>
    obtain ⟨a, rfl, k⟩ := Rp.inv_lstI h
    exact .inr ⟨a, xs, rfl, rfl, ⟨k⟩⟩

def sp__law_all_lists (K : PySem.W.Frag) : Sp := fun vs H Q _ => ∃ (D : Hp) (L : Own) (t th rb : Addr) (ads : List Addr) (wss : List (List V)) (rus : List V) (Rs : List (List Rw)) (zs : List (List Int)), vs = [.ref t] ∧ Sx D ((rb, .lst rus) :: (ownZ ads wss ++ L)) H ∧ Kn D t (.tup [.ref th, .ref rb]) ∧ Kn D th (.lst (ads.map V.ref)) ∧ ads.length = wss.length ∧ ads.length ≤ 1000 ∧ RsA D wss Rs ∧ RpAll D rus (zs.map lI) ∧ zs.length ≤ 1000 ∧ (∀ z, z ∈ zs → z.length ≤ 1000) ∧ (∀ w, w ∈ wss → w.length ≤ 4000) ∧
  ∀ D' H', Sx D' ((rb, .lst rus) :: (ownZ ads wss ++ L)) H' → Sm D D' → Q (.bl true) H'
theorem ok__law_all_lists {fA : Addr} {fd : FuncData} (F : Fun K "_law_all_lists" "_law_all_lists" st__law_all_lists fA fd) (b_all : mg "all" = none) (b_bool : mg "bool" = none) (b_int : mg "int" = none) (b_isinstance : mg "isinstance" = none) (b_list : mg "list" = none) : FnOk P w K mg base CX0 1 fA fd ["found"] (sp__law_all_lists K) := by
  refine F.ok sc__law_all_lists (fun vs H Q E h => ?_) (fun cdv A outer s H vs Q E hr h => ?_)
  · obtain ⟨D, L, t, th, rb, ads, wss, rus, Rs, zs, rfl, S, kt, kth, hal, hadl, hR, hU, hzl, hz4, hw4, q⟩ := h
    rfl
  · obtain ⟨D, L, t, th, rb, ads, wss, rus, Rs, zs, rfl, S, kt, kth, hal, hadl, hR, hU, hzl, hz4, hw4, q⟩ := h
    have hu : (A.deeper (envOfC "_law_all_lists" (defScope st__law_all_lists) s.heap.objs.size fA cdv)).units + 64 < cLine := by have := hr.un; omega
    refine ⟨_, (pss_cons (ps_asg (pv 0) (pg_tupK K 2 rfl (pgs_cons (pg_name (i := 1) sc__law_all_lists.nd rfl (Or.inl rfl)) (pgs_cons (pg_name (i := 2) sc__law_all_lists.nd rfl (Or.inl rfl)) pgs_nil))))
      (pss_cons (ps_for PassesOwn.never rfl (pi_seqK K (pe_op (r := rAddX K) opAdd (pe_op (r := rAddX K) opAdd (pe_callTy (r := rLstOf K) call_lstN (by rfl) b_list bb_list (pa_cons (pv 1) pa_nil)) (pe_callTy (r := rLstOf K) call_lstN (by rfl) b_list bb_list (pa_cons (pv 2) pa_nil))) (pe_lst (pa_cons (pv 1) (pa_cons (pv 2) pa_nil))))) (pg_name (i := 3) sc__law_all_lists.nd rfl (Or.inl rfl))
      (pss_one (ps_if (pt_not (pt_val (pe_callB (r := rIsiX K) call_isiX (by rfl) b_isinstance bb_isinstance (pa_cons (pv 3) (pa_cons (pe_bltn (v := .ty "list") (u := .type "list") (by rfl) b_list bb_list rfl) pa_nil))))) (pss_one (ps_ret pe_bl)) pss_nil)))
      (pss_cons (ps_for PassesOwn.never rfl (pi_seqK K (pv 1)) (pg_name (i := 4) sc__law_all_lists.nd rfl (Or.inl rfl))
      (pss_one (ps_if (pt_not (pt_val (pe_callB (r := rAll K) (cr_all rfl) (by rfl) b_all bb_all (pa_cons (pe_lc (own := [("row", 5)]) (tt := tYes) rfl sc__law_all_lists.nd (pi_seqK K (pv 4)) (blkOk_by (N := ["found", "reels", "read", "part", "reel", "row", "sums", "one"]) (sc := defScope st__law_all_lists) (by decide +kernel)) (fun _ _ _ _ _ => (pg_name (i := 5) sc__law_all_lists.nd rfl (Or.inl rfl))) (fun _ _ _ _ _ => pts_nil) (fun _ _ _ _ _ => (pe_or (pe_cmpR op_isN1 (pv 5) pe_non (nomark _)) (pe_one (pe_callB (r := rIsiX K) call_isiX (by rfl) b_isinstance bb_isinstance (pa_cons (pv 5) (pa_cons (pe_bltn (v := .ty "list") (u := .type "list") (by rfl) b_list bb_list rfl) pa_nil))))))) pa_nil)))) (pss_one (ps_ret pe_bl)) pss_nil)))
      (pss_cons (ps_for PassesOwn.never rfl (pi_seqK K (pv 2)) (pg_name (i := 6) sc__law_all_lists.nd rfl (Or.inl rfl))
      (pss_one (ps_if (pt_not (pt_val (pe_callB (r := rAll K) (cr_all rfl) (by rfl) b_all bb_all (pa_cons (pe_lc (own := [("one", 7)]) (tt := tYes) rfl sc__law_all_lists.nd (pi_seqK K (pv 6)) (blkOk_by (N := ["found", "reels", "read", "part", "reel", "row", "sums", "one"]) (sc := defScope st__law_all_lists) (by decide +kernel)) (fun _ _ _ _ _ => (pg_name (i := 7) sc__law_all_lists.nd rfl (Or.inl rfl))) (fun _ _ _ _ _ => pts_nil) (fun _ _ _ _ _ => (pe_and (pe_callB (r := rIsiX K) call_isiX (by rfl) b_isinstance bb_isinstance (pa_cons (pv 7) (pa_cons (pe_bltn (v := .ty "int") (u := .type "int") (by rfl) b_int bb_int rfl) pa_nil))) (pe_one (pe_notK K (pe_callB (r := rIsiX K) call_isiX (by rfl) b_isinstance bb_isinstance (pa_cons (pv 7) (pa_cons (pe_bltn (v := .ty "bool") (u := .type "bool") (by rfl) b_bool bb_bool rfl) pa_nil)))))))) pa_nil)))) (pss_one (ps_ret pe_bl)) pss_nil)))
      (pss_one (ps_ret pe_bl)))))), ?_⟩
    refine st_start (σ' := [some _, none, none, none, none, none, none, none]) rfl (fun bk ct => ?_)
    have hrul : rus.length = zs.length := by have := hU.length; rw [List.length_map] at this; exact this
    have hwl0 := hR.len
    wtm_at "vc"
    rename_i g1 H1 S1 g2 H2 S2 g3 H3 S3 g4 H4 S4 lb H5 S5
    have S6 : Sx D ((lb, .lst (ads.map V.ref ++ rus ++ [V.ref th, V.ref rb])) :: (rb, .lst rus) :: (ownZ ads wss ++ L)) H5 := Sx.gc (S := S5)
    clear S1 S2 S3 S4 S5
    refine for_go (walk_list (xs := ads.map V.ref ++ rus ++ [V.ref th, V.ref rb])) (fun i σ H => ∃ (w3 : Option V), σ = [some (.ref t), some (.ref th), some (.ref rb), w3, none, none, none, none] ∧ Sx D ((lb, .lst (ads.map V.ref ++ rus ++ [V.ref th, V.ref rb])) :: (rb, .lst rus) :: (ownZ ads wss ++ L)) H)
      ⟨_, rfl, S6⟩ (fun i σ H hi ⟨w3, es, S⟩ => Rds.sq S rs0) (fun i v σ H6 H7 hi ⟨w3, es, S7⟩ hy nx bk hN => ?_) (fun σ H6 ⟨w3, es, S7⟩ => ?_)
    · obtain ⟨rfl, hv⟩ := hy
      subst es
      obtain ⟨a, o, rfl, hao⟩ : ∃ a o, v = .ref a ∧ H7 a = some (.lst o) := by
        rcases List.mem_append.mp (List.mem_of_getElem? hv) with h | h
        · rcases List.mem_append.mp h with h | h
          · obtain ⟨ad, had, rfl⟩ := List.mem_map.mp h
            obtain ⟨j, hj⟩ := List.getElem?_of_mem had
            obtain ⟨ws, hws⟩ : ∃ ws, wss[j]? = some ws := ⟨_, List.getElem?_eq_getElem (by have := (List.getElem?_eq_some_iff.mp hj).1; omega)⟩
            exact ⟨ad, ws, rfl, (S7.ow (ad, HO.lst ws) (List.mem_cons_of_mem _ (List.mem_cons_of_mem _ (List.mem_append_left _ (List.mem_of_getElem? (ownZ_get hj hws)))))).1⟩
          · obtain ⟨j, hj⟩ := List.getElem?_of_mem h
            obtain ⟨g, z, rfl, hz, kg⟩ := ra_getL hU hj
            exact ⟨g, _, rfl, S7.dH _ _ kg.pf⟩
        · rcases List.mem_cons.mp h with h | h
          · exact ⟨th, _, h, S7.dH _ _ kth.pf⟩
          · exact ⟨rb, _, List.mem_singleton.mp h, (S7.ow (rb, HO.lst rus) (List.mem_cons_of_mem _ List.mem_cons_self)).1⟩
      have hTy : TyC K H7 (.ref a) "list" := ⟨.base (.lst hao)⟩
      wtm_at "vc"
      exact hN _ _ ⟨_, rfl, S7⟩
    subst es
    have S8 : Sx D ((rb, .lst rus) :: (ownZ ads wss ++ L)) H6 := Sx.gc (S := S7)
    clear S6 S7
    wtm_at "vc"
    refine for_go (walk_list (xs := ads.map V.ref)) (fun i σ H => ∃ (w4 w5 : Option V), σ = [some (.ref t), some (.ref th), some (.ref rb), w3, w4, w5, none, none] ∧ Sx D ((rb, .lst rus) :: (ownZ ads wss ++ L)) H)
      ⟨_, _, rfl, S8⟩ (fun i σ H hi ⟨w4, w5, es, S⟩ => Rds.sq S (rsD kth.pf)) (fun i v σ H7 H8 hi ⟨w4, w5, es, S9⟩ hy nx bk hN => ?_) (fun σ H7 ⟨w4, w5, es, S9⟩ => ?_)
    · obtain ⟨rfl, hv⟩ := hy
      subst es
      rw [List.getElem?_map] at hv
      obtain ⟨ad, had, rfl⟩ := Option.map_eq_some_iff.mp hv
      have hkl := (List.getElem?_eq_some_iff.mp had).1
      obtain ⟨ws, hws⟩ : ∃ ws, wss[i]? = some ws := ⟨_, List.getElem?_eq_getElem (by omega)⟩
      obtain ⟨R, hRi, hRR⟩ := hR.get hws
      have hwsl := hw4 ws (List.mem_of_getElem? hws)
      have hSl : Sl K D ((rb, .lst rus) :: (ownZ ads wss ++ L)) ad ws := sl_own8 (A := [(rb, HO.lst rus)]) had hws
      clear S8
      wtm_at "vc"
      refine lc_vals (S := S9) (walk_list (xs := ws)) (by omega) ((List.replicate ws.length true).map V.bl) (by rw [List.length_map, List.length_replicate]) (fun p acc H' S' => Rds.sq S' (sl_own8 (K := K) (A := [(p, HO.lst acc), (rb, HO.lst rus)]) had hws).pf) (fun k v q2 acc H9 H10 hk S10 hy Ad hA => ?_) (fun lc H9 S10 => ?_)
      · obtain ⟨rfl, hv⟩ := hy
        obtain ⟨d, hd, hp⟩ := hRR.getV hv
        rw [List.getElem?_map] at hd
        obtain ⟨r, hr, rfl⟩ := Option.map_eq_some_iff.mp hd
        have hfin : ((List.replicate ws.length true).map V.bl)[k]? = some (.bl true) := by rw [List.getElem?_map, List.getElem?_replicate, if_pos hk]; rfl
        rcases rw_inv8 hp with ⟨rfl, rfl⟩ | ⟨a, xs, rfl, rfl, ka⟩
        · wtm_at "vc"
          exact hA _ _ S10 hfin
        · wtm_at "vc"
          exact hA _ _ S10 hfin
      have hall : (List.replicate ws.length true).all id = true := by simp
      wtm_at "vc"
      rw [hall]
      wtm_at "vc"
      exact hN _ _ ⟨_, _, rfl, Sx.gc (S := S10)⟩
    subst es
    clear S8
    wtm_at "vc"
    refine for_go (walk_list (xs := rus)) (fun i σ H => ∃ (w6 w7 : Option V), σ = [some (.ref t), some (.ref th), some (.ref rb), w3, w4, w5, w6, w7] ∧ Sx D ((rb, .lst rus) :: (ownZ ads wss ++ L)) H)
      ⟨_, _, rfl, S9⟩ (fun i σ H hi ⟨w6, w7, es, S⟩ => Rds.sq S rs0) (fun i v σ H8 H9 hi ⟨w6, w7, es, S10⟩ hy nx bk hN => ?_) (fun σ H8 ⟨w6, w7, es, S10⟩ => ?_)
    · obtain ⟨rfl, hv⟩ := hy
      subst es
      obtain ⟨g, z, rfl, hz, kg⟩ := ra_getL hU hv
      have hzl4 := hz4 z (List.mem_of_getElem? hz)
      have hzml : (z.map V.int).length = z.length := List.length_map _
      clear S9
      wtm_at "vc"
      refine lc_vals (S := S10) (walk_list (xs := z.map V.int)) (by omega) ((List.replicate z.length true).map V.bl) (by rw [List.length_map, List.length_map, List.length_replicate]) (fun p acc H' S' => Rds.sq S' (rsD kg.pf)) (fun k v q2 acc H11 H12 hk S11 hy Ad hA => ?_) (fun lc H11 S11 => ?_)
      · obtain ⟨rfl, hv⟩ := hy
        obtain ⟨n, hn, rfl⟩ := getI hv
        wtm_at "vc"
        exact hA _ _ S11 (by rw [List.getElem?_map, List.getElem?_replicate, if_pos (by rw [← hzml]; exact hk)]; rfl)
      have hall : (List.replicate z.length true).all id = true := by simp
      wtm_at "vc"
      rw [hall]
      wtm_at "vc"
      exact hN _ _ ⟨_, _, rfl, Sx.gc (S := S11)⟩
    subst es
    wtm_at "vc"
    exact q D _ S10 Sm.rfl'
abbrev st__law_begun : Stmt := topS 13
theorem sc__law_begun : FnScope ["cell", "rest"] ["cell"] (defScope st__law_begun) := ⟨rfl, rfl, rfl, by decide +kernel, rfl, by decide +kernel, by decide +kernel⟩
def sp__law_begun (K : PySem.W.Frag) : Sp := fun vs H Q _ => ∃ (D : Hp) (L : Own) (c : Int), vs = [.int c] ∧ Sx D L H ∧ ∀ b x z H', 0 ≤ x → 0 ≤ z → z < 2147483647 → Sx D ((b, .lst [.int x, .int 0, .int z]) :: L) H' → Q (.ref b) H'
theorem ok__law_begun {fA : Addr} {fd : FuncData} (F : Fun K "_law_begun" "_law_begun" st__law_begun fA fd) (b_abs : mg "abs" = none) : FnOk P w K mg base CX0 1 fA fd ["cell"] (sp__law_begun K) := by
  refine F.ok sc__law_begun (fun vs H Q E h => ?_) (fun cdv A outer s H vs Q E hr h => ?_)
  · obtain ⟨D, L, c, rfl, S, q⟩ := h
    rfl
  · obtain ⟨D, L, c, rfl, S, q⟩ := h
    have hu : (A.deeper (envOfC "_law_begun" (defScope st__law_begun) s.heap.objs.size fA cdv)).units + 64 < cLine := by have := hr.un; omega
    refine ⟨_, (pss_cons (ps_set (i := 1) sc__law_begun.nd rfl (Or.inl rfl) pe_int)
      (Evl.pss_cut (ps_if (pt_cmpR op_ge (pe_callB call_absN (by rfl) b_abs bb_abs (pa_cons (pv 0) pa_nil)) (pe_op op_pow pe_int pe_int) (nomark _)) (pss_one (ps_set (i := 1) sc__law_begun.nd rfl (Or.inl rfl) (pe_op (r := rAddX K) opAdd (pe_op op_sub (pe_callB call_absN (by rfl) b_abs bb_abs (pa_cons (pv 0) pa_nil)) (pe_op op_pow pe_int pe_int)) pe_int))) pss_nil)
      (pss_one (ps_ret (pe_lst (pa_cons (pv 1) (pa_cons pe_int (pa_cons (pe_op op_mod (pv 0) pe_int) pa_nil)))))))), ?_⟩
    refine st_start (σ' := [some _, none]) rfl (fun bk ct => ?_)
    wtm_at "vc"
    refine s_cut (fun σ H => ∃ x, 0 ≤ x ∧ σ = [some (.int c), some (.int x)] ∧ Sx D L H) (fun nx hN => ?_) (fun σ H ⟨x, x0, es, S⟩ => ?_)
    · wtm_at "vc"
      refine if_d (fun h => ?_) (fun h => ?_)
      · wtm_at "vc"
        exact hN _ _ ⟨_, by omega, rfl, S⟩
      · wtm_at "vc"
        exact hN _ _ ⟨0, Int.le_refl _, rfl, S⟩
    · subst es
      wtm_at "vc"
      rename_i b H1 S1
      exact q b x _ _ x0 (by omega) (by omega) S1
abbrev st__law_folded : Stmt := topS 12
theorem sc__law_folded : FnScope ["cells", "many", "found", "k", "cell"] ["cells", "many"] (defScope st__law_folded) := ⟨rfl, rfl, rfl, by decide +kernel, rfl, by decide +kernel, by decide +kernel⟩
def sp__law_folded (K : PySem.W.Frag) : Sp := fun vs H Q _ => ∃ (D : Hp) (L : Own) (a : Addr) (ns : List Int) (m : Int), vs = [.ref a, .int m] ∧ Sx D L H ∧ Sq K D a (ns.map V.int) ∧ ns.length ≤ 63 ∧ 1 ≤ m ∧ m ≤ 100 ∧
  ∀ (b : Addr) (fs : List Int) D' H', 1 ≤ fs.length → (fs.length : Int) ≤ m → Sx D' ((b, .lst (fs.map V.int)) :: L) H' → Sm D D' → Q (.ref b) H'
theorem ok__law_folded {fA : Addr} {fd : FuncData} (F : Fun K "_law_folded" "_law_folded" st__law_folded fA fd) (b_enumerate : mg "enumerate" = none) (b_len : mg "len" = none) (b_max : mg "max" = none) (b_min : mg "min" = none) : FnOk P w K mg base CX0 1 fA fd ["cells", "many"] (sp__law_folded K) := by
  refine F.ok sc__law_folded (fun vs H Q E h => ?_) (fun cdv A outer s H vs Q E hr h => ?_)
  · obtain ⟨D, L, a, ns, m, rfl, S, ha, hn, m1, m2, q⟩ := h
    rfl
  · obtain ⟨D, L, a, ns, m, rfl, S, ha, hn, m1, m2, q⟩ := h
    have hu : (A.deeper (envOfC "_law_folded" (defScope st__law_folded) s.heap.objs.size fA cdv)).units + 64 < cLine := by have := hr.un; omega
    refine ⟨_, (pss_cons (ps_set (i := 2) sc__law_folded.nd rfl (Or.inl rfl) (pe_op (r := rMulU K) opMulU (pe_lst (pa_cons pe_int pa_nil)) (pe_callB (call_min2N rfl) (by rfl) b_min bb_min (pa_cons (pv 1) (pa_cons (pe_callB (call_max2N rfl) (by rfl) b_max bb_max (pa_cons pe_int (pa_cons (pe_callB (r := rLen K) call_lenN (by rfl) b_len bb_len (pa_cons (pv 0) pa_nil)) pa_nil))) pa_nil)))))
      (pss_cons (ps_for PassesOwn.never rfl (pi_enX K (by rfl) b_enumerate (pa_cons (pv 0) pa_nil)) (pg_tupK K 2 rfl (pgs_cons (pg_name (i := 3) sc__law_folded.nd rfl (Or.inl rfl)) (pgs_cons (pg_name (i := 4) sc__law_folded.nd rfl (Or.inl rfl)) pgs_nil)))
      (pss_one (ps_asg (pe_op (r := rAddX K) opAdd (pe_op (r := rMulU K) opMulU (pe_ix (r := rIx K) ix_seq (pv 2) (pe_op op_mod (pv 3) (pe_callB (r := rLen K) call_lenN (by rfl) b_len bb_len (pa_cons (pv 2) pa_nil))) (fun _ _ => rfl)) pe_int) (pv 4)) (pg_sub (pv 2) (pe_op op_mod (pv 3) (pe_callB (r := rLen K) call_lenN (by rfl) b_len bb_len (pa_cons (pv 2) pa_nil))) set_list))))
      (pss_one (ps_ret (pv 2))))), ?_⟩
    refine st_start (σ' := [some _, some _, none, none, none]) rfl (fun bk ct => ?_)
    wtm_at "vc"
    rename_i z H1 S1 b H2 S2
    refine for_go (walk_enum (xs := ns.map V.int)) (fun i σ H => ∃ (x y : Option V) (fs : List Int) (D3 : Hp), 1 ≤ fs.length ∧ (fs.length : Int) ≤ m ∧ σ = [some (.ref a), some (.int m), some (.ref b), x, y] ∧ Sm D D3 ∧ Sx D3 ((b, .lst (fs.map V.int)) :: L) H)
      ⟨_, _, List.replicate (min m (max 1 (ns.length : Int))).toNat 0, D, by rw [List.length_replicate]; omega, by rw [List.length_replicate]; omega, rfl, up, ?_⟩ (fun i σ H hi ⟨x, y, fs, D3, l1, l2, es, e3, S3⟩ => (rsS (K := K) (L := []) (e3.e.seq ha.pf)).sq S3.tail') (fun i v σ H3 H4 hi ⟨x, y, fs, D3, l1, l2, es, e3, S3⟩ hy nx bk hN => ?_) (fun σ H3 ⟨x, y, fs, D3, l1, l2, es, e3, S3⟩ => ?_)
    · rw [List.map_replicate]
      exact Sx.gc
    · obtain ⟨T, x1, z1, D6, rfl, hx, hz, e6, hT, S6⟩ := pair_step hy
      cases hx
      obtain ⟨z1, hz2, rfl⟩ := getI hz
      subst es
      have q0 : 0 ≤ (i : Int) % (fs.length : Int) := Int.emod_nonneg _ (by omega)
      have q1 : (i : Int) % (fs.length : Int) < (fs.length : Int) := Int.emod_lt_of_pos _ (by omega)
      obtain ⟨w1, hw, hw2⟩ := atI_get q0 q1
      have hat : AtC (fs.map V.int) ((i : Int) % (fs.length : Int)) (.int w1) := ⟨hw2⟩
      wtm_at "vc"
      rename_i H5 S5
      refine hN _ _ ⟨_, _, fs.set ((i : Int) % (fs.length : Int)).toNat (w1 * 7 + z1), D6, by rw [List.length_set]; exact l1, by rw [List.length_set]; exact l2, rfl, up, ?_⟩
      rw [List.map_set]
      exact S5
    · subst es
      wtm_at "vc"
      exact q b fs D3 _ l1 l2 S3 e3
abbrev st__law_handed : Stmt := topS 22
theorem sc__law_handed : FnScope ["reels", "found", "reel", "row"] ["reels"] (defScope st__law_handed) := ⟨rfl, rfl, rfl, by decide +kernel, rfl, by decide +kernel, by decide +kernel⟩
def sp__law_handed (K : PySem.W.Frag) : Sp := fun vs H Q _ => ∃ (D : Hp) (L : Own) (a : Addr) (us : List V) (Rs : List (List Rw)), vs = [.ref a] ∧ Sx D L H ∧ Kn D a (.lst us) ∧ RpAll D us (Rs.map reelQ) ∧ Rs.length ≤ 20 ∧ (∀ R, R ∈ Rs → R.length ≤ 4000 ∧ ∀ r, some r ∈ R → r.length ≤ 4000) ∧
  ∀ (t : Addr) (us' : List V) D' H', Sx D' L H' → Sm D D' → Kn D' t (.tup us') → RpAll D' us' (Rs.map reelT) → Q (.ref t) H'
theorem ok__law_handed {fA : Addr} {fd : FuncData} (F : Fun K "_law_handed" "_law_handed" st__law_handed fA fd) (b_tuple : mg "tuple" = none) : FnOk P w K mg base CX0 1 fA fd ["reels"] (sp__law_handed K) := by
  refine F.ok sc__law_handed (fun vs H Q E h => ?_) (fun cdv A outer s H vs Q E hr h => ?_)
  · obtain ⟨D, L, a, us, Rs, rfl, S, ka, hU, hl, hR, q⟩ := h
    rfl
  · obtain ⟨D, L, a, us, Rs, rfl, S, ka, hU, hl, hR, q⟩ := h
    have hu : (A.deeper (envOfC "_law_handed" (defScope st__law_handed) s.heap.objs.size fA cdv)).units + 64 < cLine := by have := hr.un; omega
    refine ⟨_, (pss_cons (ps_set (i := 1) sc__law_handed.nd rfl (Or.inl rfl) (pe_lst pa_nil))
      (pss_cons (ps_for PassesOwn.never rfl (pi_seqK K (pv 0)) (pg_name (i := 2) sc__law_handed.nd rfl (Or.inl rfl))
      (pss_one (ps_expr (pe_bm PySem.F.plainAttrs_list PySem.F.slot_list_append PySem.F.type_list_append mt_append (pv 1) (pa_cons (pe_callTy (r := rTupOf K) call_tupN (by rfl) b_tuple bb_tuple (pa_cons (pe_lc (own := [("row", 3)]) (tt := tYes) rfl sc__law_handed.nd (pi_seqK K (pv 2)) (blkOk_by (N := ["reels", "found", "reel", "row"]) (sc := defScope st__law_handed) (by decide +kernel)) (fun _ _ _ _ _ => (pg_name (i := 3) sc__law_handed.nd rfl (Or.inl rfl))) (fun _ _ _ _ _ => pts_nil) (fun _ _ _ _ _ => (pe_ifExp (pt_cmpR op_isN1 (pv 3) pe_non (nomark _)) (pv 3) (pe_callTy (r := rTupOf K) call_tupN (by rfl) b_tuple bb_tuple (pa_cons (pv 3) pa_nil))))) pa_nil)) pa_nil)))))
      (pss_one (ps_ret (pe_callTy (r := rTupOf K) call_tupN (by rfl) b_tuple bb_tuple (pa_cons (pv 1) pa_nil)))))), ?_⟩
    refine st_start (σ' := [some _, none, none, none]) rfl (fun bk ct => ?_)
    have hul : us.length = Rs.length := by have := hU.length; rw [List.length_map] at this; exact this
    wtm_at "vc"
    rename_i fo H1 S1
    refine for_go (walk_list (xs := us)) (fun i σ H => ∃ (D3 : Hp) (vs3 : List V) (x2 x3 : Option V), σ = [some (.ref a), some (.ref fo), x2, x3] ∧ Sm D D3 ∧ Sx D3 ((fo, .lst vs3) :: L) H ∧ RpAll D3 vs3 ((Rs.take i).map reelT))
      ⟨D, [], _, _, rfl, Sm.rfl', S1, .nil⟩ (fun i σ H hi ⟨D3, vs3, x2, x3, es, e3, S, _⟩ => Rds.sq S (rsD (e3.e _ _ ka.pf))) (fun i v σ H3 H4 hi ⟨D3, vs3, x2, x3, es, e3, S3, hI⟩ hy nx bk hN => ?_) (fun σ H3 ⟨D3, vs3, x2, x3, es, e3, S3, hI⟩ => ?_)
    · obtain ⟨rfl, hv⟩ := hy
      obtain ⟨d, hd, hp⟩ := (hU.up (up : Sm D D3).e).getV hv
      rw [List.getElem?_map] at hd
      obtain ⟨R, hRi, rfl⟩ := Option.map_eq_some_iff.mp hd
      obtain ⟨g, ys, rfl, kg, hys⟩ := reelQ_inv hp
      obtain ⟨hR1, hR2⟩ := hR R (List.mem_of_getElem? hRi)
      have hyl : ys.length = R.length := by have := hys.length; rw [List.length_map] at this; exact this
      have hvl : vs3.length ≤ 20 := by have := hI.length; rw [List.length_map, List.length_take] at this; omega
      subst es
      wtm_at "vc"
      refine lc_go (S := S3) (walk_list (xs := ys)) (by omega) (fun j acc D' => RpAll D' acc ((R.take j).map rwTD)) .nil (fun D' p acc H' e' S' => Rds.sq S' (rsD (e'.e _ _ kg.pf))) (fun j v q2 acc D5 H5 H6 hj e5 S5 hRj hy Ad Sk hA hS => ?_) (fun la D5 acc H5 e5 S5 hRj => ?_)
      · obtain ⟨rfl, hv⟩ := hy
        obtain ⟨d, hd, hp⟩ := (hys.up (up : Sm D3 D5).e).getV hv
        rw [List.getElem?_map] at hd
        obtain ⟨r, hr, rfl⟩ := Option.map_eq_some_iff.mp hd
        rcases rw_inv8 hp with ⟨rfl, rfl⟩ | ⟨ra, xs, rfl, rfl, kr⟩
        · wtm_at "vc"
          refine hA _ D5 _ Sm.rfl' S5 ?_
          rw [take_sn hr, List.map_append]
          exact hRj.app (.cons .non .nil)
        · have := hR2 xs (List.mem_of_getElem? hr)
          wtm_at "vc"
          rename_i t9 D6 H7 S7 e6 k9
          refine hA _ D6 _ e6 S7 ?_
          rw [take_sn hr, List.map_append]
          exact RpAll.app (hRj.up e6.e) (.cons (.tupI k9.pf) .nil)
      rw [hyl, List.take_length] at hRj
      have hal : acc.length = R.length := by have := hRj.length; rw [List.length_map] at this; exact this
      wtm_at "vc"
      rename_i t9 D6 H6 S6 e6 k9 H7 S7
      refine hN _ _ ⟨D6, vs3 ++ [.ref t9], _, _, rfl, up, Sx.gc (S := S7), ?_⟩
      rw [take_sn hRi, List.map_append]
      exact RpAll.app (hI.up (up : Sm D3 D6).e) (.cons (.tup k9.pf (hRj.up e6.e)) .nil)
    subst es
    rw [hul, List.take_length] at hI
    have hvl : vs3.length ≤ 20 := by have := hI.length; rw [List.length_map] at this; omega
    wtm_at "vc"
    rename_i t9 D6 H6 S6 e6 k9
    exact q t9 vs3 D6 _ (Sx.gc (S := S6)) up k9 (hI.up e6.e)
abbrev st__law_take : Stmt := topS 14
theorem sc__law_take : FnScope ["pot", "size", "digit", "mixed"] ["pot", "size"] (defScope st__law_take) := ⟨rfl, rfl, rfl, by decide +kernel, rfl, by decide +kernel, by decide +kernel⟩
def sp__law_take (K : PySem.W.Frag) : Sp := fun vs H Q _ => ∃ (D : Hp) (L : Own) (a : Addr) (x y z m : Int), vs = [.ref a, .int m] ∧ Sx D ((a, .lst [.int x, .int y, .int z]) :: L) H ∧ 0 ≤ x ∧ 0 ≤ y ∧ y ≤ 1000000000 ∧ 0 ≤ z ∧ z < 2147483647 ∧ 1 ≤ m ∧ m ≤ 1000000000 ∧
  ∀ r x' y' H', Sx D ((a, .lst [.int x', .int y', .int z]) :: L) H' → 0 ≤ r → r < m → 0 ≤ x' → 0 ≤ y' → y' ≤ y + 1 → Q (.int r) H'
theorem ok__law_take {fA : Addr} {fd : FuncData} (F : Fun K "_law_take" "_law_take" st__law_take fA fd) : FnOk P w K mg base CX0 1 fA fd ["pot", "size"] (sp__law_take K) := by
  refine F.ok sc__law_take (fun vs H Q E h => ?_) (fun cdv A outer s H vs Q E hr h => ?_)
  · obtain ⟨D, L, a, x, y, z, m, rfl, S, x0, y0, y1, z0, z1, m1, m2, q⟩ := h
    rfl
  · obtain ⟨D, L, a, x, y, z, m, rfl, S, x0, y0, y1, z0, z1, m1, m2, q⟩ := h
    have hu : (A.deeper (envOfC "_law_take" (defScope st__law_take) s.heap.objs.size fA cdv)).units + 64 < cLine := by have := hr.un; omega
    refine ⟨_, (pss_cons (ps_if (pt_cmpR op_gt (pe_ix (r := rIx K) ix_seq (pv 0) pe_int (fun _ _ => rfl)) pe_int (nomark _)) (pss_cons (ps_set (i := 2) sc__law_take.nd rfl (Or.inl rfl) (pe_op op_mod (pe_ix (r := rIx K) ix_seq (pv 0) pe_int (fun _ _ => rfl)) (pv 1)))
      (pss_cons (ps_asg (pe_op opDiv (pe_ix (r := rIx K) ix_seq (pv 0) pe_int (fun _ _ => rfl)) (pv 1)) (pg_sub (pv 0) pe_int set_list))
      (pss_one (ps_ret (pv 2))))) pss_nil)
      (pss_cons (ps_asg (pe_op (r := rAddX K) opAdd (pe_ix (r := rIx K) ix_seq (pv 0) pe_int (fun _ _ => rfl)) pe_int) (pg_sub (pv 0) pe_int set_list))
      (pss_cons (ps_set (i := 3) sc__law_take.nd rfl (Or.inl rfl) (pe_op op_mod (pe_op (r := rAddX K) opAdd (pe_op (r := rAddX K) opAdd (pe_op (r := rAddX K) opAdd (pe_ix (r := rIx K) ix_seq (pv 0) pe_int (fun _ _ => rfl)) (pe_op (r := rMulU K) opMulU (pe_op (r := rMulU K) opMulU pe_int (pe_ix (r := rIx K) ix_seq (pv 0) pe_int (fun _ _ => rfl))) (pe_ix (r := rIx K) ix_seq (pv 0) pe_int (fun _ _ => rfl)))) (pe_op (r := rMulU K) opMulU pe_int (pe_ix (r := rIx K) ix_seq (pv 0) pe_int (fun _ _ => rfl)))) pe_int) pe_int))
      (pss_cons (ps_set (i := 3) sc__law_take.nd rfl (Or.inl rfl) (pe_op op_mod (pe_op (r := rMulU K) opMulU (pe_op op_mod (pe_op (r := rMulU K) opMulU (pv 3) (pv 3)) pe_int) pe_int) pe_int))
      (pss_one (ps_ret (pe_op op_mod (pe_op opDiv (pv 3) pe_int) (pv 1)))))))), ?_⟩
    refine st_start (σ' := [some _, some _, none, none]) rfl (fun bk ct => ?_)
    wtm_at "vc"
    refine if_d (fun h => ?_) (fun h => ?_)
    · wtm_at "vc"
      exact q _ _ y _ inferInstance (Int.emod_nonneg _ (by omega)) (Int.emod_lt_of_pos _ (by omega)) (Int.ediv_nonneg x0 (by omega)) y0 (by omega)
    · wtm_at "vc"
      exact q _ x _ _ inferInstance (Int.emod_nonneg _ (by omega)) (Int.emod_lt_of_pos _ (by omega)) x0 (by omega) (by omega)
abbrev st__law_lot : Stmt := topS 15
theorem sc__law_lot : FnScope ["pot", "far", "turn"] ["pot"] (defScope st__law_lot) := ⟨rfl, rfl, rfl, by decide +kernel, rfl, by decide +kernel, by decide +kernel⟩
def sp__law_lot (K : PySem.W.Frag) : Sp := fun vs H Q _ => ∃ (D : Hp) (L : Own) (pot : Addr) (x y z : Int), vs = [.ref pot] ∧ Sx D ((pot, .lst [.int x, .int y, .int z]) :: L) H ∧ 0 ≤ x ∧ 0 ≤ y ∧ y ≤ 999000000 ∧ 0 ≤ z ∧ z < 2147483647 ∧
  ∀ (v : V) (r : Rw) x' y' D' H', Sx D' ((pot, .lst [.int x', .int y', .int z]) :: L) H' → Sm D D' → 0 ≤ x' → 0 ≤ y' → y' ≤ y + 12 → Rp D' v (rwD r) → OkRw r → Q v H'
theorem ok__law_lot {fA : Addr} {fd : FuncData} (F : Fun K "_law_lot" "_law_lot" st__law_lot fA fd) (b_range : mg "range" = none) (b_sorted : mg "sorted" = none)
    (C__law_take : Cl P w K mg base CX0 1 "_law_take" ["pot", "size"] (sp__law_take K)) : FnOk P w K mg base CX0 2 fA fd ["pot"] (sp__law_lot K) := by
  refine F.ok sc__law_lot (fun vs H Q E h => ?_) (fun cdv A outer s H vs Q E hr h => ?_)
  · obtain ⟨D, L, pot, x, y, z, rfl, S, x0, y0, y1, z0, z1, q⟩ := h
    rfl
  · obtain ⟨D, L, pot, x, y, z, rfl, S, x0, y0, y1, z0, z1, q⟩ := h
    have hu : (A.deeper (envOfC "_law_lot" (defScope st__law_lot) s.heap.objs.size fA cdv)).units + 64 < cLine := by have := hr.un; omega
    refine ⟨_, (pss_cons (ps_if (pt_cmpR (r := rEqX K) (opEq hu) (pe_cl C__law_take hr (by decide) (by rfl) (pa_cons (pv 0) (pa_cons pe_int pa_nil))) pe_int (nomark _)) (pss_one (ps_ret pe_non)) pss_nil)
      (pss_cons (ps_set (i := 1) sc__law_lot.nd rfl (Or.inr rfl) (pe_ix (r := rIx K) ix_seq (pe_lst (pa_cons pe_int (pa_cons pe_int (pa_cons (pe_op op_pow pe_int pe_int) pa_nil)))) (pe_cl C__law_take hr (by decide) (by rfl) (pa_cons (pv 0) (pa_cons pe_int pa_nil))) (fun _ _ => rfl)))
      (pss_one (ps_ret (pe_callB (r := rSortedW K) cr_sortedW (by rfl) b_sorted bb_sorted (pa_cons (pe_lc (own := [("turn", 2)]) (tt := tYes) rfl sc__law_lot.nd (pi_range1 (by rfl) b_range (pa_cons (pe_cl C__law_take hr (by decide) (by rfl) (pa_cons (pv 0) (pa_cons pe_int pa_nil))) pa_nil)) (blkOk_by (N := ["pot", "far", "turn"]) (sc := defScope st__law_lot) (by decide +kernel)) (fun _ _ _ _ _ => (pg_name (i := 2) sc__law_lot.nd rfl (Or.inl rfl))) (fun _ _ _ _ _ => pts_nil) (fun _ _ _ _ _ => (pe_op (r := rMulU K) opMulU (pe_op op_sub (pe_cl C__law_take hr (by decide) (by rfl) (pa_cons (pv 0) (pa_cons pe_int pa_nil))) pe_int) (pv 1)))) pa_nil)))))), ?_⟩
    refine st_start (σ' := [some _, none, none]) rfl (fun bk ct => ?_)
    wtm_at "vc"
    refine ⟨_, _, pot, x, y, z, 5, rfl, S, x0, y0, by omega, z0, z1, by decide, by decide, fun r1 x y2 H1 S1 r10 r11 x0 y20 yb => ?_⟩
    wtm_at "vc"
    refine if_d (fun c1 => ?_) (fun c1 => ?_)
    · wtm_at "vc"
      exact q .non none x y2 D _ S1 Sm.rfl' x0 y20 (by omega) .non (fun ns h => nomatch h)
    wtm_at "vc"
    rename_i l1 H2 S2
    refine ⟨_, _, pot, x, y2, z, 3, rfl, Sx.front (a := pot) (S := S2), x0, y20, by omega, z0, z1, by decide, by decide, fun r2 x y3 H3 S3 r20 r21 x0 y30 yb2 => ?_⟩
    obtain ⟨far, hA1, hf1, hf2⟩ : ∃ far : Int, AtC [V.int 1, V.int 1, V.int (10 ^ Int.toNat 58)] r2 (.int far) ∧ 1 ≤ far ∧ far ≤ 10000000000000000000000000000000000000000000000000000000000 := by
      rcases (by omega : r2 = 0 ∨ r2 = 1 ∨ r2 = 2) with e | e | e <;> subst e
      · exact ⟨_, ⟨atN (by decide) rfl⟩, by omega, by omega⟩
      · exact ⟨_, ⟨atN (by decide) rfl⟩, by omega, by omega⟩
      · exact ⟨_, ⟨atN (by decide) rfl⟩, by decide +kernel, by decide +kernel⟩
    wtm_at "vc"
    refine ⟨_, _, pot, x, y3, z, 9, rfl, S3, x0, y30, by omega, z0, z1, by decide, by decide, fun r3 x y4 H4 S4 r30 r31 x0 y40 yb3 => ?_⟩
    have S5 : Sx D ((pot, .lst [.int x, .int y4, .int z]) :: L) H4 := Sx.gc (S := S4)
    clear S2 S3 S4
    wtm_at "vc"
    refine lc_goL (S := S5) (walk_rng (lo := 0) (n := r3.toNat)) (by omega) (fun k acc D' L' => D' = D ∧ ∃ (ys : List Int) (x2 y5 : Int), acc = ys.map V.int ∧ ys.length = k ∧ (∀ t, t ∈ ys → -1000000000000000000000000000000000000000000000000000000000000 ≤ t ∧ t ≤ 1000000000000000000000000000000000000000000000000000000000000) ∧ L' = (pot, .lst [.int x2, .int y5, .int z]) :: L ∧ 0 ≤ x2 ∧ 0 ≤ y5 ∧ y5 ≤ y4 + (k : Int)) ⟨rfl, [], x, y4, rfl, rfl, (fun t h => nomatch h), rfl, x0, y40, by omega⟩ (fun _ _ _ _ _ _ _ => trivial) (fun k v q2 acc D8 L8 H16 H17 hk e8 S15 hR hy Ad Sk hA hS => ?_) (fun lb D8 acc L8 H16 e8 S15 hR => ?_)
    · obtain ⟨rfl, rfl⟩ := hy
      obtain ⟨rfl, ys, x2, y5, rfl, hyl, hyb, rfl, x0, y50, yb4⟩ := hR
      wtm_at "vc"
      refine ⟨_, _, pot, x2, y5, z, 40, rfl, Sx.front (a := pot) (S := S15), x0, y50, by omega, z0, z1, by decide, by decide, fun v9 x3 y6 H18 S16 v90 v91 x0 y60 yb5 => ?_⟩
      have hm1 : (v9 - 20) * far ≤ 20 * far := Int.mul_le_mul_of_nonneg_right (by omega) (by omega)
      have hm2 : -20 * far ≤ (v9 - 20) * far := Int.mul_le_mul_of_nonneg_right (by omega) (by omega)
      wtm_at "vc"
      exact hA _ _ _ _ Sm.rfl' (Sx.front (a := q2) (S := S16)) ⟨rfl, ys ++ [(v9 - 20) * far], x3, y6, by rw [List.map_append]; rfl, by rw [List.length_append, hyl]; rfl, fun t ht => (List.mem_append.mp ht).elim (hyb t) fun h => by rw [List.mem_singleton.mp h]; omega, rfl, x0, y60, by omega⟩
    obtain ⟨rfl, ys, x, y5, rfl, hyl, hyb, rfl, x0, y50, yb4⟩ := hR
    wtm_at "vc"
    rename_i n3 hp3 hs3 sb H5 S6
    have S7 : Sx D8 ((sb, .lst (n3.map V.int)) :: (pot, .lst [.int x, .int y5, .int z]) :: L) H5 := Sx.gc (S := S6)
    obtain ⟨D9, e9, k9, S8⟩ := Sx.fix1 (a := sb) (S := S7)
    exact q (.ref sb) (some n3) x y5 D9 _ S8 up x0 y50 (by omega) (.lstI k9.pf) (fun ns h => by
      cases h
      exact ⟨hs3, by rw [hp3.length_eq, hyl]; omega, fun t ht => hyb t (hp3.mem_iff.mp ht)⟩)
abbrev st__law_merging : Stmt := topS 18
theorem sc__law_merging : FnScope ["reels", "out", "read", "things", "idle", "number", "count", "row"] ["reels", "out"] (defScope st__law_merging) := ⟨rfl, rfl, rfl, by decide +kernel, rfl, by decide +kernel, by decide +kernel⟩
def sp__law_merging (K : PySem.W.Frag) : Sp := fun vs H Q _ => ∃ (D : Hp) (L : Own) (th : Addr) (ads : List Addr) (vss : List (List V)) (Rs : List (List Rw)) (o B : Nat), vs = [.ref th, .int (o : Int)] ∧ Sx D (ownZ ads vss ++ L) H ∧ Kn D th (.lst (ads.map V.ref)) ∧ ads.length = vss.length ∧ RsA D vss Rs ∧ vss.length ≤ 1000 ∧ o < vss.length ∧ (allT Rs).length ≤ 10000 ∧ B ≤ 100000 ∧ (∀ w, w ∈ vss → w.length ≤ B) ∧
  ∀ (rb : Addr) (wss : List (List V)) D' H', Sx D' ((rb, .lst ((rdT (tfN o Rs Rs.length) (zerI Rs.length)).map V.int)) :: (ownZ ads wss ++ L)) H' → Sm D D' → wss.length = vss.length → RsA D' wss ((tkN o Rs Rs.length).set o ((tkN o Rs Rs.length).getD o [] ++ [nwT (tfN o Rs Rs.length)])) → (∀ w, w ∈ wss → w.length ≤ B + 1) → Q (.ref rb) H'
theorem ok__law_merging {fA : Addr} {fd : FuncData} (F : Fun K "_law_merging" "_law_merging" st__law_merging fA fd) (b_int : mg "int" = none) (b_len : mg "len" = none) (b_range : mg "range" = none) (b_sorted : mg "sorted" = none) : FnOk P w K mg base CX0 1 fA fd ["reels", "out"] (sp__law_merging K) := by
  refine F.ok sc__law_merging (fun vs H Q E h => ?_) (fun cdv A outer s H vs Q E hr h => ?_)
  · obtain ⟨D, L, th, ads, vss, Rs, o, B, rfl, S, kth, hal, hR, hvl, ho, hall, hB, hw4, q⟩ := h
    rfl
  · obtain ⟨D, L, th, ads, vss, Rs, o, B, rfl, S, kth, hal, hR, hvl, ho, hall, hB, hw4, q⟩ := h
    have hu : (A.deeper (envOfC "_law_merging" (defScope st__law_merging) s.heap.objs.size fA cdv)).units + 64 < cLine := by have := hr.un; omega
    refine ⟨_, (pss_cons (ps_set (i := 2) sc__law_merging.nd rfl (Or.inl rfl) (pe_lst pa_nil))
      (pss_cons (ps_set (i := 3) sc__law_merging.nd rfl (Or.inl rfl) (pe_lst pa_nil))
      (pss_cons (ps_set (i := 4) sc__law_merging.nd rfl (Or.inl rfl) pe_bl)
      (pss_cons (ps_for PassesOwn.never rfl (pi_range1 (by rfl) b_range (pa_cons (pe_callB (r := rLen K) call_lenN (by rfl) b_len bb_len (pa_cons (pv 0) pa_nil)) pa_nil)) (pg_name (i := 5) sc__law_merging.nd rfl (Or.inl rfl))
      (pss_cons (ps_set (i := 6) sc__law_merging.nd rfl (Or.inl rfl) pe_int)
      (Evl.pss_cut (ps_if (PW.pt (pw_and (pt_cmpR (r := rNeX K) (opNe hu) (pv 5) (pv 1) (nomark _)) (pw_and1 (pt_cmpR op_gt (pe_callB (r := rLen K) call_lenN (by rfl) b_len bb_len (pa_cons (pe_ix (r := rIx K) ix_seq (pv 0) (pv 5) (fun _ _ => rfl)) pa_nil)) pe_int (nomark _))))) (pss_cons (ps_set (i := 7) sc__law_merging.nd rfl (Or.inl rfl) (pe_bm PySem.F.plainAttrs_list PySem.F.slot_list_pop PySem.F.type_list_pop mt_popAtX (pe_ix (r := rIx K) ix_seq (pv 0) (pv 5) (fun _ _ => rfl)) (pa_cons pe_int pa_nil)))
      (pss_one (ps_if (pt_cmpR op_notN1 (pv 7) pe_non (nomark _)) (pss_cons (ps_set (i := 4) sc__law_merging.nd rfl (Or.inl rfl) pe_bl)
      (pss_cons (ps_set (i := 6) sc__law_merging.nd rfl (Or.inl rfl) (pe_callB (r := rLen K) call_lenN (by rfl) b_len bb_len (pa_cons (pv 7) pa_nil)))
      (pss_one (ps_set (i := 3) sc__law_merging.nd rfl (Or.inl rfl) (pe_callB (r := rSortedW K) cr_sortedW (by rfl) b_sorted bb_sorted (pa_cons (pe_op (r := rAddX K) opAdd (pv 3) (pv 7)) pa_nil)))))) pss_nil))) pss_nil)
      (pss_one (ps_expr (pe_bm PySem.F.plainAttrs_list PySem.F.slot_list_append PySem.F.type_list_append mt_append (pv 2) (pa_cons (pv 6) pa_nil)))))))
      (pss_cons (ps_expr (pe_bm PySem.F.plainAttrs_list PySem.F.slot_list_append PySem.F.type_list_append mt_append (pe_ix (r := rIx K) ix_seq (pv 0) (pv 1) (fun _ _ => rfl)) (pa_cons (pe_ix (r := rIx K) ix_seq (pe_lst (pa_cons (pv 3) (pa_cons pe_non pa_nil))) (pe_callTy call_intN (by rfl) b_int bb_int (pa_cons (pv 4) pa_nil)) (fun _ _ => rfl)) pa_nil)))
      (pss_one (ps_ret (pv 2)))))))), ?_⟩
    refine st_start (σ' := [some _, some _, none, none, none, none, none, none]) rfl (fun bk ct => ?_)
    have hRl := hR.len
    wtm_at "vc"
    rename_i rb H1 S1 tg0 H2 S2
    have S3 : Sx D ((rb, .lst (([] : List Int).map V.int)) :: (tg0, .lst (([] : List Int).map V.int)) :: (ownZ ads vss ++ L)) H2 := Sx.perm S2 (List.Perm.swap _ _ _)
    clear S1 S2
    refine for_go (walk_rng (lo := 0) (n := ((ads.length : Nat) : Int).toNat)) (fun i σ H => ∃ (D2 : Hp) (tg : Addr) (wss : List (List V)) (cs : List Int) (bi : Bool) (x5 x6 x7 : Option V), σ = [some (.ref th), some (.int (o : Int)), some (.ref rb), some (.ref tg), some (.bl bi), x5, x6, x7] ∧ Sm D D2 ∧ Sx D2 ((rb, .lst (cs.map V.int)) :: (tg, .lst ((srtI (rwT (tfN o Rs i)).flatten).map V.int)) :: (ownZ ads wss ++ L)) H ∧ wss.length = vss.length ∧ RsA D2 wss (tkN o Rs i) ∧ cs.length = i ∧ rdT (tfN o Rs i) (zerI Rs.length) = cs ++ List.replicate (Rs.length - i) 0 ∧ bi = decide (rwT (tfN o Rs i) = []) ∧ (∀ w, w ∈ wss → w.length ≤ B))
      ⟨D, tg0, vss, [], true, _, _, _, rfl, Sm.rfl', S3, rfl, hR, rfl, by rw [Nat.sub_zero]; rfl, rfl, hw4⟩ (fun _ _ _ _ _ => trivial) (fun i v σ H3 H4 hi ⟨D2, tg, wss, cs, bi, x5, x6, x7, es, e2, S4, hwl, hRw, hcl, hrd, hbi, hw5⟩ hy nx bk hN => ?_) (fun σ H3 ⟨D2, tg, wss, cs, bi, x5, x6, x7, es, e2, S4, hwl, hRw, hcl, hrd, hbi, hw5⟩ => ?_)
    · obtain ⟨rfl, rfl⟩ := hy
      subst es
      rw [Int.toNat_natCast] at hi
      obtain ⟨ad, had⟩ : ∃ a, ads[i]? = some a := ⟨_, List.getElem?_eq_getElem hi⟩
      obtain ⟨ws, hws⟩ : ∃ w, wss[i]? = some w := ⟨_, List.getElem?_eq_getElem (by omega)⟩
      obtain ⟨R, hR1, hR2⟩ := hRw.get hws
      have hgd : (tkN o Rs i).getD i [] = R := by rw [List.getD_eq_getElem?_getD, hR1]; rfl
      have hA1 : AtC (ads.map V.ref) (0 + (i : Int)) (.ref ad) := ⟨atN (by omega) (by rw [show (0 + (i : Int)).toNat = i by omega, List.getElem?_map, had]; rfl)⟩
      have hwsl := hw5 ws (List.mem_of_getElem? hws)
      have hcsl : (cs.map V.int).length = i := by rw [List.length_map, hcl]
      have S5 := Sx.perm S4 (pm_own8 (A := [(rb, HO.lst (cs.map V.int)), (tg, HO.lst ((srtI (rwT (tfN o Rs i)).flatten).map V.int))]) (P := L) had hws)
      clear S3 S4
      wtm_at "vc"
      refine s_cut (fun σ H => ∃ (D4 : Hp) (tg' : Addr) (wss' : List (List V)) (bi' : Bool) (cnt : Int) (x7 : Option V), σ = [some (.ref th), some (.int (o : Int)), some (.ref rb), some (.ref tg'), some (.bl bi'), some (.int (0 + (i : Int))), some (.int cnt), x7] ∧ Sm D2 D4 ∧ Sx D4 ((rb, .lst (cs.map V.int)) :: (tg', .lst ((srtI (rwT (tfN o Rs (i + 1))).flatten).map V.int)) :: (ownZ ads wss' ++ L)) H ∧ wss'.length = vss.length ∧ RsA D4 wss' (tkN o Rs (i + 1)) ∧ rdT (tfN o Rs (i + 1)) (zerI Rs.length) = (cs ++ [cnt]) ++ List.replicate (Rs.length - (i + 1)) 0 ∧ bi' = decide (rwT (tfN o Rs (i + 1)) = []) ∧ (∀ w, w ∈ wss' → w.length ≤ B)) (fun nx2 hN2 => ?_) (fun σ H6 ⟨D4, tg', wss', bi', cnt, x7, es, e4, S6, hwl', hRw', hrd', hbi', hw6⟩ => ?_)
      · wtm_at "vc"
        by_cases hio : i = o
        · refine if_ndf (by omega) ?_
          wtm_at "vc"
          obtain ⟨u1, u2⟩ := tf_out8 (Rs := Rs) hio
          refine hN2 _ _ ⟨D2, tg, wss, bi, 0, x7, rfl, Sm.rfl', by rw [u1]; exact Sx.perm S5 (pm_own8 (A := [(rb, HO.lst (cs.map V.int)), (tg, HO.lst ((srtI (rwT (tfN o Rs i)).flatten).map V.int))]) (P := L) had hws).symm, hwl, by rw [u2]; exact hRw, by rw [u1, hrd]; exact zer_st8 hcl (by omega), by rw [u1]; exact hbi, hw5⟩
        refine if_ndt (by omega) ?_
        wtm_at "vc"
        have hfl : (rwT (tfN o Rs i)).flatten.length ≤ 10000 := by
          have := (tk_perm o Rs i (by omega)).length_eq
          rw [List.length_append] at this
          omega
        have hsl : ((srtI (rwT (tfN o Rs i)).flatten).map V.int).length ≤ 10000 := by rw [List.length_map, srtI_len]; exact hfl
        cases ws with
        | nil =>
          have er : R = [] := by
            have := hR2.length
            rw [List.length_map] at this
            exact List.eq_nil_of_length_eq_zero this.symm
          rw [er] at hgd
          have u1 := tf_nil8 hgd
          have u2 := tk_nil8 (o := o) (by omega) hgd
          refine if_df (by simp) ?_
          wtm_at "vc"
          refine hN2 _ _ ⟨D2, tg, wss, bi, 0, x7, rfl, Sm.rfl', by rw [u1]; exact Sx.perm S5 (pm_own8 (A := [(rb, HO.lst (cs.map V.int)), (tg, HO.lst ((srtI (rwT (tfN o Rs i)).flatten).map V.int))]) (P := L) had hws).symm, hwl, by rw [u2]; exact hRw, by rw [u1, hrd]; exact zer_st8 hcl (by omega), by rw [u1]; exact hbi, hw5⟩
        | cons v ws =>
          cases R with
          | nil => have := hR2.length; simp at this
          | cons r R =>
          obtain ⟨u1, u2⟩ := tf_cons8 hio hgd
          have hv : Rp D2 v (rwD r) := by cases hR2; assumption
          have hws2 : RpAll D2 ws (R.map rwD) := by cases hR2; assumption
          refine if_dt (by rw [List.length_cons]; omega) ?_
          have hA2 : AtC (v :: ws) 0 v := ⟨atN (by decide) rfl⟩
          wtm_at "vc"
          rename_i H5 S6
          have S7 : Sx D2 ((rb, .lst (cs.map V.int)) :: (tg, .lst ((srtI (rwT (tfN o Rs i)).flatten).map V.int)) :: (ownZ ads (wss.set i ws) ++ L)) H5 := Sx.perm S6 (pm_back8 (w := ws) (A := [(rb, HO.lst (cs.map V.int)), (tg, HO.lst ((srtI (rwT (tfN o Rs i)).flatten).map V.int))]) (P := L) had (List.getElem?_eq_some_iff.mp hws).1)
          have hw7 : ∀ w, w ∈ wss.set i ws → w.length ≤ B := fun w hw => by
            rcases List.mem_or_eq_of_mem_set hw with h | h
            · exact hw5 w h
            · rw [h]; rw [List.length_cons] at hwsl; omega
          have hwl7 : (wss.set i ws).length = vss.length := by rw [List.length_set]; exact hwl
          clear S5 S6
          cases r with
          | none =>
            obtain rfl : v = .non := by cases hv; rfl
            have u3 : rwT (tfN o Rs (i + 1)) = rwT (tfN o Rs i) := by rw [u1, rwT_sn8, List.append_nil]
            refine if_ndf rfl ?_
            wtm_at "vc"
            refine hN2 _ _ ⟨D2, tg, wss.set i ws, bi, 0, _, rfl, Sm.rfl', by rw [u3]; exact S7, hwl7, by rw [u2]; exact hRw.set hws2 i, ?_, by rw [u3]; exact hbi, hw7⟩
            rw [u1, rdT_sn8, hrd]
            exact zer_st8 hcl (by omega)
          | some xs =>
            obtain ⟨ra, rfl, kra0⟩ := Rp.inv_lstI hv
            have kra : Kn D2 ra (.lst (xs.map V.int)) := ⟨kra0⟩
            have u3 : rwT (tfN o Rs (i + 1)) = rwT (tfN o Rs i) ++ [xs] := by rw [u1, rwT_sn8]
            have hxl : (xs.map V.int).length ≤ 10000 := by
              have := (tk_perm o Rs (i + 1) (by omega)).length_eq
              rw [List.length_append, u3, List.flatten_append, List.length_append] at this
              simp only [List.flatten_cons, List.flatten_nil, List.append_nil] at this
              rw [List.length_map]
              omega
            refine if_ndt (fun h => nomatch h) ?_
            wtm_at "vc"
            rename_i l5 H6 S8 n3 hp3 hs3 sb H7 S9
            have en : n3 = srtI (rwT (tfN o Rs (i + 1))).flatten := by
              rw [u3, List.flatten_append, List.flatten_cons, List.flatten_nil, List.append_nil]
              exact srtI_uniq (hp3.trans ((srtI_perm _).append_right xs)) hs3
            have S10 : Sx D2 ((sb, .lst (n3.map V.int)) :: (rb, .lst (cs.map V.int)) :: (ownZ ads (wss.set i ws) ++ L)) H7 := Sx.gc (S := S9)
            refine hN2 _ _ ⟨D2, sb, wss.set i ws, false, (xs.length : Int), _, rfl, Sm.rfl', by rw [← en]; exact Sx.perm S10 (List.Perm.swap _ _ _), hwl7, by rw [u2]; exact hRw.set hws2 i, ?_, ?_, hw7⟩
            · rw [u1, rdT_sn8, hrd]
              exact zer_set8 hcl (by omega) _
            · rw [u3, decide_eq_false]
              simp
      subst es
      wtm_at "vc"
      rename_i H7 S7
      refine hN _ _ ⟨D4, tg', wss', cs ++ [cnt], bi', _, _, _, rfl, up, by rw [List.map_append]; exact S7, hwl', hRw', by rw [List.length_append, hcl]; rfl, hrd', hbi', hw6⟩
    subst es
    rw [Int.toNat_natCast, show ads.length = Rs.length by omega] at S4 hRw hcl hrd hbi
    rw [Nat.sub_self, List.replicate_zero, List.append_nil] at hrd
    obtain ⟨ad, had⟩ : ∃ a, ads[o]? = some a := ⟨_, List.getElem?_eq_getElem (by omega)⟩
    obtain ⟨ws, hws⟩ : ∃ w, wss[o]? = some w := ⟨_, List.getElem?_eq_getElem (by omega)⟩
    obtain ⟨R, hR1, hR2⟩ := hRw.get hws
    have hgd : (tkN o Rs Rs.length).getD o [] = R := by rw [List.getD_eq_getElem?_getD, hR1]; rfl
    have hA1 : AtC (ads.map V.ref) (o : Int) (.ref ad) := ⟨atN (by omega) (by rw [Int.toNat_natCast, List.getElem?_map, had]; rfl)⟩
    have hwsl := hw5 ws (List.mem_of_getElem? hws)
    have S5 := Sx.perm S4 (pm_own8 (A := [(rb, HO.lst (cs.map V.int)), (tg, HO.lst ((srtI (rwT (tfN o Rs Rs.length)).flatten).map V.int))]) (P := L) had hws)
    have hnw : nwT (tfN o Rs Rs.length) = if bi = true then none else some (srtI (rwT (tfN o Rs Rs.length)).flatten) := by
      unfold nwT
      by_cases c : rwT (tfN o Rs Rs.length) = []
      · rw [if_pos c, hbi, decide_eq_true c]; rfl
      · rw [if_neg c, hbi, decide_eq_false c]; rfl
    clear S3 S4
    cases bi with
    | true =>
      have hA5 : AtC [V.ref tg, V.non] (if true = true then 1 else 0) .non := ⟨rfl⟩
      wtm_at "vc"
      rename_i l9 H4 S6 H5 S7
      have S8 : Sx D2 ((ad, .lst (ws ++ [V.non])) :: ([(rb, HO.lst (cs.map V.int)), (tg, HO.lst ((srtI (rwT (tfN o Rs Rs.length)).flatten).map V.int))] ++ (ownZ (ads.eraseIdx o) (wss.eraseIdx o) ++ L))) H5 := Sx.gc (S := S7)
      have S9 : Sx D2 ((rb, .lst (cs.map V.int)) :: (tg, .lst ((srtI (rwT (tfN o Rs Rs.length)).flatten).map V.int)) :: (ownZ ads (wss.set o (ws ++ [V.non])) ++ L)) H5 := Sx.perm S8 (pm_back8 (w := ws ++ [V.non]) (A := [(rb, HO.lst (cs.map V.int)), (tg, HO.lst ((srtI (rwT (tfN o Rs Rs.length)).flatten).map V.int))]) (P := L) had (List.getElem?_eq_some_iff.mp hws).1)
      have S10 : Sx D2 ((rb, .lst (cs.map V.int)) :: (ownZ ads (wss.set o (ws ++ [V.non])) ++ L)) H5 := Sx.gc (S := S9)
      refine q rb (wss.set o (ws ++ [.non])) D2 _ (by rw [hrd]; exact S10) e2 (by rw [List.length_set]; exact hwl) ?_ (fun w hw => ?_)
      · rw [hgd, hnw]
        exact hRw.set (by rw [List.map_append]; exact hR2.app (.cons .non .nil)) o
      · rcases List.mem_or_eq_of_mem_set hw with h | h
        · have := hw5 w h; omega
        · rw [h, List.length_append]; show ws.length + 1 ≤ B + 1; omega
    | false =>
      have hA5 : AtC [V.ref tg, V.non] (if false = true then 1 else 0) (.ref tg) := ⟨rfl⟩
      wtm_at "vc"
      rename_i l9 H4 S6 H5 S7
      have S8 : Sx D2 ((ad, .lst (ws ++ [V.ref tg])) :: ([(rb, HO.lst (cs.map V.int)), (tg, HO.lst ((srtI (rwT (tfN o Rs Rs.length)).flatten).map V.int))] ++ (ownZ (ads.eraseIdx o) (wss.eraseIdx o) ++ L))) H5 := Sx.gc (S := S7)
      have S9 : Sx D2 ((rb, .lst (cs.map V.int)) :: (tg, .lst ((srtI (rwT (tfN o Rs Rs.length)).flatten).map V.int)) :: (ownZ ads (wss.set o (ws ++ [V.ref tg])) ++ L)) H5 := Sx.perm S8 (pm_back8 (w := ws ++ [V.ref tg]) (A := [(rb, HO.lst (cs.map V.int)), (tg, HO.lst ((srtI (rwT (tfN o Rs Rs.length)).flatten).map V.int))]) (P := L) had (List.getElem?_eq_some_iff.mp hws).1)
      obtain ⟨D3, e3, ktg, S10⟩ := Sx.fix1 (a := tg) (S := Sx.front (a := tg) (S := S9))
      refine q rb (wss.set o (ws ++ [.ref tg])) D3 _ (by rw [hrd]; exact S10) up (by rw [List.length_set]; exact hwl) ?_ (fun w hw => ?_)
      · rw [hgd, hnw]
        exact (hRw.up e3.e).set (by rw [List.map_append]; exact RpAll.app (hR2.up e3.e) (.cons (.lstI ktg.pf) .nil)) o
      · rcases List.mem_or_eq_of_mem_set hw with h | h
        · have := hw5 w h; omega
        · rw [h, List.length_append]; show ws.length + 1 ≤ B + 1; omega
abbrev st__law_is_phase : Stmt := topS 17
theorem sc__law_is_phase : FnScope ["reels", "phase", "out", "many", "counts", "reel"] ["reels", "phase"] (defScope st__law_is_phase) := ⟨rfl, rfl, rfl, by decide +kernel, rfl, by decide +kernel, by decide +kernel⟩
def sp__law_is_phase (K : PySem.W.Frag) : Sp := fun vs H Q _ => ∃ (D : Hp) (L : Own) (th t : Addr) (ads : List Addr) (vss : List (List V)) (cs : List Int) (o m : Int), vs = [.ref th, .ref t] ∧ Sx D (ownZ ads vss ++ L) H ∧ Kn D th (.lst (ads.map V.ref)) ∧ Kn D t (.tup [.int o, .int m]) ∧ ads.length = vss.length ∧ vss.length ≤ 1000 ∧ cs = vss.map (fun v => (v.length : Int)) ∧
  ∀ r H', Sx D (ownZ ads vss ++ L) H' → (r = true ↔ isPh cs (o, m)) → Q (.bl r) H'
theorem ok__law_is_phase {fA : Addr} {fd : FuncData} (F : Fun K "_law_is_phase" "_law_is_phase" st__law_is_phase fA fd) (b_len : mg "len" = none) (b_max : mg "max" = none) : FnOk P w K mg base CX0 1 fA fd ["reels", "phase"] (sp__law_is_phase K) := by
  refine F.ok sc__law_is_phase (fun vs H Q E h => ?_) (fun cdv A outer s H vs Q E hr h => ?_)
  · obtain ⟨D, L, th, t, ads, vss, cs, o, m, rfl, S, kth, kt, hal, hvl, hcs, q⟩ := h
    rfl
  · obtain ⟨D, L, th, t, ads, vss, cs, o, m, rfl, S, kth, kt, hal, hvl, hcs, q⟩ := h
    have hu : (A.deeper (envOfC "_law_is_phase" (defScope st__law_is_phase) s.heap.objs.size fA cdv)).units + 64 < cLine := by have := hr.un; omega
    refine ⟨_, (pss_cons (ps_asg (pv 1) (pg_tupK K 2 rfl (pgs_cons (pg_name (i := 2) sc__law_is_phase.nd rfl (Or.inl rfl)) (pgs_cons (pg_name (i := 3) sc__law_is_phase.nd rfl (Or.inl rfl)) pgs_nil))))
      (pss_cons (ps_setLc (i := 4) (own := [("reel", 5)]) (tt := tYes) rfl sc__law_is_phase.nd rfl rfl (sw_true rfl rfl rfl (by decide +kernel)) (pi_seqK K (pv 0)) (blkOk_by (N := ["reels", "phase", "out", "many", "counts", "reel"]) (sc := defScope st__law_is_phase) (by decide +kernel)) (fun _ _ _ _ _ => (pg_name (i := 5) sc__law_is_phase.nd rfl (Or.inl rfl))) (fun _ _ _ _ _ => pts_nil) (fun _ _ _ _ _ => (pe_callB (r := rLen K) call_lenN (by rfl) b_len bb_len (pa_cons (pv 5) pa_nil))))
      (pss_one (ps_ret (pe_and (pe_chain op_le op_lt pe_int (pv 2) (pe_callB (r := rLen K) call_lenN (by rfl) b_len bb_len (pa_cons (pv 0) pa_nil))) (pe_and (pe_cmpR (r := rEqX K) (opEq hu) (pe_ix (r := rIx K) ix_seq (pv 4) (pv 2) (fun _ _ => rfl)) pe_int (nomark _)) (pe_one (pe_chain op_le op_le pe_int (pv 3) (pe_callB (r := rMaxY K) (cr_maxY rfl hu) (by rfl) b_max bb_max (pa_cons (pv 4) pa_nil)))))))))), ?_⟩
    refine st_start (σ' := [some _, some _, none, none, none, none]) rfl (fun bk ct => ?_)
    have hcl : cs.length = vss.length := by rw [hcs, List.length_map]
    wtm_at "vc"
    refine lc_vals (S := S) (walk_list (xs := ads.map V.ref)) (by rw [List.length_map]; omega) (cs.map V.int) (by rw [List.length_map, List.length_map]; omega) (fun p acc H' S' => Rds.sq S' (rsD kth.pf)) (fun k v q2 acc H5 H6 hk S5 hy Ad hA => ?_) (fun lb H5 S5 => ?_)
    · obtain ⟨rfl, hv⟩ := hy
      rw [List.getElem?_map] at hv
      obtain ⟨ad, had, rfl⟩ := Option.map_eq_some_iff.mp hv
      have hkl := (List.getElem?_eq_some_iff.mp had).1
      obtain ⟨ws, hws⟩ : ∃ ws, vss[k]? = some ws := ⟨_, List.getElem?_eq_getElem (by omega)⟩
      have hSl : Sl K D ((q2, .lst acc) :: (ownZ ads vss ++ L)) ad ws := sl_own8 (A := [(q2, HO.lst acc)]) had hws
      wtm_at "vc"
      refine hA _ _ S5 ?_
      rw [hcs, List.map_map, List.getElem?_map, hws]
      rfl
    have no : ¬ isPh cs (o, m) → ∀ H2, Sx D (ownZ ads vss ++ L) H2 → Q (.bl false) H2 := fun h H2 S2 => q false H2 S2 ⟨fun h2 => absurd h2 (by decide), fun h2 => absurd h2 h⟩
    have S6 : Sx D (ownZ ads vss ++ L) H5 := Sx.gc (S := S5)
    have Sb : Sx D ((lb, .lst (cs.map V.int)) :: (ownZ ads vss ++ L)) H5 := S5
    clear S S5
    have hadl : (ads.map V.ref).length = ads.length := List.length_map _
    by_cases h1 : 0 ≤ o
    rotate_left
    · clear S6
      wtm_at "vc"
      exact no (fun h => h1 h.1) _ (Sx.gc (S := Sb))
    by_cases h2 : o < (cs.length : Int)
    rotate_left
    · clear S6
      wtm_at "vc"
      exact no (fun h => h2 h.2.1) _ (Sx.gc (S := Sb))
    obtain ⟨z, hz⟩ : ∃ z, cs[o.toNat]? = some z := ⟨_, List.getElem?_eq_getElem (by omega)⟩
    have hA : AtC (cs.map V.int) o (.int z) := ⟨atN h1 (mapI hz)⟩
    have hgd : cs.getD o.toNat 0 = z := by rw [List.getD_eq_getElem?_getD, hz]; rfl
    by_cases h3 : z = 0
    rotate_left
    · clear S6
      wtm_at "vc"
      exact no (fun h => h3 (by rw [← hgd]; exact h.2.2.1)) _ (Sx.gc (S := Sb))
    by_cases h4 : 1 ≤ m
    rotate_left
    · clear S6
      wtm_at "vc"
      exact no (fun h => h4 h.2.2.2.1) _ (Sx.gc (S := Sb))
    have hne : cs ≠ [] := fun e => by rw [e] at hz; simp at hz
    clear S6
    wtm_at "vc"
    refine q _ _ (Sx.gc (S := Sb)) ⟨fun h => ⟨h1, h2, by rw [hgd]; exact h3, h4, _, mxL_mem hne, of_decide_eq_true h⟩, fun h => ?_⟩
    obtain ⟨_, _, _, _, c, hc, hmc⟩ := h
    have h9 := mxL_ge hc
    have hmc2 : m ≤ c := hmc
    exact decide_eq_true (by omega)
abbrev st__law_played : Stmt := topS 19
theorem sc__law_played : FnScope ["reels", "phases", "reel", "read", "at", "sums", "turn", "one", "other"] ["reels", "phases"] (defScope st__law_played) := ⟨rfl, rfl, rfl, by decide +kernel, rfl, by decide +kernel, by decide +kernel⟩
def sp__law_played (K : PySem.W.Frag) : Sp := fun vs H Q _ => ∃ (D : Hp) (L : Own) (a b : Addr) (us : List V) (Rs : List (List Rw)) (ps : List (Int × Int)) (pus : List V), vs = [.ref a, .ref b] ∧ Sx D L H ∧ Kn D a (.lst us) ∧ RpAll D us (Rs.map reelQ) ∧ Kn D b (.lst pus) ∧ RpAll D pus (ps.map pI) ∧ okPl Rs ps ∧ Rs.length ≤ 1000 ∧ (∀ R, R ∈ Rs → R.length ≤ 4000) ∧ (allT Rs).length ≤ 10000 ∧ ps.length ≤ 1000 ∧
  ∀ (t th rb : Addr) (us' : List V) (rus : List V) D' H', Sx D' L H' → Sm D D' → Kn D' t (.tup [.ref th, .ref rb]) → Kn D' th (.lst us') → RpAll D' us' ((plQ Rs ps).1.map reelQ) → Kn D' rb (.lst rus) → RpAll D' rus ((plQ Rs ps).2.map lI) → Q (.ref t) H'
theorem ok__law_played {fA : Addr} {fd : FuncData} (F : Fun K "_law_played" "_law_played" st__law_played fA fd) (b_len : mg "len" = none) (b_list : mg "list" = none) (b_range : mg "range" = none) (b_zip : mg "zip" = none)
    (C__law_is_phase : Cl P w K mg base CX0 1 "_law_is_phase" ["reels", "phase"] (sp__law_is_phase K))
    (C__law_merging : Cl P w K mg base CX0 1 "_law_merging" ["reels", "out"] (sp__law_merging K)) : FnOk P w K mg base CX0 2 fA fd ["reels", "phases"] (sp__law_played K) := by
  refine F.ok sc__law_played (fun vs H Q E h => ?_) (fun cdv A outer s H vs Q E hr h => ?_)
  · obtain ⟨D, L, a, b, us, Rs, ps, pus, rfl, S, ka, hU, kb, hP, hok, hl, hRl, hall, hpl, q⟩ := h
    rfl
  · obtain ⟨D, L, a, b, us, Rs, ps, pus, rfl, S, ka, hU, kb, hP, hok, hl, hRl, hall, hpl, q⟩ := h
    have hu : (A.deeper (envOfC "_law_played" (defScope st__law_played) s.heap.objs.size fA cdv)).units + 64 < cLine := by have := hr.un; omega
    refine ⟨_, (pss_cons (ps_setLc (i := 0) (own := [("reel", 2)]) (tt := tYes) rfl sc__law_played.nd rfl rfl (sw_true rfl rfl rfl (by decide +kernel)) (pi_seqK K (pv 0)) (blkOk_by (N := ["reels", "phases", "reel", "read", "at", "sums", "turn", "one", "other"]) (sc := defScope st__law_played) (by decide +kernel)) (fun _ _ _ _ _ => (pg_name (i := 2) sc__law_played.nd rfl (Or.inl rfl))) (fun _ _ _ _ _ => pts_nil) (fun _ _ _ _ _ => (pe_callTy (r := rLstOf K) call_lstN (by rfl) b_list bb_list (pa_cons (pv 2) pa_nil))))
      (pss_cons (ps_set (i := 3) sc__law_played.nd rfl (Or.inl rfl) (pe_lst pa_nil))
      (pss_cons (ps_for PassesOwn.never rfl (pi_range1 (by rfl) b_range (pa_cons (pe_callB (r := rLen K) call_lenN (by rfl) b_len bb_len (pa_cons (pv 1) pa_nil)) pa_nil)) (pg_name (i := 4) sc__law_played.nd rfl (Or.inl rfl))
      (pss_cons (ps_if (pt_not (pt_val (pe_cl C__law_is_phase hr (by decide) (by rfl) (pa_cons (pv 0) (pa_cons (pe_ix (r := rIx K) ix_seq (pv 1) (pv 4) (fun _ _ => rfl)) pa_nil))))) (pss_one (ps_ret (pv 4))) pss_nil)
      (pss_cons (ps_setLc (i := 5) (own := [("reel", 2)]) (tt := tYes) rfl sc__law_played.nd rfl rfl (sw_true rfl rfl rfl (by decide +kernel)) (pi_seqK K (pv 0)) (blkOk_by (N := ["reels", "phases", "reel", "read", "at", "sums", "turn", "one", "other"]) (sc := defScope st__law_played) (by decide +kernel)) (fun _ _ _ _ _ => (pg_name (i := 2) sc__law_played.nd rfl (Or.inl rfl))) (fun _ _ _ _ _ => pts_nil) (fun _ _ _ _ _ => pe_int))
      (pss_cons (ps_for PassesOwn.never rfl (pi_range1 (by rfl) b_range (pa_cons (pe_ix (r := rIx K) ix_seq (pe_ix (r := rIx K) ix_seq (pv 1) (pv 4) (fun _ _ => rfl)) pe_int (fun _ _ => rfl)) pa_nil)) (pg_name (i := 6) sc__law_played.nd rfl (Or.inl rfl))
      (pss_one (ps_setLc (i := 5) (own := [("one", 7), ("other", 8)]) (tt := tYes) rfl sc__law_played.nd rfl rfl (sw_true rfl rfl rfl (by decide +kernel)) (pi_zipM K (by rfl) b_zip (pa_cons (pv 5) (pa_cons (pe_cl C__law_merging hr (by decide) (by rfl) (pa_cons (pv 0) (pa_cons (pe_ix (r := rIx K) ix_seq (pe_ix (r := rIx K) ix_seq (pv 1) (pv 4) (fun _ _ => rfl)) pe_int (fun _ _ => rfl)) pa_nil))) pa_nil))) (blkOk_by (N := ["reels", "phases", "reel", "read", "at", "sums", "turn", "one", "other"]) (sc := defScope st__law_played) (by decide +kernel)) (fun _ _ _ _ _ => (pg_tupK K 2 rfl (pgs_cons (pg_name (i := 7) sc__law_played.nd rfl (Or.inl rfl)) (pgs_cons (pg_name (i := 8) sc__law_played.nd rfl (Or.inl rfl)) pgs_nil)))) (fun _ _ _ _ _ => pts_nil) (fun _ _ _ _ _ => (pe_op (r := rAddX K) opAdd (pv 7) (pv 8))))))
      (pss_one (ps_expr (pe_bm PySem.F.plainAttrs_list PySem.F.slot_list_append PySem.F.type_list_append mt_append (pv 3) (pa_cons (pv 5) pa_nil))))))))
      (pss_one (ps_ret (pe_tup (pa_cons (pv 0) (pa_cons (pv 3) pa_nil)))))))), ?_⟩
    refine st_start (σ' := [some _, some _, none, none, none, none, none, none, none]) rfl (fun bk ct => ?_)
    have hul : us.length = Rs.length := by have := hU.length; rw [List.length_map] at this; exact this
    have hpul : pus.length = ps.length := by have := hP.length; rw [List.length_map] at this; exact this
    wtm_at "vc"
    refine lc_goL (S := S) (walk_list (xs := us)) (by omega) (fun i acc D' L' => D' = D ∧ ∃ (ads : List Addr) (vss : List (List V)), acc = ads.map V.ref ∧ ads.length = i ∧ vss.length = i ∧ RsA D vss (Rs.take i) ∧ L' = ownZ ads vss ++ L) ⟨rfl, [], [], rfl, rfl, rfl, .nil, rfl⟩ (fun D' L' p acc H' e' S' => Rds.sq S' (rsD (e'.e _ _ ka.pf))) (fun i v q2 acc D6 L6 H6 H7 hi e6 S6 hR6 hy Ad Sk hA hS => ?_) (fun th D6 L6 acc H7 e6 S6 hR6 => ?_)
    · obtain ⟨rfl, hv⟩ := hy
      obtain ⟨rfl, ads, vss, rfl, hal, hvl, hRs, rfl⟩ := hR6
      obtain ⟨d, hd, hp⟩ := hU.getV hv
      rw [List.getElem?_map] at hd
      obtain ⟨R, hRi, rfl⟩ := Option.map_eq_some_iff.mp hd
      obtain ⟨g, ys, rfl, kg, hys⟩ := reelQ_inv hp
      have hyl : ys.length ≤ 4000 := by have h1 := hys.length; rw [List.length_map] at h1; have := hRl R (List.mem_of_getElem? hRi); omega
      wtm_at "vc"
      rename_i l1 H8 S8
      have e1 : ownZ (ads ++ [l1]) (vss ++ [ys]) = ownZ ads vss ++ [(l1, .lst ys)] := zipW_snoc _ (by omega) _ _
      refine hA _ D6 (ownZ (ads ++ [l1]) (vss ++ [ys]) ++ L) _ Sm.rfl' (by rw [e1]; exact Sx.perm S8 ((List.Perm.swap _ _ _).trans ((pm_mid8 _ _ _).cons _))) ⟨rfl, ads ++ [l1], vss ++ [ys], by rw [List.map_append]; rfl, by rw [List.length_append, hal]; rfl, by rw [List.length_append, hvl]; rfl, ?_, rfl⟩
      rw [List.take_add_one, hRi]
      exact hRs.app (.cons hys .nil)
    obtain ⟨rfl, ads, vss0, rfl, hal, hvl0, hRs0, rfl⟩ := hR6
    rw [hul] at hal hvl0 hRs0
    rw [List.take_length] at hRs0
    obtain ⟨D1, e1, kth, S7⟩ := Sx.fix1 (a := th) (S := S6)
    clear S6
    have hb0 : ∀ w, w ∈ vss0 → w.length ≤ 4000 := fun w hw => by
      obtain ⟨i, hi⟩ := List.getElem?_of_mem hw
      obtain ⟨R, hR1, hR2⟩ := hRs0.get hi
      have h1 := hR2.length
      rw [List.length_map] at h1
      have := hRl R (List.mem_of_getElem? hR1)
      omega
    wtm_at "vc"
    rename_i rb H8 S8
    refine for_go (walk_rng (lo := 0) (n := ((pus.length : Nat) : Int).toNat)) (fun i σ H => ∃ (D2 : Hp) (vss : List (List V)) (rus : List V) (x2 x4 x5 x6 x7 x8 : Option V), σ = [some (.ref th), some (.ref b), x2, some (.ref rb), x4, x5, x6, x7, x8] ∧ Sm D1 D2 ∧ Sx D2 ((rb, .lst rus) :: (ownZ ads vss ++ L)) H ∧ vss.length = Rs.length ∧ RsA D2 vss (plQ Rs (ps.take i)).1 ∧ RpAll D2 rus ((plQ Rs (ps.take i)).2.map lI))
      ⟨D1, vss0, [], _, _, _, _, _, _, rfl, Sm.rfl', S8, hvl0, hRs0.up e1.e, .nil⟩ (fun _ _ _ _ _ => trivial) (fun i v σ H9 H10 hi ⟨D2, vss, rus, x2, x4, x5, x6, x7, x8, es, e2, S9, hvl, hRs, hrus⟩ hy nx bk hN => ?_) (fun σ H9 ⟨D2, vss, rus, x2, x4, x5, x6, x7, x8, es, e2, S9, hvl, hRs, hrus⟩ => ?_)
    · obtain ⟨rfl, rfl⟩ := hy
      subst es
      rw [Int.toNat_natCast, hpul] at hi
      obtain ⟨pp, hpp⟩ : ∃ p, ps[i]? = some p := ⟨_, List.getElem?_eq_getElem hi⟩
      obtain ⟨u, hu⟩ : ∃ u, pus[i]? = some u := ⟨_, List.getElem?_eq_getElem (by omega)⟩
      obtain ⟨g2, pp2, rfl, hpp2, kg2⟩ := ra_getP (hP.up (up : Sm D6 D2).e) hu
      obtain rfl : pp2 = pp := by rw [hpp] at hpp2; exact (Option.some.inj hpp2).symm
      have hA1 : AtC pus (0 + (i : Int)) (.ref g2) := ⟨atN (by omega) (by rw [show (0 + (i : Int)).toNat = i by omega]; exact hu)⟩
      have hok2 := okPl_app (ps.take i) (ps.drop i) Rs (by rw [List.take_append_drop]; exact hok)
      obtain ⟨hoa, hob⟩ := hok2
      have hdp : ps.drop i = pp2 :: ps.drop (i + 1) := by rw [List.drop_eq_getElem_cons hi, (List.getElem?_eq_some_iff.mp hpp).2]
      rw [hdp] at hob
      have hph : isPh (cntI (plQ Rs (ps.take i)).1) pp2 := hob.1
      obtain ⟨q1, q2, q3⟩ := pl_inv (B := 4000) _ _ hoa hRl
      obtain ⟨X, hX⟩ : ∃ X, X = (plQ Rs (ps.take i)).1 := ⟨_, rfl⟩
      rw [← hX] at hRs hph q1 q2 q3
      obtain ⟨o, ho⟩ : ∃ o : Nat, pp2.1 = (o : Int) := ⟨pp2.1.toNat, by have := hph.1; omega⟩
      have hol : o < Rs.length := by have := hph.2.1; unfold cntI at this; rw [List.length_map] at this; omega
      have hm1 : 1 ≤ pp2.2 := hph.2.2.2.1
      have hm4 : pp2.2 ≤ 4000 := by
        obtain ⟨_, _, _, _, c, hc, hmc⟩ := hph
        obtain ⟨R, hR, rfl⟩ := List.mem_map.mp hc
        have := q2 R hR
        have hmc : pp2.2 ≤ (R.length : Int) := hmc
        omega
      have hb1 : ∀ w, w ∈ vss → w.length ≤ 4000 := fun w hw => by
        obtain ⟨i, hi⟩ := List.getElem?_of_mem hw
        obtain ⟨R, hR1, hR2⟩ := hRs.get hi
        have h1 := hR2.length
        rw [List.length_map] at h1
        have := q2 R (List.mem_of_getElem? hR1)
        omega
      wtm_at "vc"
      refine ⟨D2, _, th, g2, ads, vss, _, pp2.1, pp2.2, rfl, Sx.perm S9 List.perm_middle.symm, inferInstance, kg2, by omega, by omega, rfl, fun r H11 S10 hr => ?_⟩
      obtain rfl : r = true := hr.mpr (by rw [rsA_cnt8 hRs]; exact hph)
      clear S7 S8 S9
      wtm_at "vc"
      refine lc_vals (S := S10) (walk_list (xs := ads.map V.ref)) (by rw [List.length_map]; omega) ((zerI Rs.length).map V.int) (by unfold zerI; rw [List.length_map, List.length_map, List.length_replicate]; omega) (fun p acc H' S' => Rds.sq S' (rsD ((up : Sm D1 D2).e _ _ kth.pf))) (fun k v q2' acc H12 H13 hk S11 hy Ad hA => ?_) (fun sm H12 S11 => ?_)
      · obtain ⟨rfl, hv⟩ := hy
        wtm_at "vc"
        refine hA _ _ S11 ?_
        unfold zerI
        rw [List.map_replicate, List.getElem?_replicate, if_pos (by rw [List.length_map] at hk; omega)]
      wtm_at "vc"
      refine for_go (walk_rng (lo := 0) (n := pp2.2.toNat)) (fun k σ H => ∃ (D3 : Hp) (sm : Addr) (vs3 : List (List V)) (x2 x6 x7 x8 : Option V), σ = [some (.ref th), some (.ref b), x2, some (.ref rb), some (.int (0 + (i : Int))), some (.ref sm), x6, x7, x8] ∧ Sm D2 D3 ∧ Sx D3 ((sm, .lst ((phZ o (X, zerI X.length) k).2.map V.int)) :: (ownZ ads vs3 ++ ((rb, .lst rus) :: L))) H ∧ vs3.length = Rs.length ∧ RsA D3 vs3 (phZ o (X, zerI X.length) k).1 ∧ (∀ w, w ∈ vs3 → w.length ≤ 4000 + k))
        ⟨D2, sm, vss, _, _, _, _, rfl, Sm.rfl', by rw [q1]; exact S11, hvl, hRs, hb1⟩ (fun _ _ _ _ _ => trivial) (fun k v σ H13 H14 hk ⟨D3, sm, vs3, x2, x6, x7, x8, es, e3, S12, hv3, hR3, hb3⟩ hy nx2 bk2 hN2 => ?_) (fun σ H13 ⟨D3, sm, vs3, x2, x6, x7, x8, es, e3, S12, hv3, hR3, hb3⟩ => ?_)
      · obtain ⟨rfl, rfl⟩ := hy
        subst es
        clear S10 S11
        wtm_at "vc"
        obtain ⟨zl1, zl2⟩ := phZ_len o (X, zerI X.length) k
        have hpp9 := (ph_perm (o := o) (s := (X, zerI X.length)) (by show o < X.length; omega) k).length_eq
        obtain ⟨st, hst⟩ : ∃ st, st = phZ o (X, zerI X.length) k := ⟨_, rfl⟩
        rw [← hst] at S12 hR3 zl1 zl2 hpp9
        have zl1 : st.1.length = Rs.length := zl1.trans q1
        have zl2 : st.2.length = Rs.length := zl2.trans ((List.length_replicate).trans q1)
        have hall9 : (allT st.1).length ≤ 10000 := by
          have h1 := q3.length_eq
          have h2 : (allT st.1).length = (allT X).length := hpp9
          omega
        refine ⟨_, _, th, ads, vs3, st.1, o, 4000 + k, by rw [ho], Sx.perm S12 List.perm_middle.symm, inferInstance, by omega, hR3, by omega, by omega, hall9, by omega, hb3, fun rb2 vs4 D4 H15 S13 e4 hv4 hR4 hb4 => ?_⟩
        rw [zl1] at S13 hR4
        have S14 := Sx.perm S13 ((List.perm_middle (a := (sm, HO.lst (st.2.map V.int))) (l₁ := ownZ ads vs4) (l₂ := (rb, HO.lst rus) :: L)).cons _)
        have hrl9 : (rdT (tfN o st.1 Rs.length) (zerI Rs.length)).length = Rs.length := by rw [rdT_len]; exact List.length_replicate
        clear S12 S13
        wtm_at "vc"
        refine lc_go (S := S14) (walk_zip (xs := st.2.map V.int) (ys := (rdT (tfN o st.1 Rs.length) (zerI Rs.length)).map V.int) (n := Rs.length) (by rw [List.length_map, List.length_map]; omega)) (by omega) (fun j acc D' => acc = ((List.zipWith (· + ·) st.2 (rdT (tfN o st.1 Rs.length) (zerI Rs.length))).take j).map V.int) rfl (fun D' p acc H' e' S' => ⟨Rds.sq S' rs2, Rds.sq S' rs1⟩) (fun j v q2' acc D5 H16 H17 hj e5 S15 hRj hy Ad Sk hA hS => ?_) (fun sm2 D5 acc H16 e5 S15 hRj => ?_)
        · obtain ⟨T, xa, xb, D10, rfl, hx, hz, e10, hT, S16⟩ := pair_step hy
          obtain ⟨u1, hu1, rfl⟩ := getI hx
          obtain ⟨u2, hu2, rfl⟩ := getI hz
          wtm_at "vc"
          refine hA _ D10 _ e10 S16 ?_
          rw [hRj, List.take_add_one, List.getElem?_zipWith, hu1, hu2, List.map_append]
          rfl
        rw [List.take_of_length_le (by rw [List.length_zipWith]; omega)] at hRj
        have e8 : phZ o (X, zerI X.length) (k + 1) = mgS o st := by rw [hst]; rfl
        have e9 : (mgS o st).2 = List.zipWith (· + ·) st.2 (rdT (tfN o st.1 Rs.length) (zerI Rs.length)) := by
          show rdT (tfN o st.1 st.1.length) st.2 = _
          rw [zw_rdT8 _ _ _ (by unfold zerI; rw [List.length_replicate]; omega), zl1]
          congr 1
          rw [← zl2]
          exact (zw_zer8 _).symm
        subst hRj
        wtm_at "vc"
        have S16 : Sx D5 ((sm2, .lst ((List.zipWith (· + ·) st.2 (rdT (tfN o st.1 Rs.length) (zerI Rs.length))).map V.int)) :: (ownZ ads vs4 ++ ((rb, .lst rus) :: L))) H16 := Sx.gc (S := S15)
        refine hN2 _ _ ⟨D5, sm2, vs4, _, _, _, _, rfl, up, by rw [e8, e9]; exact S16, by omega, ?_, fun w hw => by have := hb4 w hw; omega⟩
        rw [e8]
        show RsA D5 vs4 ((tkN o st.1 st.1.length).set o _)
        rw [zl1]
        exact hR4.up e5.e
      subst es
      have hrul : rus.length ≤ 1000 := by have h1 := hrus.length; rw [List.length_map, plQ_len8, List.length_take] at h1; omega
      have S13 := Sx.perm S12 ((List.perm_middle.cons _).trans (List.Perm.swap _ _ _))
      clear S10 S11 S12
      wtm_at "vc"
      rename_i H14 S14
      obtain ⟨D4, e4, ksm, S15⟩ := Sx.fix1 (a := sm) (S := Sx.front (a := sm) (S := S14))
      have e9 : plQ Rs (ps.take (i + 1)) = ((phZ o (X, zerI X.length) pp2.2.toNat).1, (plQ Rs (ps.take i)).2 ++ [(phZ o (X, zerI X.length) pp2.2.toNat).2]) := by
        rw [take_sn hpp, plQ_snoc, ← hX]
        unfold phQ
        rw [ho]
        rfl
      refine hN _ _ ⟨D4, vs3, rus ++ [.ref sm], _, _, _, _, _, _, rfl, up, S15, hv3, ?_, ?_⟩
      · rw [e9]
        exact hR3.up e4.e
      · rw [e9]
        show RpAll D4 _ (((plQ Rs (ps.take i)).2 ++ [_]).map lI)
        rw [List.map_append]
        exact RpAll.app (hrus.up (up : Sm D2 D4).e) (.cons (.lstI ksm.pf) .nil)
    subst es
    rw [Int.toNat_natCast, hpul, List.take_length] at hRs hrus
    wtm_at "vc"
    rename_i t9 D3 H10 S10 e3 k9
    obtain ⟨D4, e4, krb, S11⟩ := Sx.fix1 (a := rb) (S := S10)
    obtain ⟨D5, e5, S12, hk5, _, _⟩ := Sx.fixZ2 ads vss D4 (by omega) S11
    exact q t9 th rb (ads.map V.ref) rus D5 _ S12 up inferInstance inferInstance (rs_all8 (hRs.up (up : Sm D2 D5).e) ads (by omega) hk5) inferInstance (hrus.up (up : Sm D2 D5).e)
abbrev st_copied_row : Stmt := topS 6
theorem sc_copied_row : FnScope ["row"] ["row"] (defScope st_copied_row) := ⟨rfl, rfl, rfl, by decide +kernel, rfl, by decide +kernel, by decide +kernel⟩
def sp_copied_row (K : PySem.W.Frag) : Sp := fun vs H Q _ => ∃ (D : Hp) (L : Own) (v : V) (r : Rw), vs = [v] ∧ Sx D L H ∧ (match r with | none => v = .non | some ns => ∃ a, v = .ref a ∧ Ks D a (ns.map V.int)) ∧
  ∀ (u : V) D' H', Sx D' L H' → Sm D D' → Rp D' u (rwD r) → (∀ a, a ∈ adV u → D a = none ∧ ∃ o, D' a = some o) → Q u H'
theorem ok_copied_row {fA : Addr} {fd : FuncData} (F : Fun K "copied_row" "copied_row" st_copied_row fA fd) (b_list : mg "list" = none) : FnOk P w K mg base CX0 1 fA fd ["row"] (sp_copied_row K) := by
  refine F.ok sc_copied_row (fun vs H Q E h => ?_) (fun cdv A outer s H vs Q E hr h => ?_)
  · obtain ⟨D, L, v, r, rfl, S, hv, q⟩ := h
    rfl
  · obtain ⟨D, L, v, r, rfl, S, hv, q⟩ := h
    have hu : (A.deeper (envOfC "copied_row" (defScope st_copied_row) s.heap.objs.size fA cdv)).units + 64 < cLine := by have := hr.un; omega
    refine ⟨_, (pss_cons (ps_if (pt_cmpR op_isN1 (pv 0) pe_non (nomark _)) (pss_one (ps_ret pe_non)) pss_nil)
      (pss_one (ps_ret (pe_callTy (r := rLstOf K) call_lstN (by rfl) b_list bb_list (pa_cons (pv 0) pa_nil))))), ?_⟩
    refine st_start (σ' := [some _]) rfl (fun bk ct => ?_)
    cases r with
    | none =>
      subst hv
      wtm_at "vc"
      exact q .non D _ S Sm.rfl' .non fun a h => absurd h List.not_mem_nil
    | some ns =>
      obtain ⟨a, rfl, ka⟩ := hv
      wtm_at "vc"
      rename_i b H1 S1
      have hb := (S1.ow (b, _) List.mem_cons_self).2
      obtain ⟨D1, e1, k1, S2⟩ := Sx.fix1 (a := b) (S := S1)
      refine q (.ref b) D1 _ S2 e1 (.lstI k1.pf) fun c hc => ?_
      rw [List.mem_singleton.mp hc]
      exact ⟨hb, _, k1.pf⟩
abbrev st_is_phase : Stmt := topS 7
theorem sc_is_phase : FnScope ["counts", "phase", "out", "many"] ["counts", "phase"] (defScope st_is_phase) := ⟨rfl, rfl, rfl, by decide +kernel, rfl, by decide +kernel, by decide +kernel⟩
def sp_is_phase (K : PySem.W.Frag) : Sp := fun vs H Q _ => ∃ (D : Hp) (L : Own) (b t : Addr) (cs : List Int) (o m : Int), vs = [.ref b, .ref t] ∧ Sx D L H ∧ Ml D L b (cs.map V.int) ∧ Kn D t (.tup [.int o, .int m]) ∧
  ∀ r H', Sx D L H' → (r = true ↔ isPh cs (o, m)) → Q (.bl r) H'
theorem ok_is_phase {fA : Addr} {fd : FuncData} (F : Fun K "is_phase" "is_phase" st_is_phase fA fd) (b_len : mg "len" = none) (b_max : mg "max" = none) : FnOk P w K mg base CX0 1 fA fd ["counts", "phase"] (sp_is_phase K) := by
  refine F.ok sc_is_phase (fun vs H Q E h => ?_) (fun cdv A outer s H vs Q E hr h => ?_)
  · obtain ⟨D, L, b, t, cs, o, m, rfl, S, hb, ht, q⟩ := h
    rfl
  · obtain ⟨D, L, b, t, cs, o, m, rfl, S, hb, ht, q⟩ := h
    have hu : (A.deeper (envOfC "is_phase" (defScope st_is_phase) s.heap.objs.size fA cdv)).units + 64 < cLine := by have := hr.un; omega
    refine ⟨_, (pss_cons (ps_asg (pv 1) (pg_tupK K 2 rfl (pgs_cons (pg_name (i := 2) sc_is_phase.nd rfl (Or.inl rfl)) (pgs_cons (pg_name (i := 3) sc_is_phase.nd rfl (Or.inl rfl)) pgs_nil))))
      (pss_one (ps_ret (pe_and (pe_chain op_le op_lt pe_int (pv 2) (pe_callB (r := rLen K) call_lenN (by rfl) b_len bb_len (pa_cons (pv 0) pa_nil))) (pe_and (pe_cmpR (r := rEqX K) (opEq hu) (pe_ix (r := rIx K) ix_seq (pv 0) (pv 2) (fun _ _ => rfl)) pe_int (nomark _)) (pe_one (pe_chain op_le op_le pe_int (pv 3) (pe_callB (r := rMaxY K) (cr_maxY rfl hu) (by rfl) b_max bb_max (pa_cons (pv 0) pa_nil))))))))), ?_⟩
    refine st_start (σ' := [some _, some _, none, none]) rfl (fun bk ct => ?_)
    have no : ¬ isPh cs (o, m) → Q (.bl false) H := fun h => q false H S ⟨fun h2 => absurd h2 (by decide), fun h2 => absurd h2 h⟩
    by_cases h1 : 0 ≤ o
    rotate_left
    · wtm_at "vc"
      exact no fun h => h1 h.1
    by_cases h2 : o < (cs.length : Int)
    rotate_left
    · wtm_at "vc"
      exact no fun h => h2 h.2.1
    obtain ⟨z, hz⟩ : ∃ z, cs[o.toNat]? = some z := ⟨_, List.getElem?_eq_getElem (by omega)⟩
    have hA : AtC (cs.map V.int) o (.int z) := ⟨atN h1 (mapI hz)⟩
    have hgd : cs.getD o.toNat 0 = z := by rw [List.getD_eq_getElem?_getD, hz]; rfl
    by_cases h3 : z = 0
    rotate_left
    · wtm_at "vc"
      exact no fun h => h3 (by rw [← hgd]; exact h.2.2.1)
    by_cases h4 : 1 ≤ m
    rotate_left
    · wtm_at "vc"
      exact no fun h => h4 h.2.2.2.1
    have hne : cs ≠ [] := fun e => by rw [e] at hz; simp at hz
    wtm_at "vc"
    refine q _ H S ⟨fun h => ⟨h1, h2, by rw [hgd]; exact h3, h4, _, mxL_mem hne, of_decide_eq_true h⟩, fun h => ?_⟩
    obtain ⟨_, _, _, _, c, hc, hmc⟩ := h
    have h9 := mxL_ge hc
    have hmc2 : m ≤ c := hmc
    exact decide_eq_true (by omega)
abbrev st_merged_row : Stmt := topS 4
theorem sc_merged_row : FnScope ["rows", "found", "row"] ["rows"] (defScope st_merged_row) := ⟨rfl, rfl, rfl, by decide +kernel, rfl, by decide +kernel, by decide +kernel⟩
def sp_merged_row (K : PySem.W.Frag) : Sp := fun vs H Q _ => ∃ (D : Hp) (L : Own) (a : Addr) (us : List V) (rs : List (List Int)), vs = [.ref a] ∧ Sx D L H ∧ Ml D L a us ∧ RpAll D us (rs.map lI) ∧ rs.length ≤ 1000 ∧ (∀ r, r ∈ rs → r.length ≤ 10000) ∧
  ∀ (b : Addr) (ns : List Int) D' H', Sx D' ((b, .lst (ns.map V.int)) :: L) H' → Sm D D' → ns.Perm rs.flatten → ns.Pairwise (· ≤ ·) → Q (.ref b) H'
theorem ok_merged_row {fA : Addr} {fd : FuncData} (F : Fun K "merged_row" "merged_row" st_merged_row fA fd) (b_sorted : mg "sorted" = none) : FnOk P w K mg base CX0 1 fA fd ["rows"] (sp_merged_row K) := by
  refine F.ok sc_merged_row (fun vs H Q E h => ?_) (fun cdv A outer s H vs Q E hr h => ?_)
  · obtain ⟨D, L, a, us, rs, rfl, S, ha, hR, hl, hlr, q⟩ := h
    rfl
  · obtain ⟨D, L, a, us, rs, rfl, S, ha, hR, hl, hlr, q⟩ := h
    have hu : (A.deeper (envOfC "merged_row" (defScope st_merged_row) s.heap.objs.size fA cdv)).units + 64 < cLine := by have := hr.un; omega
    refine ⟨_, (pss_cons (ps_set (i := 1) sc_merged_row.nd rfl (Or.inl rfl) (pe_lst pa_nil))
      (pss_cons (ps_for PassesOwn.never rfl (pi_seqK K (pv 0)) (pg_name (i := 2) sc_merged_row.nd rfl (Or.inl rfl))
      (pss_one (ps_expr (pe_bm PySem.F.plainAttrs_list PySem.F.slot_list_extend PySem.F.type_list_extend mt_extend (pv 1) (pa_cons (pv 2) pa_nil)))))
      (pss_one (ps_ret (pe_callB (r := rSortedW K) cr_sortedW (by rfl) b_sorted bb_sorted (pa_cons (pv 1) pa_nil)))))), ?_⟩
    refine st_start (σ' := [some _, none, none]) rfl (fun bk ct => ?_)
    have hul : us.length = rs.length := by have := RpAll.length hR; rw [List.length_map] at this; exact this
    have hfl := flat_len hlr
    wtm_at "vc"
    rename_i fo H1 S1
    refine for_go (walk_list (xs := us)) (fun i σ H => ∃ (x2 : Option V), σ = [some (.ref a), some (.ref fo), x2] ∧ Sx D ((fo, .lst (((rs.take i).flatten).map V.int)) :: L) H)
      ⟨none, rfl, S1⟩ (fun i σ H _ ⟨x2, es, S2⟩ => (ha.pf.rds.push).sq S2) (fun i v σ H2 H3 hi ⟨x2, es, S2⟩ hy nx bk hN => ?_) (fun σ H2 ⟨x2, es, S2⟩ => ?_)
    · obtain ⟨rfl, hv⟩ := hy
      subst es
      obtain ⟨g, r, rfl, hr', hgk⟩ := ra_getL hR hv
      have h1 := hlr r (List.mem_of_getElem? hr')
      have h2 := flat_len (rs := rs.take i) (m := 10000) fun x hx => hlr x (List.mem_of_mem_take hx)
      have h3 : (rs.take i).length ≤ rs.length := by rw [List.length_take]; omega
      wtm_at "vc"
      rename_i H4 S4
      refine hN _ _ ⟨_, rfl, ?_⟩
      rw [List.take_add_one, hr', List.flatten_append, List.map_append]
      show Sx D ((fo, .lst ((rs.take i).flatten.map V.int ++ ([r].flatten).map V.int)) :: L) H4
      rw [show ([r] : List (List Int)).flatten = r by rw [List.flatten_cons, List.flatten_nil, List.append_nil]]
      exact S4
    subst es
    rw [hul, List.take_of_length_le (Nat.le_refl _)] at S2
    wtm_at "vc"
    rename_i ns' h1 h2 p5 H5 S5
    exact q p5 ns' D _ Sx.gc Sm.rfl' h1 h2
abbrev st_taken_off : Stmt := topS 8
theorem sc_taken_off : FnScope ["reels", "out", "found", "number", "reel"] ["reels", "out"] (defScope st_taken_off) := ⟨rfl, rfl, rfl, by decide +kernel, rfl, by decide +kernel, by decide +kernel⟩
def sp_taken_off (K : PySem.W.Frag) : Sp := fun vs H Q _ => ∃ (D D0 : Hp) (L : Own) (th : Addr) (ads : List Addr) (vss : List (List V)) (Rs : List (List Rw)) (o : Nat), vs = [.ref th, .int (o : Int)] ∧ Sx D (ownZ ads vss ++ L) H ∧ Kn D th (.lst (ads.map V.ref)) ∧ ads.length = vss.length ∧ RsA D vss Rs ∧ Fq D0 D vss ∧ vss.length ≤ 1000 ∧
  ∀ (b : Addr) (us : List V) (wss : List (List V)) D' H', Sx D' ((b, .lst us) :: (ownZ ads wss ++ L)) H' → Sm D D' → wss.length = vss.length → RsA D' wss (tkN o Rs vss.length) → TkA D' us (tfN o Rs vss.length) → Fq D0 D' wss → (∀ j, o = j → wss[j]? = vss[j]?) → (∀ (j : Nat) (x y : List V), wss[j]? = some x → vss[j]? = some y → x.length ≤ y.length) → Q (.ref b) H'
theorem ok_taken_off {fA : Addr} {fd : FuncData} (F : Fun K "taken_off" "taken_off" st_taken_off fA fd) (b_enumerate : mg "enumerate" = none) (b_len : mg "len" = none) : FnOk P w K mg base CX0 1 fA fd ["reels", "out"] (sp_taken_off K) := by
  refine F.ok sc_taken_off (fun vs H Q E h => ?_) (fun cdv A outer s H vs Q E hr h => ?_)
  · obtain ⟨D, D0, L, th, ads, vss, Rs, o, rfl, S, kth, hal, hR, hF, hl, q⟩ := h
    rfl
  · obtain ⟨D, D0, L, th, ads, vss, Rs, o, rfl, S, kth, hal, hR, hF, hl, q⟩ := h
    have hu : (A.deeper (envOfC "taken_off" (defScope st_taken_off) s.heap.objs.size fA cdv)).units + 64 < cLine := by have := hr.un; omega
    refine ⟨_, (pss_cons (ps_set (i := 2) sc_taken_off.nd rfl (Or.inl rfl) (pe_lst pa_nil))
      (pss_cons (ps_for PassesOwn.never rfl (pi_enX K (by rfl) b_enumerate (pa_cons (pv 0) pa_nil)) (pg_tupK K 2 rfl (pgs_cons (pg_name (i := 3) sc_taken_off.nd rfl (Or.inl rfl)) (pgs_cons (pg_name (i := 4) sc_taken_off.nd rfl (Or.inl rfl)) pgs_nil)))
      (pss_one (ps_if (PW.pt (pw_and (pt_cmpR (r := rNeX K) (opNe hu) (pv 3) (pv 1) (nomark _)) (pw_and1 (pt_cmpR op_gt (pe_callB (r := rLen K) call_lenN (by rfl) b_len bb_len (pa_cons (pv 4) pa_nil)) pe_int (nomark _))))) (pss_one (ps_expr (pe_bm PySem.F.plainAttrs_list PySem.F.slot_list_append PySem.F.type_list_append mt_append (pv 2) (pa_cons (pe_tup (pa_cons (pv 3) (pa_cons (pe_bm PySem.F.plainAttrs_list PySem.F.slot_list_pop PySem.F.type_list_pop mt_popAtX (pv 4) (pa_cons pe_int pa_nil)) pa_nil))) pa_nil)))) pss_nil)))
      (pss_one (ps_ret (pv 2))))), ?_⟩
    refine st_start (σ' := [some _, some _, none, none, none]) rfl (fun bk ct => ?_)
    have hRl := hR.len
    wtm_at "vc"
    rename_i fo H1 S1
    refine for_go (walk_enum (xs := ads.map V.ref)) (fun i σ H => ∃ (D2 : Hp) (us : List V) (wss : List (List V)) (x3 x4 : Option V), σ = [some (.ref th), some (.int (o : Int)), some (.ref fo), x3, x4] ∧ Sm D D2 ∧ Sx D2 ((fo, .lst us) :: (ownZ ads wss ++ L)) H ∧ wss.length = vss.length ∧ RsA D2 wss (tkN o Rs i) ∧ TkA D2 us (tfN o Rs i) ∧ us.length ≤ i ∧ Fq D0 D2 wss ∧ (∀ j, o = j ∨ i ≤ j → wss[j]? = vss[j]?) ∧ (∀ (j : Nat) (x y : List V), wss[j]? = some x → vss[j]? = some y → x.length ≤ y.length))
      ⟨D, [], vss, none, none, rfl, Sm.rfl', S1, rfl, hR, .nil, Nat.le_refl _, hF, fun _ _ => rfl, fun j x y hx hy => by rw [hx] at hy; cases hy; exact Nat.le_refl _⟩ (fun i σ H _ ⟨D2, us, wss, x3, x4, es, e2, S, _⟩ => (rsD (K := K) (L := []) (e2.e _ _ kth.pf)).sq S.tail') (fun i v σ H2 H3 hi ⟨D2, us, wss, x3, x4, es, e2, S, hwl, hRw, hT, hul, hFw, hsame, hle⟩ hy nx bk hN => ?_) (fun σ H2 ⟨D2, us, wss, x3, x4, es, e2, S, hwl, hRw, hT, hul, hFw, hsame, hle⟩ => ?_)
    rotate_left
    · subst es
      rw [List.length_map, hal] at hRw hT
      wtm_at "vc"
      exact q fo us wss D2 _ S e2 hwl hRw hT hFw (fun j h => hsame j (.inl h)) hle
    rw [List.length_map] at hi
    obtain ⟨T, x1, z, D6, rfl, hx, hz, e6, hT6, S6⟩ := pair_step hy
    have ex1 : x1 = .int (i : Int) := (Option.some.inj hx).symm
    subst ex1
    have hai : ads[i]? = some ads[i] := List.getElem?_eq_getElem hi
    rw [List.getElem?_map, hai] at hz
    have ez : z = .ref ads[i] := (Option.some.inj hz).symm
    subst ez
    obtain ⟨a, ha⟩ : ∃ a, a = ads[i] := ⟨_, rfl⟩
    rw [← ha] at hai
    have hwi : wss[i]? = some wss[i] := List.getElem?_eq_getElem (by omega)
    obtain ⟨ws, hws⟩ : ∃ ws, ws = wss[i] := ⟨_, rfl⟩
    rw [← hws] at hwi
    have S7 := Sx.perm S6 ((ownZ_front (L := L) hai hwi).cons (fo, .lst us))
    subst es
    rw [← ha] at hT6
    have hlate : (tkN o Rs i)[i]? = Rs[i]? := tkN_late o Rs i i (Nat.le_refl _)
    have hRi : Rs[i]? = some Rs[i] := List.getElem?_eq_getElem (by omega)
    have hgd : (tkN o Rs i).getD i [] = Rs[i] := by rw [List.getD_eq_getElem?_getD, hlate, hRi]; rfl
    obtain ⟨R, hR1, hR2⟩ := hRw.get hwi
    rw [hlate, hRi] at hR1
    have eR := Option.some.inj hR1
    wtm_at "vc"
    by_cases hio : i = o
    · refine if_ndf (by omega) ?_
      wtm_at "vc"
      refine hN _ _ ⟨D6, us, wss, _, _, rfl, up, S6, hwl, ?_, ?_, by omega, hFw.sub e6.e (List.Sublist.refl _), fun j h => hsame j (by omega), hle⟩
      · unfold tkN
        rw [if_pos hio]
        exact hRw.up e6.e
      · unfold tfN
        rw [if_pos hio, List.append_nil]
        exact hT.up e6
    refine if_ndt (by omega) ?_
    wtm_at "vc"
    cases ws with
    | nil =>
      have er : R = [] := by
        have := hR2.length
        rw [List.length_map] at this
        exact List.eq_nil_of_length_eq_zero this.symm
      rw [er] at eR
      refine if_df (by simp) ?_
      wtm_at "vc"
      refine hN _ _ ⟨D6, us, wss, _, _, rfl, up, S6, hwl, ?_, ?_, by omega, hFw.sub e6.e (List.Sublist.refl _), fun j h => hsame j (by omega), hle⟩
      · unfold tkN
        rw [if_neg hio, hgd, eR]
        show RsA D6 wss ((tkN o Rs i).set i [])
        rw [set_id (by rw [hlate, hRi, eR])]
        exact hRw.up e6.e
      · unfold tfN
        rw [if_neg hio, hgd, eR]
        show TkA D6 us (tfN o Rs i ++ [])
        rw [List.append_nil]
        exact hT.up e6
    | cons w ws =>
      cases R with
      | nil => have := hR2.length; simp at this
      | cons r R =>
        obtain ⟨hr1, hr2⟩ : Rp D2 w (rwD r) ∧ RpAll D2 ws (R.map rwD) := by cases hR2 with | cons h1 h2 => exact ⟨h1, h2⟩
        refine if_dt (by simp) ?_
        wtm_at "vc"
        rename_i H7 S8 p8 D8 H8 S9 e8 k8 H9 S10
        have hwi2 : i < wss.length := (List.getElem?_eq_some_iff.mp hwi).1
        have S11 : Sx D8 ((fo, .lst (us ++ [.ref p8])) :: (ownZ ads (wss.set i ws) ++ L)) H9 := Sx.perm S10 ((ownZ_back (L := L) hai hwi2).cons _)
        have hsub := adS_sub hwi
        refine hN _ _ ⟨D8, us ++ [.ref p8], wss.set i ws, _, _, rfl, up, S11, by rw [List.length_set]; exact hwl, ?_, ?_, by rw [List.length_append]; simp only [List.length_cons, List.length_nil]; omega, hFw.sub (up : Sm D2 D8).e hsub, fun j h => ?_, fun j x y hx hy => ?_⟩
        · unfold tkN
          rw [if_neg hio, hgd, eR]
          exact (hRw.up (up : Sm D2 D8).e).set (hr2.up (up : Sm D2 D8).e) i
        · unfold tfN
          rw [if_neg hio, hgd, eR]
          exact (hT.up (up : Sm D2 D8)).app (.cons k8 (hr1.up (up : Sm D2 D8).e) .nil)
        · rw [List.getElem?_set, if_neg (by omega)]
          exact hsame j (by omega)
        · rw [List.getElem?_set] at hx
          by_cases c : i = j
          · subst c
            rw [if_pos rfl, if_pos hwi2] at hx
            have h1 := hle i _ y hwi hy
            rw [← Option.some.inj hx]
            simp only [List.length_cons] at h1
            omega
          · rw [if_neg c] at hx
            exact hle j x y hx hy
abbrev st_phase_played : Stmt := topS 9
theorem sc_phase_played : FnScope ["reels", "phase", "out", "many", "read", "reel", "turn", "taken", "rows", "number", "row"] ["reels", "phase"] (defScope st_phase_played) := ⟨rfl, rfl, rfl, by decide +kernel, rfl, by decide +kernel, by decide +kernel⟩
def sp_phase_played (K : PySem.W.Frag) : Sp := fun vs H Q _ => ∃ (D D0 : Hp) (L : Own) (th t : Addr) (ads : List Addr) (vss : List (List V)) (Rs : List (List Rw)) (o m : Int), vs = [.ref th, .ref t] ∧ Sx D (ownZ ads vss ++ L) H ∧ Kn D th (.lst (ads.map V.ref)) ∧ Kn D t (.tup [.int o, .int m]) ∧ ads.length = vss.length ∧ RsA D vss Rs ∧ Fq D0 D vss ∧ Sm D0 D ∧ vss.length ≤ 1000 ∧ 0 ≤ o ∧ o < (vss.length : Int) ∧ 0 ≤ m ∧ m ≤ 100000 ∧ (∀ x, x ∈ vss → (x.length : Int) ≤ 100000) ∧ (allT Rs).length ≤ 10000 ∧
  ∀ (rb : Addr) (wss : List (List V)) D' H', Sx D' ((rb, .lst ((phQ (o, m) Rs).2.map V.int)) :: (ownZ ads wss ++ L)) H' → Sm D D' → wss.length = vss.length → RsA D' wss (phQ (o, m) Rs).1 → Fq D0 D' wss → Q (.ref rb) H'
theorem ok_phase_played {fA : Addr} {fd : FuncData} (F : Fun K "phase_played" "phase_played" st_phase_played fA fd) (b_len : mg "len" = none) (b_range : mg "range" = none)
    (C_merged_row : Cl P w K mg base CX0 1 "merged_row" ["rows"] (sp_merged_row K))
    (C_taken_off : Cl P w K mg base CX0 1 "taken_off" ["reels", "out"] (sp_taken_off K)) : FnOk P w K mg base CX0 2 fA fd ["reels", "phase"] (sp_phase_played K) := by
  refine F.ok sc_phase_played (fun vs H Q E h => ?_) (fun cdv A outer s H vs Q E hr h => ?_)
  · obtain ⟨D, D0, L, th, t, ads, vss, Rs, o, m, rfl, S, kth, kt, hal, hR, hF, e0, hl, o0, o1, m0, m1, hvl, hall, q⟩ := h
    rfl
  · obtain ⟨D, D0, L, th, t, ads, vss, Rs, o, m, rfl, S, kth, kt, hal, hR, hF, e0, hl, o0, o1, m0, m1, hvl, hall, q⟩ := h
    have hu : (A.deeper (envOfC "phase_played" (defScope st_phase_played) s.heap.objs.size fA cdv)).units + 64 < cLine := by have := hr.un; omega
    refine ⟨_, (pss_cons (ps_asg (pv 1) (pg_tupK K 2 rfl (pgs_cons (pg_name (i := 2) sc_phase_played.nd rfl (Or.inl rfl)) (pgs_cons (pg_name (i := 3) sc_phase_played.nd rfl (Or.inl rfl)) pgs_nil))))
      (pss_cons (ps_setLc (i := 4) (own := [("reel", 5)]) (tt := tYes) rfl sc_phase_played.nd rfl rfl (sw_true rfl rfl rfl (by decide +kernel)) (pi_seqK K (pv 0)) (blkOk_by (N := ["reels", "phase", "out", "many", "read", "reel", "turn", "taken", "rows", "number", "row"]) (sc := defScope st_phase_played) (by decide +kernel)) (fun _ _ _ _ _ => (pg_name (i := 5) sc_phase_played.nd rfl (Or.inl rfl))) (fun _ _ _ _ _ => pts_nil) (fun _ _ _ _ _ => pe_int))
      (pss_cons (ps_for PassesOwn.never rfl (pi_range1 (by rfl) b_range (pa_cons (pv 3) pa_nil)) (pg_name (i := 6) sc_phase_played.nd rfl (Or.inl rfl))
      (pss_cons (ps_set (i := 7) sc_phase_played.nd rfl (Or.inl rfl) (pe_cl C_taken_off hr (by decide) (by rfl) (pa_cons (pv 0) (pa_cons (pv 2) pa_nil))))
      (pss_cons (ps_setLc (i := 8) (own := [("number", 9), ("row", 10)])  rfl sc_phase_played.nd rfl rfl (sw_true rfl rfl rfl (by decide +kernel)) (pi_seqK K (pv 7)) (blkOk_by (N := ["reels", "phase", "out", "many", "read", "reel", "turn", "taken", "rows", "number", "row"]) (sc := defScope st_phase_played) (by decide +kernel)) (fun _ _ _ _ _ => (pg_tupK K 2 rfl (pgs_cons (pg_name (i := 9) sc_phase_played.nd rfl (Or.inl rfl)) (pgs_cons (pg_name (i := 10) sc_phase_played.nd rfl (Or.inl rfl)) pgs_nil)))) (fun _ _ _ _ _ => (pts_one (pt_cmpR op_notN1 (pv 10) pe_non (nomark _)))) (fun _ _ _ _ _ => (pv 10)))
      (pss_cons (ps_for PassesOwn.never rfl (pi_seqK K (pv 7)) (pg_tupK K 2 rfl (pgs_cons (pg_name (i := 9) sc_phase_played.nd rfl (Or.inl rfl)) (pgs_cons (pg_name (i := 10) sc_phase_played.nd rfl (Or.inl rfl)) pgs_nil)))
      (pss_one (ps_if (pt_cmpR op_notN1 (pv 10) pe_non (nomark _)) (pss_one (ps_asg (pe_op (r := rAddX K) opAdd (pe_ix (r := rIx K) ix_seq (pv 4) (pv 9) (fun _ _ => rfl)) (pe_callB (r := rLen K) call_lenN (by rfl) b_len bb_len (pa_cons (pv 10) pa_nil))) (pg_sub (pv 4) (pv 9) set_list))) pss_nil)))
      (pss_one (ps_if (pt_cmpR (r := rEqX K) (opEq hu) (pe_callB (r := rLen K) call_lenN (by rfl) b_len bb_len (pa_cons (pv 8) pa_nil)) pe_int (nomark _)) (pss_one (ps_expr (pe_bm PySem.F.plainAttrs_list PySem.F.slot_list_append PySem.F.type_list_append mt_append (pe_ix (r := rIx K) ix_seq (pv 0) (pv 2) (fun _ _ => rfl)) (pa_cons pe_non pa_nil)))) (pss_one (ps_expr (pe_bm PySem.F.plainAttrs_list PySem.F.slot_list_append PySem.F.type_list_append mt_append (pe_ix (r := rIx K) ix_seq (pv 0) (pv 2) (fun _ _ => rfl)) (pa_cons (pe_cl C_merged_row hr (by decide) (by rfl) (pa_cons (pv 8) pa_nil)) pa_nil))))))))))
      (pss_one (ps_ret (pv 4)))))), ?_⟩
    refine st_start (σ' := [some _, some _, none, none, none, none, none, none, none, none, none]) rfl (fun bk ct => ?_)
    have hRl := hR.len
    wtm_at "vc"
    refine lc_vals (walk_list (xs := ads.map V.ref)) (by rw [List.length_map]; omega) (List.replicate ads.length (V.int 0)) (by rw [List.length_replicate, List.length_map]) (fun p acc H' S' => (rsD (K := K) (L := []) kth.pf).sq S'.tail') (fun i v p9 acc H3 H4 hi S3 hy Ad hA => ?_) (fun rb H3 S3 => ?_)
    · obtain ⟨rfl, hv⟩ := hy
      rw [List.length_map] at hi
      wtm_at "vc"
      exact hA _ _ S3 (by rw [List.getElem?_replicate, if_pos hi])
    have hads : ads.length = Rs.length := by omega
    have hrb0 : List.replicate ads.length (V.int 0) = (zerI Rs.length).map V.int := by unfold zerI; rw [List.map_replicate, hads]
    rw [hrb0] at S3
    have S4 := Sx.perm S3 (List.perm_middle (a := (rb, HO.lst ((zerI Rs.length).map V.int))) (l₁ := ownZ ads vss) (l₂ := L)).symm
    wtm_at "vc"
    refine for_go walk_rng (fun k σ H => ∃ (D2 : Hp) (wss : List (List V)) (x5 x6 x7 x8 x9 x10 : Option V), σ = [some (.ref th), some (.ref t), some (.int o), some (.int m), some (.ref rb), x5, x6, x7, x8, x9, x10] ∧ Sm D D2 ∧ Sx D2 (ownZ ads wss ++ (rb, .lst ((phZ o.toNat (Rs, zerI Rs.length) k).2.map V.int)) :: L) H ∧ wss.length = vss.length ∧ RsA D2 wss (phZ o.toNat (Rs, zerI Rs.length) k).1 ∧ Fq D0 D2 wss ∧ ∀ x, x ∈ wss → (x.length : Int) ≤ 100000 + k)
      ⟨D, vss, _, _, _, _, _, _, rfl, Sm.rfl', S4, rfl, hR, hF, fun x hx => by have := hvl x hx; omega⟩ (fun _ _ _ _ _ => trivial) (fun k v σ H5 H6 hk ⟨D2, wss, x5, x6, x7, x8, x9, x10, es, e2, S, hwl, hRw, hFw, hlw⟩ hy nx bk2 hN => ?_) (fun σ H5 ⟨D2, wss, x5, x6, x7, x8, x9, x10, es, e2, S, hwl, hRw, hFw, hlw⟩ => ?_)
    rotate_left
    · subst es
      wtm_at "vc"
      exact q rb wss D2 _ (Sx.perm S List.perm_middle) e2 hwl hRw hFw
    obtain ⟨rfl, rfl⟩ := hy
    subst es
    obtain ⟨s, hs⟩ : ∃ s, s = phZ o.toNat (Rs, zerI Rs.length) k := ⟨_, rfl⟩
    rw [← hs] at S hRw
    obtain ⟨hs1, hs2⟩ := phZ_len o.toNat (Rs, zerI Rs.length) k
    rw [← hs] at hs1 hs2
    have hs1' : s.1.length = Rs.length := hs1
    have hs2' : s.2.length = Rs.length := by rw [hs2]; exact List.length_replicate
    have hsp : (allT s.1).length ≤ 10000 := by
      rw [hs, (ph_perm (o := o.toNat) (s := (Rs, zerI Rs.length)) (by show o.toNat < Rs.length; omega) k).length_eq]
      exact hall
    obtain ⟨tk, htk⟩ : ∃ tk, tk = tfN o.toNat s.1 s.1.length := ⟨_, rfl⟩
    have htl : tk.length ≤ Rs.length := by rw [htk, ← hs1']; exact tfN_len _ _ _
    have htn : ∀ p, p ∈ tk → p.1 < Rs.length := fun p hp => by rw [← hs1']; exact tfN_lt _ _ _ p (by rw [← htk]; exact hp)
    have htp := tk_perm o.toNat s.1 s.1.length (Nat.le_refl _)
    rw [← htk] at htp
    have hrf : (rwT tk).flatten.length ≤ 10000 := by
      have := htp.length_eq
      rw [List.length_append] at this
      omega
    have hrn : (rwT tk).length ≤ Rs.length := Nat.le_trans (List.length_filterMap_le _ _) htl
    wtm_at "vc"
    refine ⟨D2, D0, _, th, ads, wss, s.1, o.toNat, by rw [Int.toNat_of_nonneg o0], S, inferInstance, by omega, hRw, hFw, by omega, fun b us yss D3 H7 S7 e3 hyl hRy hTy hFy hsame hle => ?_⟩
    rw [show wss.length = s.1.length by omega] at hRy hTy
    rw [← htk] at hTy
    obtain ⟨D4, e4, k4, S8⟩ := Sx.fix1 (a := b) (S := S7)
    have hTy4 := hTy.up e4
    have hul := hTy.len
    wtm_at "vc"
    refine lc_go (S := S8) (walk_list (xs := us)) (by omega) (fun i acc D' => RpAll D' acc ((rwT (tk.take i)).map lI)) .nil (fun D' p acc H' e' S' => (rsD (K := K) (L := []) (e'.e _ _ k4.pf)).sq S'.tail') (fun i v p9 acc D5 H8 H9 hi e5 S5 hR5 hy Ad Sk hA hS => ?_) (fun rw_ D5 acc H8 e5 S9 hR5 => ?_)
    · obtain ⟨rfl, hv⟩ := hy
      obtain ⟨t1, n1, v1, r1, rfl, ht1, kt1, hv1⟩ := (hTy4.up e5).get hv
      have hst : rwT (tk.take (i + 1)) = rwT (tk.take i) ++ r1.toList := by
        rw [List.take_add_one, ht1, rwT_app]
        cases r1 <;> rfl
      rw [hst] at hA hS
      cases r1 with
      | none =>
        cases hv1
        wtm_at "vc"
        exact hS D5 _ Sm.rfl' S5 (by show RpAll D5 acc ((rwT (tk.take i) ++ []).map lI); rw [List.append_nil]; exact hR5)
      | some r =>
        obtain ⟨a1, rfl, ka1⟩ := Rp.inv_lstI hv1
        wtm_at "vc"
        refine hA _ D5 _ Sm.rfl' S5 ?_
        rw [List.map_append]
        exact RpAll.app hR5 (ra_oneL (k := ⟨ka1⟩) : RpAll D5 [.ref a1] ([r].map lI))
    rw [hul, List.take_length] at hR5
    have hal2 := hR5.length
    rw [List.length_map] at hal2
    wtm_at "vc"
    have S10 := Sx.perm S9 ((List.perm_middle (a := (rb, HO.lst (s.2.map V.int))) (l₁ := (rw_, HO.lst acc) :: ownZ ads yss) (l₂ := L)))
    refine for_go (walk_list (xs := us)) (fun i σ H => ∃ (x9 x10 : Option V), σ = [some (.ref th), some (.ref t), some (.int o), some (.int m), some (.ref rb), x5, some (.int (0 + (k : Int))), some (.ref b), some (.ref rw_), x9, x10] ∧ Sx D5 ((rb, .lst ((rdT (tk.take i) s.2).map V.int)) :: (rw_, .lst acc) :: (ownZ ads yss ++ L)) H)
      ⟨_, _, rfl, S10⟩ (fun i σ H hi ⟨x9, x10, es, S⟩ => (rsD (K := K) (L := []) (e5.e _ _ k4.pf)).sq S.tail') (fun i v σ H10 H11 hi ⟨x9, x10, es, S⟩ hy nx2 bk2 hN2 => ?_) (fun σ H10 ⟨x9, x10, es, S⟩ => ?_)
    · obtain ⟨rfl, hv⟩ := hy
      obtain ⟨t1, n1, v1, r1, rfl, ht1, kt1, hv1⟩ := (hTy4.up e5).get hv
      have hn1 := htn (n1, r1) (List.mem_of_getElem? ht1)
      have hrl := rdT_len (tk.take i) s.2
      have hst : rdT (tk.take (i + 1)) s.2 = rd1 (rdT (tk.take i) s.2) (n1, r1) := by
        unfold rdT
        rw [List.take_add_one, ht1, List.foldl_append]
        rfl
      subst es
      cases r1 with
      | none =>
        cases hv1
        wtm_at "vc"
        refine hN2 _ _ ⟨_, _, rfl, ?_⟩
        rw [hst]
        exact S
      | some r =>
        obtain ⟨a1, rfl, ka1⟩ := Rp.inv_lstI hv1
        have ka : Kn D5 a1 (.lst (r.map V.int)) := ⟨ka1⟩
        obtain ⟨z, hz⟩ : ∃ z, (rdT (tk.take i) s.2)[n1]? = some z := ⟨_, List.getElem?_eq_getElem (by rw [hrl, hs2']; exact hn1)⟩
        have hA1 : AtC ((rdT (tk.take i) s.2).map V.int) (n1 : Int) (.int z) := ⟨atN (by omega) (by rw [Int.toNat_natCast]; exact mapI hz)⟩
        have hll : ((rdT (tk.take i) s.2).map V.int).length = Rs.length := by rw [List.length_map, hrl, hs2']
        have hn2 : n1 < Rs.length := hn1
        wtm_at "vc"
        rename_i H12 S12
        refine hN2 _ _ ⟨_, _, rfl, ?_⟩
        rw [hst]
        have e1 : (rd1 (rdT (tk.take i) s.2) (n1, some r)).map V.int = ((rdT (tk.take i) s.2).map V.int).set (n1 : Int).toNat (V.int (z + (r.length : Int))) := by
          unfold rd1
          dsimp only
          rw [List.getD_eq_getElem?_getD, hz, List.map_set]
          rfl
        rw [e1]
        exact S12
    subst es
    rw [hul, List.take_length] at S
    have hoa : o.toNat < ads.length := by omega
    obtain ⟨a, ha⟩ : ∃ a, ads[o.toNat]? = some a := ⟨_, List.getElem?_eq_getElem hoa⟩
    obtain ⟨ys, hys⟩ : ∃ ys, yss[o.toNat]? = some ys := ⟨_, List.getElem?_eq_getElem (by omega)⟩
    have hyo : o.toNat < yss.length := by omega
    have hyw : wss[o.toNat]? = some ys := by rw [← hsame o.toNat rfl]; exact hys
    have hyl2 := hlw ys (List.mem_of_getElem? hyw)
    have hAo : AtC (ads.map V.ref) o (.ref a) := ⟨atN o0 (by rw [List.getElem?_map, ha]; rfl)⟩
    obtain ⟨R, hRo, hRys⟩ := hRy.get hys
    have hgd : (tkN o.toNat s.1 s.1.length).getD o.toNat [] = R := by rw [List.getD_eq_getElem?_getD, hRo]; rfl
    have Sf := Sx.perm S (((ownZ_front (L := L) ha hys).cons (rw_, HO.lst acc)).cons (rb, HO.lst ((rdT tk s.2).map V.int)))
    have hlen2 : ∀ (v : V) (x : List V), x ∈ yss.set o.toNat (ys ++ [v]) → (x.length : Int) ≤ 100000 + ((k + 1 : Nat) : Int) := fun v x hx => by
      rcases List.mem_or_eq_of_mem_set hx with h | h
      · obtain ⟨j, hj⟩ := List.getElem?_of_mem h
        obtain ⟨y, hy⟩ : ∃ y, wss[j]? = some y := ⟨_, List.getElem?_eq_getElem (by have := (List.getElem?_eq_some_iff.mp hj).1; omega)⟩
        have h1 := hle j x y hj hy
        have h2 := hlw y (List.mem_of_getElem? hy)
        omega
      · rw [h, List.length_append]
        simp only [List.length_cons, List.length_nil]
        omega
    have hph : phZ o.toNat (Rs, zerI Rs.length) (k + 1) = ((tkN o.toNat s.1 s.1.length).set o.toNat (R ++ [nwT tk]), rdT tk s.2) := by
      show mgS o.toNat (phZ o.toNat (Rs, zerI Rs.length) k) = _
      rw [← hs]
      unfold mgS
      rw [hgd, ← htk]
    have hRy5 := (hRy.up e4.e).up e5.e
    have hRys5 := (hRys.up e4.e).up e5.e
    have hFy5 := hFy.sub (up : Sm D3 D5).e (List.Sublist.refl _)
    wtm_at "vc"
    refine if_d (fun hz => ?_) (fun hz => ?_)
    · have hrw0 : rwT tk = [] := List.eq_nil_of_length_eq_zero (by omega)
      have hnw : nwT tk = none := by unfold nwT; rw [if_pos hrw0]
      wtm_at "vc"
      rename_i H12 S12
      have S13 : Sx D5 ((rb, .lst ((rdT tk s.2).map V.int)) :: (a, .lst (ys ++ [.non])) :: (ownZ (ads.eraseIdx o.toNat) (yss.eraseIdx o.toNat) ++ L)) H12 := Sx.gc
      have S14 := Sx.perm S13 (((ownZ_back (L := L) ha hyo).cons _).trans (List.perm_middle).symm)
      refine hN _ _ ⟨D5, _, _, _, _, _, _, _, rfl, up, ?_, by rw [List.length_set]; omega, ?_, hFy5.put (Same.refl _) hys (fun a h => absurd h List.not_mem_nil), hlen2 .non⟩
      · rw [hph]
        exact S14
      · rw [hph, hnw]
        refine hRy5.set ?_ _
        rw [List.map_append]
        exact RpAll.app hRys5 (.cons .non .nil)
    · have hrw0 : rwT tk ≠ [] := fun e => by rw [e] at hal2; exact hz (by rw [hal2]; rfl)
      wtm_at "vc"
      refine ⟨_, _, rw_, acc, rwT tk, rfl, Sf, inferInstance, hR5, by omega, fun r hr => by have := rwT_len hr; omega, fun p ns D6 H12 S12 e6 hnp hns => ?_⟩
      have ens := srtI_uniq hnp hns
      have hpn := (S12.ow (p, _) List.mem_cons_self).2
      obtain ⟨D7, e7, k7, S13⟩ := Sx.fix1 (a := p) (S := S12)
      have hnw : nwT tk = some ns := by unfold nwT; rw [if_neg hrw0, ens]
      have hp5 : D5 p = none := e6.e.free hpn
      wtm_at "vc"
      rename_i H14 S14
      have S15 : Sx D7 ((rb, .lst ((rdT tk s.2).map V.int)) :: (a, .lst (ys ++ [.ref p])) :: (ownZ (ads.eraseIdx o.toNat) (yss.eraseIdx o.toNat) ++ L)) H14 := Sx.gc
      have S16 := Sx.perm S15 (((ownZ_back (L := L) ha hyo).cons _).trans (List.perm_middle).symm)
      have e57 : Sm D5 D7 := up
      refine hN _ _ ⟨D7, _, _, _, _, _, _, _, rfl, up, ?_, by rw [List.length_set]; omega, ?_, hFy5.put e57.e hys (fun c hc => ?_), hlen2 (.ref p)⟩
      · rw [hph]
        exact S16
      · rw [hph, hnw]
        refine (hRy5.up e57.e).set ?_ _
        rw [List.map_append]
        exact RpAll.app (hRys5.up e57.e) (.cons (.lstI k7.pf) .nil)
      · rw [List.mem_singleton.mp hc]
        refine ⟨(up : Sm D0 D5).e.free hp5, fun hm => ?_, _, k7.pf⟩
        obtain ⟨_, o2, h2⟩ := hFy5.fr p hm
        rw [hp5] at h2
        cases h2
abbrev st_play_rows : Stmt := topS 10
theorem sc_play_rows : FnScope ["reels", "phases", "there", "reel", "row", "read", "at", "phase"] ["reels", "phases"] (defScope st_play_rows) := ⟨rfl, rfl, rfl, by decide +kernel, rfl, by decide +kernel, by decide +kernel⟩
def sp_play_rows (K : PySem.W.Frag) : Sp := fun vs H Q _ => ∃ (D : Hp) (L : Own) (a b : Addr) (us : List V) (Rs : List (List Rw)) (ps : List (Int × Int)) (pus : List V), vs = [.ref a, .ref b] ∧ Sx D L H ∧ Ks D a us ∧ InA D us Rs ∧ Ks D b pus ∧ RpAll D pus (ps.map pI) ∧ okPl Rs ps ∧ Rs.length ≤ 1000 ∧ (∀ R, R ∈ Rs → R.length ≤ 1000) ∧ (allT Rs).length ≤ 10000 ∧ ps.length ≤ 1000 ∧
  ∀ (t th rb : Addr) (ads : List Addr) (wss : List (List V)) (rus : List V) D' H', Sx D' ((rb, .lst rus) :: (ownZ ads wss ++ L)) H' → Sm D D' → Kn D' t (.tup [.ref th, .ref rb]) → Kn D' th (.lst (ads.map V.ref)) → ads.length = wss.length → RsA D' wss (plQ Rs ps).1 → Fq D D' wss → FqR D D' wss rus → RpAll D' rus ((plQ Rs ps).2.map lI) → Q (.ref t) H'
theorem ok_play_rows {fA : Addr} {fd : FuncData} (F : Fun K "play_rows" "play_rows" st_play_rows fA fd) (b_enumerate : mg "enumerate" = none) (b_len : mg "len" = none)
    (C_copied_row : Cl P w K mg base CX0 1 "copied_row" ["row"] (sp_copied_row K))
    (C_is_phase : Cl P w K mg base CX0 1 "is_phase" ["counts", "phase"] (sp_is_phase K))
    (C_phase_played : Cl P w K mg base CX0 2 "phase_played" ["reels", "phase"] (sp_phase_played K)) : FnOk P w K mg base CX0 3 fA fd ["reels", "phases"] (sp_play_rows K) := by
  refine F.ok sc_play_rows (fun vs H Q E h => ?_) (fun cdv A outer s H vs Q E hr h => ?_)
  · obtain ⟨D, L, a, b, us, Rs, ps, pus, rfl, S, ha, hI, hb, hP, hok, hl, hRl, hall, hpl, q⟩ := h
    rfl
  · obtain ⟨D, L, a, b, us, Rs, ps, pus, rfl, S, ha, hI, hb, hP, hok, hl, hRl, hall, hpl, q⟩ := h
    have hu : (A.deeper (envOfC "play_rows" (defScope st_play_rows) s.heap.objs.size fA cdv)).units + 64 < cLine := by have := hr.un; omega
    refine ⟨_, (pss_cons (ps_set (i := 2) sc_play_rows.nd rfl (Or.inl rfl) (pe_lst pa_nil))
      (pss_cons (ps_for PassesOwn.never rfl (pi_seqK K (pv 0)) (pg_name (i := 3) sc_play_rows.nd rfl (Or.inl rfl))
      (pss_one (ps_expr (pe_bm PySem.F.plainAttrs_list PySem.F.slot_list_append PySem.F.type_list_append mt_append (pv 2) (pa_cons (pe_lc (own := [("row", 4)]) (tt := tYes) rfl sc_play_rows.nd (pi_seqK K (pv 3)) (blkOk_by (N := ["reels", "phases", "there", "reel", "row", "read", "at", "phase"]) (sc := defScope st_play_rows) (by decide +kernel)) (fun _ _ _ _ _ => (pg_name (i := 4) sc_play_rows.nd rfl (Or.inl rfl))) (fun _ _ _ _ _ => pts_nil) (fun _ _ _ _ _ => (pe_cl C_copied_row hr (by decide) (by rfl) (pa_cons (pv 4) pa_nil)))) pa_nil)))))
      (pss_cons (ps_set (i := 5) sc_play_rows.nd rfl (Or.inl rfl) (pe_lst pa_nil))
      (pss_cons (ps_for PassesOwn.never rfl (pi_enX K (by rfl) b_enumerate (pa_cons (pv 1) pa_nil)) (pg_tupK K 2 rfl (pgs_cons (pg_name (i := 6) sc_play_rows.nd rfl (Or.inl rfl)) (pgs_cons (pg_name (i := 7) sc_play_rows.nd rfl (Or.inl rfl)) pgs_nil)))
      (pss_cons (ps_if (pt_not (pt_val (pe_cl C_is_phase hr (by decide) (by rfl) (pa_cons (pe_lc (own := [("reel", 3)]) (tt := tYes) rfl sc_play_rows.nd (pi_seqK K (pv 2)) (blkOk_by (N := ["reels", "phases", "there", "reel", "row", "read", "at", "phase"]) (sc := defScope st_play_rows) (by decide +kernel)) (fun _ _ _ _ _ => (pg_name (i := 3) sc_play_rows.nd rfl (Or.inl rfl))) (fun _ _ _ _ _ => pts_nil) (fun _ _ _ _ _ => (pe_callB (r := rLen K) call_lenN (by rfl) b_len bb_len (pa_cons (pv 3) pa_nil)))) (pa_cons (pv 7) pa_nil))))) pss_never pss_nil)
      (pss_one (ps_expr (pe_bm PySem.F.plainAttrs_list PySem.F.slot_list_append PySem.F.type_list_append mt_append (pv 5) (pa_cons (pe_cl C_phase_played hr (by decide) (by rfl) (pa_cons (pv 2) (pa_cons (pv 7) pa_nil))) pa_nil))))))
      (pss_one (ps_ret (pe_tup (pa_cons (pv 2) (pa_cons (pv 5) pa_nil))))))))), ?_⟩
    refine st_start (σ' := [some _, some _, none, none, none, none, none, none]) rfl (fun bk ct => ?_)
    have hIl := hI.len
    have hPl := hP.length
    rw [List.length_map] at hPl
    wtm_at "vc"
    rename_i th H1 S1 J G w hG
    refine for_go w (fun i σ H => ∃ (D2 : Hp) (ads : List Addr) (wss : List (List V)) (x3 x4 x5 x6 x7 : Option V), σ = [some (.ref a), some (.ref b), some (.ref th), x3, x4, x5, x6, x7] ∧ Sm D D2 ∧ Sx D2 ((th, .lst (ads.map V.ref)) :: (ownZ ads wss ++ L)) H ∧ ads.length = i ∧ wss.length = i ∧ RsA D2 wss (Rs.take i) ∧ Fq D D2 wss)
      ⟨D, [], [], _, _, _, _, _, rfl, Sm.rfl', S1, rfl, rfl, .nil, ⟨List.nodup_nil, fun a h => absurd h List.not_mem_nil⟩⟩ (fun i σ H hi ⟨D2, ads, wss, x3, x4, x5, x6, x7, es, e2, S, _⟩ => hG _ _ _ S e2) (fun i v σ H3 H4 hi ⟨D2, ads, wss, x3, x4, x5, x6, x7, es, e2, S, hal, hwl, hR, hF⟩ hy nx bk hN => ?_) (fun σ H3 ⟨D2, ads, wss, x3, x4, x5, x6, x7, es, e2, S, hal, hwl, hR, hF⟩ => ?_)
    · obtain ⟨rfl, hv⟩ := hy
      obtain ⟨c, cs, R, rfl, hRi, kc, hIc⟩ := hI.get hv
      have kc2 : Ks D2 c cs := inferInstance
      have hIc2 := hIc.up e2
      have hcl := hIc.len
      have hRb := hRl R (List.mem_of_getElem? hRi)
      subst es
      wtm_at "vc"
      rename_i J2 G2 w2 hG2
      refine lc_go (S := S) w2 (by omega) (fun j acc D' => RpAll D' acc ((R.take j).map rwD) ∧ (adR acc).Nodup ∧ ∀ a, a ∈ adR acc → D2 a = none ∧ ∃ o, D' a = some o) ⟨.nil, List.nodup_nil, fun a h => absurd h List.not_mem_nil⟩ (fun D' p acc H' e' S' => hG2 _ _ _ S' e') (fun j v p9 acc D5 H5 H6 hj e5 S5 hR5 hy Ad Sk hA hS => ?_) (fun nl D5 acc H5 e5 S5 hR5 => ?_)
      · obtain ⟨rfl, hv2⟩ := hy
        obtain ⟨r, hr, hin⟩ := hIc2.get hv2
        obtain ⟨hR5, hnd5, hfr5⟩ := hR5
        have hin5 := hin.up e5
        wtm_at "vc"
        refine ⟨_, _, v, r, rfl, S5, by cases r <;> exact hin5, fun u D6 H7 S6 e6 hu hfr6 => ?_⟩
        refine hA _ D6 _ e6 S6 ⟨?_, ?_, fun z hz => ?_⟩
        · rw [List.take_add_one, hr, List.map_append]
          exact RpAll.app (hR5.up e6.e) (.cons hu .nil)
        · rw [adR_app]
          have e1 : adR [u] = adV u := by simp [adR]
          rw [e1]
          refine List.nodup_append.mpr ⟨hnd5, ?_, fun x hx y hy e => ?_⟩
          · cases u <;> first | exact List.pairwise_singleton _ _ | exact List.nodup_nil
          · obtain ⟨_, o1, h1⟩ := hfr5 x hx
            have h2 := (hfr6 y hy).1
            rw [e, h2] at h1
            cases h1
        · rw [adR_app] at hz
          have e1 : adR [u] = adV u := by simp [adR]
          rw [e1] at hz
          rcases List.mem_append.mp hz with h | h
          · obtain ⟨h1, o1, h2⟩ := hfr5 z h
            exact ⟨h1, o1, e6.e _ _ h2⟩
          · obtain ⟨h1, h2⟩ := hfr6 z h
            exact ⟨e5.e.free h1, h2⟩
      obtain ⟨hR5, hnd5, hfr5⟩ := hR5
      rw [List.take_of_length_le (by omega)] at hR5
      have hads : ((ads.map V.ref)).length ≤ 1000 := by rw [List.length_map]; omega
      wtm_at "vc"
      rename_i H8 S8
      have S9 : Sx D5 ((th, .lst (ads.map V.ref ++ [V.ref nl])) :: (ownZ (ads ++ [nl]) (wss ++ [acc]) ++ L)) H8 := by
        have e1 : ownZ (ads ++ [nl]) (wss ++ [acc]) = ownZ ads wss ++ [(nl, .lst acc)] := zipW_snoc _ (by omega) _ _
        rw [e1]
        refine Sx.perm S8 ?_
        rw [List.append_assoc]
        refine (List.Perm.swap _ _ _).trans (List.Perm.cons _ ?_)
        exact (List.perm_middle).symm
      refine hN _ _ ⟨D5, ads ++ [nl], wss ++ [acc], _, _, _, _, _, rfl, up, ?_, by rw [List.length_append, hal]; rfl, by rw [List.length_append, hwl]; rfl, ?_, ?_, fun z hz => ?_⟩
      · rw [List.map_append]
        exact S9
      · rw [List.take_add_one, hRi]
        exact (hR.up e5.e).app (.cons hR5 .nil)
      · rw [adS_snoc]
        refine List.nodup_append.mpr ⟨hF.nd, hnd5, fun x hx y hy e => ?_⟩
        obtain ⟨_, o1, h1⟩ := hF.fr x hx
        have h2 := (hfr5 y hy).1
        rw [e, h2] at h1
        cases h1
      · rw [adS_snoc] at hz
        rcases List.mem_append.mp hz with h | h
        · obtain ⟨h1, o1, h2⟩ := hF.fr z h
          exact ⟨h1, o1, e5.e _ _ h2⟩
        · obtain ⟨h1, h2⟩ := hfr5 z h
          exact ⟨e2.e.free h1, h2⟩
    subst es
    rw [List.take_of_length_le (by omega)] at hR
    obtain ⟨D3, e3, k3, S2⟩ := Sx.fix1 (a := th) (S := S)
    have hR3 := hR.up e3.e
    have hF3 := hF.sub e3.e (List.Sublist.refl _)
    have hPD3 : RpAll D3 pus (ps.map pI) := hP.up (up : Sm D D3).e
    wtm_at "vc"
    rename_i rb H5 S5 J2 G2 w2 hG2
    refine for_go w2 (fun k σ H => ∃ (D4 : Hp) (wss : List (List V)) (rus : List V) (x3 x4 x6 x7 : Option V), σ = [some (.ref a), some (.ref b), some (.ref th), x3, x4, some (.ref rb), x6, x7] ∧ Sm D3 D4 ∧ Sx D4 ((rb, .lst rus) :: (ownZ ads wss ++ L)) H ∧ wss.length = ads.length ∧ RsA D4 wss (plQ Rs (ps.take k)).1 ∧ RpAll D4 rus ((plQ Rs (ps.take k)).2.map lI) ∧ rus.length ≤ k ∧ Fq D D4 wss ∧ FqR D D4 wss rus)
      ⟨D3, wss, [], _, _, _, _, rfl, Sm.rfl', S5, by omega, hR3, .nil, Nat.le_refl _, hF3, ⟨List.nodup_nil, fun a h => absurd h List.not_mem_nil, fun a _ h => absurd h List.not_mem_nil⟩⟩ (fun k σ H hk ⟨D4, wss, rus, x3, x4, x6, x7, es, e4, S, _⟩ => hG2 _ _ _ S e4) (fun k v σ H6 H7 hk ⟨D4, wss, rus, x3, x4, x6, x7, es, e4, S, hwl, hR, hU, hul, hF, hFr⟩ hy nx bk hN => ?_) (fun σ H6 ⟨D4, wss, rus, x3, x4, x6, x7, es, e4, S, hwl, hR, hU, hul, hF, hFr⟩ => ?_)
    rotate_left
    · subst es
      rw [hPl, List.take_length] at hR hU
      wtm_at "vc"
      rename_i t5 D5 H8 S8 e5 k5
      exact q t5 th rb ads wss rus D5 _ S8 up k5 inferInstance hwl.symm (hR.up e5.e) (hF.sub e5.e (List.Sublist.refl _)) (hFr.up e5) (hU.up e5.e)
    obtain ⟨T, x1, z, D6, rfl, hx, hz, e6, hT, S6⟩ := pair_step hy
    have ex1 : x1 = .int (k : Int) := (Option.some.inj hx).symm
    subst ex1
    obtain ⟨t2, pp, rfl, hpp, kt2⟩ := ra_getP (hPD3.up (up : Sm D3 D6).e) hz
    obtain ⟨o, m⟩ := pp
    have hsp : ps = ps.take k ++ (o, m) :: ps.drop (k + 1) := by
      have hkl := (List.getElem?_eq_some_iff.mp hpp).1
      have := (List.take_append_drop k ps).symm
      rw [List.drop_eq_getElem_cons hkl, (List.getElem?_eq_some_iff.mp hpp).2] at this
      exact this
    have hok2 := hok
    rw [hsp] at hok2
    obtain ⟨hok3, hok4, _⟩ := okPl_app _ _ _ hok2
    obtain ⟨i1, i2, i3⟩ := pl_inv (B := 1000) _ _ hok3 hRl
    obtain ⟨Rk, hRk⟩ : ∃ Rk, Rk = (plQ Rs (ps.take k)).1 := ⟨_, rfl⟩
    rw [← hRk] at hR hok4 i1 i2 i3
    have hRl2 := hR.len
    obtain ⟨hmB, hoB, _⟩ := ph_bound (B := 1000) hok4 i2
    have hmB2 : m ≤ 1000 := hmB
    have hoB2 : o.toNat < Rk.length := hoB
    have hok5 := hok4
    obtain ⟨ho0, ho1, ho2, hm1, _⟩ := hok5
    have ho0' : 0 ≤ o := ho0
    have hm1' : 1 ≤ m := hm1
    have hR6 := hR.up e6.e
    have hF6 := hF.sub e6.e (List.Sublist.refl _)
    have kth6 : Kn D6 th (.lst (ads.map V.ref)) := inferInstance
    subst es
    wtm_at "vc"
    refine lc_vals (S := S6) (walk_list (xs := ads.map V.ref)) (by rw [List.length_map]; omega) ((cntI Rk).map V.int) (by unfold cntI; rw [List.length_map, List.length_map, List.length_map]; omega) (fun p acc H' S' => (rsD (K := K) (L := []) kth6.pf).sq S'.tail') (fun i v p9 acc H8 H9 hi S8 hy Ad hA => ?_) (fun cb H8 S8 => ?_)
    · obtain ⟨rfl, hv⟩ := hy
      rw [List.length_map] at hi
      have hai : ads[i]? = some ads[i] := List.getElem?_eq_getElem hi
      rw [List.getElem?_map, hai] at hv
      cases hv
      obtain ⟨ws, hws⟩ : ∃ ws, wss[i]? = some ws := ⟨_, List.getElem?_eq_getElem (by omega)⟩
      obtain ⟨R, hRi, hRR⟩ := hR6.get hws
      have hsl : Sl K D6 ((p9, .lst acc) :: (rb, .lst rus) :: (ownZ ads wss ++ L)) ads[i] ws := ⟨.inl ⟨i + 2, by
        show (ownZ ads wss ++ L)[i]? = _
        rw [List.getElem?_append_left (by unfold ownZ; rw [List.length_zipWith]; omega)]
        exact ownZ_get hai hws⟩⟩
      have hlen := hRR.length
      rw [List.length_map] at hlen
      wtm_at "vc"
      refine hA _ _ S8 ?_
      unfold cntI
      rw [List.getElem?_map, List.getElem?_map, hRi, hlen]
      rfl
    wtm_at "vc"
    refine ⟨_, _, cb, t2, cntI Rk, o, m, rfl, S8, inferInstance, kt2, fun r H10 S10 hr => ?_⟩
    have hrt : r = true := hr.mpr hok4
    subst hrt
    have S11 : Sx D6 ((rb, .lst rus) :: (ownZ ads wss ++ L)) H10 := S10.tail
    have S12 := Sx.perm S11 (List.perm_middle (a := (rb, HO.lst rus)) (l₁ := ownZ ads wss) (l₂ := L)).symm
    wtm_at "vc"
    refine ⟨D6, exD D D6 rus, _, th, t2, ads, wss, Rk, o, m, rfl, S12, kth6, kt2, hwl.symm, hR6, (hFr.up e6).ex hF6, exD_sm (up : Sm D D6), by omega, ho0', by omega, by omega, by omega, fun x hx => ?_, by rw [i3.length_eq]; exact hall, fun nb yss D7 H12 S13 e7 hyl hRy hFy => ?_⟩
    · obtain ⟨j, hj⟩ := List.getElem?_of_mem hx
      obtain ⟨R, hRj, hRR⟩ := hR6.get hj
      have h1 := hRR.length
      rw [List.length_map] at h1
      have h2 := i2 R (List.mem_of_getElem? hRj)
      omega
    have S14 : Sx D7 ((rb, .lst rus) :: (nb, .lst ((phQ (o, m) Rk).2.map V.int)) :: (ownZ ads yss ++ L)) H12 := Sx.perm S13 ((List.Perm.cons _ List.perm_middle).trans (List.Perm.swap _ _ _))
    wtm_at "vc"
    rename_i H15 S15
    obtain ⟨D8, e8, k8, S16⟩ := Sx.fix1 (a := nb) (S := S15)
    obtain ⟨hFy2, hdj⟩ := (hFr.up e6).back hFy
    have hnb7 : D7 nb = none := (S15.ow (nb, HO.lst ((phQ (o, m) Rk).2.map V.int)) (List.mem_cons_of_mem _ List.mem_cons_self)).2
    have htk : ps.take (k + 1) = ps.take k ++ [(o, m)] := by rw [List.take_add_one, hpp]; rfl
    refine hN _ _ ⟨D8, yss, rus ++ [.ref nb], _, _, _, _, rfl, up, S16, by omega, ?_, ?_, by rw [List.length_append]; simp only [List.length_cons, List.length_nil]; omega, hFy2.sub e8.e (List.Sublist.refl _), (hFr.up e6).put e7 (up : Sm D D7) e8 hFy2 hdj hnb7 ⟨_, k8.pf⟩⟩
    · rw [htk, plQ_snoc, ← hRk]
      exact hRy.up e8.e
    · rw [htk, plQ_snoc, ← hRk]
      show RpAll D8 _ (((plQ Rs (ps.take k)).2 ++ [(phQ (o, m) Rk).2]).map lI)
      rw [List.map_append]
      exact RpAll.app (hU.up (up : Sm D4 D8).e) (ra_oneL (k := k8))
abbrev st__law_long_right : Stmt := topS 24
theorem sc__law_long_right : FnScope ["pot", "reels", "found", "here", "reel", "turn", "empty", "number"] ["pot"] (defScope st__law_long_right) := ⟨rfl, rfl, rfl, by decide +kernel, rfl, by decide +kernel, by decide +kernel⟩
theorem cnB_le5 : ∀ bss : List (List Bool), ((cnB bss : Nat) : Int) ≤ (lensB bss).sum
  | [] => Int.le_refl _
  | b :: bss => by
    have ih := cnB_le5 bss
    have h1 : b.count true ≤ b.length := List.count_le_length
    rw [cnB_cons]
    show _ ≤ ((b.length : Int) :: lensB bss).sum
    rw [List.sum_cons]
    omega
theorem cnt_le5 (bs : List Bool) : bs.count true ≤ bs.length := List.count_le_length
theorem cnB_take5 : ∀ (bss : List (List Bool)) (i : Nat), cnB (bss.take i) ≤ cnB bss
  | [], i => by rw [List.take_nil]; exact Nat.le_refl _
  | b :: bss, 0 => Nat.zero_le _
  | b :: bss, i + 1 => by
    have ih := cnB_take5 bss i
    rw [List.take_succ_cons, cnB_cons, cnB_cons]
    omega
theorem lg5 {t : Int} (h0 : 0 ≤ t) (h1 : t ≤ 1000) : t.natAbs.log2 < 600 := by
  by_cases c : t.natAbs = 0
  · rw [c]; decide
  · exact (Nat.log2_lt c).mpr (Nat.lt_of_le_of_lt (show t.natAbs ≤ 1000 by omega) (by decide +kernel))
theorem rp_of_get5 {D : Hp} : ∀ (us : List V) (ds : List PyData), us.length = ds.length → (∀ (i : Nat) (v : V) (d : PyData), us[i]? = some v → ds[i]? = some d → Rp D v d) → RpAll D us ds
  | [], [], _, _ => .nil
  | [], _ :: _, h, _ => by simp at h
  | _ :: _, [], h, _ => by simp at h
  | u :: us, d :: ds, h, hh => .cons (hh 0 u d rfl rfl) (rp_of_get5 us ds (by simpa using h) fun i v d h1 h2 => hh (i + 1) v d h1 h2)
theorem pm_own {ads : List Addr} {vss : List (List V)} {i : Nat} {x : Addr} {v : List V} {A P : Own} (h1 : ads[i]? = some x) (h2 : vss[i]? = some v) : (A ++ (ownZ ads vss ++ P)).Perm ((x, HO.lst v) :: (A ++ (ownZ (ads.eraseIdx i) (vss.eraseIdx i) ++ P))) := ((ownZ_front (L := P) h1 h2).append_left A).trans List.perm_middle
theorem pm_back {ads : List Addr} {vss : List (List V)} {i : Nat} {x : Addr} {w : List V} {A P : Own} (h1 : ads[i]? = some x) (h2 : i < vss.length) : ((x, HO.lst w) :: (A ++ (ownZ (ads.eraseIdx i) (vss.eraseIdx i) ++ P))).Perm (A ++ (ownZ ads (vss.set i w) ++ P)) := List.perm_middle.symm.trans ((ownZ_back (L := P) h1 h2).append_left A)
theorem sl_own {K : PySem.W.Frag} {D : Hp} {ads : List Addr} {vss : List (List V)} {i : Nat} {x : Addr} {v : List V} {A P : Own} (h1 : ads[i]? = some x) (h2 : vss[i]? = some v) : Sl K D (A ++ (ownZ ads vss ++ P)) x v := ⟨.inl (List.getElem?_of_mem (List.mem_append_right _ (List.mem_append_left _ (List.mem_of_getElem? (ownZ_get h1 h2)))))⟩
theorem Sx.drops {D H : Hp} {x y : Addr × HO} {A B : Own} (S : Sx D (x :: (A ++ (B ++ [y]))) H) : Sx D [y] H := by
  have h : (x :: (A ++ (B ++ [y]))).Perm (y :: (x :: (A ++ B))) := by
    rw [← List.append_assoc]
    exact (List.perm_append_comm (l₁ := x :: (A ++ B)) (l₂ := [y]))
  have S2 := Sx.perm S h
  exact ⟨S2.dH, fun q hq => S2.ow q (by rw [List.mem_singleton.mp hq]; exact List.mem_cons_self), by simp⟩
def gW5 (w : List V) : List V := w ++ [V.non]
def gR5 (r : List Int) : List Int := r ++ [0]
def tB5 (bs : List Bool) : PyData := .tuple (bs.map PyData.bool)
theorem rp_bls5 {D : Hp} : ∀ bs : List Bool, RpAll D (bs.map V.bl) (bs.map PyData.bool)
  | [] => .nil
  | b :: bs => .cons (.bl b) (rp_bls5 bs)
theorem tb_rp5 {D : Hp} {us : List V} {bss : List (List Bool)} (h : TbA D us bss) : RpAll D us (bss.map tB5) := rp_of_get5 _ _ (by rw [List.length_map]; exact h.1) fun i v d h1 h2 => by
  rw [List.getElem?_map] at h2
  obtain ⟨bs, hbs, rfl⟩ := Option.map_eq_some_iff.mp h2
  obtain ⟨b, rfl, k⟩ := h.2 i v bs h1 hbs
  exact .tup k.pf (rp_bls5 bs)
theorem lv7_le {p n : Nat} (h2 : 2 ≤ p) (h7 : p ≤ 7) (hn : n ≤ 7) : (lvlC p n).sum ≤ 400 := by
  have h := lvlC_mono h2 hn
  have h3 : (lvlC p 7).sum ≤ 400 := by
    rcases (by omega : p = 2 ∨ p = 3 ∨ p = 4 ∨ p = 5 ∨ p = 6 ∨ p = 7) with e | e | e | e | e | e <;> subst e <;> decide +kernel
  omega
theorem pr_lay5 {bss : List (List Bool)} (hl : bss.length ≤ 7) (hb : ∀ b, b ∈ bss → b.length ≤ 400) : Pr 2900 2 (.tuple (bss.map tB5)) := by
  refine pr_tup (pr_all (n := 400) (fun d hd => ?_) (by rw [List.length_map]; omega))
  obtain ⟨bs, hbs, rfl⟩ := List.mem_map.mp hd
  have := hb bs hbs
  exact pr_tup (pr_all (n := 0) (fun d hd => by
    obtain ⟨x, _, rfl⟩ := List.mem_map.mp hd
    exact pr_bl x) (by rw [List.length_map]; omega))
theorem pr_rows5 {rs : List (List Int)} (hl : rs.length ≤ 400) (hb : ∀ r, r ∈ rs → r.length ≤ 6 ∧ ∀ z, z ∈ r → 0 ≤ z ∧ z ≤ 1000) : PrAll 2800 1 (rs.map lI) ∧ PrAll 2800 1 (rs.map tI) := by
  have key : ∀ r, r ∈ rs → PrAll 6 0 (r.map PyData.int) := fun r hr => pr_all (n := 0) (fun d hd => by
    obtain ⟨z, hz, rfl⟩ := List.mem_map.mp hd
    exact pr_int (lg5 ((hb r hr).2 z hz).1 ((hb r hr).2 z hz).2)) (by rw [List.length_map]; have := (hb r hr).1; omega)
  constructor
  · refine pr_all (n := 6) (fun d hd => ?_) (by rw [List.length_map]; omega)
    obtain ⟨r, hr, rfl⟩ := List.mem_map.mp hd
    exact pr_lst (key r hr)
  · refine pr_all (n := 6) (fun d hd => ?_) (by rw [List.length_map]; omega)
    obtain ⟨r, hr, rfl⟩ := List.mem_map.mp hd
    exact pr_tup (key r hr)

theorem ownZ_app8 {as bs : List Addr} {vs ws : List (List V)} (h : as.length = vs.length) : ownZ (as ++ bs) (vs ++ ws) = ownZ as vs ++ ownZ bs ws := by
  unfold ownZ
  rw [List.zipWith_append h]
theorem rw_of8 {D : Hp} : ∀ {us : List V} {R : List Rw}, RpAll D us (R.map rwD) → ∃ rs, RwO us R (adR us) rs ∧ ∀ (i : Nat) (a : Addr) (r : List Int), (adR us)[i]? = some a → rs[i]? = some r → D a = some (.lst (r.map V.int))
  | [], [], _ => ⟨[], .nil, fun i a r h => by simp [adR] at h⟩
  | u :: us, r :: R, h => by
    cases h with
    | cons h1 h2 =>
      obtain ⟨rs, g1, g2⟩ := rw_of8 h2
      rcases rw_inv8 h1 with ⟨rfl, rfl⟩ | ⟨a, xs, rfl, rfl, ka⟩
      · exact ⟨rs, .non g1, g2⟩
      · refine ⟨xs :: rs, .row a xs g1, fun i b s e1 e2 => ?_⟩
        cases i with
        | zero => cases e1; cases e2; exact ka.pf
        | succ i => exact g2 i b s e1 e2
  | [], _ :: _, h => nomatch h
  | _ :: _, [], h => nomatch h
theorem rl_of8 {D : Hp} {wss : List (List V)} {Rs : List (List Rw)} (h : RsA D wss Rs) : ∃ rs, RlO wss Rs (adS wss) rs ∧ ∀ (i : Nat) (a : Addr) (r : List Int), (adS wss)[i]? = some a → rs[i]? = some r → D a = some (.lst (r.map V.int)) := by
  induction h with
  | nil => exact ⟨[], .nil, fun i a r h => by simp [adS] at h⟩
  | cons h1 _ ih =>
    rename_i us1 vss1 R1 Rs1 _
    obtain ⟨rs, g1, g2⟩ := ih
    obtain ⟨ss, g3, g4⟩ := rw_of8 h1
    refine ⟨ss ++ rs, .cons g3 g1, fun i a r e1 e2 => ?_⟩
    have e1 : (adR us1 ++ adS vss1)[i]? = some a := e1
    have hl := g3.lens
    by_cases c : i < (adR us1).length
    · rw [List.getElem?_append_left c] at e1
      rw [List.getElem?_append_left (by omega)] at e2
      exact g4 i a r e1 e2
    · rw [List.getElem?_append_right (by omega)] at e1
      rw [List.getElem?_append_right (by omega)] at e2
      rw [← hl] at e2
      exact g2 _ a r e1 e2
theorem zs_of8 {D : Hp} : ∀ {rus : List V} {zs : List (List Int)}, RpAll D rus (zs.map lI) → ∃ zads, rus = zads.map V.ref ∧ adR rus = zads ∧ zads.length = zs.length ∧ ∀ (i : Nat) (a : Addr) (z : List Int), zads[i]? = some a → zs[i]? = some z → D a = some (.lst (z.map V.int))
  | [], [], _ => ⟨[], rfl, rfl, rfl, fun i a r h => by simp at h⟩
  | u :: us, z :: zs, h => by
    cases h with
    | cons h1 h2 =>
      obtain ⟨zads, g1, g2, g3, g4⟩ := zs_of8 h2
      obtain ⟨a, rfl, ka⟩ := Rp.inv_lstI h1
      refine ⟨a :: zads, by rw [g1]; rfl, by show a :: adR us = _; rw [g2], by rw [List.length_cons, g3]; rfl, fun i b s e1 e2 => ?_⟩
      cases i with
      | zero => cases e1; cases e2; exact ka
      | succ i => exact g4 i b s e1 e2
  | [], _ :: _, h => nomatch h
  | _ :: _, [], h => nomatch h
open Classical in
theorem thaw8 {D D' H : Hp} {L : Own} (S : Sx D' L H) (e : Sm D D') (as : List Addr) (vss : List (List V)) (hl : as.length = vss.length) (hnd : as.Nodup) (hk : ∀ (i : Nat) (a : Addr) (v : List V), as[i]? = some a → vss[i]? = some v → D' a = some (.lst v)) (hf : ∀ a, a ∈ as → D a = none) : ∃ D'', Sx D'' (ownZ as vss ++ L) H ∧ Sm D D'' ∧ ∀ x u, x ∉ as → D' x = some u → D'' x = some u := by
  refine ⟨fun x => if x ∈ as then none else D' x, ⟨fun x u hx => ?_, fun q hq => ?_, ?_⟩, ⟨fun x u hx => ?_⟩, fun x u h1 h2 => by show (if x ∈ as then none else D' x) = some u; rw [if_neg h1]; exact h2⟩
  · have hx : (if x ∈ as then none else D' x) = some u := hx
    by_cases c : x ∈ as
    · rw [if_pos c] at hx; cases hx
    · rw [if_neg c] at hx; exact S.dH _ _ hx
  · rcases List.mem_append.mp hq with h | h
    · obtain ⟨i, hi⟩ := List.getElem?_of_mem h
      unfold ownZ at hi
      rw [List.getElem?_zipWith] at hi
      cases ha : as[i]? with
      | none => rw [ha] at hi; simp at hi
      | some a =>
        cases hv : vss[i]? with
        | none => rw [ha, hv] at hi; simp at hi
        | some v =>
          rw [ha, hv] at hi
          cases hi
          refine ⟨S.dH _ _ (hk i a v ha hv), ?_⟩
          show (if a ∈ as then none else D' a) = none
          rw [if_pos (List.mem_of_getElem? ha)]
    · obtain ⟨h1, h2⟩ := S.ow q h
      refine ⟨h1, ?_⟩
      show (if q.1 ∈ as then none else D' q.1) = none
      by_cases c : q.1 ∈ as
      · rw [if_pos c]
      · rw [if_neg c]; exact h2
  · have hm : (ownZ as vss).map (·.1) = as := by
      unfold ownZ
      rw [List.map_zipWith]
      refine List.ext_getElem? fun i => ?_
      rw [List.getElem?_zipWith]
      cases ha : as[i]? with
      | none => simp
      | some a =>
        obtain ⟨v, hv⟩ : ∃ v, vss[i]? = some v := ⟨_, List.getElem?_eq_getElem (by have := (List.getElem?_eq_some_iff.mp ha).1; omega)⟩
        rw [hv]
    rw [List.map_append, hm]
    refine List.nodup_append.mpr ⟨hnd, S.nd, fun x hx y hy exy => ?_⟩
    obtain ⟨q, hq, rfl⟩ := List.mem_map.mp hy
    have h2 := (S.ow q hq).2
    obtain ⟨i, hi⟩ := List.getElem?_of_mem hx
    obtain ⟨v, hv⟩ : ∃ v, vss[i]? = some v := ⟨_, List.getElem?_eq_getElem (by have := (List.getElem?_eq_some_iff.mp hi).1; omega)⟩
    have h3 := hk i x v hi hv
    rw [exy, h2] at h3
    cases h3
  · show (if x ∈ as then none else D' x) = some u
    rw [if_neg (fun c => by rw [hf x c] at hx; cases hx)]
    exact e.e _ _ hx
def zlD (z : List Int) : PyData := .list (dI z ++ [.none])
theorem dp_th8 {D H : Hp} {L : Own} {K : PySem.W.Frag} {th : Addr} {ads zads rads : List Addr} {wss zws : List (List V)} {Rs : List (List Rw)} {rs : List (List Int)} (S : Sx D (ownZ (ads ++ zads) (wss ++ zws) ++ (ownZ rads (rs.map fun r => r.map V.int) ++ L)) H) (kth : Kn D th (.lst (ads.map V.ref))) (hl : ads.length = wss.length) (hz : zads.length = zws.length) (h : RlO wss Rs rads rs) : Dp K H (.ref th) (.list (Rs.map reelD)) := by
  obtain ⟨D1, e1, S1, k1, _, _⟩ := Sx.fixZ2 (ads ++ zads) (wss ++ zws) D (by rw [List.length_append, List.length_append, hl, hz]) S
  obtain ⟨D2, e2, S2, k2, _, _⟩ := Sx.fixZ2 rads _ D1 (by rw [List.length_map]; exact h.lens) S1
  refine Rp.dp ((Rp.lst (e2.e _ _ (e1.e _ _ kth.pf)) (rl_rp h (fun i a r h1 h2 => ?_) ads hl fun i a ws h1 h2 => ?_)).up S2.dH)
  · exact k2 i a (r.map V.int) h1 (by rw [List.getElem?_map, h2]; rfl)
  · exact ⟨e2.e _ _ (k1 i a ws (by rw [List.getElem?_append_left (List.getElem?_eq_some_iff.mp h1).1]; exact h1) (by rw [List.getElem?_append_left (List.getElem?_eq_some_iff.mp h2).1]; exact h2)).pf⟩
theorem rp_zl8 {D : Hp} : ∀ (zads : List Addr) (zs : List (List Int)), zads.length = zs.length → (∀ (i : Nat) (a : Addr) (z : List Int), zads[i]? = some a → zs[i]? = some z → Kn D a (.lst (z.map V.int ++ [V.non]))) → RpAll D (zads.map V.ref) (zs.map zlD)
  | [], [], _, _ => .nil
  | a :: zads, z :: zs, h, k => by
    refine .cons (.lst (k 0 a z rfl rfl).pf ?_) (rp_zl8 zads zs (by simpa using h) fun i b y g1 g2 => k (i + 1) b y g1 g2)
    exact (RpAll.ints z).app (.cons .non .nil)
  | [], _ :: _, h, _ => by simp at h
  | _ :: _, [], h, _ => by simp at h
theorem dp_rb8 {D H : Hp} {L : Own} {K : PySem.W.Frag} {rb : Addr} {ads zads : List Addr} {wss zws : List (List V)} {zs : List (List Int)} (S : Sx D ((rb, .lst (zads.map V.ref)) :: (ownZ (ads ++ zads) (wss ++ zws) ++ L)) H) (hl : ads.length = wss.length) (hz : zads.length = zws.length) (hw : zws = zs.map fun z => z.map V.int ++ [V.non]) : Dp K H (.ref rb) (.list (zs.map zlD)) := by
  obtain ⟨D0, e0, k0, S0⟩ := Sx.fix1 (a := rb) (S := S)
  obtain ⟨D1, e1, S1, k1, _, _⟩ := Sx.fixZ2 (ads ++ zads) (wss ++ zws) D0 (by rw [List.length_append, List.length_append, hl, hz]) S0
  refine Rp.dp ((Rp.lst (e1.e _ _ k0.pf) (rp_zl8 zads zs (by rw [hz, hw, List.length_map]) fun i a z h1 h2 => ?_)).up S1.dH)
  exact k1 (ads.length + i) a _ (by rw [List.getElem?_append_right (Nat.le_add_right _ _), Nat.add_sub_cancel_left]; exact h1) (by rw [hl, List.getElem?_append_right (Nat.le_add_right _ _), Nat.add_sub_cancel_left, hw, List.getElem?_map, h2]; rfl)

theorem th_len8 : ∀ R : List Rw, (∀ r, r ∈ R → OkRw r) → ((R.filterMap id).flatten).length ≤ 8 * R.length
  | [], _ => Nat.le_refl _
  | none :: R, h => by
    have ih := th_len8 R fun r hr => h r (List.mem_cons_of_mem _ hr)
    show ((R.filterMap id).flatten).length ≤ 8 * (R.length + 1)
    omega
  | some ns :: R, h => by
    have ih := th_len8 R fun r hr => h r (List.mem_cons_of_mem _ hr)
    have h1 := (h (some ns) List.mem_cons_self ns rfl).2.1
    show (ns ++ (R.filterMap id).flatten).length ≤ 8 * (R.length + 1)
    rw [List.length_append]
    omega
theorem all_len8 : ∀ Rs : List (List Rw), (∀ R, R ∈ Rs → R.length ≤ 6 ∧ ∀ r, r ∈ R → OkRw r) → (allT Rs).length ≤ 48 * Rs.length
  | [], _ => Nat.le_refl _
  | R :: Rs, h => by
    have ih := all_len8 Rs fun r hr => h r (List.mem_cons_of_mem _ hr)
    obtain ⟨h1, h2⟩ := h R List.mem_cons_self
    have h3 := th_len8 R h2
    show ((R.filterMap id).flatten ++ allT Rs).length ≤ 48 * (Rs.length + 1)
    rw [List.length_append]
    omega
theorem lg8 {t : Int} (h0 : -1000000000000000000000000000000000000000000000000000000000000 ≤ t) (h1 : t ≤ 1000000000000000000000000000000000000000000000000000000000000) : t.natAbs.log2 < 600 := by
  by_cases c : t.natAbs = 0
  · rw [c]; decide
  · exact (Nat.log2_lt c).mpr (Nat.lt_of_le_of_lt (show t.natAbs ≤ 1000000000000000000000000000000000000000000000000000000000000 by omega) (by decide +kernel))
theorem pr_reels8 {Rs : List (List Rw)} (hl : Rs.length ≤ 8) (h : ∀ R, R ∈ Rs → R.length ≤ 6 ∧ ∀ r, r ∈ R → OkRw r) : PrAll 500 2 (Rs.map reelQ) ∧ PrAll 500 2 (Rs.map reelT) := by
  have key : ∀ ns : List Int, OkRw (some ns) → PrAll 8 0 (ns.map PyData.int) := fun ns ho => pr_all (n := 0) (fun d hd => by
    obtain ⟨z, hz, rfl⟩ := List.mem_map.mp hd
    obtain ⟨h1, h2⟩ := (ho ns rfl).2.2 z hz
    exact pr_int (lg8 h1 h2)) (by rw [List.length_map]; have := (ho ns rfl).2.1; omega)
  constructor
  · refine pr_all (n := 54) (fun d hd => ?_) (by rw [List.length_map]; omega)
    obtain ⟨R, hR, rfl⟩ := List.mem_map.mp hd
    obtain ⟨h1, h2⟩ := h R hR
    refine pr_lst (pr_all (n := 8) (fun d hd => ?_) (by rw [List.length_map]; omega))
    obtain ⟨r, hr, rfl⟩ := List.mem_map.mp hd
    cases r with
    | none => exact pr_non.mono (by omega) (by omega)
    | some ns => exact pr_lst (key ns (h2 _ hr))
  · refine pr_all (n := 54) (fun d hd => ?_) (by rw [List.length_map]; omega)
    obtain ⟨R, hR, rfl⟩ := List.mem_map.mp hd
    obtain ⟨h1, h2⟩ := h R hR
    refine pr_tup (pr_all (n := 8) (fun d hd => ?_) (by rw [List.length_map]; omega))
    obtain ⟨r, hr, rfl⟩ := List.mem_map.mp hd
    cases r with
    | none => exact pr_non.mono (by omega) (by omega)
    | some ns => exact pr_tup (key ns (h2 _ hr))
theorem okPl_bd8 {B : Nat} : ∀ (ps : List (Int × Int)) (Rs : List (List Rw)), okPl Rs ps → (∀ R, R ∈ Rs → R.length ≤ B) → ∀ x, x ∈ ps → 0 ≤ x.1 ∧ x.1 < (Rs.length : Int) ∧ 1 ≤ x.2 ∧ x.2 ≤ (B : Int)
  | [], _, _, _, x, h => nomatch h
  | p :: ps, Rs, hok, hB, x, hx => by
    obtain ⟨h1, h2⟩ := hok
    obtain ⟨q1, q2, _⟩ := pl_inv (B := B) [p] Rs ⟨h1, trivial⟩ hB
    rcases List.mem_cons.mp hx with rfl | hx
    · obtain ⟨a1, a2, _, a3, c, hc, a4⟩ := h1
      obtain ⟨R, hR, rfl⟩ := List.mem_map.mp hc
      have := hB R hR
      have a4 : x.2 ≤ (R.length : Int) := a4
      unfold cntI at a2
      rw [List.length_map] at a2
      exact ⟨a1, a2, a3, by omega⟩
    · have := okPl_bd8 ps (phQ p Rs).1 h2 q2 x hx
      have q1 : (phQ p Rs).1.length = Rs.length := q1
      omega
theorem plQ_lz8 : ∀ (ps : List (Int × Int)) (Rs : List (List Rw)) (z : List Int), z ∈ (plQ Rs ps).2 → z.length = Rs.length
  | [], _, z, h => nomatch h
  | p :: ps, Rs, z, h => by
    obtain ⟨a, b⟩ := phQ_len p Rs
    rcases List.mem_cons.mp h with h | h
    · rw [h, b]
    · rw [plQ_lz8 ps (phQ p Rs).1 z h, a]
theorem rg8 (n : Nat) {v : V} (h : v ∈ rgV 0 ((n : Int) + 1) ++ [V.int (n : Int)]) : ∃ k : Nat, v = .int (k : Int) ∧ k ≤ n := by
  rcases List.mem_append.mp h with h | h
  · unfold rgV at h
    obtain ⟨k, hk, rfl⟩ := List.mem_map.mp h
    have := List.mem_range.mp hk
    exact ⟨k, by rw [Int.zero_add], by omega⟩
  · exact ⟨n, List.mem_singleton.mp h, Nat.le_refl _⟩
theorem sh_pl8 {Rs : List (List Rw)} {zs : List (List Int)} : Sh 4 (.tuple [.list (Rs.map reelQ), .list (zs.map lI)]) := Sh.tup (n := 3) fun d hd => by
  rcases List.mem_cons.mp hd with h | h
  · rw [h, reelQ_D]
    exact sh_reels (n := 0) Rs
  · rw [List.mem_singleton.mp h]
    exact Sh.list (n := 2) fun d hd => by
      obtain ⟨z, _, rfl⟩ := List.mem_map.mp hd
      exact Sh.list (n := 1) Sh.ints
theorem pr_ps8 {ps : List (Int × Int)} (hl : ps.length ≤ 10) (h : ∀ x, x ∈ ps → 0 ≤ x.1 ∧ x.1 ≤ 1000 ∧ 0 ≤ x.2 ∧ x.2 ≤ 1000) : PrAll 40 1 (ps.map pI) := pr_all (n := 2) (fun d hd => by
  obtain ⟨x, hx, rfl⟩ := List.mem_map.mp hd
  obtain ⟨h1, h2, h3, h4⟩ := h x hx
  exact pr_tup (pr_cons (n := 2) (n1 := 0) (n2 := 1) (pr_int (lg5 h1 h2)) (pr_cons (n := 1) (n1 := 0) (n2 := 0) (pr_int (lg5 h3 h4)) (pr_nil 0 0) (by omega)) (by omega))) (by rw [List.length_map]; omega)

theorem pm_th8 {α : Type} (A B C : List α) (r p : α) : ((A ++ B) ++ (r :: (C ++ [p]))).Perm (r :: ((C ++ B) ++ (A ++ [p]))) := by
  refine List.perm_middle.trans (List.Perm.cons r ?_)
  rw [← List.append_assoc (A ++ B) C [p], ← List.append_assoc (C ++ B) A [p]]
  refine List.Perm.append_right _ ?_
  rw [List.append_assoc A B C]
  exact List.perm_append_comm.trans (List.Perm.append_right _ List.perm_append_comm)
theorem thawA8 {D13 D14 D15 H : Hp} {wss : List (List V)} {X1 : List (List Rw)} {zs : List (List Int)} {rb : Addr} {rus : List V} {ads : List Addr} {pt : Addr × HO} (S : Sx D15 ((rb, .lst rus) :: (ownZ ads wss ++ [pt])) H) (hal : ads.length = wss.length) (hR : RsA D14 wss X1) (hF : Fq D13 D14 wss) (hFr : FqR D13 D14 wss rus) (hz : RpAll D14 rus (zs.map lI)) (e15 : Sm D14 D15) (e : Sm D13 D15) : ∃ rs zads D'', RlO wss X1 (adS wss) rs ∧ rus = zads.map V.ref ∧ zads.length = zs.length ∧ Sm D13 D'' ∧ Sx D'' ((rb, .lst rus) :: (ownZ (ads ++ zads) (wss ++ zs.map fun z => z.map V.int) ++ (ownZ (adS wss) (rs.map fun r => r.map V.int) ++ [pt]))) H ∧ ∀ x u, D15 x = some u → (∀ r : List Int, u ≠ .lst (r.map V.int)) → D'' x = some u := by
  obtain ⟨rs, hRl, hk1⟩ := rl_of8 (hR.up e15.e)
  obtain ⟨zads, hz1, hz2, hz3, hk2⟩ := zs_of8 (hz.up e15.e)
  have hl1 := hRl.lens
  have hkk : ∀ (i : Nat) (a : Addr) (v : List V), (adS wss ++ zads)[i]? = some a → ((rs.map fun r => r.map V.int) ++ zs.map fun z => z.map V.int)[i]? = some v → D15 a = some (.lst v) ∧ ∃ r : List Int, v = r.map V.int := by
    intro i a v h1 h2
    by_cases c : i < (adS wss).length
    · rw [List.getElem?_append_left c] at h1
      rw [List.getElem?_append_left (by rw [List.length_map]; omega), List.getElem?_map] at h2
      obtain ⟨r, hr, rfl⟩ := Option.map_eq_some_iff.mp h2
      exact ⟨hk1 i a r h1 hr, r, rfl⟩
    · rw [List.getElem?_append_right (by omega)] at h1
      rw [List.getElem?_append_right (by rw [List.length_map]; omega), List.length_map, ← hl1, List.getElem?_map] at h2
      obtain ⟨r, hr, rfl⟩ := Option.map_eq_some_iff.mp h2
      exact ⟨hk2 _ a r h1 hr, r, rfl⟩
  have hlen : (adS wss ++ zads).length = ((rs.map fun r => r.map V.int) ++ zs.map fun z => z.map V.int).length := by rw [List.length_append, List.length_append, List.length_map, List.length_map, hl1, hz3]
  obtain ⟨D2, S2, e2, hkeep⟩ := thaw8 S e (adS wss ++ zads) ((rs.map fun r => r.map V.int) ++ zs.map fun z => z.map V.int) hlen (List.nodup_append.mpr ⟨hF.nd, by rw [← hz2]; exact hFr.nd, fun x hx y hy exy => by
    rw [← hz2] at hy
    exact hFr.dj x hx (by rw [exy]; exact hy)⟩) (fun i a v h1 h2 => (hkk i a v h1 h2).1) fun a ha => by
      rcases List.mem_append.mp ha with h | h
      · exact (hF.fr a h).1
      · rw [← hz2] at h
        exact (hFr.fr a h).1
  refine ⟨rs, zads, D2, hRl, hz1, hz3, e2, ?_, fun x u hx hu => hkeep x u (fun hm => ?_) hx⟩
  · rw [ownZ_app8 (by rw [List.length_map]; exact hl1)] at S2
    rw [ownZ_app8 hal]
    exact Sx.perm S2 (pm_th8 _ _ _ _ _)
  · obtain ⟨i, hi⟩ := List.getElem?_of_mem hm
    obtain ⟨v, hv⟩ : ∃ v, ((rs.map fun r => r.map V.int) ++ zs.map fun z => z.map V.int)[i]? = some v := ⟨_, List.getElem?_eq_getElem (by rw [← hlen]; exact (List.getElem?_eq_some_iff.mp hi).1)⟩
    obtain ⟨h1, r, rfl⟩ := hkk i x v hi hv
    rw [h1] at hx
    cases hx
    exact hu r rfl
theorem fl_le8 : ∀ {A : List (List Int)} {r : List Int}, r ∈ A → r.length ≤ A.flatten.length
  | a :: A, r, h => by
    rw [List.flatten_cons, List.length_append]
    rcases List.mem_cons.mp h with rfl | h
    · omega
    · have := fl_le8 h
      omega
theorem row_le8 : ∀ {Rs : List (List Rw)} {R : List Rw} {r : List Int}, R ∈ Rs → some r ∈ R → r.length ≤ (allT Rs).length
  | Q :: Rs, R, r, h, hr => by
    show _ ≤ ((Q.filterMap id).flatten ++ allT Rs).length
    rw [List.length_append]
    rcases List.mem_cons.mp h with rfl | h
    · have := fl_le8 (A := R.filterMap id) (r := r) (List.mem_filterMap.mpr ⟨some r, hr, rfl⟩)
      omega
    · have := row_le8 h hr
      omega
theorem sh_zl8 {zs : List (List Int)} : Sh 3 (.list (zs.map zlD)) := Sh.list (n := 2) fun d hd => by
  obtain ⟨z, _, rfl⟩ := List.mem_map.mp hd
  refine Sh.list (n := 1) fun d hd => ?_
  rcases List.mem_append.mp hd with h | h
  · obtain ⟨t, _, rfl⟩ := List.mem_map.mp h
    exact Sh.int _ _
  · rw [List.mem_singleton.mp h]
    exact Sh.non _
theorem mp_wz8 (wss : List (List V)) (zs : List (List Int)) : (wss ++ zs.map fun z => z.map V.int).map gW5 = wss.map gW5 ++ zs.map fun z => z.map V.int ++ [V.non] := by
  rw [List.map_append, List.map_map]
  rfl

theorem set_ne8 {α : Type} {xs : List (List α)} {e : Nat} {w : List α} (h : e < xs.length) (hw : w ≠ []) : ∃ R, R ∈ xs.set e w ∧ R ≠ [] := ⟨w, List.mem_of_getElem? (i := e) (by rw [List.getElem?_set, if_pos rfl, if_pos h]), hw⟩
theorem isPh1_8 {X : List (List Rw)} {e : Nat} (h : e < X.length) (h0 : X.getD e [] = []) (hne : ∃ R, R ∈ X ∧ R ≠ []) : isPh (cntI X) ((e : Int), 1) := by
  refine ⟨by show (0 : Int) ≤ (e : Int); omega, by unfold cntI; rw [List.length_map]; show (e : Int) < _; omega, ?_, by show (1 : Int) ≤ 1; decide, ?_⟩
  · show (cntI X).getD (e : Int).toNat 0 = 0
    unfold cntI
    rw [Int.toNat_natCast, List.getD_eq_getElem?_getD, List.getElem?_map]
    rw [List.getD_eq_getElem?_getD] at h0
    cases h1 : X[e]? with
    | none => rfl
    | some R =>
      rw [h1] at h0
      have h0 : R = [] := h0
      rw [h0]
      rfl
  · obtain ⟨R, hR, hn⟩ := hne
    refine ⟨(R.length : Int), List.mem_map_of_mem (f := fun r : List Rw => (r.length : Int)) hR, ?_⟩
    show (1 : Int) ≤ _
    have := List.length_pos_iff.mpr hn
    omega
theorem rp_rep8 {D : Hp} {v : V} {d : PyData} (h : Rp D v d) : ∀ k, RpAll D (List.replicate k v) (List.replicate k d)
  | 0 => .nil
  | k + 1 => .cons h (rp_rep8 h k)
theorem pm_two8 {α : Type} (x y : α) (A L : List α) : (x :: y :: (A ++ L)).Perm (A ++ (x :: y :: L)) := (List.Perm.cons x (List.perm_middle (a := y) (l₁ := A) (l₂ := L)).symm).trans (List.perm_middle (a := x) (l₁ := A) (l₂ := y :: L)).symm

def sp__law_long_right (K : PySem.W.Frag) : Sp := fun vs H Q _ => ∃ (D : Hp) (L : Own) (pot : Addr) (x y z : Int), vs = [.ref pot] ∧ Sx D ((pot, .lst [.int x, .int y, .int z]) :: L) H ∧ 0 ≤ x ∧ 0 ≤ y ∧ y ≤ 900000000 ∧ 0 ≤ z ∧ z < 2147483647 ∧
  ∀ x' y' D' H', Sx D' ((pot, .lst [.int x', .int y', .int z]) :: L) H' → Sm D D' → Q (.bl true) H'
theorem ok__law_long_right {fA : Addr} {fd : FuncData} (F : Fun K "_law_long_right" "_law_long_right" st__law_long_right fA fd) (b_len : mg "len" = none) (b_list : mg "list" = none) (b_range : mg "range" = none)
    (C__law_lot : Cl P w K mg base CX0 2 "_law_lot" ["pot"] (sp__law_lot K))
    (C__law_merging : Cl P w K mg base CX0 1 "_law_merging" ["reels", "out"] (sp__law_merging K))
    (C__law_played : Cl P w K mg base CX0 2 "_law_played" ["reels", "phases"] (sp__law_played K))
    (C__law_take : Cl P w K mg base CX0 1 "_law_take" ["pot", "size"] (sp__law_take K))
    (C_play_rows : Cl P w K mg base CX0 3 "play_rows" ["reels", "phases"] (sp_play_rows K)) : FnOk P w K mg base CX0 4 fA fd ["pot"] (sp__law_long_right K) := by
  refine F.ok sc__law_long_right (fun vs H Q E h => ?_) (fun cdv A outer s H vs Q E hr h => ?_)
  · obtain ⟨D, L, pot, x, y, z, rfl, S, x0, y0, y1, z0, z1, q⟩ := h
    rfl
  · obtain ⟨D, L, pot, x, y, z, rfl, S, x0, y0, y1, z0, z1, q⟩ := h
    have hu : (A.deeper (envOfC "_law_long_right" (defScope st__law_long_right) s.heap.objs.size fA cdv)).units + 64 < cLine := by have := hr.un; omega
    refine ⟨_, (pss_cons (ps_set (i := 1) sc__law_long_right.nd rfl (Or.inl rfl) (pe_lst (pa_cons (pe_lst (pa_cons (pe_cl C__law_lot hr (by decide) (by rfl) (pa_cons (pv 0) pa_nil)) pa_nil)) (pa_cons (pe_lst (pa_cons (pe_cl C__law_lot hr (by decide) (by rfl) (pa_cons (pv 0) pa_nil)) (pa_cons (pe_lst (pa_cons pe_int pa_nil)) pa_nil))) (pa_cons (pe_lst pa_nil) pa_nil)))))
      (Evl.pss_cut (ps_if (pt_cmpR (r := rEqX K) (opEq hu) (pe_cl C__law_take hr (by decide) (by rfl) (pa_cons (pv 0) (pa_cons pe_int pa_nil))) pe_int (nomark _)) (pss_one (ps_set (i := 1) sc__law_long_right.nd rfl (Or.inl rfl) (pe_op (r := rAddX K) opAdd (pe_lst (pa_cons (pe_lst (pa_cons (pe_cl C__law_lot hr (by decide) (by rfl) (pa_cons (pv 0) pa_nil)) pa_nil)) (pa_cons (pe_lst pa_nil) (pa_cons (pe_lst pa_nil) pa_nil)))) (pe_op (r := rMulU K) opMulU (pe_lst (pa_cons (pe_lst pa_nil) pa_nil)) (pe_cl C__law_take hr (by decide) (by rfl) (pa_cons (pv 0) (pa_cons pe_int pa_nil))))))) pss_nil)
      (pss_cons (ps_set (i := 2) sc__law_long_right.nd rfl (Or.inl rfl) (pe_lst pa_nil))
      (pss_cons (ps_set (i := 3) sc__law_long_right.nd rfl (Or.inr rfl) (pe_lc (own := [("reel", 4)]) (tt := tYes) rfl sc__law_long_right.nd (pi_seqK K (pv 1)) (blkOk_by (N := ["pot", "reels", "found", "here", "reel", "turn", "empty", "number"]) (sc := defScope st__law_long_right) (by decide +kernel)) (fun _ _ _ _ _ => (pg_name (i := 4) sc__law_long_right.nd rfl (Or.inl rfl))) (fun _ _ _ _ _ => pts_nil) (fun _ _ _ _ _ => (pe_callTy (r := rLstOf K) call_lstN (by rfl) b_list bb_list (pa_cons (pv 4) pa_nil)))))
      (pss_cons (ps_for PassesOwn.never rfl (pi_range1 (by rfl) b_range (pa_cons (pe_op op_sub pe_int (pe_cl C__law_take hr (by decide) (by rfl) (pa_cons (pv 0) (pa_cons pe_int pa_nil)))) pa_nil)) (pg_name (i := 5) sc__law_long_right.nd rfl (Or.inl rfl))
      (pss_cons (ps_setLc (i := 6) (own := [("number", 7)])  rfl sc__law_long_right.nd rfl rfl (sw_true rfl rfl rfl (by decide +kernel)) (pi_range1 (by rfl) b_range (pa_cons (pe_callB (r := rLen K) call_lenN (by rfl) b_len bb_len (pa_cons (pv 3) pa_nil)) pa_nil)) (blkOk_by (N := ["pot", "reels", "found", "here", "reel", "turn", "empty", "number"]) (sc := defScope st__law_long_right) (by decide +kernel)) (fun _ _ _ _ _ => (pg_name (i := 7) sc__law_long_right.nd rfl (Or.inl rfl))) (fun _ _ _ _ _ => (pts_one (pt_cmpR (r := rEqX K) (opEq hu) (pe_callB (r := rLen K) call_lenN (by rfl) b_len bb_len (pa_cons (pe_ix (r := rIx K) ix_seq (pv 3) (pv 7) (fun _ _ => rfl)) pa_nil)) pe_int (nomark _)))) (fun _ _ _ _ _ => (pv 7)))
      (pss_one (ps_if (pt_cmpR op_gt (pe_callB (r := rLen K) call_lenN (by rfl) b_len bb_len (pa_cons (pv 6) pa_nil)) pe_int (nomark _)) (pss_cons (ps_expr (pe_bm PySem.F.plainAttrs_list PySem.F.slot_list_append PySem.F.type_list_append mt_append (pv 2) (pa_cons (pe_tup (pa_cons (pe_ix (r := rIx K) ix_seq (pv 6) (pe_cl C__law_take hr (by decide) (by rfl) (pa_cons (pv 0) (pa_cons (pe_callB (r := rLen K) call_lenN (by rfl) b_len bb_len (pa_cons (pv 6) pa_nil)) pa_nil))) (fun _ _ => rfl)) (pa_cons pe_int pa_nil))) pa_nil)))
      (pss_one (ps_expr (pe_cl C__law_merging hr (by decide) (by rfl) (pa_cons (pv 3) (pa_cons (pe_ix (r := rIx K) ix_seq (pe_ix (r := rIx K) ix_seq (pv 2) (pe_un un_neg pe_int) (fun _ _ => rfl)) pe_int (fun _ _ => rfl)) pa_nil)))))) pss_nil))))
      (pss_one (ps_ret (pe_cmpR (r := rEqX K) (opEq hu) (pe_cl C_play_rows hr (by decide) (by rfl) (pa_cons (pv 1) (pa_cons (pv 2) pa_nil))) (pe_cl C__law_played hr (by decide) (by rfl) (pa_cons (pv 1) (pa_cons (pv 2) pa_nil))) (nomark _))))))))), ?_⟩
    refine st_start (σ' := [some _, none, none, none, none, none, none, none]) rfl (fun bk ct => ?_)
    wtm_at "vc"
    refine ⟨_, _, pot, x, y, z, rfl, S, x0, y0, by omega, z0, z1, fun v1 r1 x y D1 H1 S1 e1 x0 y0 yb1 hv1 hr1 => ?_⟩
    wtm_at "vc"
    rename_i l1 H2 S2
    refine ⟨_, _, pot, x, y, z, rfl, Sx.front (a := pot) (S := S2), x0, y0, by omega, z0, z1, fun v2 r2 x y D2 H3 S3 e2 x0 y0 yb2 hv2 hr2 => ?_⟩
    wtm_at "vc"
    rename_i l3 H4 S4 l2 H5 S5 le H6 S6 ra H7 S7
    obtain ⟨D3, e3, kra, S8⟩ := Sx.fix1 (a := ra) (S := S7)
    obtain ⟨D4, e4, kle, S9⟩ := Sx.fix1 (a := le) (S := S8)
    obtain ⟨D5, e5, kl2, S10⟩ := Sx.fix1 (a := l2) (S := S9)
    obtain ⟨D6, e6, kl3, S11⟩ := Sx.fix1 (a := l3) (S := S10)
    obtain ⟨D7, e7, kl1, S12⟩ := Sx.fix1 (a := l1) (S := Sx.front (a := l1) (S := S11))
    have ok3 : OkRw (some [3]) := fun ns h => by
      cases h
      exact ⟨List.pairwise_singleton _ _, by decide, fun t ht => by rw [List.mem_singleton.mp ht]; decide⟩
    have hU7 : RpAll D7 [.ref l1, .ref l2, .ref le] (([[r1], [r2, some [3]], []] : List (List Rw)).map reelQ) := .cons (.lst kl1.pf (.cons (hv1.up (up : Sm D1 D7).e) .nil)) (.cons (.lst ((up : Sm D5 D7).e _ _ kl2.pf) (.cons (hv2.up (up : Sm D2 D7).e) (.cons (.lstI (ns := [3]) ((up : Sm D6 D7).e _ _ kl3.pf)) .nil))) (.cons (.lst ((up : Sm D4 D7).e _ _ kle.pf) .nil) .nil))
    have hok7 : ∀ R, R ∈ ([[r1], [r2, some [3]], []] : List (List Rw)) → R.length ≤ 2 ∧ ∀ r, r ∈ R → OkRw r := fun R hR => by
      simp only [List.mem_cons, List.not_mem_nil, or_false] at hR
      rcases hR with rfl | rfl | rfl
      · exact ⟨Nat.le_succ 1, fun r hr => by rw [List.mem_singleton.mp hr]; exact hr1⟩
      · refine ⟨Nat.le_refl 2, fun r hr => ?_⟩
        simp only [List.mem_cons, List.not_mem_nil, or_false] at hr
        rcases hr with rfl | rfl
        · exact hr2
        · exact ok3
      · exact ⟨Nat.zero_le _, fun r hr => nomatch hr⟩
    clear S S1 S2 S3 S4 S5 S6 S7 S8 S9 S10 S11
    refine s_cut (fun σ H => ∃ (D8 : Hp) (ra : Addr) (us : List V) (Rs : List (List Rw)) (x y : Int), σ = [some (.ref pot), some (.ref ra), none, none, none, none, none, none] ∧ Sm D7 D8 ∧ Sx D8 ((pot, .lst [.int x, .int y, .int z]) :: L) H ∧ 0 ≤ x ∧ 0 ≤ y ∧ y ≤ 900000100 ∧ Kn D8 ra (.lst us) ∧ RpAll D8 us (Rs.map reelQ) ∧ 3 ≤ Rs.length ∧ Rs.length ≤ 4 ∧ (∀ R, R ∈ Rs → R.length ≤ 2 ∧ ∀ r, r ∈ R → OkRw r) ∧ (∃ R, R ∈ Rs ∧ R ≠ [])) (fun nx hN => ?_) (fun σ H8 ⟨D8, ra, us, Rs, x, y, es, e8, S13, x0, y0, yb3, kra, hU, hl3, hl4, hRb, hne⟩ => ?_)
    · wtm_at "vc"
      refine ⟨_, _, pot, x, y, z, 2, rfl, S12, x0, y0, by omega, z0, z1, by decide, by decide, fun rc x y H8 S13 rc0 rc1 x0 y0 yb3 => ?_⟩
      wtm_at "vc"
      refine if_d (fun c9 => ?_) (fun c9 => ?_)
      · wtm_at "vc"
        clear S12
        refine ⟨_, _, pot, x, y, z, rfl, S13, x0, y0, by omega, z0, z1, fun v3 r3 x y D8 H9 S14 e8 x0 y0 yb4 hv3 hr3 => ?_⟩
        clear S13
        wtm_at "vc"
        rename_i l4 H10 S15 l5 H11 S16 l6 H12 S17 r7 H13 S18 l7 H14 S19 r8 H15 S20
        refine ⟨_, _, pot, x, y, z, 2, rfl, Sx.front (a := pot) (S := S20), x0, y0, by omega, z0, z1, by decide, by decide, fun rm x y H16 S21 rm0 rm1 x0 y0 yb5 => ?_⟩
        clear S14 S15 S16 S17 S18 S19 S20
        wtm_at "vc"
        rename_i lm H17 S22 r9 H18 S23
        obtain ⟨D9, e9, kr9, S24⟩ := Sx.fix1 (a := r9) (S := S23)
        obtain ⟨D10, e10, kl7, S25⟩ := Sx.fix1 (a := l7) (S := Sx.front (a := l7) (S := S24))
        obtain ⟨D11, e11, kl6, S26⟩ := Sx.fix1 (a := l6) (S := Sx.front (a := l6) (S := S25))
        obtain ⟨D12, e12, kl5, S27⟩ := Sx.fix1 (a := l5) (S := Sx.front (a := l5) (S := S26))
        obtain ⟨D13, e13, kl4, S28⟩ := Sx.fix1 (a := l4) (S := Sx.front (a := l4) (S := S27))
        have S29 : Sx D13 ((pot, .lst [.int x, .int y, .int z]) :: L) H18 := Sx.gc (S := S28)
        have hU13 : RpAll D13 ([.ref l4, .ref l5, .ref l6] ++ List.replicate rm.toNat (.ref l7)) (([[r3], [], []] ++ List.replicate rm.toNat [] : List (List Rw)).map reelQ) := by
          rw [List.map_append, List.map_replicate]
          exact RpAll.app (.cons (.lst kl4.pf (.cons (hv3.up (up : Sm D8 D13).e) .nil)) (.cons (.lst ((up : Sm D12 D13).e _ _ kl5.pf) .nil) (.cons (.lst ((up : Sm D11 D13).e _ _ kl6.pf) .nil) .nil))) (rp_rep8 (.lst ((up : Sm D10 D13).e _ _ kl7.pf) .nil) _)
        refine hN _ _ ⟨D13, r9, _, _, x, y, rfl, up, S29, x0, y0, by omega, inferInstance, hU13, ?_, ?_, fun R hR => ?_, ⟨[r3], List.mem_cons_self, fun h => nomatch h⟩⟩
        · rw [List.length_append, List.length_replicate]
          exact Nat.le_add_right 3 _
        · rw [List.length_append, List.length_replicate]
          show 3 + _ ≤ 4
          omega
        · rcases List.mem_append.mp hR with h | h
          · simp only [List.mem_cons, List.not_mem_nil, or_false] at h
            rcases h with rfl | rfl | rfl
            · exact ⟨Nat.le_succ 1, fun r hr => by rw [List.mem_singleton.mp hr]; exact hr3⟩
            · exact ⟨Nat.zero_le _, fun r hr => nomatch hr⟩
            · exact ⟨Nat.zero_le _, fun r hr => nomatch hr⟩
          · rw [(List.mem_replicate.mp h).2]
            exact ⟨Nat.zero_le _, fun r hr => nomatch hr⟩
      · wtm_at "vc"
        exact hN _ _ ⟨D7, ra, _, _, x, y, rfl, Sm.rfl', S13, x0, y0, by omega, inferInstance, hU7, Nat.le_refl 3, Nat.le_succ 3, hok7, ⟨[r1], List.mem_cons_self, fun h => nomatch h⟩⟩
    subst es
    clear S12
    have hul : us.length = Rs.length := by have := hU.length; rw [List.length_map] at this; exact this
    have hall := all_len8 Rs fun R hR => ⟨by have := (hRb R hR).1; omega, (hRb R hR).2⟩
    have hR2 : ∀ R, R ∈ Rs → R.length ≤ 2 := fun R hR => (hRb R hR).1
    wtm_at "vc"
    rename_i fo H9 S14
    refine lc_goL (S := S14) (walk_list (xs := us)) (by omega) (fun i acc D' L' => D' = D8 ∧ ∃ (ads : List Addr) (vss : List (List V)), acc = ads.map V.ref ∧ ads.length = i ∧ vss.length = i ∧ RsA D8 vss (Rs.take i) ∧ L' = (fo, .lst []) :: (pot, .lst [.int x, .int y, .int z]) :: (ownZ ads vss ++ L)) ⟨rfl, [], [], rfl, rfl, rfl, .nil, rfl⟩ (fun D' L' p acc H' e' S' => Rds.sq S' (rsD (e'.e _ _ kra.pf))) (fun i v q2 acc D6 L6 H6 H7 hi e6 S6 hR6 hy Ad Sk hA hS => ?_) (fun th D6 L6 acc H10 e6 S15 hR6 => ?_)
    · obtain ⟨rfl, hv⟩ := hy
      obtain ⟨rfl, ads, vss, rfl, hal, hvl, hRs, rfl⟩ := hR6
      obtain ⟨d, hd, hp⟩ := hU.getV hv
      rw [List.getElem?_map] at hd
      obtain ⟨R, hRi, rfl⟩ := Option.map_eq_some_iff.mp hd
      obtain ⟨g, ys, rfl, kg, hys⟩ := reelQ_inv hp
      have hyl : ys.length ≤ 4000 := by have h1 := hys.length; rw [List.length_map] at h1; have := hR2 R (List.mem_of_getElem? hRi); omega
      wtm_at "vc"
      rename_i l1 H8 S8
      have e1 : ownZ (ads ++ [l1]) (vss ++ [ys]) = ownZ ads vss ++ [(l1, .lst ys)] := zipW_snoc _ (by omega) _ _
      refine hA _ D6 ((fo, .lst []) :: (pot, .lst [.int x, .int y, .int z]) :: (ownZ (ads ++ [l1]) (vss ++ [ys]) ++ L)) _ Sm.rfl' (by rw [e1]; exact Sx.perm S8 ((List.Perm.swap _ _ _).trans ((pm_mid8 (l1, HO.lst ys) ((fo, HO.lst []) :: (pot, HO.lst [.int x, .int y, .int z]) :: ownZ ads vss) L).cons _))) ⟨rfl, ads ++ [l1], vss ++ [ys], by rw [List.map_append]; rfl, by rw [List.length_append, hal]; rfl, by rw [List.length_append, hvl]; rfl, ?_, rfl⟩
      rw [List.take_add_one, hRi]
      exact hRs.app (.cons hys .nil)
    obtain ⟨rfl, ads, vss0, rfl, hal, hvl0, hRs0, rfl⟩ := hR6
    rw [hul] at hal hvl0 hRs0
    rw [List.take_length] at hRs0
    obtain ⟨D9, e9, kth, S16⟩ := Sx.fix1 (a := th) (S := S15)
    clear S13 S14 S15
    wtm_at "vc"
    refine ⟨_, _, pot, x, y, z, 30, rfl, Sx.front (a := pot) (S := S16), x0, y0, by omega, z0, z1, by decide, by decide, fun rt x y H11 S17 rt0 rt1 x0 y0 yb4 => ?_⟩
    have S18 : Sx D9 ((fo, .lst []) :: (pot, .lst [.int x, .int y, .int z]) :: (ownZ ads vss0 ++ L)) H11 := Sx.front (a := fo) (S := S17)
    clear S16 S17
    wtm_at "vc"
    refine for_go (walk_rng (lo := 0) (n := (400 - rt).toNat)) (fun i σ H => ∃ (D10 : Hp) (pus : List V) (ps : List (Int × Int)) (vss : List (List V)) (x y3 : Int) (w4 w5 w6 w7 : Option V), σ = [some (.ref pot), some (.ref ra), some (.ref fo), some (.ref th), w4, w5, w6, w7] ∧ Sm D9 D10 ∧ Sx D10 ((fo, .lst pus) :: (pot, .lst [.int x, .int y3, .int z]) :: (ownZ ads vss ++ L)) H ∧ 0 ≤ x ∧ 0 ≤ y3 ∧ y3 ≤ y + (i : Int) ∧ vss.length = Rs.length ∧ RsA D10 vss (plQ Rs ps).1 ∧ RpAll D10 pus (ps.map pI) ∧ okPl Rs ps ∧ ps.length ≤ i ∧ (∃ R, R ∈ (plQ Rs ps).1 ∧ R ≠ []))
      ⟨D9, [], [], vss0, x, y, _, _, _, _, rfl, Sm.rfl', S18, x0, y0, by omega, hvl0, hRs0.up e9.e, .nil, trivial, Nat.le_refl _, hne⟩ (fun _ _ _ _ _ => trivial) (fun i v σ H12 H13 hi ⟨D10, pus, ps, vss, x, y3, w4, w5, w6, w7, es, e10, S19, x0, y30, yb5, hvl, hRs, hP, hok, hpl, hne2⟩ hy nx bk hN => ?_) (fun σ H12 ⟨D10, pus, ps, vss, x, y3, w4, w5, w6, w7, es, e10, S19, x0, y30, yb5, hvl, hRs, hP, hok, hpl, hne2⟩ => ?_)
    · obtain ⟨rfl, rfl⟩ := hy
      subst es
      obtain ⟨q1, q2, q3⟩ := pl_inv (B := 2) _ _ hok hR2
      obtain ⟨X, hX⟩ : ∃ X, X = (plQ Rs ps).1 := ⟨_, rfl⟩
      rw [← hX] at hRs hne2 q1 q2 q3
      have hpul : pus.length = ps.length := by have := hP.length; rw [List.length_map] at this; exact this
      have hb2 : ∀ w, w ∈ vss → w.length ≤ 2 := fun w hw => by
        obtain ⟨i, hi⟩ := List.getElem?_of_mem hw
        obtain ⟨R, hR1, hR2⟩ := hRs.get hi
        have h1 := hR2.length
        rw [List.length_map] at h1
        have := q2 R (List.mem_of_getElem? hR1)
        omega
      clear S18
      wtm_at "vc"
      refine lc_go (S := S19) (walk_rng (lo := 0) (n := ((ads.length : Nat) : Int).toNat)) (by omega) (fun k acc D' => D' = D10 ∧ ∃ es : List Nat, acc = es.map (fun n : Nat => V.int (n : Int)) ∧ es.length ≤ k ∧ ∀ e, e ∈ es → e < X.length ∧ X.getD e [] = []) ⟨rfl, [], rfl, Nat.le_refl _, fun e h => nomatch h⟩ (fun _ _ _ _ _ _ => trivial) (fun k v q2' acc D5 H14 H15 hk e5 S20 hR hy Ad Sk hA hS => ?_) (fun le D5 acc H14 e5 S20 hR => ?_)
      · obtain ⟨rfl, rfl⟩ := hy
        obtain ⟨rfl, es, rfl, hel, heb⟩ := hR
        rw [Int.toNat_natCast] at hk
        obtain ⟨ad, had⟩ : ∃ ad, ads[k]? = some ad := ⟨_, List.getElem?_eq_getElem hk⟩
        obtain ⟨ws, hws⟩ : ∃ ws, vss[k]? = some ws := ⟨_, List.getElem?_eq_getElem (by omega)⟩
        obtain ⟨R, hRk, hyl⟩ := hRs.get hws
        have hyl := hyl.length
        rw [List.length_map] at hyl
        have hws2 := hb2 ws (List.mem_of_getElem? hws)
        have hA1 : AtC (ads.map V.ref) (0 + (k : Int)) (.ref ad) := ⟨atN (by omega) (by rw [show (0 + (k : Int)).toNat = k by omega, List.getElem?_map, had]; rfl)⟩
        have hSl : Sl K D5 ((q2', .lst (es.map fun n : Nat => V.int (n : Int))) :: (fo, .lst pus) :: (pot, .lst [.int x, .int y3, .int z]) :: (ownZ ads vss ++ L)) ad ws := sl_own8 (A := [(q2', HO.lst (es.map fun n : Nat => V.int (n : Int))), (fo, HO.lst pus), (pot, HO.lst [.int x, .int y3, .int z])]) had hws
        clear S19
        wtm_at "vc"
        refine if_d (fun c9 => ?_) (fun c9 => ?_)
        · wtm_at "vc"
          refine hA _ _ _ Sm.rfl' S20 ⟨rfl, es ++ [k], by rw [List.map_append, show (0 + (k : Int)) = (k : Int) by omega]; rfl, by rw [List.length_append]; show es.length + 1 ≤ k + 1; omega, fun e he => (List.mem_append.mp he).elim (heb e) fun h => by
            rw [List.mem_singleton.mp h]
            refine ⟨by omega, ?_⟩
            rw [List.getD_eq_getElem?_getD, hRk]
            exact List.eq_nil_of_length_eq_zero (by show R.length = 0; omega)⟩
        · exact hS _ _ Sm.rfl' S20 ⟨rfl, es, rfl, by omega, heb⟩
      obtain ⟨rfl, es, rfl, hel, heb⟩ := hR
      rw [Int.toNat_natCast] at hel
      clear S19
      wtm_at "vc"
      refine if_d (fun c9 => ?_) (fun c9 => ?_)
      rotate_left
      · wtm_at "vc"
        have S21 : Sx D5 ((fo, .lst pus) :: (pot, .lst [.int x, .int y3, .int z]) :: (ownZ ads vss ++ L)) H14 := Sx.drop1 S20
        refine hN _ _ ⟨D5, pus, ps, vss, x, y3, _, _, _, _, rfl, up, S21, x0, y30, by omega, hvl, by rw [← hX]; exact hRs, hP, hok, by omega, by rw [← hX]; exact hne2⟩
      wtm_at "vc"
      refine ⟨_, _, pot, x, y3, z, (es.length : Int), rfl, Sx.front (a := pot) (S := S20), x0, y30, by omega, z0, z1, by omega, by omega, fun r9 x y4 H15 S21 r90 r91 x0 y40 yb6 => ?_⟩
      obtain ⟨e, he⟩ : ∃ e, es[r9.toNat]? = some e := ⟨_, List.getElem?_eq_getElem (by omega)⟩
      obtain ⟨heX, heE⟩ := heb e (List.mem_of_getElem? he)
      have hA1 : AtC (es.map fun n : Nat => V.int (n : Int)) r9 (.int (e : Int)) := ⟨atN r90 (by rw [List.getElem?_map, he]; rfl)⟩
      have S22 : Sx D5 ((fo, .lst pus) :: (le, .lst (es.map fun n : Nat => V.int (n : Int))) :: (pot, .lst [.int x, .int y4, .int z]) :: (ownZ ads vss ++ L)) H15 := Sx.perm S21 ((List.perm_append_comm (l₁ := [(pot, HO.lst [.int x, .int y4, .int z]), (le, HO.lst (es.map fun n : Nat => V.int (n : Int)))]) (l₂ := [(fo, HO.lst pus)])).append_right (ownZ ads vss ++ L) |>.trans ((List.Perm.swap _ _ _).cons _))
      clear S20 S21
      wtm_at "vc"
      rename_i tp D11 H16 S23 e11 ktp H17 S24
      have S25 : Sx D11 ((fo, .lst (pus ++ [.ref tp])) :: (pot, .lst [.int x, .int y4, .int z]) :: (ownZ ads vss ++ L)) H17 := Sx.gc (S := S24)
      clear S22 S23 S24
      have hq3 := q3.length_eq
      refine ⟨_, _, th, ads, vss, X, e, 2, rfl, Sx.perm S25 (pm_two8 _ _ _ _), inferInstance, by omega, hRs.up e11.e, by omega, by omega, by omega, by omega, hb2, fun rb wss D12 H18 S26 e12 hv4 hR4 hb4 => ?_⟩
      have S27 := Sx.perm S26.tail (pm_two8 _ _ _ _).symm
      have e9 : (plQ Rs (ps ++ [((e : Int), 1)])).1 = (tkN e X X.length).set e ((tkN e X X.length).getD e [] ++ [nwT (tfN e X X.length)]) := by
        rw [plQ_snoc, ← hX]
        show (phQ ((e : Int), 1) X).1 = _
        unfold phQ
        show (phZ (e : Int).toNat (X, zerI X.length) 1).1 = _
        rw [Int.toNat_natCast]
        rfl
      clear S25 S26
      refine hN _ _ ⟨D12, pus ++ [.ref tp], ps ++ [((e : Int), 1)], wss, x, y4, _, _, _, _, rfl, up, S27, x0, y40, by omega, by omega, by rw [e9]; exact hR4, ?_, okPl_sn8 ps Rs _ hok (by rw [← hX]; exact isPh1_8 heX heE hne2), by rw [List.length_append]; show ps.length + 1 ≤ i + 1; omega, by rw [e9]; exact set_ne8 (by rw [tkN_len]; exact heX) (by simp)⟩
      rw [List.map_append]
      exact RpAll.app (hP.up (up : Sm D5 D12).e) (.cons (.tup (xs := [.int (e : Int), .int 1]) ((up : Sm D11 D12).e _ _ ktp.pf) (.cons (.int _) (.cons (.int _) .nil))) .nil)
    subst es
    clear S18
    obtain ⟨D11, e11, kfo, S20⟩ := Sx.fix1 (a := fo) (S := S19)
    have hP11 := hP.up e11.e
    have hpul : pus.length = ps.length := by have := hP.length; rw [List.length_map] at this; exact this
    clear S19
    wtm_at "vc"
    have hU11 := hU.up (up : Sm D6 D11).e
    refine ⟨_, _, ra, fo, us, Rs, ps, pus, rfl, S20, ⟨.inl (inferInstance : Kn D11 ra (.lst us)).pf⟩, inA_of hU11, ⟨.inl kfo.pf⟩, hP11, hok, by omega, fun R hR => by have := hR2 R hR; omega, by omega, by omega, fun t2 th2 rb2 ads2 wss rus D12 H13 S21 e12 kt2 kth2 hal2 hRsA hFq hFr hz2 => ?_⟩
    clear S20
    wtm_at "vc"
    refine ⟨_, _, ra, fo, us, Rs, ps, pus, rfl, S21, inferInstance, hU.up (up : Sm D6 D12).e, inferInstance, hP11.up e12.e, hok, by omega, fun R hR => by have := hR2 R hR; omega, by omega, by omega, fun t1 th1 rb1 us1 rus1 D13 H14 S22 e13 kt1 kth1 hU1 krb1 hz1 => ?_⟩
    clear S21
    wtm_at "vc"
    obtain ⟨D16, e16, krb2, S24⟩ := Sx.fix1 (a := rb2) (S := S22)
    obtain ⟨D17, e17, S25, hk17, _, _⟩ := Sx.fixZ2 ads2 wss D16 hal2 S24
    refine r_eqSame (d := .tuple [.list ((plQ Rs ps).1.map reelQ), .list ((plQ Rs ps).2.map lI)]) (n := 4) (Rp.dp ((Rp.tup ((up : Sm D12 D17).e _ _ kt2.pf) (.cons (.lst ((up : Sm D12 D17).e _ _ kth2.pf) (rs_all8 (hRsA.up (up : Sm D12 D17).e) ads2 hal2 hk17)) (.cons (.lst (e17.e _ _ krb2.pf) (hz2.up (up : Sm D12 D17).e)) .nil))).up S25.dH)) (Rp.dp ((Rp.tup ((up : Sm D13 D17).e _ _ kt1.pf) (.cons (.lst ((up : Sm D13 D17).e _ _ kth1.pf) (hU1.up (up : Sm D13 D17).e)) (.cons (.lst ((up : Sm D13 D17).e _ _ krb1.pf) (hz1.up (up : Sm D13 D17).e)) .nil))).up S25.dH)) sh_pl8 ?_
    obtain ⟨D18, e18, S26, _, _, _⟩ := Sx.fixZ2 ads vss D17 (by omega) (Sx.perm S25 List.perm_middle.symm)
    exact q _ _ D18 _ S26 up
abbrev st__law_longer : Stmt := topS 23
theorem sc__law_longer : FnScope ["due", "found", "reel", "row"] ["due"] (defScope st__law_longer) := ⟨rfl, rfl, rfl, by decide +kernel, rfl, by decide +kernel, by decide +kernel⟩
def sp__law_longer (K : PySem.W.Frag) : Sp := fun vs H Q _ => ∃ (D : Hp) (L : Own) (b : Addr) (us : List V) (Rs : List (List Rw)), vs = [.ref b] ∧ Sx D L H ∧ Kn D b (.lst us) ∧ RpAll D us (Rs.map reelD) ∧ Rs.length ≤ 20 ∧ (∀ R, R ∈ Rs → R.length ≤ 4000 ∧ ∀ r, some r ∈ R → r.length ≤ 1000) ∧
  ∀ (fo : Addr) (vs' : List V) D' H', Sx D' ((fo, .lst vs') :: L) H' → Sm D D' → RpAll D' vs' ((Rs.map lgR).map reelD) → Q (.ref fo) H'
theorem ok__law_longer {fA : Addr} {fd : FuncData} (F : Fun K "_law_longer" "_law_longer" st__law_longer fA fd) : FnOk P w K mg base CX0 1 fA fd ["due"] (sp__law_longer K) := by
  refine F.ok sc__law_longer (fun vs H Q E h => ?_) (fun cdv A outer s H vs Q E hr h => ?_)
  · obtain ⟨D, L, b, us, Rs, rfl, S, kb, hU, hl, hR, q⟩ := h
    rfl
  · obtain ⟨D, L, b, us, Rs, rfl, S, kb, hU, hl, hR, q⟩ := h
    have hu : (A.deeper (envOfC "_law_longer" (defScope st__law_longer) s.heap.objs.size fA cdv)).units + 64 < cLine := by have := hr.un; omega
    refine ⟨_, (pss_cons (ps_set (i := 1) sc__law_longer.nd rfl (Or.inl rfl) (pe_lst pa_nil))
      (pss_cons (ps_for PassesOwn.never rfl (pi_seqK K (pv 0)) (pg_name (i := 2) sc__law_longer.nd rfl (Or.inl rfl))
      (pss_one (ps_expr (pe_bm PySem.F.plainAttrs_list PySem.F.slot_list_append PySem.F.type_list_append mt_append (pv 1) (pa_cons (pe_op (r := rAddX K) opAdd (pe_lc (own := [("row", 3)]) (tt := tYes) rfl sc__law_longer.nd (pi_seqK K (pv 2)) (blkOk_by (N := ["due", "found", "reel", "row"]) (sc := defScope st__law_longer) (by decide +kernel)) (fun _ _ _ _ _ => (pg_name (i := 3) sc__law_longer.nd rfl (Or.inl rfl))) (fun _ _ _ _ _ => pts_nil) (fun _ _ _ _ _ => (pe_ifExp (pt_cmpR op_isN1 (pv 3) pe_non (nomark _)) (pv 3) (pe_op (r := rAddX K) opAdd (pv 3) (pe_lst (pa_cons pe_int pa_nil)))))) (pe_lst (pa_cons pe_non pa_nil))) pa_nil)))))
      (pss_one (ps_ret (pv 1))))), ?_⟩
    refine st_start (σ' := [some _, none, none, none]) rfl (fun bk ct => ?_)
    have hul : us.length = Rs.length := by have := hU.length; rw [List.length_map] at this; exact this
    wtm_at "vc"
    rename_i fo H1 S1
    refine for_go (walk_list (xs := us)) (fun i σ H => ∃ (D3 : Hp) (vs3 : List V) (x2 x3 : Option V), σ = [some (.ref b), some (.ref fo), x2, x3] ∧ Sm D D3 ∧ Sx D3 ((fo, .lst vs3) :: L) H ∧ RpAll D3 vs3 (((Rs.take i).map lgR).map reelD))
      ⟨D, [], _, _, rfl, Sm.rfl', S1, .nil⟩ (fun i σ H hi ⟨D3, vs3, x2, x3, es, e3, S, _⟩ => Rds.sq S (rsD (e3.e _ _ kb.pf))) (fun i v σ H3 H4 hi ⟨D3, vs3, x2, x3, es, e3, S3, hI⟩ hy nx bk hN => ?_) (fun σ H3 ⟨D3, vs3, x2, x3, es, e3, S3, hI⟩ => ?_)
    · obtain ⟨rfl, hv⟩ := hy
      obtain ⟨d, hd, hp⟩ := (hU.up (up : Sm D D3).e).getV hv
      rw [List.getElem?_map] at hd
      obtain ⟨R, hRi, rfl⟩ := Option.map_eq_some_iff.mp hd
      obtain ⟨g, ys, rfl, kg, hys⟩ := reel_inv hp
      obtain ⟨hR1, hR2⟩ := hR R (List.mem_of_getElem? hRi)
      have hyl : ys.length = R.length := by have := hys.length; rw [List.length_map] at this; exact this
      have hvl : vs3.length ≤ 20 := by have := hI.length; rw [List.length_map, List.length_map, List.length_take] at this; omega
      subst es
      wtm_at "vc"
      refine lc_go (S := S3) (walk_list (xs := ys)) (by omega) (fun j acc D' => RpAll D' acc (((R.take j).map (fun r => r.map fun xs => xs ++ [0])).map dR)) .nil (fun D' p acc H' e' S' => Rds.sq S' (rsD (e'.e _ _ kg.pf))) (fun j v q2 acc D5 H5 H6 hj e5 S5 hRj hy Ad Sk hA hS => ?_) (fun la D5 acc H5 e5 S5 hRj => ?_)
      · obtain ⟨rfl, hv⟩ := hy
        obtain ⟨d, hd, hp⟩ := (hys.up (up : Sm D3 D5).e).getV hv
        rw [List.getElem?_map] at hd
        obtain ⟨r, hr, rfl⟩ := Option.map_eq_some_iff.mp hd
        rcases dr_inv hp with ⟨rfl, rfl⟩ | ⟨a, xs, rfl, rfl, ka⟩
        · wtm_at "vc"
          refine hA _ D5 _ Sm.rfl' S5 ?_
          rw [take_snQ hr, List.map_append, List.map_append]
          exact hRj.app (.cons .non .nil)
        · have := hR2 xs (List.mem_of_getElem? hr)
          wtm_at "vc"
          rename_i l1 H7 S7 l2 H8 S8
          have S9 : Sx D5 ((l2, .lst (xs.map V.int ++ [V.int 0])) :: (q2, .lst acc) :: (fo, .lst vs3) :: L) H8 := Sx.gc (S := S8)
          obtain ⟨D6, e6, k6, S10⟩ := Sx.fix1 (a := l2) (S := S9)
          refine hA _ D6 _ e6 S10 ?_
          rw [take_snQ hr, List.map_append, List.map_append]
          exact RpAll.app (hRj.up e6.e) (.cons (.lstI (ns := xs ++ [0]) (by rw [List.map_append]; exact k6.pf)) .nil)
      rw [hyl, List.take_length] at hRj
      have hal : acc.length = R.length := by have := hRj.length; rw [List.length_map, List.length_map] at this; exact this
      wtm_at "vc"
      rename_i l3 H6 S6 l4 H7 S7 H8 S8
      have S9 : Sx D5 ((l4, .lst (acc ++ [V.non])) :: (fo, .lst (vs3 ++ [.ref l4])) :: L) H8 := Sx.gc (S := S8)
      obtain ⟨D6, e6, k6, S10⟩ := Sx.fix1 (a := l4) (S := S9)
      refine hN _ _ ⟨D6, vs3 ++ [.ref l4], _, _, rfl, up, S10, ?_⟩
      rw [take_snQ hRi, List.map_append, List.map_append]
      refine RpAll.app (hI.up (up : Sm D3 D6).e) (.cons (.lst k6.pf ?_) .nil)
      show RpAll D6 _ ((R.map _ ++ [none]).map dR)
      rw [List.map_append]
      exact RpAll.app (hRj.up e6.e) (.cons .non .nil)
    subst es
    rw [hul, List.take_length] at hI
    wtm_at "vc"
    exact q fo vs3 D3 _ S3 e3 hI
abbrev st__law_phases : Stmt := topS 20
theorem sc__law_phases : FnScope ["pot", "reels", "most", "reel", "found", "turn", "empty", "number", "top", "full", "many"] ["pot", "reels", "most"] (defScope st__law_phases) := ⟨rfl, rfl, rfl, by decide +kernel, rfl, by decide +kernel, by decide +kernel⟩
def sp__law_phases (K : PySem.W.Frag) : Sp := fun vs H Q _ => ∃ (D : Hp) (L : Own) (pot a : Addr) (x y z most : Int) (us : List V) (Rs : List (List Rw)), vs = [.ref pot, .ref a, .int most] ∧ Sx D ((pot, .lst [.int x, .int y, .int z]) :: L) H ∧ 0 ≤ x ∧ 0 ≤ y ∧ y ≤ 900000000 ∧ 0 ≤ z ∧ z < 2147483647 ∧ Kn D a (.lst us) ∧ RpAll D us (Rs.map reelQ) ∧ 1 ≤ Rs.length ∧ Rs.length ≤ 10 ∧ (∀ R, R ∈ Rs → R.length ≤ 4000) ∧ (allT Rs).length ≤ 10000 ∧ 0 ≤ most ∧ most ≤ 10 ∧
  ∀ (fo : Addr) (us' : List V) (ps : List (Int × Int)) x' y' D' H', Sx D' ((fo, .lst us') :: (pot, .lst [.int x', .int y', .int z]) :: L) H' → Sm D D' → 0 ≤ x' → 0 ≤ y' → y' ≤ y + 100 → RpAll D' us' (ps.map pI) → okPl Rs ps → ps.length ≤ 10 → Q (.ref fo) H'
theorem ok__law_phases {fA : Addr} {fd : FuncData} (F : Fun K "_law_phases" "_law_phases" st__law_phases fA fd) (b_len : mg "len" = none) (b_list : mg "list" = none) (b_max : mg "max" = none) (b_range : mg "range" = none) (b_sorted : mg "sorted" = none)
    (C__law_played : Cl P w K mg base CX0 2 "_law_played" ["reels", "phases"] (sp__law_played K))
    (C__law_take : Cl P w K mg base CX0 1 "_law_take" ["pot", "size"] (sp__law_take K)) : FnOk P w K mg base CX0 3 fA fd ["pot", "reels", "most"] (sp__law_phases K) := by
  refine F.ok sc__law_phases (fun vs H Q E h => ?_) (fun cdv A outer s H vs Q E hr h => ?_)
  · obtain ⟨D, L, pot, a, x, y, z, most, us, Rs, rfl, S, x0, y0, y1, z0, z1, ka, hU, hl1, hl10, hRl, hall, m0, m10, q⟩ := h
    rfl
  · obtain ⟨D, L, pot, a, x, y, z, most, us, Rs, rfl, S, x0, y0, y1, z0, z1, ka, hU, hl1, hl10, hRl, hall, m0, m10, q⟩ := h
    have hu : (A.deeper (envOfC "_law_phases" (defScope st__law_phases) s.heap.objs.size fA cdv)).units + 64 < cLine := by have := hr.un; omega
    refine ⟨_, (pss_cons (ps_set (i := 1) sc__law_phases.nd rfl (Or.inr rfl) (pe_lc (own := [("reel", 3)]) (tt := tYes) rfl sc__law_phases.nd (pi_seqK K (pv 1)) (blkOk_by (N := ["pot", "reels", "most", "reel", "found", "turn", "empty", "number", "top", "full", "many"]) (sc := defScope st__law_phases) (by decide +kernel)) (fun _ _ _ _ _ => (pg_name (i := 3) sc__law_phases.nd rfl (Or.inl rfl))) (fun _ _ _ _ _ => pts_nil) (fun _ _ _ _ _ => (pe_callTy (r := rLstOf K) call_lstN (by rfl) b_list bb_list (pa_cons (pv 3) pa_nil)))))
      (pss_cons (ps_set (i := 4) sc__law_phases.nd rfl (Or.inl rfl) (pe_lst pa_nil))
      (pss_cons (ps_for PassesOwn.never rfl (pi_range1 (by rfl) b_range (pa_cons (pe_cl C__law_take hr (by decide) (by rfl) (pa_cons (pv 0) (pa_cons (pe_op (r := rAddX K) opAdd (pv 2) pe_int) pa_nil))) pa_nil)) (pg_name (i := 5) sc__law_phases.nd rfl (Or.inl rfl))
      (pss_cons (ps_setLc (i := 6) (own := [("number", 7)])  rfl sc__law_phases.nd rfl rfl (sw_true rfl rfl rfl (by decide +kernel)) (pi_range1 (by rfl) b_range (pa_cons (pe_callB (r := rLen K) call_lenN (by rfl) b_len bb_len (pa_cons (pv 1) pa_nil)) pa_nil)) (blkOk_by (N := ["pot", "reels", "most", "reel", "found", "turn", "empty", "number", "top", "full", "many"]) (sc := defScope st__law_phases) (by decide +kernel)) (fun _ _ _ _ _ => (pg_name (i := 7) sc__law_phases.nd rfl (Or.inl rfl))) (fun _ _ _ _ _ => (pts_one (pt_cmpR (r := rEqX K) (opEq hu) (pe_callB (r := rLen K) call_lenN (by rfl) b_len bb_len (pa_cons (pe_ix (r := rIx K) ix_seq (pv 1) (pv 7) (fun _ _ => rfl)) pa_nil)) pe_int (nomark _)))) (fun _ _ _ _ _ => (pv 7)))
      (pss_cons (ps_set (i := 8) sc__law_phases.nd rfl (Or.inl rfl) (pe_callB (r := rMaxY K) (cr_maxY rfl hu) (by rfl) b_max bb_max (pa_cons (pe_lc (own := [("reel", 3)]) (tt := tYes) rfl sc__law_phases.nd (pi_seqK K (pv 1)) (blkOk_by (N := ["pot", "reels", "most", "reel", "found", "turn", "empty", "number", "top", "full", "many"]) (sc := defScope st__law_phases) (by decide +kernel)) (fun _ _ _ _ _ => (pg_name (i := 3) sc__law_phases.nd rfl (Or.inl rfl))) (fun _ _ _ _ _ => pts_nil) (fun _ _ _ _ _ => (pe_callB (r := rLen K) call_lenN (by rfl) b_len bb_len (pa_cons (pv 3) pa_nil)))) pa_nil)))
      (pss_one (ps_if (PW.pt (pw_and (pt_cmpR op_gt (pe_callB (r := rLen K) call_lenN (by rfl) b_len bb_len (pa_cons (pv 6) pa_nil)) pe_int (nomark _)) (pw_and1 (pt_cmpR op_gt (pv 8) pe_int (nomark _))))) (pss_cons (ps_set (i := 9) sc__law_phases.nd rfl (Or.inl rfl) (pe_callB (r := rSortedW K) cr_sortedW (by rfl) b_sorted bb_sorted (pa_cons (pe_lc (own := [("reel", 3)])  rfl sc__law_phases.nd (pi_seqK K (pv 1)) (blkOk_by (N := ["pot", "reels", "most", "reel", "found", "turn", "empty", "number", "top", "full", "many"]) (sc := defScope st__law_phases) (by decide +kernel)) (fun _ _ _ _ _ => (pg_name (i := 3) sc__law_phases.nd rfl (Or.inl rfl))) (fun _ _ _ _ _ => (pts_one (pt_cmpR op_gt (pe_callB (r := rLen K) call_lenN (by rfl) b_len bb_len (pa_cons (pv 3) pa_nil)) pe_int (nomark _)))) (fun _ _ _ _ _ => (pe_callB (r := rLen K) call_lenN (by rfl) b_len bb_len (pa_cons (pv 3) pa_nil)))) pa_nil)))
      (pss_cons (ps_set (i := 10) sc__law_phases.nd rfl (Or.inl rfl) (pe_ix (r := rIx K) ix_seq (pe_lst (pa_cons (pe_ix (r := rIx K) ix_seq (pv 9) pe_int (fun _ _ => rfl)) (pa_cons (pe_op (r := rAddX K) opAdd pe_int (pe_cl C__law_take hr (by decide) (by rfl) (pa_cons (pv 0) (pa_cons (pv 8) pa_nil)))) (pa_cons (pv 8) pa_nil)))) (pe_cl C__law_take hr (by decide) (by rfl) (pa_cons (pv 0) (pa_cons pe_int pa_nil))) (fun _ _ => rfl)))
      (pss_cons (ps_expr (pe_bm PySem.F.plainAttrs_list PySem.F.slot_list_append PySem.F.type_list_append mt_append (pv 4) (pa_cons (pe_tup (pa_cons (pe_ix (r := rIx K) ix_seq (pv 6) (pe_cl C__law_take hr (by decide) (by rfl) (pa_cons (pv 0) (pa_cons (pe_callB (r := rLen K) call_lenN (by rfl) b_len bb_len (pa_cons (pv 6) pa_nil)) pa_nil))) (fun _ _ => rfl)) (pa_cons (pv 10) pa_nil))) pa_nil)))
      (pss_one (ps_set (i := 1) sc__law_phases.nd rfl (Or.inr rfl) (pe_ix (r := rIx K) ix_seq (pe_cl C__law_played hr (by decide) (by rfl) (pa_cons (pv 1) (pa_cons (pe_slice (r := rSlX K) slX (pv 4) (po_some (pe_un un_neg pe_int)) po_none) pa_nil))) pe_int (fun _ _ => rfl))))))) pss_nil)))))
      (pss_one (ps_ret (pv 4)))))), ?_⟩
    refine st_start (σ' := [some _, some _, some _, none, none, none, none, none, none, none, none]) rfl (fun bk ct => ?_)
    have hul : us.length = Rs.length := by have := hU.length; rw [List.length_map] at this; exact this
    wtm_at "vc"
    refine lc_go (S := S) (walk_list (xs := us)) (by omega) (fun i acc D' => RpAll D' acc ((Rs.take i).map reelQ)) .nil (fun D' p acc H' e' S' => Rds.sq S' (rsD (e'.e _ _ ka.pf))) (fun i v q2 acc D6 H6 H7 hi e6 S6 hR hy Ad Sk hA hS => ?_) (fun ra D6 acc H7 e6 S6 hR => ?_)
    · obtain ⟨rfl, hv⟩ := hy
      obtain ⟨d, hd, hp⟩ := (hU.up (up : Sm D D6).e).getV hv
      rw [List.getElem?_map] at hd
      obtain ⟨R, hRi, rfl⟩ := Option.map_eq_some_iff.mp hd
      obtain ⟨g, ys, rfl, kg, hys⟩ := reelQ_inv hp
      have hyl : ys.length ≤ 4000 := by have h1 := hys.length; rw [List.length_map] at h1; have := hRl R (List.mem_of_getElem? hRi); omega
      wtm_at "vc"
      rename_i l1 H8 S8
      have S9 : Sx D6 ((l1, .lst ys) :: (q2, .lst acc) :: (pot, .lst [.int x, .int y, .int z]) :: L) H8 := Sx.gc (S := S8)
      obtain ⟨D7, e7, k7, S10⟩ := Sx.fix1 (a := l1) (S := S9)
      refine hA _ D7 _ e7 S10 ?_
      rw [take_sn hRi, List.map_append]
      exact RpAll.app (hR.up e7.e) (.cons (.lst k7.pf (hys.up e7.e)) .nil)
    rw [hul, List.take_length] at hR
    obtain ⟨D7, e7, kra, S7⟩ := Sx.fix1 (a := ra) (S := S6)
    have hR7 := hR.up e7.e
    clear S6
    wtm_at "vc"
    rename_i fo H8 S8
    refine ⟨_, _, pot, x, y, z, most + 1, rfl, Sx.front (a := pot) (S := S8), x0, y0, by omega, z0, z1, by omega, by omega, fun rt x y2 H9 S9 rt0 rt1 x0 y20 yb => ?_⟩
    have S10 : Sx D7 ((fo, .lst []) :: (pot, .lst [.int x, .int y2, .int z]) :: L) H9 := Sx.front (a := fo) (S := S9)
    clear S7 S8 S9
    wtm_at "vc"
    refine for_go (walk_rng (lo := 0) (n := rt.toNat)) (fun i σ H => ∃ (D3 : Hp) (ra : Addr) (us3 pus : List V) (ps : List (Int × Int)) (x y3 : Int) (w3 w5 w6 w7 w8 w9 w10 : Option V), σ = [some (.ref pot), some (.ref ra), some (.int most), w3, some (.ref fo), w5, w6, w7, w8, w9, w10] ∧ Sm D7 D3 ∧ Sx D3 ((fo, .lst pus) :: (pot, .lst [.int x, .int y3, .int z]) :: L) H ∧ 0 ≤ x ∧ 0 ≤ y3 ∧ y3 ≤ y2 + 5 * (i : Int) ∧ Kn D3 ra (.lst us3) ∧ RpAll D3 us3 ((plQ Rs ps).1.map reelQ) ∧ RpAll D3 pus (ps.map pI) ∧ okPl Rs ps ∧ ps.length ≤ i)
      ⟨D7, ra, acc, [], [], x, y2, _, _, _, _, _, _, _, rfl, Sm.rfl', S10, x0, y20, by omega, kra, hR7, .nil, trivial, Nat.le_refl _⟩ (fun _ _ _ _ _ => trivial) (fun i v σ H10 H11 hi ⟨D3, ra, us3, pus, ps, x, y3, w3, w5, w6, w7, w8, w9, w10, es, e3, S11, x0, y30, yb2, kra, hU3, hP, hok, hpl⟩ hy nx bk hN => ?_) (fun σ H10 ⟨D3, ra, us3, pus, ps, x, y3, w3, w5, w6, w7, w8, w9, w10, es, e3, S11, x0, y30, yb2, kra, hU3, hP, hok, hpl⟩ => ?_)
    · obtain ⟨rfl, rfl⟩ := hy
      subst es
      obtain ⟨q1, q2, q3⟩ := pl_inv (B := 4000) _ _ hok hRl
      obtain ⟨X, hX⟩ : ∃ X, X = (plQ Rs ps).1 := ⟨_, rfl⟩
      rw [← hX] at hU3 q1 q2 q3
      have hu3l : us3.length = X.length := by have := hU3.length; rw [List.length_map] at this; exact this
      have hpul : pus.length = ps.length := by have := hP.length; rw [List.length_map] at this; exact this
      have hlen : ∀ (D' : Hp) (k : Nat), Sm D3 D' → k < X.length → ∃ (g : Addr) (ys : List V) (R : List Rw), us3[k]? = some (.ref g) ∧ X[k]? = some R ∧ Kn D' g (.lst ys) ∧ ys.length = R.length ∧ R.length ≤ 4000 := fun D' k e hk => by
        obtain ⟨v, hv⟩ : ∃ v, us3[k]? = some v := ⟨_, List.getElem?_eq_getElem (by omega)⟩
        obtain ⟨d, hd, hp⟩ := (hU3.up e.e).getV hv
        rw [List.getElem?_map] at hd
        obtain ⟨R, hRi, rfl⟩ := Option.map_eq_some_iff.mp hd
        obtain ⟨g, ys, rfl, kg, hys⟩ := reelQ_inv hp
        have h1 := hys.length
        rw [List.length_map] at h1
        exact ⟨g, ys, R, hv, hRi, kg, h1, q2 R (List.mem_of_getElem? hRi)⟩
      wtm_at "vc"
      refine lc_go (S := S11) (walk_rng (lo := 0) (n := ((us3.length : Nat) : Int).toNat)) (by omega) (fun k acc D' => D' = D3 ∧ ∃ es : List Nat, acc = es.map (fun n : Nat => V.int (n : Int)) ∧ es.length ≤ k ∧ ∀ e, e ∈ es → e < X.length ∧ X.getD e [] = []) ⟨rfl, [], rfl, Nat.le_refl _, fun e h => nomatch h⟩ (fun _ _ _ _ _ _ => trivial) (fun k v q2' acc D5 H12 H13 hk e5 S12 hR hy Ad Sk hA hS => ?_) (fun le D5 acc H12 e5 S12 hR => ?_)
      · obtain ⟨rfl, rfl⟩ := hy
        obtain ⟨rfl, es, rfl, hel, heb⟩ := hR
        rw [Int.toNat_natCast] at hk
        obtain ⟨g, ys, R, hg, hRk, kg, hyl, hR4⟩ := hlen D5 k Sm.rfl' (by omega)
        have hA1 : AtC us3 (0 + (k : Int)) (.ref g) := ⟨atN (by omega) (by rw [show (0 + (k : Int)).toNat = k by omega]; exact hg)⟩
        wtm_at "vc"
        refine if_d (fun c9 => ?_) (fun c9 => ?_)
        · wtm_at "vc"
          refine hA _ _ _ Sm.rfl' S12 ⟨rfl, es ++ [k], by rw [List.map_append, show (0 + (k : Int)) = (k : Int) by omega]; rfl, by rw [List.length_append]; show es.length + 1 ≤ k + 1; omega, fun e he => (List.mem_append.mp he).elim (heb e) fun h => by
            rw [List.mem_singleton.mp h]
            refine ⟨by omega, ?_⟩
            rw [List.getD_eq_getElem?_getD, hRk]
            exact List.eq_nil_of_length_eq_zero (by show R.length = 0; omega)⟩
        · exact hS _ _ Sm.rfl' S12 ⟨rfl, es, rfl, by omega, heb⟩
      obtain ⟨rfl, es, rfl, hel, heb⟩ := hR
      rw [Int.toNat_natCast] at hel
      clear S10 S11
      wtm_at "vc"
      refine lc_vals (S := S12) (walk_list (xs := us3)) (by omega) ((cntI X).map V.int) (by unfold cntI; rw [List.length_map, List.length_map]; omega) (fun p acc H' S' => Rds.sq S' (rsD kra.pf)) (fun k v q2' acc H13 H14 hk S13 hy Ad hA => ?_) (fun lt H13 S13 => ?_)
      · obtain ⟨rfl, hv⟩ := hy
        obtain ⟨g, ys, R, hg, hRk, kg, hyl, hR4⟩ := hlen D5 k Sm.rfl' (by omega)
        rw [hg] at hv
        cases hv
        wtm_at "vc"
        refine hA _ _ S13 ?_
        unfold cntI
        rw [List.getElem?_map, List.getElem?_map, hRk, hyl]
        rfl
      have hcne : cntI X ≠ [] := fun e => by
        have := congrArg List.length e
        unfold cntI at this
        rw [List.length_map] at this
        have h0 : ([] : List Int).length = 0 := rfl
        omega
      have hcl0 : 0 < (cntI X).length := List.length_pos_iff.mpr hcne
      wtm_at "vc"
      have hTm := mxL_mem hcne
      obtain ⟨T, hT⟩ : ∃ T, T = mxL (cntI X) := ⟨_, rfl⟩
      rw [← hT] at hTm ⊢
      have hT4 : T ≤ 4000 := by
        obtain ⟨R, hR, rfl⟩ := List.mem_map.mp hTm
        have := q2 R hR
        show (R.length : Int) ≤ 4000
        omega
      clear S12
      refine if_d (fun c1 => ?_) (fun c1 => ?_)
      rotate_left
      · wtm_at "vc"
        exact hN _ _ ⟨D5, ra, us3, pus, ps, x, y3, _, _, _, _, _, _, _, rfl, up, Sx.gc (S := S13), x0, y30, by omega, kra, by rw [← hX]; exact hU3, hP, hok, by omega⟩
      wtm_at "vc"
      refine if_d (fun c2 => ?_) (fun c2 => ?_)
      rotate_left
      · wtm_at "vc"
        exact hN _ _ ⟨D5, ra, us3, pus, ps, x, y3, _, _, _, _, _, _, _, rfl, up, Sx.gc (S := S13), x0, y30, by omega, kra, by rw [← hX]; exact hU3, hP, hok, by omega⟩
      wtm_at "vc"
      refine lc_go (S := S13) (walk_list (xs := us3)) (by omega) (fun k acc D' => D' = D5 ∧ ∃ fs : List Int, acc = fs.map V.int ∧ fs.length ≤ k ∧ (∀ f, f ∈ fs → 1 ≤ f ∧ f ≤ T) ∧ ∀ f, f ∈ (cntI X).take k → 0 < f → f ∈ fs) ⟨rfl, [], rfl, Nat.le_refl _, (fun f h => nomatch h), fun f h => nomatch h⟩ (fun D' p acc H' e' S' => Rds.sq S' (rsD (e'.e _ _ kra.pf))) (fun k v q2' acc D6' H14 H15 hk e6' S14 hR hy Ad Sk hA hS => ?_) (fun lf D6' acc H14 e6' S14 hR => ?_)
      · obtain ⟨rfl, hv⟩ := hy
        obtain ⟨rfl, fs, rfl, hfl, hfb, hfm⟩ := hR
        obtain ⟨g, ys, R, hg, hRk, kg, hyl, hR4⟩ := hlen D6' k up (by omega)
        rw [hg] at hv
        cases hv
        have hck : (cntI X)[k]? = some (R.length : Int) := by unfold cntI; rw [List.getElem?_map, hRk]; rfl
        have hmx := mxL_ge (List.mem_of_getElem? hck)
        rw [← hT] at hmx
        wtm_at "vc"
        refine if_d (fun c9 => ?_) (fun c9 => ?_)
        · wtm_at "vc"
          refine hA _ _ _ Sm.rfl' S14 ⟨rfl, fs ++ [(R.length : Int)], by rw [List.map_append, hyl]; rfl, by rw [List.length_append]; show fs.length + 1 ≤ k + 1; omega, fun f hf => (List.mem_append.mp hf).elim (hfb f) fun h => by rw [List.mem_singleton.mp h]; omega, fun f hf h0 => ?_⟩
          rw [take_sn hck] at hf
          rcases List.mem_append.mp hf with h | h
          · exact List.mem_append_left _ (hfm f h h0)
          · exact List.mem_append_right _ h
        · refine hS _ _ Sm.rfl' S14 ⟨rfl, fs, rfl, by omega, hfb, fun f hf h0 => ?_⟩
          rw [take_sn hck] at hf
          rcases List.mem_append.mp hf with h | h
          · exact hfm f h h0
          · rw [List.mem_singleton.mp h] at h0
            omega
      obtain ⟨rfl, fs, rfl, hfl, hfb, hfm⟩ := hR
      rw [List.take_of_length_le (by unfold cntI; rw [List.length_map]; omega)] at hfm
      have hTf := hfm T hTm c2
      clear S13
      wtm_at "vc"
      rename_i n3 hp3 hs3 sf H15 S15
      have hn3 : 0 < n3.length := List.length_pos_of_mem (hp3.mem_iff.mpr hTf)
      obtain ⟨f0, hf0⟩ : ∃ f, n3[0]? = some f := ⟨_, List.getElem?_eq_getElem hn3⟩
      have hf0b := hfb f0 (hp3.mem_iff.mp (List.mem_of_getElem? hf0))
      have hA2 : AtC (n3.map V.int) 0 (.int f0) := ⟨atN (by decide) (mapI hf0)⟩
      clear S14
      wtm_at "vc"
      refine ⟨_, _, pot, x, y3, z, T, rfl, Sx.front (a := pot) (S := S15), x0, y30, by omega, z0, z1, by omega, by omega, fun r1 x y4 H16 S16 r10 r11 x0 y40 yb3 => ?_⟩
      clear S15
      wtm_at "vc"
      rename_i lm H17 S17
      refine ⟨_, _, pot, x, y4, z, 3, rfl, Sx.front (a := pot) (S := S17), x0, y40, by omega, z0, z1, by decide, by decide, fun r2 x y5 H18 S18 r20 r21 x0 y50 yb4 => ?_⟩
      obtain ⟨M, hA3, hM1, hM2⟩ : ∃ M : Int, AtC [V.int f0, V.int (1 + r1), V.int T] r2 (.int M) ∧ 1 ≤ M ∧ M ≤ T := by
        rcases (by omega : r2 = 0 ∨ r2 = 1 ∨ r2 = 2) with e | e | e <;> subst e
        · exact ⟨_, ⟨atN (by decide) rfl⟩, by omega, by omega⟩
        · exact ⟨_, ⟨atN (by decide) rfl⟩, by omega, by omega⟩
        · exact ⟨_, ⟨atN (by decide) rfl⟩, by omega, by omega⟩
      clear S16 S17
      wtm_at "vc"
      refine ⟨_, _, pot, x, y5, z, (es.length : Int), rfl, S18, x0, y50, by omega, z0, z1, by omega, by omega, fun r4 x y6 H19 S19 r40 r41 x0 y60 yb5 => ?_⟩
      obtain ⟨e, he⟩ : ∃ e, es[r4.toNat]? = some e := ⟨_, List.getElem?_eq_getElem (by omega)⟩
      obtain ⟨heX, heE⟩ := heb e (List.mem_of_getElem? he)
      have hA4 : AtC (es.map fun n : Nat => V.int (n : Int)) r4 (.int (e : Int)) := ⟨atN r40 (by rw [List.getElem?_map, he]; rfl)⟩
      have hpq : isPh (cntI X) ((e : Int), M) := ⟨by show 0 ≤ (e : Int); omega, by show (e : Int) < _; unfold cntI; rw [List.length_map]; omega, by
        show (cntI X).getD (e : Int).toNat 0 = 0
        rw [Int.toNat_natCast]
        unfold cntI
        rw [List.getD_eq_getElem?_getD, List.getElem?_map, List.getElem?_eq_getElem heX]
        rw [List.getD_eq_getElem?_getD, List.getElem?_eq_getElem heX] at heE
        have heE : X[e] = [] := heE
        show ((X[e].length : Nat) : Int) = 0
        rw [heE]
        rfl, hM1, T, hTm, hM2⟩
      have hcu : ∀ v : V, CuC (pus ++ [v]) (some (-1)) none [v] := fun v => ⟨by rw [cut_last8, List.length_append, show pus.length + [v].length - 1 = pus.length by simp, List.drop_left]⟩
      clear S18
      wtm_at "vc"
      rename_i t9 D8 H20 S20 e8 k9 H21 S21 lc H22 S22
      obtain ⟨D9, e9, klc, S23⟩ := Sx.fix1 (a := lc) (S := S22)
      clear S19 S20 S21 S22
      have hallX : (allT X).length ≤ 10000 := by have := q3.length_eq; omega
      have hpI : Rp D9 (.ref t9) (pI ((e : Int), M)) := .tup (e9.e _ _ k9.pf) (.cons (.int _) (.cons (.int _) .nil))
      refine ⟨_, _, ra, lc, us3, X, [((e : Int), M)], [.ref t9], rfl, S23, inferInstance, hU3.up (up : Sm D6' D9).e, klc, .cons hpI .nil, ⟨hpq, trivial⟩, by omega, q2, hallX, by show (1 : Nat) ≤ 1000; decide, fun t th rb us' rus D10 H23 S24 e10 kt kth hU' krb hrus => ?_⟩
      clear S23
      wtm_at "vc"
      have S25 : Sx D10 ((fo, .lst (pus ++ [.ref t9])) :: (pot, .lst [.int x, .int y6, .int z]) :: L) H23 := by
        have S26 := Sx.front (a := fo) (S := S24)
        exact Sx.gc (S := S26)
      refine hN _ _ ⟨D10, th, us', pus ++ [.ref t9], ps ++ [((e : Int), M)], x, y6, _, _, _, _, _, _, _, rfl, up, S25, x0, y60, by omega, kth, ?_, ?_, okPl_sn8 _ _ _ hok (by rw [← hX]; exact hpq), by rw [List.length_append]; show ps.length + 1 ≤ i + 1; omega⟩
      · rw [plQ_snoc, ← hX]
        exact hU'
      · rw [List.map_append]
        exact RpAll.app (hP.up (up : Sm D6' D10).e) (.cons (hpI.up e10.e) .nil)
    subst es
    wtm_at "vc"
    exact q fo pus ps x y3 D3 _ S11 up x0 y30 (by omega) hP hok (by omega)
abbrev st__law_reels : Stmt := topS 16
theorem sc__law_reels : FnScope ["pot", "reels", "number", "turn", "reel"] ["pot"] (defScope st__law_reels) := ⟨rfl, rfl, rfl, by decide +kernel, rfl, by decide +kernel, by decide +kernel⟩
def sp__law_reels (K : PySem.W.Frag) : Sp := fun vs H Q _ => ∃ (D : Hp) (L : Own) (pot : Addr) (x y z : Int), vs = [.ref pot] ∧ Sx D ((pot, .lst [.int x, .int y, .int z]) :: L) H ∧ 0 ≤ x ∧ 0 ≤ y ∧ y ≤ 900000000 ∧ 0 ≤ z ∧ z < 2147483647 ∧
  ∀ (fo : Addr) (us : List V) (Rs : List (List Rw)) x' y' D' H', Sx D' ((fo, .lst us) :: (pot, .lst [.int x', .int y', .int z]) :: L) H' → Sm D D' → 0 ≤ x' → 0 ≤ y' → y' ≤ y + 1000 → RpAll D' us (Rs.map reelQ) → 3 ≤ Rs.length → Rs.length ≤ 8 → (∀ R, R ∈ Rs → R.length ≤ 6 ∧ ∀ r, r ∈ R → OkRw r) → [] ∈ Rs → (∃ R, R ∈ Rs ∧ R ≠ []) → Q (.ref fo) H'
theorem ok__law_reels {fA : Addr} {fd : FuncData} (F : Fun K "_law_reels" "_law_reels" st__law_reels fA fd) (b_len : mg "len" = none) (b_range : mg "range" = none)
    (C__law_lot : Cl P w K mg base CX0 2 "_law_lot" ["pot"] (sp__law_lot K))
    (C__law_take : Cl P w K mg base CX0 1 "_law_take" ["pot", "size"] (sp__law_take K)) : FnOk P w K mg base CX0 3 fA fd ["pot"] (sp__law_reels K) := by
  refine F.ok sc__law_reels (fun vs H Q E h => ?_) (fun cdv A outer s H vs Q E hr h => ?_)
  · obtain ⟨D, L, pot, x, y, z, rfl, S, x0, y0, y1, z0, z1, q⟩ := h
    rfl
  · obtain ⟨D, L, pot, x, y, z, rfl, S, x0, y0, y1, z0, z1, q⟩ := h
    have hu : (A.deeper (envOfC "_law_reels" (defScope st__law_reels) s.heap.objs.size fA cdv)).units + 64 < cLine := by have := hr.un; omega
    refine ⟨_, (pss_cons (ps_set (i := 1) sc__law_reels.nd rfl (Or.inl rfl) (pe_lst pa_nil))
      (pss_cons (ps_for PassesOwn.never rfl (pi_range1 (by rfl) b_range (pa_cons (pe_op (r := rAddX K) opAdd pe_int (pe_cl C__law_take hr (by decide) (by rfl) (pa_cons (pv 0) (pa_cons pe_int pa_nil)))) pa_nil)) (pg_name (i := 2) sc__law_reels.nd rfl (Or.inl rfl))
      (pss_one (ps_expr (pe_bm PySem.F.plainAttrs_list PySem.F.slot_list_append PySem.F.type_list_append mt_append (pv 1) (pa_cons (pe_lc (own := [("turn", 3)]) (tt := tYes) rfl sc__law_reels.nd (pi_range1 (by rfl) b_range (pa_cons (pe_cl C__law_take hr (by decide) (by rfl) (pa_cons (pv 0) (pa_cons pe_int pa_nil))) pa_nil)) (blkOk_by (N := ["pot", "reels", "number", "turn", "reel"]) (sc := defScope st__law_reels) (by decide +kernel)) (fun _ _ _ _ _ => (pg_name (i := 3) sc__law_reels.nd rfl (Or.inl rfl))) (fun _ _ _ _ _ => pts_nil) (fun _ _ _ _ _ => (pe_cl C__law_lot hr (by decide) (by rfl) (pa_cons (pv 0) pa_nil)))) pa_nil)))))
      (Evl.pss_cut (ps_if (pt_cmpR (r := rEqX K) (opEq hu) (pe_callB (r := rLen K) call_lenN (by rfl) b_len bb_len (pa_cons (pe_lc (own := [("reel", 4)])  rfl sc__law_reels.nd (pi_seqK K (pv 1)) (blkOk_by (N := ["pot", "reels", "number", "turn", "reel"]) (sc := defScope st__law_reels) (by decide +kernel)) (fun _ _ _ _ _ => (pg_name (i := 4) sc__law_reels.nd rfl (Or.inl rfl))) (fun _ _ _ _ _ => (pts_one (pt_cmpR op_gt (pe_callB (r := rLen K) call_lenN (by rfl) b_len bb_len (pa_cons (pv 4) pa_nil)) pe_int (nomark _)))) (fun _ _ _ _ _ => (pv 4))) pa_nil)) pe_int (nomark _)) (pss_one (ps_asg (pe_lst (pa_cons (pe_lst (pa_cons pe_int pa_nil)) pa_nil)) (pg_sub (pv 1) pe_int set_list))) pss_nil)
      (pss_cons (ps_expr (pe_bm PySem.F.plainAttrs_list PySem.F.slot_list_insert PySem.F.type_list_insert mt_insG (pv 1) (pa_cons (pe_cl C__law_take hr (by decide) (by rfl) (pa_cons (pv 0) (pa_cons (pe_op (r := rAddX K) opAdd (pe_callB (r := rLen K) call_lenN (by rfl) b_len bb_len (pa_cons (pv 1) pa_nil)) pe_int) pa_nil))) (pa_cons (pe_lst pa_nil) pa_nil))))
      (pss_one (ps_ret (pv 1))))))), ?_⟩
    refine st_start (σ' := [some _, none, none, none, none]) rfl (fun bk ct => ?_)
    wtm_at "vc"
    rename_i fo H1 S1
    refine ⟨_, _, pot, x, y, z, 6, rfl, Sx.front (a := pot) (S := S1), x0, y0, by omega, z0, z1, by decide, by decide, fun r x y2 H2 S2 r0 r1 x0 y20 yb => ?_⟩
    have S3 : Sx D ((fo, .lst []) :: (pot, .lst [.int x, .int y2, .int z]) :: L) H2 := Sx.front (a := fo) (S := S2)
    clear S1 S2
    wtm_at "vc"
    refine for_go (walk_rng (lo := 0) (n := (2 + r).toNat)) (fun i σ H => ∃ (D2 : Hp) (us : List V) (Rs : List (List Rw)) (x y3 : Int) (y5 y6 y7 : Option V), σ = [some (.ref pot), some (.ref fo), y5, y6, y7] ∧ Sm D D2 ∧ Sx D2 ((fo, .lst us) :: (pot, .lst [.int x, .int y3, .int z]) :: L) H ∧ 0 ≤ x ∧ 0 ≤ y3 ∧ y3 ≤ y2 + 100 * (i : Int) ∧ RpAll D2 us (Rs.map reelQ) ∧ Rs.length = i ∧ (∀ R, R ∈ Rs → R.length ≤ 6 ∧ ∀ r, r ∈ R → OkRw r))
      ⟨D, [], [], x, y2, _, _, _, rfl, Sm.rfl', S3, x0, y20, by omega, .nil, rfl, fun R h => nomatch h⟩ (fun _ _ _ _ _ => trivial) (fun i v σ H3 H4 hi ⟨D2, us, Rs, x, y3, y5, y6, y7, es, e2, S4, x0, y30, yb2, hU, hRl, hRb⟩ hy nx bk hN => ?_) (fun σ H3 ⟨D2, us, Rs, x, y3, y5, y6, y7, es, e2, S4, x0, y30, yb2, hU, hRl, hRb⟩ => ?_)
    · obtain ⟨rfl, rfl⟩ := hy
      subst es
      have hul : us.length ≤ 8 := by have := hU.length; rw [List.length_map] at this; omega
      wtm_at "vc"
      refine ⟨_, _, pot, x, y3, z, 7, rfl, Sx.front (a := pot) (S := S4), x0, y30, by omega, z0, z1, by decide, by decide, fun r2 x y4 H5 S5 r20 r21 x0 y40 yb3 => ?_⟩
      clear S4
      wtm_at "vc"
      refine lc_goL (S := S5) (walk_rng (lo := 0) (n := r2.toNat)) (by omega) (fun k acc D' L' => ∃ (R : List Rw) (x2 y5 : Int), RpAll D' acc (R.map rwD) ∧ R.length = k ∧ (∀ r, r ∈ R → OkRw r) ∧ L' = (pot, .lst [.int x2, .int y5, .int z]) :: (fo, .lst us) :: L ∧ 0 ≤ x2 ∧ 0 ≤ y5 ∧ y5 ≤ y4 + 13 * (k : Int)) ⟨[], x, y4, .nil, rfl, (fun r h => nomatch h), rfl, x0, y40, by omega⟩ (fun _ _ _ _ _ _ _ => trivial) (fun k v q2 acc D8 L8 H16 H17 hk e8 S15 hR hy Ad Sk hA hS => ?_) (fun la D8 acc L8 H16 e8 S15 hR => ?_)
      · obtain ⟨rfl, rfl⟩ := hy
        obtain ⟨R, x2, y5, hac, hRk, hok, rfl, x0, y50, yb4⟩ := hR
        wtm_at "vc"
        refine ⟨_, _, pot, x2, y5, z, rfl, Sx.front (a := pot) (S := S15), x0, y50, by omega, z0, z1, fun v9 r9 x3 y6 D9 H18 S16 e9 x0 y60 yb5 hv9 ho9 => ?_⟩
        wtm_at "vc"
        exact hA _ _ _ _ e9 (Sx.front (a := q2) (S := S16)) ⟨R ++ [r9], x3, y6, by rw [List.map_append]; exact RpAll.app (hac.up e9.e) (.cons hv9 .nil), by rw [List.length_append, hRk]; rfl, fun r hr => (List.mem_append.mp hr).elim (hok r) fun h => by rw [List.mem_singleton.mp h]; exact ho9, rfl, x0, y60, by omega⟩
      obtain ⟨R, x, y5, hac, hRk, hok, rfl, x0, y50, yb4⟩ := hR
      wtm_at "vc"
      rename_i H6 S6
      obtain ⟨D9, e9, kla, S7⟩ := Sx.fix1 (a := la) (S := S6)
      refine hN _ _ ⟨D9, us ++ [.ref la], Rs ++ [R], x, y5, _, _, _, rfl, up, Sx.front (a := fo) (S := S7), x0, y50, by omega, ?_, by rw [List.length_append, hRl]; rfl, fun R' hR' => (List.mem_append.mp hR').elim (hRb R') fun h => by rw [List.mem_singleton.mp h]; exact ⟨by omega, hok⟩⟩
      rw [List.map_append]
      exact RpAll.app (hU.up (up : Sm D2 D9).e) (.cons (.lst kla.pf (hac.up e9.e)) .nil)
    subst es
    have hul : us.length = Rs.length := by have := hU.length; rw [List.length_map] at this; exact this
    clear S3
    refine s_cut (fun σ H => ∃ (D3 : Hp) (us : List V) (Rs : List (List Rw)) (y5 y6 y7 : Option V), σ = [some (.ref pot), some (.ref fo), y5, y6, y7] ∧ Sm D2 D3 ∧ Sx D3 ((fo, .lst us) :: (pot, .lst [.int x, .int y3, .int z]) :: L) H ∧ RpAll D3 us (Rs.map reelQ) ∧ 2 ≤ Rs.length ∧ Rs.length ≤ 7 ∧ (∀ R, R ∈ Rs → R.length ≤ 6 ∧ ∀ r, r ∈ R → OkRw r) ∧ ∃ R, R ∈ Rs ∧ R ≠ []) (fun nx hN => ?_) (fun σ H4 ⟨D3, us, Rs, y5, y6, y7, es, e3, S5, hU, hl2, hl7, hRb, hne⟩ => ?_)
    · wtm_at "vc"
      refine lc_go (S := S4) (walk_list (xs := us)) (by omega) (fun k acc D' => D' = D2 ∧ acc.length = ((Rs.take k).filter fun R => decide (0 < R.length)).length) ⟨rfl, rfl⟩ (fun D' p acc H' e' S' => Rds.sq S' rs1) (fun k v q2 acc D5 H5 H6 hk e5 S5 hR hy Ad Sk hA hS => ?_) (fun lb D5 acc H5 e5 S5 hR => ?_)
      · obtain ⟨rfl, hv⟩ := hy
        obtain ⟨rfl, hac⟩ := hR
        obtain ⟨d, hd, hp⟩ := hU.getV hv
        rw [List.getElem?_map] at hd
        obtain ⟨R, hRi, rfl⟩ := Option.map_eq_some_iff.mp hd
        obtain ⟨g, ys, rfl, kg, hys⟩ := reelQ_inv hp
        have hyl : ys.length = R.length := by have := hys.length; rw [List.length_map] at this; exact this
        have hRl6 := (hRb R (List.mem_of_getElem? hRi)).1
        wtm_at "vc"
        refine if_d (fun c9 => ?_) (fun c9 => ?_)
        · wtm_at "vc"
          refine hA _ _ _ Sm.rfl' S5 ⟨rfl, ?_⟩
          rw [take_sn hRi, List.filter_append, List.filter_cons_of_pos (by exact decide_eq_true (by omega)), List.filter_nil, List.length_append, List.length_append, hac]
          rfl
        · refine hS _ _ Sm.rfl' S5 ⟨rfl, ?_⟩
          rw [take_sn hRi, List.filter_append, List.filter_cons_of_neg (by rw [decide_eq_false (by omega)]; decide), List.filter_nil, List.append_nil]
          exact hac
      obtain ⟨rfl, hac⟩ := hR
      rw [hul, List.take_length] at hac
      have hal : acc.length ≤ 8 := by have := List.length_filter_le (fun R : List Rw => decide (0 < R.length)) Rs; omega
      clear S4
      wtm_at "vc"
      refine if_d (fun c9 => ?_) (fun c9 => ?_)
      · wtm_at "vc"
        rename_i l1 H6 S6 l2 H7 S7 H8 S8
        obtain ⟨D6, e6, k2, S9⟩ := Sx.fix1 (a := l2) (S := Sx.front (a := l2) (S := S8))
        obtain ⟨D7, e7, k1, S10⟩ := Sx.fix1 (a := l1) (S := S9)
        have S11 : Sx D7 ((fo, .lst (us.set (Int.toNat 0) (.ref l2))) :: (pot, .lst [.int x, .int y3, .int z]) :: L) H8 := Sx.gc (S := S10)
        refine hN _ _ ⟨D7, us.set 0 (.ref l2), Rs.set 0 [some [1]], _, _, _, rfl, up, S11, ?_, by rw [List.length_set]; omega, by rw [List.length_set]; omega, fun R hR => ?_, [some [1]], List.mem_of_getElem? (i := 0) (by rw [List.getElem?_set, if_pos rfl, if_pos (by omega)]), fun h => nomatch h⟩
        · rw [List.map_set]
          exact rp_set8 _ _ _ _ _ (hU.up (up : Sm D5 D7).e) (.lst (e7.e _ _ k2.pf) (.cons (.lstI (ns := [1]) k1.pf) .nil))
        · rcases List.mem_or_eq_of_mem_set hR with h | h
          · exact hRb R h
          · rw [h]
            refine ⟨by decide, fun r hr => ?_⟩
            rw [List.mem_singleton.mp hr]
            intro ns hns
            cases hns
            exact ⟨List.pairwise_singleton _ _, by decide, fun t ht => by rw [List.mem_singleton.mp ht]; decide⟩
      · wtm_at "vc"
        have hex : ∃ R, R ∈ Rs ∧ R ≠ [] := by
          have h1 : 0 < (Rs.filter fun R => decide (0 < R.length)).length := by omega
          obtain ⟨R, hR⟩ := List.exists_mem_of_length_pos h1
          obtain ⟨h2, h3⟩ := List.mem_filter.mp hR
          have h4 := of_decide_eq_true h3
          exact ⟨R, h2, fun e => by rw [e] at h4; exact absurd h4 (by decide)⟩
        exact hN _ _ ⟨D5, us, Rs, _, _, _, rfl, Sm.rfl', Sx.gc (S := S5), hU, by omega, by omega, hRb, hex⟩
    subst es
    have hul : us.length = Rs.length := by have := hU.length; rw [List.length_map] at this; exact this
    clear S4
    wtm_at "vc"
    refine ⟨_, _, pot, x, y3, z, _, rfl, Sx.front (a := pot) (S := S5), x0, y30, by omega, z0, z1, by omega, by omega, fun r9 x y4 H5 S6 r90 r91 x0 y40 yb3 => ?_⟩
    wtm_at "vc"
    rename_i em H6 S7 H7 S8
    obtain ⟨D4, e4, kem, S9⟩ := Sx.fix1 (a := em) (S := S8)
    obtain ⟨h1, h2⟩ := rp_td8 _ _ (insP r9 us.length) (hU.up e4.e)
    rw [← List.map_take] at h1
    rw [← List.map_drop] at h2
    have hmem : ∀ R, R ∈ Rs.take (insP r9 us.length) ++ [[]] ++ Rs.drop (insP r9 us.length) → R ∈ Rs ∨ R = [] := fun R hR => by
      rcases List.mem_append.mp hR with h | h
      · rcases List.mem_append.mp h with h | h
        · exact .inl (List.mem_of_mem_take h)
        · exact .inr (List.mem_singleton.mp h)
      · exact .inl (List.mem_of_mem_drop h)
    refine q fo _ (Rs.take (insP r9 us.length) ++ [[]] ++ Rs.drop (insP r9 us.length)) x y4 D4 _ (Sx.front (a := fo) (S := S9)) up x0 y40 (by omega) ?_ (by rw [ins_len]; omega) (by rw [ins_len]; omega) (fun R hR => ?_) (List.mem_append_left _ (List.mem_append_right _ (List.mem_singleton.mpr rfl))) ?_
    · rw [List.map_append, List.map_append]
      exact (h1.app (.cons (.lst kem.pf .nil) .nil)).app h2
    · rcases hmem R hR with h | h
      · exact hRb R h
      · rw [h]
        exact ⟨Nat.zero_le _, fun r hr => nomatch hr⟩
    · obtain ⟨R, hR, hR2⟩ := hne
      refine ⟨R, ?_, hR2⟩
      rw [← List.take_append_drop (insP r9 us.length) Rs] at hR
      rcases List.mem_append.mp hR with h | h
      · exact List.mem_append_left _ (List.mem_append_left _ h)
      · exact List.mem_append_right _ h
abbrev st_law : Stmt := topS 25
theorem sc_law : FnScope ["script", "cell", "pot", "reels", "phases", "handed", "kept", "many", "due", "found", "reel", "row", "part", "sums"] ["script"] (defScope st_law) := ⟨rfl, rfl, rfl, by decide +kernel, rfl, by decide +kernel, by decide +kernel⟩
def sp_law (K : PySem.W.Frag) : Sp := fun vs H Q _ => ∃ (a : Addr) (ns : List Int), vs = [.ref a] ∧ Sq K H a (ns.map V.int) ∧ ns.length ≤ 63 ∧ ∀ H', Q (.bl true) H'
theorem ok_law {fA : Addr} {fd : FuncData} (F : Fun K "law" "law" st_law fA fd) (b_isinstance : mg "isinstance" = none) (b_len : mg "len" = none) (b_list : mg "list" = none) (b_range : mg "range" = none) (b_str : mg "str" = none) (b_tuple : mg "tuple" = none)
    (C__law_all_lists : Cl P w K mg base CX0 1 "_law_all_lists" ["found"] (sp__law_all_lists K))
    (C__law_begun : Cl P w K mg base CX0 1 "_law_begun" ["cell"] (sp__law_begun K))
    (C__law_folded : Cl P w K mg base CX0 1 "_law_folded" ["cells", "many"] (sp__law_folded K))
    (C__law_handed : Cl P w K mg base CX0 1 "_law_handed" ["reels"] (sp__law_handed K))
    (C__law_long_right : Cl P w K mg base CX0 4 "_law_long_right" ["pot"] (sp__law_long_right K))
    (C__law_longer : Cl P w K mg base CX0 1 "_law_longer" ["due"] (sp__law_longer K))
    (C__law_phases : Cl P w K mg base CX0 3 "_law_phases" ["pot", "reels", "most"] (sp__law_phases K))
    (C__law_played : Cl P w K mg base CX0 2 "_law_played" ["reels", "phases"] (sp__law_played K))
    (C__law_reels : Cl P w K mg base CX0 3 "_law_reels" ["pot"] (sp__law_reels K))
    (C__law_take : Cl P w K mg base CX0 1 "_law_take" ["pot", "size"] (sp__law_take K))
    (C_play_rows : Cl P w K mg base CX0 3 "play_rows" ["reels", "phases"] (sp_play_rows K)) : FnG P w K mg base CX0 5 fA fd ["script"] (sp_law K) := by
  refine Fun.okG F sc_law (fun vs H Q E h => ?_) (fun cdv A outer s H vs Q E hr hgd h => ?_)
  · obtain ⟨a, ns, rfl, hA, hn, q⟩ := h
    rfl
  · obtain ⟨a, ns, rfl, hA, hn, q⟩ := h
    have hu : (A.deeper (envOfC "law" (defScope st_law) s.heap.objs.size fA cdv)).units + 64 < cLine := by have := hr.un; omega
    refine ⟨_, (pss_cons (ps_for PassesOwn.never rfl (pi_seqK K (pe_cl C__law_folded hr (by decide) (by rfl) (pa_cons (pv 0) (pa_cons pe_int pa_nil)))) (pg_name (i := 1) sc_law.nd rfl (Or.inl rfl))
      (pss_cons (ps_set (i := 2) sc_law.nd rfl (Or.inl rfl) (pe_cl C__law_begun hr (by decide) (by rfl) (pa_cons (pv 1) pa_nil)))
      (pss_cons (ps_set (i := 3) sc_law.nd rfl (Or.inl rfl) (pe_cl C__law_reels hr (by decide) (by rfl) (pa_cons (pv 2) pa_nil)))
      (pss_cons (ps_set (i := 4) sc_law.nd rfl (Or.inl rfl) (pe_cl C__law_phases hr (by decide) (by rfl) (pa_cons (pv 2) (pa_cons (pv 3) (pa_cons pe_int pa_nil)))))
      (pss_cons (ps_set (i := 5) sc_law.nd rfl (Or.inl rfl) (pv 3))
      (Evl.pss_cut (ps_if (pt_cmpR (r := rEqX K) (opEq hu) (pe_cl C__law_take hr (by decide) (by rfl) (pa_cons (pv 2) (pa_cons pe_int pa_nil))) pe_int (nomark _)) (pss_one (ps_set (i := 5) sc_law.nd rfl (Or.inl rfl) (pe_cl C__law_handed hr (by decide) (by rfl) (pa_cons (pv 3) pa_nil)))) pss_nil)
      (pss_cons (ps_set (i := 6) sc_law.nd rfl (Or.inl rfl) (pe_callTy (r := rStrD K) (call_strD hgd hu) (by rfl) b_str bb_str (pa_cons (pe_lst (pa_cons (pv 5) (pa_cons (pv 4) pa_nil))) pa_nil)))
      (pss_cons (ps_for PassesOwn.never rfl (pi_seqK K (pe_op (r := rAddX K) opAdd (pe_listRg rfl (by rfl) b_list (prg_1 (by rfl) b_range (pe_op (r := rAddX K) opAdd (pe_callB (r := rLen K) call_lenN (by rfl) b_len bb_len (pa_cons (pv 4) pa_nil)) pe_int))) (pe_lst (pa_cons (pe_callB (r := rLen K) call_lenN (by rfl) b_len bb_len (pa_cons (pv 4) pa_nil)) pa_nil)))) (pg_name (i := 7) sc_law.nd rfl (Or.inl rfl))
      (pss_cons (ps_set (i := 8) sc_law.nd rfl (Or.inl rfl) (pe_cl C__law_played hr (by decide) (by rfl) (pa_cons (pv 3) (pa_cons (pe_slice (r := rSlX K) slX (pv 4) po_none (po_some (pv 7))) pa_nil))))
      (pss_cons (ps_set (i := 9) sc_law.nd rfl (Or.inl rfl) (pe_cl C_play_rows hr (by decide) (by rfl) (pa_cons (pv 5) (pa_cons (pe_slice (r := rSlX K) slX (pv 4) po_none (po_some (pv 7))) pa_nil))))
      (Evl.pss_cut (ps_if (PW.pt (pw_or (pt_not (pt_val (pe_callB (r := rIsiX K) call_isiX (by rfl) b_isinstance bb_isinstance (pa_cons (pv 9) (pa_cons (pe_bltn (v := .ty "tuple") (u := .type "tuple") (by rfl) b_tuple bb_tuple rfl) pa_nil))))) (pw_or (pt_cmpR (r := rNeX K) (opNe hu) (pe_callB (r := rLen K) call_lenN (by rfl) b_len bb_len (pa_cons (pv 9) pa_nil)) pe_int (nomark _)) (pw_or (pt_not (pt_val (pe_cl C__law_all_lists hr (by decide) (by rfl) (pa_cons (pv 9) pa_nil)))) (pw_or1 (pt_cmpR (r := rNeX K) (opNe hu) (pv 9) (pv 8) (nomark _))))))) (pss_one (ps_ret pe_bl)) pss_nil)
      (pss_cons (ps_for PassesOwn.never rfl (pi_seqK K (pe_ix (r := rIx K) ix_seq (pv 9) pe_int (fun _ _ => rfl))) (pg_name (i := 10) sc_law.nd rfl (Or.inl rfl))
      (pss_one (ps_for PassesOwn.never rfl (pi_seqK K (pv 10)) (pg_name (i := 11) sc_law.nd rfl (Or.inl rfl))
      (pss_one (ps_if (pt_cmpR op_notN1 (pv 11) pe_non (nomark _)) (pss_one (ps_expr (pe_bm PySem.F.plainAttrs_list PySem.F.slot_list_append PySem.F.type_list_append mt_append (pv 11) (pa_cons pe_int pa_nil)))) pss_nil)))))
      (pss_cons (ps_for PassesOwn.never rfl (pi_seqK K (pe_op (r := rAddX K) opAdd (pe_ix (r := rIx K) ix_seq (pv 9) pe_int (fun _ _ => rfl)) (pe_ix (r := rIx K) ix_seq (pv 9) pe_int (fun _ _ => rfl)))) (pg_name (i := 12) sc_law.nd rfl (Or.inl rfl))
      (pss_one (ps_expr (pe_bm PySem.F.plainAttrs_list PySem.F.slot_list_append PySem.F.type_list_append mt_append (pv 12) (pa_cons pe_non pa_nil)))))
      (Evl.pss_cut (ps_if (PW.pt (pw_or (pt_cmpR (r := rNeX K) (opNe hu) (pe_ix (r := rIx K) ix_seq (pv 9) pe_int (fun _ _ => rfl)) (pe_cl C__law_longer hr (by decide) (by rfl) (pa_cons (pe_ix (r := rIx K) ix_seq (pv 8) pe_int (fun _ _ => rfl)) pa_nil)) (nomark _)) (pw_or1 (pt_cmpR (r := rNeX K) (opNe hu) (pe_ix (r := rIx K) ix_seq (pv 9) pe_int (fun _ _ => rfl)) (pe_lc (own := [("sums", 13)]) (tt := tYes) rfl sc_law.nd (pi_seqK K (pe_ix (r := rIx K) ix_seq (pv 8) pe_int (fun _ _ => rfl))) (blkOk_by (N := ["script", "cell", "pot", "reels", "phases", "handed", "kept", "many", "due", "found", "reel", "row", "part", "sums"]) (sc := defScope st_law) (by decide +kernel)) (fun _ _ _ _ _ => (pg_name (i := 13) sc_law.nd rfl (Or.inl rfl))) (fun _ _ _ _ _ => pts_nil) (fun _ _ _ _ _ => (pe_op (r := rAddX K) opAdd (pv 13) (pe_lst (pa_cons pe_non pa_nil))))) (nomark _))))) (pss_one (ps_ret pe_bl)) pss_nil)
      (pss_one (ps_if (pt_cmpR (r := rNeX K) (opNe hu) (pe_callTy (r := rStrD K) (call_strD hgd hu) (by rfl) b_str bb_str (pa_cons (pe_lst (pa_cons (pv 5) (pa_cons (pv 4) pa_nil))) pa_nil)) (pv 6) (nomark _)) (pss_one (ps_ret pe_bl)) pss_nil)))))))))
      (pss_one (ps_if (PW.pt (pw_and (pt_cmpR (r := rEqX K) (opEq hu) (pe_cl C__law_take hr (by decide) (by rfl) (pa_cons (pv 2) (pa_cons pe_int pa_nil))) pe_int (nomark _)) (pw_and1 (pt_not (pt_val (pe_cl C__law_long_right hr (by decide) (by rfl) (pa_cons (pv 2) pa_nil))))))) (pss_one (ps_ret pe_bl)) pss_nil))))))))))
      (pss_one (ps_ret pe_bl))), ?_⟩
    refine st_start (σ' := [some _, none, none, none, none, none, none, none, none, none, none, none, none, none]) rfl (fun bk ct => ?_)
    have S := Sx.start H
    wtm_at "vc"
    refine ⟨_, _, a, ns, 4, rfl, S, hA, hn, by decide, by decide, fun b fs D1 H1 l1 l2 S1 e1 => ?_⟩
    obtain ⟨D2, e2, k2, S2⟩ := Sx.fix1 (a := b) (S := S1)
    wtm_at "vc"
    refine for_go (walk_list (xs := fs.map V.int)) (fun i σ H1 => ∃ (D : Hp) (x1 x2 x3 x4 x5 x6 x7 x8 x9 x10 x11 x12 x13 : Option V), Sx D [] H1 ∧ Sm D2 D ∧ σ = [some (.ref a), x1, x2, x3, x4, x5, x6, x7, x8, x9, x10, x11, x12, x13])
      ⟨D2, _, _, _, _, _, _, _, _, _, _, _, _, _, Sx.gc, up, rfl⟩ (fun i σ H1 hi ⟨D, x1, x2, x3, x4, x5, x6, x7, x8, x9, x10, x11, x12, x13, S, eD, es⟩ => (rsD (K := K) (L := []) (eD.e _ _ k2.pf)).sq S) (fun i v σ H1 H2 hi ⟨D, x1, x2, x3, x4, x5, x6, x7, x8, x9, x10, x11, x12, x13, S, eD, es⟩ hy nx bk hN => ?_) (fun σ H1 ⟨D, x1, x2, x3, x4, x5, x6, x7, x8, x9, x10, x11, x12, x13, S, eD, es⟩ => ?_)
    rotate_left
    · subst es
      wtm_at "vc"
      exact q _
    obtain ⟨rfl, hv⟩ := hy
    obtain ⟨cl, hcl, rfl⟩ := getI hv
    subst es
    wtm_at "vc"
    refine ⟨_, _, cl, rfl, S, fun pot x z H3 x0 z0 z1 S3 => ?_⟩
    have y0 : (0 : Int) ≤ 0 := Int.le_refl _
    wtm_at "vc"
    refine ⟨_, _, pot, x, 0, z, rfl, S3, x0, y0, by decide, z0, z1, fun ro us Rs x y D3 H4 S4 e3 x0 y0 yb hU hl3 hl8 hRb hemp hne => ?_⟩
    obtain ⟨D4, e4, kro, S5⟩ := Sx.fix1 (a := ro) (S := S4)
    have hU4 := hU.up e4.e
    have hR4 : ∀ R, R ∈ Rs → R.length ≤ 4000 := fun R hR => by have := (hRb R hR).1; omega
    have hall := all_len8 Rs hRb
    clear S3 S4
    wtm_at "vc"
    refine ⟨_, _, pot, ro, x, y, z, 8, us, Rs, rfl, S5, x0, y0, by omega, z0, z1, kro, hU4, by omega, by omega, hR4, by omega, by decide, by decide, fun po pus ps x y D5 H5 S6 e5 x0 y0 yb2 hP hok hpl => ?_⟩
    obtain ⟨D6, e6, kpo, S7⟩ := Sx.fix1 (a := po) (S := S6)
    have hP6 := hP.up e6.e
    have hbd := okPl_bd8 (B := 6) ps Rs hok (fun R hR => (hRb R hR).1)
    have hpul : pus.length = ps.length := by have := hP.length; rw [List.length_map] at this; exact this
    clear S5 S6
    wtm_at "vc"
    have hprs := pr_reels8 (Rs := Rs) (by omega) hRb
    refine s_cut (fun σ H => ∃ (D7 : Hp) (hd : Addr) (hus : List V) (hD : PyData) (x y : Int), σ = [some (.ref a), some (.int cl), some (.ref pot), some (.ref ro), some (.ref po), some (.ref hd), x6, x7, x8, x9, x10, x11, x12, x13] ∧ Sm D6 D7 ∧ Sx D7 [(pot, .lst [.int x, .int y, .int z])] H ∧ 0 ≤ x ∧ 0 ≤ y ∧ y ≤ 2000 ∧ Ks D7 hd hus ∧ InA D7 hus Rs ∧ Rp D7 (.ref hd) hD ∧ Pr 500 3 hD) (fun nx2 hN2 => ?_) (fun σ H6 ⟨D7, hd, hus, hD, x, y, es, e7, S8, x0, y0, yb3, khd, hIn, hRd, hPr⟩ => ?_)
    · wtm_at "vc"
      refine ⟨_, _, pot, x, y, z, 3, rfl, S7, x0, y0, by omega, z0, z1, by decide, by decide, fun r3 x y H6 S8 r30 r31 x0 y0 yb3 => ?_⟩
      wtm_at "vc"
      refine if_d (fun c9 => ?_) (fun c9 => ?_)
      · wtm_at "vc"
        refine ⟨_, _, ro, us, Rs, rfl, S8, inferInstance, hU4.up (up : Sm D4 D6).e, by omega, fun R hR => ⟨hR4 R hR, fun r hr => by have := ((hRb R hR).2 _ hr r rfl).2.1; omega⟩, fun t9 us9 D7 H7 S9 e7 kt9 hU9 => ?_⟩
        wtm_at "vc"
        exact hN2 _ _ ⟨D7, t9, us9, .tuple (Rs.map reelT), x, y, rfl, e7, S9, x0, y0, by omega, ⟨.inr kt9.pf⟩, inA_ofT hU9, .tup kt9.pf hU9, pr_tup hprs.2⟩
      · wtm_at "vc"
        have kro6 : Kn D6 ro (.lst us) := inferInstance
        have hU6 := hU4.up (up : Sm D4 D6).e
        exact hN2 _ _ ⟨D6, ro, us, .list (Rs.map reelQ), x, y, rfl, Sm.rfl', S8, x0, y0, by omega, ⟨.inl kro6.pf⟩, inA_of hU6, .lst kro6.pf hU6, pr_lst hprs.1⟩
    subst es
    clear S7
    wtm_at "vc"
    rename_i lz H7 S9
    obtain ⟨D8, e8, klz, S10⟩ := Sx.fix1 (a := lz) (S := S9)
    have hdat : ∀ D', Sm D7 D' → RpAll D' [.ref hd, .ref po] [hD, .list (ps.map pI)] := fun D' e => .cons (hRd.up e.e) (.cons (.lst ((up : Sm D6 D').e _ _ kpo.pf) (hP6.up (up : Sm D6 D').e)) .nil)
    have hPr2 : Pr 23000 50 (.list [hD, .list (ps.map pI)]) := (pr_lst (pr_cons (n := 700) (n1 := 500) (n2 := 41) (m := 3) hPr (pr_cons (n := 41) (n1 := 40) (n2 := 0) ((pr_lst (pr_ps8 (by omega) fun x hx => by have := hbd x hx; omega)).mono (by omega) (by omega)) (pr_nil 0 3) (by omega)) (by omega))).mono (by omega) (by omega)
    refine c_strD (d := .list [hD, .list (ps.map pI)]) (Rp.dp ((Rp.lst klz.pf (hdat D8 e8)).up S10.dH)) hPr2 ?_
    clear S8 S9
    generalize hKS : PyData.shown (.list [hD, .list (ps.map pI)]) = KS
    wtm_at "vc"
    refine ⟨RgOk.of_le (by decide) (by omega) (by decide) (by omega), fun q1 hq1 => ?_⟩
    have S11 := S10.new (o := .lst (rgV 0 ((pus.length : Int) + 1))) hq1
    have hrgl : (rgV 0 ((pus.length : Int) + 1)).length = pus.length + 1 := by rw [rgV_length]; omega
    clear S10
    wtm_at "vc"
    rename_i g1 H8 S12 lm H9 S13
    obtain ⟨D9, e9, klm, S14⟩ := Sx.fix1 (a := lm) (S := S13)
    have S15 : Sx D9 [(pot, .lst [.int x, .int y, .int z])] H9 := Sx.gc (S := S14)
    clear S11 S12 S13 S14
    refine for_go (walk_list (xs := rgV 0 ((pus.length : Int) + 1) ++ [V.int (pus.length : Int)])) (fun i σ H => ∃ (D10 : Hp) (y7 y8 y9 y10 y11 y12 y13 : Option V), σ = [some (.ref a), some (.int cl), some (.ref pot), some (.ref ro), some (.ref po), some (.ref hd), some (.str KS), y7, y8, y9, y10, y11, y12, y13] ∧ Sm D9 D10 ∧ Sx D10 [(pot, .lst [.int x, .int y, .int z])] H)
      ⟨D9, _, _, _, _, _, _, _, rfl, Sm.rfl', S15⟩ (fun i σ H hi ⟨D10, y7, y8, y9, y10, y11, y12, y13, es, e10, S⟩ => Rds.sq S (rsD (e10.e _ _ klm.pf))) (fun i v σ H10 H11 hi ⟨D10, y7, y8, y9, y10, y11, y12, y13, es, e10, S16⟩ hy nx2 bk2 hN2 => ?_) (fun σ H10 ⟨D10, y7, y8, y9, y10, y11, y12, y13, es, e10, S16⟩ => ?_)
    · obtain ⟨rfl, hv⟩ := hy
      obtain ⟨k, rfl, hkp⟩ := rg8 pus.length (List.mem_of_getElem? hv)
      subst es
      rw [hpul] at hkp
      have hcut : CuC pus none (some (k : Int)) (pus.take k) := ⟨cut_to pus k⟩
      have hPk : ∀ D', Sm D6 D' → RpAll D' (pus.take k) ((ps.take k).map pI) := fun D' e => by
        have := (rp_td8 _ _ k (hP6.up e.e)).1
        rw [← List.map_take] at this
        exact this
      have hokk := (okPl_app (ps.take k) (ps.drop k) Rs (by rw [List.take_append_drop]; exact hok)).1
      have hpkl : (ps.take k).length ≤ 10 := by rw [List.length_take]; omega
      obtain ⟨X1, hX1⟩ : ∃ X, X = (plQ Rs (ps.take k)).1 := ⟨_, rfl⟩
      obtain ⟨zs1, hzs1⟩ : ∃ z, z = (plQ Rs (ps.take k)).2 := ⟨_, rfl⟩
      obtain ⟨i1, i2, i3⟩ := pl_inv (B := 6) _ _ hokk (fun R hR => (hRb R hR).1)
      have hzl1 : zs1.length ≤ 10 := by rw [hzs1, plQ_len8]; exact hpkl
      have hzl2 : ∀ z, z ∈ zs1 → z.length ≤ 8 := fun z hz => by rw [hzs1] at hz; rw [plQ_lz8 _ _ z hz]; omega
      rw [← hX1] at i1 i2 i3
      clear S15
      wtm_at "vc"
      rename_i ls1 H12 S17
      obtain ⟨D11, e11, kls1, S18⟩ := Sx.fix1 (a := ls1) (S := S17)
      refine ⟨_, _, ro, ls1, us, Rs, ps.take k, pus.take k, rfl, S18, inferInstance, hU4.up (up : Sm D4 D11).e, kls1, hPk D11 up, hokk, by omega, hR4, by omega, by omega, fun t1 th1 rb1 us1 rus1 D12 H13 S19 e12 kt1 kth1 hU1 krb1 hz1 => ?_⟩
      rw [← hX1] at hU1
      rw [← hzs1] at hz1
      clear S17 S18
      wtm_at "vc"
      rename_i ls2 H14 S20
      obtain ⟨D13, e13, kls2, S21⟩ := Sx.fix1 (a := ls2) (S := S20)
      refine ⟨_, _, hd, ls2, hus, Rs, ps.take k, pus.take k, rfl, S21, inferInstance, hIn.up (up : Sm D7 D13), ⟨.inl kls2.pf⟩, hPk D13 up, hokk, by omega, fun R hR => by have := (hRb R hR).1; omega, by omega, by omega, fun t2 th2 rb2 ads wss rus D14 H15 S22 e14 kt2 kth2 hal hRsA hFq hFr hz2 => ?_⟩
      rw [← hX1] at hRsA
      rw [← hzs1] at hz2
      have hwX := hRsA.len
      have hw6 : ∀ w, w ∈ wss → w.length ≤ 6 := fun w hw => by
        obtain ⟨j, hj⟩ := List.getElem?_of_mem hw
        obtain ⟨R, hR1, hR2⟩ := hRsA.get hj
        have h1 := hR2.length
        rw [List.length_map] at h1
        have := i2 R (List.mem_of_getElem? hR1)
        omega
      clear S19 S20 S21 S16
      wtm_at "vc"
      refine s_cut (fun σ H => ∃ (D15 : Hp), σ = [some (.ref a), some (.int cl), some (.ref pot), some (.ref ro), some (.ref po), some (.ref hd), some (.str KS), some (.int (k : Int)), some (.ref t1), some (.ref t2), y10, y11, y12, y13] ∧ Sm D14 D15 ∧ Sx D15 ((rb2, .lst rus) :: (ownZ ads wss ++ [(pot, .lst [.int x, .int y, .int z])])) H) (fun nx3 hN3 => ?_) (fun σ H16 ⟨D15, es, e15, S23⟩ => ?_)
      · wtm_at "vc"
        refine ⟨_, _, t2, th2, rb2, ads, wss, rus, X1, zs1, rfl, S22, kt2, kth2, hal, by omega, hRsA, hz2, by omega, fun z hz => by have := hzl2 z hz; omega, fun w hw => by have := hw6 w hw; omega, fun D15 H16 S23 e15 => ?_⟩
        clear S22
        wtm_at "vc"
        obtain ⟨D16, e16, krb2, S24⟩ := Sx.fix1 (a := rb2) (S := S23)
        obtain ⟨D17, e17, S25, hk17, _, _⟩ := Sx.fixZ2 ads wss D16 hal S24
        refine r_neSame (d := .tuple [.list (X1.map reelQ), .list (zs1.map lI)]) (n := 4) (Rp.dp ((Rp.tup ((up : Sm D14 D17).e _ _ kt2.pf) (.cons (.lst ((up : Sm D14 D17).e _ _ kth2.pf) (rs_all8 (hRsA.up (up : Sm D14 D17).e) ads hal hk17)) (.cons (.lst (e17.e _ _ krb2.pf) (hz2.up (up : Sm D14 D17).e)) .nil))).up S25.dH)) (Rp.dp ((Rp.tup ((up : Sm D12 D17).e _ _ kt1.pf) (.cons (.lst ((up : Sm D12 D17).e _ _ kth1.pf) (hU1.up (up : Sm D12 D17).e)) (.cons (.lst ((up : Sm D12 D17).e _ _ krb1.pf) (hz1.up (up : Sm D12 D17).e)) .nil))).up S25.dH)) sh_pl8 ?_
        clear S24 S25
        wtm_at "vc"
        exact hN3 _ _ ⟨D15, rfl, e15, S23⟩
      subst es
      clear S22
      obtain ⟨rs, zads, D16, hRl, hrz, hzal, e16, S24, hkeep⟩ := thawA8 S23 hal hRsA hFq hFr hz2 e15 (up : Sm D13 D15)
      have kt2' : Kn D16 t2 (.tup [.ref th2, .ref rb2]) := ⟨hkeep _ _ (e15.e _ _ kt2.pf) fun r h => nomatch h⟩
      have hadl : ads.length = Rs.length := by omega
      have kth2' : Kn D16 th2 (.lst (ads.map V.ref)) := ⟨hkeep _ _ (e15.e _ _ kth2.pf) fun r h => by
        injection h with h
        cases ads with
        | nil => have h3 : ([] : List Addr).length = 0 := rfl; omega
        | cons b ads =>
          cases r with
          | nil => exact nomatch h
          | cons z r => injection h with h1 _; exact nomatch h1⟩
      have hX6 : ∀ R, R ∈ X1 → ∀ r, some r ∈ R → r.length ≤ 960 := fun R hR r hr => by
        have h1 := row_le8 hR hr
        have h2 := i3.length_eq
        omega
      have hrs6 : ∀ r, r ∈ rs → r.length ≤ 960 := fun r hr => by
        rw [rl_rs hRl] at hr
        obtain ⟨q, hq, e⟩ := List.mem_filterMap.mp hr
        have e : q = some r := e
        rw [e] at hq
        obtain ⟨R, hR, hq⟩ := List.mem_flatten.mp hq
        exact hX6 R hR r hq
      have hrul : rus.length = zs1.length := by rw [hrz, List.length_map, hzal]
      have hrul1 : rus1.length = zs1.length := by have := hz1.length; rw [List.length_map] at this; exact this
      clear S23 kt2 kth2
      generalize hZW : (zs1.map fun z => z.map V.int) = zws at S24
      have hzwl : zws.length = zs1.length := by rw [← hZW, List.length_map]
      have hAZ : (ads ++ zads).length = (wss ++ zws).length := by rw [List.length_append, List.length_append, hal, hzal, hzwl]
      wtm_at "vc"
      have S25 : Sx D16 ((rb2, .lst rus) :: (ownZ (ads ++ zads) (wss ++ zws) ++ (ownZ (adS wss) ((bmpG gR5 (cS (X1.take 0).flatten) rs).map fun r => r.map V.int) ++ [(pot, .lst [.int x, .int y, .int z])]))) H16 := S24
      clear S24
      refine for_go (walk_list (xs := ads.map V.ref)) (fun i2 σ H => ∃ (z10 z11 : Option V), σ = [some (.ref a), some (.int cl), some (.ref pot), some (.ref ro), some (.ref po), some (.ref hd), some (.str KS), some (.int (k : Int)), some (.ref t1), some (.ref t2), z10, z11, y12, y13] ∧ Sx D16 ((rb2, .lst rus) :: (ownZ (ads ++ zads) (wss ++ zws) ++ (ownZ (adS wss) ((bmpG gR5 (cS (X1.take i2).flatten) rs).map fun r => r.map V.int) ++ [(pot, .lst [.int x, .int y, .int z])]))) H)
        ⟨_, _, rfl, S25⟩ (fun i2 σ H hi2 ⟨z10, z11, es, S⟩ => Rds.sq S (rsD kth2'.pf)) (fun i2 v σ H20 H21 hi2 ⟨z10, z11, es, S26⟩ hy nx4 bk4 hN4 => ?_) (fun σ H20 ⟨z10, z11, es, S26⟩ => ?_)
      · obtain ⟨rfl, hv⟩ := hy
        rw [List.getElem?_map] at hv
        obtain ⟨ad, had, rfl⟩ := Option.map_eq_some_iff.mp hv
        have hkl := (List.getElem?_eq_some_iff.mp had).1
        obtain ⟨ws, hws⟩ : ∃ ws, wss[i2]? = some ws := ⟨_, List.getElem?_eq_getElem (by omega)⟩
        have had2 : (ads ++ zads)[i2]? = some ad := by rw [List.getElem?_append_left hkl]; exact had
        have hws2 : (wss ++ zws)[i2]? = some ws := by rw [List.getElem?_append_left (by omega)]; exact hws
        obtain ⟨R, as1, rs1, hRi, hRw, hmap⟩ := rl_at hRl i2 ws hws
        obtain ⟨c0, hc0⟩ : ∃ c0, c0 = cS (X1.take i2).flatten := ⟨_, rfl⟩
        rw [← hc0] at S26 hmap
        have hwl : ws.length ≤ 6 := hw6 ws (List.mem_of_getElem? hws)
        subst es
        have hSl : Sl K D16 ((rb2, .lst rus) :: (ownZ (ads ++ zads) (wss ++ zws) ++ (ownZ (adS wss) ((bmpG gR5 c0 rs).map fun r => r.map V.int) ++ [(pot, .lst [.int x, .int y, .int z])]))) ad ws := sl_own8 (A := [(rb2, HO.lst rus)]) had2 hws2
        clear S25
        wtm_at "vc"
        refine for_go (walk_list (xs := ws)) (fun j σ H => ∃ (z11 : Option V), σ = [some (.ref a), some (.int cl), some (.ref pot), some (.ref ro), some (.ref po), some (.ref hd), some (.str KS), some (.int (k : Int)), some (.ref t1), some (.ref t2), some (.ref ad), z11, y12, y13] ∧ Sx D16 ((rb2, .lst rus) :: (ownZ (ads ++ zads) (wss ++ zws) ++ (ownZ (adS wss) ((bmpG gR5 (c0 + cS (R.take j)) rs).map fun r => r.map V.int) ++ [(pot, .lst [.int x, .int y, .int z])]))) H)
          ⟨_, rfl, by rw [show cS (R.take 0) = 0 from rfl, Nat.add_zero]; exact S26⟩ (fun j σ H hj ⟨z11, es, S⟩ => Rds.sq S (sl_own8 (K := K) (A := [(rb2, HO.lst rus)]) had2 hws2).pf) (fun j v σ H22 H23 hj ⟨z11, es, S27⟩ hy nx5 bk5 hN5 => ?_) (fun σ H22 ⟨z11, es, S27⟩ => ?_)
        · obtain ⟨rfl, hv⟩ := hy
          subst es
          clear S26
          rcases rw_at hRw j v hv with ⟨rfl, hRj⟩ | ⟨ra, r1, rfl, hRj, hra, hr1⟩
          · wtm_at "vc"
            refine hN5 _ _ ⟨_, rfl, ?_⟩
            rw [take_snQ hRj, cS_app]
            exact S27
          · obtain ⟨hA1, hA2⟩ := hmap _ ra r1 hra hr1
            have hr3 : (((bmpG gR5 (c0 + cS (R.take j)) rs).map fun r => r.map V.int))[c0 + cS (R.take j)]? = some (r1.map V.int) := by
              rw [List.getElem?_map, bmp_get gR5 hA2]
              rfl
            have hr1l : r1.length ≤ 960 := hrs6 r1 (List.mem_of_getElem? hA2)
            have S28 := Sx.perm S27 (pm_own8 (A := (rb2, HO.lst rus) :: ownZ (ads ++ zads) (wss ++ zws)) (P := [(pot, HO.lst [.int x, .int y, .int z])]) hA1 hr3)
            clear S27
            wtm_at "vc"
            rename_i H24 S29
            have e5 : r1.map V.int ++ [V.int 0] = (gR5 r1).map V.int := by unfold gR5; rw [List.map_append]; rfl
            rw [e5] at S29
            have S30 := Sx.perm S29 (pm_back8 (A := (rb2, HO.lst rus) :: ownZ (ads ++ zads) (wss ++ zws)) (P := [(pot, HO.lst [.int x, .int y, .int z])]) hA1 (List.getElem?_eq_some_iff.mp hr3).1)
            have e6 : ((bmpG gR5 (c0 + cS (R.take j)) rs).map fun r => r.map V.int).set (c0 + cS (R.take j)) ((gR5 r1).map V.int) = (bmpG gR5 (c0 + cS (R.take j) + 1) rs).map fun r => r.map V.int := by rw [← bmp_set gR5 hA2, List.map_set]
            rw [e6] at S30
            refine hN5 _ _ ⟨_, rfl, ?_⟩
            rw [take_snQ hRj, cS_app]
            exact S30
        subst es
        rw [hRw.len, List.take_length] at S27
        refine hN4 _ _ ⟨_, _, rfl, ?_⟩
        rw [take_snQ hRi, List.flatten_append, cS_app, List.flatten_cons, List.flatten_nil, List.append_nil, ← hc0]
        exact S27
      subst es
      rw [List.length_map, hal, hRl.len, List.take_length, hRl.cnt, hRl.lens, bmp_all] at S26
      clear S25
      wtm_at "vc"
      rename_i lq H21 S27
      obtain ⟨D17, e17, klq, S28⟩ := Sx.fix1 (a := lq) (S := S27)
      clear S26 S27
      have S29 : Sx D17 ((rb2, .lst rus) :: (ownZ (ads ++ zads) (bmpG gW5 0 (wss ++ zws)) ++ (ownZ (adS wss) ((rs.map gR5).map fun r => r.map V.int) ++ [(pot, .lst [.int x, .int y, .int z])]))) H21 := S28
      clear S28
      have hlq : ads.map V.ref ++ rus = (ads ++ zads).map V.ref := by rw [List.map_append, hrz]
      rw [hlq] at klq
      have hazl : (ads ++ zads).length ≤ 40 := by rw [List.length_append]; omega
      refine for_go (walk_list (xs := (ads ++ zads).map V.ref)) (fun i2 σ H => ∃ (z12 : Option V), σ = [some (.ref a), some (.int cl), some (.ref pot), some (.ref ro), some (.ref po), some (.ref hd), some (.str KS), some (.int (k : Int)), some (.ref t1), some (.ref t2), z10, z11, z12, y13] ∧ Sx D17 ((rb2, .lst rus) :: (ownZ (ads ++ zads) (bmpG gW5 i2 (wss ++ zws)) ++ (ownZ (adS wss) ((rs.map gR5).map fun r => r.map V.int) ++ [(pot, .lst [.int x, .int y, .int z])]))) H)
        ⟨_, rfl, S29⟩ (fun i2 σ H hi2 ⟨z12, es, S⟩ => Rds.sq S (rsD klq.pf)) (fun i2 v σ H22 H23 hi2 ⟨z12, es, S30⟩ hy nx4 bk4 hN4 => ?_) (fun σ H22 ⟨z12, es, S30⟩ => ?_)
      · obtain ⟨rfl, hv⟩ := hy
        rw [List.getElem?_map] at hv
        obtain ⟨ad, had, rfl⟩ := Option.map_eq_some_iff.mp hv
        obtain ⟨ws, hws⟩ : ∃ ws, (wss ++ zws)[i2]? = some ws := ⟨_, List.getElem?_eq_getElem (by rw [← hAZ]; exact (List.getElem?_eq_some_iff.mp had).1)⟩
        have hwl : ws.length ≤ 8 := by
          rcases List.mem_append.mp (List.mem_of_getElem? hws) with h | h
          · have := hw6 ws h; omega
          · rw [← hZW] at h
            obtain ⟨z9, hz9, rfl⟩ := List.mem_map.mp h
            rw [List.length_map]
            exact hzl2 z9 hz9
        subst es
        have S31 := Sx.perm S30 (pm_own8 (A := [(rb2, HO.lst rus)]) (P := ownZ (adS wss) ((rs.map gR5).map fun r => r.map V.int) ++ [(pot, HO.lst [.int x, .int y, .int z])]) had (bmp_get gW5 hws))
        clear S29 S30
        wtm_at "vc"
        rename_i H24 S32
        have S33 := Sx.perm S32 (pm_back8 (A := [(rb2, HO.lst rus)]) (P := ownZ (adS wss) ((rs.map gR5).map fun r => r.map V.int) ++ [(pot, HO.lst [.int x, .int y, .int z])]) had (List.getElem?_eq_some_iff.mp (bmp_get gW5 hws)).1)
        have e7 : (bmpG gW5 i2 (wss ++ zws)).set i2 (ws ++ [V.non]) = bmpG gW5 (i2 + 1) (wss ++ zws) := bmp_set gW5 hws
        rw [e7] at S33
        exact hN4 _ _ ⟨_, rfl, S33⟩
      subst es
      rw [List.length_map, hAZ, bmp_all, ← hZW, mp_wz8] at S30
      have hRl2 := hRl.lg
      clear S29
      wtm_at "vc"
      refine s_cut (fun σ H => ∃ (D18 : Hp) (z13 : Option V), σ = [some (.ref a), some (.int cl), some (.ref pot), some (.ref ro), some (.ref po), some (.ref hd), some (.str KS), some (.int (k : Int)), some (.ref t1), some (.ref t2), z10, z11, z12, z13] ∧ Sm D13 D18 ∧ Sx D18 [(pot, .lst [.int x, .int y, .int z])] H) (fun nx4 hN4 => ?_) (fun σ H23 ⟨D18, z13, es, e18, S31⟩ => ?_)
      · wtm_at "vc"
        have hU1r : RpAll D17 us1 (X1.map reelD) := by rw [← reelQ_D]; exact hU1.up (up : Sm D12 D17).e
        refine ⟨_, _, th1, us1, X1, rfl, S30, inferInstance, hU1r, by omega, fun R hR => ⟨by have := i2 R hR; omega, fun r hr => by have := hX6 R hR r hr; omega⟩, fun fl vs9 D18 H23 S31 e18 hV => ?_⟩
        obtain ⟨D19, e19, kfl, S32⟩ := Sx.fix1 (a := fl) (S := S31)
        refine r_neSame (d := .list ((X1.map lgR).map reelD)) (n := 3) (dp_th8 (Sx.perm S32 (pm_out _ _ _ _)) inferInstance (by rw [List.length_map]; exact hal) (by rw [List.length_map]; exact hzal) hRl2) (Rp.dp ((Rp.lst kfl.pf (hV.up e19.e)).up S32.dH)) (sh_reels _) ?_
        clear S30 S31
        wtm_at "vc"
        refine lc_go (S := S32) (walk_list (xs := rus1)) (by omega) (fun k acc D' => RpAll D' acc ((zs1.take k).map zlD)) .nil (fun D' p acc H' e' S' => Rds.sq S' (rsD ((up : Sm D12 D').e _ _ krb1.pf))) (fun k2 v q2 acc D20 H24 H25 hk2 e20 S33 hR3 hy Ad Sk hA hS => ?_) (fun lb D20 acc H24 e20 S33 hR3 => ?_)
        · obtain ⟨rfl, hv⟩ := hy
          obtain ⟨g, r, rfl, hr, kg⟩ := ra_getL (hz1.up (up : Sm D12 D20).e) hv
          have := hzl2 r (List.mem_of_getElem? hr)
          wtm_at "vc"
          rename_i l8 H26 S34 l9 H27 S35
          have S36 : Sx D20 ((l9, .lst (r.map V.int ++ [V.non])) :: (q2, .lst acc) :: (rb2, .lst rus) :: (ownZ (ads ++ zads) (wss.map gW5 ++ zs1.map fun z => z.map V.int ++ [V.non]) ++ (ownZ (adS wss) ((rs.map gR5).map fun r => r.map V.int) ++ [(pot, .lst [.int x, .int y, .int z])]))) H27 := Sx.gc (S := S35)
          obtain ⟨D21, e21, k21, S37⟩ := Sx.fix1 (a := l9) (S := S36)
          refine hA _ D21 _ e21 S37 ?_
          rw [take_snQ hr, List.map_append]
          exact RpAll.app (hR3.up e21.e) (.cons (.lst k21.pf ((RpAll.ints r).app (.cons .non .nil))) .nil)
        rw [hrul1, List.take_length] at hR3
        obtain ⟨D21, e21, klb, S34⟩ := Sx.fix1 (a := lb) (S := S33)
        have S35 : Sx D21 ((rb2, .lst (zads.map V.ref)) :: (ownZ (ads ++ zads) (wss.map gW5 ++ zs1.map fun z => z.map V.int ++ [V.non]) ++ (ownZ (adS wss) ((rs.map gR5).map fun r => r.map V.int) ++ [(pot, .lst [.int x, .int y, .int z])]))) H24 := by rw [← hrz]; exact S34
        refine r_neSame (d := .list (zs1.map zlD)) (n := 3) (dp_rb8 S35 (by rw [List.length_map]; exact hal) (by rw [List.length_map]; exact hzal) rfl) (Rp.dp ((Rp.lst klb.pf (hR3.up e21.e)).up S35.dH)) sh_zl8 ?_
        clear S32 S33 S34
        have S36 : Sx D21 [(pot, .lst [.int x, .int y, .int z])] H24 := Sx.drops S35
        clear S35
        wtm_at "vc"
        exact hN4 _ _ ⟨D21, _, rfl, up, S36⟩
      subst es
      clear S30
      wtm_at "vc"
      rename_i lz2 H24 S32
      obtain ⟨D19, e19, klz2, S33⟩ := Sx.fix1 (a := lz2) (S := S32)
      refine c_strD (d := .list [hD, .list (ps.map pI)]) (Rp.dp ((Rp.lst klz2.pf (hdat D19 up)).up S33.dH)) hPr2 ?_
      rw [hKS]
      clear S31 S32
      wtm_at "vc"
      exact hN2 _ _ ⟨D19, _, _, _, _, _, _, _, rfl, up, S33⟩
    subst es
    clear S15
    wtm_at "vc"
    refine ⟨_, _, pot, x, y, z, 8, rfl, S16, x0, y0, by omega, z0, z1, by decide, by decide, fun r8 x y H17 S22 r80 r81 x0 y0 yb3 => ?_⟩
    wtm_at "vc"
    refine if_d (fun c9 => ?_) (fun c9 => ?_)
    · wtm_at "vc"
      refine ⟨_, _, pot, x, y, z, rfl, S22, x0, y0, by omega, z0, z1, fun x y D15 H18 S23 e15 => ?_⟩
      wtm_at "vc"
      exact hN _ _ ⟨D15, _, _, _, _, _, _, _, _, _, _, _, _, _, Sx.gc (S := S23), up, rfl⟩
    · wtm_at "vc"
      exact hN _ _ ⟨D10, _, _, _, _, _, _, _, _, _, _, _, _, _, Sx.gc (S := S22), up, rfl⟩
end
theorem all_mk {l : PySem.W.OpenLaw} {w : World} {K : PySem.W.Frag} {h : Heap} {mg : Str → Option Value} 
    {fa f__law_all_lists f__law_begun f__law_folded f__law_handed f__law_take f__law_lot f__law_merging f__law_is_phase f__law_played f_copied_row f_is_phase f_merged_row f_taken_off f_phase_played f_play_rows f__law_long_right f__law_longer f__law_phases f__law_reels f_law : Addr} {od__law_all_lists an__law_all_lists od__law_begun an__law_begun od__law_folded an__law_folded od__law_handed an__law_handed od__law_take an__law_take od__law_lot an__law_lot od__law_merging an__law_merging od__law_is_phase an__law_is_phase od__law_played an__law_played od_copied_row an_copied_row od_is_phase an_is_phase od_merged_row an_merged_row od_taken_off an_taken_off od_phase_played an_phase_played od_play_rows an_play_rows od__law_long_right an__law_long_right od__law_longer an__law_longer od__law_phases an__law_phases od__law_reels an__law_reels od_law an_law : Option Addr} {sl__law_all_lists sl__law_begun sl__law_folded sl__law_handed sl__law_take sl__law_lot sl__law_merging sl__law_is_phase sl__law_played sl_copied_row sl_is_phase sl_merged_row sl_taken_off sl_phase_played sl_play_rows sl__law_long_right sl__law_longer sl__law_phases sl__law_reels sl_law : Array (Option Value)} {oc__law_all_lists kV__law_all_lists dc__law_all_lists pm__law_all_lists cd__law_all_lists ct__law_all_lists oc__law_begun kV__law_begun dc__law_begun pm__law_begun cd__law_begun ct__law_begun oc__law_folded kV__law_folded dc__law_folded pm__law_folded cd__law_folded ct__law_folded oc__law_handed kV__law_handed dc__law_handed pm__law_handed cd__law_handed ct__law_handed oc__law_take kV__law_take dc__law_take pm__law_take cd__law_take ct__law_take oc__law_lot kV__law_lot dc__law_lot pm__law_lot cd__law_lot ct__law_lot oc__law_merging kV__law_merging dc__law_merging pm__law_merging cd__law_merging ct__law_merging oc__law_is_phase kV__law_is_phase dc__law_is_phase pm__law_is_phase cd__law_is_phase ct__law_is_phase oc__law_played kV__law_played dc__law_played pm__law_played cd__law_played ct__law_played oc_copied_row kV_copied_row dc_copied_row pm_copied_row cd_copied_row ct_copied_row oc_is_phase kV_is_phase dc_is_phase pm_is_phase cd_is_phase ct_is_phase oc_merged_row kV_merged_row dc_merged_row pm_merged_row cd_merged_row ct_merged_row oc_taken_off kV_taken_off dc_taken_off pm_taken_off cd_taken_off ct_taken_off oc_phase_played kV_phase_played dc_phase_played pm_phase_played cd_phase_played ct_phase_played oc_play_rows kV_play_rows dc_play_rows pm_play_rows cd_play_rows ct_play_rows oc__law_long_right kV__law_long_right dc__law_long_right pm__law_long_right cd__law_long_right ct__law_long_right oc__law_longer kV__law_longer dc__law_longer pm__law_longer cd__law_longer ct__law_longer oc__law_phases kV__law_phases dc__law_phases pm__law_phases cd__law_phases ct__law_phases oc__law_reels kV__law_reels dc__law_reels pm__law_reels cd__law_reels ct__law_reels oc_law kV_law dc_law pm_law cd_law ct_law : Value} (X : K.In h) (G : h.Ns mainGlobals mg) (hfa : mg "law" = some (.ref fa))
    (a__law_all_lists : PySem.W.nsIn K mainGlobals "_law_all_lists" = some (some (.ref f__law_all_lists)))
    (l__law_all_lists : K.lookup f__law_all_lists = some ⟨oc__law_all_lists, od__law_all_lists, .func (PySem.W.fnOf "_law_all_lists" "_law_all_lists" (defArgs st__law_all_lists) (defBody st__law_all_lists) (defScope st__law_all_lists) .none kV__law_all_lists dc__law_all_lists pm__law_all_lists an__law_all_lists cd__law_all_lists ct__law_all_lists), sl__law_all_lists⟩)
    (c__law_all_lists : PySem.W.codeIn K cd__law_all_lists "_law_all_lists" = true) (k__law_all_lists : PySem.W.keepIn K (.ref f__law_all_lists) = true)
    (a__law_begun : PySem.W.nsIn K mainGlobals "_law_begun" = some (some (.ref f__law_begun)))
    (l__law_begun : K.lookup f__law_begun = some ⟨oc__law_begun, od__law_begun, .func (PySem.W.fnOf "_law_begun" "_law_begun" (defArgs st__law_begun) (defBody st__law_begun) (defScope st__law_begun) .none kV__law_begun dc__law_begun pm__law_begun an__law_begun cd__law_begun ct__law_begun), sl__law_begun⟩)
    (c__law_begun : PySem.W.codeIn K cd__law_begun "_law_begun" = true) (k__law_begun : PySem.W.keepIn K (.ref f__law_begun) = true)
    (a__law_folded : PySem.W.nsIn K mainGlobals "_law_folded" = some (some (.ref f__law_folded)))
    (l__law_folded : K.lookup f__law_folded = some ⟨oc__law_folded, od__law_folded, .func (PySem.W.fnOf "_law_folded" "_law_folded" (defArgs st__law_folded) (defBody st__law_folded) (defScope st__law_folded) .none kV__law_folded dc__law_folded pm__law_folded an__law_folded cd__law_folded ct__law_folded), sl__law_folded⟩)
    (c__law_folded : PySem.W.codeIn K cd__law_folded "_law_folded" = true) (k__law_folded : PySem.W.keepIn K (.ref f__law_folded) = true)
    (a__law_handed : PySem.W.nsIn K mainGlobals "_law_handed" = some (some (.ref f__law_handed)))
    (l__law_handed : K.lookup f__law_handed = some ⟨oc__law_handed, od__law_handed, .func (PySem.W.fnOf "_law_handed" "_law_handed" (defArgs st__law_handed) (defBody st__law_handed) (defScope st__law_handed) .none kV__law_handed dc__law_handed pm__law_handed an__law_handed cd__law_handed ct__law_handed), sl__law_handed⟩)
    (c__law_handed : PySem.W.codeIn K cd__law_handed "_law_handed" = true) (k__law_handed : PySem.W.keepIn K (.ref f__law_handed) = true)
    (a__law_take : PySem.W.nsIn K mainGlobals "_law_take" = some (some (.ref f__law_take)))
    (l__law_take : K.lookup f__law_take = some ⟨oc__law_take, od__law_take, .func (PySem.W.fnOf "_law_take" "_law_take" (defArgs st__law_take) (defBody st__law_take) (defScope st__law_take) .none kV__law_take dc__law_take pm__law_take an__law_take cd__law_take ct__law_take), sl__law_take⟩)
    (c__law_take : PySem.W.codeIn K cd__law_take "_law_take" = true) (k__law_take : PySem.W.keepIn K (.ref f__law_take) = true)
    (a__law_lot : PySem.W.nsIn K mainGlobals "_law_lot" = some (some (.ref f__law_lot)))
    (l__law_lot : K.lookup f__law_lot = some ⟨oc__law_lot, od__law_lot, .func (PySem.W.fnOf "_law_lot" "_law_lot" (defArgs st__law_lot) (defBody st__law_lot) (defScope st__law_lot) .none kV__law_lot dc__law_lot pm__law_lot an__law_lot cd__law_lot ct__law_lot), sl__law_lot⟩)
    (c__law_lot : PySem.W.codeIn K cd__law_lot "_law_lot" = true) (k__law_lot : PySem.W.keepIn K (.ref f__law_lot) = true)
    (a__law_merging : PySem.W.nsIn K mainGlobals "_law_merging" = some (some (.ref f__law_merging)))
    (l__law_merging : K.lookup f__law_merging = some ⟨oc__law_merging, od__law_merging, .func (PySem.W.fnOf "_law_merging" "_law_merging" (defArgs st__law_merging) (defBody st__law_merging) (defScope st__law_merging) .none kV__law_merging dc__law_merging pm__law_merging an__law_merging cd__law_merging ct__law_merging), sl__law_merging⟩)
    (c__law_merging : PySem.W.codeIn K cd__law_merging "_law_merging" = true) (k__law_merging : PySem.W.keepIn K (.ref f__law_merging) = true)
    (a__law_is_phase : PySem.W.nsIn K mainGlobals "_law_is_phase" = some (some (.ref f__law_is_phase)))
    (l__law_is_phase : K.lookup f__law_is_phase = some ⟨oc__law_is_phase, od__law_is_phase, .func (PySem.W.fnOf "_law_is_phase" "_law_is_phase" (defArgs st__law_is_phase) (defBody st__law_is_phase) (defScope st__law_is_phase) .none kV__law_is_phase dc__law_is_phase pm__law_is_phase an__law_is_phase cd__law_is_phase ct__law_is_phase), sl__law_is_phase⟩)
    (c__law_is_phase : PySem.W.codeIn K cd__law_is_phase "_law_is_phase" = true) (k__law_is_phase : PySem.W.keepIn K (.ref f__law_is_phase) = true)
    (a__law_played : PySem.W.nsIn K mainGlobals "_law_played" = some (some (.ref f__law_played)))
    (l__law_played : K.lookup f__law_played = some ⟨oc__law_played, od__law_played, .func (PySem.W.fnOf "_law_played" "_law_played" (defArgs st__law_played) (defBody st__law_played) (defScope st__law_played) .none kV__law_played dc__law_played pm__law_played an__law_played cd__law_played ct__law_played), sl__law_played⟩)
    (c__law_played : PySem.W.codeIn K cd__law_played "_law_played" = true) (k__law_played : PySem.W.keepIn K (.ref f__law_played) = true)
    (a_copied_row : PySem.W.nsIn K mainGlobals "copied_row" = some (some (.ref f_copied_row)))
    (l_copied_row : K.lookup f_copied_row = some ⟨oc_copied_row, od_copied_row, .func (PySem.W.fnOf "copied_row" "copied_row" (defArgs st_copied_row) (defBody st_copied_row) (defScope st_copied_row) .none kV_copied_row dc_copied_row pm_copied_row an_copied_row cd_copied_row ct_copied_row), sl_copied_row⟩)
    (c_copied_row : PySem.W.codeIn K cd_copied_row "copied_row" = true) (k_copied_row : PySem.W.keepIn K (.ref f_copied_row) = true)
    (a_is_phase : PySem.W.nsIn K mainGlobals "is_phase" = some (some (.ref f_is_phase)))
    (l_is_phase : K.lookup f_is_phase = some ⟨oc_is_phase, od_is_phase, .func (PySem.W.fnOf "is_phase" "is_phase" (defArgs st_is_phase) (defBody st_is_phase) (defScope st_is_phase) .none kV_is_phase dc_is_phase pm_is_phase an_is_phase cd_is_phase ct_is_phase), sl_is_phase⟩)
    (c_is_phase : PySem.W.codeIn K cd_is_phase "is_phase" = true) (k_is_phase : PySem.W.keepIn K (.ref f_is_phase) = true)
    (a_merged_row : PySem.W.nsIn K mainGlobals "merged_row" = some (some (.ref f_merged_row)))
    (l_merged_row : K.lookup f_merged_row = some ⟨oc_merged_row, od_merged_row, .func (PySem.W.fnOf "merged_row" "merged_row" (defArgs st_merged_row) (defBody st_merged_row) (defScope st_merged_row) .none kV_merged_row dc_merged_row pm_merged_row an_merged_row cd_merged_row ct_merged_row), sl_merged_row⟩)
    (c_merged_row : PySem.W.codeIn K cd_merged_row "merged_row" = true) (k_merged_row : PySem.W.keepIn K (.ref f_merged_row) = true)
    (a_taken_off : PySem.W.nsIn K mainGlobals "taken_off" = some (some (.ref f_taken_off)))
    (l_taken_off : K.lookup f_taken_off = some ⟨oc_taken_off, od_taken_off, .func (PySem.W.fnOf "taken_off" "taken_off" (defArgs st_taken_off) (defBody st_taken_off) (defScope st_taken_off) .none kV_taken_off dc_taken_off pm_taken_off an_taken_off cd_taken_off ct_taken_off), sl_taken_off⟩)
    (c_taken_off : PySem.W.codeIn K cd_taken_off "taken_off" = true) (k_taken_off : PySem.W.keepIn K (.ref f_taken_off) = true)
    (a_phase_played : PySem.W.nsIn K mainGlobals "phase_played" = some (some (.ref f_phase_played)))
    (l_phase_played : K.lookup f_phase_played = some ⟨oc_phase_played, od_phase_played, .func (PySem.W.fnOf "phase_played" "phase_played" (defArgs st_phase_played) (defBody st_phase_played) (defScope st_phase_played) .none kV_phase_played dc_phase_played pm_phase_played an_phase_played cd_phase_played ct_phase_played), sl_phase_played⟩)
    (c_phase_played : PySem.W.codeIn K cd_phase_played "phase_played" = true) (k_phase_played : PySem.W.keepIn K (.ref f_phase_played) = true)
    (a_play_rows : PySem.W.nsIn K mainGlobals "play_rows" = some (some (.ref f_play_rows)))
    (l_play_rows : K.lookup f_play_rows = some ⟨oc_play_rows, od_play_rows, .func (PySem.W.fnOf "play_rows" "play_rows" (defArgs st_play_rows) (defBody st_play_rows) (defScope st_play_rows) .none kV_play_rows dc_play_rows pm_play_rows an_play_rows cd_play_rows ct_play_rows), sl_play_rows⟩)
    (c_play_rows : PySem.W.codeIn K cd_play_rows "play_rows" = true) (k_play_rows : PySem.W.keepIn K (.ref f_play_rows) = true)
    (a__law_long_right : PySem.W.nsIn K mainGlobals "_law_long_right" = some (some (.ref f__law_long_right)))
    (l__law_long_right : K.lookup f__law_long_right = some ⟨oc__law_long_right, od__law_long_right, .func (PySem.W.fnOf "_law_long_right" "_law_long_right" (defArgs st__law_long_right) (defBody st__law_long_right) (defScope st__law_long_right) .none kV__law_long_right dc__law_long_right pm__law_long_right an__law_long_right cd__law_long_right ct__law_long_right), sl__law_long_right⟩)
    (c__law_long_right : PySem.W.codeIn K cd__law_long_right "_law_long_right" = true) (k__law_long_right : PySem.W.keepIn K (.ref f__law_long_right) = true)
    (a__law_longer : PySem.W.nsIn K mainGlobals "_law_longer" = some (some (.ref f__law_longer)))
    (l__law_longer : K.lookup f__law_longer = some ⟨oc__law_longer, od__law_longer, .func (PySem.W.fnOf "_law_longer" "_law_longer" (defArgs st__law_longer) (defBody st__law_longer) (defScope st__law_longer) .none kV__law_longer dc__law_longer pm__law_longer an__law_longer cd__law_longer ct__law_longer), sl__law_longer⟩)
    (c__law_longer : PySem.W.codeIn K cd__law_longer "_law_longer" = true) (k__law_longer : PySem.W.keepIn K (.ref f__law_longer) = true)
    (a__law_phases : PySem.W.nsIn K mainGlobals "_law_phases" = some (some (.ref f__law_phases)))
    (l__law_phases : K.lookup f__law_phases = some ⟨oc__law_phases, od__law_phases, .func (PySem.W.fnOf "_law_phases" "_law_phases" (defArgs st__law_phases) (defBody st__law_phases) (defScope st__law_phases) .none kV__law_phases dc__law_phases pm__law_phases an__law_phases cd__law_phases ct__law_phases), sl__law_phases⟩)
    (c__law_phases : PySem.W.codeIn K cd__law_phases "_law_phases" = true) (k__law_phases : PySem.W.keepIn K (.ref f__law_phases) = true)
    (a__law_reels : PySem.W.nsIn K mainGlobals "_law_reels" = some (some (.ref f__law_reels)))
    (l__law_reels : K.lookup f__law_reels = some ⟨oc__law_reels, od__law_reels, .func (PySem.W.fnOf "_law_reels" "_law_reels" (defArgs st__law_reels) (defBody st__law_reels) (defScope st__law_reels) .none kV__law_reels dc__law_reels pm__law_reels an__law_reels cd__law_reels ct__law_reels), sl__law_reels⟩)
    (c__law_reels : PySem.W.codeIn K cd__law_reels "_law_reels" = true) (k__law_reels : PySem.W.keepIn K (.ref f__law_reels) = true)
    (a_law : PySem.W.nsIn K mainGlobals "law" = some (some (.ref f_law)))
    (l_law : K.lookup f_law = some ⟨oc_law, od_law, .func (PySem.W.fnOf "law" "law" (defArgs st_law) (defBody st_law) (defScope st_law) .none kV_law dc_law pm_law an_law cd_law ct_law), sl_law⟩)
    (c_law : PySem.W.codeIn K cd_law "law" = true) (k_law : PySem.W.keepIn K (.ref f_law) = true)
    (z_abs : PySem.W.nsIn K mainGlobals "abs" = some none)
    (z_all : PySem.W.nsIn K mainGlobals "all" = some none)
    (z_bool : PySem.W.nsIn K mainGlobals "bool" = some none)
    (z_enumerate : PySem.W.nsIn K mainGlobals "enumerate" = some none)
    (z_int : PySem.W.nsIn K mainGlobals "int" = some none)
    (z_isinstance : PySem.W.nsIn K mainGlobals "isinstance" = some none)
    (z_len : PySem.W.nsIn K mainGlobals "len" = some none)
    (z_list : PySem.W.nsIn K mainGlobals "list" = some none)
    (z_max : PySem.W.nsIn K mainGlobals "max" = some none)
    (z_min : PySem.W.nsIn K mainGlobals "min" = some none)
    (z_range : PySem.W.nsIn K mainGlobals "range" = some none)
    (z_sorted : PySem.W.nsIn K mainGlobals "sorted" = some none)
    (z_str : PySem.W.nsIn K mainGlobals "str" = some none)
    (z_tuple : PySem.W.nsIn K mainGlobals "tuple" = some none)
    (z_zip : PySem.W.nsIn K mainGlobals "zip" = some none) :
    ∃ fd : FuncData, (∀ (s : Shared) (v : Value), BindsTo s fd ⟨[v], []⟩ [("script", v)]) ∧ ∀ base : Heap, K.In base → base.Ns mainGlobals mg → FnG l.prog w K mg base CX0 5 fa fd ["script"] (sp_law K) := by
  have e := hfa.symm.trans (PySem.W.mg_of X G a_law)
  cases e
  have F__law_all_lists := fun_mk (st := st__law_all_lists) l__law_all_lists c__law_all_lists k__law_all_lists
  have F__law_begun := fun_mk (st := st__law_begun) l__law_begun c__law_begun k__law_begun
  have F__law_folded := fun_mk (st := st__law_folded) l__law_folded c__law_folded k__law_folded
  have F__law_handed := fun_mk (st := st__law_handed) l__law_handed c__law_handed k__law_handed
  have F__law_take := fun_mk (st := st__law_take) l__law_take c__law_take k__law_take
  have F__law_lot := fun_mk (st := st__law_lot) l__law_lot c__law_lot k__law_lot
  have F__law_merging := fun_mk (st := st__law_merging) l__law_merging c__law_merging k__law_merging
  have F__law_is_phase := fun_mk (st := st__law_is_phase) l__law_is_phase c__law_is_phase k__law_is_phase
  have F__law_played := fun_mk (st := st__law_played) l__law_played c__law_played k__law_played
  have F_copied_row := fun_mk (st := st_copied_row) l_copied_row c_copied_row k_copied_row
  have F_is_phase := fun_mk (st := st_is_phase) l_is_phase c_is_phase k_is_phase
  have F_merged_row := fun_mk (st := st_merged_row) l_merged_row c_merged_row k_merged_row
  have F_taken_off := fun_mk (st := st_taken_off) l_taken_off c_taken_off k_taken_off
  have F_phase_played := fun_mk (st := st_phase_played) l_phase_played c_phase_played k_phase_played
  have F_play_rows := fun_mk (st := st_play_rows) l_play_rows c_play_rows k_play_rows
  have F__law_long_right := fun_mk (st := st__law_long_right) l__law_long_right c__law_long_right k__law_long_right
  have F__law_longer := fun_mk (st := st__law_longer) l__law_longer c__law_longer k__law_longer
  have F__law_phases := fun_mk (st := st__law_phases) l__law_phases c__law_phases k__law_phases
  have F__law_reels := fun_mk (st := st__law_reels) l__law_reels c__law_reels k__law_reels
  have F_law := fun_mk (st := st_law) l_law c_law k_law
  refine ⟨PySem.W.fnOf "law" "law" (defArgs st_law) (defBody st_law) (defScope st_law) .none kV_law dc_law pm_law an_law cd_law ct_law, fun s v => .of_eq rfl, fun base _ _ => ?_⟩
  have b_abs := PySem.W.mg_none_of X G z_abs
  have b_all := PySem.W.mg_none_of X G z_all
  have b_bool := PySem.W.mg_none_of X G z_bool
  have b_enumerate := PySem.W.mg_none_of X G z_enumerate
  have b_int := PySem.W.mg_none_of X G z_int
  have b_isinstance := PySem.W.mg_none_of X G z_isinstance
  have b_len := PySem.W.mg_none_of X G z_len
  have b_list := PySem.W.mg_none_of X G z_list
  have b_max := PySem.W.mg_none_of X G z_max
  have b_min := PySem.W.mg_none_of X G z_min
  have b_range := PySem.W.mg_none_of X G z_range
  have b_sorted := PySem.W.mg_none_of X G z_sorted
  have b_str := PySem.W.mg_none_of X G z_str
  have b_tuple := PySem.W.mg_none_of X G z_tuple
  have b_zip := PySem.W.mg_none_of X G z_zip
  have C__law_all_lists : Cl l.prog w K mg base CX0 1 "_law_all_lists" ["found"] (sp__law_all_lists K) := Cl.mk' F__law_all_lists (ok__law_all_lists F__law_all_lists b_all b_bool b_int b_isinstance b_list) (PySem.W.mg_of X G a__law_all_lists) (F__law_all_lists.binds (ps := ["found"]) fun _ _ _ _ _ _ us hl => match us, hl with | [_], _ => rfl)
  have C__law_begun : Cl l.prog w K mg base CX0 1 "_law_begun" ["cell"] (sp__law_begun K) := Cl.mk' F__law_begun (ok__law_begun F__law_begun b_abs) (PySem.W.mg_of X G a__law_begun) (F__law_begun.binds (ps := ["cell"]) fun _ _ _ _ _ _ us hl => match us, hl with | [_], _ => rfl)
  have C__law_folded : Cl l.prog w K mg base CX0 1 "_law_folded" ["cells", "many"] (sp__law_folded K) := Cl.mk' F__law_folded (ok__law_folded F__law_folded b_enumerate b_len b_max b_min) (PySem.W.mg_of X G a__law_folded) (F__law_folded.binds (ps := ["cells", "many"]) fun _ _ _ _ _ _ us hl => match us, hl with | [_, _], _ => rfl)
  have C__law_handed : Cl l.prog w K mg base CX0 1 "_law_handed" ["reels"] (sp__law_handed K) := Cl.mk' F__law_handed (ok__law_handed F__law_handed b_tuple) (PySem.W.mg_of X G a__law_handed) (F__law_handed.binds (ps := ["reels"]) fun _ _ _ _ _ _ us hl => match us, hl with | [_], _ => rfl)
  have C__law_take : Cl l.prog w K mg base CX0 1 "_law_take" ["pot", "size"] (sp__law_take K) := Cl.mk' F__law_take (ok__law_take F__law_take) (PySem.W.mg_of X G a__law_take) (F__law_take.binds (ps := ["pot", "size"]) fun _ _ _ _ _ _ us hl => match us, hl with | [_, _], _ => rfl)
  have C__law_lot : Cl l.prog w K mg base CX0 2 "_law_lot" ["pot"] (sp__law_lot K) := Cl.mk' F__law_lot (ok__law_lot F__law_lot b_range b_sorted C__law_take) (PySem.W.mg_of X G a__law_lot) (F__law_lot.binds (ps := ["pot"]) fun _ _ _ _ _ _ us hl => match us, hl with | [_], _ => rfl)
  have C__law_merging : Cl l.prog w K mg base CX0 1 "_law_merging" ["reels", "out"] (sp__law_merging K) := Cl.mk' F__law_merging (ok__law_merging F__law_merging b_int b_len b_range b_sorted) (PySem.W.mg_of X G a__law_merging) (F__law_merging.binds (ps := ["reels", "out"]) fun _ _ _ _ _ _ us hl => match us, hl with | [_, _], _ => rfl)
  have C__law_is_phase : Cl l.prog w K mg base CX0 1 "_law_is_phase" ["reels", "phase"] (sp__law_is_phase K) := Cl.mk' F__law_is_phase (ok__law_is_phase F__law_is_phase b_len b_max) (PySem.W.mg_of X G a__law_is_phase) (F__law_is_phase.binds (ps := ["reels", "phase"]) fun _ _ _ _ _ _ us hl => match us, hl with | [_, _], _ => rfl)
  have C__law_played : Cl l.prog w K mg base CX0 2 "_law_played" ["reels", "phases"] (sp__law_played K) := Cl.mk' F__law_played (ok__law_played F__law_played b_len b_list b_range b_zip C__law_is_phase C__law_merging) (PySem.W.mg_of X G a__law_played) (F__law_played.binds (ps := ["reels", "phases"]) fun _ _ _ _ _ _ us hl => match us, hl with | [_, _], _ => rfl)
  have C_copied_row : Cl l.prog w K mg base CX0 1 "copied_row" ["row"] (sp_copied_row K) := Cl.mk' F_copied_row (ok_copied_row F_copied_row b_list) (PySem.W.mg_of X G a_copied_row) (F_copied_row.binds (ps := ["row"]) fun _ _ _ _ _ _ us hl => match us, hl with | [_], _ => rfl)
  have C_is_phase : Cl l.prog w K mg base CX0 1 "is_phase" ["counts", "phase"] (sp_is_phase K) := Cl.mk' F_is_phase (ok_is_phase F_is_phase b_len b_max) (PySem.W.mg_of X G a_is_phase) (F_is_phase.binds (ps := ["counts", "phase"]) fun _ _ _ _ _ _ us hl => match us, hl with | [_, _], _ => rfl)
  have C_merged_row : Cl l.prog w K mg base CX0 1 "merged_row" ["rows"] (sp_merged_row K) := Cl.mk' F_merged_row (ok_merged_row F_merged_row b_sorted) (PySem.W.mg_of X G a_merged_row) (F_merged_row.binds (ps := ["rows"]) fun _ _ _ _ _ _ us hl => match us, hl with | [_], _ => rfl)
  have C_taken_off : Cl l.prog w K mg base CX0 1 "taken_off" ["reels", "out"] (sp_taken_off K) := Cl.mk' F_taken_off (ok_taken_off F_taken_off b_enumerate b_len) (PySem.W.mg_of X G a_taken_off) (F_taken_off.binds (ps := ["reels", "out"]) fun _ _ _ _ _ _ us hl => match us, hl with | [_, _], _ => rfl)
  have C_phase_played : Cl l.prog w K mg base CX0 2 "phase_played" ["reels", "phase"] (sp_phase_played K) := Cl.mk' F_phase_played (ok_phase_played F_phase_played b_len b_range C_merged_row C_taken_off) (PySem.W.mg_of X G a_phase_played) (F_phase_played.binds (ps := ["reels", "phase"]) fun _ _ _ _ _ _ us hl => match us, hl with | [_, _], _ => rfl)
  have C_play_rows : Cl l.prog w K mg base CX0 3 "play_rows" ["reels", "phases"] (sp_play_rows K) := Cl.mk' F_play_rows (ok_play_rows F_play_rows b_enumerate b_len C_copied_row C_is_phase C_phase_played) (PySem.W.mg_of X G a_play_rows) (F_play_rows.binds (ps := ["reels", "phases"]) fun _ _ _ _ _ _ us hl => match us, hl with | [_, _], _ => rfl)
  have C__law_long_right : Cl l.prog w K mg base CX0 4 "_law_long_right" ["pot"] (sp__law_long_right K) := Cl.mk' F__law_long_right (ok__law_long_right F__law_long_right b_len b_list b_range C__law_lot C__law_merging C__law_played C__law_take C_play_rows) (PySem.W.mg_of X G a__law_long_right) (F__law_long_right.binds (ps := ["pot"]) fun _ _ _ _ _ _ us hl => match us, hl with | [_], _ => rfl)
  have C__law_longer : Cl l.prog w K mg base CX0 1 "_law_longer" ["due"] (sp__law_longer K) := Cl.mk' F__law_longer (ok__law_longer F__law_longer) (PySem.W.mg_of X G a__law_longer) (F__law_longer.binds (ps := ["due"]) fun _ _ _ _ _ _ us hl => match us, hl with | [_], _ => rfl)
  have C__law_phases : Cl l.prog w K mg base CX0 3 "_law_phases" ["pot", "reels", "most"] (sp__law_phases K) := Cl.mk' F__law_phases (ok__law_phases F__law_phases b_len b_list b_max b_range b_sorted C__law_played C__law_take) (PySem.W.mg_of X G a__law_phases) (F__law_phases.binds (ps := ["pot", "reels", "most"]) fun _ _ _ _ _ _ us hl => match us, hl with | [_, _, _], _ => rfl)
  have C__law_reels : Cl l.prog w K mg base CX0 3 "_law_reels" ["pot"] (sp__law_reels K) := Cl.mk' F__law_reels (ok__law_reels F__law_reels b_len b_range C__law_lot C__law_take) (PySem.W.mg_of X G a__law_reels) (F__law_reels.binds (ps := ["pot"]) fun _ _ _ _ _ _ us hl => match us, hl with | [_], _ => rfl)
  exact ok_law F_law b_isinstance b_len b_list b_range b_str b_tuple C__law_all_lists C__law_begun C__law_folded C__law_handed C__law_long_right C__law_longer C__law_phases C__law_played C__law_reels C__law_take C_play_rows
end Fk
open PySem PySem.W PyProof.Rows
set_option maxHeartbeats 0 in
theorem PySem.Challenge.cw_fewreels_k48_phases_played_holds : PySem.Challenge.rw_fewreels_k48_phases_played.Holds := by
  w_on; o_law; k_head; (case hw => w_witness2)
  k_fill
  refine Fk.walk_ofG (l := PySem.Challenge.rw_fewreels_k48_phases_played) (n := 63) (k := 5) (x := "script") (sp := fun w => Fk.sp_law _) rfl (by decide) rfl ⟨rfl, by decide, by decide⟩ (fun w h Y => PySem.W.kIn_of Y) ?F (fun _ _ a ns hl _ _ hS => ⟨a, ns, rfl, ⟨hS⟩, hl, fun _ => rfl⟩)
  case F =>
    intro w mg fa h KX G hmg
    refine' Fk.all_mk KX G hmg ?a__law_all_lists ?l__law_all_lists ?c__law_all_lists ?k__law_all_lists ?a__law_begun ?l__law_begun ?c__law_begun ?k__law_begun ?a__law_folded ?l__law_folded ?c__law_folded ?k__law_folded ?a__law_handed ?l__law_handed ?c__law_handed ?k__law_handed ?a__law_take ?l__law_take ?c__law_take ?k__law_take ?a__law_lot ?l__law_lot ?c__law_lot ?k__law_lot ?a__law_merging ?l__law_merging ?c__law_merging ?k__law_merging ?a__law_is_phase ?l__law_is_phase ?c__law_is_phase ?k__law_is_phase ?a__law_played ?l__law_played ?c__law_played ?k__law_played ?a_copied_row ?l_copied_row ?c_copied_row ?k_copied_row ?a_is_phase ?l_is_phase ?c_is_phase ?k_is_phase ?a_merged_row ?l_merged_row ?c_merged_row ?k_merged_row ?a_taken_off ?l_taken_off ?c_taken_off ?k_taken_off ?a_phase_played ?l_phase_played ?c_phase_played ?k_phase_played ?a_play_rows ?l_play_rows ?c_play_rows ?k_play_rows ?a__law_long_right ?l__law_long_right ?c__law_long_right ?k__law_long_right ?a__law_longer ?l__law_longer ?c__law_longer ?k__law_longer ?a__law_phases ?l__law_phases ?c__law_phases ?k__law_phases ?a__law_reels ?l__law_reels ?c__law_reels ?k__law_reels ?a_law ?l_law ?c_law ?k_law ?z_abs ?z_all ?z_bool ?z_enumerate ?z_int ?z_isinstance ?z_len ?z_list ?z_max ?z_min ?z_range ?z_sorted ?z_str ?z_tuple ?z_zip
    (case a__law_all_lists => k_is); (case l__law_all_lists => k_is); (case c__law_all_lists => k_is); (case k__law_all_lists => k_is); (case a__law_begun => k_is); (case l__law_begun => k_is); (case c__law_begun => k_is); (case k__law_begun => k_is); (case a__law_folded => k_is); (case l__law_folded => k_is); (case c__law_folded => k_is); (case k__law_folded => k_is); (case a__law_handed => k_is); (case l__law_handed => k_is); (case c__law_handed => k_is); (case k__law_handed => k_is); (case a__law_take => k_is); (case l__law_take => k_is); (case c__law_take => k_is); (case k__law_take => k_is); (case a__law_lot => k_is); (case l__law_lot => k_is); (case c__law_lot => k_is); (case k__law_lot => k_is); (case a__law_merging => k_is); (case l__law_merging => k_is); (case c__law_merging => k_is); (case k__law_merging => k_is); (case a__law_is_phase => k_is); (case l__law_is_phase => k_is); (case c__law_is_phase => k_is); (case k__law_is_phase => k_is); (case a__law_played => k_is); (case l__law_played => k_is); (case c__law_played => k_is); (case k__law_played => k_is); (case a_copied_row => k_is); (case l_copied_row => k_is); (case c_copied_row => k_is); (case k_copied_row => k_is); (case a_is_phase => k_is); (case l_is_phase => k_is); (case c_is_phase => k_is); (case k_is_phase => k_is); (case a_merged_row => k_is); (case l_merged_row => k_is); (case c_merged_row => k_is); (case k_merged_row => k_is); (case a_taken_off => k_is); (case l_taken_off => k_is); (case c_taken_off => k_is); (case k_taken_off => k_is); (case a_phase_played => k_is); (case l_phase_played => k_is); (case c_phase_played => k_is); (case k_phase_played => k_is); (case a_play_rows => k_is); (case l_play_rows => k_is); (case c_play_rows => k_is); (case k_play_rows => k_is); (case a__law_long_right => k_is); (case l__law_long_right => k_is); (case c__law_long_right => k_is); (case k__law_long_right => k_is); (case a__law_longer => k_is); (case l__law_longer => k_is); (case c__law_longer => k_is); (case k__law_longer => k_is); (case a__law_phases => k_is); (case l__law_phases => k_is); (case c__law_phases => k_is); (case k__law_phases => k_is); (case a__law_reels => k_is); (case l__law_reels => k_is); (case c__law_reels => k_is); (case k__law_reels => k_is); (case a_law => k_is); (case l_law => k_is); (case c_law => k_is); (case k_law => k_is); (case z_abs => k_is); (case z_all => k_is); (case z_bool => k_is); (case z_enumerate => k_is); (case z_int => k_is); (case z_isinstance => k_is); (case z_len => k_is); (case z_list => k_is); (case z_max => k_is); (case z_min => k_is); (case z_range => k_is); (case z_sorted => k_is); (case z_str => k_is); (case z_tuple => k_is); (case z_zip => k_is)
