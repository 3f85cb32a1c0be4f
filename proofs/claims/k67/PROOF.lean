import PyProof.Rows.All
import Wide.All
import OpenK.AllK
import Wide.FinOn
import HandS.ForMost
import HandS.ForExc
import HandS.Sort
import HandS.SortInts
import HandS.Wide
import HandS.TupAny
import HandS.TupMul
import HandS.IsInst
import HandS.Style
import HandS.Conv
import HandS.DeepEq
import HandS.TupLe
import HandS.RevTup
import HandS.SetFor
import HandS.TupLen
import HandS.Zip
import HandS.Walk
import HandS.AnyAll
import HandS.Flow
import HandS.Deep
import HandS.Evl
import HandS.Steps
import HandS.SortKw
import KE.KTupSum
import HandS.More
import KE.GoesEnum
import HandS.WideBits
import HandS.EndBits
import KE.GoesZip
import HandS.WordsExc
import HandS.ExcIs
import HandS.TryOnly
import KE.KIsAll
import KE.RegKIsAll
import HandS.HotCalls
import PyProof.Rows.CountFlat
import KE.DataMinMax
import HandS.WordsDict
import KE.DataAny
import HandS.Rev
import KE.KIndexOf
import HandS.ReCall
import KE.KDictDisplayH
import HandS.SortRule
import HandS.DictTup
import PyProof.ReprRoads
import PyProof.ReprBulk
import PyProof.FitsInt
import PyProof.AutoSeq1
import HandS.ExcValue
import KE.KDictSum
import KE.KDictWalk
import HandS.ExcInit
import HandS.ClsMeth
import KE.KDictPairs
import KE.KDictKeyed
import HandS.ExcField
import KE.KExcIs
import HandS.Text
import HandS.Set
import KE.KDictZip
import PyProof.Rows.SeqMore
import PySem.Challenge.RW_fewreels_k67_least_logs_told
set_option Elab.async false
set_option linter.all false
set_option maxRecDepth 100000
set_option maxHeartbeats 4000000
namespace Fk
open PySem PySem.Spec PyProof.Rows L2

/-! ## a state: what is known for good (D), what may still change (L) -/
abbrev Own := List (Addr × HO)
class Sx (D : outParam Hp) (L : outParam Own) (H : Hp) : Prop where
  dH : Same D H
  ow : ∀ p ∈ L, H p.1 = some p.2 ∧ D p.1 = none
  nd : (L.map (·.1)).Nodup

/-- what was fixed stays fixed -/
class Sm (D : outParam Hp) (D' : Hp) : Prop where
  e : Same D D'
/-- a fixed thing -/
class Kn (D : Hp) (a : Addr) (o : outParam HO) : Prop where
  pf : D a = some o
instance knUp {D D' : Hp} {a : Addr} {o : HO} [s : Sm D D'] [k : Kn D a o] : Kn D' a o := ⟨s.e _ _ k.pf⟩
class Up (D D' : Hp) : Prop where
  e : Same D D'
instance upRefl {D : Hp} : Up D D := ⟨Same.refl D⟩
instance upStep {D D1 D' : Hp} [s : Sm D1 D'] [u : Up D D1] : Up D D' := ⟨u.e.trans s.e⟩
theorem up {D D' : Hp} [u : Up D D'] : Sm D D' := ⟨u.e⟩
theorem Sx.at {D : Hp} {L : Own} {H : Hp} (S : Sx D L H) {n : Nat} {a : Addr} {o : HO} (h : L[n]? = some (a, o)) : H a = some o :=
  (S.ow (a, o) (List.mem_of_getElem? h)).1
theorem Sx.off {D : Hp} {L : Own} {H : Hp} (S : Sx D L H) {n : Nat} {a : Addr} {o : HO} (h : L[n]? = some (a, o)) : D a = none :=
  (S.ow (a, o) (List.mem_of_getElem? h)).2
theorem same_upd {H : Hp} {p : Addr} {o : HO} (h : H p = none) : Same H (upd H p o) := fun b x e => by
  rw [upd_ne (ne_of_none e h)]
  exact e
/-- a new object that may change -/
theorem Sx.new {D : Hp} {L : Own} {H : Hp} (S : Sx D L H) {p : Addr} {o : HO} (h : H p = none) : Sx D ((p, o) :: L) (upd H p o) := by
  refine ⟨S.dH.trans (same_upd h), fun q hq => ?_, ?_⟩
  · rcases List.mem_cons.mp hq with rfl | hq
    · exact ⟨upd_same, S.dH.free h⟩
    · obtain ⟨e1, e2⟩ := S.ow q hq
      refine ⟨?_, e2⟩
      rw [upd_ne (ne_of_none e1 h)]
      exact e1
  · rw [List.map_cons, List.nodup_cons]
    refine ⟨fun hm => ?_, S.nd⟩
    obtain ⟨q, hq, e⟩ := List.mem_map.mp hm
    have e1 := (S.ow q hq).1
    rw [e] at e1
    rw [h] at e1
    cases e1
/-- a new object that never changes -/
theorem Sx.fix {D : Hp} {L : Own} {H : Hp} (S : Sx D L H) {p : Addr} {o : HO} (h : H p = none) : Sx (upd D p o) L (upd H p o) := by
  refine ⟨fun b x e => ?_, fun q hq => ?_, S.nd⟩
  · unfold upd at e ⊢
    split
    · rename_i c
      rw [if_pos c] at e
      exact e
    · rename_i c
      rw [if_neg c] at e
      exact S.dH b x e
  · obtain ⟨e1, e2⟩ := S.ow q hq
    have ne := ne_of_none e1 h
    rw [upd_ne ne, upd_ne ne]
    exact ⟨e1, e2⟩
/-- what may change, changed -/
theorem Sx.put {D : Hp} {L : Own} {H : Hp} (S : Sx D L H) {n : Nat} {a : Addr} {o : HO} (u : HO) (h : L[n]? = some (a, o)) : Sx D (L.set n (a, u)) (upd H a u) := by
  have hn : n < L.length := (List.getElem?_eq_some_iff.mp h).1
  have keys : (L.set n (a, u)).map (·.1) = L.map (·.1) := by
    rw [List.map_set]
    apply List.ext_getElem?
    intro i
    rw [List.getElem?_set]
    split
    · rename_i e
      subst e
      rw [if_pos (by rw [List.length_map]; exact hn), List.getElem?_map, h]
      rfl
    · rfl
  refine ⟨fun b x e => ?_, fun q hq => ?_, by rw [keys]; exact S.nd⟩
  · have : b ≠ a := by
      rintro rfl
      rw [S.off h] at e
      cases e
    rw [upd_ne this]
    exact S.dH b x e
  · obtain ⟨i, hi⟩ := List.getElem?_of_mem hq
    rw [List.getElem?_set] at hi
    by_cases c : n = i
    · subst c
      rw [if_pos rfl, if_pos hn] at hi
      cases hi
      exact ⟨upd_same, S.off h⟩
    · rw [if_neg c] at hi
      have hm := List.mem_of_getElem? hi
      obtain ⟨e1, e2⟩ := S.ow q hm
      refine ⟨?_, e2⟩
      have ne : q.1 ≠ a := by
        intro e
        apply c
        have k1 : (L.map (·.1))[i]? = some a := by rw [List.getElem?_map, hi]; exact congrArg some e
        have k2 : (L.map (·.1))[n]? = some a := by rw [List.getElem?_map, h]; rfl
        exact nd_ix S.nd k2 k1
      rw [upd_ne ne]
      exact e1
/-- what may change, fixed from now on -/
theorem Sx.frz {D : Hp} {L : Own} {H : Hp} (S : Sx D L H) {n : Nat} {a : Addr} {o : HO} (h : L[n]? = some (a, o)) : Sx (upd D a o) (L.eraseIdx n) H := by
  refine ⟨fun b x e => ?_, fun q hq => ?_, ?_⟩
  · by_cases c : b = a
    · subst c
      rw [upd_same] at e
      cases e
      exact S.at h
    · rw [upd_ne c] at e
      exact S.dH b x e
  · obtain ⟨e1, e2⟩ := S.ow q (List.mem_of_mem_eraseIdx hq)
    refine ⟨e1, ?_⟩
    have ne : q.1 ≠ a := by
      intro e
      obtain ⟨i, hi⟩ := List.getElem?_of_mem hq
      rw [List.getElem?_eraseIdx] at hi
      have k2 : (L.map (·.1))[n]? = some a := by rw [List.getElem?_map, h]; rfl
      split at hi
      · have k1 : (L.map (·.1))[i]? = some a := by rw [List.getElem?_map, hi]; exact congrArg some e
        have := nd_ix S.nd k2 k1
        omega
      · have k1 : (L.map (·.1))[i + 1]? = some a := by rw [List.getElem?_map, hi]; exact congrArg some e
        have := nd_ix S.nd k2 k1
        omega
    rw [upd_ne ne]
    exact e2
  · have : (L.eraseIdx n).map (·.1) = (L.map (·.1)).eraseIdx n := by
      apply List.ext_getElem?
      intro i
      rw [List.getElem?_map, List.getElem?_eraseIdx, List.getElem?_eraseIdx]
      split <;> rw [List.getElem?_map]
    rw [this]
    exact S.nd.sublist (List.eraseIdx_sublist _ _)
theorem Sx.drop {D : Hp} {L : Own} {H : Hp} (S : Sx D L H) (n : Nat) : Sx D (L.eraseIdx n) H :=
  ⟨S.dH, fun q hq => S.ow q (List.mem_of_mem_eraseIdx hq), by
    have : (L.eraseIdx n).map (·.1) = (L.map (·.1)).eraseIdx n := by
      apply List.ext_getElem?
      intro i
      rw [List.getElem?_map, List.getElem?_eraseIdx, List.getElem?_eraseIdx]
      split <;> rw [List.getElem?_map]
    rw [this]
    exact S.nd.sublist (List.eraseIdx_sublist _ _)⟩
theorem Sx.tail {D : Hp} {x : Addr × HO} {L : Own} {H : Hp} (S : Sx D (x :: L) H) : Sx D L H := S.drop 0
theorem Sx.perm {D : Hp} {L L' : Own} {H : Hp} (S : Sx D L H) (p : L.Perm L') : Sx D L' H :=
  ⟨S.dH, fun q hq => S.ow q (p.mem_iff.mpr hq), (p.map _).nodup_iff.mp S.nd⟩
theorem Sx.swap {D : Hp} {x y : Addr × HO} {L : Own} {H : Hp} (S : Sx D (x :: y :: L) H) : Sx D (y :: x :: L) H := S.perm (List.Perm.swap y x L)
theorem Sx.fz0 {D : Hp} {L : Own} {H : Hp} {a : Addr} {o : HO} (S : Sx D ((a, o) :: L) H) : ∃ D', Same D D' ∧ D' a = some o ∧ Sx D' L H :=
  ⟨_, same_upd (S.off (n := 0) rfl), upd_same, S.frz (n := 0) rfl⟩
theorem Sx.fz1 {D : Hp} {L : Own} {H : Hp} {x : Addr × HO} {a : Addr} {o : HO} (S : Sx D (x :: (a, o) :: L) H) : ∃ D', Same D D' ∧ D' a = some o ∧ Sx D' (x :: L) H :=
  ⟨_, same_upd (S.off (n := 1) rfl), upd_same, S.frz (n := 1) rfl⟩

/-! ## plain data at values -/
mutual
inductive Rp (D : Hp) : V → PyData → Prop
  | non : Rp D .non .none
  | bl (b : Bool) : Rp D (.bl b) (.bool b)
  | int (i : Int) : Rp D (.int i) (.int i)
  | str (x : Str) : Rp D (.str x) (.str x)
  | lst {a : Addr} {xs : List V} {ds : List PyData} : D a = some (.lst xs) → RpAll D xs ds → Rp D (.ref a) (.list ds)
  | tup {a : Addr} {xs : List V} {ds : List PyData} : D a = some (.tup xs) → RpAll D xs ds → Rp D (.ref a) (.tuple ds)
inductive RpAll (D : Hp) : List V → List PyData → Prop
  | nil : RpAll D [] []
  | cons {v : V} {vs : List V} {d : PyData} {ds : List PyData} : Rp D v d → RpAll D vs ds → RpAll D (v :: vs) (d :: ds)
end
mutual
theorem Rp.up {D D' : Hp} (e : Same D D') : ∀ {v : V} {d : PyData}, Rp D v d → Rp D' v d
  | _, _, .non => .non
  | _, _, .bl b => .bl b
  | _, _, .int i => .int i
  | _, _, .str x => .str x
  | _, _, .lst h r => .lst (e _ _ h) (RpAll.up e r)
  | _, _, .tup h r => .tup (e _ _ h) (RpAll.up e r)
theorem RpAll.up {D D' : Hp} (e : Same D D') : ∀ {vs : List V} {ds : List PyData}, RpAll D vs ds → RpAll D' vs ds
  | _, _, .nil => .nil
  | _, _, .cons h r => .cons (Rp.up e h) (RpAll.up e r)
end
mutual
theorem Rp.dp {D : Hp} {K : PySem.W.Frag} : ∀ {v : V} {d : PyData}, Rp D v d → Dp K D v d
  | _, _, .non => .non
  | _, _, .bl b => .bl b
  | _, _, .int i => .int i
  | _, _, .str x => .str x
  | _, _, .lst h r => .lst (.of h) (RpAll.dp r)
  | _, _, .tup h r => .tup (.of h) (RpAll.dp r)
theorem RpAll.dp {D : Hp} {K : PySem.W.Frag} : ∀ {vs : List V} {ds : List PyData}, RpAll D vs ds → DpAll K D vs ds
  | _, _, .nil => .nil
  | _, _, .cons h r => .cons (Rp.dp h) (RpAll.dp r)
end
theorem RpAll.ints {D : Hp} : ∀ (ns : List Int), RpAll D (ns.map V.int) (ns.map PyData.int)
  | [] => .nil
  | n :: r => .cons (.int n) (RpAll.ints r)
theorem RpAll.of_ints {D : Hp} : ∀ {ns : List Int} {vs : List V}, RpAll D vs (ns.map PyData.int) → vs = ns.map V.int
  | [], _, h => by cases h; rfl
  | n :: r, _, h => by
    cases h with
    | cons h1 h2 =>
      cases h1
      rw [RpAll.of_ints h2]
      rfl
theorem RpAll.length {D : Hp} : ∀ {vs : List V} {ds : List PyData}, RpAll D vs ds → vs.length = ds.length
  | _, _, .nil => rfl
  | _, _, .cons _ r => by rw [List.length_cons, List.length_cons, RpAll.length r]
theorem RpAll.get {D : Hp} : ∀ {vs : List V} {ds : List PyData} {i : Nat} {d : PyData}, RpAll D vs ds → ds[i]? = some d → ∃ v, vs[i]? = some v ∧ Rp D v d
  | _, _, _, _, .nil, e => by simp at e
  | _, _, 0, _, .cons h _, e => by simp at e; subst e; exact ⟨_, rfl, h⟩
  | _, _, i + 1, d, .cons _ t, e => by
    obtain ⟨v, h1, h2⟩ := RpAll.get (i := i) (d := d) t (by simpa using e)
    exact ⟨v, by simpa using h1, h2⟩
theorem RpAll.getV {D : Hp} : ∀ {vs : List V} {ds : List PyData} {i : Nat} {v : V}, RpAll D vs ds → vs[i]? = some v → ∃ d, ds[i]? = some d ∧ Rp D v d
  | _, _, _, _, .nil, e => by simp at e
  | _, _, 0, _, .cons h _, e => by simp at e; subst e; exact ⟨_, rfl, h⟩
  | _, _, i + 1, d, .cons _ t, e => by
    obtain ⟨v, h1, h2⟩ := RpAll.getV (i := i) (v := d) t (by simpa using e)
    exact ⟨v, by simpa using h1, h2⟩
theorem RpAll.app {D : Hp} : ∀ {vs ws : List V} {ds es : List PyData}, RpAll D vs ds → RpAll D ws es → RpAll D (vs ++ ws) (ds ++ es)
  | _, _, _, _, .nil, s => s
  | _, _, _, _, .cons h t, s => .cons h (RpAll.app t s)
/-- data of ints -/
abbrev dI (ns : List Int) : List PyData := ns.map PyData.int
theorem Rp.lstI {D : Hp} {a : Addr} {ns : List Int} (h : D a = some (.lst (ns.map V.int))) : Rp D (.ref a) (.list (dI ns)) := .lst h (.ints ns)
theorem Rp.tupI {D : Hp} {a : Addr} {ns : List Int} (h : D a = some (.tup (ns.map V.int))) : Rp D (.ref a) (.tuple (dI ns)) := .tup h (.ints ns)
theorem Rp.inv_lst {D : Hp} {v : V} {ds : List PyData} (h : Rp D v (.list ds)) : ∃ a xs, v = .ref a ∧ D a = some (.lst xs) ∧ RpAll D xs ds := by
  cases h with
  | lst h r => exact ⟨_, _, rfl, h, r⟩
theorem Rp.inv_tup {D : Hp} {v : V} {ds : List PyData} (h : Rp D v (.tuple ds)) : ∃ a xs, v = .ref a ∧ D a = some (.tup xs) ∧ RpAll D xs ds := by
  cases h with
  | tup h r => exact ⟨_, _, rfl, h, r⟩
theorem Rp.inv_tupI {D : Hp} {v : V} {ns : List Int} (h : Rp D v (.tuple (dI ns))) : ∃ a, v = .ref a ∧ D a = some (.tup (ns.map V.int)) := by
  obtain ⟨a, xs, e, h1, h2⟩ := h.inv_tup
  rw [RpAll.of_ints h2] at h1
  exact ⟨a, e, h1⟩
theorem Rp.inv_lstI {D : Hp} {v : V} {ns : List Int} (h : Rp D v (.list (dI ns))) : ∃ a, v = .ref a ∧ D a = some (.lst (ns.map V.int)) := by
  obtain ⟨a, xs, e, h1, h2⟩ := h.inv_lst
  rw [RpAll.of_ints h2] at h1
  exact ⟨a, e, h1⟩
end Fk

namespace Fk
open PySem PySem.Spec PyProof.Rows L2

/-! ## operators, whatever they are given -/
section
variable {X : Cx}
def rAddX (K : PySem.W.Frag) : R2 := fun x y H Q => rI0 (fun i j => .int (i + j)) x y H Q ∨ (rCat x y H Q ∨ rCatA K x y H Q)
theorem opAdd : OpR X (binaryOp .Add) (rAddX X.K) := OpR.or op_add (OpR.or op_cat op_catA)
def rMulX (K : PySem.W.Frag) : R2 := fun x y H Q => rI CMul (fun i j => .int (i * j)) x y H Q ∨ (rI CMulW (fun i j => .int (i * j)) x y H Q ∨ (rRep x y H Q ∨ rRepT K x y H Q))
theorem opMul : OpR X (binaryOp .Mult) (rMulX X.K) := OpR.or op_mul (OpR.or op_mulW (OpR.or op_rep op_repT))
def rEqX (K : PySem.W.Frag) : R2 := fun x y H Q => rEq x y H Q ∨ rEqD K x y H Q
def rNeX (K : PySem.W.Frag) : R2 := fun x y H Q => rNe x y H Q ∨ rNeD K x y H Q
theorem opEq (hu : X.A.units + 64 < cLine) : OpR X (compareOp .Eq) (rEqX X.K) := OpR.or op_eq (op_eqD hu)
theorem opNe (hu : X.A.units + 64 < cLine) : OpR X (compareOp .NotEq) (rNeX X.K) := OpR.or op_ne (op_neD hu)
def rSlX (K : PySem.W.Frag) : V → Option Int → Option Int → Hp → VK → Prop := fun x lo hi H Q => rSlL K x lo hi H Q ∨ rSlA K x lo hi H Q
theorem slX : SlR X (rSlX X.K) := SlR.or sl_list sl_tupA
def rDvX : R2 := fun x y H Q => rI CDiv (fun i j => .int (i / j)) x y H Q ∨ rI CDivW (fun i j => .int (i / j)) x y H Q
theorem opDiv : OpR X (binaryOp .FloorDiv) rDvX := OpR.or op_fdiv op_fdivW
end

/-! ## what is asked behind a part, by name -/
def NwL (xs : List V) (H : Hp) (Q : VK) : Prop := xs.length ≤ sizeLine ∧ ∀ p, H p = none → Q (.ref p) (upd H p (.lst xs))
def NwT (xs : List V) (H : Hp) (Q : VK) : Prop := xs.length ≤ sizeLine ∧ ∀ p, H p = none → Q (.ref p) (upd H p (.tup xs))
def IsI (x : V) (H : Hp) (q : Int → Hp → Prop) : Prop := ∃ i, x = .int i ∧ q i H
def IsB (x : V) (H : Hp) (q : Bool → Hp → Prop) : Prop := ∃ k, x = .bl k ∧ q k H
def Tru (K : PySem.W.Frag) (x : V) (H : Hp) (q : Bool → Hp → Prop) : Prop := ∃ k, TruV K x H k ∧ q k H
section
variable {X : Cx}
def rLen (K : PySem.W.Frag) : List V → Hp → VK → Prop := fun xs H Q => ∃ x n, xs = [x] ∧ LenV K x H n ∧ Q (.int n) H
theorem call_lenN : CallR X (.builtin "len") (rLen X.K) := call_len
def rTupOf (K : PySem.W.Frag) : List V → Hp → VK → Prop := fun xs H Q => ∃ p ys, xs = [.ref p] ∧ ((SqL K H p ys ∧ ∀ l, H l = none → Q (.ref l) (upd H l (.tup ys))) ∨ (SqT K H p ys ∧ Q (.ref p) H))
theorem call_tupN : CallR X (.type "tuple") (rTupOf X.K) := call_tuple_of
def rLstOf (K : PySem.W.Frag) : List V → Hp → VK → Prop := fun xs H Q => ∃ p ys, xs = [.ref p] ∧ (SqL K H p ys ∨ SqT K H p ys) ∧ ∀ l, H l = none → Q (.ref l) (upd H l (.lst ys))
theorem call_lstN : CallR X (.type "list") (rLstOf X.K) := call_list_of
def rInt1 : List V → Hp → VK → Prop := fun xs H Q => (∃ i, xs = [.int i] ∧ Q (.int i) H) ∨ ∃ k, xs = [.bl k] ∧ Q (.int (if k then 1 else 0)) H
theorem call_intN : CallR X (.type "int") rInt1 := call_int1
def rAbs : List V → Hp → VK → Prop := fun xs H Q => ∃ i, xs = [.int i] ∧ Q (.int (if i < 0 then -i else i)) H
theorem call_absN : CallR X (.builtin "abs") rAbs := call_abs
def rMax2 : List V → Hp → VK → Prop := fun xs H Q => ∃ i j, xs = [.int i, .int j] ∧ Q (.int (if j > i then j else i)) H
theorem call_max2N (hc : X.calm = true) : CallR X (.builtin "max") rMax2 := call_max2 hc
def rMin2 : List V → Hp → VK → Prop := fun xs H Q => ∃ i j, xs = [.int i, .int j] ∧ Q (.int (if j < i then j else i)) H
theorem call_min2N (hc : X.calm = true) : CallR X (.builtin "min") rMin2 := call_min2 hc
end

/-! ## the steps -/
section
variable {σ : L2.St} {D D' H : Hp} {L : Own} {Q : VK} {K : PySem.W.Frag} {E : Ends}
theorem s_seq {t u : TS} {nx : L2.St → Hp → Prop} {rt : VK} {bk ct : L2.St → Hp → Prop} (h : t ⟨u ⟨nx, rt, bk, ct⟩, rt, bk, ct⟩ σ H) : tSeq t u ⟨nx, rt, bk, ct⟩ σ H := h
theorem s_next {nx : L2.St → Hp → Prop} {rt : VK} {bk ct : L2.St → Hp → Prop} (h : nx σ H) : tNext ⟨nx, rt, bk, ct⟩ σ H := h
theorem s_brk {nx : L2.St → Hp → Prop} {rt : VK} {bk ct : L2.St → Hp → Prop} (h : bk σ H) : tBreak ⟨nx, rt, bk, ct⟩ σ H := h
theorem s_cnt {nx : L2.St → Hp → Prop} {rt : VK} {bk ct : L2.St → Hp → Prop} (h : ct σ H) : tCont ⟨nx, rt, bk, ct⟩ σ H := h
theorem s_asg {te : TE} {g : TG} {nx : L2.St → Hp → Prop} {rt : VK} {bk ct : L2.St → Hp → Prop} (h : te σ H fun x H1 => g x σ H1 nx) : tAsg te g ⟨nx, rt, bk, ct⟩ σ H := h
theorem s_drop {te : TE} {nx : L2.St → Hp → Prop} {rt : VK} {bk ct : L2.St → Hp → Prop} (h : te σ H fun _ H1 => nx σ H1) : tDrop te ⟨nx, rt, bk, ct⟩ σ H := h
theorem s_ret {te : TE} {nx : L2.St → Hp → Prop} {rt : VK} {bk ct : L2.St → Hp → Prop} (h : te σ H rt) : tRet te ⟨nx, rt, bk, ct⟩ σ H := h
theorem s_retN {nx : L2.St → Hp → Prop} {rt : VK} {bk ct : L2.St → Hp → Prop} (h : rt .non H) : tRetN ⟨nx, rt, bk, ct⟩ σ H := h
theorem s_if {c : TT} {t u : TS} (h : c σ H fun b H1 => if b = true then t E σ H1 else u E σ H1) : tIfS c t u E σ H := h

theorem e_var {i : Nat} {v : V} (h : σ[i]? = some (some v)) (k : Q v H) : tVar i σ H Q := ⟨v, h, k⟩
theorem e_c {v : V} (k : Q v H) : tC v σ H Q := k
theorem e_op {r : R2} {ta tb : TE} (h : ta σ H fun x H1 => tb σ H1 fun y H2 => r x y H2 Q) : tOp r ta tb σ H Q := h
theorem e_un {r : V → Hp → VK → Prop} {ta : TE} (h : ta σ H fun x H1 => r x H1 Q) : tUn r ta σ H Q := h
theorem e_if {c : TT} {ta tb : TE} (h : c σ H fun b H1 => if b = true then ta σ H1 Q else tb σ H1 Q) : tIf c ta tb σ H Q := h
theorem e_nil {q : List V → Hp → Prop} (h : q [] H) : tNil σ H q := h
theorem e_cons {ta : TE} {tr : TA} {q : List V → Hp → Prop} (h : ta σ H fun x H1 => tr σ H1 fun xs H2 => q (x :: xs) H2) : tCons ta tr σ H q := h
theorem e_cb {r : List V → Hp → VK → Prop} {t : TA} (h : t σ H fun vs H1 => r vs H1 Q) : tCB r t σ H Q := h
theorem e_call {sp : Sp} {dvs : List V} {Ex : XK} {t : TA} (h : t σ H fun vs H1 => sp (vs ++ dvs) H1 Q Ex) : tCall sp dvs Ex t σ H Q := h
theorem e_tup {t : TA} (h : t σ H fun xs H1 => NwT xs H1 Q) : tTup t σ H Q := h
theorem e_lst {t : TA} (h : t σ H fun xs H1 => NwL xs H1 Q) : tLst t σ H Q := h
theorem e_sl {r : V → Option Int → Option Int → Hp → VK → Prop} {te : TE} {tl th : L2.St → Hp → (Option Int → Hp → Prop) → Prop} (h : te σ H fun x H1 => tl σ H1 fun lo H2 => th σ H2 fun hi H3 => r x lo hi H3 Q) : tSl r te tl th σ H Q := h
theorem e_pt0 {q : Option Int → Hp → Prop} (h : q none H) : tNoPart σ H q := h
theorem e_pt {te : TE} {q : Option Int → Hp → Prop} (h : te σ H fun x H1 => IsI x H1 fun i H2 => q (some i) H2) : tPart te σ H q := h
theorem e_isint {i : Int} {q : Int → Hp → Prop} (h : q i H) : IsI (.int i) H q := ⟨i, rfl, h⟩
theorem e_isbl {b : Bool} {q : Bool → Hp → Prop} (h : q b H) : IsB (.bl b) H q := ⟨b, rfl, h⟩
theorem e_bm {T : String} {r : V → List V → Hp → VK → Prop} {to : TE} {t : TA} (h : to σ H fun x H1 => tyV K T x H1 ∧ t σ H1 fun xs H2 => r x xs H2 Q) : tBM K T r to t σ H Q := h
theorem e_bm0 {T : String} {r : V → List V → Hp → VK → Prop} {to : TE} (h : to σ H fun x H1 => tyV K T x H1 ∧ r x [] H1 Q) : tBM0 K T r to σ H Q := h
theorem t_test {t : TE} {q : Bool → Hp → Prop} (h : t σ H fun x H' => IsB x H' q) : tTest t σ H q := h
theorem t_b {t : TE} {q : Bool → Hp → Prop} (h : t σ H fun x H' => IsB x H' q) : tB t σ H q := h
theorem t_and {t u : TT} {q : Bool → Hp → Prop} (h : t σ H fun c H1 => if c = true then u σ H1 q else q false H1) : tAnd t u σ H q := h
theorem t_or {t u : TT} {q : Bool → Hp → Prop} (h : t σ H fun c H1 => if c = true then q true H1 else u σ H1 q) : tOr t u σ H q := h
theorem t_not {t : TT} {q : Bool → Hp → Prop} (h : t σ H fun c H1 => q (!c) H1) : tNot t σ H q := h
theorem e_notT {ta : TE} (h : ta σ H fun x H1 => Tru K x H1 fun k H2 => Q (.bl (!k)) H2) : tNotT K ta σ H Q := h
theorem e_andV {ta tb : TE} (h : ta σ H fun x H1 => IsB x H1 fun c H2 => if c = true then tb σ H2 Q else Q (.bl false) H2) : tAndV ta tb σ H Q := h
theorem e_orV {ta tb : TE} (h : ta σ H fun x H1 => IsB x H1 fun c H2 => if c = true then Q (.bl true) H2 else tb σ H2 Q) : tOrV ta tb σ H Q := h
theorem e_notV {ta : TE} (h : ta σ H fun x H1 => IsB x H1 fun c H2 => Q (.bl (!c)) H2) : tNotV ta σ H Q := h
theorem e_chain {r r' : R2} {ta tb tc : TE} (h : ta σ H fun x H1 => tb σ H1 fun y H2 => r x y H2 fun z H3 => IsB z H3 fun k H4 => if k = true then tc σ H4 fun w' H5 => r' y w' H5 Q else Q (.bl false) H4) : tChain r r' ta tb tc σ H Q := h
theorem tru_bl {b : Bool} {q : Bool → Hp → Prop} (h : q b H) : Tru K (.bl b) H q := ⟨b, rfl, h⟩
theorem tru_int {i : Int} {q : Bool → Hp → Prop} (h : q (i != 0) H) : Tru K (.int i) H q := ⟨_, rfl, h⟩

theorem if_t {A B : Prop} (h : A) : if true = true then A else B := by rw [if_pos rfl]; exact h
theorem if_f {A B : Prop} (h : B) : if false = true then A else B := by rw [if_neg (by decide)]; exact h
theorem if_d {p : Prop} [Decidable p] {A B : Prop} (h1 : p → A) (h2 : ¬p → B) : if decide p = true then A else B := by
  by_cases c : p
  · rw [if_pos (decide_eq_true c)]; exact h1 c
  · rw [if_neg (fun z => c (of_decide_eq_true z))]; exact h2 c
theorem if_nd {p : Prop} [Decidable p] {A B : Prop} (h1 : ¬p → A) (h2 : p → B) : if (!decide p) = true then A else B := by
  by_cases c : p
  · rw [decide_eq_true c]; exact h2 c
  · rw [decide_eq_false c]; exact h1 c
theorem if_nt {A B : Prop} (h : B) : if (!true) = true then A else B := h
theorem if_nf {A B : Prop} (h : A) : if (!false) = true then A else B := h
theorem if_b {b : Bool} {A B : Prop} (h1 : b = true → A) (h2 : b = false → B) : if b = true then A else B := by
  cases b
  · exact h2 rfl
  · exact h1 rfl
/-- a known answer -/
theorem if_dt {p : Prop} [Decidable p] {A B : Prop} (c : p) (h : A) : if decide p = true then A else B := by rw [if_pos (decide_eq_true c)]; exact h
theorem if_df {p : Prop} [Decidable p] {A B : Prop} (c : ¬p) (h : B) : if decide p = true then A else B := by rw [if_neg (fun z => c (of_decide_eq_true z))]; exact h
theorem if_ndt {p : Prop} [Decidable p] {A B : Prop} (c : ¬p) (h : A) : if (!decide p) = true then A else B := if_nd (fun _ => h) (fun z => absurd z c)
theorem if_ndf {p : Prop} [Decidable p] {A B : Prop} (c : p) (h : B) : if (!decide p) = true then A else B := if_nd (fun z => absurd c z) (fun _ => h)

/-! values -/
theorem r_i0 {g : Int → Int → V} {i j : Int} (k : Q (g i j) H) : rI0 g (.int i) (.int j) H Q := ⟨i, j, rfl, rfl, k⟩
theorem r_i {C : Int → Int → Prop} {g : Int → Int → V} {i j : Int} (c : C i j) (k : Q (g i j) H) : rI C g (.int i) (.int j) H Q := ⟨i, j, rfl, rfl, c, k⟩
theorem r_u {g : Int → V} {i : Int} (k : Q (g i) H) : rU g (.int i) H Q := ⟨i, rfl, k⟩
theorem r_addI {i j : Int} (k : Q (.int (i + j)) H) : rAddX K (.int i) (.int j) H Q := .inl ⟨i, j, rfl, rfl, k⟩
theorem r_mulL {i j : Int} (c : -(2 ^ 64) < i ∧ i < 2 ^ 64) (k : Q (.int (i * j)) H) : rMulX K (.int i) (.int j) H Q := .inl ⟨i, j, rfl, rfl, .inl c, k⟩
theorem r_mulR {i j : Int} (c : -(2 ^ 64) < j ∧ j < 2 ^ 64) (k : Q (.int (i * j)) H) : rMulX K (.int i) (.int j) H Q := .inl ⟨i, j, rfl, rfl, .inr c, k⟩
theorem r_mulW {i j : Int} (c : CMulW i j) (k : Q (.int (i * j)) H) : rMulX K (.int i) (.int j) H Q := .inr (.inl ⟨i, j, rfl, rfl, c, k⟩)
theorem r_div {i j : Int} (c : 0 < j ∧ j < 1073741824) (k : Q (.int (i / j)) H) : rDvX (.int i) (.int j) H Q := .inl ⟨i, j, rfl, rfl, c, k⟩
theorem r_divW {i j : Int} (c : CDivW i j) (k : Q (.int (i / j)) H) : rDvX (.int i) (.int j) H Q := .inr ⟨i, j, rfl, rfl, c, k⟩
theorem r_eqI {i j : Int} (k : Q (.bl (decide (i = j))) H) : rEqX K (.int i) (.int j) H Q := .inl ⟨rfl, by
  have e : decide (V.int i = V.int j) = decide (i = j) := by
    by_cases c : i = j
    · subst c; rw [decide_eq_true rfl, decide_eq_true rfl]
    · rw [decide_eq_false c, decide_eq_false (fun z => c (V.int.inj z))]
  rw [e]; exact k⟩
theorem r_neI {i j : Int} (k : Q (.bl (!decide (i = j))) H) : rNeX K (.int i) (.int j) H Q := .inl ⟨rfl, by
  have e : decide (V.int i = V.int j) = decide (i = j) := by
    by_cases c : i = j
    · subst c; rw [decide_eq_true rfl, decide_eq_true rfl]
    · rw [decide_eq_false c, decide_eq_false (fun z => c (V.int.inj z))]
  rw [e]; exact k⟩
theorem r_eqD {x y : V} {d e : PyData} (S : Sx D L H) (hx : Rp D x d) (hy : Rp D y e) (h1 : SeqAt.shaped d = true) (h2 : SeqAt.shaped e = true) (k : Q (.bl (d.eqv e)) H) : rEqX K x y H Q :=
  .inr ⟨d, e, (hx.up S.dH).dp, (hy.up S.dH).dp, h1, h2, k⟩
theorem r_neD {x y : V} {d e : PyData} (S : Sx D L H) (hx : Rp D x d) (hy : Rp D y e) (h1 : SeqAt.shaped d = true) (h2 : SeqAt.shaped e = true) (k : Q (.bl (!d.eqv e)) H) : rNeX K x y H Q :=
  .inr ⟨d, e, (hx.up S.dH).dp, (hy.up S.dH).dp, h1, h2, k⟩

/-! lists and tuples -/
theorem sqO {n : Nat} {a : Addr} {xs : List V} (S : Sx D L H) (h : L[n]? = some (a, .lst xs)) : SqL K H a xs := .of (S.at h)
theorem sqD {a : Addr} {xs : List V} (S : Sx D L H) (h : D a = some (.lst xs)) : SqL K H a xs := .of (S.dH _ _ h)
theorem sqT {a : Addr} {xs : List V} (S : Sx D L H) (h : D a = some (.tup xs)) : SqT K H a xs := .of (S.dH _ _ h)
theorem nw_lst {xs : List V} (S : Sx D L H) (hl : xs.length ≤ 16777216) (k : ∀ p H', Sx D ((p, .lst xs) :: L) H' → Q (.ref p) H') : NwL xs H Q :=
  ⟨hl, fun p hp => k p _ (S.new hp)⟩
theorem nw_lst1 {xs : List V} (S : Sx D L H) (k : ∀ p H', Sx D ((p, .lst xs) :: L) H' → Q (.ref p) H') : ∀ p, H p = none → Q (.ref p) (upd H p (.lst xs)) := fun p hp => k p _ (S.new hp)
theorem nw_tup {xs : List V} (S : Sx D L H) (hl : xs.length ≤ 16777216) (k : ∀ p D' H', Same D D' → D' p = some (.tup xs) → Sx D' L H' → Q (.ref p) H') : NwT xs H Q :=
  ⟨hl, fun p hp => k p _ _ (same_upd (S.dH.free hp)) upd_same (S.fix hp)⟩
theorem nw_tup1 {xs : List V} (S : Sx D L H) (k : ∀ p D' H', Same D D' → D' p = some (.tup xs) → Sx D' L H' → Q (.ref p) H') : ∀ p, H p = none → Q (.ref p) (upd H p (.tup xs)) :=
  fun p hp => k p _ _ (same_upd (S.dH.free hp)) upd_same (S.fix hp)
/-- a list that is read: mine, or fixed -/
def Rdl (D : Hp) (L : Own) (a : Addr) (xs : List V) : Prop := (∃ n : Nat, L[n]? = some (a, HO.lst xs)) ∨ D a = some (HO.lst xs)
theorem Rdl.at {a : Addr} {xs : List V} (S : Sx D L H) (r : Rdl D L a xs) : H a = some (.lst xs) := by
  rcases r with ⟨n, h⟩ | h
  · exact S.at h
  · exact S.dH _ _ h
theorem rl0 {a : Addr} {xs : List V} {L : Own} : Rdl D ((a, .lst xs) :: L) a xs := Or.inl ⟨0, rfl⟩
theorem rl1 {a : Addr} {xs : List V} {L : Own} {x1 : Addr × HO} : Rdl D (x1 :: (a, .lst xs) :: L) a xs := Or.inl ⟨1, rfl⟩
theorem rl2 {a : Addr} {xs : List V} {L : Own} {x1 x2 : Addr × HO} : Rdl D (x1 :: x2 :: (a, .lst xs) :: L) a xs := Or.inl ⟨2, rfl⟩
theorem rl3 {a : Addr} {xs : List V} {L : Own} {x1 x2 x3 : Addr × HO} : Rdl D (x1 :: x2 :: x3 :: (a, .lst xs) :: L) a xs := Or.inl ⟨3, rfl⟩
theorem rl4 {a : Addr} {xs : List V} {L : Own} {x1 x2 x3 x4 : Addr × HO} : Rdl D (x1 :: x2 :: x3 :: x4 :: (a, .lst xs) :: L) a xs := Or.inl ⟨4, rfl⟩
theorem rl5 {a : Addr} {xs : List V} {L : Own} {x1 x2 x3 x4 x5 : Addr × HO} : Rdl D (x1 :: x2 :: x3 :: x4 :: x5 :: (a, .lst xs) :: L) a xs := Or.inl ⟨5, rfl⟩
theorem rlD {a : Addr} {xs : List V} (h : D a = some (.lst xs)) : Rdl D L a xs := Or.inr h
theorem Rdl.sq {a : Addr} {xs : List V} (S : Sx D L H) (r : Rdl D L a xs) : SqL K H a xs := .of (r.at S)

/-- a list that is read only: the law's script, too -/
def Rds (K : PySem.W.Frag) (D : Hp) (L : Own) (a : Addr) (xs : List V) : Prop := (∃ n : Nat, L[n]? = some (a, HO.lst xs)) ∨ SqL K D a xs
theorem Rds.sq {a : Addr} {xs : List V} (S : Sx D L H) (r : Rds K D L a xs) : SqL K H a xs := by
  rcases r with ⟨n, h⟩ | h
  · exact .of (S.at h)
  · exact S.dH.seq h
theorem rs0 {a : Addr} {xs : List V} {L : Own} : Rds K D ((a, .lst xs) :: L) a xs := Or.inl ⟨0, rfl⟩
theorem rs1 {a : Addr} {xs : List V} {L : Own} {x1 : Addr × HO} : Rds K D (x1 :: (a, .lst xs) :: L) a xs := Or.inl ⟨1, rfl⟩
theorem rs2 {a : Addr} {xs : List V} {L : Own} {x1 : Addr × HO} {x2 : Addr × HO} : Rds K D (x1 :: x2 :: (a, .lst xs) :: L) a xs := Or.inl ⟨2, rfl⟩
theorem rs3 {a : Addr} {xs : List V} {L : Own} {x1 : Addr × HO} {x2 : Addr × HO} {x3 : Addr × HO} : Rds K D (x1 :: x2 :: x3 :: (a, .lst xs) :: L) a xs := Or.inl ⟨3, rfl⟩
theorem rs4 {a : Addr} {xs : List V} {L : Own} {x1 : Addr × HO} {x2 : Addr × HO} {x3 : Addr × HO} {x4 : Addr × HO} : Rds K D (x1 :: x2 :: x3 :: x4 :: (a, .lst xs) :: L) a xs := Or.inl ⟨4, rfl⟩
theorem rs5 {a : Addr} {xs : List V} {L : Own} {x1 : Addr × HO} {x2 : Addr × HO} {x3 : Addr × HO} {x4 : Addr × HO} {x5 : Addr × HO} : Rds K D (x1 :: x2 :: x3 :: x4 :: x5 :: (a, .lst xs) :: L) a xs := Or.inl ⟨5, rfl⟩
theorem rsD {a : Addr} {xs : List V} (h : D a = some (.lst xs)) : Rds K D L a xs := Or.inr (.of h)
theorem rsS {a : Addr} {xs : List V} (h : SqL K D a xs) : Rds K D L a xs := Or.inr h
theorem r_cat {a b : Addr} {xs ys : List V} (S : Sx D L H) (ha : Rdl D L a xs) (hb : Rdl D L b ys) (hl : xs.length + ys.length ≤ 16777216) (k : ∀ p H', Sx D ((p, .lst (xs ++ ys)) :: L) H' → Q (.ref p) H') : rAddX K (.ref a) (.ref b) H Q :=
  .inr (.inl ⟨a, b, xs, ys, rfl, rfl, ha.at S, hb.at S, hl, fun p hp => k p _ (S.new hp)⟩)
theorem r_catT {a b : Addr} {xs ys : List V} (S : Sx D L H) (ha : D a = some (.tup xs)) (hb : D b = some (.tup ys)) (hl : xs.length + ys.length ≤ 16777216) (k : ∀ p D' H', Same D D' → D' p = some (.tup (xs ++ ys)) → Sx D' L H' → Q (.ref p) H') : rAddX K (.ref a) (.ref b) H Q := by
  refine .inr (.inr ⟨a, b, xs, ys, rfl, rfl, sqT S ha, sqT S hb, hl, fun e => ?_, fun _ e => ?_, fun _ _ p hp => ?_⟩)
  · subst e; exact k b D H (Same.refl _) hb S
  · subst e; exact k a D H (Same.refl _) (by rw [List.append_nil]; exact ha) S
  · exact k p _ _ (same_upd (S.dH.free hp)) upd_same (S.fix hp)
theorem flat_rep {α : Type} (x : α) (n : Nat) : (List.replicate n [x]).flatten = List.replicate n x := by
  induction n with
  | zero => rfl
  | succ n ih => rw [List.replicate_succ, List.replicate_succ, List.flatten_cons, ih]; rfl
theorem r_rep1 {a : Addr} {x : V} {n : Int} (S : Sx D L H) (ha : Rdl D L a [x]) (h1 : -1000000 ≤ n) (h2 : n ≤ 1000000) (k : ∀ p H', Sx D ((p, .lst (List.replicate n.toNat x)) :: L) H' → Q (.ref p) H') : rMulX K (.ref a) (.int n) H Q := by
  refine .inr (.inr (.inl ⟨a, n, [x], rfl, rfl, ha.at S, by omega, by omega, ?_, fun p hp => ?_⟩))
  · show 1 * n.toNat ≤ 16777216
    omega
  · rw [flat_rep]
    exact k p _ (S.new hp)
theorem atN {xs : List V} {i : Int} {v : V} (h0 : 0 ≤ i) (h : xs[i.toNat]? = some v) : atI xs i = some v := by
  have := atI_nat h
  rwa [show ((i.toNat : Nat) : Int) = i from Int.toNat_of_nonneg h0] at this
theorem r_ixL {a : Addr} {xs : List V} {i : Int} {v : V} (S : Sx D L H) (ha : Rds K D L a xs) (h : atI xs i = some v) (k : Q v H) : rIx K (.ref a) (.int i) H Q := .inl ⟨a, xs, i, v, rfl, rfl, ha.sq S, h, k⟩
theorem r_ixT {a : Addr} {xs : List V} {i : Int} {v : V} (S : Sx D L H) (ha : D a = some (.tup xs)) (h : atI xs i = some v) (k : Q v H) : rIx K (.ref a) (.int i) H Q := .inr (.inl ⟨a, xs, i, v, rfl, rfl, sqT S ha, h, k⟩)
theorem r_slL {a : Addr} {xs : List V} {lo hi : Option Int} (S : Sx D L H) (ha : Rds K D L a xs) (k : ∀ p H', Sx D ((p, .lst (cutV xs lo hi)) :: L) H' → Q (.ref p) H') : rSlX K (.ref a) lo hi H Q :=
  .inl ⟨a, xs, rfl, ha.sq S, fun p hp => k p _ (S.new hp)⟩
theorem cut_all {xs : List V} {lo hi : Option Int} (e : HT.sIx xs.length 0 lo = 0 ∧ HT.sIx xs.length xs.length hi = xs.length) : cutV xs lo hi = xs := by
  unfold cutV
  rw [e.1, e.2]
  simp
theorem r_slT {a : Addr} {xs : List V} {lo hi : Option Int} (S : Sx D L H) (ha : D a = some (.tup xs)) (k : ∀ p D' H', Same D D' → D' p = some (.tup (cutV xs lo hi)) → Sx D' L H' → Q (.ref p) H') : rSlX K (.ref a) lo hi H Q :=
  .inr ⟨a, xs, rfl, sqT S ha, fun e => k a D H (Same.refl _) (by rw [cut_all e]; exact ha) S, fun _ p hp => k p _ _ (same_upd (S.dH.free hp)) upd_same (S.fix hp)⟩
theorem cut_from (xs : List V) (k : Nat) : cutV xs (some (k : Int)) none = xs.drop k := by
  unfold cutV
  rw [HT.sIx_nat, HT.sIx_none, List.take_of_length_le (by rw [List.length_drop]; omega)]
  by_cases c : k ≤ xs.length
  · rw [Nat.min_eq_left c]
  · rw [Nat.min_eq_right (by omega), List.drop_of_length_le (by omega), List.drop_of_length_le (by omega)]
theorem cut_to (xs : List V) (k : Nat) : cutV xs none (some (k : Int)) = xs.take k := by
  unfold cutV
  rw [HT.sIx_nat, HT.sIx_none, List.drop_zero, Nat.sub_zero]
  by_cases c : k ≤ xs.length
  · rw [Nat.min_eq_left c]
  · rw [Nat.min_eq_right (by omega), List.take_of_length_le (by omega), List.take_of_length_le (by omega)]
/-- calls -/
theorem c_lenL {a : Addr} {xs : List V} (S : Sx D L H) (ha : Rds K D L a xs) (k : Q (.int xs.length) H) : rLen K [.ref a] H Q := ⟨.ref a, xs.length, rfl, .inl ⟨xs, ha.sq S, rfl⟩, k⟩
theorem c_lenT {a : Addr} {xs : List V} (S : Sx D L H) (ha : D a = some (.tup xs)) (k : Q (.int xs.length) H) : rLen K [.ref a] H Q := ⟨.ref a, xs.length, rfl, .inr ⟨xs, sqT S ha, rfl⟩, k⟩
theorem c_tupL {a : Addr} {xs : List V} (S : Sx D L H) (ha : Rds K D L a xs) (k : ∀ p D' H', Same D D' → D' p = some (.tup xs) → Sx D' L H' → Q (.ref p) H') : rTupOf K [.ref a] H Q :=
  ⟨a, xs, rfl, .inl ⟨ha.sq S, fun p hp => k p _ _ (same_upd (S.dH.free hp)) upd_same (S.fix hp)⟩⟩
theorem c_tupT {a : Addr} {xs : List V} (S : Sx D L H) (ha : D a = some (.tup xs)) (k : Q (.ref a) H) : rTupOf K [.ref a] H Q := ⟨a, xs, rfl, .inr ⟨sqT S ha, k⟩⟩
theorem c_lstL {a : Addr} {xs : List V} (S : Sx D L H) (ha : Rds K D L a xs) (k : ∀ p H', Sx D ((p, .lst xs) :: L) H' → Q (.ref p) H') : rLstOf K [.ref a] H Q := ⟨a, xs, rfl, .inl (ha.sq S), fun p hp => k p _ (S.new hp)⟩
theorem c_lstT {a : Addr} {xs : List V} (S : Sx D L H) (ha : D a = some (.tup xs)) (k : ∀ p H', Sx D ((p, .lst xs) :: L) H' → Q (.ref p) H') : rLstOf K [.ref a] H Q := ⟨a, xs, rfl, .inr (sqT S ha), fun p hp => k p _ (S.new hp)⟩
theorem c_sum {a : Addr} {ns : List Int} (S : Sx D L H) (ha : Rds K D L a (ns.map V.int)) (k : Q (.int ns.sum) H) : rSum K [.ref a] H Q := ⟨a, ns, rfl, ha.sq S, k⟩
theorem c_all {a : Addr} {bs : List Bool} (S : Sx D L H) (ha : Rds K D L a (bs.map V.bl)) (k : Q (.bl (bs.all id)) H) : rAll K [.ref a] H Q := ⟨a, bs, rfl, ha.sq S, k⟩
theorem c_any {a : Addr} {bs : List Bool} (S : Sx D L H) (ha : Rds K D L a (bs.map V.bl)) (k : Q (.bl (bs.any id)) H) : rAny K [.ref a] H Q := ⟨a, bs, rfl, ha.sq S, k⟩
theorem m_app {n : Nat} {a : Addr} {xs : List V} {y : V} {L' : Own} (S : Sx D L H) (h : L[n]? = some (a, .lst xs)) (hl : xs.length < 16777216) (e : L.set n (a, .lst (xs ++ [y])) = L') (k : ∀ H', Sx D L' H' → Q .non H') : rAppend (.ref a) [y] H Q :=
  ⟨a, xs, y, rfl, rfl, S.at h, hl, by subst e; exact k _ (S.put _ h)⟩
theorem m_ty {a : Addr} {xs : List V} (S : Sx D L H) (ha : Rdl D L a xs) : tyV K "list" (.ref a) H := .inl ⟨rfl, _, .inl (.inl (ha.at S))⟩
theorem c_intI {i : Int} (k : Q (.int i) H) : rInt1 [.int i] H Q := .inl ⟨i, rfl, k⟩
theorem c_intB {b : Bool} (k : Q (.int (if b then 1 else 0)) H) : rInt1 [.bl b] H Q := .inr ⟨b, rfl, k⟩
theorem c_abs {i : Int} (k : Q (.int (if i < 0 then -i else i)) H) : rAbs [.int i] H Q := ⟨i, rfl, k⟩
theorem c_max2 {i j : Int} (k : Q (.int (if j > i then j else i)) H) : rMax2 [.int i, .int j] H Q := ⟨i, j, rfl, k⟩
theorem c_min2 {i j : Int} (k : Q (.int (if j < i then j else i)) H) : rMin2 [.int i, .int j] H Q := ⟨i, j, rfl, k⟩
theorem mm_ty {a : Addr} {xs : List V} {p : Prop} (S : Sx D L H) (ha : Rdl D L a xs) (k : p) : tyV K "list" (.ref a) H ∧ p := ⟨m_ty S ha, k⟩
/-- a store xs[i] = v -/
theorem p_set {n : Nat} {a : Addr} {xs : List V} {i : Int} {v : V} {L' : Own} {q : Hp → Prop} (S : Sx D L H) (h : L[n]? = some (a, .lst xs)) (h0 : 0 ≤ i) (hj : i.toNat < xs.length) (e : L.set n (a, .lst (xs.set i.toNat v)) = L') (k : ∀ H', Sx D L' H' → q H') : rSetL (.ref a) (.int i) v H q := by
  refine ⟨a, xs, i, i.toNat, rfl, rfl, S.at h, ?_, by subst e; exact k _ (S.put _ h)⟩
  unfold ixN
  rw [if_pos h0, if_pos (by omega)]
theorem g_sub {to ti : TE} {t : TSet} {v : V} {q : L2.St → Hp → Prop} (h : to σ H fun o H1 => ti σ H1 fun i H2 => t o i v H2 fun H3 => q σ H3) : gSub to ti t v σ H q := h
theorem g_name {i : Nat} {v : V} {σ' : L2.St} {q : L2.St → Hp → Prop} (e : σ.set i (some v) = σ') (k : q σ' H) : gName i v σ H q := by subst e; exact k
end
theorem cut1 (xs : List V) : cutV xs (some 1) none = xs.drop 1 := cut_from xs 1
theorem getI {ns : List Int} {i : Nat} {v : V} (h : (ns.map V.int)[i]? = some v) : ∃ n, ns[i]? = some n ∧ v = .int n := by
  rw [List.getElem?_map] at h
  cases e : ns[i]? with
  | none => rw [e] at h; cases h
  | some n => rw [e] at h; exact ⟨n, rfl, (Option.some.inj h).symm⟩
theorem mapI {ns : List Int} {i : Nat} {n : Int} (h : ns[i]? = some n) : (ns.map V.int)[i]? = some (.int n) := by rw [List.getElem?_map, h]; rfl
theorem atI0 {xs : List V} {v : V} (h : xs[0]? = some v) : atI xs 0 = some v := atI_nat (j := 0) h
theorem atI1 {xs : List V} {v : V} (h : xs[1]? = some v) : atI xs 1 = some v := atI_nat (j := 1) h
theorem atI2 {xs : List V} {v : V} (h : xs[2]? = some v) : atI xs 2 = some v := atI_nat (j := 2) h
theorem dkUp {D D' : Hp} {a : Addr} {o : HO} (e : Same D D') (h : D a = some o) : D' a = some o := e _ _ h
theorem ox0 {x : Addr × HO} {L : Own} : (x :: L)[0]? = some x := rfl
theorem ox1 {x y : Addr × HO} {L : Own} : (x :: y :: L)[1]? = some y := rfl
theorem ox2 {x y z : Addr × HO} {L : Own} : (x :: y :: z :: L)[2]? = some z := rfl
theorem ox3 {x y z u : Addr × HO} {L : Own} : (x :: y :: z :: u :: L)[3]? = some u := rfl
theorem ox4 {x y z u t : Addr × HO} {L : Own} : (x :: y :: z :: u :: t :: L)[4]? = some t := rfl
end Fk

namespace Fk
open PySem PySem.Spec PyProof.Rows L2

/-! ## a def of the text, as its callers see it -/
structure Cl (P : Program) (w : World) (K : PySem.W.Frag) (mg : Str → Option Value) (base : Heap) (CX : CXT) (k : Nat) (x : Str) (ps : List Str) (sp : Sp) : Prop where
  ex : ∃ (f : Addr) (fd : FuncData), FnOk P w K mg base CX k f fd ps sp ∧ mg x = some (.ref f) ∧ PySem.W.keepIn K (.ref f) = true ∧ Binds K fd ps []
theorem pe_cl {X : Cx} {x : Str} {k j : Nat} {ps : List Str} {sp : Sp} {p pos : Pos} {e : Expr} {es : List Expr} {t : TA} (C : Cl X.prog X.w X.K X.mg X.base CX0 k x ps sp) (hr : Room j X.A) (hk : k ≤ j) (hg : Gl X x)
    (ha : PA X (e :: es) t) (hdb : (x == ("__debug__" : Str)) = false := by decide) (he : starEach (e :: es) X.env = (false, eval e X.env) :: starEach es X.env := by rfl) (hpl : (backTo pos (starEach es X.env)).any (·.1) = false := by rfl) :
    PE X (.Call (.Name x p) (e :: es) [] pos) (tCall sp [] E0 t) := by
  obtain ⟨f, fd, F, hm, kp, hb⟩ := C.ex
  exact pe_call F (hr.mono hk) hg hm kp hb .nil pass0 ha hdb he hpl
theorem pe_clX {X : Cx} {x : Str} {k j : Nat} {ps : List Str} {sp : Sp} {p pos : Pos} {e : Expr} {es : List Expr} {t : TA} (C : Cl X.prog X.w X.K X.mg X.base (L2.CX X.prog X.w) k x ps sp) (hr : Room j X.A) (hk : k ≤ j) (hg : Gl X x)
    (ha : PA X (e :: es) t) (hdb : (x == ("__debug__" : Str)) = false := by decide) (he : starEach (e :: es) X.env = (false, eval e X.env) :: starEach es X.env := by rfl) (hpl : (backTo pos (starEach es X.env)).any (·.1) = false := by rfl) :
    PE X (.Call (.Name x p) (e :: es) [] pos) (tCall sp [] E0 t) := by
  obtain ⟨f, fd, F, hm, kp, hb⟩ := C.ex
  exact pe_call F (hr.mono hk) hg hm kp hb .nil passL ha hdb he hpl
theorem Cl.mk' {P : Program} {w : World} {K : PySem.W.Frag} {mg : Str → Option Value} {base : Heap} {CX : CXT} {k : Nat} {x : Str} {ps : List Str} {sp : Sp} {f : Addr} {fd : FuncData} {st : Stmt}
    (F : Fun K x x st f fd) (o : FnOk P w K mg base CX k f fd ps sp) (g : mg x = some (.ref f)) (b : Binds K fd ps []) : Cl P w K mg base CX k x ps sp := ⟨f, fd, o, g, F.kp, b⟩

/-! ## the rules that name the written part, with it told -/
section
variable {X : Cx}
theorem pe_notK (K : PySem.W.Frag) {a : Expr} {pos : Pos} {ta : TE} (h : PE X a ta) (e : X.K = K := by rfl) : PE X (.UnaryOp .Not a pos) (tNotT K ta) := by subst e; exact pe_notT h
theorem pg_tupK (K : PySem.W.Frag) (n : Nat) {es : List Expr} {k : Nat} {pos : Pos} {t : TGs} (hc : X.calm = true) (h : PGs X es t) (e : X.K = K := by rfl)
    (hn : (assignEach es X.env).length = n := by rfl) (hst : (assignEach es X.env).findIdx? (·.1) = none := by rfl) : PG X (.Tuple es k pos) (gTup K n t) := by subst e; exact pg_tup hc h hn hst
end

/-! ## what a for walks: a list or a tuple -/
section
variable {X : Cx} {tg iter : Expr}
def IsSL (K : PySem.W.Frag) (x : V) (H : Hp) (R : It → Hp → Prop) : Prop := ∃ a, x = .ref a ∧ (∃ xs, SqL K H a xs) ∧ R (Itl K a) H
def IsST (K : PySem.W.Frag) (x : V) (H : Hp) (R : It → Hp → Prop) : Prop := ∃ a, x = .ref a ∧ (∃ xs, SqT K H a xs) ∧ R (Itt K a) H
def IsSq (K : PySem.W.Frag) (x : V) (H : Hp) (R : It → Hp → Prop) : Prop := IsSL K x H R ∨ IsST K x H R
def iSeq (K : PySem.W.Frag) (te : TE) : TI := fun σ H R => te σ H fun x H1 => IsSq K x H1 R
theorem pi_seq {te : TE} (he : PE X iter te) : PI X tg iter (iSeq X.K te) := by
  refine ⟨fun pins s σ H R I h => ?_⟩
  refine thn (he.run pins s σ H _ I h) fun v s1 ⟨x, H1, I1, r1, q1⟩ => ?_
  rcases q1 with ⟨a, rfl, ⟨xs, hq⟩, q⟩ | ⟨a, rfl, ⟨xs, hq⟩, q⟩
  · cases r1
    obtain ⟨its, _, p, _⟩ := I1.list hq
    refine wpAny_pyIter_list p.isList ⟨_, [s1.heap.objs.size], _, _, H1, rfl,
      I1.kept (t' := s1.toks) fun b o e => Heap.get?_push_of_some _ e, turn_list a _, ⟨_, Heap.get?_push_size _ rfl, rfl, rfl⟩, fun b hb => ?_, q⟩
    rw [show b = s1.heap.objs.size by simpa using hb]
    exact I1.fpOk (Nat.le_refl _) (I1.hok.fresh (Nat.le_refl _))
  · cases r1
    obtain ⟨its, _, p, _⟩ := I1.tuple hq
    refine wpAny_pyIter_tuple (show s1.heap.IsTuple a its.toArray from p) ⟨_, [s1.heap.objs.size], _, _, H1, rfl,
      I1.kept (t' := s1.toks) fun b o e => Heap.get?_push_of_some _ e, turn_tuple a _, ⟨_, Heap.get?_push_size _ rfl, rfl, rfl⟩, fun b hb => ?_, q⟩
    rw [show b = s1.heap.objs.size by simpa using hb]
    exact I1.fpOk (Nat.le_refl _) (I1.hok.fresh (Nat.le_refl _))
theorem pi_seqK (K : PySem.W.Frag) {te : TE} (he : PE X iter te) (e : X.K = K := by rfl) : PI X tg iter (iSeq K te) := by subst e; exact pi_seq he
end
section
variable {σ : L2.St} {D H : Hp} {L : Own} {K : PySem.W.Frag} {R : It → Hp → Prop}
/-- walked: a list (left) or a tuple (right); the list is an evaluated one -/
def IsR1 (vs : List V) (H : Hp) (R : It → Hp → Prop) : Prop := ∃ j : Int, vs = [.int j] ∧ -(2 ^ 62) ≤ j ∧ j < 2 ^ 62 ∧ R (Itr 0 j.toNat) H
def IsR2 (vs : List V) (H : Hp) (R : It → Hp → Prop) : Prop := ∃ i j : Int, vs = [.int i, .int j] ∧ (-(2 ^ 62) ≤ i ∧ i < 2 ^ 62 ∧ -(2 ^ 62) ≤ j ∧ j < 2 ^ 62) ∧ R (Itr i (j - i).toNat) H
theorem i_seq {te : TE} (h : te σ H fun x H1 => IsSq K x H1 R) : iSeq K te σ H R := h
theorem i_isL {a : Addr} {xs : List V} (S : Sx D L H) (ha : Rds K D L a xs) (k : R (Itl K a) H) : IsSq K (.ref a) H R := .inl ⟨a, rfl, ⟨xs, ha.sq S⟩, k⟩
theorem i_isT {a : Addr} {xs : List V} (S : Sx D L H) (ha : D a = some (.tup xs)) (k : R (Itt K a) H) : IsSq K (.ref a) H R := .inr ⟨a, rfl, ⟨xs, sqT S ha⟩, k⟩
def tLcJ (J : It) (g : TG) (tt : TT) (te : TE) (vs : List Nat) : TE := tLc (fun _ H R => R J H) g tt te vs
theorem e_lc {wi : TI} {g : TG} {tt : TT} {te : TE} {vs : List Nat} {Q : VK} (h : wi σ H fun J H1 => tLcJ J g tt te vs σ H1 Q) : tLc wi g tt te vs σ H Q := h
def tForJ (J : It) (g : TG) (tb : TS) : TS := fun E σ H => ∃ W : Nat → Nat → L2.St → Hp → Prop, (∃ m, W 0 m σ H) ∧ ∀ i m σ H, W i m σ H →
      (J.stop i H ∧ E.nx σ H) ∨ (J.go i H ∧ ∃ N : L2.St → Hp → Prop, (∀ σ' H', N σ' H' → ∃ m', m' < m ∧ W (i + 1) m' σ' H') ∧
        ∀ x H', J.yld i H x H' → g x σ H' fun σ2 H2 => tb { nx := N, rt := E.rt, bk := E.nx, ct := N } σ2 H2)
theorem s_forJ {wi : TI} {g : TG} {tb : TS} {E : Ends} (h : wi σ H fun J H1 => tForJ J g tb E σ H1) : tFor wi g tb E σ H := h
/-- a loop: Pv by the turn, the slots, the heap (no break) -/
theorem for_go {J : It} {n : Nat} {G : Hp → Prop} {Y : Nat → Hp → V → Hp → Prop} (w : Walk J n G Y) {g : TG} {tb : TS} {nx : L2.St → Hp → Prop} {rt : VK} {bk ct : L2.St → Hp → Prop} (Pv : Nat → L2.St → Hp → Prop) (h0 : Pv 0 σ H) (hG : ∀ i σ H, i ≤ n → Pv i σ H → G H)
    (hs : ∀ i x σ H H', i < n → Pv i σ H → Y i H x H' → ∀ (nx bk : L2.St → Hp → Prop), (∀ σ H, Pv (i + 1) σ H → nx σ H) → g x σ H' fun σ2 H2 => tb ⟨nx, rt, bk, nx⟩ σ2 H2) (hd : ∀ σ H, Pv n σ H → nx σ H) : tForJ J g tb ⟨nx, rt, bk, ct⟩ σ H :=
  L2.for_it w (D := ⟨nx, rt, bk, ct⟩) Pv h0 hG (fun i x σ H H' hi p y => hs i x σ H H' hi p y _ _ fun _ _ z => z) hd
/-- .. with break: Bk tells what holds there -/
theorem for_goB {J : It} {n : Nat} {G : Hp → Prop} {Y : Nat → Hp → V → Hp → Prop} (w : Walk J n G Y) {g : TG} {tb : TS} {nx : L2.St → Hp → Prop} {rt : VK} {bk ct : L2.St → Hp → Prop} (Pv : Nat → L2.St → Hp → Prop) (Bk : L2.St → Hp → Prop) (h0 : Pv 0 σ H) (hG : ∀ i σ H, i ≤ n → Pv i σ H → G H)
    (hs : ∀ i x σ H H', i < n → Pv i σ H → Y i H x H' → ∀ (nx bk : L2.St → Hp → Prop), (∀ σ H, Pv (i + 1) σ H → nx σ H) → (∀ σ H, Bk σ H → bk σ H) → g x σ H' fun σ2 H2 => tb ⟨nx, rt, bk, nx⟩ σ2 H2) (hd : ∀ σ H, (Pv n σ H ∨ Bk σ H) → nx σ H) : tForJ J g tb ⟨nx, rt, bk, ct⟩ σ H :=
  L2.for_it w (D := ⟨nx, rt, bk, ct⟩) Pv h0 hG (fun i x σ H H' hi p y => hs i x σ H H' hi p y _ _ (fun _ _ z => z) fun σ H z => hd σ H (.inr z)) fun σ H z => hd σ H (.inl z)
theorem i_rng1 {ta : TA} (h : ta σ H fun vs H1 => IsR1 vs H1 R) : iRng1 ta σ H R := h
theorem i_rng2 {ta : TA} (h : ta σ H fun vs H1 => IsR2 vs H1 R) : iRng2 ta σ H R := h
theorem i_r1 {j : Int} (h : -4611686018427387904 ≤ j ∧ j < 4611686018427387904) (k : R (Itr 0 j.toNat) H) : IsR1 [.int j] H R := ⟨j, rfl, by omega, by omega, k⟩
theorem i_r2 {i j : Int} (h : (-4611686018427387904 ≤ i ∧ i < 4611686018427387904) ∧ -4611686018427387904 ≤ j ∧ j < 4611686018427387904) (k : R (Itr i (j - i).toNat) H) : IsR2 [.int i, .int j] H R :=
  ⟨i, j, rfl, ⟨by omega, by omega, by omega, by omega⟩, k⟩
/-- two ways meet -/
theorem s_cut {t u : TS} {nx : L2.St → Hp → Prop} {rt : VK} {bk ct : L2.St → Hp → Prop} (M : L2.St → Hp → Prop) (h1 : ∀ nx, (∀ σ H, M σ H → nx σ H) → t ⟨nx, rt, bk, ct⟩ σ H) (h2 : ∀ σ' H', M σ' H' → u ⟨nx, rt, bk, ct⟩ σ' H') : Evl.tCut t u ⟨nx, rt, bk, ct⟩ σ H := ⟨M, h1 M fun _ _ z => z, h2⟩
theorem w_eq {p : Prop} {a b : L2.St} (e : a = b) (h : p) : a = b ∧ p := ⟨e, h⟩
theorem t_yes {q : Bool → Hp → Prop} (h : q true H) : tYes σ H q := h
theorem st_start {t : TS} {Q : VK} {σ' : L2.St} (e : σ = σ') (h : ∀ bk ct, t ⟨fun _ H' => Q .non H', Q, bk, ct⟩ σ' H) : t { nx := fun _ H' => Q .non H', rt := Q } σ H := by subst e; exact h _ _
theorem st_eq {q : L2.St → Prop} {σ' : L2.St} (e : σ = σ') (h : q σ') : q σ := by subst e; exact h
end
class StA (σ : L2.St) (i : Nat) (v : Option V) (σ' : outParam L2.St) : Prop where
  pf : σ.set i v = σ'
instance sta0 {v x : Option V} {σ : L2.St} : StA (x :: σ) 0 v (v :: σ) := ⟨rfl⟩
instance staS {v x : Option V} {σ σ' : L2.St} {i : Nat} [h : StA σ i v σ'] : StA (x :: σ) (i + 1) v (x :: σ') := ⟨by rw [List.set_cons_succ, h.pf]⟩
class Wip (σ : L2.St) (vs : List Nat) (σ' : outParam L2.St) : Prop where
  pf : wipe σ vs = σ'
instance wip0 {σ : L2.St} : Wip σ [] σ := ⟨rfl⟩
instance wipS {σ σ' σ'' : L2.St} {v : Nat} {vs : List Nat} [h : Wip σ vs σ'] [k : StA σ' v none σ''] : Wip σ (v :: vs) σ'' := ⟨by show (wipe σ vs).set v none = σ''; rw [h.pf, k.pf]⟩
/-- the comprehension's own names are forgotten alike -/
def WOk (σ2 : L2.St) (vs : List Nat) (σ : L2.St) (p : Prop) : Prop := wipe σ2 vs = σ ∧ p
section
variable {σ : L2.St} {D H : Hp} {L : Own} {K : PySem.W.Frag} {R : It → Hp → Prop}
/-! ## comprehensions, loops -/
/-- a comprehension: R tells the list made so far -/
theorem lc_go {J : It} {n : Nat} {G : Hp → Prop} {Y : Nat → Hp → V → Hp → Prop} (w : Walk J n G Y) {g : TG} {tt : TT} {te : TE} {vs : List Nat} {Q : VK} {σw : L2.St} [S : Sx D L H] [hw : Wip σ vs σw] (hn : n < 16777216)
    (R : Nat → List V → Hp → Prop) (h0 : R 0 [] D) (hG : ∀ D' p acc H', Sm D D' → Sx D' ((p, .lst acc) :: L) H' → G H')
    (hs : ∀ i x p acc D' H' H'', i < n → Sm D D' → Sx D' ((p, .lst acc) :: L) H' → R i acc D' → Y i H' x H'' → ∀ (Ad : V → Hp → Prop) (Sk : Hp → Prop),
      (∀ y D'' H4, Sm D' D'' → Sx D'' ((p, .lst acc) :: L) H4 → R (i + 1) (acc ++ [y]) D'' → Ad y H4) →
      (∀ D'' H4, Sm D' D'' → Sx D'' ((p, .lst acc) :: L) H4 → R (i + 1) acc D'' → Sk H4) →
      g x σw H'' fun σ2 H2 => WOk σ2 vs σw (tt σ2 H2 fun b H3 => if b = true then te σ2 H3 Ad else Sk H3))
    (k : ∀ p D' acc H', Sm D D' → Sx D' ((p, .lst acc) :: L) H' → R n acc D' → Q (.ref p) H') : tLcJ J g tt te vs σ H Q := by
  obtain rfl := hw.pf
  intro p hp
  refine lc_it w (fun i H' => ∃ D' acc, Sm D D' ∧ Sx D' ((p, .lst acc) :: L) H' ∧ R i acc D' ∧ acc.length ≤ i) ⟨D, [], ⟨Same.refl _⟩, S.new hp, h0, Nat.le_refl _⟩ (fun i H' _ ⟨D', acc, e, S', _, _⟩ => hG D' p acc H' e S') (fun i x H' H'' hi ⟨D', acc, e, S', r, hl⟩ y => ?_) (fun H' ⟨D', acc, e, S', r, _⟩ => k p D' acc H' e S' r)
  refine hs i x p acc D' H' H'' hi e S' r y _ _ (fun z D'' H4 e2 S2 r2 => ?_) (fun D'' H4 e2 S2 r2 => ?_)
  · refine ⟨acc, S2.at (n := 0) rfl, ?_, D'', acc ++ [z], ⟨e.e.trans e2.e⟩, ?_, r2, ?_⟩
    · show acc.length < 16777216
      omega
    · exact S2.put (n := 0) _ rfl
    · rw [List.length_append]
      show acc.length + 1 ≤ i + 1
      omega
  · exact ⟨D'', acc, ⟨e.e.trans e2.e⟩, S2, r2, by omega⟩
/-- each item gives one: the elements' values are told ahead (no test) -/
theorem lc_vals {J : It} {n : Nat} {G : Hp → Prop} {Y : Nat → Hp → V → Hp → Prop} (w : Walk J n G Y) {g : TG} {te : TE} {vs : List Nat} {Q : VK} {σw : L2.St} [S : Sx D L H] [hw : Wip σ vs σw] (hn : n < 16777216)
    (ys : List V) (hy : ys.length = n) (hG : ∀ p acc H', Sx D ((p, .lst acc) :: L) H' → G H')
    (hs : ∀ i x p acc H' H'', i < n → Sx D ((p, .lst acc) :: L) H' → Y i H' x H'' → ∀ (Ad : V → Hp → Prop),
      (∀ y H4, Sx D ((p, .lst acc) :: L) H4 → ys[i]? = some y → Ad y H4) →
      g x σw H'' fun σ2 H2 => WOk σ2 vs σw (te σ2 H2 Ad))
    (k : ∀ p H', Sx D ((p, .lst ys) :: L) H' → Q (.ref p) H') : tLcJ J g tYes te vs σ H Q := by
  obtain rfl := hw.pf
  intro p hp
  refine lc_it w (fun i H' => Sx D ((p, .lst (ys.take i)) :: L) H') (S.new hp) (fun i H' _ S' => hG p _ H' S') (fun i x H' H'' hi S' y => ?_) (fun H' S' => ?_)
  · have h := hs i x p _ H' H'' hi S' y (fun z H4 => ∃ acc, H4 p = some (.lst acc) ∧ acc.length < sizeLine ∧ Sx D ((p, .lst (ys.take (i + 1))) :: L) (upd H4 p (.lst (acc ++ [z])))) (fun z H4 S2 e => ?_)
    · have eq : (fun (σ2 : L2.St) (H2 : Hp) => wipe σ2 vs = wipe σ vs ∧ tYes σ2 H2 fun b H3 => if b = true then te σ2 H3 (fun z H4 => ∃ acc, H4 p = some (.lst acc) ∧ acc.length < sizeLine ∧ Sx D ((p, .lst (ys.take (i + 1))) :: L) (upd H4 p (.lst (acc ++ [z])))) else Sx D ((p, .lst (ys.take (i + 1))) :: L) H3)
          = (fun (σ2 : L2.St) (H2 : Hp) => wipe σ2 vs = wipe σ vs ∧ te σ2 H2 (fun z H4 => ∃ acc, H4 p = some (.lst acc) ∧ acc.length < sizeLine ∧ Sx D ((p, .lst (ys.take (i + 1))) :: L) (upd H4 p (.lst (acc ++ [z]))))) := by
        funext σ2 H2
        unfold tYes
        dsimp only
        rw [if_pos rfl]
      rw [eq]
      exact h
    · refine ⟨_, S2.at (n := 0) rfl, ?_, ?_⟩
      · rw [List.length_take]
        show min i ys.length < 16777216
        omega
      · rw [List.take_add_one, e]
        exact S2.put (n := 0) _ rfl
  · rw [List.take_of_length_le (by omega)] at S'
    exact k p H' S'
end
end Fk

namespace Fk
open PySem PySem.Spec PyProof.Rows L2

theorem bb_len : bootBuiltins "len" = some (.builtin "len") := by decide +kernel
theorem bb_isinstance : bootBuiltins "isinstance" = some (.builtin "isinstance") := by decide +kernel
theorem bb_abs : bootBuiltins "abs" = some (.builtin "abs") := by decide +kernel
theorem bb_sum : bootBuiltins "sum" = some (.builtin "sum") := by decide +kernel
theorem bb_all : bootBuiltins "all" = some (.builtin "all") := by decide +kernel
theorem bb_any : bootBuiltins "any" = some (.builtin "any") := by decide +kernel
theorem bb_sorted : bootBuiltins "sorted" = some (.builtin "sorted") := by decide +kernel
theorem bb_divmod : bootBuiltins "divmod" = some (.builtin "divmod") := by decide +kernel
theorem bb_min : bootBuiltins "min" = some (.builtin "min") := by decide +kernel
theorem bb_max : bootBuiltins "max" = some (.builtin "max") := by decide +kernel
theorem bb_tuple : bootBuiltins "tuple" = some (.type "tuple") := by decide +kernel
theorem bb_list : bootBuiltins "list" = some (.type "list") := by decide +kernel
theorem bb_int : bootBuiltins "int" = some (.type "int") := by decide +kernel
theorem bb_bool : bootBuiltins "bool" = some (.type "bool") := by decide +kernel
theorem bb_str : bootBuiltins "str" = some (.type "str") := by decide +kernel
theorem bb_dict : bootBuiltins "dict" = some (.type "dict") := by decide +kernel
theorem bb_set : bootBuiltins "set" = some (.type "set") := by decide +kernel
theorem bb_range : bootBuiltins "range" = some (.type "range") := by decide +kernel
theorem bb_enumerate : bootBuiltins "enumerate" = some (.type "enumerate") := by decide +kernel
theorem bb_zip : bootBuiltins "zip" = some (.type "zip") := by decide +kernel
theorem bb_reversed : bootBuiltins "reversed" = some (.type "reversed") := by decide +kernel
/-! ## a tuple once -/
theorem tupMul1 (l : Addr) (its : Array Value) (n : Nat) (dd : Option Addr) (sl : Array (Option Value)) (u : Tok) :
    Meets (Builtin.«tuple.__mul__» ⟨[.ref l, .int 1 u], []⟩) (fun _ R s => s.heap.get? l = some { cls := .type "tuple", dict := dd, data := .seq its n, slots := sl } ∧ R (.ok (.ret (Value.ref l))) s) :=
  .of_wp fun prog w A R s h => by
    obtain ⟨hp, g, d, tk, os⟩ := s
    obtain ⟨hl, h⟩ := h
    have f1 := AutoSeq1.idx_int
    have c1 : (its.isEmpty || (1 : Int) == 1) = true := by simp
    wp_walk using wpAny_loadPart' hl
    repeat (first
      | (refine wpAny_ite_true (decide_eq_true (by rw [c1])) ?_; wp_walk using wpAny_loadPart' hl)
      | (refine wpAny_ite_false (decide_eq_false (by decide)) ?_; wp_walk using wpAny_loadPart' hl))
    all_goals first | exact ⟨_, rfl, h⟩ | trace_state
def rRep1 (K : PySem.W.Frag) : R2 := fun x y H Q => ∃ l xs, x = .ref l ∧ y = .int 1 ∧ SqT K H l xs ∧ Q (.ref l) H
section
variable {X : Cx}
theorem op_rep1 : OpR X (binaryOp .Mult) (rRep1 X.K) := by
  intro pins s σ H x y v u Q I rx ry h
  obtain ⟨l, xs, rfl, rfl, hT, q⟩ := h
  cases rx
  obtain ⟨t, rfl⟩ := ry
  obtain ⟨its, r, ⟨⟨cls, dd, data, sl⟩, ho, hc, n, hd⟩, hs⟩ := I.tuple hT
  simp only at hc hd
  subst hc hd
  have K1 : (decide ((1 : Int) < -(2 ^ 63)) || decide ((1 : Int) ≥ 2 ^ 63)) = false := by decide
  have M := tupMul1 l its.toArray n dd sl t
  refine wpAny_binaryOp_repeat_ref (T := "tuple") (U := "int") (by decide) ⟨_, ho, rfl⟩ (fun s' => typeIs_int s' 1 t)
    noFill_tuple_mul F.fills_int_mul F.slot_int_rmul repeat_tuple F.slot_int_index.lookup ?_
  refine call_meets F.slot_int_rmul (typeIs_int s 1 t) F.entry_int_rmul (F.args_int_rmul_2 _ _)
    (int_rmul_tuple 1 t l its.toArray n dd sl) ⟨ho, rfl, ⟨_, ho, rfl⟩, ?_⟩
  exact call_meets F.slot_tuple_mul ⟨_, ho, rfl⟩ F.entry_tuple_mul (F.args_tuple_mul_2 _ _) M ⟨ho, ⟨.ref l, H, I, rfl, q⟩⟩
/-- every product -/
def rMulY (K : PySem.W.Frag) : R2 := fun x y H Q => rMulX K x y H Q ∨ rRep1 K x y H Q
theorem opMulY : OpR X (binaryOp .Mult) (rMulY X.K) := OpR.or opMul op_rep1

/-! ## sum of a tuple -/
def rSumT (K : PySem.W.Frag) : List V → Hp → VK → Prop := fun vs H Q => ∃ (a : Addr) (ns : List Int), vs = [V.ref a] ∧ SqT K H a (ns.map V.int) ∧ Q (.int ns.sum) H
theorem cr_sumT (hc : X.calm = true) : CallR X (.builtin "sum") (rSumT X.K) := by
  intro pins s σ H vs us Q I r h
  obtain ⟨a, ns, rfl, hT, q⟩ := h
  obtain ⟨its, rv, ho, hs⟩ := I.tuple hT
  rw [Vals.ref1 r]
  have hi : IntsAre its ns := rv.ints
  obtain ⟨xs, e⟩ := hi.allInts.items
  have hn : numsOf (intItems xs).toList = ns := by rw [← e]; exact hi.numsOf
  rw [nums_intItems] at hn
  rw [e] at ho
  refine PySem.W.ktm_sumG (I.ok.hd hc) ho fun h' tk t' hk => ⟨.int _, H, I.kept hk, ⟨t', ?_⟩, q⟩
  rw [preSum_eq, List.take_of_length_le (by simp), hn]
def rSumX (K : PySem.W.Frag) : List V → Hp → VK → Prop := fun vs H Q => rSum K vs H Q ∨ rSumT K vs H Q
theorem cr_sumX (hc : X.calm = true) : CallR X (.builtin "sum") (rSumX X.K) := CallR.or (cr_sum hc) (cr_sumT hc)
end
section
variable {σ : L2.St} {D D' H : Hp} {L : Own} {Q : VK} {K : PySem.W.Frag}
theorem c_sumL {a : Addr} {ns : List Int} (S : Sx D L H) (ha : Rds K D L a (ns.map V.int)) (k : Q (.int ns.sum) H) : rSumX K [.ref a] H Q := .inl ⟨a, ns, rfl, ha.sq S, k⟩
theorem c_sumT {a : Addr} {ns : List Int} (S : Sx D L H) (ha : D a = some (.tup (ns.map V.int))) (k : Q (.int ns.sum) H) : rSumX K [.ref a] H Q := .inr ⟨a, ns, rfl, sqT S ha, k⟩
theorem r_mul {x y : V} (h : rMulX K x y H Q) : rMulY K x y H Q := .inl h
/-- (x,) * n -/
theorem r_rep1T {a : Addr} {x : V} {n : Int} (S : Sx D L H) (ha : D a = some (.tup [x])) (h1 : 1 ≤ n) (h2 : n ≤ 1000) (k : ∀ p D' H', Same D D' → D' p = some (.tup (List.replicate n.toNat x)) → Sx D' L H' → Q (.ref p) H') : rMulY K (.ref a) (.int n) H Q := by
  by_cases c : n = 1
  · subst c
    exact .inr ⟨a, [x], rfl, rfl, sqT S ha, k a D H (Same.refl _) ha S⟩
  · refine .inl (.inr (.inr (.inr ⟨a, n, [x], rfl, rfl, sqT S ha, by simp, by omega, h2, by simp, fun p hp => ?_⟩)))
    rw [flat_rep]
    exact k p _ _ (same_upd (S.dH.free hp)) upd_same (S.fix hp)
end
end Fk

/-! ## sorted of a tuple -/
namespace FkS
open PySem PyProof.Rows Srt SrtO SrtR
section
variable {prog : Program} {w : World} {A : Around} {E : Value → Shared → Prop} {s : Shared}
/-- the heap in which the items were gathered -/
abbrev gath (s : Shared) (vs : List Value) : Heap := (s.heap.push (seqObj "list" #[] 0)).update s.heap.objs.size (Obj.mapSeq (· ++ vs.toArray))
theorem collectT {l : Addr} {vs : List Value} {Q : List Value → Shared → Prop} (ht : IsTup s.heap l vs.toArray) (hz : vs.length ≤ sizeLine) (h : Q vs { s with heap := gath s vs }) : wpAny (model prog w) A (collect (.ref l)) Q E s := by
  obtain ⟨ob, hob, hcl, m, hdt⟩ := id ht
  unfold collect
  refine wpAny_bind (wpAny_runValue (codeAny_builtin entry_proto_collect' ?_))
  show wpAny _ _ (do again (.builtin "list.__iadd__" ⟨[← newList [], .ref l], []⟩)) _ _ s
  refine wpAny_bind (wpAny_newList (wpAny_pure ⟨Code.quiet_builtin _ (by decide +kernel), codeAny_builtin entry_list_iadd' ?_⟩))
  show wpAny _ _ (Builtin.List.listExtendWith (.ref s.heap.objs.size) (.ref l) (.ref s.heap.objs.size)) _ _ { s with heap := s.heap.push (seqObj "list" #[] 0) }
  unfold Builtin.List.listExtendWith
  have hob' : (s.heap.push (seqObj "list" #[] 0)).get? l = some ob := Heap.get?_push_of_some _ hob
  refine wpAny_bind (wpAny_typeOf (T := "tuple") ⟨ob, hob', hcl⟩ ?_)
  have tt : (Value.type "tuple" == Value.type "tuple") = true := by rfl
  rw [if_pos (by rw [tt]; simp)]
  refine wpAny_bind (listItems_at hob' hdt ?_)
  refine wpAny_bind (listItems_at (xs := #[]) (n := 0) (Heap.get?_push_size _ rfl) rfl ?_)
  rw [if_neg (by simp)]
  have hz' : (#[] ++ vs.toArray).size ≤ sizeLine + 1 := by
    simp only [Array.size_append, List.size_toArray, List.length_nil]
    omega
  refine wpAny_bind (listUpdate_at (xs := #[]) (n := 0) (Heap.get?_push_size _ rfl) rfl ?_ (Nat.zero_le _) hz')
  refine wpAny_pure ?_
  show wpAny (model prog w) A (do
    let o ← load s.heap.objs.size
    match o.data with
    | .seq xs _ => pure xs.toList
    | _ => unsupported "internal:collect") Q E { s with heap := gath s vs }
  refine wpAny_bind (wpAny_load (get?_update_seq (Heap.get?_push_size _ rfl) _) ?_)
  show wpAny _ _ (pure ((#[] : Array Value) ++ vs.toArray).toList) Q E _
  have e0 : ((#[] : Array Value) ++ vs.toArray).toList = vs := by simp
  rw [e0]
  exact wpAny_pure h
theorem sortedT {l : Addr} {vs : List Value} {b : Bool} {ltv : Value → Value → Bool} {Q : Value → Shared → Prop} (O : Swo ltv) (ht : IsTup s.heap l vs.toArray) (hz : vs.length ≤ sizeLine)
    (hS : 2 ≤ vs.length → ∀ (h₁ : Heap) (a : Addr), SortableO prog w A.in1.in1 { s with heap := h₁ } a vs ltv)
    (h : ∀ out : List Value, Srtd ltv out → Stb ltv out (if b = true then vs.reverse else vs) → Q (.ref (s.heap.objs.size + 1)) { s with heap := sortedAll s.heap vs (if b = true then out.toArray.reverse else out.toArray) }) :
    wpAny (model prog w) A (call (.builtin "sorted") [.ref l] [(Str.ofString "reverse", .bool b)]) Q E s := by
  refine call_function_entry_kw kind_sorted plain_sorted entry_sorted (args_sorted_rev _ _) ?_
  unfold Builtin.«sorted»
  refine wpAny_bind (m := checkCount "sorted" 1 1 _) (wpAny_pure ?_)
  refine wpAny_bind (collectT ht hz ?_)
  refine wpAny_bind (wpAny_newList ?_ hz)
  have hsz : (gath s vs).objs.size = s.heap.objs.size + 1 := by
    rw [Heap.size_update, size_push']
  have hoL : ((gath s vs).push (seqObj "list" vs.toArray 0)).get? (s.heap.objs.size + 1) = some (seqObj "list" vs.toArray 0) := by
    rw [← hsz]
    exact Heap.get?_push_size _ rfl
  show wpAny _ _ _ _ _ { s with heap := (gath s vs).push (seqObj "list" vs.toArray 0) }
  rw [hsz]
  refine wpAny_bind (wpAny_holding (wpAny_call_entry_kw slot_list_sort ⟨_, hoL, rfl⟩ entry_list_sort ?_ (args_list_sort_rev _ _)))
  refine list_sort_ordR O hoL hz (fun h2 => hS h2 _ _) fun out k1 k2 => ⟨_, rfl, ?_⟩
  exact wpAny_pure ⟨_, rfl, h out k1 k2⟩
theorem sortedT0 {l : Addr} {vs : List Value} {ltv : Value → Value → Bool} {Q : Value → Shared → Prop} (O : Swo ltv) (ht : IsTup s.heap l vs.toArray) (hz : vs.length ≤ sizeLine)
    (hS : 2 ≤ vs.length → ∀ (h₁ : Heap) (a : Addr), SortableO prog w A.in1.in1 { s with heap := h₁ } a vs ltv)
    (h : ∀ out : List Value, Srtd ltv out → Stb ltv out vs → Q (.ref (s.heap.objs.size + 1)) { s with heap := sortedAll s.heap vs out.toArray }) :
    wpAny (model prog w) A (call (.builtin "sorted") [.ref l]) Q E s := by
  refine Calls.call_function_entry kind_sorted plain_sorted entry_sorted (args_sorted1 _) ?_
  unfold Builtin.«sorted»
  refine wpAny_bind (m := checkCount "sorted" 1 1 _) (wpAny_pure ?_)
  refine wpAny_bind (collectT ht hz ?_)
  refine wpAny_bind (wpAny_newList ?_ hz)
  have hsz : (gath s vs).objs.size = s.heap.objs.size + 1 := by
    rw [Heap.size_update, size_push']
  have hoL : ((gath s vs).push (seqObj "list" vs.toArray 0)).get? (s.heap.objs.size + 1) = some (seqObj "list" vs.toArray 0) := by
    rw [← hsz]
    exact Heap.get?_push_size _ rfl
  show wpAny _ _ _ _ _ { s with heap := (gath s vs).push (seqObj "list" vs.toArray 0) }
  rw [hsz]
  refine wpAny_bind (wpAny_holding (wpAny_call_entry slot_list_sort ⟨_, hoL, rfl⟩ entry_list_sort (list_sort_ord O hoL hz (fun h2 => hS h2 _ _) fun out k1 k2 => ⟨_, rfl, ?_⟩) (args_list_sort _)))
  exact wpAny_pure ⟨_, rfl, h out k1 k2⟩
end
end FkS
namespace Fk
open PySem PySem.Spec PyProof.Rows L2
/-- sorted(xs): a list, or a tuple, of ints -/
def rSortedX (K : PySem.W.Frag) : List V → Hp → VK → Prop := fun vs H Q => ∃ (a : Addr) (ns : List Int), vs = [V.ref a] ∧ (SqL K H a (ns.map V.int) ∨ SqT K H a (ns.map V.int)) ∧
  ∀ (ns' : List Int) (p : Addr), ns'.Perm ns → ns'.Pairwise (· ≤ ·) → H p = none → Q (.ref p) (upd H p (.lst (ns'.map V.int)))
/-- sorted(xs, reverse=True) -/
def rSortedR (K : PySem.W.Frag) : List V → List V → Hp → VK → Prop := fun vs zs H Q => ∃ (a : Addr) (ns : List Int), vs = [V.ref a] ∧ zs = [.bl true] ∧ (SqL K H a (ns.map V.int) ∨ SqT K H a (ns.map V.int)) ∧
  ∀ (ns' : List Int) (p : Addr), ns'.Perm ns → ns'.Pairwise (· ≥ ·) → H p = none → Q (.ref p) (upd H p (.lst (ns'.map V.int)))
section
variable {X : Cx}
theorem cr_sortedX : CallR X (.builtin "sorted") (rSortedX X.K) := by
  intro pins s σ H vs us Q I r h
  obtain ⟨a, ns, rfl, hs | hs, q⟩ := h
  · exact cr_sortedI pins s σ H _ us Q I r ⟨a, ns, rfl, hs, q⟩
  · obtain ⟨its, rv, ht, hz⟩ := I.tuple hs
    rw [Vals.ref1 r]
    have hi := rv.ints
    refine FkS.sortedT0 SrtO.swo_int ht (by rw [← rv.length]; exact hz) (fun h2 h₁ a' => SrtO.ints_sortable hi h2) fun out h1 h2 => ?_
    obtain ⟨k1, k2, k3⟩ := SrtO.ints_out hi h1 h2
    obtain ⟨ep, he'⟩ := PyProof.Rows.sortedAll_at s.heap its out.toArray
    have hlen : ((out.map SrtO.iv).map V.int).length ≤ sizeLine := by
      rw [List.length_map, k2.length_eq]
      rw [List.length_map] at hz
      exact hz
    exact ⟨.ref _, upd H (s.heap.objs.size + 1) (.lst ((out.map SrtO.iv).map V.int)), I.laid (t' := s.toks) (fun _ _ => PyProof.Rows.sortedAll_old) (Nat.le_succ _) ⟨hlen, _, ep, vals_of_ints k1, he'⟩, rfl, q _ _ k2 k3 (I.hok.fresh (Nat.le_succ _))⟩
theorem cr_sortedR : CallRK X (.builtin "sorted") [Str.ofString "reverse"] (rSortedR X.K) := by
  intro pins s σ H vs zs us ws Q I r rz h
  obtain ⟨a, ns, rfl, rfl, hs | hs, q⟩ := h
  · exact cr_sortedRev (b := true) pins s σ H _ _ us ws Q I r rz ⟨a, ns, rfl, rfl, hs, fun ns' p h1 h2 => q ns' p h1 h2⟩
  · obtain ⟨its, rv, ht, hz⟩ := I.tuple hs
    rw [Vals.ref1 r]
    obtain ⟨w1, rfl, e1⟩ := vals1 rz
    obtain rfl : w1 = Value.bool true := e1
    have hi := rv.ints
    refine FkS.sortedT (b := true) SrtO.swo_int ht (by rw [← rv.length]; exact hz) (fun h2 h₁ a' => SrtO.ints_sortable hi h2) fun out h1 h2 => ?_
    obtain ⟨ns', k1, k2, k3⟩ := SrtR.ints_outR (b := true) hi h1 h2
    obtain ⟨ep, he'⟩ := PyProof.Rows.sortedAll_at s.heap its (if true = true then out.toArray.reverse else out.toArray)
    have hlen : (ns'.map V.int).length ≤ sizeLine := by
      rw [List.length_map, k2.length_eq]
      rw [List.length_map] at hz
      exact hz
    have e0 : ((if true = true then out.toArray.reverse else out.toArray).toList).toArray = (if true = true then out.toArray.reverse else out.toArray) := by rw [Array.toArray_toList]
    exact ⟨.ref _, upd H (s.heap.objs.size + 1) (.lst (ns'.map V.int)), I.laid (t' := s.toks) (fun _ _ => PyProof.Rows.sortedAll_old) (Nat.le_succ _) ⟨hlen, _, ep, vals_of_ints k1, by rw [e0]; exact he'⟩, rfl, q _ _ k2 k3 (I.hok.fresh (Nat.le_succ _))⟩
end
section
variable {σ : L2.St} {D D' H : Hp} {L : Own} {Q : VK} {K : PySem.W.Frag}
theorem c_sortL {a : Addr} {ns : List Int} (S : Sx D L H) (ha : Rds K D L a (ns.map V.int)) (k : ∀ (ns' : List Int) p H', ns'.Perm ns → ns'.Pairwise (· ≤ ·) → Sx D ((p, .lst (ns'.map V.int)) :: L) H' → Q (.ref p) H') : rSortedX K [.ref a] H Q :=
  ⟨a, ns, rfl, .inl (ha.sq S), fun ns' p h1 h2 hp => k ns' p _ h1 h2 (S.new hp)⟩
theorem c_sortT {a : Addr} {ns : List Int} (S : Sx D L H) (ha : D a = some (.tup (ns.map V.int))) (k : ∀ (ns' : List Int) p H', ns'.Perm ns → ns'.Pairwise (· ≤ ·) → Sx D ((p, .lst (ns'.map V.int)) :: L) H' → Q (.ref p) H') : rSortedX K [.ref a] H Q :=
  ⟨a, ns, rfl, .inr (sqT S ha), fun ns' p h1 h2 hp => k ns' p _ h1 h2 (S.new hp)⟩
theorem c_sortRL {a : Addr} {ns : List Int} (S : Sx D L H) (ha : Rds K D L a (ns.map V.int)) (k : ∀ (ns' : List Int) p H', ns'.Perm ns → ns'.Pairwise (· ≥ ·) → Sx D ((p, .lst (ns'.map V.int)) :: L) H' → Q (.ref p) H') : rSortedR K [.ref a] [.bl true] H Q :=
  ⟨a, ns, rfl, rfl, .inl (ha.sq S), fun ns' p h1 h2 hp => k ns' p _ h1 h2 (S.new hp)⟩
theorem c_sortRT {a : Addr} {ns : List Int} (S : Sx D L H) (ha : D a = some (.tup (ns.map V.int))) (k : ∀ (ns' : List Int) p H', ns'.Perm ns → ns'.Pairwise (· ≥ ·) → Sx D ((p, .lst (ns'.map V.int)) :: L) H' → Q (.ref p) H') : rSortedR K [.ref a] [.bl true] H Q :=
  ⟨a, ns, rfl, rfl, .inr (sqT S ha), fun ns' p h1 h2 hp => k ns' p _ h1 h2 (S.new hp)⟩
theorem e_ckw {r : List V → List V → Hp → VK → Prop} {t tk : TA} (h : t σ H fun vs H1 => tk σ H1 fun zs H2 => r vs zs H2 Q) : tCKw r t tk σ H Q := h
end
end Fk

namespace Fk
open PySem PySem.Spec PyProof.Rows L2

/-! ## data of small depth -/
def Sh (n : Nat) (d : PyData) : Prop := d.canLay0 = true ∧ d.depth ≤ n
theorem Sh.int (n : Nat) (i : Int) : Sh n (.int i) := ⟨by simp [PyData.canLay0], by simp [PyData.depth]⟩
theorem Sh.bl (n : Nat) (b : Bool) : Sh n (.bool b) := ⟨by simp [PyData.canLay0], by simp [PyData.depth]⟩
theorem Sh.non (n : Nat) : Sh n .none := ⟨by simp [PyData.canLay0], by simp [PyData.depth]⟩
theorem sh_all {n : Nat} : ∀ {ds : List PyData}, (∀ d ∈ ds, Sh n d) → PyData.canLayAll0 ds = true ∧ PyData.depthAll ds ≤ n
  | [], _ => ⟨by simp [PyData.canLayAll0], by simp [PyData.depthAll]⟩
  | d :: ds, h => by
    obtain ⟨a1, a2⟩ := h d List.mem_cons_self
    obtain ⟨b1, b2⟩ := sh_all (ds := ds) fun e he => h e (List.mem_cons_of_mem _ he)
    refine ⟨?_, ?_⟩
    · simp only [PyData.canLayAll0, a1, b1, Bool.and_self]
    · simp only [PyData.depthAll]
      omega
theorem Sh.list {n : Nat} {ds : List PyData} (h : ∀ d ∈ ds, Sh n d) : Sh (n + 1) (.list ds) := by
  obtain ⟨a, b⟩ := sh_all h
  exact ⟨by simp only [PyData.canLay0, a], by simp only [PyData.depth]; omega⟩
theorem Sh.tup {n : Nat} {ds : List PyData} (h : ∀ d ∈ ds, Sh n d) : Sh (n + 1) (.tuple ds) := by
  obtain ⟨a, b⟩ := sh_all h
  exact ⟨by simp only [PyData.canLay0, a], by simp only [PyData.depth]; omega⟩
theorem Sh.ints {n : Nat} {ns : List Int} : ∀ d ∈ dI ns, Sh n d := fun d hd => by
  obtain ⟨i, _, rfl⟩ := List.mem_map.mp hd
  exact .int n i
theorem Sh.ok {n : Nat} {d : PyData} (h : Sh n d) (hn : n ≤ 64 := by decide) : SeqAt.shaped d = true := by
  unfold SeqAt.shaped
  rw [h.1, decide_eq_true (Nat.le_trans h.2 hn)]
  rfl
theorem sh_tupI (ns : List Int) : SeqAt.shaped (.tuple (dI ns)) = true := (Sh.tup (n := 0) Sh.ints).ok
theorem sh_lstI (ns : List Int) : SeqAt.shaped (.list (dI ns)) = true := (Sh.list (n := 0) Sh.ints).ok
theorem eqv_I : ∀ (xs ys : List Int), PyData.eqvAll (dI xs) (dI ys) = decide (xs = ys)
  | [], [] => by simp [PyData.eqvAll]
  | [], y :: ys => by simp [PyData.eqvAll]
  | x :: xs, [] => by simp [PyData.eqvAll]
  | x :: xs, y :: ys => by
    simp only [List.map_cons, PyData.eqvAll, PyData.eqv, eqv_I xs ys]
    by_cases h : x = y
    · subst h; simp
    · simp [h]
theorem eqv_tupI (xs ys : List Int) : PyData.eqv (.tuple (dI xs)) (.tuple (dI ys)) = decide (xs = ys) := by simp only [PyData.eqv, eqv_I]
theorem eqv_lstI (xs ys : List Int) : PyData.eqv (.list (dI xs)) (.list (dI ys)) = decide (xs = ys) := by simp only [PyData.eqv, eqv_I]

section
variable {σ : L2.St} {D D' H : Hp} {L : Own} {Q : VK} {K : PySem.W.Frag}
theorem r_eqTT {a b : Addr} {xs ys : List Int} (S : Sx D L H) (ha : D a = some (.tup (xs.map V.int))) (hb : D b = some (.tup (ys.map V.int))) (k : Q (.bl (decide (xs = ys))) H) : rEqX K (.ref a) (.ref b) H Q :=
  r_eqD S (.tupI ha) (.tupI hb) (sh_tupI xs) (sh_tupI ys) (by rw [eqv_tupI]; exact k)
theorem r_neTT {a b : Addr} {xs ys : List Int} (S : Sx D L H) (ha : D a = some (.tup (xs.map V.int))) (hb : D b = some (.tup (ys.map V.int))) (k : Q (.bl (!decide (xs = ys))) H) : rNeX K (.ref a) (.ref b) H Q :=
  r_neD S (.tupI ha) (.tupI hb) (sh_tupI xs) (sh_tupI ys) (by rw [eqv_tupI]; exact k)
/-- lists of ints, mine or fixed -/
theorem dpl {a : Addr} {xs : List Int} (S : Sx D L H) (ha : Rds K D L a (xs.map V.int)) : Dp K H (.ref a) (.list (dI xs)) := .lst (ha.sq S) (RpAll.dp (.ints xs))
theorem r_eqLL {a b : Addr} {xs ys : List Int} (S : Sx D L H) (ha : Rds K D L a (xs.map V.int)) (hb : Rds K D L b (ys.map V.int)) (k : Q (.bl (decide (xs = ys))) H) : rEqX K (.ref a) (.ref b) H Q :=
  .inr ⟨_, _, dpl S ha, dpl S hb, sh_lstI xs, sh_lstI ys, by rw [eqv_lstI]; exact k⟩
theorem r_neLL {a b : Addr} {xs ys : List Int} (S : Sx D L H) (ha : Rds K D L a (xs.map V.int)) (hb : Rds K D L b (ys.map V.int)) (k : Q (.bl (!decide (xs = ys))) H) : rNeX K (.ref a) (.ref b) H Q :=
  .inr ⟨_, _, dpl S ha, dpl S hb, sh_lstI xs, sh_lstI ys, by rw [eqv_lstI]; exact k⟩
/-! isinstance -/
theorem isi {x : V} {t n : String} {b : Bool} (ht : TyX K H x (.type t)) (h : kitB t n = some b) (k : Q (.bl b) H) : rIsi K [x, .ty n] H Q := ⟨x, .ty n, .type t, .type n, b, rfl, .ty n, ht, kit_ty h, k⟩
theorem isi_int {i : Int} {n : String} {b : Bool} (h : kitB "int" n = some b) (k : Q (.bl b) H) : rIsi K [.int i, .ty n] H Q := isi (.base (.int i)) h k
theorem isi_bl {c : Bool} {n : String} {b : Bool} (h : kitB "bool" n = some b) (k : Q (.bl b) H) : rIsi K [.bl c, .ty n] H Q := isi (.base (.bl c)) h k
theorem isi_non {n : String} {b : Bool} (h : kitB "NoneType" n = some b) (k : Q (.bl b) H) : rIsi K [.non, .ty n] H Q := isi (.base .non) h k
theorem isi_str {z : Str} {n : String} {b : Bool} (h : kitB "str" n = some b) (k : Q (.bl b) H) : rIsi K [.str z, .ty n] H Q := isi (.base (.str z)) h k
theorem isi_tup {a : Addr} {xs : List V} {n : String} {b : Bool} (S : Sx D L H) (ha : D a = some (.tup xs)) (h : kitB "tuple" n = some b) (k : Q (.bl b) H) : rIsi K [.ref a, .ty n] H Q := isi (.base (.tup (S.dH _ _ ha))) h k
theorem isi_lst {a : Addr} {xs : List V} {n : String} {b : Bool} (S : Sx D L H) (ha : Rdl D L a xs) (h : kitB "list" n = some b) (k : Q (.bl b) H) : rIsi K [.ref a, .ty n] H Q := isi (.base (.lst (ha.at S))) h k
/-! an item at a place that is not written -/
theorem atI_get {ns : List Int} {i : Int} (h0 : 0 ≤ i) (h1 : i < ns.length) : ∃ z ∈ ns, atI (ns.map V.int) i = some (.int z) := by
  have hi : i.toNat < ns.length := by omega
  exact ⟨ns[i.toNat], List.getElem_mem hi, atN h0 (mapI (List.getElem?_eq_getElem hi))⟩
theorem all_ids {n : Nat} : (List.replicate n true).all id = true := by
  induction n with
  | zero => rfl
  | succ n ih => rw [List.replicate_succ, List.all_cons, ih]; rfl
theorem map_reps {n : Nat} : (List.replicate n true).map V.bl = List.replicate n (V.bl true) := by rw [List.map_replicate]
theorem c_allT {a : Addr} {n : Nat} (S : Sx D L H) (ha : Rds K D L a (List.replicate n (V.bl true))) (k : Q (.bl true) H) : rAll K [.ref a] H Q :=
  c_all (bs := List.replicate n true) S (by rw [map_reps]; exact ha) (by rw [all_ids]; exact k)
end
section
variable {D H : Hp} {L : Own} {Q : VK} {K : PySem.W.Frag}
theorem isi_int_int {i : Int} (k : Q (.bl true) H) : rIsi K [.int i, .ty "int"] H Q := isi_int (by decide +kernel) k
theorem isi_int_bool {i : Int} (k : Q (.bl false) H) : rIsi K [.int i, .ty "bool"] H Q := isi_int (by decide +kernel) k
theorem isi_int_str {i : Int} (k : Q (.bl false) H) : rIsi K [.int i, .ty "str"] H Q := isi_int (by decide +kernel) k
theorem isi_int_list {i : Int} (k : Q (.bl false) H) : rIsi K [.int i, .ty "list"] H Q := isi_int (by decide +kernel) k
theorem isi_int_tuple {i : Int} (k : Q (.bl false) H) : rIsi K [.int i, .ty "tuple"] H Q := isi_int (by decide +kernel) k
theorem isi_int_dict {i : Int} (k : Q (.bl false) H) : rIsi K [.int i, .ty "dict"] H Q := isi_int (by decide +kernel) k
theorem isi_bl_int {c : Bool} (k : Q (.bl true) H) : rIsi K [.bl c, .ty "int"] H Q := isi_bl (by decide +kernel) k
theorem isi_bl_bool {c : Bool} (k : Q (.bl true) H) : rIsi K [.bl c, .ty "bool"] H Q := isi_bl (by decide +kernel) k
theorem isi_bl_str {c : Bool} (k : Q (.bl false) H) : rIsi K [.bl c, .ty "str"] H Q := isi_bl (by decide +kernel) k
theorem isi_bl_list {c : Bool} (k : Q (.bl false) H) : rIsi K [.bl c, .ty "list"] H Q := isi_bl (by decide +kernel) k
theorem isi_bl_tuple {c : Bool} (k : Q (.bl false) H) : rIsi K [.bl c, .ty "tuple"] H Q := isi_bl (by decide +kernel) k
theorem isi_bl_dict {c : Bool} (k : Q (.bl false) H) : rIsi K [.bl c, .ty "dict"] H Q := isi_bl (by decide +kernel) k
theorem isi_non_int  (k : Q (.bl false) H) : rIsi K [.non, .ty "int"] H Q := isi_non (by decide +kernel) k
theorem isi_non_bool  (k : Q (.bl false) H) : rIsi K [.non, .ty "bool"] H Q := isi_non (by decide +kernel) k
theorem isi_non_str  (k : Q (.bl false) H) : rIsi K [.non, .ty "str"] H Q := isi_non (by decide +kernel) k
theorem isi_non_list  (k : Q (.bl false) H) : rIsi K [.non, .ty "list"] H Q := isi_non (by decide +kernel) k
theorem isi_non_tuple  (k : Q (.bl false) H) : rIsi K [.non, .ty "tuple"] H Q := isi_non (by decide +kernel) k
theorem isi_non_dict  (k : Q (.bl false) H) : rIsi K [.non, .ty "dict"] H Q := isi_non (by decide +kernel) k
theorem isi_str_int {z : Str} (k : Q (.bl false) H) : rIsi K [.str z, .ty "int"] H Q := isi_str (by decide +kernel) k
theorem isi_str_bool {z : Str} (k : Q (.bl false) H) : rIsi K [.str z, .ty "bool"] H Q := isi_str (by decide +kernel) k
theorem isi_str_str {z : Str} (k : Q (.bl true) H) : rIsi K [.str z, .ty "str"] H Q := isi_str (by decide +kernel) k
theorem isi_str_list {z : Str} (k : Q (.bl false) H) : rIsi K [.str z, .ty "list"] H Q := isi_str (by decide +kernel) k
theorem isi_str_tuple {z : Str} (k : Q (.bl false) H) : rIsi K [.str z, .ty "tuple"] H Q := isi_str (by decide +kernel) k
theorem isi_str_dict {z : Str} (k : Q (.bl false) H) : rIsi K [.str z, .ty "dict"] H Q := isi_str (by decide +kernel) k
theorem isi_tup_int {a : Addr} {xs : List V} (S : Sx D L H) (ha : D a = some (.tup xs)) (k : Q (.bl false) H) : rIsi K [.ref a, .ty "int"] H Q := isi_tup S ha (by decide +kernel) k
theorem isi_tup_bool {a : Addr} {xs : List V} (S : Sx D L H) (ha : D a = some (.tup xs)) (k : Q (.bl false) H) : rIsi K [.ref a, .ty "bool"] H Q := isi_tup S ha (by decide +kernel) k
theorem isi_tup_str {a : Addr} {xs : List V} (S : Sx D L H) (ha : D a = some (.tup xs)) (k : Q (.bl false) H) : rIsi K [.ref a, .ty "str"] H Q := isi_tup S ha (by decide +kernel) k
theorem isi_tup_list {a : Addr} {xs : List V} (S : Sx D L H) (ha : D a = some (.tup xs)) (k : Q (.bl false) H) : rIsi K [.ref a, .ty "list"] H Q := isi_tup S ha (by decide +kernel) k
theorem isi_tup_tuple {a : Addr} {xs : List V} (S : Sx D L H) (ha : D a = some (.tup xs)) (k : Q (.bl true) H) : rIsi K [.ref a, .ty "tuple"] H Q := isi_tup S ha (by decide +kernel) k
theorem isi_tup_dict {a : Addr} {xs : List V} (S : Sx D L H) (ha : D a = some (.tup xs)) (k : Q (.bl false) H) : rIsi K [.ref a, .ty "dict"] H Q := isi_tup S ha (by decide +kernel) k
theorem isi_lst_int {a : Addr} {xs : List V} (S : Sx D L H) (ha : Rdl D L a xs) (k : Q (.bl false) H) : rIsi K [.ref a, .ty "int"] H Q := isi_lst S ha (by decide +kernel) k
theorem isi_lst_bool {a : Addr} {xs : List V} (S : Sx D L H) (ha : Rdl D L a xs) (k : Q (.bl false) H) : rIsi K [.ref a, .ty "bool"] H Q := isi_lst S ha (by decide +kernel) k
theorem isi_lst_str {a : Addr} {xs : List V} (S : Sx D L H) (ha : Rdl D L a xs) (k : Q (.bl false) H) : rIsi K [.ref a, .ty "str"] H Q := isi_lst S ha (by decide +kernel) k
theorem isi_lst_list {a : Addr} {xs : List V} (S : Sx D L H) (ha : Rdl D L a xs) (k : Q (.bl true) H) : rIsi K [.ref a, .ty "list"] H Q := isi_lst S ha (by decide +kernel) k
theorem isi_lst_tuple {a : Addr} {xs : List V} (S : Sx D L H) (ha : Rdl D L a xs) (k : Q (.bl false) H) : rIsi K [.ref a, .ty "tuple"] H Q := isi_lst S ha (by decide +kernel) k
theorem isi_lst_dict {a : Addr} {xs : List V} (S : Sx D L H) (ha : Rdl D L a xs) (k : Q (.bl false) H) : rIsi K [.ref a, .ty "dict"] H Q := isi_lst S ha (by decide +kernel) k
end
/-! lists by their length -/
theorem len1 {α : Type} {r : List α} (h : r.length = 1) : ∃ x0, r = [x0] := match r, h with
  | [x0], _ => ⟨x0, rfl⟩
theorem len2 {α : Type} {r : List α} (h : r.length = 2) : ∃ x0 x1, r = [x0, x1] := match r, h with
  | [x0, x1], _ => ⟨x0, x1, rfl⟩
theorem len3 {α : Type} {r : List α} (h : r.length = 3) : ∃ x0 x1 x2, r = [x0, x1, x2] := match r, h with
  | [x0, x1, x2], _ => ⟨x0, x1, x2, rfl⟩
theorem len4 {α : Type} {r : List α} (h : r.length = 4) : ∃ x0 x1 x2 x3, r = [x0, x1, x2, x3] := match r, h with
  | [x0, x1, x2, x3], _ => ⟨x0, x1, x2, x3, rfl⟩
theorem len5 {α : Type} {r : List α} (h : r.length = 5) : ∃ x0 x1 x2 x3 x4, r = [x0, x1, x2, x3, x4] := match r, h with
  | [x0, x1, x2, x3, x4], _ => ⟨x0, x1, x2, x3, x4, rfl⟩
theorem len6 {α : Type} {r : List α} (h : r.length = 6) : ∃ x0 x1 x2 x3 x4 x5, r = [x0, x1, x2, x3, x4, x5] := match r, h with
  | [x0, x1, x2, x3, x4, x5], _ => ⟨x0, x1, x2, x3, x4, x5, rfl⟩
theorem len7 {α : Type} {r : List α} (h : r.length = 7) : ∃ x0 x1 x2 x3 x4 x5 x6, r = [x0, x1, x2, x3, x4, x5, x6] := match r, h with
  | [x0, x1, x2, x3, x4, x5, x6], _ => ⟨x0, x1, x2, x3, x4, x5, x6, rfl⟩
theorem len8 {α : Type} {r : List α} (h : r.length = 8) : ∃ x0 x1 x2 x3 x4 x5 x6 x7, r = [x0, x1, x2, x3, x4, x5, x6, x7] := match r, h with
  | [x0, x1, x2, x3, x4, x5, x6, x7], _ => ⟨x0, x1, x2, x3, x4, x5, x6, x7, rfl⟩
theorem len9 {α : Type} {r : List α} (h : r.length = 9) : ∃ x0 x1 x2 x3 x4 x5 x6 x7 x8, r = [x0, x1, x2, x3, x4, x5, x6, x7, x8] := match r, h with
  | [x0, x1, x2, x3, x4, x5, x6, x7, x8], _ => ⟨x0, x1, x2, x3, x4, x5, x6, x7, x8, rfl⟩
theorem len10 {α : Type} {r : List α} (h : r.length = 10) : ∃ x0 x1 x2 x3 x4 x5 x6 x7 x8 x9, r = [x0, x1, x2, x3, x4, x5, x6, x7, x8, x9] := match r, h with
  | [x0, x1, x2, x3, x4, x5, x6, x7, x8, x9], _ => ⟨x0, x1, x2, x3, x4, x5, x6, x7, x8, x9, rfl⟩
theorem len11 {α : Type} {r : List α} (h : r.length = 11) : ∃ x0 x1 x2 x3 x4 x5 x6 x7 x8 x9 x10, r = [x0, x1, x2, x3, x4, x5, x6, x7, x8, x9, x10] := match r, h with
  | [x0, x1, x2, x3, x4, x5, x6, x7, x8, x9, x10], _ => ⟨x0, x1, x2, x3, x4, x5, x6, x7, x8, x9, x10, rfl⟩
theorem len12 {α : Type} {r : List α} (h : r.length = 12) : ∃ x0 x1 x2 x3 x4 x5 x6 x7 x8 x9 x10 x11, r = [x0, x1, x2, x3, x4, x5, x6, x7, x8, x9, x10, x11] := match r, h with
  | [x0, x1, x2, x3, x4, x5, x6, x7, x8, x9, x10, x11], _ => ⟨x0, x1, x2, x3, x4, x5, x6, x7, x8, x9, x10, x11, rfl⟩
theorem len13 {α : Type} {r : List α} (h : r.length = 13) : ∃ x0 x1 x2 x3 x4 x5 x6 x7 x8 x9 x10 x11 x12, r = [x0, x1, x2, x3, x4, x5, x6, x7, x8, x9, x10, x11, x12] := match r, h with
  | [x0, x1, x2, x3, x4, x5, x6, x7, x8, x9, x10, x11, x12], _ => ⟨x0, x1, x2, x3, x4, x5, x6, x7, x8, x9, x10, x11, x12, rfl⟩
theorem len14 {α : Type} {r : List α} (h : r.length = 14) : ∃ x0 x1 x2 x3 x4 x5 x6 x7 x8 x9 x10 x11 x12 x13, r = [x0, x1, x2, x3, x4, x5, x6, x7, x8, x9, x10, x11, x12, x13] := match r, h with
  | [x0, x1, x2, x3, x4, x5, x6, x7, x8, x9, x10, x11, x12, x13], _ => ⟨x0, x1, x2, x3, x4, x5, x6, x7, x8, x9, x10, x11, x12, x13, rfl⟩
theorem len15 {α : Type} {r : List α} (h : r.length = 15) : ∃ x0 x1 x2 x3 x4 x5 x6 x7 x8 x9 x10 x11 x12 x13 x14, r = [x0, x1, x2, x3, x4, x5, x6, x7, x8, x9, x10, x11, x12, x13, x14] := match r, h with
  | [x0, x1, x2, x3, x4, x5, x6, x7, x8, x9, x10, x11, x12, x13, x14], _ => ⟨x0, x1, x2, x3, x4, x5, x6, x7, x8, x9, x10, x11, x12, x13, x14, rfl⟩
theorem len16 {α : Type} {r : List α} (h : r.length = 16) : ∃ x0 x1 x2 x3 x4 x5 x6 x7 x8 x9 x10 x11 x12 x13 x14 x15, r = [x0, x1, x2, x3, x4, x5, x6, x7, x8, x9, x10, x11, x12, x13, x14, x15] := match r, h with
  | [x0, x1, x2, x3, x4, x5, x6, x7, x8, x9, x10, x11, x12, x13, x14, x15], _ => ⟨x0, x1, x2, x3, x4, x5, x6, x7, x8, x9, x10, x11, x12, x13, x14, x15, rfl⟩
theorem len17 {α : Type} {r : List α} (h : r.length = 17) : ∃ x0 x1 x2 x3 x4 x5 x6 x7 x8 x9 x10 x11 x12 x13 x14 x15 x16, r = [x0, x1, x2, x3, x4, x5, x6, x7, x8, x9, x10, x11, x12, x13, x14, x15, x16] := match r, h with
  | [x0, x1, x2, x3, x4, x5, x6, x7, x8, x9, x10, x11, x12, x13, x14, x15, x16], _ => ⟨x0, x1, x2, x3, x4, x5, x6, x7, x8, x9, x10, x11, x12, x13, x14, x15, x16, rfl⟩
theorem len18 {α : Type} {r : List α} (h : r.length = 18) : ∃ x0 x1 x2 x3 x4 x5 x6 x7 x8 x9 x10 x11 x12 x13 x14 x15 x16 x17, r = [x0, x1, x2, x3, x4, x5, x6, x7, x8, x9, x10, x11, x12, x13, x14, x15, x16, x17] := match r, h with
  | [x0, x1, x2, x3, x4, x5, x6, x7, x8, x9, x10, x11, x12, x13, x14, x15, x16, x17], _ => ⟨x0, x1, x2, x3, x4, x5, x6, x7, x8, x9, x10, x11, x12, x13, x14, x15, x16, x17, rfl⟩
theorem len19 {α : Type} {r : List α} (h : r.length = 19) : ∃ x0 x1 x2 x3 x4 x5 x6 x7 x8 x9 x10 x11 x12 x13 x14 x15 x16 x17 x18, r = [x0, x1, x2, x3, x4, x5, x6, x7, x8, x9, x10, x11, x12, x13, x14, x15, x16, x17, x18] := match r, h with
  | [x0, x1, x2, x3, x4, x5, x6, x7, x8, x9, x10, x11, x12, x13, x14, x15, x16, x17, x18], _ => ⟨x0, x1, x2, x3, x4, x5, x6, x7, x8, x9, x10, x11, x12, x13, x14, x15, x16, x17, x18, rfl⟩
theorem len20 {α : Type} {r : List α} (h : r.length = 20) : ∃ x0 x1 x2 x3 x4 x5 x6 x7 x8 x9 x10 x11 x12 x13 x14 x15 x16 x17 x18 x19, r = [x0, x1, x2, x3, x4, x5, x6, x7, x8, x9, x10, x11, x12, x13, x14, x15, x16, x17, x18, x19] := match r, h with
  | [x0, x1, x2, x3, x4, x5, x6, x7, x8, x9, x10, x11, x12, x13, x14, x15, x16, x17, x18, x19], _ => ⟨x0, x1, x2, x3, x4, x5, x6, x7, x8, x9, x10, x11, x12, x13, x14, x15, x16, x17, x18, x19, rfl⟩
theorem len21 {α : Type} {r : List α} (h : r.length = 21) : ∃ x0 x1 x2 x3 x4 x5 x6 x7 x8 x9 x10 x11 x12 x13 x14 x15 x16 x17 x18 x19 x20, r = [x0, x1, x2, x3, x4, x5, x6, x7, x8, x9, x10, x11, x12, x13, x14, x15, x16, x17, x18, x19, x20] := match r, h with
  | [x0, x1, x2, x3, x4, x5, x6, x7, x8, x9, x10, x11, x12, x13, x14, x15, x16, x17, x18, x19, x20], _ => ⟨x0, x1, x2, x3, x4, x5, x6, x7, x8, x9, x10, x11, x12, x13, x14, x15, x16, x17, x18, x19, x20, rfl⟩
theorem len22 {α : Type} {r : List α} (h : r.length = 22) : ∃ x0 x1 x2 x3 x4 x5 x6 x7 x8 x9 x10 x11 x12 x13 x14 x15 x16 x17 x18 x19 x20 x21, r = [x0, x1, x2, x3, x4, x5, x6, x7, x8, x9, x10, x11, x12, x13, x14, x15, x16, x17, x18, x19, x20, x21] := match r, h with
  | [x0, x1, x2, x3, x4, x5, x6, x7, x8, x9, x10, x11, x12, x13, x14, x15, x16, x17, x18, x19, x20, x21], _ => ⟨x0, x1, x2, x3, x4, x5, x6, x7, x8, x9, x10, x11, x12, x13, x14, x15, x16, x17, x18, x19, x20, x21, rfl⟩
theorem len23 {α : Type} {r : List α} (h : r.length = 23) : ∃ x0 x1 x2 x3 x4 x5 x6 x7 x8 x9 x10 x11 x12 x13 x14 x15 x16 x17 x18 x19 x20 x21 x22, r = [x0, x1, x2, x3, x4, x5, x6, x7, x8, x9, x10, x11, x12, x13, x14, x15, x16, x17, x18, x19, x20, x21, x22] := match r, h with
  | [x0, x1, x2, x3, x4, x5, x6, x7, x8, x9, x10, x11, x12, x13, x14, x15, x16, x17, x18, x19, x20, x21, x22], _ => ⟨x0, x1, x2, x3, x4, x5, x6, x7, x8, x9, x10, x11, x12, x13, x14, x15, x16, x17, x18, x19, x20, x21, x22, rfl⟩
theorem len24 {α : Type} {r : List α} (h : r.length = 24) : ∃ x0 x1 x2 x3 x4 x5 x6 x7 x8 x9 x10 x11 x12 x13 x14 x15 x16 x17 x18 x19 x20 x21 x22 x23, r = [x0, x1, x2, x3, x4, x5, x6, x7, x8, x9, x10, x11, x12, x13, x14, x15, x16, x17, x18, x19, x20, x21, x22, x23] := match r, h with
  | [x0, x1, x2, x3, x4, x5, x6, x7, x8, x9, x10, x11, x12, x13, x14, x15, x16, x17, x18, x19, x20, x21, x22, x23], _ => ⟨x0, x1, x2, x3, x4, x5, x6, x7, x8, x9, x10, x11, x12, x13, x14, x15, x16, x17, x18, x19, x20, x21, x22, x23, rfl⟩
theorem len25 {α : Type} {r : List α} (h : r.length = 25) : ∃ x0 x1 x2 x3 x4 x5 x6 x7 x8 x9 x10 x11 x12 x13 x14 x15 x16 x17 x18 x19 x20 x21 x22 x23 x24, r = [x0, x1, x2, x3, x4, x5, x6, x7, x8, x9, x10, x11, x12, x13, x14, x15, x16, x17, x18, x19, x20, x21, x22, x23, x24] := match r, h with
  | [x0, x1, x2, x3, x4, x5, x6, x7, x8, x9, x10, x11, x12, x13, x14, x15, x16, x17, x18, x19, x20, x21, x22, x23, x24], _ => ⟨x0, x1, x2, x3, x4, x5, x6, x7, x8, x9, x10, x11, x12, x13, x14, x15, x16, x17, x18, x19, x20, x21, x22, x23, x24, rfl⟩
theorem len26 {α : Type} {r : List α} (h : r.length = 26) : ∃ x0 x1 x2 x3 x4 x5 x6 x7 x8 x9 x10 x11 x12 x13 x14 x15 x16 x17 x18 x19 x20 x21 x22 x23 x24 x25, r = [x0, x1, x2, x3, x4, x5, x6, x7, x8, x9, x10, x11, x12, x13, x14, x15, x16, x17, x18, x19, x20, x21, x22, x23, x24, x25] := match r, h with
  | [x0, x1, x2, x3, x4, x5, x6, x7, x8, x9, x10, x11, x12, x13, x14, x15, x16, x17, x18, x19, x20, x21, x22, x23, x24, x25], _ => ⟨x0, x1, x2, x3, x4, x5, x6, x7, x8, x9, x10, x11, x12, x13, x14, x15, x16, x17, x18, x19, x20, x21, x22, x23, x24, x25, rfl⟩
theorem len27 {α : Type} {r : List α} (h : r.length = 27) : ∃ x0 x1 x2 x3 x4 x5 x6 x7 x8 x9 x10 x11 x12 x13 x14 x15 x16 x17 x18 x19 x20 x21 x22 x23 x24 x25 x26, r = [x0, x1, x2, x3, x4, x5, x6, x7, x8, x9, x10, x11, x12, x13, x14, x15, x16, x17, x18, x19, x20, x21, x22, x23, x24, x25, x26] := match r, h with
  | [x0, x1, x2, x3, x4, x5, x6, x7, x8, x9, x10, x11, x12, x13, x14, x15, x16, x17, x18, x19, x20, x21, x22, x23, x24, x25, x26], _ => ⟨x0, x1, x2, x3, x4, x5, x6, x7, x8, x9, x10, x11, x12, x13, x14, x15, x16, x17, x18, x19, x20, x21, x22, x23, x24, x25, x26, rfl⟩
theorem len28 {α : Type} {r : List α} (h : r.length = 28) : ∃ x0 x1 x2 x3 x4 x5 x6 x7 x8 x9 x10 x11 x12 x13 x14 x15 x16 x17 x18 x19 x20 x21 x22 x23 x24 x25 x26 x27, r = [x0, x1, x2, x3, x4, x5, x6, x7, x8, x9, x10, x11, x12, x13, x14, x15, x16, x17, x18, x19, x20, x21, x22, x23, x24, x25, x26, x27] := match r, h with
  | [x0, x1, x2, x3, x4, x5, x6, x7, x8, x9, x10, x11, x12, x13, x14, x15, x16, x17, x18, x19, x20, x21, x22, x23, x24, x25, x26, x27], _ => ⟨x0, x1, x2, x3, x4, x5, x6, x7, x8, x9, x10, x11, x12, x13, x14, x15, x16, x17, x18, x19, x20, x21, x22, x23, x24, x25, x26, x27, rfl⟩
theorem len29 {α : Type} {r : List α} (h : r.length = 29) : ∃ x0 x1 x2 x3 x4 x5 x6 x7 x8 x9 x10 x11 x12 x13 x14 x15 x16 x17 x18 x19 x20 x21 x22 x23 x24 x25 x26 x27 x28, r = [x0, x1, x2, x3, x4, x5, x6, x7, x8, x9, x10, x11, x12, x13, x14, x15, x16, x17, x18, x19, x20, x21, x22, x23, x24, x25, x26, x27, x28] := match r, h with
  | [x0, x1, x2, x3, x4, x5, x6, x7, x8, x9, x10, x11, x12, x13, x14, x15, x16, x17, x18, x19, x20, x21, x22, x23, x24, x25, x26, x27, x28], _ => ⟨x0, x1, x2, x3, x4, x5, x6, x7, x8, x9, x10, x11, x12, x13, x14, x15, x16, x17, x18, x19, x20, x21, x22, x23, x24, x25, x26, x27, x28, rfl⟩
theorem len30 {α : Type} {r : List α} (h : r.length = 30) : ∃ x0 x1 x2 x3 x4 x5 x6 x7 x8 x9 x10 x11 x12 x13 x14 x15 x16 x17 x18 x19 x20 x21 x22 x23 x24 x25 x26 x27 x28 x29, r = [x0, x1, x2, x3, x4, x5, x6, x7, x8, x9, x10, x11, x12, x13, x14, x15, x16, x17, x18, x19, x20, x21, x22, x23, x24, x25, x26, x27, x28, x29] := match r, h with
  | [x0, x1, x2, x3, x4, x5, x6, x7, x8, x9, x10, x11, x12, x13, x14, x15, x16, x17, x18, x19, x20, x21, x22, x23, x24, x25, x26, x27, x28, x29], _ => ⟨x0, x1, x2, x3, x4, x5, x6, x7, x8, x9, x10, x11, x12, x13, x14, x15, x16, x17, x18, x19, x20, x21, x22, x23, x24, x25, x26, x27, x28, x29, rfl⟩
theorem Sx.start (H : Hp) : Sx H [] H := ⟨Same.refl H, fun _ h => (by cases h), List.nodup_nil⟩
/-- one shape of ten slots -/
theorem slots {σ : L2.St} {x : Option V} {n : Nat} (h : σ.length = n + 1) (h0 : σ[0]? = some x) : ∃ r : List (Option V), r.length = n ∧ σ = x :: r := by
  cases σ with
  | nil => simp at h
  | cons y r =>
    simp at h h0
    exact ⟨r, h, by rw [h0]⟩
end Fk

namespace Fk
open PySem PySem.Spec PyProof.Rows L2
/-! ## one step, found by its head -/
class VC (g : Prop) (s : outParam Prop) : Prop where
  pf : s → g
class MpC (vs : List (Str × Nat)) (ns : outParam (List Nat)) : Prop where
  pf : vs.map (·.2) = ns
instance mp0 : MpC [] [] := ⟨rfl⟩
instance mpS {x : Str} {n : Nat} {vs : List (Str × Nat)} {ns : List Nat} [h : MpC vs ns] : MpC ((x, n) :: vs) (n :: ns) := ⟨by rw [List.map_cons, h.pf]⟩
class Nth (σ : L2.St) (i : Nat) (v : outParam V) : Prop where
  pf : σ[i]? = some (some v)
instance nth0 {v : V} {σ : L2.St} : Nth (some v :: σ) 0 v := ⟨rfl⟩
instance nthS {v : V} {x : Option V} {σ : L2.St} {i : Nat} [h : Nth σ i v] : Nth (x :: σ) (i + 1) v := ⟨by simpa using h.pf⟩
section
variable {σ σ' : L2.St} {D D' H : Hp} {L : Own} {Q : VK} {K : PySem.W.Frag} {E : Ends} {nx bk ct : L2.St → Hp → Prop} {rt : VK} {t u : TS} {te ta tb tc : TE} {tu tv : TT} {v : V} {q : Bool → Hp → Prop}
instance v_seq : VC (tSeq t u ⟨nx, rt, bk, ct⟩ σ H) (t ⟨u ⟨nx, rt, bk, ct⟩, rt, bk, ct⟩ σ H) := ⟨fun h => h⟩
instance v_next : VC (tNext ⟨nx, rt, bk, ct⟩ σ H) (nx σ H) := ⟨fun h => h⟩
instance v_brk : VC (tBreak ⟨nx, rt, bk, ct⟩ σ H) (bk σ H) := ⟨fun h => h⟩
instance v_asg {g : TG} : VC (tAsg te g ⟨nx, rt, bk, ct⟩ σ H) (te σ H fun x H1 => g x σ H1 nx) := ⟨fun h => h⟩
instance v_drop : VC (tDrop te ⟨nx, rt, bk, ct⟩ σ H) (te σ H fun _ H1 => nx σ H1) := ⟨fun h => h⟩
instance v_ret : VC (tRet te ⟨nx, rt, bk, ct⟩ σ H) (te σ H rt) := ⟨fun h => h⟩
instance v_retN : VC (tRetN ⟨nx, rt, bk, ct⟩ σ H) (rt .non H) := ⟨fun h => h⟩
instance v_if : VC (tIfS tu t u E σ H) (tu σ H fun b H1 => if b = true then t E σ H1 else u E σ H1) := ⟨fun h => h⟩
instance v_for {wi : TI} {g : TG} : VC (tFor wi g t E σ H) (wi σ H fun J H1 => tForJ J g t E σ H1) := ⟨fun h => h⟩
instance v_var {i : Nat} [h : Nth σ i v] : VC (tVar i σ H Q) (Q v H) := ⟨fun k => ⟨v, h.pf, k⟩⟩
instance v_c : VC (tC v σ H Q) (Q v H) := ⟨fun h => h⟩
instance v_op {r : R2} : VC (tOp r ta tb σ H Q) (ta σ H fun x H1 => tb σ H1 fun y H2 => r x y H2 Q) := ⟨fun h => h⟩
instance v_un {r : V → Hp → VK → Prop} : VC (tUn r ta σ H Q) (ta σ H fun x H1 => r x H1 Q) := ⟨fun h => h⟩
instance v_ife : VC (tIf tu ta tb σ H Q) (tu σ H fun b H1 => if b = true then ta σ H1 Q else tb σ H1 Q) := ⟨fun h => h⟩
instance v_nil {p : List V → Hp → Prop} : VC (tNil σ H p) (p [] H) := ⟨fun h => h⟩
instance v_cons {tr : TA} {p : List V → Hp → Prop} : VC (tCons ta tr σ H p) (ta σ H fun x H1 => tr σ H1 fun xs H2 => p (x :: xs) H2) := ⟨fun h => h⟩
instance v_cb {r : List V → Hp → VK → Prop} {tr : TA} : VC (tCB r tr σ H Q) (tr σ H fun vs H1 => r vs H1 Q) := ⟨fun h => h⟩
instance v_ckw {r : List V → List V → Hp → VK → Prop} {tr tk : TA} : VC (tCKw r tr tk σ H Q) (tr σ H fun vs H1 => tk σ H1 fun zs H2 => r vs zs H2 Q) := ⟨fun h => h⟩
instance v_call {sp : Sp} {Ex : XK} {tr : TA} : VC (tCall sp [] Ex tr σ H Q) (tr σ H fun vs H1 => sp vs H1 Q Ex) := ⟨fun h => by
  have e : (fun vs H1 => sp (vs ++ []) H1 Q Ex) = fun vs H1 => sp vs H1 Q Ex := by
    funext vs H1
    rw [List.append_nil]
  show tr σ H fun vs H1 => sp (vs ++ []) H1 Q Ex
  rw [e]
  exact h⟩
instance v_tup {tr : TA} : VC (tTup tr σ H Q) (tr σ H fun xs H1 => NwT xs H1 Q) := ⟨fun h => h⟩
instance v_lst {tr : TA} : VC (tLst tr σ H Q) (tr σ H fun xs H1 => NwL xs H1 Q) := ⟨fun h => h⟩
instance v_sl {r : V → Option Int → Option Int → Hp → VK → Prop} {tl th : L2.St → Hp → (Option Int → Hp → Prop) → Prop} : VC (tSl r te tl th σ H Q) (te σ H fun x H1 => tl σ H1 fun lo H2 => th σ H2 fun hi H3 => r x lo hi H3 Q) := ⟨fun h => h⟩
instance v_pt0 {p : Option Int → Hp → Prop} : VC (tNoPart σ H p) (p none H) := ⟨fun h => h⟩
instance v_pt {p : Option Int → Hp → Prop} : VC (tPart te σ H p) (te σ H fun x H1 => IsI x H1 fun i H2 => p (some i) H2) := ⟨fun h => h⟩
instance v_isint {i : Int} {p : Int → Hp → Prop} : VC (IsI (.int i) H p) (p i H) := ⟨fun h => ⟨i, rfl, h⟩⟩
instance v_isbl {b : Bool} : VC (IsB (.bl b) H q) (q b H) := ⟨fun h => ⟨b, rfl, h⟩⟩
instance v_bm {T : String} {r : V → List V → Hp → VK → Prop} {tr : TA} : VC (tBM K T r te tr σ H Q) (te σ H fun x H1 => tyV K T x H1 ∧ tr σ H1 fun xs H2 => r x xs H2 Q) := ⟨fun h => h⟩
instance v_bm0 {T : String} {r : V → List V → Hp → VK → Prop} : VC (tBM0 K T r te σ H Q) (te σ H fun x H1 => tyV K T x H1 ∧ r x [] H1 Q) := ⟨fun h => h⟩
instance v_test : VC (tTest te σ H q) (te σ H fun x H' => IsB x H' q) := ⟨fun h => h⟩
instance v_b : VC (tB te σ H q) (te σ H fun x H' => IsB x H' q) := ⟨fun h => h⟩
instance v_and : VC (tAnd tu tv σ H q) (tu σ H fun c H1 => if c = true then tv σ H1 q else q false H1) := ⟨fun h => h⟩
instance v_or : VC (tOr tu tv σ H q) (tu σ H fun c H1 => if c = true then q true H1 else tv σ H1 q) := ⟨fun h => h⟩
instance v_not : VC (tNot tu σ H q) (tu σ H fun c H1 => q (!c) H1) := ⟨fun h => h⟩
instance v_notT : VC (tNotT K ta σ H Q) (ta σ H fun x H1 => Tru K x H1 fun k H2 => Q (.bl (!k)) H2) := ⟨fun h => h⟩
instance v_andV : VC (tAndV ta tb σ H Q) (ta σ H fun x H1 => IsB x H1 fun c H2 => if c = true then tb σ H2 Q else Q (.bl false) H2) := ⟨fun h => h⟩
instance v_orV : VC (tOrV ta tb σ H Q) (ta σ H fun x H1 => IsB x H1 fun c H2 => if c = true then Q (.bl true) H2 else tb σ H2 Q) := ⟨fun h => h⟩
instance v_notV : VC (tNotV ta σ H Q) (ta σ H fun x H1 => IsB x H1 fun c H2 => Q (.bl (!c)) H2) := ⟨fun h => h⟩
instance v_chain {r r' : R2} : VC (tChain r r' ta tb tc σ H Q) (ta σ H fun x H1 => tb σ H1 fun y H2 => r x y H2 fun z H3 => IsB z H3 fun k H4 => if k = true then tc σ H4 fun w' H5 => r' y w' H5 Q else Q (.bl false) H4) := ⟨fun h => h⟩
instance v_trubl {b : Bool} : VC (Tru K (.bl b) H q) (q b H) := ⟨fun h => ⟨b, rfl, h⟩⟩
instance v_truint {i : Int} : VC (Tru K (.int i) H q) (q (i != 0) H) := ⟨fun h => ⟨_, rfl, h⟩⟩
instance v_trunon : VC (Tru K .non H q) (q false H) := ⟨fun h => ⟨_, rfl, h⟩⟩
instance v_yes : VC (tYes σ H q) (q true H) := ⟨fun h => h⟩
instance v_ift {A B : Prop} {i : Decidable (true = true)} : VC (@ite Prop (true = true) i A B) A := ⟨fun h => by rw [if_pos rfl]; exact h⟩
instance v_iff {A B : Prop} {i : Decidable (false = true)} : VC (@ite Prop (false = true) i A B) B := ⟨fun h => by rw [if_neg (fun z => nomatch z)]; exact h⟩
instance v_ifnt {A B : Prop} {i : Decidable ((!true) = true)} : VC (@ite Prop ((!true) = true) i A B) B := ⟨fun h => by rw [if_neg (fun z => nomatch z)]; exact h⟩
instance v_ifnf {A B : Prop} {i : Decidable ((!false) = true)} : VC (@ite Prop ((!false) = true) i A B) A := ⟨fun h => by rw [if_pos (show (!false) = true from rfl)]; exact h⟩
/-- a thing is itself -/
instance v_ifnr {α : Type} {a : α} [DecidableEq α] {A B : Prop} {i : Decidable ((!decide (a = a)) = true)} : VC (@ite Prop ((!decide (a = a)) = true) i A B) B := ⟨fun h => by rw [if_neg (by rw [decide_eq_true rfl]; exact fun z => nomatch z)]; exact h⟩
instance v_ifr {α : Type} {a : α} [DecidableEq α] {A B : Prop} {i : Decidable (decide (a = a) = true)} : VC (@ite Prop (decide (a = a) = true) i A B) A := ⟨fun h => by rw [if_pos (decide_eq_true rfl)]; exact h⟩
/-! values -/
instance v_i0 {g : Int → Int → V} {i j : Int} : VC (rI0 g (.int i) (.int j) H Q) (Q (g i j) H) := ⟨fun k => ⟨i, j, rfl, rfl, k⟩⟩
instance v_ri {C : Int → Int → Prop} {g : Int → Int → V} {i j : Int} : VC (rI C g (.int i) (.int j) H Q) (C i j ∧ Q (g i j) H) := ⟨fun k => ⟨i, j, rfl, rfl, k⟩⟩
instance v_pow_10_60 : VC (rI CPow (fun i j => .int (i ^ j.toNat)) (.int 10) (.int 60) H Q) (Q (.int 1000000000000000000000000000000000000000000000000000000000000) H) := ⟨fun k => ⟨10, 60, rfl, rfl, ⟨by decide, by decide, by decide⟩, k⟩⟩
instance v_pow_10_18 : VC (rI CPow (fun i j => .int (i ^ j.toNat)) (.int 10) (.int 18) H Q) (Q (.int 1000000000000000000) H) := ⟨fun k => ⟨10, 18, rfl, rfl, ⟨by decide, by decide, by decide⟩, k⟩⟩
instance v_pow_10_20 : VC (rI CPow (fun i j => .int (i ^ j.toNat)) (.int 10) (.int 20) H Q) (Q (.int 100000000000000000000) H) := ⟨fun k => ⟨10, 20, rfl, rfl, ⟨by decide, by decide, by decide⟩, k⟩⟩
instance v_pow_10_12 : VC (rI CPow (fun i j => .int (i ^ j.toNat)) (.int 10) (.int 12) H Q) (Q (.int 1000000000000) H) := ⟨fun k => ⟨10, 12, rfl, rfl, ⟨by decide, by decide, by decide⟩, k⟩⟩
instance v_pow_10_30 : VC (rI CPow (fun i j => .int (i ^ j.toNat)) (.int 10) (.int 30) H Q) (Q (.int 1000000000000000000000000000000) H) := ⟨fun k => ⟨10, 30, rfl, rfl, ⟨by decide, by decide, by decide⟩, k⟩⟩
instance v_pow_10_59 : VC (rI CPow (fun i j => .int (i ^ j.toNat)) (.int 10) (.int 59) H Q) (Q (.int 100000000000000000000000000000000000000000000000000000000000) H) := ⟨fun k => ⟨10, 59, rfl, rfl, ⟨by decide, by decide, by decide⟩, k⟩⟩
instance v_pow_10_10 : VC (rI CPow (fun i j => .int (i ^ j.toNat)) (.int 10) (.int 10) H Q) (Q (.int 10000000000) H) := ⟨fun k => ⟨10, 10, rfl, rfl, ⟨by decide, by decide, by decide⟩, k⟩⟩
instance v_pow_10_9 : VC (rI CPow (fun i j => .int (i ^ j.toNat)) (.int 10) (.int 9) H Q) (Q (.int 1000000000) H) := ⟨fun k => ⟨10, 9, rfl, rfl, ⟨by decide, by decide, by decide⟩, k⟩⟩
instance v_pow_10_6 : VC (rI CPow (fun i j => .int (i ^ j.toNat)) (.int 10) (.int 6) H Q) (Q (.int 1000000) H) := ⟨fun k => ⟨10, 6, rfl, rfl, ⟨by decide, by decide, by decide⟩, k⟩⟩
instance v_pow_2_31 : VC (rI CPow (fun i j => .int (i ^ j.toNat)) (.int 2) (.int 31) H Q) (Q (.int 2147483648) H) := ⟨fun k => ⟨2, 31, rfl, rfl, ⟨by decide, by decide, by decide⟩, k⟩⟩
instance v_u {g : Int → V} {i : Int} : VC (rU g (.int i) H Q) (Q (g i) H) := ⟨fun k => ⟨i, rfl, k⟩⟩
instance v_addI {i j : Int} : VC (rAddX K (.int i) (.int j) H Q) (Q (.int (i + j)) H) := ⟨r_addI⟩
def MulOk (i j : Int) : Prop := (-18446744073709551616 < i ∧ i < 18446744073709551616) ∨ (-18446744073709551616 < j ∧ j < 18446744073709551616) ∨ CMulW i j
instance v_mulI {i j : Int} : VC (rMulY K (.int i) (.int j) H Q) (MulOk i j ∧ Q (.int (i * j)) H) := ⟨fun ⟨c, k⟩ => by
  rcases c with c | c | c
  · exact r_mul (r_mulL c k)
  · exact r_mul (r_mulR c k)
  · exact r_mul (r_mulW c k)⟩
def DivOk (i j : Int) : Prop := (0 < j ∧ j < 1073741824) ∨ CDivW i j
instance v_divI {i j : Int} : VC (rDvX (.int i) (.int j) H Q) (DivOk i j ∧ Q (.int (i / j)) H) := ⟨fun ⟨c, k⟩ => by
  rcases c with c | c
  · exact r_div c k
  · exact r_divW c k⟩
instance v_eqI {i j : Int} : VC (rEqX K (.int i) (.int j) H Q) (Q (.bl (decide (i = j))) H) := ⟨r_eqI⟩
instance v_neI {i j : Int} : VC (rNeX K (.int i) (.int j) H Q) (Q (.bl (!decide (i = j))) H) := ⟨r_neI⟩
instance v_intI {i : Int} : VC (rInt1 [.int i] H Q) (Q (.int i) H) := ⟨c_intI⟩
instance v_intB {b : Bool} : VC (rInt1 [.bl b] H Q) (Q (.int (if b then 1 else 0)) H) := ⟨c_intB⟩
instance v_abs {i : Int} : VC (rAbs [.int i] H Q) (Q (.int (if i < 0 then -i else i)) H) := ⟨c_abs⟩
instance v_max2 {i j : Int} : VC (rMax2 [.int i, .int j] H Q) (Q (.int (max i j)) H) := ⟨fun h => c_max2 (by rw [show (if j > i then j else i) = max i j by omega]; exact h)⟩
instance v_min2 {i j : Int} : VC (rMin2 [.int i, .int j] H Q) (Q (.int (min i j)) H) := ⟨fun h => c_min2 (by rw [show (if j < i then j else i) = min i j by omega]; exact h)⟩
instance v_name {i : Nat} {p : L2.St → Hp → Prop} [h : StA σ i (some v) σ'] : VC (gName i v σ H p) (p σ' H) := ⟨fun k => by have := h.pf; subst this; exact k⟩
instance v_sub {to ti : TE} {ts : TSet} {p : L2.St → Hp → Prop} : VC (gSub to ti ts v σ H p) (to σ H fun o H1 => ti σ H1 fun i H2 => ts o i v H2 fun H3 => p σ H3) := ⟨fun h => h⟩
instance v_wok {σw : L2.St} {vs : List Nat} {p : Prop} [h : Wip σ vs σw] : VC (WOk σ vs σw p) p := ⟨fun k => ⟨h.pf, k⟩⟩
instance v_seqI {R : It → Hp → Prop} : VC (iSeq K te σ H R) (te σ H fun x H1 => IsSq K x H1 R) := ⟨fun h => h⟩
instance v_rng1 {tr : TA} {R : It → Hp → Prop} : VC (iRng1 tr σ H R) (tr σ H fun vs H1 => IsR1 vs H1 R) := ⟨fun h => h⟩
instance v_rng2 {tr : TA} {R : It → Hp → Prop} : VC (iRng2 tr σ H R) (tr σ H fun vs H1 => IsR2 vs H1 R) := ⟨fun h => h⟩
instance v_r1 {j : Int} {R : It → Hp → Prop} : VC (IsR1 [.int j] H R) ((-4611686018427387904 ≤ j ∧ j < 4611686018427387904) ∧ R (Itr 0 j.toNat) H) := ⟨fun h => i_r1 h.1 h.2⟩
instance v_r2 {i j : Int} {R : It → Hp → Prop} : VC (IsR2 [.int i, .int j] H R) (((-4611686018427387904 ≤ i ∧ i < 4611686018427387904) ∧ -4611686018427387904 ≤ j ∧ j < 4611686018427387904) ∧ R (Itr i (j - i).toNat) H) := ⟨fun h => i_r2 h.1 h.2⟩
instance v_lc {wi : TI} {g : TG} {tt : TT} {vs : List (Str × Nat)} {ns : List Nat} [m : MpC vs ns] : VC (tLc wi g tt te (vs.map (·.2)) σ H Q) (wi σ H fun J H1 => tLcJ J g tt te ns σ H1 Q) := ⟨fun h => by rw [m.pf]; exact h⟩
end
theorem divW {i m : Int} (h0 : 1 ≤ m) (h1 : m ≤ 1000000000000000000000000000000000000000000000000000000000000) : DivOk i m := by
  have h2 : m.natAbs ≤ 1000000000000000000000000000000000000000000000000000000000000 := by omega
  exact .inr (wide_div (b := 200) (by omega) (Nat.lt_of_le_of_lt h2 (by decide +kernel)) (by decide) (by decide))
/-! ## while -/
theorem while_go {σ : L2.St} {H : Hp} {c : TT} {tb : TS} {nx : L2.St → Hp → Prop} {rt : VK} {bk ct : L2.St → Hp → Prop} (Pv : Nat → L2.St → Hp → Prop) (m0 : Nat) (h0 : Pv m0 σ H)
    (hs : ∀ m σ H, Pv m σ H → c σ H fun b H1 => if b = true then ∃ N : L2.St → Hp → Prop, (∀ σ' H', N σ' H' → ∃ m', m' < m ∧ Pv m' σ' H') ∧ tb ⟨N, rt, nx, N⟩ σ H1 else nx σ H1) : tWhile c tb ⟨nx, rt, bk, ct⟩ σ H :=
  ⟨Pv, ⟨m0, h0⟩, hs⟩
theorem wh_body {σ : L2.St} {H : Hp} {tb : TS} {nx : L2.St → Hp → Prop} {rt : VK} {Pv : Nat → L2.St → Hp → Prop} {m : Nat} (h : ∀ N : L2.St → Hp → Prop, (∀ m' σ' H', m' < m → Pv m' σ' H' → N σ' H') → tb ⟨N, rt, nx, N⟩ σ H) :
    ∃ N : L2.St → Hp → Prop, (∀ σ' H', N σ' H' → ∃ m', m' < m ∧ Pv m' σ' H') ∧ tb ⟨N, rt, nx, N⟩ σ H := ⟨_, fun _ _ h => h, h _ fun m' _ _ a b => ⟨m', a, b⟩⟩
/-! ## lists and tuples that are read -/
class Fi (L : Own) (a : Addr) (o : outParam HO) (n : outParam Nat) : Prop where
  pf : L[n]? = some (a, o)
instance fi0 {a : Addr} {o : HO} {L : Own} : Fi ((a, o) :: L) a o 0 := ⟨rfl⟩
instance fiS {a : Addr} {x : Addr × HO} {o : HO} {L : Own} {n : Nat} [h : Fi L a o n] : Fi (x :: L) a o (n + 1) := ⟨by simpa using h.pf⟩
class Se (L : Own) (n : Nat) (x : Addr × HO) (L' : outParam Own) : Prop where
  pf : L.set n x = L'
instance se0 {x y : Addr × HO} {L : Own} : Se (y :: L) 0 x (x :: L) := ⟨rfl⟩
instance seS {x y : Addr × HO} {L L' : Own} {n : Nat} [h : Se L n x L'] : Se (y :: L) (n + 1) x (y :: L') := ⟨by rw [List.set_cons_succ, h.pf]⟩
/-- the law's script, or the like: read only -/
class Sq (K : PySem.W.Frag) (D : Hp) (a : Addr) (xs : outParam (List V)) : Prop where
  pf : SqL K D a xs
instance sqUp {K : PySem.W.Frag} {D D' : Hp} {a : Addr} {xs : List V} [s : Sm D D'] [k : Sq K D a xs] : Sq K D' a xs := ⟨s.e.seq k.pf⟩
class Ml (D : Hp) (L : Own) (a : Addr) (xs : outParam (List V)) : Prop where
  pf : Rdl D L a xs
instance mlF {D : Hp} {L : Own} {a : Addr} {xs : List V} {n : Nat} [h : Fi L a (.lst xs) n] : Ml D L a xs := ⟨.inl ⟨n, h.pf⟩⟩
instance mlK {D : Hp} {L : Own} {a : Addr} {xs : List V} [h : Kn D a (.lst xs)] : Ml D L a xs := ⟨.inr h.pf⟩
class Sl (K : PySem.W.Frag) (D : Hp) (L : Own) (a : Addr) (xs : outParam (List V)) : Prop where
  pf : Rds K D L a xs
instance slF {K : PySem.W.Frag} {D : Hp} {L : Own} {a : Addr} {xs : List V} {n : Nat} [h : Fi L a (.lst xs) n] : Sl K D L a xs := ⟨.inl ⟨n, h.pf⟩⟩
instance slK {K : PySem.W.Frag} {D : Hp} {L : Own} {a : Addr} {xs : List V} [h : Kn D a (.lst xs)] : Sl K D L a xs := ⟨rsD h.pf⟩
instance slS {K : PySem.W.Frag} {D : Hp} {L : Own} {a : Addr} {xs : List V} [h : Sq K D a xs] : Sl K D L a xs := ⟨rsS h.pf⟩
/-- an item at a place -/
class AtC (xs : List V) (i : Int) (v : outParam V) : Prop where
  pf : atI xs i = some v
instance at0 {x : V} {r : List V} : AtC (x :: r) 0 x := ⟨atI0 rfl⟩
instance at1 {x y : V} {r : List V} : AtC (x :: y :: r) 1 y := ⟨atI1 rfl⟩
instance at2 {x y z : V} {r : List V} : AtC (x :: y :: z :: r) 2 z := ⟨atI2 rfl⟩
instance atM {α : Type} {f : α → V} {x : α} {r : List α} : AtC (List.map f (x :: r)) 0 (f x) := ⟨atI0 rfl⟩
/-- ints, truths -/
class IsC (xs : List V) (ns : outParam (List Int)) : Prop where
  pf : xs = ns.map V.int
instance isMap {ns : List Int} : IsC (ns.map V.int) ns := ⟨rfl⟩
instance isNil : IsC [] [] := ⟨rfl⟩
instance isCons {n : Int} {r : List V} {ns : List Int} [h : IsC r ns] : IsC (.int n :: r) (n :: ns) := ⟨by rw [h.pf]; rfl⟩
instance isApp {r s : List V} {ns ms : List Int} [h : IsC r ns] [k : IsC s ms] : IsC (r ++ s) (ns ++ ms) := ⟨by rw [h.pf, k.pf, List.map_append]⟩
instance isRep {n : Nat} {i : Int} : IsC (List.replicate n (V.int i)) (List.replicate n i) := ⟨by rw [List.map_replicate]⟩
class BsC (xs : List V) (bs : outParam (List Bool)) : Prop where
  pf : xs = bs.map V.bl
instance bsMap {bs : List Bool} : BsC (bs.map V.bl) bs := ⟨rfl⟩
instance bsRep {n : Nat} {b : Bool} : BsC (List.replicate n (V.bl b)) (List.replicate n b) := ⟨by rw [List.map_replicate]⟩
class LnC (xs : List V) (n : outParam Nat) : Prop where
  pf : xs.length = n
instance (priority := low) lnAny {xs : List V} : LnC xs xs.length := ⟨rfl⟩
instance lnMap {α : Type} {f : α → V} {xs : List α} : LnC (xs.map f) xs.length := ⟨List.length_map _⟩
class CuC (xs : List V) (lo hi : Option Int) (ys : outParam (List V)) : Prop where
  pf : cutV xs lo hi = ys
instance (priority := low) cuAny {xs : List V} {lo hi : Option Int} : CuC xs lo hi (cutV xs lo hi) := ⟨rfl⟩
instance (priority := low + 1) cuFrom1 {xs : List V} : CuC xs (some 1) none (xs.drop 1) := ⟨cut1 xs⟩
instance cuM1 {α : Type} {f : α → V} {xs : List α} : CuC (xs.map f) (some 1) none ((xs.drop 1).map f) := ⟨by rw [cut1, List.map_drop]⟩
class SeC (xs : List V) (i : Int) (v : V) (ys : outParam (List V)) : Prop where
  pf : xs.set i.toNat v = ys
instance (priority := low) seAny {xs : List V} {i : Int} {v : V} : SeC xs i v (xs.set i.toNat v) := ⟨rfl⟩
instance seL0 {x v : V} {r : List V} : SeC (x :: r) 0 v (v :: r) := ⟨rfl⟩
instance seL1 {x y v : V} {r : List V} : SeC (x :: y :: r) 1 v (x :: v :: r) := ⟨rfl⟩
instance seL2 {x y z v : V} {r : List V} : SeC (x :: y :: z :: r) 2 v (x :: y :: v :: r) := ⟨rfl⟩
/-- kinds -/
class TyC (K : PySem.W.Frag) (H : Hp) (v : V) (t : outParam String) : Prop where
  pf : TyX K H v (.type t)
class KiC (t n : String) (b : outParam Bool) : Prop where
  pf : kitB t n = some b
section
variable {σ σ' : L2.St} {D D' H : Hp} {L : Own} {Q : VK} {K : PySem.W.Frag}
instance tyInt {i : Int} : TyC K H (.int i) "int" := ⟨.base (.int i)⟩
instance tyBl {b : Bool} : TyC K H (.bl b) "bool" := ⟨.base (.bl b)⟩
instance tyNon : TyC K H .non "NoneType" := ⟨.base .non⟩
instance tyStr {z : Str} : TyC K H (.str z) "str" := ⟨.base (.str z)⟩
instance tyTup {a : Addr} {xs : List V} [S : Sx D L H] [k : Kn D a (.tup xs)] : TyC K H (.ref a) "tuple" := ⟨.base (.tup (S.dH _ _ k.pf))⟩
instance tyLst {a : Addr} {xs : List V} [S : Sx D L H] [k : Ml D L a xs] : TyC K H (.ref a) "list" := ⟨.base (.lst (k.pf.at S))⟩
instance v_isi {x : V} {t n : String} {b : Bool} [h : TyC K H x t] [k : KiC t n b] : VC (rIsi K [x, .ty n] H Q) (Q (.bl b) H) := ⟨isi h.pf k.pf⟩
instance v_nwl {xs : List V} [S : Sx D L H] : VC (NwL xs H Q) (xs.length ≤ 16777216 ∧ ∀ p H', Sx D ((p, .lst xs) :: L) H' → Q (.ref p) H') := ⟨fun h => nw_lst S h.1 h.2⟩
instance v_nwt {xs : List V} [S : Sx D L H] : VC (NwT xs H Q) (xs.length ≤ 16777216 ∧ ∀ p D' H', Sx D' L H' → Sm D D' → Kn D' p (.tup xs) → Q (.ref p) H') := ⟨fun h => nw_tup S h.1 fun p D' H' e k S' => h.2 p D' H' S' ⟨e⟩ ⟨k⟩⟩
instance v_cat {a b : Addr} {xs ys : List V} [S : Sx D L H] [ha : Ml D L a xs] [hb : Ml D L b ys] : VC (rAddX K (.ref a) (.ref b) H Q) (xs.length + ys.length ≤ 16777216 ∧ ∀ p H', Sx D ((p, .lst (xs ++ ys)) :: L) H' → Q (.ref p) H') := ⟨fun h => r_cat S ha.pf hb.pf h.1 h.2⟩
instance v_catT {a b : Addr} {xs ys : List V} [S : Sx D L H] [ha : Kn D a (.tup xs)] [hb : Kn D b (.tup ys)] : VC (rAddX K (.ref a) (.ref b) H Q) (xs.length + ys.length ≤ 16777216 ∧ ∀ p D' H', Sx D' L H' → Sm D D' → Kn D' p (.tup (xs ++ ys)) → Q (.ref p) H') := ⟨fun h => r_catT S ha.pf hb.pf h.1 fun p D' H' e k S' => h.2 p D' H' S' ⟨e⟩ ⟨k⟩⟩
instance v_rep {a : Addr} {x : V} {n : Int} [S : Sx D L H] [ha : Ml D L a [x]] : VC (rMulY K (.ref a) (.int n) H Q) ((-1000000 ≤ n ∧ n ≤ 1000000) ∧ ∀ p H', Sx D ((p, .lst (List.replicate n.toNat x)) :: L) H' → Q (.ref p) H') := ⟨fun h => r_mul (r_rep1 S ha.pf h.1.1 h.1.2 h.2)⟩
instance v_repT {a : Addr} {x : V} {n : Int} [S : Sx D L H] [ha : Kn D a (.tup [x])] : VC (rMulY K (.ref a) (.int n) H Q) ((1 ≤ n ∧ n ≤ 1000) ∧ ∀ p D' H', Sx D' L H' → Sm D D' → Kn D' p (.tup (List.replicate n.toNat x)) → Q (.ref p) H') := ⟨fun h => r_rep1T S ha.pf h.1.1 h.1.2 fun p D' H' e k S' => h.2 p D' H' S' ⟨e⟩ ⟨k⟩⟩
instance v_ixL {a : Addr} {xs : List V} {i : Int} {v : V} [S : Sx D L H] [ha : Sl K D L a xs] [h : AtC xs i v] : VC (rIx K (.ref a) (.int i) H Q) (Q v H) := ⟨r_ixL S ha.pf h.pf⟩
instance v_ixT {a : Addr} {xs : List V} {i : Int} {v : V} [S : Sx D L H] [ha : Kn D a (.tup xs)] [h : AtC xs i v] : VC (rIx K (.ref a) (.int i) H Q) (Q v H) := ⟨r_ixT S ha.pf h.pf⟩
instance v_slL {a : Addr} {xs ys : List V} {lo hi : Option Int} [S : Sx D L H] [ha : Sl K D L a xs] [c : CuC xs lo hi ys] : VC (rSlX K (.ref a) lo hi H Q) (∀ p H', Sx D ((p, .lst ys) :: L) H' → Q (.ref p) H') := ⟨fun h => r_slL S ha.pf (by rw [c.pf]; exact h)⟩
instance v_slT {a : Addr} {xs ys : List V} {lo hi : Option Int} [S : Sx D L H] [ha : Kn D a (.tup xs)] [c : CuC xs lo hi ys] : VC (rSlX K (.ref a) lo hi H Q) (∀ p D' H', Sx D' L H' → Sm D D' → Kn D' p (.tup ys) → Q (.ref p) H') := ⟨fun h => r_slT S ha.pf fun p D' H' e k S' => h p D' H' S' ⟨e⟩ ⟨by rw [← c.pf]; exact k⟩⟩
instance v_lenL {a : Addr} {xs : List V} {n : Nat} [S : Sx D L H] [ha : Sl K D L a xs] [l : LnC xs n] : VC (rLen K [.ref a] H Q) (Q (.int n) H) := ⟨fun h => c_lenL S ha.pf (by rw [l.pf]; exact h)⟩
instance v_lenT {a : Addr} {xs : List V} {n : Nat} [S : Sx D L H] [ha : Kn D a (.tup xs)] [l : LnC xs n] : VC (rLen K [.ref a] H Q) (Q (.int n) H) := ⟨fun h => c_lenT S ha.pf (by rw [l.pf]; exact h)⟩
instance v_tupL {a : Addr} {xs : List V} [S : Sx D L H] [ha : Sl K D L a xs] : VC (rTupOf K [.ref a] H Q) (∀ p D' H', Sx D' L H' → Sm D D' → Kn D' p (.tup xs) → Q (.ref p) H') := ⟨fun h => c_tupL S ha.pf fun p D' H' e k S' => h p D' H' S' ⟨e⟩ ⟨k⟩⟩
instance v_tupT {a : Addr} {xs : List V} [S : Sx D L H] [ha : Kn D a (.tup xs)] : VC (rTupOf K [.ref a] H Q) (Q (.ref a) H) := ⟨c_tupT S ha.pf⟩
instance v_lstL {a : Addr} {xs : List V} [S : Sx D L H] [ha : Sl K D L a xs] : VC (rLstOf K [.ref a] H Q) (∀ p H', Sx D ((p, .lst xs) :: L) H' → Q (.ref p) H') := ⟨fun h => c_lstL S ha.pf h⟩
instance v_lstT {a : Addr} {xs : List V} [S : Sx D L H] [ha : Kn D a (.tup xs)] : VC (rLstOf K [.ref a] H Q) (∀ p H', Sx D ((p, .lst xs) :: L) H' → Q (.ref p) H') := ⟨fun h => c_lstT S ha.pf h⟩
instance v_sumL {a : Addr} {xs : List V} {ns : List Int} [S : Sx D L H] [ha : Sl K D L a xs] [c : IsC xs ns] : VC (rSumX K [.ref a] H Q) (Q (.int ns.sum) H) := ⟨fun h => c_sumL S (by rw [← c.pf]; exact ha.pf) h⟩
instance v_sumT {a : Addr} {xs : List V} {ns : List Int} [S : Sx D L H] [ha : Kn D a (.tup xs)] [c : IsC xs ns] : VC (rSumX K [.ref a] H Q) (Q (.int ns.sum) H) := ⟨fun h => c_sumT S (by rw [← c.pf]; exact ha.pf) h⟩
instance v_allL {a : Addr} {xs : List V} {bs : List Bool} [S : Sx D L H] [ha : Sl K D L a xs] [c : BsC xs bs] : VC (rAll K [.ref a] H Q) (Q (.bl (bs.all id)) H) := ⟨fun h => c_all S (by rw [← c.pf]; exact ha.pf) h⟩
instance v_anyL {a : Addr} {xs : List V} {bs : List Bool} [S : Sx D L H] [ha : Sl K D L a xs] [c : BsC xs bs] : VC (rAny K [.ref a] H Q) (Q (.bl (bs.any id)) H) := ⟨fun h => c_any S (by rw [← c.pf]; exact ha.pf) h⟩
/-- all true -/
instance v_allR {a : Addr} {n : Nat} [S : Sx D L H] [ha : Sl K D L a (List.replicate n (V.bl true))] : VC (rAll K [.ref a] H Q) (Q (.bl true) H) := ⟨fun h => c_allT S ha.pf h⟩
instance v_sortL {a : Addr} {xs : List V} {ns : List Int} [S : Sx D L H] [ha : Sl K D L a xs] [c : IsC xs ns] : VC (rSortedX K [.ref a] H Q) (∀ ns' : List Int, ns'.Perm ns → ns'.Pairwise (· ≤ ·) → ∀ p H', Sx D ((p, .lst (ns'.map V.int)) :: L) H' → Q (.ref p) H') := ⟨fun h => c_sortL S (by rw [← c.pf]; exact ha.pf) fun ns' p H' h1 h2 S' => h ns' h1 h2 p H' S'⟩
instance v_sortT {a : Addr} {xs : List V} {ns : List Int} [S : Sx D L H] [ha : Kn D a (.tup xs)] [c : IsC xs ns] : VC (rSortedX K [.ref a] H Q) (∀ ns' : List Int, ns'.Perm ns → ns'.Pairwise (· ≤ ·) → ∀ p H', Sx D ((p, .lst (ns'.map V.int)) :: L) H' → Q (.ref p) H') := ⟨fun h => c_sortT S (by rw [← c.pf]; exact ha.pf) fun ns' p H' h1 h2 S' => h ns' h1 h2 p H' S'⟩
instance v_sortRL {a : Addr} {xs : List V} {ns : List Int} [S : Sx D L H] [ha : Sl K D L a xs] [c : IsC xs ns] : VC (rSortedR K [.ref a] [.bl true] H Q) (∀ ns' : List Int, ns'.Perm ns → ns'.Pairwise (· ≥ ·) → ∀ p H', Sx D ((p, .lst (ns'.map V.int)) :: L) H' → Q (.ref p) H') := ⟨fun h => c_sortRL S (by rw [← c.pf]; exact ha.pf) fun ns' p H' h1 h2 S' => h ns' h1 h2 p H' S'⟩
instance v_sortRT {a : Addr} {xs : List V} {ns : List Int} [S : Sx D L H] [ha : Kn D a (.tup xs)] [c : IsC xs ns] : VC (rSortedR K [.ref a] [.bl true] H Q) (∀ ns' : List Int, ns'.Perm ns → ns'.Pairwise (· ≥ ·) → ∀ p H', Sx D ((p, .lst (ns'.map V.int)) :: L) H' → Q (.ref p) H') := ⟨fun h => c_sortRT S (by rw [← c.pf]; exact ha.pf) fun ns' p H' h1 h2 S' => h ns' h1 h2 p H' S'⟩
instance v_ty {a : Addr} {xs : List V} {p : Prop} [S : Sx D L H] [ha : Ml D L a xs] : VC (tyV K "list" (.ref a) H ∧ p) p := ⟨mm_ty S ha.pf⟩
instance v_app {a : Addr} {xs : List V} {n : Nat} {y : V} {L' : Own} [S : Sx D L H] [h : Fi L a (.lst xs) n] [e : Se L n (a, .lst (xs ++ [y])) L'] : VC (rAppend (.ref a) [y] H Q) (xs.length < 16777216 ∧ ∀ H', Sx D L' H' → Q .non H') := ⟨fun k => m_app S h.pf k.1 e.pf k.2⟩
instance v_set {a : Addr} {xs ys : List V} {i : Int} {n : Nat} {v : V} {L' : Own} {q : Hp → Prop} [S : Sx D L H] [h : Fi L a (.lst xs) n] [c : SeC xs i v ys] [e : Se L n (a, .lst ys) L'] : VC (rSetL (.ref a) (.int i) v H q) ((0 ≤ i ∧ i.toNat < xs.length) ∧ ∀ H', Sx D L' H' → q H') := ⟨fun k => p_set S h.pf k.1.1 k.1.2 (by rw [c.pf]; exact e.pf) k.2⟩
instance v_sqL {a : Addr} {xs : List V} {R : It → Hp → Prop} [S : Sx D L H] [ha : Sl K D L a xs] : VC (IsSq K (.ref a) H R) (R (Itl K a) H) := ⟨i_isL S ha.pf⟩
instance v_sqT {a : Addr} {xs : List V} {R : It → Hp → Prop} [S : Sx D L H] [ha : Kn D a (.tup xs)] : VC (IsSq K (.ref a) H R) (R (Itt K a) H) := ⟨i_isT S ha.pf⟩
instance v_eqTT {a b : Addr} {us ws : List V} {xs ys : List Int} [S : Sx D L H] [ha : Kn D a (.tup us)] [hb : Kn D b (.tup ws)] [c : IsC us xs] [d : IsC ws ys] : VC (rEqX K (.ref a) (.ref b) H Q) (Q (.bl (decide (xs = ys))) H) := ⟨r_eqTT S (by rw [← c.pf]; exact ha.pf) (by rw [← d.pf]; exact hb.pf)⟩
instance v_neTT {a b : Addr} {us ws : List V} {xs ys : List Int} [S : Sx D L H] [ha : Kn D a (.tup us)] [hb : Kn D b (.tup ws)] [c : IsC us xs] [d : IsC ws ys] : VC (rNeX K (.ref a) (.ref b) H Q) (Q (.bl (!decide (xs = ys))) H) := ⟨r_neTT S (by rw [← c.pf]; exact ha.pf) (by rw [← d.pf]; exact hb.pf)⟩
instance v_eqLL {a b : Addr} {us ws : List V} {xs ys : List Int} [S : Sx D L H] [ha : Sl K D L a us] [hb : Sl K D L b ws] [c : IsC us xs] [d : IsC ws ys] : VC (rEqX K (.ref a) (.ref b) H Q) (Q (.bl (decide (xs = ys))) H) := ⟨r_eqLL S (by rw [← c.pf]; exact ha.pf) (by rw [← d.pf]; exact hb.pf)⟩
instance v_neLL {a b : Addr} {us ws : List V} {xs ys : List Int} [S : Sx D L H] [ha : Sl K D L a us] [hb : Sl K D L b ws] [c : IsC us xs] [d : IsC ws ys] : VC (rNeX K (.ref a) (.ref b) H Q) (Q (.bl (!decide (xs = ys))) H) := ⟨r_neLL S (by rw [← c.pf]; exact ha.pf) (by rw [← d.pf]; exact hb.pf)⟩
/-- what is no more asked of is left -/
class Sub (L2 L1 : Own) : Prop where
  pf : L2.Sublist L1
instance subRefl {L : Own} : Sub L L := ⟨List.Sublist.refl _⟩
instance (priority := low) subDrop {x : Addr × HO} {L M : Own} [h : Sub M L] : Sub M (x :: L) := ⟨h.pf.cons x⟩
instance subKeep {x : Addr × HO} {L M : Own} [h : Sub M L] : Sub (x :: M) (x :: L) := ⟨h.pf.cons_cons x⟩
class Er (L : Own) (n : Nat) (L' : outParam Own) : Prop where
  pf : L.eraseIdx n = L'
instance er0 {x : Addr × HO} {L : Own} : Er (x :: L) 0 L := ⟨rfl⟩
instance erS {x : Addr × HO} {L L' : Own} {n : Nat} [h : Er L n L'] : Er (x :: L) (n + 1) (x :: L') := ⟨by rw [List.eraseIdx_cons_succ, h.pf]⟩
theorem perm_front {α : Type} : ∀ {L : List α} {n : Nat} {x : α}, L[n]? = some x → L.Perm (x :: L.eraseIdx n)
  | [], _, _, h => by simp at h
  | y :: L, 0, x, h => by
    simp at h
    subst h
    exact List.Perm.refl _
  | y :: L, n + 1, x, h => by
    have ih := perm_front (L := L) (n := n) (x := x) (by simpa using h)
    rw [List.eraseIdx_cons_succ]
    exact (ih.cons y).trans (List.Perm.swap x y _)
/-- one thing in front -/
theorem Sx.front {a : Addr} {o : HO} {L1 L' : Own} {n : Nat} [S : Sx D L1 H] [h : Fi L1 a o n] [e : Er L1 n L'] : Sx D ((a, o) :: L') H := S.perm (by rw [← e.pf]; exact perm_front h.pf)
/-- my list is fixed from now on -/
theorem Sx.fix1 {a : Addr} {o : HO} {L1 L' : Own} {n : Nat} [S : Sx D L1 H] [h : Fi L1 a o n] [e : Er L1 n L'] : ∃ D', Sm D D' ∧ Kn D' a o ∧ Sx D' L' H :=
  ⟨_, ⟨same_upd (S.off h.pf)⟩, ⟨upd_same⟩, by have := S.frz h.pf; rw [e.pf] at this; exact this⟩
theorem Sx.gc {L1 : Own} [S : Sx D L1 H] [s : Sub L L1] : Sx D L H := ⟨S.dH, fun q hq => S.ow q (s.pf.subset hq), S.nd.sublist (s.pf.map _)⟩
end
instance ki_int_int : KiC "int" "int" true := ⟨by decide +kernel⟩
instance ki_int_bool : KiC "int" "bool" false := ⟨by decide +kernel⟩
instance ki_int_str : KiC "int" "str" false := ⟨by decide +kernel⟩
instance ki_int_list : KiC "int" "list" false := ⟨by decide +kernel⟩
instance ki_int_tuple : KiC "int" "tuple" false := ⟨by decide +kernel⟩
instance ki_int_dict : KiC "int" "dict" false := ⟨by decide +kernel⟩
instance ki_bool_int : KiC "bool" "int" true := ⟨by decide +kernel⟩
instance ki_bool_bool : KiC "bool" "bool" true := ⟨by decide +kernel⟩
instance ki_bool_str : KiC "bool" "str" false := ⟨by decide +kernel⟩
instance ki_bool_list : KiC "bool" "list" false := ⟨by decide +kernel⟩
instance ki_bool_tuple : KiC "bool" "tuple" false := ⟨by decide +kernel⟩
instance ki_bool_dict : KiC "bool" "dict" false := ⟨by decide +kernel⟩
instance ki_str_int : KiC "str" "int" false := ⟨by decide +kernel⟩
instance ki_str_bool : KiC "str" "bool" false := ⟨by decide +kernel⟩
instance ki_str_str : KiC "str" "str" true := ⟨by decide +kernel⟩
instance ki_str_list : KiC "str" "list" false := ⟨by decide +kernel⟩
instance ki_str_tuple : KiC "str" "tuple" false := ⟨by decide +kernel⟩
instance ki_str_dict : KiC "str" "dict" false := ⟨by decide +kernel⟩
instance ki_list_int : KiC "list" "int" false := ⟨by decide +kernel⟩
instance ki_list_bool : KiC "list" "bool" false := ⟨by decide +kernel⟩
instance ki_list_str : KiC "list" "str" false := ⟨by decide +kernel⟩
instance ki_list_list : KiC "list" "list" true := ⟨by decide +kernel⟩
instance ki_list_tuple : KiC "list" "tuple" false := ⟨by decide +kernel⟩
instance ki_list_dict : KiC "list" "dict" false := ⟨by decide +kernel⟩
instance ki_tuple_int : KiC "tuple" "int" false := ⟨by decide +kernel⟩
instance ki_tuple_bool : KiC "tuple" "bool" false := ⟨by decide +kernel⟩
instance ki_tuple_str : KiC "tuple" "str" false := ⟨by decide +kernel⟩
instance ki_tuple_list : KiC "tuple" "list" false := ⟨by decide +kernel⟩
instance ki_tuple_tuple : KiC "tuple" "tuple" true := ⟨by decide +kernel⟩
instance ki_tuple_dict : KiC "tuple" "dict" false := ⟨by decide +kernel⟩
instance ki_dict_int : KiC "dict" "int" false := ⟨by decide +kernel⟩
instance ki_dict_bool : KiC "dict" "bool" false := ⟨by decide +kernel⟩
instance ki_dict_str : KiC "dict" "str" false := ⟨by decide +kernel⟩
instance ki_dict_list : KiC "dict" "list" false := ⟨by decide +kernel⟩
instance ki_dict_tuple : KiC "dict" "tuple" false := ⟨by decide +kernel⟩
instance ki_dict_dict : KiC "dict" "dict" true := ⟨by decide +kernel⟩
instance ki_NoneType_int : KiC "NoneType" "int" false := ⟨by decide +kernel⟩
instance ki_NoneType_bool : KiC "NoneType" "bool" false := ⟨by decide +kernel⟩
instance ki_NoneType_str : KiC "NoneType" "str" false := ⟨by decide +kernel⟩
instance ki_NoneType_list : KiC "NoneType" "list" false := ⟨by decide +kernel⟩
instance ki_NoneType_tuple : KiC "NoneType" "tuple" false := ⟨by decide +kernel⟩
instance ki_NoneType_dict : KiC "NoneType" "dict" false := ⟨by decide +kernel⟩
end Fk

namespace Fk
open PySem PySem.Spec PyProof.Rows L2
/-! ## zip, enumerate, pairs -/
section
variable {X : Cx}
theorem pi_zipK (K : PySem.W.Frag) {e e2 : Expr} {ta : TA} {p pos tpos : Pos} {elts : List Expr} {kk : Nat} (hg : Gl X "zip") (hm : X.mg "zip" = none) (ha : PA X [e, e2] ta) (hK : X.K = K := by rfl)
    (hs : starEach [e, e2] X.env = (false, eval e X.env) :: starEach [e2] X.env := by rfl) (hpl : (backTo pos (starEach [e2] X.env)).any (·.1) = false := by rfl) :
    PI X (.Tuple elts kk tpos) (.Call (.Name "zip" p) [e, e2] [] pos) (RZ.iZipA K ta) := by subst hK; exact RZ.pi_zipA hg hm ha hs hpl
theorem pi_enumK (K : PySem.W.Frag) {e : Expr} {ta : TA} {p pos tpos : Pos} {elts : List Expr} {kk : Nat} (hg : Gl X "enumerate") (hm : X.mg "enumerate" = none) (ha : PA X [e] ta) (hK : X.K = K := by rfl) (hs : starEach [e] X.env = [(false, eval e X.env)] := by rfl) :
    PI X (.Tuple elts kk tpos) (.Call (.Name "enumerate" p) [e] [] pos) (iEnum K ta) := by subst hK; exact pi_enum hg hm ha hs
end
def IsZ (K : PySem.W.Frag) (vs : List V) (H1 : Hp) (R : It → Hp → Prop) : Prop := ∃ a b xs ys, vs = [.ref a, .ref b] ∧ ((SqL K H1 a xs ∧ SqL K H1 b ys ∧ R (Itz K a b) H1) ∨ (SqT K H1 a xs ∧ SqT K H1 b ys ∧ R (RZ.ItzT K a b) H1))
def IsE (K : PySem.W.Frag) (vs : List V) (H1 : Hp) (R : It → Hp → Prop) : Prop := ∃ a xs, vs = [.ref a] ∧ SqL K H1 a xs ∧ R (Ite K a) H1
theorem Sx.weak {D D' : Hp} {L : Own} {H : Hp} (S : Sx D' L H) (e : Same D D') : Sx D L H := ⟨e.trans S.dH, fun p hp => ⟨(S.ow p hp).1, e.free (S.ow p hp).2⟩, S.nd⟩
/-- less is known, less is owned -/
theorem Sx.gw {D D1 : Hp} {L L1 : Own} {H : Hp} [S : Sx D1 L1 H] [u : Up D D1] [s : Sub L L1] : Sx D L H := Sx.weak (Sx.gc (L1 := L1)) u.e
section
variable {σ σ' : L2.St} {D D' H H' : Hp} {L : Own} {Q : VK} {K : PySem.W.Frag} {q : L2.St → Hp → Prop}
instance v_zip {tr : TA} {R : It → Hp → Prop} : VC (RZ.iZipA K tr σ H R) (tr σ H fun vs H1 => IsZ K vs H1 R) := ⟨fun h => h⟩
instance v_zipL {a b : Addr} {xs ys : List V} {R : It → Hp → Prop} [S : Sx D L H] [ha : Sl K D L a xs] [hb : Sl K D L b ys] : VC (IsZ K [.ref a, .ref b] H R) (R (Itz K a b) H) := ⟨fun h => ⟨a, b, xs, ys, rfl, .inl ⟨ha.pf.sq S, hb.pf.sq S, h⟩⟩⟩
instance v_zipT {a b : Addr} {xs ys : List V} {R : It → Hp → Prop} [S : Sx D L H] [ha : Kn D a (.tup xs)] [hb : Kn D b (.tup ys)] : VC (IsZ K [.ref a, .ref b] H R) (R (RZ.ItzT K a b) H) := ⟨fun h => ⟨a, b, xs, ys, rfl, .inr ⟨sqT S ha.pf, sqT S hb.pf, h⟩⟩⟩
instance v_enum {tr : TA} {R : It → Hp → Prop} : VC (iEnum K tr σ H R) (tr σ H fun vs H1 => IsE K vs H1 R) := ⟨fun h => h⟩
instance v_enumL {a : Addr} {xs : List V} {R : It → Hp → Prop} [S : Sx D L H] [ha : Sl K D L a xs] : VC (IsE K [.ref a] H R) (R (Ite K a) H) := ⟨fun h => ⟨a, xs, rfl, ha.pf.sq S, h⟩⟩
instance v_gtup {n : Nat} {t : TGs} {a : Addr} {xs : List V} [S : Sx D L H] [k : Kn D a (.tup xs)] : VC (gTup K n t (.ref a) σ H q) (xs.length = n ∧ t xs σ H q) := ⟨fun h => ⟨a, xs, rfl, sqT S k.pf, h.1, h.2⟩⟩
instance v_gcons {t : TG} {u : TGs} {v : V} {r : List V} : VC (gCons t u (v :: r) σ H q) (t v σ H fun σ' H' => u r σ' H' q) := ⟨fun h => ⟨v, r, rfl, h⟩⟩
instance v_gnil : VC (gNil [] σ H q) (q σ H) := ⟨fun h => ⟨rfl, h⟩⟩
/-- a pair, new at each turn -/
theorem pair_step {f g : Nat → Option V} {i : Nat} {v : V} [S : Sx D L H] (y : YPair f g i H v H') : ∃ T x z D', v = .ref T ∧ f i = some x ∧ g i = some z ∧ Sm D D' ∧ Kn D' T (.tup [x, z]) ∧ Sx D' L H' := by
  obtain ⟨T, x, z, rfl, hT, rfl, h1, h2⟩ := y
  exact ⟨T, x, z, _, rfl, h1, h2, ⟨same_upd (S.dH.free hT)⟩, ⟨upd_same⟩, S.fix hT⟩
theorem walk_zipT {a b : Addr} {xs ys : List V} {n : Nat} (hn : n = min xs.length ys.length) : Walk (RZ.ItzT K a b) n (fun H => SqT K H a xs ∧ SqT K H b ys) (YPair (fun i => xs[i]?) (fun i => ys[i]?)) := by
  subst hn
  refine ⟨fun i H hi q => ?_, fun H q => ⟨xs, ys, q.1, q.2, by omega⟩, fun i H v H' hi q y => ?_⟩
  · have k1 : i < xs.length := by omega
    have k2 : i < ys.length := by omega
    exact ⟨xs, ys, xs[i], ys[i], q.1, q.2, by simp [k1], by simp [k2]⟩
  · obtain ⟨T, x, z, e1, e2, e3, e4, e5⟩ := y
    exact ⟨T, x, z, e1, e2, e3, e4 xs q.1, e5 ys q.2⟩
/-- range, plainly -/
theorem walk_rng {lo : Int} {n : Nat} : Walk (Itr lo n) n (fun _ => True) (fun i H x H' => H' = H ∧ x = .int (lo + (i : Int))) := walk_range
end
end Fk

namespace Fk
open PySem PySem.Spec PyProof.Rows L2
/-! ## insert, pop, reverse, extend; cuts -/
def rIns : V → List V → Hp → VK → Prop := fun x vs H Q => ∃ (l : Addr) (xs : List V) (i : Int) (y : V), x = .ref l ∧ vs = [.int i, y] ∧ H l = some (.lst xs) ∧ xs.length < sizeLine ∧ 0 ≤ i ∧ i < 2 ^ 63 ∧ Q .non (upd H l (.lst (xs.take i.toNat ++ [y] ++ xs.drop i.toNat)))
theorem mt_insN {X : Cx} : MtR X "list.insert" rIns := mt_insert
/-- the last item, and the others -/
class LaC (xs : List V) (y : outParam V) (ys : outParam (List V)) : Prop where
  pf : xs = ys ++ [y]
instance laApp {ys : List V} {y : V} : LaC (ys ++ [y]) y ys := ⟨rfl⟩
instance laMap {α : Type} {f : α → V} {ys : List α} {y : α} : LaC (List.map f (ys ++ [y])) (f y) (List.map f ys) := ⟨by rw [List.map_append]; rfl⟩
instance atLast {xs ys : List V} {y : V} [h : LaC xs y ys] : AtC xs (-1) y := ⟨by rw [h.pf]; exact atI_last ys y⟩
section
variable {σ σ' : L2.St} {D D' H H' : Hp} {L : Own} {Q : VK} {K : PySem.W.Frag} {q : L2.St → Hp → Prop}
instance v_ins {a : Addr} {xs : List V} {n : Nat} {i : Int} {y : V} {L' : Own} [S : Sx D L H] [h : Fi L a (.lst xs) n] [e : Se L n (a, .lst (xs.take i.toNat ++ [y] ++ xs.drop i.toNat)) L'] : VC (rIns (.ref a) [.int i, y] H Q) ((xs.length < 16777216 ∧ 0 ≤ i ∧ i < 4611686018427387904) ∧ ∀ H', Sx D L' H' → Q .non H') :=
  ⟨fun k => ⟨a, xs, i, y, rfl, rfl, S.at h.pf, k.1.1, k.1.2.1, by have := k.1.2.2; omega, k.2 _ (by have := S.put (.lst (xs.take i.toNat ++ [y] ++ xs.drop i.toNat)) h.pf; rw [e.pf] at this; exact this)⟩⟩
instance v_ins0 {a : Addr} {xs : List V} {n : Nat} {y : V} {L' : Own} [S : Sx D L H] [h : Fi L a (.lst xs) n] [e : Se L n (a, .lst (y :: xs)) L'] : VC (rIns (.ref a) [.int 0, y] H Q) (xs.length < 16777216 ∧ ∀ H', Sx D L' H' → Q .non H') :=
  ⟨fun k => ⟨a, xs, 0, y, rfl, rfl, S.at h.pf, k.1, by decide, by decide, k.2 _ (by have := S.put (.lst (y :: xs)) h.pf; rw [e.pf] at this; exact this)⟩⟩
instance v_pop {a : Addr} {xs ys : List V} {n : Nat} {y : V} {L' : Own} [S : Sx D L H] [h : Fi L a (.lst xs) n] [l : LaC xs y ys] [e : Se L n (a, .lst ys) L'] : VC (rPop (.ref a) [] H Q) (∀ H', Sx D L' H' → Q y H') := ⟨fun k => by
  obtain rfl := l.pf
  refine ⟨a, ys ++ [y], y, rfl, rfl, S.at h.pf, ?_, ?_⟩
  · rw [List.length_append, show ys.length + [y].length - 1 = ys.length by simp, List.getElem?_append_right (Nat.le_refl _), Nat.sub_self]
    rfl
  · rw [List.dropLast_concat]
    exact k _ (by have := S.put (.lst ys) h.pf; rw [e.pf] at this; exact this)⟩
instance v_rev {a : Addr} {xs : List V} {n : Nat} {L' : Own} [S : Sx D L H] [h : Fi L a (.lst xs) n] [e : Se L n (a, .lst xs.reverse) L'] : VC (rReverse (.ref a) [] H Q) (∀ H', Sx D L' H' → Q .non H') :=
  ⟨fun k => ⟨a, xs, rfl, rfl, S.at h.pf, k _ (by have := S.put (.lst xs.reverse) h.pf; rw [e.pf] at this; exact this)⟩⟩
instance v_ext {a b : Addr} {xs zs : List V} {n : Nat} {L' : Own} [S : Sx D L H] [h : Fi L a (.lst xs) n] [hb : Ml D L b zs] [e : Se L n (a, .lst (xs ++ zs)) L'] : VC (rExtend (.ref a) [.ref b] H Q) (xs.length + zs.length ≤ 16777216 ∧ ∀ H', Sx D L' H' → Q .non H') :=
  ⟨fun k => ⟨a, b, xs, zs, rfl, rfl, S.at h.pf, hb.pf.at S, k.1, k.2 _ (by have := S.put (.lst (xs ++ zs)) h.pf; rw [e.pf] at this; exact this)⟩⟩
end
theorem cut_toI {xs : List V} {i : Int} (h : 0 ≤ i) : cutV xs none (some i) = xs.take i.toNat := by
  have := cut_to xs i.toNat
  rwa [show ((i.toNat : Nat) : Int) = i from Int.toNat_of_nonneg h] at this
theorem cut_fromI {xs : List V} {i : Int} (h : 0 ≤ i) : cutV xs (some i) none = xs.drop i.toNat := by
  have := cut_from xs i.toNat
  rwa [show ((i.toNat : Nat) : Int) = i from Int.toNat_of_nonneg h] at this
end Fk

namespace Fk
open PySem PySem.Spec PyProof.Rows L2
/-! ## rows of numbers, nested -/
abbrev tI (r : List Int) : PyData := .tuple (dI r)
abbrev lI (r : List Int) : PyData := .list (dI r)
/-- fixed things that stand for data -/
class Ra (D : Hp) (vs : List V) (ds : outParam (List PyData)) : Prop where
  pf : RpAll D vs ds
instance raUp {D D' : Hp} {vs : List V} {ds : List PyData} [s : Sm D D'] [k : Ra D vs ds] : Ra D' vs ds := ⟨RpAll.up s.e k.pf⟩
theorem ra_cons {D : Hp} {vs : List V} {d : PyData} {ds : List PyData} (h : RpAll D vs (d :: ds)) : ∃ v us, vs = v :: us ∧ Rp D v d ∧ RpAll D us ds := by
  cases h with
  | cons h t => exact ⟨_, _, rfl, h, t⟩
theorem ra_consT {D : Hp} {vs : List V} {r : List Int} {rs : List (List Int)} (h : RpAll D vs ((r :: rs).map tI)) : ∃ b us, vs = .ref b :: us ∧ Kn D b (.tup (r.map V.int)) ∧ RpAll D us (rs.map tI) := by
  obtain ⟨v, us, rfl, h1, h2⟩ := ra_cons h
  obtain ⟨b, rfl, h3⟩ := h1.inv_tupI
  exact ⟨b, us, rfl, ⟨h3⟩, h2⟩
theorem ra_consL {D : Hp} {vs : List V} {r : List Int} {rs : List (List Int)} (h : RpAll D vs ((r :: rs).map lI)) : ∃ b us, vs = .ref b :: us ∧ Kn D b (.lst (r.map V.int)) ∧ RpAll D us (rs.map lI) := by
  obtain ⟨v, us, rfl, h1, h2⟩ := ra_cons h
  obtain ⟨b, rfl, h3⟩ := h1.inv_lstI
  exact ⟨b, us, rfl, ⟨h3⟩, h2⟩
theorem ra_getT {D : Hp} {vs : List V} {rs : List (List Int)} {i : Nat} {v : V} (h : RpAll D vs (rs.map tI)) (hv : vs[i]? = some v) : ∃ b r, v = .ref b ∧ rs[i]? = some r ∧ Kn D b (.tup (r.map V.int)) := by
  obtain ⟨d, h1, h2⟩ := RpAll.getV h hv
  rw [List.getElem?_map] at h1
  cases e : rs[i]? with
  | none => rw [e] at h1; cases h1
  | some r =>
    rw [e] at h1
    cases h1
    obtain ⟨b, rfl, h3⟩ := h2.inv_tupI
    exact ⟨b, r, rfl, rfl, ⟨h3⟩⟩
theorem ra_getL {D : Hp} {vs : List V} {rs : List (List Int)} {i : Nat} {v : V} (h : RpAll D vs (rs.map lI)) (hv : vs[i]? = some v) : ∃ b r, v = .ref b ∧ rs[i]? = some r ∧ Kn D b (.lst (r.map V.int)) := by
  obtain ⟨d, h1, h2⟩ := RpAll.getV h hv
  rw [List.getElem?_map] at h1
  cases e : rs[i]? with
  | none => rw [e] at h1; cases h1
  | some r =>
    rw [e] at h1
    cases h1
    obtain ⟨b, rfl, h3⟩ := h2.inv_lstI
    exact ⟨b, r, rfl, rfl, ⟨h3⟩⟩
theorem ra_oneT {D : Hp} {b : Addr} {r : List Int} [k : Kn D b (.tup (r.map V.int))] : RpAll D [.ref b] ([r].map tI) := .cons (.tupI k.pf) .nil
theorem ra_oneL {D : Hp} {b : Addr} {r : List Int} [k : Kn D b (.lst (r.map V.int))] : RpAll D [.ref b] ([r].map lI) := .cons (.lstI k.pf) .nil
theorem ra_drop {D : Hp} : ∀ {vs : List V} {ds : List PyData} (n : Nat), RpAll D vs ds → RpAll D (vs.drop n) (ds.drop n)
  | _, _, 0, h => h
  | _, _, _ + 1, .nil => .nil
  | _, _, n + 1, .cons _ t => ra_drop n t
theorem ra_take {D : Hp} : ∀ {vs : List V} {ds : List PyData} (n : Nat), RpAll D vs ds → RpAll D (vs.take n) (ds.take n)
  | _, _, 0, _ => .nil
  | _, _, _ + 1, .nil => .nil
  | _, _, n + 1, .cons h t => .cons h (ra_take n t)
theorem ra_rep {D : Hp} {v : V} {d : PyData} (h : Rp D v d) : ∀ n : Nat, RpAll D (List.replicate n v) (List.replicate n d)
  | 0 => .nil
  | n + 1 => .cons h (ra_rep h n)
/-! equality -/
theorem sh_TT (xss : List (List Int)) : SeqAt.shaped (.tuple (xss.map tI)) = true := (Sh.tup (n := 1) fun d hd => by
  obtain ⟨r, _, rfl⟩ := List.mem_map.mp hd
  exact Sh.tup (n := 0) Sh.ints).ok
theorem sh_LL (xss : List (List Int)) : SeqAt.shaped (.list (xss.map lI)) = true := (Sh.list (n := 1) fun d hd => by
  obtain ⟨r, _, rfl⟩ := List.mem_map.mp hd
  exact Sh.list (n := 0) Sh.ints).ok
theorem eqv_mapT : ∀ (xs ys : List (List Int)), PyData.eqvAll (xs.map tI) (ys.map tI) = decide (xs = ys)
  | [], [] => by simp [PyData.eqvAll]
  | [], y :: ys => by simp [PyData.eqvAll]
  | x :: xs, [] => by simp [PyData.eqvAll]
  | x :: xs, y :: ys => by
    rw [List.map_cons, List.map_cons]
    simp only [PyData.eqvAll]
    rw [eqv_mapT xs ys, eqv_tupI]
    by_cases h : x = y
    · subst h; simp
    · simp [h]
theorem eqv_mapL : ∀ (xs ys : List (List Int)), PyData.eqvAll (xs.map lI) (ys.map lI) = decide (xs = ys)
  | [], [] => by simp [PyData.eqvAll]
  | [], y :: ys => by simp [PyData.eqvAll]
  | x :: xs, [] => by simp [PyData.eqvAll]
  | x :: xs, y :: ys => by
    rw [List.map_cons, List.map_cons]
    simp only [PyData.eqvAll]
    rw [eqv_mapL xs ys, eqv_lstI]
    by_cases h : x = y
    · subst h; simp
    · simp [h]
theorem eqv_TT (xs ys : List (List Int)) : PyData.eqv (.tuple (xs.map tI)) (.tuple (ys.map tI)) = decide (xs = ys) := by simp only [PyData.eqv, eqv_mapT]
theorem eqv_LL (xs ys : List (List Int)) : PyData.eqv (.list (xs.map lI)) (.list (ys.map lI)) = decide (xs = ys) := by simp only [PyData.eqv, eqv_mapL]
section
variable {D D' H : Hp} {L : Own} {Q : VK} {K : PySem.W.Frag}
theorem r_eqTT2 {a b : Addr} {us ws : List V} {xs ys : List (List Int)} (S : Sx D L H) (ha : Kn D a (.tup us)) (hb : Kn D b (.tup ws)) (ra : RpAll D us (xs.map tI)) (rb : RpAll D ws (ys.map tI)) (k : Q (.bl (decide (xs = ys))) H) : rEqX K (.ref a) (.ref b) H Q :=
  r_eqD S (.tup ha.pf ra) (.tup hb.pf rb) (sh_TT xs) (sh_TT ys) (by rw [eqv_TT]; exact k)
theorem r_neTT2 {a b : Addr} {us ws : List V} {xs ys : List (List Int)} (S : Sx D L H) (ha : Kn D a (.tup us)) (hb : Kn D b (.tup ws)) (ra : RpAll D us (xs.map tI)) (rb : RpAll D ws (ys.map tI)) (k : Q (.bl (!decide (xs = ys))) H) : rNeX K (.ref a) (.ref b) H Q :=
  r_neD S (.tup ha.pf ra) (.tup hb.pf rb) (sh_TT xs) (sh_TT ys) (by rw [eqv_TT]; exact k)
theorem rp_H {v : V} {d : PyData} (S : Sx D L H) (h : Rp D v d) : Rp H v d := Rp.up S.dH h
theorem dpLL {a : Addr} {us : List V} {xs : List (List Int)} (S : Sx D L H) (ha : Rds K D L a us) (ra : RpAll D us (xs.map lI)) : Dp K H (.ref a) (.list (xs.map lI)) := .lst (ha.sq S) (RpAll.dp (RpAll.up S.dH ra))
theorem r_eqLL2 {a b : Addr} {us ws : List V} {xs ys : List (List Int)} (S : Sx D L H) (ha : Rds K D L a us) (hb : Rds K D L b ws) (ra : RpAll D us (xs.map lI)) (rb : RpAll D ws (ys.map lI)) (k : Q (.bl (decide (xs = ys))) H) : rEqX K (.ref a) (.ref b) H Q :=
  .inr ⟨_, _, dpLL S ha ra, dpLL S hb rb, sh_LL xs, sh_LL ys, by rw [eqv_LL]; exact k⟩
theorem r_neLL2 {a b : Addr} {us ws : List V} {xs ys : List (List Int)} (S : Sx D L H) (ha : Rds K D L a us) (hb : Rds K D L b ws) (ra : RpAll D us (xs.map lI)) (rb : RpAll D ws (ys.map lI)) (k : Q (.bl (!decide (xs = ys))) H) : rNeX K (.ref a) (.ref b) H Q :=
  .inr ⟨_, _, dpLL S ha ra, dpLL S hb rb, sh_LL xs, sh_LL ys, by rw [eqv_LL]; exact k⟩
end
end Fk

namespace Fk
open PySem PySem.Spec PyProof.Rows L2
/-! ## enumerate of a tuple -/
set_option maxHeartbeats 1000000 in
theorem meets_enumT {v : Value} {o : Obj} {G : Heap → Prop} (B : Begins v o G) :
    Meets (Builtin.«enumerate.__new__» ⟨[.type "enumerate", v], []⟩) (fun _ R s => G s.heap ∧
      R (.ok (.ret (.ref (s.heap.push o).objs.size))) { s with heap := (s.heap.push o).push { cls := .type "enumerate", data := .fields #[.none, .bool false, .ref s.heap.objs.size, rawInt 0, .none, .none] } }) :=
  .of_wp fun prog w A R s h => by
    obtain ⟨hp, g, d, tk, os⟩ := s
    obtain ⟨h1, h⟩ := h
    have hsub := sub_enumerate
    have q1 : ∀ {A' : Around} {E : Value → Shared → Prop} {Q : Value → Shared → Prop}, Q (.ref hp.objs.size) ⟨hp.push o, g, d, tk, os⟩ → wpAny (model prog w) A' (pyIter v) Q E ⟨hp, g, d, tk, os⟩ :=
      fun q => B.iter prog w _ _ ⟨hp, g, d, tk, os⟩ _ h1 q
    wp_walk using q1
    refine wpAny_stack_any fun st => wpAny_pure ?_
    split
    · rename_i c _ _ _ _ _
      cases (c == Value.type "enumerate")
      · wp_walk using q1
        exact ⟨_, rfl, h⟩
      · wp_walk using q1
        exact ⟨_, rfl, h⟩
    · wp_walk using q1
      exact ⟨_, rfl, h⟩
section
variable {prog : Program} {w : World} {A : Around} {E : Value → Shared → Prop} {s : Shared}
theorem call_enumB {v : Value} {o : Obj} {G : Heap → Prop} {Q : Value → Shared → Prop} (B : Begins v o G) (h1 : G s.heap)
    (h : ∀ h', IsEnum h' (s.heap.objs.size + 1) s.heap.objs.size 0 .none → h'.get? s.heap.objs.size = some o →
      (∀ b o, s.heap.get? b = some o → h'.get? b = some o) → Q (.ref (s.heap.objs.size + 1)) { s with heap := h' }) :
    wpAny (model prog w) A (call (.type "enumerate") [v]) Q E s := by
  refine callType_new F.called_enumerate (by decide) (F.typeCall_enumerate_1 _) (F.newCall_enumerate_1 _) (fun obj => F.args_object_init_2 obj _) F.entry_enumerate_new
    (meets_enumT B) ⟨h1, ?_⟩
  have hz : (s.heap.push o).objs.size = s.heap.objs.size + 1 := Heap.size_push ..
  show _ ∧ _
  rw [hz]
  have he : IsEnum ((s.heap.push o).push { cls := .type "enumerate", data := .fields #[.none, .bool false, .ref s.heap.objs.size, rawInt 0, .none, .none] }) (s.heap.objs.size + 1) s.heap.objs.size 0 .none := by
    have := Heap.get?_push_size (s.heap.push o) (o := { cls := .type "enumerate", data := .fields #[.none, .bool false, .ref s.heap.objs.size, rawInt 0, .none, .none] }) rfl
    rw [hz] at this
    exact this
  exact ⟨⟨_, he, rfl⟩, h _ he (Heap.get?_push_of_some _ (Heap.get?_push_size _ B.free)) fun b o x => Heap.get?_push_of_some _ (Heap.get?_push_of_some _ x)⟩
end
section
variable {prog : Program} {w : World} {A : Around} {E : Value → Shared → Prop} {s : Shared}
theorem enumT_end {e it l : Addr} {i : Nat} {items : Array Value} {old : Value} {Q : Option Value → Shared → Prop} (hh : A.handled = none)
    (he : IsEnum s.heap e it i old) (hit : s.heap.IsTupleIter it l i) (hl : s.heap.IsTuple l items) (hx : items[i]? = none)
    (hQ : ∀ h', Heap.ExtBut it s.heap h' → Q none { s with heap := h' }) : wpAny (model prog w) A (pyNext (.ref e)) Q E s := by
  have hT : s.TypeIs (.ref e) "enumerate" := ⟨_, he, rfl⟩
  unfold pyNext
  refine wpAny_bind (wpAny_attempt (wpAny_callSpecial?_slot (name := Str.ofString "__next__") hT F.slot_enumerate_next
    (wpAny_call_entry F.slot_enumerate_next hT F.entry_enumerate_next ?_ (F.args_enumerate_next_1 _))))
  show wpAny _ _ (field (.ref e) 2 >>= _) _ _ _
  refine wpAny_bind (wpAny_field he rfl (x := .ref it) rfl ?_)
  refine wpAny_bind (wpAny_nextOf_tuple_end hh hit hl hx fun h' x he' hx' => ?_)
  obtain ⟨o, ho, hc⟩ := hx'
  refine wpAny_bind (wpAny_isInstance (T := "StopIteration") (b := true) ⟨o, ho, hc⟩ isSubtype_stop ?_)
  exact wpAny_pure (hQ _ he')
end
/-- the tuple at a, each item in a new pair -/
def Itet (K : PySem.W.Frag) (a : Addr) : It :=
  ⟨fun i H => ∃ (xs : List V) (x : V), SqT K H a xs ∧ xs[i]? = some x, fun i H v H' => ∃ T x, v = .ref T ∧ H T = none ∧ H' = upd H T (.tup [.int (i : Nat), x]) ∧ ∀ xs, SqT K H a xs → xs[i]? = some x, fun i H => ∃ xs : List V, SqT K H a xs ∧ xs.length ≤ i⟩
theorem turn_enumT {P : Program} {w : World} {K : PySem.W.Frag} {elts : List Expr} {kk : Nat} {tpos : Pos} (a e it : Addr) :
    Turn P w K (.Tuple elts kk tpos) (Itet K a) [e, it] e (fun i h => (∃ old, IsEnum h e it ((i : Nat) : Int) old) ∧ h.IsTupleIter it a i ∧ e ≠ it) where
  mem := by simp
  obj := fun i h st b hb => by
    obtain ⟨⟨old, he⟩, ⟨o, ho, hc, hd⟩, _⟩ := st
    have e' : b = e ∨ b = it := by simpa using hb
    rcases e' with z | z
    · rw [z]; exact ⟨_, he, fun v q => nomatch q⟩
    · rw [z]; exact ⟨o, ho, fun v q => by rw [hd] at q; cases q⟩
  keep := fun i h h' st k => let ⟨⟨old, he⟩, hi, hne⟩ := st; ⟨⟨old, k e (by simp) _ he⟩, hi.at fun o q => k it (by simp) o q, hne⟩
  item := by
    intro X hP hw hK hc i pins s σ H E I hf st hg
    subst hP hw hK
    obtain ⟨⟨old, he⟩, hit, hne⟩ := st
    obtain ⟨xs, x, hq, hx⟩ := hg
    obtain ⟨its, rv, p, hz⟩ := I.tuple hq
    obtain ⟨u, hu, ru⟩ := rv.get hx
    have p' : s.heap.IsTuple a its.toArray := p
    have hel : e < s.heap.objs.size := Heap.lt_size he
    have hil : it < s.heap.objs.size := by obtain ⟨_, q, _⟩ := hit; exact Heap.lt_size q
    have hai : a ≠ it := by
      rintro rfl
      obtain ⟨o1, q1, c1, _⟩ := id p'
      obtain ⟨o2, q2, c2, _⟩ := id hit
      rw [q1] at q2
      cases q2
      rw [c1] at c2
      exact absurd c2 (by decide)
    have hae : e ≠ a := by
      rintro rfl
      obtain ⟨o1, q1, c1, _⟩ := id p'
      have q2 := he
      unfold IsEnum at q2
      rw [q1] at q2
      cases q2
      exact absurd (show Value.type "enumerate" = Value.type "tuple" from c1) (by decide)
    have hin : i < its.toArray.size := by
      have := (List.getElem?_eq_some_iff.mp hu).1
      simpa using this
    refine wpAny_pyNext_enum_itemD (Draws.tuple (A := X.A.in1) (show X.A.in1.handled = none from I.ok.hd hc) it a hai its.toArray) he ⟨hit, p'⟩ hin hne (by simp [hne, hae]) fun u' h' tk hu' ho hit' hT hsz hk => ?_
    have eu : u' = u := by
      rw [List.getElem?_toArray, hu] at hu'
      exact (Option.some.inj hu').symm
    subst eu
    refine ⟨_, rfl, wpAny_letOwnedTupleGo_enum (s := { s with heap := h', toks := tk + 1 }) ho fun h'' he' sb => ?_⟩
    have hT2 : h''.get? s.heap.objs.size = some { cls := .type "tuple", data := .seq #[.int i tk, u'] } := (sb.2 _ (Nat.ne_of_gt hel)).trans hT
    have new : ObjOk X.prog X.w (upd H s.heap.objs.size (.tup [.int (i : Nat), x])) h'' s.heap.objs.size (.tup [.int (i : Nat), x]) :=
      ⟨by show 2 ≤ sizeLine; decide, [.int i tk, u'], .cons ⟨_, rfl⟩ (.cons ru .nil), ⟨_, hT2, rfl, _, rfl⟩⟩
    have I1 : Inv X pins σ (upd H s.heap.objs.size (.tup [.int (i : Nat), x])) { s with heap := h'', toks := tk + 1 } :=
      I.turnedNew (ch := [e, it]) (fun b ob hb q => (sb.2 b (fun z => hb (by simp [z]))).trans (hk b ob (fun z => hb (by simp [z])) (fun z => hb (by simp [z])) q)) hf (Nat.le_refl _) new
    refine ⟨.ref s.heap.objs.size, _, I1, rfl, ⟨_, x, rfl, I.hok.fresh (Nat.le_refl _), rfl, fun ys hy => by rw [I.tuple_inj hy hq]; exact hx⟩, ⟨⟨u', ?_⟩, hit'.1.at fun o q => (sb.2 it (Ne.symm hne)).trans q, hne⟩, fun b hb => ?_⟩
    · have e1 : ((i + 1 : Nat) : Int) = (i : Int) + 1 := by omega
      rw [e1]; exact he'
    · have hb' : b < s.heap.objs.size := by
        have e' : b = e ∨ b = it := by simpa using hb
        rcases e' with z | z
        · rw [z]; exact hel
        · rw [z]; exact hil
      rw [upd_ne (Nat.ne_of_lt hb')]
      exact (hf b hb).1
  done := by
    intro X hP hw hK hc i pins s σ H E I hf st hg
    subst hP hw hK
    obtain ⟨⟨old, he⟩, hit, hne⟩ := st
    obtain ⟨xs, hq, hx⟩ := hg
    obtain ⟨its, rv, p, hz⟩ := I.tuple hq
    have p' : s.heap.IsTuple a its.toArray := p
    have hai : a ≠ it := by
      rintro rfl
      obtain ⟨o1, q1, c1, _⟩ := id p'
      obtain ⟨o2, q2, c2, _⟩ := id hit
      rw [q1] at q2
      cases q2
      rw [c1] at c2
      exact absurd c2 (by decide)
    obtain ⟨f0, f1, f2, f3, f4, f5⟩ := hf it (by simp)
    have hl := rv.length
    exact enumT_end (I.ok.hd hc) he hit p' (by simp; omega) fun h' eb => ⟨rfl, I.turned (t' := s.toks) (fun b o hb q => eb b o hb q) f0 f1 f3 f4 f5⟩
  self := fun A i s Q E st h => let ⟨⟨_, he⟩, _⟩ := st; wpAny_pyIter_enum he h
section
variable {X : Cx} {e : Expr} {ta : TA} {p pos tpos : Pos} {elts : List Expr} {kk : Nat}
def iEnX (K : PySem.W.Frag) (ta : TA) : TI := fun σ H R => ta σ H fun vs H1 => IsE K vs H1 R ∨ ∃ a xs, vs = [.ref a] ∧ SqT K H1 a xs ∧ R (Itet K a) H1
theorem pi_enX (K : PySem.W.Frag) (hg : Gl X "enumerate") (hm : X.mg "enumerate" = none) (ha : PA X [e] ta) (hK : X.K = K := by rfl) (hs : starEach [e] X.env = [(false, eval e X.env)] := by rfl) :
    PI X (.Tuple elts kk tpos) (.Call (.Name "enumerate" p) [e] [] pos) (iEnX K ta) := by
  subst hK
  refine ⟨fun pins s σ H R I h => ?_⟩
  refine Call_ (ld_blt I hg hm boot_enumerate (PyProof.Rows.callWith_type1 (thn (ha.run pos pins s σ H _ I h) fun us s1 ⟨vs, H1, I1, r1, q1⟩ => ?_) hs rfl))
  have fp : ∀ b ∈ [s1.heap.objs.size + 1, s1.heap.objs.size], FpOk X pins H1 b := fun b hb => by
    have e' : b = s1.heap.objs.size + 1 ∨ b = s1.heap.objs.size := by simpa using hb
    have hle : s1.heap.objs.size ≤ b := by
      rcases e' with z | z
      · rw [z]; exact Nat.le_add_right _ _
      · rw [z]; exact Nat.le_refl _
    exact I1.fpOk hle (I1.hok.fresh hle)
  rcases q1 with ⟨a, xs, ex, hq, q⟩ | ⟨a, xs, ex, hq, q⟩
  · subst ex
    cases r1 with
    | cons r rr =>
      cases rr
      cases r
      obtain ⟨its, rv, p', hz⟩ := I1.list hq
      refine call_enumerate_list p'.isList fun h' he hit hsz hk => wpAny_pyIter_enum he ?_
      have I2 : Inv X pins σ H1 { s1 with heap := h' } := I1.kept (t' := s1.toks) hk
      exact ⟨s1.heap.objs.size + 1, [s1.heap.objs.size + 1, s1.heap.objs.size], _, _, H1, rfl, I2, turn_enum a (s1.heap.objs.size + 1) s1.heap.objs.size, ⟨⟨.none, he⟩, hit, Nat.succ_ne_self _⟩, fp, q⟩
  · subst ex
    cases r1 with
    | cons r rr =>
      cases rr
      cases r
      obtain ⟨its, rv, p', hz⟩ := I1.tuple hq
      refine call_enumB (begins_tuple a its.toArray) (show s1.heap.IsTuple a its.toArray from p') fun h' he hit hk => wpAny_pyIter_enum he ?_
      have I2 : Inv X pins σ H1 { s1 with heap := h' } := I1.kept (t' := s1.toks) hk
      exact ⟨s1.heap.objs.size + 1, [s1.heap.objs.size + 1, s1.heap.objs.size], _, _, H1, rfl, I2, turn_enumT a (s1.heap.objs.size + 1) s1.heap.objs.size, ⟨⟨.none, he⟩, ⟨_, hit, rfl, rfl⟩, Nat.succ_ne_self _⟩, fp, q⟩
end
theorem walk_enumT {K : PySem.W.Frag} {a : Addr} {xs : List V} : Walk (Itet K a) xs.length (fun H => SqT K H a xs) (YPair (fun i => some (.int (i : Nat))) (fun i => xs[i]?)) := by
  refine ⟨fun i _ hi q => ⟨xs, xs[i], q, by simp [hi]⟩, fun _ q => ⟨xs, q, Nat.le_refl _⟩, fun i H v H' _ q y => ?_⟩
  obtain ⟨T, x, h1, h2, h3, h4⟩ := y
  exact ⟨T, .int (i : Nat), x, h1, h2, h3, rfl, h4 xs q⟩
section
variable {σ : L2.St} {D H : Hp} {L : Own} {K : PySem.W.Frag} {Q : VK}
def IsEX (K : PySem.W.Frag) (vs : List V) (H1 : Hp) (R : It → Hp → Prop) : Prop := IsE K vs H1 R ∨ ∃ a xs, vs = [.ref a] ∧ SqT K H1 a xs ∧ R (Itet K a) H1
instance v_enX {tr : TA} {R : It → Hp → Prop} : VC (iEnX K tr σ H R) (tr σ H fun vs H1 => IsEX K vs H1 R) := ⟨fun h => h⟩
instance v_enXL {a : Addr} {xs : List V} {R : It → Hp → Prop} [S : Sx D L H] [ha : Sl K D L a xs] : VC (IsEX K [.ref a] H R) (R (Ite K a) H) := ⟨fun h => .inl ⟨a, xs, rfl, ha.pf.sq S, h⟩⟩
instance v_enXT {a : Addr} {xs : List V} {R : It → Hp → Prop} [S : Sx D L H] [k : Kn D a (.tup xs)] : VC (IsEX K [.ref a] H R) (R (Itet K a) H) := ⟨fun h => .inr ⟨a, xs, rfl, sqT S k.pf, h⟩⟩
end

/-! ## max of a list, list.index, isinstance of several classes, great products -/
section
variable {X : Cx}
def rMaxL (K : PySem.W.Frag) : List V → Hp → VK → Prop := rMax K
theorem cr_maxX (hc : X.calm = true) : CallR X (.builtin "max") (rMaxL X.K) := cr_max hc
def rIdx (K : PySem.W.Frag) : V → List V → Hp → VK → Prop := rIndex K
theorem mt_idx : MtR X "list.index" (rIdx X.K) := mt_index
def rIsiX (K : PySem.W.Frag) : List V → Hp → VK → Prop := fun xs H Q => rIsi K xs H Q ∨ rIsiT K xs H Q
theorem call_isiX : CallR X (.builtin "isinstance") (rIsiX X.K) := CallR.or call_isi call_isiT
def rMulZ (K : PySem.W.Frag) : R2 := fun x y H Q => rMulY K x y H Q ∨ rI CMulX (fun i j => .int (i * j)) x y H Q
theorem opMulZ : OpR X (binaryOp .Mult) (rMulZ X.K) := OpR.or opMulY op_mulX
end
section
variable {σ : L2.St} {D H : Hp} {L : Own} {K : PySem.W.Frag} {Q : VK}
/-- the greatest of some, the first place of it -/
def mxL : List Int → Int
  | [] => 0
  | [x] => x
  | x :: y :: r => max x (mxL (y :: r))
theorem mxL_mem : ∀ {ns : List Int}, ns ≠ [] → mxL ns ∈ ns
  | [], h => absurd rfl h
  | [x], _ => List.mem_singleton.mpr rfl
  | x :: y :: r, _ => by
    have ih := mxL_mem (ns := y :: r) (by simp)
    show max x (mxL (y :: r)) ∈ _
    rcases Int.le_total x (mxL (y :: r)) with h | h
    · rw [Int.max_eq_right h]
      exact List.mem_cons_of_mem _ ih
    · rw [Int.max_eq_left h]
      exact List.mem_cons_self
theorem mxL_ge : ∀ {ns : List Int} {x : Int}, x ∈ ns → x ≤ mxL ns
  | [x], z, h => by rw [List.mem_singleton.mp h]; exact Int.le_refl _
  | x :: y :: r, z, h => by
    show z ≤ max x (mxL (y :: r))
    rcases List.mem_cons.mp h with e | h
    · rw [e]
      exact Int.le_max_left _ _
    · exact Int.le_trans (mxL_ge h) (Int.le_max_right _ _)
theorem mxL_uniq {ns : List Int} {m : Int} (h1 : m ∈ ns) (h2 : ∀ y, y ∈ ns → y ≤ m) : m = mxL ns :=
  Int.le_antisymm (mxL_ge h1) (h2 _ (mxL_mem (by intro e; rw [e] at h1; cases h1)))
instance v_maxL {a : Addr} {xs : List V} {ns : List Int} [S : Sx D L H] [ha : Sl K D L a xs] [c : IsC xs ns] : VC (rMaxL K [.ref a] H Q) (0 < ns.length ∧ Q (.int (mxL ns)) H) :=
  ⟨fun h => ⟨a, ns, rfl, by rw [← c.pf]; exact ha.pf.sq S, h.1, fun m h1 h2 => by rw [mxL_uniq h1 h2]; exact h.2⟩⟩
/-- the first place -/
def ixL (z : Int) : List Int → Nat
  | [] => 0
  | x :: r => if x = z then 0 else ixL z r + 1
theorem ixL_get {z : Int} : ∀ {ns : List Int}, z ∈ ns → ns[ixL z ns]? = some z
  | x :: r, h => by
    show (x :: r)[if x = z then 0 else ixL z r + 1]? = some z
    by_cases e : x = z
    · rw [if_pos e, e]
      rfl
    · rw [if_neg e]
      rcases List.mem_cons.mp h with e2 | h
      · exact absurd e2.symm e
      · exact ixL_get h
theorem ixL_no {z : Int} : ∀ {ns : List Int} {m : Nat} {y : Int}, m < ixL z ns → ns[m]? = some y → y ≠ z
  | [], m, y, h, _ => by simp [ixL] at h
  | x :: r, m, y, h, e => by
    have h' : m < (if x = z then 0 else ixL z r + 1) := h
    by_cases c : x = z
    · rw [if_pos c] at h'
      exact absurd h' (Nat.not_lt_zero _)
    · rw [if_neg c] at h'
      cases m with
      | zero =>
        have e' : x = y := Option.some.inj e
        rw [← e']
        exact c
      | succ m => exact ixL_no (ns := r) (m := m) (by omega) (by simpa using e)
theorem ixL_lt {z : Int} {ns : List Int} (h : z ∈ ns) : ixL z ns < ns.length := (List.getElem?_eq_some_iff.mp (ixL_get h)).1
instance v_idx {a : Addr} {xs : List V} {ns : List Int} {z : Int} [S : Sx D L H] [ha : Sl K D L a xs] [c : IsC xs ns] : VC (rIdx K (.ref a) [.int z] H Q) (z ∈ ns ∧ Q (.int (ixL z ns)) H) :=
  ⟨fun h => by
    obtain ⟨hm, k⟩ := h
    refine ⟨a, ns.map V.int, .int z, ixL z ns, .int z, rfl, rfl, by rw [← c.pf]; exact ha.pf.sq S, rfl, ?_, mapI (ixL_get hm), ?_, fun m z' hm' hz' => ?_, k⟩
    · rw [List.all_map]
      exact List.all_eq_true.mpr fun _ _ => rfl
    · simp [eqV]
    · obtain ⟨y, hy, rfl⟩ := getI hz'
      have := ixL_no hm' hy
      simp [eqV, this]⟩
/-- several classes -/
class KsC (K : PySem.W.Frag) (t : String) (us : List V) (b : outParam Bool) : Prop where
  pf : ∃ ws : List Value, Paired ClsV us ws ∧ PySem.W.kitAny K (.type t) ws = some b
instance v_isiX1 {x : V} {t n : String} {b : Bool} [h : TyC K H x t] [k : KiC t n b] : VC (rIsiX K [x, .ty n] H Q) (Q (.bl b) H) := ⟨fun q => .inl (isi h.pf k.pf q)⟩
instance v_isiX2 {x : V} {t : String} {tp : Addr} {us : List V} {b : Bool} [S : Sx D L H] [kt : Kn D tp (.tup us)] [h : TyC K H x t] [k : KsC K t us b] : VC (rIsiX K [x, .ref tp] H Q) (Q (.bl b) H) :=
  ⟨fun q => by
    obtain ⟨ws, h1, h2⟩ := k.pf
    exact .inr ⟨x, tp, us, .type t, ws, b, rfl, S.dH _ _ kt.pf, h1, h.pf, h2, q⟩⟩
theorem ks2 {t n1 n2 : String} {b1 b2 : Bool} (h1 : kitB t n1 = some b1) (h2 : kitB t n2 = some b2) : PySem.W.kitAny K (.type t) [.type n1, .type n2] = some (b1 || b2) := by
  unfold PySem.W.kitAny
  rw [kit_ty h1]
  cases b1
  · unfold PySem.W.kitAny
    rw [kit_ty h2]
    cases b2
    · rfl
    · rfl
  · rfl
instance ks2ff {t n1 n2 : String} [h1 : KiC t n1 false] [h2 : KiC t n2 false] : KsC K t [.ty n1, .ty n2] false := ⟨[.type n1, .type n2], .cons (.ty _) (.cons (.ty _) .nil), ks2 h1.pf h2.pf⟩
instance ks2ft {t n1 n2 : String} [h1 : KiC t n1 false] [h2 : KiC t n2 true] : KsC K t [.ty n1, .ty n2] true := ⟨[.type n1, .type n2], .cons (.ty _) (.cons (.ty _) .nil), ks2 h1.pf h2.pf⟩
instance ks2tx {t n1 n2 : String} {b : Bool} [h1 : KiC t n1 true] [h2 : KiC t n2 b] : KsC K t [.ty n1, .ty n2] true := ⟨[.type n1, .type n2], .cons (.ty _) (.cons (.ty _) .nil), ks2 h1.pf h2.pf⟩
instance v_mulZ {i j : Int} : VC (rMulZ K (.int i) (.int j) H Q) (MulOk i j ∧ Q (.int (i * j)) H) := ⟨fun h => .inl (VC.pf h)⟩
end
end Fk

namespace Fk
open PySem PySem.Spec PyProof.Rows L2
/-! ## zip of a tuple and a list -/
def Itzm (K : PySem.W.Frag) (a b : Addr) : It :=
  ⟨fun i H => ∃ (xs ys : List V) (x y : V), SqT K H a xs ∧ SqL K H b ys ∧ xs[i]? = some x ∧ ys[i]? = some y,
    fun i H v H' => ∃ T x y, v = .ref T ∧ H T = none ∧ H' = upd H T (.tup [x, y]) ∧ (∀ xs, SqT K H a xs → xs[i]? = some x) ∧ ∀ ys, SqL K H b ys → ys[i]? = some y,
    fun i H => ∃ xs ys : List V, SqT K H a xs ∧ SqL K H b ys ∧ i ≤ xs.length ∧ i ≤ ys.length ∧ (i = xs.length ∨ i = ys.length)⟩
theorem turn_zipM {P : Program} {w : World} {K : PySem.W.Frag} {elts : List Expr} {kk : Nat} {tpos : Pos} {a b z TI TO i1 i2 : Addr} (hai : a ≠ i1) (hbi : b ≠ i2) (S : ZipSep2 z TI TO i1 i2 [i1, a] [i2, b]) :
    Turn P w K (.Tuple elts kk tpos) (Itzm K a b) [z, TI, TO, i1, i2] z (fun i h => IsZip h z TI TO .none ∧ IsTupOf2 h TI (.ref i1) (.ref i2) ∧ (∃ x y, IsTupOf2 h TO x y) ∧ h.IsTupleIter i1 a i ∧ h.IsListIter i2 b i) where
  mem := by simp
  obj := fun i h st c hc => by
    obtain ⟨hz, hTI, ⟨x, y, hTO⟩, ⟨o1, e1, _, d1⟩, ⟨o2, e2, _, d2⟩⟩ := st
    have e' : c = z ∨ c = TI ∨ c = TO ∨ c = i1 ∨ c = i2 := by simpa using hc
    rcases e' with q | q | q | q | q
    · rw [q]; exact ⟨_, hz, fun v q => nomatch q⟩
    · rw [q]; exact ⟨_, hTI, fun v q => nomatch q⟩
    · rw [q]; exact ⟨_, hTO, fun v q => nomatch q⟩
    · rw [q]; exact ⟨o1, e1, fun v q => by rw [d1] at q; cases q⟩
    · rw [q]; exact ⟨o2, e2, fun v q => by rw [d2] at q; cases q⟩
  keep := fun i h h' st k => by
    obtain ⟨hz, hTI, ⟨x, y, hTO⟩, h1, h2⟩ := st
    exact ⟨k z (by simp) _ hz, k TI (by simp) _ hTI, ⟨x, y, k TO (by simp) _ hTO⟩, h1.at fun o q => k i1 (by simp) o q, h2.at fun o q => k i2 (by simp) o q⟩
  item := by
    intro X hP hw hK hc i pins s σ H E I hf st hg
    subst hP hw hK
    obtain ⟨hz, hTI, ⟨x0, y0, hTO⟩, h1, h2⟩ := st
    obtain ⟨xs, ys, x, y, hqx, hqy, hx, hy⟩ := hg
    obtain ⟨its, rv, p, _⟩ := I.tuple hqx
    obtain ⟨its2, rv2, p2, _⟩ := I.list hqy
    obtain ⟨u, hu, ru⟩ := rv.get hx
    obtain ⟨u2, hu2, ru2⟩ := rv2.get hy
    have hzl : z < s.heap.objs.size := Heap.lt_size hz
    have n1 : i < its.toArray.size := by simpa using (List.getElem?_eq_some_iff.mp hu).1
    have n2 : i < its2.toArray.size := by simpa using (List.getElem?_eq_some_iff.mp hu2).1
    have hh := I.ok.hd hc
    refine wpAny_pyNext_zipD2_item S (Draws.tuple (A := X.A.in1) (show X.A.in1.handled = none from hh) i1 a hai its.toArray) (Draws.list (A := X.A.in1) (show X.A.in1.handled = none from hh) i2 b hbi its2.toArray) hz hTI hTO ⟨h1, p⟩ ⟨h2, p2.isList⟩ n1 n2
      fun v1 v2 h' tk hv1 hv2 z' TO' st1 st2 hT hsz hk => ?_
    have ev1 : v1 = u := by
      rw [List.getElem?_toArray, hu] at hv1
      exact (Option.some.inj hv1).symm
    have ev2 : v2 = u2 := by
      rw [List.getElem?_toArray, hu2] at hv2
      exact (Option.some.inj hv2).symm
    subst ev1 ev2
    refine ⟨_, rfl, wpAny_letOwnedTupleGo_zip (s := { s with heap := h', toks := tk }) z' fun h'' z'' sb => ?_⟩
    have hT2 : h''.get? s.heap.objs.size = some { cls := .type "tuple", data := .seq #[v1, v2] } := (sb.2 _ (Nat.ne_of_gt hzl)).trans hT
    have new : ObjOk X.prog X.w (upd H s.heap.objs.size (.tup [x, y])) h'' s.heap.objs.size (.tup [x, y]) :=
      ⟨by show 2 ≤ sizeLine; decide, [v1, v2], .cons ru (.cons ru2 .nil), ⟨_, hT2, rfl, _, rfl⟩⟩
    have I1 : Inv X pins σ (upd H s.heap.objs.size (.tup [x, y])) { s with heap := h'', toks := tk } :=
      I.turnedNew (t' := tk) (ch := [z, TI, TO, i1, i2]) (fun c o hb q => (sb.2 c (fun q' => hb (by simp [q']))).trans (hk c o (fun q' => hb (by simp [q'])) (fun q' => hb (by simp [q'])) (fun q' => hb (by simp [q'])) (fun q' => hb (by simp [q'])) q)) hf (Nat.le_refl _) new
    refine ⟨.ref s.heap.objs.size, _, I1, rfl, ⟨_, x, y, rfl, I.hok.fresh (Nat.le_refl _), rfl, fun l hl => by rw [I.tuple_inj hl hqx]; exact hx, fun l hl => by rw [I.list_inj hl hqy]; exact hy⟩, ⟨z'', ?_, ⟨v1, v2, ?_⟩, ?_, ?_⟩, fun c hcm => ?_⟩
    · exact (sb.2 _ S.TIz).trans (hk _ _ S.TIz S.TITO S.TIi1 S.TIi2 hTI)
    · exact (sb.2 _ S.TOz).trans TO'
    · exact st1.1.at fun o q => (sb.2 _ (Ne.symm S.zi1)).trans q
    · exact st2.1.at fun o q => (sb.2 _ (Ne.symm S.zi2)).trans q
    · have hlt : c < s.heap.objs.size := by
        have e' : c = z ∨ c = TI ∨ c = TO ∨ c = i1 ∨ c = i2 := by simpa using hcm
        rcases e' with q | q | q | q | q
        · rw [q]; exact hzl
        · rw [q]; exact Heap.lt_size hTI
        · rw [q]; exact Heap.lt_size hTO
        · rw [q]; obtain ⟨_, e1, _⟩ := h1; exact Heap.lt_size e1
        · rw [q]; obtain ⟨_, e2, _⟩ := h2; exact Heap.lt_size e2
      rw [upd_ne (Nat.ne_of_lt hlt)]
      exact (hf c hcm).1
  done := by
    intro X hP hw hK hc i pins s σ H E I hf st hg
    subst hP hw hK
    obtain ⟨hz, hTI, ⟨x0, y0, hTO⟩, h1, h2⟩ := st
    obtain ⟨xs, ys, hqx, hqy, l1, l2, hend⟩ := hg
    obtain ⟨its, rv, p, _⟩ := I.tuple hqx
    obtain ⟨its2, rv2, p2, _⟩ := I.list hqy
    have q1 := rv.length
    have q2 := rv2.length
    have z1 : its.toArray.size = xs.length := by simp [q1]
    have z2 : its2.toArray.size = ys.length := by simp [q2]
    have hh := I.ok.hd hc
    refine wpAny_pyNext_zipD2_end (i := i) S (Draws.tuple (A := X.A.in1) (show X.A.in1.handled = none from hh) i1 a hai its.toArray) (Draws.list (A := X.A.in1) (show X.A.in1.handled = none from hh) i2 b hbi its2.toArray) hz hTI hTO ⟨h1, p⟩ ⟨h2, p2.isList⟩ (by rw [z1]; exact l1) (by rw [z2]; exact l2) (by rw [z1, z2]; exact hend)
      fun h' tk hk => ⟨rfl, I.turnedL (t' := tk) (ch := [z, TI, TO, i1, i2]) (fun c o hb q =>
      hk c o (fun q' => hb (by simp [q'])) (fun q' => hb (by simp [q'])) (fun q' => hb (by simp [q'])) (fun q' => hb (by simp [q'])) q) hf⟩
  self := fun A i s Q E st h => wpAny_pyIter_zip st.1 h
def iZipM (K : PySem.W.Frag) (ta : TA) : TI := fun σ H R => ta σ H fun vs H1 => IsZ K vs H1 R ∨ ∃ a b xs ys, vs = [.ref a, .ref b] ∧ SqT K H1 a xs ∧ SqL K H1 b ys ∧ R (Itzm K a b) H1
theorem pi_zipM (K : PySem.W.Frag) {X : Cx} {e e2 : Expr} {ta : TA} {p pos tpos : Pos} {elts : List Expr} {kk : Nat} (hg : Gl X "zip") (hm : X.mg "zip" = none) (ha : PA X [e, e2] ta) (hK : X.K = K := by rfl)
    (hs : starEach [e, e2] X.env = (false, eval e X.env) :: starEach [e2] X.env := by rfl) (hpl : (backTo pos (starEach [e2] X.env)).any (·.1) = false := by rfl) :
    PI X (.Tuple elts kk tpos) (.Call (.Name "zip" p) [e, e2] [] pos) (iZipM K ta) := by
  subst hK
  refine ⟨fun pins s σ H R I h => ?_⟩
  refine Call_ (ld_blt I hg hm PyProof.Rows.boot_zip (PyProof.Rows.callWith_type1 (thn (ha.run pos pins s σ H _ I h) fun us s1 ⟨vs, H1, I1, r1, q1⟩ => ?_) hs hpl))
  have fresh5 : ∀ c, c ∈ [s1.heap.objs.size + 4, s1.heap.objs.size + 2, s1.heap.objs.size + 3, s1.heap.objs.size, s1.heap.objs.size + 1] → FpOk X pins H1 c := fun c hcm => by
    have e' : c = s1.heap.objs.size + 4 ∨ c = s1.heap.objs.size + 2 ∨ c = s1.heap.objs.size + 3 ∨ c = s1.heap.objs.size ∨ c = s1.heap.objs.size + 1 := by simpa using hcm
    have hle : s1.heap.objs.size ≤ c := by
      rcases e' with z | z | z | z | z
      · rw [z]; exact Nat.le_add_right _ _
      · rw [z]; exact Nat.le_add_right _ _
      · rw [z]; exact Nat.le_add_right _ _
      · rw [z]; exact Nat.le_refl _
      · rw [z]; exact Nat.le_add_right _ _
    exact I1.fpOk hle (I1.hok.fresh hle)
  rcases q1 with ⟨a, b, xs, ys, ex, q1⟩ | ⟨a, b, xs, ys, ex, hqx, hqy, q⟩
  · subst ex
    cases r1 with
    | cons r rr =>
      cases rr with
      | cons r' rr =>
        cases rr
        cases r
        cases r'
        rcases q1 with ⟨hqx, hqy, q⟩ | ⟨hqx, hqy, q⟩
        · obtain ⟨its, rv, p1, _⟩ := I1.list hqx
          obtain ⟨its2, rv2, p2, _⟩ := I1.list hqy
          refine call_zip_2 p1.isList p2.isList fun h' hz hTI hTO h1 h2 hsz hk => wpAny_pyIter_zip hz ?_
          have I2 : Inv X pins σ H1 { s1 with heap := h' } := I1.kept (t' := s1.toks) hk
          exact ⟨s1.heap.objs.size + 4, [s1.heap.objs.size + 4, s1.heap.objs.size + 2, s1.heap.objs.size + 3, s1.heap.objs.size, s1.heap.objs.size + 1], _, _, H1, rfl, I2, turn_zip (PySem.W.ktu_apart s1.heap.objs.size a b p1.lt p2.lt), ⟨hz, hTI, ⟨_, _, hTO⟩, h1, h2⟩, fresh5, q⟩
        · obtain ⟨its, rv, p1, _⟩ := I1.tuple hqx
          obtain ⟨its2, rv2, p2, _⟩ := I1.tuple hqy
          obtain ⟨o1, ho1, _⟩ := id p1
          obtain ⟨o2, ho2, _⟩ := id p2
          refine RZ.call_zipT (show s1.heap.IsTuple a its.toArray from p1) (show s1.heap.IsTuple b its2.toArray from p2) fun h' hz hTI hTO h1 h2 hsz hk => wpAny_pyIter_zip hz ?_
          have I2 : Inv X pins σ H1 { s1 with heap := h' } := I1.kept (t' := s1.toks) hk
          exact ⟨s1.heap.objs.size + 4, [s1.heap.objs.size + 4, s1.heap.objs.size + 2, s1.heap.objs.size + 3, s1.heap.objs.size, s1.heap.objs.size + 1], _, _, H1, rfl, I2, RZ.turn_zipT (PySem.W.ktu_apart s1.heap.objs.size a b (Heap.lt_size ho1) (Heap.lt_size ho2)), ⟨hz, hTI, ⟨_, _, hTO⟩, h1, h2⟩, fresh5, q⟩
  · subst ex
    cases r1 with
    | cons r rr =>
      cases rr with
      | cons r' rr =>
        cases rr
        cases r
        cases r'
        obtain ⟨its, rv, p1, _⟩ := I1.tuple hqx
        obtain ⟨its2, rv2, p2, _⟩ := I1.list hqy
        obtain ⟨o1, ho1, _⟩ := id p1
        have la : a < s1.heap.objs.size := Heap.lt_size ho1
        have lb : b < s1.heap.objs.size := p2.lt
        refine zip_begins2 (begins_tuple a its.toArray) (begins_list b its2.toArray) (show s1.heap.IsTuple a its.toArray from p1) p2.isList fun h' hz hTI hTO h1 h2 hsz hk => wpAny_pyIter_zip hz ?_
        have I2 : Inv X pins σ H1 { s1 with heap := h' } := I1.kept (t' := s1.toks) hk
        exact ⟨s1.heap.objs.size + 4, [s1.heap.objs.size + 4, s1.heap.objs.size + 2, s1.heap.objs.size + 3, s1.heap.objs.size, s1.heap.objs.size + 1], _, _, H1, rfl, I2,
          turn_zipM (Nat.ne_of_lt la) (Nat.ne_of_lt (Nat.lt_succ_of_lt lb)) (zip_sep2 (N := s1.heap.objs.size) (fp1 := [a]) (fp2 := [b]) (fun c hc => by rw [List.mem_singleton.mp hc]; exact la) (fun c hc => by rw [List.mem_singleton.mp hc]; exact lb)),
          ⟨hz, hTI, ⟨_, _, hTO⟩, ⟨_, h1, rfl, rfl⟩, ⟨_, h2, rfl, rfl⟩⟩, fresh5, q⟩
theorem walk_zipM {K : PySem.W.Frag} {a b : Addr} {xs ys : List V} {n : Nat} (hn : n = min xs.length ys.length) : Walk (Itzm K a b) n (fun H => SqT K H a xs ∧ SqL K H b ys) (YPair (fun i => xs[i]?) (fun i => ys[i]?)) := by
  subst hn
  refine ⟨fun i H hi q => ?_, fun H q => ⟨xs, ys, q.1, q.2, by omega, by omega, by omega⟩, fun i H v H' hi q y => ?_⟩
  · have k1 : i < xs.length := by omega
    have k2 : i < ys.length := by omega
    exact ⟨xs, ys, xs[i], ys[i], q.1, q.2, by simp [k1], by simp [k2]⟩
  · obtain ⟨T, x, z, e1, e2, e3, e4, e5⟩ := y
    exact ⟨T, x, z, e1, e2, e3, e4 xs q.1, e5 ys q.2⟩
section
variable {σ : L2.St} {D H : Hp} {L : Own} {K : PySem.W.Frag} {Q : VK}
def IsZM (K : PySem.W.Frag) (vs : List V) (H1 : Hp) (R : It → Hp → Prop) : Prop := IsZ K vs H1 R ∨ ∃ a b xs ys, vs = [.ref a, .ref b] ∧ SqT K H1 a xs ∧ SqL K H1 b ys ∧ R (Itzm K a b) H1
instance v_zipM {tr : TA} {R : It → Hp → Prop} : VC (iZipM K tr σ H R) (tr σ H fun vs H1 => IsZM K vs H1 R) := ⟨fun h => h⟩
instance v_zipMLL {a b : Addr} {xs ys : List V} {R : It → Hp → Prop} [S : Sx D L H] [ha : Sl K D L a xs] [hb : Sl K D L b ys] : VC (IsZM K [.ref a, .ref b] H R) (R (Itz K a b) H) := ⟨fun h => .inl (VC.pf h)⟩
instance v_zipMTT {a b : Addr} {xs ys : List V} {R : It → Hp → Prop} [S : Sx D L H] [ha : Kn D a (.tup xs)] [hb : Kn D b (.tup ys)] : VC (IsZM K [.ref a, .ref b] H R) (R (RZ.ItzT K a b) H) := ⟨fun h => .inl (VC.pf h)⟩
instance v_zipMTL {a b : Addr} {xs ys : List V} {R : It → Hp → Prop} [S : Sx D L H] [ha : Kn D a (.tup xs)] [hb : Sl K D L b ys] : VC (IsZM K [.ref a, .ref b] H R) (R (Itzm K a b) H) := ⟨fun h => .inr ⟨a, b, xs, ys, rfl, sqT S ha.pf, hb.pf.sq S, h⟩⟩
end
section
variable {H : Hp} {Q : VK}
instance v_isNn : VC (rIsN .non .non H Q) (Q (.bl true) H) := ⟨fun h => ⟨rfl, h⟩⟩
instance v_isNi {i : Int} : VC (rIsN (.int i) .non H Q) (Q (.bl false) H) := ⟨fun h => ⟨rfl, h⟩⟩
instance v_isNr {a : Addr} : VC (rIsN (.ref a) .non H Q) (Q (.bl false) H) := ⟨fun h => ⟨rfl, h⟩⟩
instance v_isNb {b : Bool} : VC (rIsN (.bl b) .non H Q) (Q (.bl false) H) := ⟨fun h => ⟨rfl, h⟩⟩
instance v_notNn : VC (rNotN .non .non H Q) (Q (.bl false) H) := ⟨fun h => ⟨rfl, h⟩⟩
instance v_notNi {i : Int} : VC (rNotN (.int i) .non H Q) (Q (.bl true) H) := ⟨fun h => ⟨rfl, h⟩⟩
instance v_notNr {a : Addr} : VC (rNotN (.ref a) .non H Q) (Q (.bl true) H) := ⟨fun h => ⟨rfl, h⟩⟩
instance v_notNb {b : Bool} : VC (rNotN (.bl b) .non H Q) (Q (.bl true) H) := ⟨fun h => ⟨rfl, h⟩⟩
instance v_mulXI {i j : Int} : VC (rI CMulX (fun i j => .int (i * j)) (.int i) (.int j) H Q) (CMulX i j ∧ Q (.int (i * j)) H) := ⟨fun k => ⟨i, j, rfl, rfl, k⟩⟩
end
theorem Rds.push {K : PySem.W.Frag} {D : Hp} {L : Own} {a : Addr} {xs : List V} {x : Addr × HO} (h : Rds K D L a xs) : Rds K D (x :: L) a xs := by
  rcases h with ⟨n, h⟩ | h
  · exact .inl ⟨n + 1, by simpa using h⟩
  · exact .inr h
theorem Rds.upD {K : PySem.W.Frag} {D D' : Hp} {L : Own} {a : Addr} {xs : List V} {x : Addr × HO} (e : Sm D D') (h : Rds K D L a xs) : Rds K D' (x :: L) a xs := by
  rcases h with ⟨n, h⟩ | h
  · exact .inl ⟨n + 1, by simpa using h⟩
  · exact .inr (e.e.seq h)
/-- read lists stay so -/
instance (priority := low) slPush {K : PySem.W.Frag} {D : Hp} {L : Own} {a : Addr} {xs : List V} {x : Addr × HO} [h : Sl K D L a xs] : Sl K D (x :: L) a xs := ⟨h.pf.push⟩
section
variable {H : Hp} {Q : VK} {K : PySem.W.Frag} {D : Hp} {L : Own}
theorem r_eqB {b c : Bool} (k : Q (.bl (b == c)) H) : rEqX K (.bl b) (.bl c) H Q := .inl ⟨rfl, by
  have e : decide (V.bl b = V.bl c) = (b == c) := by cases b <;> cases c <;> decide
  rw [e]; exact k⟩
theorem r_neB {b c : Bool} (k : Q (.bl (b != c)) H) : rNeX K (.bl b) (.bl c) H Q := .inl ⟨rfl, by
  have e : (!decide (V.bl b = V.bl c)) = (b != c) := by cases b <;> cases c <;> decide
  rw [e]; exact k⟩
instance v_eqTt : VC (rEqX K (.bl true) (.bl true) H Q) (Q (.bl true) H) := ⟨fun h => r_eqB h⟩
instance v_eqFf : VC (rEqX K (.bl false) (.bl false) H Q) (Q (.bl true) H) := ⟨fun h => r_eqB h⟩
instance v_eqTf : VC (rEqX K (.bl true) (.bl false) H Q) (Q (.bl false) H) := ⟨fun h => r_eqB h⟩
instance v_eqFt : VC (rEqX K (.bl false) (.bl true) H Q) (Q (.bl false) H) := ⟨fun h => r_eqB h⟩
instance v_neTt : VC (rNeX K (.bl true) (.bl true) H Q) (Q (.bl false) H) := ⟨fun h => r_neB h⟩
instance v_neFf : VC (rNeX K (.bl false) (.bl false) H Q) (Q (.bl false) H) := ⟨fun h => r_neB h⟩
instance v_neTf : VC (rNeX K (.bl true) (.bl false) H Q) (Q (.bl true) H) := ⟨fun h => r_neB h⟩
instance v_neFt : VC (rNeX K (.bl false) (.bl true) H Q) (Q (.bl true) H) := ⟨fun h => r_neB h⟩
instance (priority := low) v_eqBr {b : Bool} : VC (rEqX K (.bl b) (.bl b) H Q) (Q (.bl true) H) := ⟨fun h => r_eqB (by rw [beq_self_eq_true]; exact h)⟩
end
theorem Rdl.rds {K : PySem.W.Frag} {D : Hp} {L : Own} {a : Addr} {xs : List V} (h : Rdl D L a xs) : Rds K D L a xs := by
  rcases h with h | h
  · exact .inl h
  · exact .inr (.of h)
theorem Rdl.push {D : Hp} {L : Own} {a : Addr} {xs : List V} {x : Addr × HO} (h : Rdl D L a xs) : Rdl D (x :: L) a xs := by
  rcases h with ⟨n, h⟩ | h
  · exact .inl ⟨n + 1, by simpa using h⟩
  · exact .inr h
instance (priority := low) mlPush {D : Hp} {L : Own} {a : Addr} {xs : List V} {x : Addr × HO} [h : Ml D L a xs] : Ml D (x :: L) a xs := ⟨h.pf.push⟩
theorem Rdl.up {D D' : Hp} {L : Own} {a : Addr} {xs : List V} (e : Sm D D') (h : Rdl D L a xs) : Rdl D' L a xs := by
  rcases h with h | h
  · exact .inl h
  · exact .inr (e.e _ _ h)
instance (priority := low) mlUp {D D' : Hp} {L : Own} {a : Addr} {xs : List V} [s : Sm D D'] [h : Ml D L a xs] : Ml D' L a xs := ⟨h.pf.up s⟩
/-- a read list is a list -/
instance (priority := low) slMl {K : PySem.W.Frag} {D : Hp} {L : Own} {a : Addr} {xs : List V} [h : Ml D L a xs] : Sl K D L a xs := ⟨h.pf.rds⟩
end Fk

namespace Fk
open PySem PySem.Spec PyProof.Rows L2
/-! ## a tuple not at all; rows of truths -/
theorem tupMul0 (l : Addr) (its : Array Value) (n : Nat) (dd : Option Addr) (sl : Array (Option Value)) (u : Tok) (hi : its.isEmpty = false) :
    Meets (Builtin.«tuple.__mul__» ⟨[.ref l, .int 0 u], []⟩) (fun _ R s => s.heap.get? l = some { cls := .type "tuple", dict := dd, data := .seq its n, slots := sl } ∧
      R (.ok (.ret (Value.ref s.heap.objs.size))) { s with heap := s.heap.push { cls := Value.type "tuple", data := Data.seq #[] }, toks := s.toks }) :=
  .of_wp fun prog w A R s h => by
    obtain ⟨hp, g, d, tk, os⟩ := s
    obtain ⟨hl, h⟩ := h
    have f1 := AutoSeq1.idx_int
    have c1 : (its.isEmpty || (0 : Int) == 1) = false := by rw [hi]; rfl
    have c2 : (decide ((0 : Int) ≤ 0) || its.isEmpty) = true := by simp
    wp_walk using wpAny_loadPart' hl
    repeat (first
      | (refine wpAny_ite_false (decide_eq_false (by rw [c1]; exact Bool.false_ne_true)) ?_; wp_walk using wpAny_loadPart' hl)
      | (refine wpAny_ite_true (decide_eq_true (by rw [c2])) ?_; wp_walk using wpAny_loadPart' hl)
      | (refine wpAny_ite_false (decide_eq_false (by decide)) ?_; wp_walk using wpAny_loadPart' hl))
    all_goals first | exact ⟨_, rfl, h⟩ | trace_state
def rRep0 (K : PySem.W.Frag) : R2 := fun x y H Q => ∃ l xs, x = .ref l ∧ y = .int 0 ∧ SqT K H l xs ∧ xs ≠ [] ∧ ∀ p, H p = none → Q (.ref p) (upd H p (.tup []))
section
variable {X : Cx}
theorem op_rep0 : OpR X (binaryOp .Mult) (rRep0 X.K) := by
  intro pins s σ H x y v u Q I rx ry h
  obtain ⟨l, xs, rfl, rfl, hT, hne, q⟩ := h
  cases rx
  obtain ⟨t, rfl⟩ := ry
  obtain ⟨its, r, ⟨⟨cls, dd, data, sl⟩, ho, hc, n, hd⟩, hs⟩ := I.tuple hT
  simp only at hc hd
  subst hc hd
  have hle : its.length = xs.length := r.length.symm
  have hi : its.toArray.isEmpty = false := by
    cases its with
    | nil => exact absurd (List.eq_nil_of_length_eq_zero hle.symm) hne
    | cons a b => rfl
  refine wpAny_binaryOp_repeat_ref (T := "tuple") (U := "int") (by decide) ⟨_, ho, rfl⟩ (fun s' => typeIs_int s' 0 t)
    noFill_tuple_mul F.fills_int_mul F.slot_int_rmul repeat_tuple F.slot_int_index.lookup ?_
  refine call_meets F.slot_int_rmul (typeIs_int s 0 t) F.entry_int_rmul (F.args_int_rmul_2 _ _)
    (int_rmul_tuple 0 t l its.toArray n dd sl) ⟨ho, rfl, ⟨_, ho, rfl⟩, ?_⟩
  refine call_meets F.slot_tuple_mul ⟨_, ho, rfl⟩ F.entry_tuple_mul (F.args_tuple_mul_2 _ _) (tupMul0 l its.toArray n dd sl t hi) ⟨ho, ?_⟩
  refine ⟨.ref s.heap.objs.size, _, I.laid (t' := s.toks) (o := .tup []) (fun b ob q => Heap.get?_push_of_some _ q) (Nat.le_refl _) ?_, rfl, q _ (I.hok.fresh (Nat.le_refl _))⟩
  exact ⟨Nat.zero_le _, [], .nil, IsTup.new _ _⟩
def rMulV (K : PySem.W.Frag) : R2 := fun x y H Q => rMulY K x y H Q ∨ rRep0 K x y H Q
theorem opMulV : OpR X (binaryOp .Mult) (rMulV X.K) := OpR.or opMulY op_rep0
end
section
variable {σ : L2.St} {D H : Hp} {L : Own} {K : PySem.W.Frag} {Q : VK}
instance v_mulVI {i j : Int} : VC (rMulV K (.int i) (.int j) H Q) (MulOk i j ∧ Q (.int (i * j)) H) := ⟨fun h => .inl (VC.pf h)⟩
instance v_mulVL {a : Addr} {x : V} {n : Int} [S : Sx D L H] [ha : Ml D L a [x]] : VC (rMulV K (.ref a) (.int n) H Q) ((-1000000 ≤ n ∧ n ≤ 1000000) ∧ ∀ p H', Sx D ((p, .lst (List.replicate n.toNat x)) :: L) H' → Q (.ref p) H') := ⟨fun h => .inl (VC.pf h)⟩
instance v_mulVT {a : Addr} {x : V} {n : Int} [S : Sx D L H] [ha : Kn D a (.tup [x])] : VC (rMulV K (.ref a) (.int n) H Q) ((0 ≤ n ∧ n ≤ 1000) ∧ ∀ p D' H', Sx D' L H' → Sm D D' → Kn D' p (.tup (List.replicate n.toNat x)) → Q (.ref p) H') := ⟨fun h => by
  by_cases c : n = 0
  · subst c
    exact .inr ⟨a, [x], rfl, rfl, sqT S ha.pf, by simp, fun p hp => h.2 p _ _ (S.fix hp) ⟨same_upd (S.dH.free hp)⟩ ⟨upd_same⟩⟩
  · exact .inl (VC.pf ⟨⟨by omega, h.1.2⟩, h.2⟩)⟩
end
/-- tuples of truths -/
def TbA (D : Hp) (us : List V) (bss : List (List Bool)) : Prop := us.length = bss.length ∧ ∀ (i : Nat) (u : V) (bs : List Bool), us[i]? = some u → bss[i]? = some bs → ∃ b, u = .ref b ∧ Kn D b (.tup (bs.map V.bl))
theorem TbA.nil {D : Hp} : TbA D [] [] := ⟨rfl, fun i u bs h => by simp at h⟩
theorem TbA.up {D D' : Hp} {us : List V} {bss : List (List Bool)} (e : Sm D D') (h : TbA D us bss) : TbA D' us bss := ⟨h.1, fun i u bs h1 h2 => by
  obtain ⟨b, e1, k⟩ := h.2 i u bs h1 h2
  exact ⟨b, e1, ⟨e.e _ _ k.pf⟩⟩⟩
theorem TbA.app {D : Hp} {us ws : List V} {bss css : List (List Bool)} (h : TbA D us bss) (k : TbA D ws css) : TbA D (us ++ ws) (bss ++ css) := by
  refine ⟨by rw [List.length_append, List.length_append, h.1, k.1], fun i u bs h1 h2 => ?_⟩
  by_cases c : i < us.length
  · rw [List.getElem?_append_left c] at h1
    rw [List.getElem?_append_left (by rw [← h.1]; exact c)] at h2
    exact h.2 i u bs h1 h2
  · rw [List.getElem?_append_right (by omega)] at h1
    rw [List.getElem?_append_right (by rw [← h.1]; omega)] at h2
    rw [← h.1] at h2
    exact k.2 _ u bs h1 h2
theorem TbA.one {D : Hp} {b : Addr} {bs : List Bool} (k : Kn D b (.tup (bs.map V.bl))) : TbA D [.ref b] [bs] := ⟨rfl, fun i u cs h1 h2 => by
  cases i with
  | zero =>
    simp at h1 h2
    subst h1 h2
    exact ⟨b, rfl, k⟩
  | succ i => simp at h1⟩
theorem TbA.rep {D : Hp} {b : Addr} {bs : List Bool} (k : Kn D b (.tup (bs.map V.bl))) (n : Nat) : TbA D (List.replicate n (.ref b)) (List.replicate n bs) := ⟨by rw [List.length_replicate, List.length_replicate], fun i u cs h1 h2 => by
  have e1 := (List.mem_replicate.mp (List.mem_of_getElem? h1)).2
  have e2 := (List.mem_replicate.mp (List.mem_of_getElem? h2)).2
  subst e1 e2
  exact ⟨b, rfl, k⟩⟩
end Fk

namespace Fk
open PySem PySem.Spec PyProof.Rows L2
/-! ## errors -/
/-- a class of the text as a value -/
structure ClC (K : PySem.W.Frag) (mg : Str → Option Value) (x : Str) (C : Addr) : Prop where
  ns : PySem.W.nsIn K mainGlobals x = some (some (.ref C))
  g : mg x = some (.ref C)
/-- .. an error of it can be made with a text, and raised -/
structure RzC (K : PySem.W.Frag) (C : Addr) : Prop where
  kp : PySem.W.keepIn K (.ref C) = true
  ex : PySem.W.excIn K C [.type "ValueError", .type "Exception", .type "BaseException", .type "object"] "ValueError.__new__" = true
  b : PySem.W.subIn K (.ref C) (.type "BaseException") = some true
  t : PySem.W.typeIn K (.ref C) = some (.type "type")
def tRz (W : WX) (C : Addr) : TS := fun _ σ H => W (.ref C) none σ H
theorem ps_rz {X : Cx} {W : WX} {C : Addr} {x m : Str} {j : Nat} {p p2 pos pos2 : Pos} (k : ClC X.K X.mg x C) (R : RzC X.K C) (hg : Gl X x) (tk : Takes X W) (hc : X.calm = true := by rfl) (hdb : (x == ("__debug__" : Str)) = false := by decide) :
    PS X (.Raise (some (.Call (.Name x p) [.Constant (.str m) j p2] [] pos)) none pos2) (tRz W C) :=
  ps_raise hc tk (pmk_own PySem.F.excBase_ValueError R.ex k.g R.kp (raises_own R.b R.t) hg hdb)
theorem pe_clS {X : Cx} {W : WX} {x : Str} {k j : Nat} {ps : List Str} {sp : Sp} {p pos : Pos} {e : Expr} {es : List Expr} {t : TA} (C : Cl X.prog X.w X.K X.mg X.base (L2.CX X.prog X.w) k x ps sp) (hr : Room j X.A) (hk : k ≤ j) (hg : Gl X x) (tk : Takes X W)
    (ha : PA X (e :: es) t) (hdb : (x == ("__debug__" : Str)) = false := by decide) (he : starEach (e :: es) X.env = (false, eval e X.env) :: starEach es X.env := by rfl) (hpl : (backTo pos (starEach es X.env)).any (·.1) = false := by rfl) :
    PE X (.Call (.Name x p) (e :: es) [] pos) (tCallS sp (WE W) t) := by
  obtain ⟨f, fd, F, hm, kp, hb⟩ := C.ex
  exact pe_callS F (hr.mono hk) hg hm kp hb (passAt tk) ha hdb he hpl
/-- a def that never raises, among those that may -/
theorem FnOk.toX {P : Program} {w : World} {K : PySem.W.Frag} {mg : Str → Option Value} {base : Heap} {k : Nat} {f : Addr} {fd : FuncData} {ps : List Str} {sp : Sp} (F : FnOk P w K mg base CX0 k f fd ps sp) :
    FnOk P w K mg base (L2.CX P w) k f fd ps (fun vs H Q _ => sp vs H Q E0) :=
  ⟨fun vs H Q E q => F.len vs H Q E0 q, fun A outer s H args us vs Q E hr he hb hv hs => codeAny_mono (F.run A outer s H args us vs Q E0 hr he hb hv hs) fun r s' h => by
    cases r with
    | error e => exact False.elim h
    | ok u => cases u <;> exact h⟩
theorem FnOk.join {P : Program} {w : World} {K : PySem.W.Frag} {mg : Str → Option Value} {base : Heap} {k j n : Nat} {f : Addr} {fd : FuncData} {ps : List Str} {sp sp2 : Sp} (F : FnOk P w K mg base CX0 k f fd ps sp) (G : FnOk P w K mg base (L2.CX P w) j f fd ps sp2) (hk : k ≤ n) (hj : j ≤ n) :
    FnOk P w K mg base (L2.CX P w) n f fd ps (fun vs H Q E => sp vs H Q E0 ∨ sp2 vs H Q E) :=
  ⟨fun vs H Q E q => by
    rcases q with q | q
    · exact F.len vs H Q E0 q
    · exact G.len vs H Q E q, fun A outer s H args us vs Q E hr he hb hv hs => by
    rcases hs with hs | hs
    · exact (FnOk.toX F).run A outer s H args us vs Q E (hr.mono hk) he hb hv hs
    · exact G.run A outer s H args us vs Q E (hr.mono hj) he hb hv hs⟩
section
variable {σ : L2.St} {D H : Hp} {L : Own} {K : PySem.W.Frag} {Q : VK}
instance v_rz {W : WX} {C : Addr} {Es : Ends} : VC (tRz W C Es σ H) (W (.ref C) none σ H) := ⟨fun h => h⟩
instance v_callS {sp : Sp} {E : L2.St → XK} {tr : TA} : VC (tCallS sp E tr σ H Q) (tr σ H fun vs H1 => sp vs H1 Q (E σ)) := ⟨fun h => h⟩
end
/-! isinstance of the caught error -/
def rIsES (K : PySem.W.Frag) (a : Addr) (cls : Value) (d : Option Addr) : List V → Hp → VK → Prop := fun xs H Q => ∃ (D : Addr), cls = .ref D ∧ d = none ∧ ExcC K D ∧
  ((∃ (c : V) (cv : Value) (b : Bool), xs = [.ref a, c] ∧ ClsV c cv ∧ PySem.W.kitOne K (.ref D) cv = some b ∧ Q (.bl b) H) ∨
   ∃ (tp : Addr) (cs : List V) (us : List Value) (b : Bool), xs = [.ref a, .ref tp] ∧ H tp = some (.tup cs) ∧ Paired ClsV cs us ∧ PySem.W.kitAny K (.ref D) us = some b ∧ Q (.bl b) H)
theorem call_isES {X : Cx} {a : Addr} {oe : Obj} {cls : Value} {d : Option Addr} {pn : List (Addr × Obj)} (hz : Zc cls d oe) (hf : ∃ vs, oe.data = .fields vs) : CallR (X.suite a ((a, oe) :: pn)) (.builtin "isinstance") (rIsES X.K a cls d) := by
  intro pins s σ H xs us Q I r h
  obtain ⟨D, rfl, rfl, C, h⟩ := h
  rcases h with ⟨c, cv, b, rfl, hcv, e, q⟩ | ⟨tp, cs, ws, b, rfl, hT, kp, e, q⟩
  · exact call_isE C hz hf pins s σ H _ us Q I r ⟨c, cv, b, rfl, fun u ru => hcv.eq ru, e, q⟩
  · obtain ⟨u1, u2, rfl, r1, r2⟩ := vals2 r
    cases (show u1 = Value.ref a from r1)
    cases (show u2 = Value.ref tp from r2)
    obtain ⟨hget, _⟩ := I.pin (a, oe) (List.mem_append.mpr (.inl List.mem_cons_self))
    obtain ⟨vs, hv⟩ := hf
    have J : PySem.W.InstAt s.heap a oe D none := by
      obtain ⟨oc, od, oda, osl⟩ := oe
      obtain ⟨h1, h2⟩ := hz
      dsimp only at h1 h2 hv
      subst h1 h2 hv
      exact ⟨hget, rfl, rfl, trivial⟩
    obtain ⟨_, its, rv, o, h1, h2, n, h3⟩ := (show ObjOk X.prog X.w H s.heap tp (.tup cs) from I.hok tp _ hT)
    have e3 := ClsV.all kp rv
    subst e3
    obtain ⟨oc, od, dt, sl⟩ := o
    simp only at h2 h3
    subst h2 h3
    exact PySem.W.kia_tup (PySem.W.handS_kitx_exc C.hg C.hk C.hs C.hd C.ha C.hn C.ht C.hm) I.kIn J h1 e (fun z => nomatch z) fun tk => ⟨.bl b, H, I.kept (t' := tk) fun _ _ z => z, rfl, q⟩
class ExC (K : PySem.W.Frag) (D : Addr) : Prop where
  pf : ExcC K D
class KtO (K : PySem.W.Frag) (D : Addr) (c : V) (b : outParam Bool) : Prop where
  pf : ∃ cv, ClsV c cv ∧ PySem.W.kitOne K (.ref D) cv = some b
class KtA (K : PySem.W.Frag) (D : Addr) (cs : List V) (b : outParam Bool) : Prop where
  pf : ∃ us, Paired ClsV cs us ∧ PySem.W.kitAny K (.ref D) us = some b
theorem KtO.own {K : PySem.W.Frag} {D C : Addr} {b : Bool} (h : PySem.W.kitOne K (.ref D) (.ref C) = some b) : KtO K D (.ref C) b := ⟨_, .own C, h⟩
theorem KtO.ty {K : PySem.W.Frag} {D : Addr} {n : String} {b : Bool} (h : PySem.W.kitOne K (.ref D) (.type n) = some b) : KtO K D (.ty n) b := ⟨_, .ty n, h⟩
instance kta0 {K : PySem.W.Frag} {D : Addr} : KtA K D [] false := ⟨[], .nil, rfl⟩
instance ktaF {K : PySem.W.Frag} {D : Addr} {c : V} {cs : List V} {b : Bool} [h : KtO K D c false] [t : KtA K D cs b] : KtA K D (c :: cs) b := by
  obtain ⟨cv, h1, h2⟩ := h.pf
  obtain ⟨us, t1, t2⟩ := t.pf
  refine ⟨cv :: us, .cons h1 t1, ?_⟩
  unfold PySem.W.kitAny
  rw [h2]
  exact t2
instance ktaT {K : PySem.W.Frag} {D : Addr} {c : V} {cs : List V} {b : Bool} [h : KtO K D c true] [t : KtA K D cs b] : KtA K D (c :: cs) true := by
  obtain ⟨cv, h1, h2⟩ := h.pf
  obtain ⟨us, t1, t2⟩ := t.pf
  refine ⟨cv :: us, .cons h1 t1, ?_⟩
  unfold PySem.W.kitAny
  rw [h2]
section
variable {σ : L2.St} {D0 H : Hp} {L : Own} {K : PySem.W.Frag} {Q : VK}
instance v_ise1 {a D : Addr} {c : V} {b : Bool} [x : ExC K D] [k : KtO K D c b] : VC (rIsES K a (.ref D) none [.ref a, c] H Q) (Q (.bl b) H) := ⟨fun q => by
  obtain ⟨cv, h1, h2⟩ := k.pf
  exact ⟨D, rfl, rfl, x.pf, .inl ⟨c, cv, b, rfl, h1, h2, q⟩⟩⟩
instance v_iseT {a D tp : Addr} {cs : List V} {b : Bool} [S : Sx D0 L H] [kt : Kn D0 tp (.tup cs)] [x : ExC K D] [k : KtA K D cs b] : VC (rIsES K a (.ref D) none [.ref a, .ref tp] H Q) (Q (.bl b) H) := ⟨fun q => by
  obtain ⟨us, h1, h2⟩ := k.pf
  exact ⟨D, rfl, rfl, x.pf, .inr ⟨tp, cs, us, b, rfl, S.dH _ _ kt.pf, h1, h2, q⟩⟩⟩
end
/-! kinds -/
class KnC (K : PySem.W.Frag) (H : Hp) (v : V) : Prop where
  pf : ∃ (t : String) (b1 b2 : Bool), TyX K H v (.type t) ∧ kitB t "int" = some b1 ∧ kitB t "bool" = some b2
/-- what is no whole number from lo to hi -/
inductive OddV (lo hi : Int) (D : Hp) : V → Prop
  | int (i : Int) (h : i < lo ∨ hi < i) : OddV lo hi D (.int i)
  | bl (b : Bool) : OddV lo hi D (.bl b)
  | non : OddV lo hi D .non
  | str (z : Str) : OddV lo hi D (.str z)
  | tup (a : Addr) (xs : List V) (h : D a = some (.tup xs)) : OddV lo hi D (.ref a)
  | lst (a : Addr) (xs : List V) (h : D a = some (.lst xs)) : OddV lo hi D (.ref a)
  | dic (a : Addr) (kvs : List (Key × V)) (h : D a = some (.dK kvs)) : OddV lo hi D (.ref a)
theorem OddV.up {lo hi : Int} {D D' : Hp} {v : V} (e : Same D D') (h : OddV lo hi D v) : OddV lo hi D' v := by
  cases h with
  | int i h => exact .int i h
  | bl b => exact .bl b
  | non => exact .non
  | str z => exact .str z
  | tup a xs h => exact .tup a xs (e _ _ h)
  | lst a xs h => exact .lst a xs (e _ _ h)
  | dic a kvs h => exact .dic a kvs (e _ _ h)
instance tyDk {K : PySem.W.Frag} {D H : Hp} {L : Own} {a : Addr} {kvs : List (Key × V)} [S : Sx D L H] [k : Kn D a (.dK kvs)] : TyC K H (.ref a) "dict" := ⟨.base (.dK (S.dH _ _ k.pf))⟩
/-- isinstance(v, int) and not isinstance(v, bool) -/
def whB (t : String) : Bool := (kitB t "int" == some true) && !(kitB t "bool" == some true)
/-! new dicts -/
section
variable {σ : L2.St} {D H : Hp} {L : Own} {K : PySem.W.Frag} {Q : VK}
instance v_dnew [S : Sx D L H] : VC (tDNewK σ H Q) (∀ p H', Sx D ((p, .dK []) :: L) H' → Q (.ref p) H') := ⟨fun h p hp => h p _ (S.new hp)⟩
end
theorem bb_ValueError : bootBuiltins "ValueError" = some (.type "ValueError") := by decide +kernel
/-! texts -/
section
variable {σ : L2.St} {D H : Hp} {L : Own} {K : PySem.W.Frag} {Q : VK}
instance v_eqSr {z : Str} : VC (rEqX K (.str z) (.str z) H Q) (Q (.bl true) H) := ⟨fun h => .inl ⟨rfl, by rw [decide_eq_true rfl]; exact h⟩⟩
instance v_neSr {z : Str} : VC (rNeX K (.str z) (.str z) H Q) (Q (.bl false) H) := ⟨fun h => .inl ⟨rfl, by rw [decide_eq_true rfl]; exact h⟩⟩
theorem ra_strs : ∀ zs : List Str, RpAll D (zs.map V.str) (zs.map PyData.str)
  | [] => .nil
  | z :: zs => .cons (.str z) (ra_strs zs)
theorem eqv_strs : ∀ zs : List Str, PyData.eqvAll (zs.map PyData.str) (zs.map PyData.str) = true
  | [] => by simp [PyData.eqvAll]
  | z :: zs => by
    rw [List.map_cons]
    simp only [PyData.eqvAll]
    rw [eqv_strs zs]
    simp [PyData.eqv]
end
end Fk

namespace Fk
open PySem PySem.Spec PyProof.Rows L2
/-! ## list.count -/
def rCnt (K : PySem.W.Frag) : V → List V → Hp → VK → Prop := fun x xs H Q => ∃ (a : Addr) (ys : List V) (y : V), x = V.ref a ∧ xs = [y] ∧ SqL K H a ys ∧ flatV y = true ∧ ys.all flatV = true ∧ Q (.int (ys.countP fun z => eqV z y : Nat)) H
theorem countP_eqU {y : V} : ∀ {ys : List V} {us : List Value}, Vals ys us → ys.all flatV = true → us.countP (eqU y) = ys.countP fun z => eqV z y
  | _, _, .nil, _ => rfl
  | z :: ys, u :: us, .cons r t, f => by
    rw [List.all_cons, Bool.and_eq_true] at f
    rw [List.countP_cons, List.countP_cons, countP_eqU t f.2, eqU_of r f.1]
section
variable {X : Cx}
theorem mt_cnt : MtR X "list.count" (rCnt X.K) := by
  intro pins s σ H x xs v us Q I rx rxs h
  obtain ⟨a, ys, y, rfl, rfl, hs, fy, fys, q⟩ := h
  cases rx
  cases rxs with
  | cons ry rt =>
    rename_i uy ut
    cases rt
    obtain ⟨its, rv, ⟨⟨cls, dd, data, sl⟩, n, ho, hc, hdn, hd⟩, hlen⟩ := I.list hs
    simp only at hc hd
    subst hc hd
    refine call_meets PySem.F.slot_list_count ⟨_, ho, rfl⟩ PySem.F.entry_list_count (PySem.F.args_list_count_2 _ _) (SeqAt.list_countAt a its.toArray n dd sl uy (eqU y)) ⟨ho, fun u' hu' => mem_eqAt ry fy rv fys u' (by simpa using hu'), ?_⟩
    refine ⟨.int (ys.countP fun z => eqV z y : Nat), H, I.tok _, ⟨s.toks, ?_⟩, q⟩
    rw [show its.toArray.toList = its from rfl, countP_eqU rv fys]
end
/-! ## defs that are handed the caught error -/
structure FnP (P : Program) (w : World) (K : PySem.W.Frag) (mg : Str → Option Value) (base : Heap) (CX : CXT) (k : Nat) (f : Addr) (fd : FuncData) (ps : List Str) (sp : Addr → Value → Option Addr → Sp) : Prop where
  len : ∀ a cls d vs H Q E, sp a cls d vs H Q E → vs.length = ps.length
  run : ∀ (A : Around) (outer : List Env) (s : Shared) (H : Hp) (args : Args) (us : List Value) (vs : List V) (Q : VK) (E : XK) (p : Addr × Obj) (cls : Value) (d : Option Addr), L2H.RoomH k A → L2H.PinOk outer H s p → Zc cls d p.2 → (∃ vs, p.2.data = .fields vs) → Env0 P w K mg base A outer s H → BindsTo s fd args (ps.zip us) → Vals vs us → sp p.1 cls d vs H Q E →
    codeAny (model P w) A (.call (.ref f) args) (CR CX outer P w H s Q E) s
theorem Fun.okP {P : Program} {w : World} {K : PySem.W.Frag} {mg : Str → Option Value} {base : Heap} {x qual : Str} {st : Stmt} {f : Addr} {fd : FuncData} {N ps : List Str} {k : Nat} {sp : Addr → Value → Option Addr → Sp} (F : Fun K x qual st f fd) (S : FnScope N ps (defScope st))
    (len : ∀ a cls d vs H Q E, sp a cls d vs H Q E → vs.length = ps.length)
    (hbody : ∀ (cdv : Value) (A : Around) (outer : List Env) (s : Shared) (H : Hp) (vs : List V) (Q : VK) (E : XK) (p : Addr × Obj) (cls : Value) (d : Option Addr), L2H.RoomH k (A.deeper (envOfC qual (defScope st) s.heap.objs.size f cdv)) → Zc cls d p.2 → (∃ vs, p.2.data = .fields vs) → sp p.1 cls d vs H Q E →
      ∃ t, PSs (L2H.cxH CX0 P w K mg base N qual (defScope st) f cdv A outer s H E p) (defBody st) t ∧ t { nx := fun _ H' => Q .non H', rt := Q } (start N vs) H) : FnP P w K mg base CX0 (k + 1) f fd ps sp := by
  obtain ⟨oc, od, kV, doc, pm, an, cdv, ct, osl, rfl, lk, hcd⟩ := F.ex
  refine ⟨len, fun A outer s H args us vs Q E p cls d hr hpin hz hf e0 hb r hsp => ?_⟩
  have hl := len _ _ _ _ _ _ _ hsp
  have KX : K.In s.heap := e0.mod.kin.keeps fun b o e => (e0.bs b o e).1
  have lim : s.heap.NoLimit := e0.mod.nolimit.keeps fun b o e => (e0.bs b o e).1
  have hkind : ∀ y ∈ ps.zip us, (defScope st).names.lookup y.1 = some .local ∨ ((defScope st).names.lookup y.1 = some .cell ∧ ((cellsFrom (s.heap.objs.size + 1) (defScope st).names []).lookup y.1).isSome = true) := fun ⟨n, v⟩ hy => by
    rcases S.par n (List.of_mem_zip hy).1 with q | q
    · exact .inl q
    · exact .inr ⟨q, PySem.W.cellsFrom_some _ _ _ (.inl q)⟩
  refine codeAny_call_function hr.depth (KX _ _ lk) rfl S.co S.gen rfl (PySem.W.codeRec_of KX hcd) (hb _ _ _ _ ?_)
  refine wpAny_newFunctionEnv_cells S.kind hkind fun env he s1 x => ?_
  subst he
  refine ⟨lim.keeps x.toInCall.keep, codeAny_func ?_⟩
  obtain ⟨t, ht, hq⟩ := hbody cdv A outer s H vs Q E p cls d (hr.deeper _) hz hf hsp
  have I : Inv (L2H.cxH CX0 P w K mg base N qual (defScope st) f cdv A outer s H E p) [] (start N vs) H s1 := L2H.inv_startH S hpin e0 hl r x
  refine wpAny_mono (ht.run [] s1 (start N vs) H _ I hq) (fun fl s' hs => ?_) fun e s' hs => hs
  have fin : ∀ {σ' : L2.St} {H' : Hp} {v : V} {u : Value}, Inv (L2H.cxH CX0 P w K mg base N qual (defScope st) f cdv A outer s H E p) [] σ' H' s' → RelV v u → Q v H' → CE outer P w H s Q u s' :=
    fun {σ' H' v u} J rv q => ⟨v, H', J.os, J.bare, J.base, J.hok, rv, q⟩
  cases fl with
  | ret u =>
    obtain ⟨v, σ', H', J, rv, q⟩ := hs
    exact fin J rv q
  | next =>
    obtain ⟨σ', H', J, q⟩ := hs
    exact fin (v := V.non) (u := Value.none) J rfl q
  | brk =>
    obtain ⟨_, _, _, q⟩ := hs
    exact False.elim q
  | cont =>
    obtain ⟨_, _, _, q⟩ := hs
    exact False.elim q
structure ClP (P : Program) (w : World) (K : PySem.W.Frag) (mg : Str → Option Value) (base : Heap) (CX : CXT) (k : Nat) (x : Str) (ps : List Str) (sp : Addr → Value → Option Addr → Sp) : Prop where
  ex : ∃ (f : Addr) (fd : FuncData), FnP P w K mg base CX k f fd ps sp ∧ mg x = some (.ref f) ∧ PySem.W.keepIn K (.ref f) = true ∧ Binds K fd ps []
theorem ClP.mk' {P : Program} {w : World} {K : PySem.W.Frag} {mg : Str → Option Value} {base : Heap} {CX : CXT} {k : Nat} {x : Str} {ps : List Str} {sp : Addr → Value → Option Addr → Sp} {f : Addr} {fd : FuncData} {st : Stmt}
    (F : Fun K x x st f fd) (o : FnP P w K mg base CX k f fd ps sp) (g : mg x = some (.ref f)) (b : Binds K fd ps []) : ClP P w K mg base CX k x ps sp := ⟨f, fd, o, g, F.kp, b⟩
def tCallP (sp : Addr → Value → Option Addr → Sp) (a : Addr) (cls : Value) (d : Option Addr) (t : TA) : TE := fun σ H Q => t σ H fun vs H1 => sp a cls d vs H1 Q E0
theorem pe_clP {X : Cx} {x : Str} {k j : Nat} {ps : List Str} {sp : Addr → Value → Option Addr → Sp} {q pos : Pos} {e : Expr} {es : List Expr} {t : TA} {a : Addr} {oe : Obj} {cls : Value} {d : Option Addr} (C : ClP X.prog X.w X.K X.mg X.base CX0 k x ps sp) (hr : L2H.RoomH j X.A) (hk : k ≤ j) (hp : (a, oe) ∈ X.pn) (hz : Zc cls d oe) (hf : ∃ vs, oe.data = .fields vs) (hg : Gl X x)
    (ha : PA X (e :: es) t) (hdb : (x == ("__debug__" : Str)) = false := by decide) (he : starEach (e :: es) X.env = (false, eval e X.env) :: starEach es X.env := by rfl) (hpl : (backTo pos (starEach es X.env)).any (·.1) = false := by rfl) :
    PE X (.Call (.Name x q) (e :: es) [] pos) (tCallP sp a cls d t) := by
  obtain ⟨f, fd, F, hm, kp, hb⟩ := C.ex
  refine ⟨fun pins s σ H Q I h => ?_⟩
  refine wpAny_Call_Name_kw (ld_glob I hg hm ?_ hdb)
  refine PySem.W.callWith_K (h₀ := X.base) I.ok.mod.kin kp (thn (ha.run pos pins s σ H _ I h) fun us s1 ⟨vs, H1, I1, r, q⟩ => ⟨I1.kIn, ?_⟩) he hpl
  have hl : us.length = ps.length := by rw [← r.length]; exact F.len _ _ _ _ _ _ _ q
  have b := hb s1 us I1.kIn (by rw [List.append_nil]; exact hl)
  rw [List.append_nil] at b
  have P1 := I1.pin (a, oe) (List.mem_append_left _ hp)
  have hpin : L2H.PinOk X.stack H1 s1 (a, oe) := ⟨P1.1, P1.2.1, fun hm => (List.mem_cons.mp (I1.stkSub a hm)).elim P1.2.2.1 P1.2.2.2.1, P1.2.2.2.2⟩
  refine wpAny_call (codeAny_mono (F.run X.A X.stack s1 H1 ⟨us, []⟩ us vs Q E0 (a, oe) cls d (hr.mono hk) hpin hz hf I1.env0 b r q) fun r s' hq => ?_)
  cases r with
  | error e => exact False.elim hq
  | ok fl =>
    cases fl with
    | ret u => exact I1.after hq
    | next => exact False.elim hq
    | brk => exact False.elim hq
    | cont => exact False.elim hq
/-- isinstance of an error that is pinned -/
theorem call_isEP {X : Cx} {p : Addr × Obj} {cls : Value} {d : Option Addr} (hp : p ∈ X.pn) (hz : Zc cls d p.2) (hf : ∃ vs, p.2.data = .fields vs) : CallR X (.builtin "isinstance") (rIsES X.K p.1 cls d) := by
  intro pins s σ H xs us Q I r h
  obtain ⟨D, rfl, rfl, C, h⟩ := h
  obtain ⟨hget, _⟩ := I.pin p (List.mem_append.mpr (.inl hp))
  obtain ⟨vs, hv⟩ := hf
  obtain ⟨a, oe⟩ := p
  have J : PySem.W.InstAt s.heap a oe D none := by
    obtain ⟨oc, od, oda, osl⟩ := oe
    obtain ⟨h1, h2⟩ := hz
    dsimp only at h1 h2 hv
    subst h1 h2 hv
    exact ⟨hget, rfl, rfl, trivial⟩
  rcases h with ⟨c, cv, b, rfl, hcv, e, q⟩ | ⟨tp, cs, ws, b, rfl, hT, kp, e, q⟩
  · obtain ⟨u1, u2, rfl, r1, r2⟩ := vals2 r
    cases (show u1 = Value.ref a from r1)
    have ec := hcv.eq r2
    subst ec
    exact PySem.W.kia_one (PySem.W.handS_kitx_exc C.hg C.hk C.hs C.hd C.ha C.hn C.ht C.hm) I.kIn J e (fun z => nomatch z) fun tk => ⟨.bl b, H, I.kept (t' := tk) fun _ _ z => z, rfl, q⟩
  · obtain ⟨u1, u2, rfl, r1, r2⟩ := vals2 r
    cases (show u1 = Value.ref a from r1)
    cases (show u2 = Value.ref tp from r2)
    obtain ⟨_, its, rv, o, h1, h2, n, h3⟩ := (show ObjOk X.prog X.w H s.heap tp (.tup cs) from I.hok tp _ hT)
    have e3 := ClsV.all kp rv
    subst e3
    obtain ⟨oc, od, dt, sl⟩ := o
    simp only at h2 h3
    subst h2 h3
    exact PySem.W.kia_tup (PySem.W.handS_kitx_exc C.hg C.hk C.hs C.hd C.ha C.hn C.ht C.hm) I.kIn J h1 e (fun z => nomatch z) fun tk => ⟨.bl b, H, I.kept (t' := tk) fun _ _ z => z, rfl, q⟩
theorem room_mark {j : Nat} {A : Around} (r : Room j A) (o : Option Value) : L2H.RoomH j (A.mark o) := ⟨r.dp, r.un⟩
section
variable {σ : L2.St} {D H : Hp} {L : Own} {K : PySem.W.Frag} {Q : VK}
instance v_callP {sp : Addr → Value → Option Addr → Sp} {a : Addr} {cls : Value} {d : Option Addr} {tr : TA} : VC (tCallP sp a cls d tr σ H Q) (tr σ H fun vs H1 => sp a cls d vs H1 Q E0) := ⟨fun h => h⟩
class EvC (z y : V) (b : outParam Bool) : Prop where
  pf : eqV z y = b
instance ev1 : EvC (.bl true) (.bl true) true := ⟨rfl⟩
instance ev2 : EvC (.bl false) (.bl true) false := ⟨rfl⟩
instance ev3 : EvC (.bl true) (.bl false) false := ⟨rfl⟩
instance ev4 : EvC (.bl false) (.bl false) true := ⟨rfl⟩
class CntC (bs : List V) (y : V) (n : outParam Nat) : Prop where
  pf : (bs.countP fun z => eqV z y) = n
  fl : bs.all flatV = true
instance cnt0 {y : V} : CntC [] y 0 := ⟨rfl, rfl⟩
instance cntT {b : Bool} {bs : List V} {y : V} {n : Nat} [h : EvC (.bl b) y true] [t : CntC bs y n] : CntC (.bl b :: bs) y (n + 1) := ⟨by rw [List.countP_cons, t.pf, h.pf]; rfl, by rw [List.all_cons, t.fl]; rfl⟩
instance cntF {b : Bool} {bs : List V} {y : V} {n : Nat} [h : EvC (.bl b) y false] [t : CntC bs y n] : CntC (.bl b :: bs) y n := ⟨by rw [List.countP_cons, t.pf, h.pf]; rfl, by rw [List.all_cons, t.fl]; rfl⟩
instance cntA {bs cs : List V} {y : V} {n m : Nat} [h : CntC bs y n] [t : CntC cs y m] : CntC (bs ++ cs) y (n + m) := ⟨by rw [List.countP_append, h.pf, t.pf], by rw [List.all_append, h.fl, t.fl]; rfl⟩
class IxC (bs : List V) (y : V) (j : outParam Nat) : Prop where
  pf : ∃ z, bs[j]? = some z ∧ eqV z y = true ∧ ∀ (m : Nat) (z' : V), m < j → bs[m]? = some z' → eqV z' y = false
instance ixT {b : Bool} {bs : List V} {y : V} [h : EvC (.bl b) y true] : IxC (.bl b :: bs) y 0 := ⟨.bl b, rfl, h.pf, fun m z' hm => absurd hm (Nat.not_lt_zero _)⟩
instance ixF {b : Bool} {bs : List V} {y : V} {j : Nat} [h : EvC (.bl b) y false] [t : IxC bs y j] : IxC (.bl b :: bs) y (j + 1) := by
  obtain ⟨z, h1, h2, h3⟩ := t.pf
  refine ⟨z, by simpa using h1, h2, fun m z' hm hz' => ?_⟩
  cases m with
  | zero =>
    simp at hz'
    rw [← hz']
    exact h.pf
  | succ m => exact h3 m z' (by omega) (by simpa using hz')
instance ixA {bs cs : List V} {y : V} {j : Nat} [h : IxC bs y j] : IxC (bs ++ cs) y j := by
  obtain ⟨z, h1, h2, h3⟩ := h.pf
  have hl := (List.getElem?_eq_some_iff.mp h1).1
  exact ⟨z, by rw [List.getElem?_append_left hl]; exact h1, h2, fun m z' hm hz' => h3 m z' hm (by rw [List.getElem?_append_left (by omega)] at hz'; exact hz')⟩
instance v_cnt {a : Addr} {bs : List V} {b : Bool} {n : Nat} [S : Sx D L H] [ha : Sl K D L a bs] [c : CntC bs (.bl b) n] : VC (rCnt K (.ref a) [.bl b] H Q) (Q (.int (n : Nat)) H) := ⟨fun h => ⟨a, bs, .bl b, rfl, rfl, ha.pf.sq S, rfl, c.fl, by rw [c.pf]; exact h⟩⟩
instance v_idxB {a : Addr} {bs : List V} {b : Bool} {n j : Nat} [S : Sx D L H] [ha : Sl K D L a bs] [c : CntC bs (.bl b) n] [x : IxC bs (.bl b) j] : VC (rIdx K (.ref a) [.bl b] H Q) (Q (.int (j : Nat)) H) := ⟨fun h => by
  obtain ⟨z, h1, h2, h3⟩ := x.pf
  exact ⟨a, bs, .bl b, j, z, rfl, rfl, ha.pf.sq S, rfl, c.fl, h1, h2, h3, h⟩⟩
instance v_disp1 {k v : Int} [S : Sx D L H] : VC (tDisp [(tC (.int k), tC (.int v))] σ H Q) (∀ p H', Sx D ((p, .dK [(Sum.inl k, .int v)]) :: L) H' → Q (.ref p) H') := ⟨fun h p hp => by
  show upd H p (.dK []) p = some (.dK []) ∧ _
  refine ⟨upd_same, [(Sum.inl k, .int v)], rfl, by show 1 ≤ 15; decide, ?_⟩
  have e : upd (upd H p (.dK [])) p (.dK (mergeK [] [((Sum.inl k : Key), V.int v)])) = upd H p (.dK [(Sum.inl k, .int v)]) := by
    funext b
    unfold upd
    by_cases c : b = p
    · rw [if_pos c, if_pos c]
      rfl
    · rw [if_neg c, if_neg c, if_neg c]
  rw [e]
  exact h p _ (S.new hp)⟩
instance v_pow_10_50 : VC (rI CPow (fun i j => .int (i ^ j.toNat)) (.int 10) (.int 50) H Q) (Q (.int 100000000000000000000000000000000000000000000000000) H) := ⟨fun k => ⟨10, 50, rfl, rfl, ⟨by decide, by decide, by decide⟩, k⟩⟩
end
end Fk

namespace Fk
open PySem PySem.Spec PyProof.Rows L2
/-! ## range downwards, min of a list, clear, lists of pairs -/
section
variable {X : Cx}
def rMinL (K : PySem.W.Frag) : List V → Hp → VK → Prop := rMin K
theorem cr_minX (hc : X.calm = true) : CallR X (.builtin "min") (rMinL X.K) := cr_min hc
end
def IsR3 (vs : List V) (H : Hp) (R : It → Hp → Prop) : Prop := ∃ (i j c : Int) (n : Nat), vs = [.int i, .int j, .int c] ∧ RgC i j c n ∧ R (Itc i c n) H
section
variable {σ : L2.St} {D H : Hp} {L : Own} {K : PySem.W.Frag} {Q : VK}
instance v_rng3 {tr : TA} {R : It → Hp → Prop} : VC (iRng3 tr σ H R) (tr σ H fun vs H1 => IsR3 vs H1 R) := ⟨fun h => h⟩
instance v_r3d {i j : Int} {R : It → Hp → Prop} : VC (IsR3 [.int i, .int j, .int (-1)] H R) (((-1000000000 ≤ i ∧ i ≤ 1000000000) ∧ -1000000000 ≤ j ∧ j ≤ 1000000000) ∧ R (Itc i (-1) (i - j).toNat) H) :=
  ⟨fun h => ⟨i, j, -1, _, rfl, RgC.neg (by omega) (by omega) (by omega) (by omega), h.2⟩⟩
instance v_minL {a : Addr} {xs : List V} {ns : List Int} [S : Sx D L H] [ha : Sl K D L a xs] [c : IsC xs ns] : VC (rMinL K [.ref a] H Q) (0 < ns.length ∧ ∀ m, m ∈ ns → (∀ y, y ∈ ns → m ≤ y) → Q (.int m) H) :=
  ⟨fun h => ⟨a, ns, rfl, by rw [← c.pf]; exact ha.pf.sq S, h.1, h.2⟩⟩
instance v_clear {a : Addr} {xs : List V} {n : Nat} {L' : Own} [S : Sx D L H] [h : Fi L a (.lst xs) n] [e : Se L n (a, .lst []) L'] : VC (rClear (.ref a) [] H Q) (∀ H', Sx D L' H' → Q .non H') :=
  ⟨fun k => ⟨a, xs, rfl, rfl, S.at h.pf, k _ (by have := S.put (.lst []) h.pf; rw [e.pf] at this; exact this)⟩⟩
theorem sh_LT (xss : List (List Int)) : SeqAt.shaped (.list (xss.map tI)) = true := (Sh.list (n := 1) fun d hd => by
  obtain ⟨r, _, rfl⟩ := List.mem_map.mp hd
  exact Sh.tup (n := 0) Sh.ints).ok
theorem eqv_LT (xs ys : List (List Int)) : PyData.eqv (.list (xs.map tI)) (.list (ys.map tI)) = decide (xs = ys) := by simp only [PyData.eqv, eqv_mapT]
theorem dpLT {a : Addr} {us : List V} {xs : List (List Int)} (S : Sx D L H) (ha : Rds K D L a us) (ra : RpAll D us (xs.map tI)) : Dp K H (.ref a) (.list (xs.map tI)) := .lst (ha.sq S) (RpAll.dp (RpAll.up S.dH ra))
theorem r_eqLT {a b : Addr} {us ws : List V} {xs ys : List (List Int)} (S : Sx D L H) (ha : Rds K D L a us) (hb : Rds K D L b ws) (ra : RpAll D us (xs.map tI)) (rb : RpAll D ws (ys.map tI)) (k : Q (.bl (decide (xs = ys))) H) : rEqX K (.ref a) (.ref b) H Q :=
  .inr ⟨_, _, dpLT S ha ra, dpLT S hb rb, sh_LT xs, sh_LT ys, by rw [eqv_LT]; exact k⟩
theorem r_neLT {a b : Addr} {us ws : List V} {xs ys : List (List Int)} (S : Sx D L H) (ha : Rds K D L a us) (hb : Rds K D L b ws) (ra : RpAll D us (xs.map tI)) (rb : RpAll D ws (ys.map tI)) (k : Q (.bl (!decide (xs = ys))) H) : rNeX K (.ref a) (.ref b) H Q :=
  .inr ⟨_, _, dpLT S ha ra, dpLT S hb rb, sh_LT xs, sh_LT ys, by rw [eqv_LT]; exact k⟩
end
theorem Sx.tail' {D : Hp} {L : Own} {H : Hp} (S : Sx D L H) : Sx D [] H := ⟨S.dH, fun q hq => (nomatch hq), List.nodup_nil⟩
theorem opNeS {X : Cx} {A : Around} (h : A.units + 64 < cLine) (e : X.A.units = A.units := by rfl) : OpR X (compareOp .NotEq) (rNeX X.K) := opNe (by rw [e]; exact h)
theorem opEqS {X : Cx} {A : Around} (h : A.units + 64 < cLine) (e : X.A.units = A.units := by rfl) : OpR X (compareOp .Eq) (rEqX X.K) := opEq (by rw [e]; exact h)
theorem pe_bmS (K : PySem.W.Frag) {X : Cx} {T id : String} {name : Str} {r : V → List V → Hp → VK → Prop} {o e : Expr} {es : List Expr} {to : TE} {t : TA} {apos cpos : Pos} (pa : PlainAttrs T) (slot : Slot T name id) (hty : typeOf (.builtin id) = pure (.type "method_descriptor")) (hm : MtR X id r) (ho : PE X o to) (ha : PA X (e :: es) t)
    (hK : X.K = K := by rfl)
    (hbase : attributeBase o name X.env (eval o X.env) = eval o X.env := by rfl)
    (hfew : ((backTo cpos (starEach (e :: es) X.env)).all (fun x => !x.1) && (backToKw cpos (keywordEach [] X.env)).all (fun x => x.1.isSome)
      && decide ((e :: es).length + ([] : List Keyword).length + (if ([] : List Keyword).isEmpty then 0 else 1) < 30)) = true := by rfl)
    (hline : (apos.endLine == cpos.line) = true := by rfl) (hs : starEach (e :: es) X.env = (false, eval e X.env) :: starEach es X.env := by rfl) (hplain : (backTo cpos (starEach es X.env)).any (·.1) = false := by rfl) :
    PE X (.Call (.Attribute o name apos) (e :: es) [] cpos) (tBM K T r to t) := by
  subst hK
  exact pe_bm pa slot hty hm ho ha hbase hfew hline hs hplain
end Fk

namespace Fk
open PySem PySem.Spec PyProof.Rows L2
/-! ## in, pop(i), list(range), lists or tuples -/
section
variable {X : Cx}
def rInX (K : PySem.W.Frag) : R2 := rIn K false
theorem opInX : OpR X (compareOp .In) (rInX X.K) := op_in_seq
theorem mt_popAtX : MtR X "list.pop" rPopAt := mt_popAt
end
theorem inV_int {x : Int} : ∀ {xs : List Int}, inV (.int x) (xs.map V.int) = decide (x ∈ xs)
  | [] => by simp [inV]
  | y :: xs => by
    have ih := inV_int (x := x) (xs := xs)
    unfold inV at ih ⊢
    rw [List.map_cons, List.any_cons, ih]
    by_cases h : y = x
    · subst h
      simp [eqV]
    · have h' : ¬ x = y := fun e => h e.symm
      simp [eqV, h, h']
theorem inV_bl {x : Bool} : ∀ {xs : List Bool}, inV (.bl x) (xs.map V.bl) = decide (x ∈ xs)
  | [] => by simp [inV]
  | y :: xs => by
    have ih := inV_bl (x := x) (xs := xs)
    unfold inV at ih ⊢
    rw [List.map_cons, List.any_cons, ih]
    cases x <;> cases y <;> simp [eqV]
theorem flat_ints {xs : List Int} : (xs.map V.int).all flatV = true := by
  rw [List.all_map]
  exact List.all_eq_true.mpr fun _ _ => rfl
theorem flat_bls {xs : List Bool} : (xs.map V.bl).all flatV = true := by
  rw [List.all_map]
  exact List.all_eq_true.mpr fun _ _ => rfl
/-- a list or a tuple -/
class Ks (D : Hp) (a : Addr) (xs : outParam (List V)) : Prop where
  pf : D a = some (.lst xs) ∨ D a = some (.tup xs)
instance ksUp {D D' : Hp} {a : Addr} {xs : List V} [s : Sm D D'] [k : Ks D a xs] : Ks D' a xs := ⟨k.pf.elim (fun h => .inl (s.e _ _ h)) fun h => .inr (s.e _ _ h)⟩
theorem Sm.rfl' {D : Hp} : Sm D D := ⟨Same.refl D⟩
section
variable {σ : L2.St} {D H : Hp} {L : Own} {K : PySem.W.Frag} {Q : VK}
instance v_inL {a : Addr} {us : List V} {xs : List Int} {x : Int} [S : Sx D L H] [ha : Sl K D L a us] [c : IsC us xs] : VC (rInX K (.int x) (.ref a) H Q) (Q (.bl (decide (x ∈ xs))) H) :=
  ⟨fun k => ⟨a, us, rfl, .inl (ha.pf.sq S), rfl, by rw [c.pf]; exact flat_ints, by rw [if_neg (fun z => nomatch z), c.pf, inV_int]; exact k⟩⟩
instance v_inT {a : Addr} {us : List V} {xs : List Int} {x : Int} [S : Sx D L H] [ha : Kn D a (.tup us)] [c : IsC us xs] : VC (rInX K (.int x) (.ref a) H Q) (Q (.bl (decide (x ∈ xs))) H) :=
  ⟨fun k => ⟨a, us, rfl, .inr (sqT S ha.pf), rfl, by rw [c.pf]; exact flat_ints, by rw [if_neg (fun z => nomatch z), c.pf, inV_int]; exact k⟩⟩
instance v_inBL {a : Addr} {us : List V} {xs : List Bool} {x : Bool} [S : Sx D L H] [ha : Sl K D L a us] [c : BsC us xs] : VC (rInX K (.bl x) (.ref a) H Q) (Q (.bl (decide (x ∈ xs))) H) :=
  ⟨fun k => ⟨a, us, rfl, .inl (ha.pf.sq S), rfl, by rw [c.pf]; exact flat_bls, by rw [if_neg (fun z => nomatch z), c.pf, inV_bl]; exact k⟩⟩
instance v_inBT {a : Addr} {us : List V} {xs : List Bool} {x : Bool} [S : Sx D L H] [ha : Kn D a (.tup us)] [c : BsC us xs] : VC (rInX K (.bl x) (.ref a) H Q) (Q (.bl (decide (x ∈ xs))) H) :=
  ⟨fun k => ⟨a, us, rfl, .inr (sqT S ha.pf), rfl, by rw [c.pf]; exact flat_bls, by rw [if_neg (fun z => nomatch z), c.pf, inV_bl]; exact k⟩⟩
instance v_popA {a : Addr} {xs : List V} {n : Nat} {i : Int} {y : V} {L' : Own} [S : Sx D L H] [h : Fi L a (.lst xs) n] [c : AtC xs i y] [e : Se L n (a, .lst (xs.eraseIdx i.toNat)) L'] : VC (rPopAt (.ref a) [.int i] H Q) ((0 ≤ i ∧ i < 4611686018427387904) ∧ ∀ H', Sx D L' H' → Q y H') :=
  ⟨fun k => by
    have hp := c.pf
    unfold atI at hp
    cases ej : ixN xs.length i with
    | none => rw [ej] at hp; cases hp
    | some j =>
      rw [ej] at hp
      have hy : xs[j]? = some y := hp
      have hs := ixN_seq ej
      have hj : j = i.toNat := by
        unfold ixN at ej
        rw [if_pos k.1.1, if_pos hs.2.2.2] at ej
        exact (Option.some.inj ej).symm
      subst hj
      exact ⟨a, xs, i, i.toNat, y, rfl, rfl, S.at h.pf, by omega, by omega, hs.1, hy, k.2 _ (by have := S.put (.lst (xs.eraseIdx i.toNat)) h.pf; rw [e.pf] at this; exact this)⟩⟩
instance v_lenK {a : Addr} {xs : List V} {n : Nat} [S : Sx D L H] [ha : Ks D a xs] [l : LnC xs n] : VC (rLen K [.ref a] H Q) (Q (.int n) H) := ⟨fun h => ha.pf.elim (fun e => c_lenL S (rsD e) (by rw [l.pf]; exact h)) fun e => c_lenT S e (by rw [l.pf]; exact h)⟩
instance v_ixK {a : Addr} {xs : List V} {i : Int} {v : V} [S : Sx D L H] [ha : Ks D a xs] [h : AtC xs i v] : VC (rIx K (.ref a) (.int i) H Q) (Q v H) := ⟨fun k => ha.pf.elim (fun e => r_ixL S (rsD e) h.pf k) fun e => r_ixT S e h.pf k⟩
instance v_tupK {a : Addr} {xs : List V} [S : Sx D L H] [ha : Ks D a xs] : VC (rTupOf K [.ref a] H Q) (∀ p D' H', Sx D' L H' → Sm D D' → Kn D' p (.tup xs) → Q (.ref p) H') := ⟨fun h => ha.pf.elim (fun e => c_tupL S (rsD e) fun p D' H' e k S' => h p D' H' S' ⟨e⟩ ⟨k⟩) fun e => c_tupT S e (h a D H S Sm.rfl' ⟨e⟩)⟩
instance v_sqK {a : Addr} {xs : List V} {R : It → Hp → Prop} [S : Sx D L H] [ha : Ks D a xs] : VC (IsSq K (.ref a) H R) (∀ (J : It) (G : Hp → Prop), Walk J xs.length G (fun i H v H' => H' = H ∧ xs[i]? = some v) → (∀ D' L' H', Sx D' L' H' → Sm D D' → G H') → R J H) := ⟨fun h => ha.pf.elim (fun e => i_isL S (rsD e) (h _ _ walk_list fun D' L' H' S' s => .of (S'.dH _ _ (s.e _ _ e)))) fun e => i_isT S e (h _ _ walk_tup fun D' L' H' S' s => .of (S'.dH _ _ (s.e _ _ e)))⟩
instance v_pow_10_15 : VC (rI CPow (fun i j => .int (i ^ j.toNat)) (.int 10) (.int 15) H Q) (Q (.int 1000000000000000) H) := ⟨fun k => ⟨10, 15, rfl, rfl, ⟨by decide, by decide, by decide⟩, k⟩⟩
instance v_lstRg {te : L2.St → Hp → (Int → Int → Hp → Prop) → Prop} : VC (tLstRg te σ H Q) (te σ H fun a b H1 => RgOk a b ∧ ∀ q, H1 q = none → Q (.ref q) (upd H1 q (.lst (rgV a b)))) := ⟨fun h => h⟩
instance v_rg1 {ta : TE} {R : Int → Int → Hp → Prop} : VC (tRg1 ta σ H R) (ta σ H fun x H1 => IsI x H1 fun n H2 => R 0 n H2) := ⟨fun h => by
  refine (show ta σ H _ from ?_)
  exact h⟩
end
end Fk

namespace Fk
open PySem PySem.Spec PyProof.Rows L2
/-! ## min, max of data; dicts by int keys; remove; bit_length -/
theorem hu1 {A : Around} (h : A.units + 64 < cLine) : A.units + 1 < cLine := by omega
section
variable {X : Cx}
def rMinD (K : PySem.W.Frag) : List V → Hp → VK → Prop := fun vs H Q => ∃ (a : Addr) (us : List V) (x : PyData) (xs : List PyData), vs = [.ref a] ∧ (SqL K H a us ∨ SqT K H a us) ∧ DpAll K H us (x :: xs) ∧ PySem.W.AlikeAll (x :: xs) ∧ PyData.canLayAll0 (x :: xs) = true ∧ PyData.depthAll (x :: xs) ≤ 60 ∧
  ∀ (i : Nat) (v : V), us[i]? = some v → (x :: xs)[i]? = some (PySem.W.minD x xs) → Q v H
def rMaxD (K : PySem.W.Frag) : List V → Hp → VK → Prop := fun vs H Q => ∃ (a : Addr) (us : List V) (x : PyData) (xs : List PyData), vs = [.ref a] ∧ (SqL K H a us ∨ SqT K H a us) ∧ DpAll K H us (x :: xs) ∧ PySem.W.AlikeAll (x :: xs) ∧ PyData.canLayAll0 (x :: xs) = true ∧ PyData.depthAll (x :: xs) ≤ 60 ∧
  ∀ (i : Nat) (v : V), us[i]? = some v → (x :: xs)[i]? = some (PySem.W.maxD x xs) → Q v H
theorem lay_of : ∀ {ds : List PyData} {z : PyData}, PyData.canLayAll0 ds = true → z ∈ ds → z.canLay0 = true
  | y :: ys, z, hc, hz => by
    rw [PyData.canLayAll0, Bool.and_eq_true] at hc
    rcases List.mem_cons.mp hz with rfl | hz
    · exact hc.1
    · exact lay_of hc.2 hz
theorem data_at {h h' : Heap} {ds : List PyData} {its : List Value} {as bs : List Addr} {i : Nat} {v : Value} {d : PyData} (hr : ReadsAll h its ds as) (hc : PyData.canLayAll0 ds = true) (hd : d ∈ ds) (hv : its.toArray[i]? = some v) (hk : ∀ b o, h.get? b = some o → h'.get? b = some o) (r : Reads h' v d bs) : ds[i]? = some d := by
  have hr2 := SeqAt.readsAll_map ds its as hc hr
  have hv' : its[i]? = some v := by simpa using hv
  obtain ⟨e, he, re, hm, _⟩ := PySem.W.readsAll_at hr i v hv'
  have e0 : ds[i]? = some (ds.getD i .none) := by
    rw [List.getD_eq_getElem?_getD, List.getElem?_eq_getElem re]
    rfl
  have e1 := SeqAt.readOf_eq (lay_of hc hm) (PySem.W.reads_keeps hk he)
  have e2 := SeqAt.readOf_eq (lay_of hc hd) r
  rw [e0, ← e1, e2]
theorem minD_mem (x : PyData) : ∀ (xs : List PyData), PySem.W.minD x xs ∈ x :: xs := by
  intro xs
  have key : ∀ (xs : List PyData) (a : PyData), xs.foldl (fun a y => if PySem.W.dataLt y a then y else a) a ∈ a :: xs := by
    intro xs
    induction xs with
    | nil => exact fun a => List.mem_cons_self
    | cons y ys ih =>
      intro a
      rw [List.foldl_cons]
      have := ih (if PySem.W.dataLt y a then y else a)
      rcases List.mem_cons.mp this with e | e
      · rw [e]
        by_cases c : PySem.W.dataLt y a = true
        · rw [if_pos c]
          exact List.mem_cons_of_mem _ List.mem_cons_self
        · rw [if_neg c]
          exact List.mem_cons_self
      · exact List.mem_cons_of_mem _ (List.mem_cons_of_mem _ e)
  exact key xs x
theorem maxD_mem (x : PyData) : ∀ (xs : List PyData), PySem.W.maxD x xs ∈ x :: xs := by
  intro xs
  have key : ∀ (xs : List PyData) (a : PyData), xs.foldl (fun a y => if PySem.W.dataLt a y then y else a) a ∈ a :: xs := by
    intro xs
    induction xs with
    | nil => exact fun a => List.mem_cons_self
    | cons y ys ih =>
      intro a
      rw [List.foldl_cons]
      have := ih (if PySem.W.dataLt a y then y else a)
      rcases List.mem_cons.mp this with e | e
      · rw [e]
        by_cases c : PySem.W.dataLt a y = true
        · rw [if_pos c]
          exact List.mem_cons_of_mem _ List.mem_cons_self
        · rw [if_neg c]
          exact List.mem_cons_self
      · exact List.mem_cons_of_mem _ (List.mem_cons_of_mem _ e)
  exact key xs x
theorem vals_back {us : List V} {its : List Value} {i : Nat} {v : Value} (rv : Vals us its) (hv : its.toArray[i]? = some v) : ∃ w, us[i]? = some w ∧ RelV w v := by
  have hv' : its[i]? = some v := by simpa using hv
  have hl := (List.getElem?_eq_some_iff.mp hv').1
  have hu : i < us.length := by rw [rv.length]; exact hl
  obtain ⟨u, h1, h2⟩ := rv.get (List.getElem?_eq_getElem hu)
  rw [hv'] at h1
  cases h1
  exact ⟨_, List.getElem?_eq_getElem hu, h2⟩
theorem cr_minD (hc : X.calm = true) (hu : X.A.units + 64 < cLine) : CallR X (.builtin "min") (rMinD X.K) := by
  intro pins s σ H vs us0 Q I r h
  obtain ⟨a, us, x, xs, rfl, hq, hd, ha, hcl, hdp, q⟩ := h
  rw [Vals.ref1 r]
  rcases hq with hq | hq
  · obtain ⟨its, rv, hl, _⟩ := I.list hq
    obtain ⟨as, hr⟩ := Dp.readsAll I (x :: xs) us its hd rv
    refine PySem.W.min_list_data (I.ok.hd hc) (vs := its.toArray) hl.isList (show ReadsAll s.heap its.toArray.toList _ as from hr) ha (by omega) fun i v h' tk bs hv hr2 hk => ?_
    obtain ⟨w, hw, rw'⟩ := vals_back rv hv
    exact ⟨w, H, I.kept hk, rw', q i w hw (data_at hr hcl (minD_mem x xs) hv hk hr2)⟩
  · obtain ⟨its, rv, hl, _⟩ := I.tuple hq
    obtain ⟨as, hr⟩ := Dp.readsAll I (x :: xs) us its hd rv
    refine PySem.W.min_tuple_data (I.ok.hd hc) (vs := its.toArray) hl (show ReadsAll s.heap its.toArray.toList _ as from hr) ha (by omega) fun i v h' tk bs hv hr2 hk => ?_
    obtain ⟨w, hw, rw'⟩ := vals_back rv hv
    exact ⟨w, H, I.kept hk, rw', q i w hw (data_at hr hcl (minD_mem x xs) hv hk hr2)⟩
theorem cr_maxD (hc : X.calm = true) (hu : X.A.units + 64 < cLine) : CallR X (.builtin "max") (rMaxD X.K) := by
  intro pins s σ H vs us0 Q I r h
  obtain ⟨a, us, x, xs, rfl, hq, hd, ha, hcl, hdp, q⟩ := h
  rw [Vals.ref1 r]
  rcases hq with hq | hq
  · obtain ⟨its, rv, hl, _⟩ := I.list hq
    obtain ⟨as, hr⟩ := Dp.readsAll I (x :: xs) us its hd rv
    refine PySem.W.max_list_data (I.ok.hd hc) (vs := its.toArray) hl.isList (show ReadsAll s.heap its.toArray.toList _ as from hr) ha (by omega) fun i v h' tk bs hv hr2 hk => ?_
    obtain ⟨w, hw, rw'⟩ := vals_back rv hv
    exact ⟨w, H, I.kept hk, rw', q i w hw (data_at hr hcl (maxD_mem x xs) hv hk hr2)⟩
  · obtain ⟨its, rv, hl, _⟩ := I.tuple hq
    obtain ⟨as, hr⟩ := Dp.readsAll I (x :: xs) us its hd rv
    refine PySem.W.max_tuple_data (I.ok.hd hc) (vs := its.toArray) hl (show ReadsAll s.heap its.toArray.toList _ as from hr) ha (by omega) fun i v h' tk bs hv hr2 hk => ?_
    obtain ⟨w, hw, rw'⟩ := vals_back rv hv
    exact ⟨w, H, I.kept hk, rw', q i w hw (data_at hr hcl (maxD_mem x xs) hv hk hr2)⟩
def rMinY (K : PySem.W.Frag) : List V → Hp → VK → Prop := fun xs H Q => rMinL K xs H Q ∨ rMinD K xs H Q
theorem cr_minY (hc : X.calm = true) (hu : X.A.units + 64 < cLine) : CallR X (.builtin "min") (rMinY X.K) := CallR.or (cr_minX hc) (cr_minD hc hu)
def rMaxY (K : PySem.W.Frag) : List V → Hp → VK → Prop := fun xs H Q => rMaxL K xs H Q ∨ rMaxD K xs H Q
theorem cr_maxY (hc : X.calm = true) (hu : X.A.units + 64 < cLine) : CallR X (.builtin "max") (rMaxY X.K) := CallR.or (cr_maxX hc) (cr_maxD hc hu)
def rDivM : List V → Hp → VK → Prop := fun xs H Q => ∃ i j, xs = [.int i, .int j] ∧ CDiv i j ∧ ∀ p, H p = none → Q (.ref p) (upd H p (.tup [.int (i / j), .int (i % j)]))
theorem call_dm : CallR X (.builtin "divmod") rDivM := call_divmod
def rRemX : V → List V → Hp → VK → Prop := rRemI
theorem mt_remX : MtR X "list.remove" rRemX := mt_remove
end
def IsDG (x y : V) (H : Hp) (q : Option V → Prop) : Prop := ∃ a o, x = .ref a ∧ DGet H a y o ∧ q o
def IsDP (x y v : V) (H : Hp) (q : Hp → Prop) : Prop := ∃ a H4, x = .ref a ∧ DPut H a y v H4 ∧ q H4
theorem alike_ints {ns : List Int} : PySem.W.AlikeAll (ns.map PyData.int) := by
  refine ⟨fun x hx y hy => ?_, fun x hx => ?_⟩
  · obtain ⟨a, _, rfl⟩ := List.mem_map.mp hx
    obtain ⟨b, _, rfl⟩ := List.mem_map.mp hy
    simp [PySem.W.alike]
  · obtain ⟨a, _, rfl⟩ := List.mem_map.mp hx
    exact fun e => nomatch e
theorem lay_ints : ∀ {ns : List Int}, PyData.canLayAll0 (ns.map PyData.int) = true
  | [] => by simp [PyData.canLayAll0]
  | n :: ns => by rw [List.map_cons, PyData.canLayAll0, lay_ints]; simp [PyData.canLay0]
theorem dep_ints : ∀ {ns : List Int}, PyData.depthAll (ns.map PyData.int) ≤ 1
  | [] => by simp [PyData.depthAll]
  | n :: ns => by
    have := dep_ints (ns := ns)
    rw [List.map_cons, PyData.depthAll]
    simp only [PyData.depth]
    omega
theorem dpa_ints {K : PySem.W.Frag} {H : Hp} : ∀ (ns : List Int), DpAll K H (ns.map V.int) (ns.map PyData.int)
  | [] => .nil
  | n :: ns => .cons (.int n) (dpa_ints ns)
section
variable {σ : L2.St} {D H : Hp} {L : Own} {K : PySem.W.Frag} {Q : VK} {nx : L2.St → Hp → Prop} {rt : VK} {bk ct : L2.St → Hp → Prop}
instance v_minY {a : Addr} {xs : List V} {ns : List Int} [S : Sx D L H] [ha : Sl K D L a xs] [c : IsC xs ns] : VC (rMinY K [.ref a] H Q) (0 < ns.length ∧ ∀ m, m ∈ ns → (∀ y, y ∈ ns → m ≤ y) → Q (.int m) H) := ⟨fun h => .inl (VC.pf h)⟩
instance v_maxY {a : Addr} {xs : List V} {ns : List Int} [S : Sx D L H] [ha : Sl K D L a xs] [c : IsC xs ns] : VC (rMaxY K [.ref a] H Q) (0 < ns.length ∧ Q (.int (mxL ns)) H) := ⟨fun h => .inl (VC.pf h)⟩
theorem c_minYS {a : Addr} {xs : List V} {ns : List Int} (hs : SqT K H a xs) [c : IsC xs ns] (h : 0 < ns.length ∧ ∀ m, m ∈ ns → (∀ y, y ∈ ns → m ≤ y) → Q (.int m) H) : rMinY K [.ref a] H Q := by
  obtain ⟨h0, k⟩ := h
  obtain ⟨n, ms, rfl⟩ : ∃ n ms, ns = n :: ms := by
    cases ns with
    | nil => simp at h0
    | cons n ms => exact ⟨n, ms, rfl⟩
  refine .inr ⟨a, xs, .int n, ms.map .int, rfl, .inr (hs), by rw [c.pf]; exact dpa_ints (n :: ms), alike_ints (ns := n :: ms), lay_ints (ns := n :: ms), by have := dep_ints (ns := n :: ms); rw [List.map_cons] at this; omega, fun i v hv hi => ?_⟩
  rw [c.pf] at hv
  obtain ⟨m, hm, rfl⟩ := getI hv
  rw [PySem.W.minD_ints, show (PyData.int n :: ms.map PyData.int) = (n :: ms).map PyData.int from rfl, List.getElem?_map, hm] at hi
  have em : m = ms.foldl min n := PyData.int.inj (Option.some.inj hi)
  have key : ∀ (ms : List Int) (n : Int), ms.foldl min n ≤ n ∧ ∀ y, y ∈ ms → ms.foldl min n ≤ y := by
    intro ms
    induction ms with
    | nil => exact fun n => ⟨Int.le_refl _, fun y hy => nomatch hy⟩
    | cons z ms ih =>
      intro n
      obtain ⟨i1, i2⟩ := ih (min n z)
      rw [List.foldl_cons]
      refine ⟨by omega, fun y hy => ?_⟩
      rcases List.mem_cons.mp hy with rfl | hy
      · omega
      · exact i2 y hy
  obtain ⟨i1, i2⟩ := key ms n
  refine k m (List.mem_of_getElem? hm) fun y hy => ?_
  rw [em]
  rcases List.mem_cons.mp hy with rfl | hy
  · exact i1
  · exact i2 y hy
instance v_minYT {a : Addr} {xs : List V} {ns : List Int} [S : Sx D L H] [ha : Kn D a (.tup xs)] [c : IsC xs ns] : VC (rMinY K [.ref a] H Q) (0 < ns.length ∧ ∀ m, m ∈ ns → (∀ y, y ∈ ns → m ≤ y) → Q (.int m) H) := ⟨fun h => c_minYS (sqT S ha.pf) h⟩
theorem c_maxYS {a : Addr} {xs : List V} {ns : List Int} (hs : SqT K H a xs) [c : IsC xs ns] (h : 0 < ns.length ∧ Q (.int (mxL ns)) H) : rMaxY K [.ref a] H Q := by
  obtain ⟨h0, k⟩ := h
  obtain ⟨n, ms, rfl⟩ : ∃ n ms, ns = n :: ms := by
    cases ns with
    | nil => simp at h0
    | cons n ms => exact ⟨n, ms, rfl⟩
  refine .inr ⟨a, xs, .int n, ms.map .int, rfl, .inr (hs), by rw [c.pf]; exact dpa_ints (n :: ms), alike_ints (ns := n :: ms), lay_ints (ns := n :: ms), by have := dep_ints (ns := n :: ms); rw [List.map_cons] at this; omega, fun i v hv hi => ?_⟩
  rw [c.pf] at hv
  obtain ⟨m, hm, rfl⟩ := getI hv
  rw [PySem.W.maxD_ints, show (PyData.int n :: ms.map PyData.int) = (n :: ms).map PyData.int from rfl, List.getElem?_map, hm] at hi
  have em : m = ms.foldl max n := PyData.int.inj (Option.some.inj hi)
  have key : ∀ (ms : List Int) (n : Int), n ≤ ms.foldl max n ∧ ∀ y, y ∈ ms → y ≤ ms.foldl max n := by
    intro ms
    induction ms with
    | nil => exact fun n => ⟨Int.le_refl _, fun y hy => nomatch hy⟩
    | cons z ms ih =>
      intro n
      obtain ⟨i1, i2⟩ := ih (max n z)
      rw [List.foldl_cons]
      refine ⟨by omega, fun y hy => ?_⟩
      rcases List.mem_cons.mp hy with rfl | hy
      · omega
      · exact i2 y hy
  obtain ⟨i1, i2⟩ := key ms n
  have : m = mxL (n :: ms) := mxL_uniq (List.mem_of_getElem? hm) fun y hy => by
    rw [em]
    rcases List.mem_cons.mp hy with rfl | hy
    · exact i1
    · exact i2 y hy
  rw [this]
  exact k
instance v_maxYT {a : Addr} {xs : List V} {ns : List Int} [S : Sx D L H] [ha : Kn D a (.tup xs)] [c : IsC xs ns] : VC (rMaxY K [.ref a] H Q) (0 < ns.length ∧ Q (.int (mxL ns)) H) := ⟨fun h => c_maxYS (sqT S ha.pf) h⟩
instance v_rem {a : Addr} {xs : List V} {ns : List Int} {n : Nat} {z : Int} {L' : Own} [S : Sx D L H] [h : Fi L a (.lst xs) n] [c : IsC xs ns] [e : Se L n (a, .lst ((ns.eraseIdx (ixL z ns)).map V.int)) L'] : VC (rRemX (.ref a) [.int z] H Q) (z ∈ ns ∧ ∀ H', Sx D L' H' → Q .non H') :=
  ⟨fun k => ⟨a, ns, z, ixL z ns, rfl, rfl, by rw [← c.pf]; exact S.at h.pf, ixL_get k.1, fun m hm hz => ixL_no hm hz rfl, k.2 _ (by have := S.put (.lst ((ns.eraseIdx (ixL z ns)).map V.int)) h.pf; rw [e.pf] at this; exact this)⟩⟩
instance v_bits {to : TE} : VC (tBits to σ H Q) (to σ H fun x H1 => IsI x H1 fun i H2 => Q (.int (Builtin.Int.intBits i : Nat)) H2) := ⟨fun h => h⟩
instance v_dnotin {ty td : TE} : VC (tDNotIn ty td σ H Q) (ty σ H fun y H1 => td σ H1 fun x H2 => IsDG x y H2 fun o => Q (.bl (!o.isSome)) H2) := ⟨fun h => h⟩
instance v_din {ty td : TE} : VC (tDIn ty td σ H Q) (ty σ H fun y H1 => td σ H1 fun x H2 => IsDG x y H2 fun o => Q (.bl o.isSome) H2) := ⟨fun h => h⟩
instance v_dg {a : Addr} {kvs : List (Key × V)} {n : Nat} {i : Int} {q : Option V → Prop} [S : Sx D L H] [h : Fi L a (.dK kvs) n] : VC (IsDG (.ref a) (.int i) H q) (q (valV kvs (Sum.inl i))) := ⟨fun k => ⟨a, _, rfl, DGet.k (k := Sum.inl i) (S.at h.pf), k⟩⟩
instance v_dput {td ty tv : TE} : VC (sDPut td ty tv ⟨nx, rt, bk, ct⟩ σ H) (tv σ H fun v H1 => td σ H1 fun x H2 => ty σ H2 fun y H3 => IsDP x y v H3 fun H4 => nx σ H4) := ⟨fun h => h⟩
instance v_dp {a : Addr} {kvs : List (Key × V)} {n : Nat} {i : Int} {v : V} {L' : Own} {q : Hp → Prop} [S : Sx D L H] [h : Fi L a (.dK kvs) n] [e : Se L n (a, .dK (putK kvs (Sum.inl i) v)) L'] : VC (IsDP (.ref a) (.int i) v H q) (kvs.length < 16777216 ∧ ∀ H', Sx D L' H' → q H') :=
  ⟨fun k => ⟨a, _, rfl, DPut.k (k := Sum.inl i) (S.at h.pf) k.1, k.2 _ (by have := S.put (.dK (putK kvs (Sum.inl i) v)) h.pf; rw [e.pf] at this; exact this)⟩⟩
instance v_dmod {i j : Int} [S : Sx D L H] : VC (rDivM [.int i, .int j] H Q) ((0 < j ∧ j < 1073741824) ∧ ∀ p D' H', Sx D' L H' → Sm D D' → Kn D' p (.tup [.int (i / j), .int (i % j)]) → Q (.ref p) H') := ⟨fun h => ⟨i, j, rfl, h.1, fun p hp => h.2 p _ _ (S.fix hp) ⟨same_upd (S.dH.free hp)⟩ ⟨upd_same⟩⟩⟩
instance v_lstK {a : Addr} {xs : List V} [S : Sx D L H] [ha : Ks D a xs] : VC (rLstOf K [.ref a] H Q) (∀ p H', Sx D ((p, .lst xs) :: L) H' → Q (.ref p) H') := ⟨fun h => ha.pf.elim (fun e => c_lstL S (rsD e) h) fun e => c_lstT S e h⟩
end
/-! pairs -/
theorem ltP (a b c d : Int) : PySem.W.dataLt (tI [a, b]) (tI [c, d]) = (decide (a < c) || (decide (a = c) && decide (b < d))) := by
  show PySem.W.dataLt (.tuple [.int a, .int b]) (.tuple [.int c, .int d]) = _
  rw [PySem.W.dataLt_tuple]
  by_cases e : a = c
  · subst e
    rw [PySem.W.dataLt_all_yes (by simp [PySem.W.alike]) (by simp [PyData.eqv])]
    by_cases e2 : b = d
    · subst e2
      rw [PySem.W.dataLt_all_yes (by simp [PySem.W.alike]) (by simp [PyData.eqv])]
      simp [PySem.W.keyToksAll]
      decide
    · rw [PySem.W.dataLt_all_no (by simp [PySem.W.alike]) (by simp [PyData.eqv, e2]), PySem.W.dataLt_int]
      simp
  · rw [PySem.W.dataLt_all_no (by simp [PySem.W.alike]) (by simp [PyData.eqv, e]), PySem.W.dataLt_int]
    simp [e]
/-- the least of pairs -/
def lessP (x y : Int × Int) : Bool := decide (x.1 < y.1) || (decide (x.1 = y.1) && decide (x.2 < y.2))
def minP (x : Int × Int) (xs : List (Int × Int)) : Int × Int := xs.foldl (fun a y => if lessP y a then y else a) x
abbrev pI (x : Int × Int) : PyData := tI [x.1, x.2]
theorem minP_D : ∀ (xs : List (Int × Int)) (x : Int × Int), PySem.W.minD (pI x) (xs.map pI) = pI (minP x xs)
  | [], x => rfl
  | y :: xs, x => by
    have ih := minP_D xs (if lessP y x then y else x)
    unfold PySem.W.minD minP at ih ⊢
    rw [List.map_cons, List.foldl_cons, List.foldl_cons, ← ih, ltP]
    congr 1
    show (if lessP y x = true then pI y else pI x) = _
    split <;> rfl
section
variable {D H : Hp} {L : Own} {K : PySem.W.Frag} {Q : VK}
theorem dep_pairs : ∀ {xs : List (Int × Int)}, PyData.depthAll (xs.map pI) ≤ 3
  | [] => by simp [PyData.depthAll]
  | x :: xs => by
    have := dep_pairs (xs := xs)
    rw [List.map_cons, PyData.depthAll]
    simp only [PyData.depth, PyData.depthAll, List.map_cons, List.map_nil]
    omega
theorem lay_pairs : ∀ {xs : List (Int × Int)}, PyData.canLayAll0 (xs.map pI) = true
  | [] => by simp [PyData.canLayAll0]
  | x :: xs => by rw [List.map_cons, PyData.canLayAll0, lay_pairs]; simp [PyData.canLay0, PyData.canLayAll0]
theorem c_minP {a : Addr} {us : List V} {x : Int × Int} {xs : List (Int × Int)} (S : Sx D L H) (ha : Rds K D L a us) (hr : RpAll D us ((x :: xs).map pI)) (k : ∀ b, Kn D b (.tup [.int (minP x xs).1, .int (minP x xs).2]) → Q (.ref b) H) : rMinY K [.ref a] H Q := by
  refine .inr ⟨a, us, pI x, xs.map pI, rfl, .inl (ha.sq S), RpAll.dp (RpAll.up S.dH hr), ⟨fun y hy z hz => ?_, fun y hy => ?_⟩, lay_pairs (xs := x :: xs), by have := dep_pairs (xs := x :: xs); rw [List.map_cons] at this; omega, fun i v hv hi => ?_⟩
  · obtain ⟨y, _, rfl⟩ := List.mem_map.mp (show y ∈ (x :: xs).map pI from hy)
    obtain ⟨z, _, rfl⟩ := List.mem_map.mp (show z ∈ (x :: xs).map pI from hz)
    simp [PySem.W.alike, PySem.W.alikeAll]
  · obtain ⟨y, _, rfl⟩ := List.mem_map.mp (show y ∈ (x :: xs).map pI from hy)
    exact fun e => nomatch e
  · obtain ⟨d, h1, h2⟩ := RpAll.getV hr hv
    rw [minP_D] at hi
    rw [show (x :: xs).map pI = pI x :: xs.map pI from rfl, hi] at h1
    cases h1
    obtain ⟨b, rfl, h3⟩ := h2.inv_tupI
    exact k b ⟨h3⟩
end
end Fk

namespace Fk
open PySem PySem.Spec PyProof.Rows L2
/-! ## comprehensions that own more and more; sorted pairs; len of a dict; lists or tuples -/
section
variable {σ : L2.St} {D H : Hp} {L : Own} {K : PySem.W.Frag}
theorem lc_goL {J : It} {n : Nat} {G : Hp → Prop} {Y : Nat → Hp → V → Hp → Prop} (w : Walk J n G Y) {g : TG} {tt : TT} {te : TE} {vs : List Nat} {Q : VK} {σw : L2.St} [S : Sx D L H] [hw : Wip σ vs σw] (hn : n < 16777216)
    (R : Nat → List V → Hp → Own → Prop) (h0 : R 0 [] D L) (hG : ∀ D' L' p acc H', Sm D D' → Sx D' ((p, .lst acc) :: L') H' → G H')
    (hs : ∀ i x p acc D' L' H' H'', i < n → Sm D D' → Sx D' ((p, .lst acc) :: L') H' → R i acc D' L' → Y i H' x H'' → ∀ (Ad : V → Hp → Prop) (Sk : Hp → Prop),
      (∀ y D'' L'' H4, Sm D' D'' → Sx D'' ((p, .lst acc) :: L'') H4 → R (i + 1) (acc ++ [y]) D'' L'' → Ad y H4) →
      (∀ D'' L'' H4, Sm D' D'' → Sx D'' ((p, .lst acc) :: L'') H4 → R (i + 1) acc D'' L'' → Sk H4) →
      g x σw H'' fun σ2 H2 => WOk σ2 vs σw (tt σ2 H2 fun b H3 => if b = true then te σ2 H3 Ad else Sk H3))
    (k : ∀ p D' L' acc H', Sm D D' → Sx D' ((p, .lst acc) :: L') H' → R n acc D' L' → Q (.ref p) H') : tLcJ J g tt te vs σ H Q := by
  obtain rfl := hw.pf
  intro p hp
  refine lc_it w (fun i H' => ∃ D' L' acc, Sm D D' ∧ Sx D' ((p, .lst acc) :: L') H' ∧ R i acc D' L' ∧ acc.length ≤ i) ⟨D, L, [], ⟨Same.refl _⟩, S.new hp, h0, Nat.le_refl _⟩ (fun i H' _ ⟨D', L', acc, e, S', _, _⟩ => hG D' L' p acc H' e S') (fun i x H' H'' hi ⟨D', L', acc, e, S', r, hl⟩ y => ?_) (fun H' ⟨D', L', acc, e, S', r, _⟩ => k p D' L' acc H' e S' r)
  refine hs i x p acc D' L' H' H'' hi e S' r y _ _ (fun z D'' L'' H4 e2 S2 r2 => ?_) (fun D'' L'' H4 e2 S2 r2 => ?_)
  · refine ⟨acc, S2.at (n := 0) rfl, ?_, D'', L'', acc ++ [z], ⟨e.e.trans e2.e⟩, ?_, r2, ?_⟩
    · show acc.length < 16777216
      omega
    · exact S2.put (n := 0) _ rfl
    · rw [List.length_append]
      show acc.length + 1 ≤ i + 1
      omega
  · exact ⟨D'', L'', acc, ⟨e.e.trans e2.e⟩, S2, r2, by omega⟩
end
section
variable {X : Cx}
def rSortedW (K : PySem.W.Frag) : List V → Hp → VK → Prop := fun xs H Q => rSortedX K xs H Q ∨ rSortedP K xs H Q
theorem cr_sortedW : CallR X (.builtin "sorted") (rSortedW X.K) := CallR.or cr_sortedX cr_sortedP
def rLenD : List V → Hp → VK → Prop := fun xs H Q => ∃ a kvs, xs = [V.ref a] ∧ H a = some (.dK kvs) ∧ Q (.int (kvs.length : Nat)) H
theorem call_lenDD : CallR X (.builtin "len") rLenD := call_lenD
end
section
variable {σ : L2.St} {D H : Hp} {L : Own} {K : PySem.W.Frag} {Q : VK}
instance v_sortWL {a : Addr} {xs : List V} {ns : List Int} [S : Sx D L H] [ha : Sl K D L a xs] [c : IsC xs ns] : VC (rSortedW K [.ref a] H Q) (∀ ns' : List Int, ns'.Perm ns → ns'.Pairwise (· ≤ ·) → ∀ p H', Sx D ((p, .lst (ns'.map V.int)) :: L) H' → Q (.ref p) H') := ⟨fun h => .inl (VC.pf h)⟩
instance v_sortWT {a : Addr} {xs : List V} {ns : List Int} [S : Sx D L H] [ha : Kn D a (.tup xs)] [c : IsC xs ns] : VC (rSortedW K [.ref a] H Q) (∀ ns' : List Int, ns'.Perm ns → ns'.Pairwise (· ≤ ·) → ∀ p H', Sx D ((p, .lst (ns'.map V.int)) :: L) H' → Q (.ref p) H') := ⟨fun h => .inl (VC.pf h)⟩
instance v_sortWK {a : Addr} {xs : List V} {ns : List Int} [S : Sx D L H] [ha : Ks D a xs] [c : IsC xs ns] : VC (rSortedW K [.ref a] H Q) (∀ ns' : List Int, ns'.Perm ns → ns'.Pairwise (· ≤ ·) → ∀ p H', Sx D ((p, .lst (ns'.map V.int)) :: L) H' → Q (.ref p) H') := ⟨fun h => .inl (ha.pf.elim
  (fun e => c_sortL S (by rw [← c.pf]; exact rsD e) fun ns' p H' h1 h2 S' => h ns' h1 h2 p H' S')
  (fun e => c_sortT S (by rw [← c.pf]; exact e) fun ns' p H' h1 h2 S' => h ns' h1 h2 p H' S'))⟩
theorem c_sortP {a : Addr} {us : List V} {xs : List (Int × Int)} (S : Sx D L H) (ha : Rds K D L a us) (hr : RpAll D us (xs.map pI)) (k : ∀ ys p H', ys.Perm us → Sx D ((p, .lst ys) :: L) H' → Q (.ref p) H') : rSortedW K [.ref a] H Q := by
  refine .inr ⟨a, us, rfl, ha.sq S, fun v hv => ?_, fun ys p hp hn => k ys p _ hp (S.new hn)⟩
  obtain ⟨i, hi⟩ := List.getElem?_of_mem hv
  obtain ⟨d, h1, h2⟩ := RpAll.getV hr hi
  rw [List.getElem?_map] at h1
  cases e : xs[i]? with
  | none => rw [e] at h1; cases h1
  | some x =>
    rw [e] at h1
    cases h1
    obtain ⟨b, rfl, h3⟩ := h2.inv_tupI
    exact ⟨b, x.1, x.2, rfl, S.dH _ _ h3⟩
theorem ra_memP {us : List V} {xs : List (Int × Int)} {v : V} (hr : RpAll D us (xs.map pI)) (hv : v ∈ us) : ∃ b x, x ∈ xs ∧ v = .ref b ∧ Kn D b (.tup [.int x.1, .int x.2]) := by
  obtain ⟨i, hi⟩ := List.getElem?_of_mem hv
  obtain ⟨d, h1, h2⟩ := RpAll.getV hr hi
  rw [List.getElem?_map] at h1
  cases e : xs[i]? with
  | none => rw [e] at h1; cases h1
  | some x =>
    rw [e] at h1
    cases h1
    obtain ⟨b, rfl, h3⟩ := h2.inv_tupI
    exact ⟨b, x, List.mem_of_getElem? e, rfl, ⟨h3⟩⟩
instance v_lenD {a : Addr} {kvs : List (Key × V)} {n : Nat} [S : Sx D L H] [h : Fi L a (.dK kvs) n] : VC (rLenD [.ref a] H Q) (Q (.int (kvs.length : Nat)) H) := ⟨fun k => ⟨a, kvs, rfl, S.at h.pf, k⟩⟩
instance v_enXK {a : Addr} {xs : List V} {R : It → Hp → Prop} [S : Sx D L H] [ha : Ks D a xs] : VC (IsEX K [.ref a] H R) (∀ (J : It) (G : Hp → Prop), Walk J xs.length G (YPair (fun i => some (.int (i : Nat))) (fun i => xs[i]?)) → (∀ D' L' H', Sx D' L' H' → Sm D D' → G H') → R J H) :=
  ⟨fun h => ha.pf.elim
    (fun e => .inl ⟨a, xs, rfl, .of (S.dH _ _ e), h _ _ walk_enum fun D' L' H' S' s => .of (S'.dH _ _ (s.e _ _ e))⟩)
    (fun e => .inr ⟨a, xs, rfl, sqT S e, h _ _ walk_enumT fun D' L' H' S' s => .of (S'.dH _ _ (s.e _ _ e))⟩)⟩
end
/-- some lists of three numbers -/
abbrev P3 := Addr × Int × Int × Int
def ownP (ps : List P3) : Own := ps.map fun q => (q.1, .lst [.int q.2.1, .int q.2.2.1, .int q.2.2.2])
theorem ownP_front {ps : List P3} {i : Nat} {q : P3} {x : Addr × HO} {L : Own} (h : ps[i]? = some q) : (x :: (ownP ps ++ L)).Perm ((q.1, .lst [.int q.2.1, .int q.2.2.1, .int q.2.2.2]) :: x :: (ownP (ps.eraseIdx i) ++ L)) := by
  have h1 := (perm_front h).map (fun q : P3 => ((q.1, HO.lst [V.int q.2.1, V.int q.2.2.1, V.int q.2.2.2]) : Addr × HO))
  have h2 : (ownP ps ++ L).Perm ((q.1, .lst [.int q.2.1, .int q.2.2.1, .int q.2.2.2]) :: (ownP (ps.eraseIdx i) ++ L)) := List.Perm.append_right L h1
  exact (h2.cons x).trans (List.Perm.swap _ _ _)
theorem ownP_back {ps : List P3} {i : Nat} {q r : P3} {x : Addr × HO} {L : Own} (h : ps[i]? = some q) : ((r.1, .lst [.int r.2.1, .int r.2.2.1, .int r.2.2.2]) :: x :: (ownP (ps.eraseIdx i) ++ L)).Perm (x :: (ownP (ps.set i r) ++ L)) := by
  have hi := (List.getElem?_eq_some_iff.mp h).1
  have hs : (ps.set i r)[i]? = some r := by rw [List.getElem?_set, if_pos rfl, if_pos hi]
  have he : (ps.set i r).eraseIdx i = ps.eraseIdx i := by
    clear h hs
    induction ps generalizing i with
    | nil => simp at hi
    | cons y ys ih =>
      cases i with
      | zero => rfl
      | succ i =>
        rw [List.set_cons_succ, List.eraseIdx_cons_succ, List.eraseIdx_cons_succ, ih (by simpa using hi)]
  have := ownP_front (x := x) (L := L) hs
  rw [he] at this
  exact this.symm
end Fk

namespace Fk
open PySem PySem.Spec PyProof.Rows L2
/-! ## insert at any place -/
def insP (i : Int) (n : Nat) : Nat := if i < 0 then (i + (n : Int)).toNat else min i.toNat n
def rInsG : V → List V → Hp → VK → Prop := fun x vs H Q => ∃ (l : Addr) (xs : List V) (i : Int) (y : V), x = .ref l ∧ vs = [.int i, y] ∧ H l = some (.lst xs) ∧ xs.length < sizeLine ∧ -(2 ^ 63) ≤ i ∧ i < 2 ^ 63 ∧ Q .non (upd H l (.lst (xs.take (insP i xs.length) ++ [y] ++ xs.drop (insP i xs.length))))
theorem mt_insG {X : Cx} : MtR X "list.insert" rInsG := by
  intro pins s σ H x xs v us Q I rx rv h
  obtain ⟨l, xs, i, y, rfl, rfl, hH, hz, h0, h1, q⟩ := h
  cases rx
  obtain ⟨u1, u2, rfl, r1, r2⟩ := rv.two
  obtain ⟨t, rfl⟩ := r1
  obtain ⟨z, its, n, r, hl, e⟩ := I.lstM hH
  have hfit : Builtin.List.listFitsIndex i = true := fitsIndex_both h0 h1
  have hk : (if i < 0 then (i + (its.toArray.size : Int)).toNat else min i.toNat its.toArray.size) = insP i xs.length := by
    unfold insP
    rw [List.size_toArray, hl]
  refine call_meets PySem.F.slot_list_insert ⟨_, e, rfl⟩ PySem.F.entry_list_insert (PySem.F.args_list_insert_3 _ _ _) (AutoSeq1.list_insert_list_int_val_1 l its.toArray n i t u2 (by simp [hfit]) (by rw [List.size_toArray]; omega)) ⟨e, ?_⟩
  refine ⟨.non, _, I.lset (its' := its.take (insP i xs.length) ++ [u2] ++ its.drop (insP i xs.length)) hH e ?_ (((r.take (insP i xs.length)).append (.cons r2 .nil)).append (r.drop (insP i xs.length))) ?_, rfl, q⟩
  · show (its.toArray.extract 0 (if i < 0 then (i + (its.toArray.size : Int)).toNat else min i.toNat its.toArray.size)).push u2 ++ its.toArray.extract (if i < 0 then (i + (its.toArray.size : Int)).toNat else min i.toNat its.toArray.size) =
      (its.take (insP i xs.length) ++ [u2] ++ its.drop (insP i xs.length)).toArray
    rw [hk, PySem.W.kl_ins_eq, List.append_assoc]
    rfl
  · rw [List.length_append, List.length_append, List.length_take, List.length_drop, List.length_singleton]
    omega
theorem ins_len {α : Type} {xs : List α} {y : α} {k : Nat} : (xs.take k ++ [y] ++ xs.drop k).length = xs.length + 1 := by
  rw [List.length_append, List.length_append, List.length_take, List.length_drop, List.length_singleton]
  omega
section
variable {σ : L2.St} {D H : Hp} {L : Own} {K : PySem.W.Frag} {Q : VK}
instance v_insG {a : Addr} {xs : List V} {n : Nat} {i : Int} {y : V} {L' : Own} [S : Sx D L H] [h : Fi L a (.lst xs) n] [e : Se L n (a, .lst (xs.take (insP i xs.length) ++ [y] ++ xs.drop (insP i xs.length))) L'] : VC (rInsG (.ref a) [.int i, y] H Q) ((xs.length < 16777216 ∧ -4611686018427387904 ≤ i ∧ i < 4611686018427387904) ∧ ∀ H', Sx D L' H' → Q .non H') :=
  ⟨fun k => ⟨a, xs, i, y, rfl, rfl, S.at h.pf, k.1.1, by have := k.1.2.1; omega, by have := k.1.2.2; omega, k.2 _ (by have := S.put (.lst (xs.take (insP i xs.length) ++ [y] ++ xs.drop (insP i xs.length))) h.pf; rw [e.pf] at this; exact this)⟩⟩
/-- a number and a list of numbers -/
abbrev nlI (c : Int) (xs : List Int) : PyData := .tuple [.int c, lI xs]
theorem sh_nl (c : Int) (xs : List Int) : SeqAt.shaped (nlI c xs) = true := (Sh.tup (n := 1) fun d hd => by
  rcases List.mem_cons.mp hd with rfl | hd
  · exact Sh.int 1 c
  · rw [List.mem_singleton.mp hd]
    exact Sh.list (n := 0) Sh.ints).ok
theorem eqv_nl (c d : Int) (xs ys : List Int) : PyData.eqv (nlI c xs) (nlI d ys) = decide (c = d ∧ xs = ys) := by
  simp only [PyData.eqv, PyData.eqvAll]
  rw [eqv_I]
  by_cases h : c = d <;> by_cases h2 : xs = ys <;> simp [h, h2]
theorem dp_nl {t g : Addr} {c : Int} {xs : List Int} (S : Sx D L H) (kt : Kn D t (.tup [.int c, .ref g])) (hg : Rds K D L g (xs.map V.int)) : Dp K H (.ref t) (nlI c xs) :=
  .tup (sqT S kt.pf) (.cons (.int c) (.cons (.lst (hg.sq S) (dpa_ints xs)) .nil))
theorem r_neNL {t t2 g g2 : Addr} {c d : Int} {xs ys : List Int} (S : Sx D L H) (kt : Kn D t (.tup [.int c, .ref g])) (hg : Rds K D L g (xs.map V.int)) (kt2 : Kn D t2 (.tup [.int d, .ref g2])) (hg2 : Rds K D L g2 (ys.map V.int)) (k : Q (.bl (!decide (c = d ∧ xs = ys))) H) : rNeX K (.ref t) (.ref t2) H Q :=
  .inr ⟨_, _, dp_nl S kt hg, dp_nl S kt2 hg2, sh_nl c xs, sh_nl d ys, by rw [eqv_nl]; exact k⟩
end
end Fk

namespace Fk
open PySem PySem.Spec PyProof.Rows L2
/-! ## any of a tuple; dicts by tuples of ints; tuples of truths -/
theorem dpa_bls {K : PySem.W.Frag} {H : Hp} : ∀ (bs : List Bool), DpAll K H (bs.map V.bl) (bs.map PyData.bool)
  | [] => .nil
  | b :: bs => .cons (.bl b) (dpa_bls bs)
theorem plain_bls : ∀ (bs : List Bool), PyData.plainAll (bs.map PyData.bool) = true
  | [] => by simp [PyData.plainAll]
  | b :: bs => by rw [List.map_cons, PyData.plainAll, plain_bls bs]; simp [PyData.plain]
section
variable {X : Cx}
def rAnyT (K : PySem.W.Frag) : List V → Hp → VK → Prop := fun vs H Q => ∃ (a : Addr) (bs : List Bool), vs = [V.ref a] ∧ SqT K H a (bs.map V.bl) ∧ Q (.bl (bs.any id)) H
theorem cr_anyT (hc : X.calm = true) : CallR X (.builtin "any") (rAnyT X.K) := by
  intro pins s σ H vs us Q I r h
  obtain ⟨a, bs, rfl, hs, q⟩ := h
  obtain ⟨its, rv, hl, _⟩ := I.tuple hs
  rw [Vals.ref1 r]
  obtain ⟨as, hr⟩ := Dp.readsAll I (bs.map PyData.bool) _ its (dpa_bls bs) rv
  refine PySem.W.any_tuple_data (I.ok.hd hc) (vs := its.toArray) hl (show ReadsAll s.heap its.toArray.toList _ as from hr) (plain_bls bs) (fun x hx => ?_) fun h' tk hk => ?_
  · obtain ⟨b, _, rfl⟩ := List.mem_map.mp hx
    simp [PyData.fits63]
  · have e : (bs.map PyData.bool).any PyData.truthy = bs.any id := by
      rw [List.any_map]
      rfl
    rw [e]
    exact ⟨.bl _, H, I.kept hk, rfl, q⟩
def rAnyX (K : PySem.W.Frag) : List V → Hp → VK → Prop := fun xs H Q => rAny K xs H Q ∨ rAnyT K xs H Q
theorem cr_anyX (hc : X.calm = true) : CallR X (.builtin "any") (rAnyX X.K) := CallR.or (cr_any hc) (cr_anyT hc)
end
class KeC (us : List V) (k : outParam (List Key)) : Prop where
  pf : us = k.map kV
instance ke0 : KeC [] [] := ⟨rfl⟩
instance keI {i : Int} {us : List V} {k : List Key} [h : KeC us k] : KeC (.int i :: us) (Sum.inl i :: k) := ⟨by rw [h.pf]; rfl⟩
theorem putK_len {κ : Type} [DecidableEq κ] (kvs : List (κ × V)) (k : κ) (v : V) : (putK kvs k v).length ≤ kvs.length + 1 := by
  unfold putK
  split
  · rw [List.length_map]
    omega
  · rw [List.length_append]
    exact Nat.le_refl _
section
variable {σ : L2.St} {D H : Hp} {L : Own} {K : PySem.W.Frag} {Q : VK}
instance v_anyXL {a : Addr} {xs : List V} {bs : List Bool} [S : Sx D L H] [ha : Sl K D L a xs] [c : BsC xs bs] : VC (rAnyX K [.ref a] H Q) (Q (.bl (bs.any id)) H) := ⟨fun h => .inl (VC.pf h)⟩
instance v_anyXT {a : Addr} {xs : List V} {bs : List Bool} [S : Sx D L H] [ha : Kn D a (.tup xs)] [c : BsC xs bs] : VC (rAnyX K [.ref a] H Q) (Q (.bl (bs.any id)) H) := ⟨fun h => .inr ⟨a, bs, rfl, by rw [← c.pf]; exact sqT S ha.pf, h⟩⟩
instance v_dgT {a b : Addr} {kvs : List (List Key × V)} {n : Nat} {us : List V} {k : List Key} {q : Option V → Prop} [S : Sx D L H] [h : Fi L a (.dT kvs) n] [kb : Kn D b (.tup us)] [c : KeC us k] : VC (IsDG (.ref a) (.ref b) H q) (q (valV kvs k)) := ⟨fun z => ⟨a, _, rfl, DGet.t (S.at h.pf) (by rw [← c.pf]; exact S.dH _ _ kb.pf), z⟩⟩
instance v_dpT {a b : Addr} {kvs : List (List Key × V)} {n : Nat} {us : List V} {k : List Key} {v : V} {L' : Own} {q : Hp → Prop} [S : Sx D L H] [h : Fi L a (.dT kvs) n] [kb : Kn D b (.tup us)] [c : KeC us k] [e : Se L n (a, .dT (putK kvs k v)) L'] : VC (IsDP (.ref a) (.ref b) v H q) (kvs.length < 16777216 ∧ ∀ H', Sx D L' H' → q H') :=
  ⟨fun z => ⟨a, _, rfl, DPut.t (S.at h.pf) (by rw [← c.pf]; exact S.dH _ _ kb.pf) z.1, z.2 _ (by have := S.put (.dT (putK kvs k v)) h.pf; rw [e.pf] at this; exact this)⟩⟩
instance v_dnewT [S : Sx D L H] : VC (tDNewT σ H Q) (∀ p H', Sx D ((p, .dT []) :: L) H' → Q (.ref p) H') := ⟨fun h p hp => h p _ (S.new hp)⟩
end
theorem ra_ers {D : Hp} : ∀ {vs : List V} {ds : List PyData} (n : Nat), RpAll D vs ds → RpAll D (vs.eraseIdx n) (ds.eraseIdx n)
  | _, _, _, .nil => .nil
  | _, _, 0, .cons _ t => t
  | _, _, n + 1, .cons h t => .cons h (ra_ers n t)
/-! (x,) * n, n to a million -/
def rRep1U (K : PySem.W.Frag) : R2 := fun x y H Q => ∃ l k v, x = .ref l ∧ y = .int k ∧ SqT K H l [v] ∧ 2 ≤ k ∧ k ≤ 1000000 ∧ ∀ p, H p = none → Q (.ref p) (upd H p (.tup (List.replicate k.toNat [v]).flatten))
theorem rep_size (w : Value) (k : Nat) : (List.replicate k [w]).flatten = List.replicate k w := by
  induction k with
  | zero => rfl
  | succ k ih => rw [List.replicate_succ, List.flatten_cons, ih]; rfl
theorem op_rep1U {X : Cx} : OpR X (binaryOp .Mult) (rRep1U X.K) := by
  intro pins s σ H x y v u Q I rx ry h
  obtain ⟨l, k, z, ex, ey, hT, k2, km, q⟩ := h
  subst ex ey
  cases rx
  obtain ⟨tk, rfl⟩ := ry
  obtain ⟨us, rs, tup, _⟩ := I.tuple hT
  obtain ⟨w, eu, rw1⟩ := vals1 rs
  subst eu
  obtain ⟨ob, at_l, cls_l, m, dat_l⟩ := id tup
  have eo : ob = { cls := .type "tuple", dict := ob.dict, data := .seq [w].toArray m, slots := ob.slots } := by
    obtain ⟨a1, a2, a3, a4⟩ := ob
    simp only at cls_l dat_l
    rw [cls_l, dat_l]
  rw [eo] at at_l
  have big : (List.replicate k.toNat [w]).flatten.length ≤ 1000000 := by rw [rep_size, List.length_replicate]; omega
  have line : 1000000 ≤ sizeLine := by rw [sizeLine_eq]; decide
  have made := tuple_mulW l [w].toArray m ob.dict ob.slots k tk (by simp; omega) (by simp; omega) (by simp; omega) (by simp; omega)
    (by unfold Builtin.Tuple.tupleTooMany; rw [sizeLine_eq]; simp; omega) (by rw [size_rep]; exact Nat.le_trans big line)
  have isT : ∀ s' : Shared, s'.heap = s.heap → s'.TypeIs (.ref l) "tuple" := fun s' e => ⟨_, by rw [e]; exact at_l, rfl⟩
  have fin : ObjOk X.prog X.w (upd H s.heap.objs.size (.tup (List.replicate k.toNat [z]).flatten)) (s.heap.push { cls := Value.type "tuple", data := Data.seq (List.replicate k.toNat [w]).flatten.toArray }) s.heap.objs.size (.tup (List.replicate k.toNat [z]).flatten) := by
    refine ⟨?_, _, rs.rep k.toNat, IsTup.new _ _⟩
    have : (List.replicate k.toNat [z]).flatten.length = (List.replicate k.toNat [w]).flatten.length := (rs.rep k.toNat).length
    omega
  refine wpAny_binaryOp_repeat_ref (T := "tuple") (U := "int") (by decide) (isT s rfl) (fun s' => typeIs_int s' k tk) noFill_tuple_mul PySem.F.fills_int_mul PySem.F.slot_int_rmul repeat_tuple PySem.F.slot_int_index.lookup ?_
  refine call_meets PySem.F.slot_int_rmul (typeIs_int s k tk) PySem.F.entry_int_rmul (PySem.F.args_int_rmul_2 _ _) (int_rmul_tuple k tk l [w].toArray m ob.dict ob.slots) ⟨at_l, rfl, isT s rfl, ?_⟩
  refine call_meets PySem.F.slot_tuple_mul (isT s rfl) PySem.F.entry_tuple_mul (PySem.F.args_tuple_mul_2 _ _) made ⟨at_l, ?_⟩
  rw [size_rep]
  exact ⟨.ref s.heap.objs.size, _, I.laid (t' := s.toks) (fun b o e => Heap.get?_push_of_some _ e) (Nat.le_refl _) fin, rfl, q _ (I.hok.fresh (Nat.le_refl _))⟩
def rMulU (K : PySem.W.Frag) : R2 := fun x y H Q => rMulV K x y H Q ∨ rRep1U K x y H Q
theorem opMulU {X : Cx} : OpR X (binaryOp .Mult) (rMulU X.K) := OpR.or opMulV op_rep1U
section
variable {D H : Hp} {L : Own} {K : PySem.W.Frag} {Q : VK}
instance v_mulUI {i j : Int} : VC (rMulU K (.int i) (.int j) H Q) (MulOk i j ∧ Q (.int (i * j)) H) := ⟨fun h => .inl (VC.pf h)⟩
instance v_mulUL {a : Addr} {x : V} {n : Int} [S : Sx D L H] [ha : Ml D L a [x]] : VC (rMulU K (.ref a) (.int n) H Q) ((-1000000 ≤ n ∧ n ≤ 1000000) ∧ ∀ p H', Sx D ((p, .lst (List.replicate n.toNat x)) :: L) H' → Q (.ref p) H') := ⟨fun h => .inl (VC.pf h)⟩
instance v_mulUT {a : Addr} {x : V} {n : Int} [S : Sx D L H] [ha : Kn D a (.tup [x])] : VC (rMulU K (.ref a) (.int n) H Q) ((0 ≤ n ∧ n ≤ 1000000) ∧ ∀ p D' H', Sx D' L H' → Sm D D' → Kn D' p (.tup (List.replicate n.toNat x)) → Q (.ref p) H') := ⟨fun h => by
  by_cases c : n ≤ 1
  · exact .inl (VC.pf ⟨⟨h.1.1, by omega⟩, h.2⟩)
  · refine .inr ⟨a, n, x, rfl, rfl, sqT S ha.pf, by omega, h.1.2, fun p hp => ?_⟩
    rw [flat_rep]
    exact h.2 p _ _ (S.fix hp) ⟨same_upd (S.dH.free hp)⟩ ⟨upd_same⟩⟩
end
section
variable {σ : L2.St} {D H : Hp} {L : Own} {K : PySem.W.Frag} {Q : VK}
def IsRv (K : PySem.W.Frag) (x : V) (H1 : Hp) (Q : VK) : Prop := ∃ a xs, x = .ref a ∧ SqL K H1 a xs ∧ ∀ p, H1 p = none → Q (.ref p) (upd H1 p (.lst xs.reverse))
instance v_rv0 {te : TE} : VC (tRevL K te σ H Q) (te σ H fun x H1 => IsRv K x H1 Q) := ⟨fun h => h⟩
instance v_rv1 {a : Addr} {xs : List V} [S : Sx D L H] [ha : Sl K D L a xs] : VC (IsRv K (.ref a) H Q) (∀ p H', Sx D ((p, .lst xs.reverse) :: L) H' → Q (.ref p) H') := ⟨fun h => ⟨a, xs, rfl, ha.pf.sq S, fun p hp => h p _ (S.new hp)⟩⟩
end
/-! tuples of truths, list by list -/
theorem TbA.get {D : Hp} {us : List V} {bss : List (List Bool)} (h : TbA D us bss) {i : Nat} {u : V} (hu : us[i]? = some u) : ∃ b bs, u = .ref b ∧ bss[i]? = some bs ∧ Kn D b (.tup (bs.map V.bl)) := by
  have hi := (List.getElem?_eq_some_iff.mp hu).1
  obtain ⟨bs0, hb⟩ : ∃ bs0, bss[i]? = some bs0 := ⟨_, List.getElem?_eq_getElem (by rw [← h.1]; exact hi)⟩
  obtain ⟨b, e, k⟩ := h.2 i u _ hu hb
  exact ⟨b, _, e, hb, k⟩
theorem TbA.take {D : Hp} {us : List V} {bss : List (List Bool)} (h : TbA D us bss) (n : Nat) : TbA D (us.take n) (bss.take n) := ⟨by rw [List.length_take, List.length_take, h.1], fun i u bs h1 h2 => by
  have hi := (List.getElem?_eq_some_iff.mp h1).1
  rw [List.length_take] at hi
  rw [List.getElem?_take_of_lt (by omega)] at h1 h2
  exact h.2 i u bs h1 h2⟩
theorem TbA.drop {D : Hp} {us : List V} {bss : List (List Bool)} (h : TbA D us bss) (n : Nat) : TbA D (us.drop n) (bss.drop n) := ⟨by rw [List.length_drop, List.length_drop, h.1], fun i u bs h1 h2 => by
  rw [List.getElem?_drop] at h1 h2
  exact h.2 _ u bs h1 h2⟩
theorem TbA.set {D : Hp} {us : List V} {bss : List (List Bool)} (h : TbA D us bss) (n : Nat) {b : Addr} {bs : List Bool} (k : Kn D b (.tup (bs.map V.bl))) : TbA D (us.set n (.ref b)) (bss.set n bs) := ⟨by rw [List.length_set, List.length_set, h.1], fun i u cs h1 h2 => by
  rw [List.getElem?_set] at h1 h2
  by_cases c : n = i
  · subst c
    rw [if_pos rfl] at h1 h2
    split at h1
    · split at h2
      · cases h1
        cases h2
        exact ⟨b, rfl, k⟩
      · cases h2
    · cases h1
  · rw [if_neg c] at h1 h2
    exact h.2 i u cs h1 h2⟩
theorem TbA.ers {D : Hp} {us : List V} {bss : List (List Bool)} (h : TbA D us bss) (n : Nat) : TbA D (us.eraseIdx n) (bss.eraseIdx n) := by
  rw [List.eraseIdx_eq_take_drop_succ, List.eraseIdx_eq_take_drop_succ]
  exact (h.take n).app (h.drop (n + 1))
theorem TbA.rev {D : Hp} {us : List V} {bss : List (List Bool)} (h : TbA D us bss) : TbA D us.reverse bss.reverse := ⟨by rw [List.length_reverse, List.length_reverse, h.1], fun i u cs h1 h2 => by
  have hi := (List.getElem?_eq_some_iff.mp h1).1
  rw [List.length_reverse] at hi
  rw [List.getElem?_reverse hi] at h1
  rw [List.getElem?_reverse (by rw [← h.1]; exact hi), ← h.1] at h2
  exact h.2 _ u cs h1 h2⟩
end Fk

namespace Fk
open PySem PySem.Spec PyProof.Rows L2
theorem divW1 {i m : Int} (h0 : 1 ≤ m) (h1 : m ≤ 1000000000000000000000000000000000000000000000000000000000001) : DivOk i m := by
  have h2 : m.natAbs ≤ 1000000000000000000000000000000000000000000000000000000000001 := by omega
  exact .inr (wide_div (b := 200) (by omega) (Nat.lt_of_le_of_lt h2 (by decide +kernel)) (by decide) (by decide))
/-! ## reversed(xs) -/
theorem walk_rev {K : PySem.W.Frag} {a : Addr} {xs : List V} : Walk (Itv K a xs.length) xs.length (fun H => SqL K H a xs) (fun i H v H' => H' = H ∧ xs[xs.length - 1 - i]? = some v) :=
  ⟨fun i _ hi q => ⟨hi, xs, xs[xs.length - 1 - i], q, List.getElem?_eq_getElem _⟩, fun _ q => Nat.le_refl _, fun i H v H' _ q y => ⟨y.1, y.2 xs q⟩⟩
section
variable {σ : L2.St} {D H : Hp} {L : Own} {K : PySem.W.Frag} {Q : VK}
def IsRvd (K : PySem.W.Frag) (v : V) (H1 : Hp) (R : It → Hp → Prop) : Prop := ∃ (a : Addr) (xs : List V), v = .ref a ∧ ((SqL K H1 a xs ∧ R (Itv K a xs.length) H1) ∨ (SqT K H1 a xs ∧ R (RT.ItvT K a xs.length) H1))
instance v_rv {te : TE} {R : It → Hp → Prop} : VC (RT.iRevA K te σ H R) (te σ H fun v H1 => IsRvd K v H1 R) := ⟨fun h => h⟩
instance v_rvL {a : Addr} {xs : List V} {R : It → Hp → Prop} [S : Sx D L H] [ha : Sl K D L a xs] : VC (IsRvd K (.ref a) H R) (R (Itv K a xs.length) H) := ⟨fun h => ⟨a, xs, rfl, .inl ⟨ha.pf.sq S, h⟩⟩⟩
/-! ## t.index(x), t a tuple of numbers -/
def rIdxT (K : PySem.W.Frag) : V → List V → Hp → VK → Prop := fun x xs H Q => ∃ (p : Addr) (ns : List Int) (z : Int), x = .ref p ∧ xs = [.int z] ∧ SqT K H p (ns.map V.int) ∧ z ∈ ns ∧ Q (.int (ns.idxOf z : Nat)) H
theorem mt_idxT {X : Cx} : MtR X "tuple.index" (rIdxT X.K) := by
  intro pins s σ H x xs v us Q I rx rs h
  obtain ⟨p, ns, z, rfl, rfl, hq, hz, q⟩ := h
  cases rx
  obtain ⟨u, rfl, t, rfl⟩ := vals1 rs
  obtain ⟨its, r, pl, _⟩ := I.tuple hq
  exact SeqAt.call_tuple_index pl (SeqAt.ItemsEq.ints r.ints) hz ⟨.int (ns.idxOf z : Nat), H, I.tok _, ⟨_, rfl⟩, q⟩
end
/-! ## tuples whose object is known: their methods can be called -/
class Kz (D : Hp) (a : Addr) (xs : outParam (List V)) : Prop where
  pf : ∃ o : Obj, D a = some (.frz o (.tup xs)) ∧ o.cls = .type "tuple" ∧ o.dict = none
instance kzUp {D D' : Hp} {a : Addr} {xs : List V} [s : Sm D D'] [k : Kz D a xs] : Kz D' a xs := ⟨let ⟨o, e, r⟩ := k.pf; ⟨o, s.e _ _ e, r⟩⟩
def rTupZ (K : PySem.W.Frag) : List V → Hp → VK → Prop := fun xs H Q => ∃ p ys, xs = [.ref p] ∧ SqL K H p ys ∧ ∀ (l : Addr) (o : Obj), H l = none → o.cls = .type "tuple" → o.dict = none → Q (.ref l) (upd H l (.frz o (.tup ys)))
theorem call_tupZ {X : Cx} : CallR X (.type "tuple") (rTupZ X.K) := by
  intro pins s σ H xs us Q I r h
  obtain ⟨p, ys, rfl, hq, q⟩ := h
  obtain ⟨u, rfl, rx⟩ := vals1 r
  cases rx
  obtain ⟨its, rv, pl, hz⟩ := I.list hq
  have hl := rv.length
  refine call_tuple_list pl.isList (fun h' kp => ?_) (by simp only [List.size_toArray] <;> omega)
  have I1 : Inv X pins σ H { s with heap := h' } := I.kept (t' := s.toks) kp
  refine ⟨.ref h'.objs.size, _, I1.laid (t' := s.toks) (o := .frz { cls := .type "tuple", data := .seq its.toArray } (.tup ys)) (fun b o e => Heap.get?_push_of_some _ e) (Nat.le_refl _) ⟨Heap.get?_push_size _ rfl, hz, its, rv, IsTup.new _ _⟩, rfl, q _ _ (I1.hok.fresh (Nat.le_refl _)) rfl rfl⟩
def tyZ : V → Hp → Prop := fun x H => ∃ (a : Addr) (o : Obj) (xs : List V), x = .ref a ∧ H a = some (.frz o (.tup xs)) ∧ o.cls = .type "tuple" ∧ o.dict = none
theorem ty_tupZ {X : Cx} : TyOk X "tuple" tyZ := by
  intro pins σ H s x v I r ty
  obtain ⟨a, o, xs, rfl, e, hc, hd⟩ := ty
  cases r
  obtain ⟨ho, _⟩ := (show ObjOk X.prog X.w H s.heap a (.frz o (.tup xs)) from I.hok a _ e)
  refine ⟨⟨o, ho, hc⟩, fun b hb => ?_⟩
  cases hb
  exact ⟨o, ho, hd⟩
section
variable {σ : L2.St} {D H : Hp} {L : Own} {K : PySem.W.Frag} {Q : VK}
theorem sqZ {a : Addr} {xs : List V} (S : Sx D L H) (h : Kz D a xs) : SqT K H a xs := let ⟨o, e, _⟩ := h.pf; .inl (.inr ⟨o, S.dH _ _ e⟩)
instance v_idxZ {a : Addr} {xs : List V} {ns : List Int} {z : Int} [S : Sx D L H] [ha : Kz D a xs] [c : IsC xs ns] : VC (rIdxT K (.ref a) [.int z] H Q) (z ∈ ns ∧ Q (.int (ns.idxOf z : Nat)) H) :=
  ⟨fun h => ⟨a, ns, z, rfl, rfl, by rw [← c.pf]; exact sqZ S ha, h.1, h.2⟩⟩
instance v_mG {to : TE} {t : TA} {ty : V → Hp → Prop} {r : V → List V → Hp → VK → Prop} : VC (tMG ty r to t σ H Q) (to σ H fun x H1 => ty x H1 ∧ t σ H1 fun xs H2 => r x xs H2 Q) := ⟨fun h => h⟩
instance v_tyZ {a : Addr} {xs : List V} {p : Prop} [S : Sx D L H] [ha : Kz D a xs] : VC (tyZ (.ref a) H ∧ p) p := ⟨fun h => ⟨let ⟨o, e, r1, r2⟩ := ha.pf; ⟨a, o, xs, rfl, S.dH _ _ e, r1, r2⟩, h⟩⟩
instance v_tupZ {a : Addr} {xs : List V} [S : Sx D L H] [ha : Sl K D L a xs] : VC (rTupZ K [.ref a] H Q) (∀ p D' H', Sx D' L H' → Sm D D' → Kz D' p xs → Q (.ref p) H') :=
  ⟨fun h => ⟨a, xs, rfl, ha.pf.sq S, fun p o hp h1 h2 => h p _ _ (S.fix hp) ⟨same_upd (S.dH.free hp)⟩ ⟨o, upd_same, h1, h2⟩⟩⟩
instance tyTupZ {a : Addr} {xs : List V} [S : Sx D L H] [k : Kz D a xs] : TyC K H (.ref a) "tuple" := ⟨let ⟨o, e, _⟩ := k.pf; .fTuple (S.dH _ _ e)⟩
instance v_lenZ {a : Addr} {xs : List V} {n : Nat} [S : Sx D L H] [ha : Kz D a xs] [l : LnC xs n] : VC (rLen K [.ref a] H Q) (Q (.int n) H) := ⟨fun h => ⟨.ref a, xs.length, rfl, .inr ⟨xs, sqZ S ha, rfl⟩, by rw [l.pf]; exact h⟩⟩
instance v_sqZ {a : Addr} {xs : List V} {R : It → Hp → Prop} [S : Sx D L H] [ha : Kz D a xs] : VC (IsSq K (.ref a) H R) (R (Itt K a) H) := ⟨fun h => .inr ⟨a, rfl, ⟨xs, sqZ S ha⟩, h⟩⟩
instance v_ixZ {a : Addr} {xs : List V} {i : Int} {v : V} [S : Sx D L H] [ha : Kz D a xs] [h : AtC xs i v] : VC (rIx K (.ref a) (.int i) H Q) (Q v H) := ⟨fun k => .inr (.inl ⟨a, xs, i, v, rfl, rfl, sqZ S ha, h.pf, k⟩)⟩
instance v_sumZ {a : Addr} {xs : List V} {ns : List Int} [S : Sx D L H] [ha : Kz D a xs] [c : IsC xs ns] : VC (rSumX K [.ref a] H Q) (Q (.int ns.sum) H) := ⟨fun h => .inr ⟨a, ns, rfl, by rw [← c.pf]; exact sqZ S ha, h⟩⟩
instance v_sortRZ {a : Addr} {xs : List V} {ns : List Int} [S : Sx D L H] [ha : Kz D a xs] [c : IsC xs ns] : VC (rSortedR K [.ref a] [.bl true] H Q) (∀ ns' : List Int, ns'.Perm ns → ns'.Pairwise (· ≥ ·) → ∀ p H', Sx D ((p, .lst (ns'.map V.int)) :: L) H' → Q (.ref p) H') :=
  ⟨fun h => ⟨a, ns, rfl, rfl, .inr (by rw [← c.pf]; exact sqZ S ha), fun ns' p h1 h2 hp => h ns' h1 h2 p _ (S.new hp)⟩⟩
instance v_minZ {a : Addr} {xs : List V} {ns : List Int} [S : Sx D L H] [ha : Kz D a xs] [c : IsC xs ns] : VC (rMinY K [.ref a] H Q) (0 < ns.length ∧ ∀ m, m ∈ ns → (∀ y, y ∈ ns → m ≤ y) → Q (.int m) H) := ⟨fun h => c_minYS (sqZ S ha) h⟩
instance v_maxZ {a : Addr} {xs : List V} {ns : List Int} [S : Sx D L H] [ha : Kz D a xs] [c : IsC xs ns] : VC (rMaxY K [.ref a] H Q) (0 < ns.length ∧ Q (.int (mxL ns)) H) := ⟨fun h => c_maxYS (sqZ S ha) h⟩
/-! ## the same data on both sides -/
theorem r_neSame {x y : V} {d : PyData} {n : Nat} (hx : Dp K H x d) (hy : Dp K H y d) (sh : Sh n d) (k : Q (.bl false) H) (hn : n ≤ 64 := by decide) : rNeX K x y H Q :=
  .inr ⟨d, d, hx, hy, sh.ok hn, sh.ok hn, by rw [SeqAt.eqv_refl d sh.1]; exact k⟩
theorem r_eqSame {x y : V} {d : PyData} {n : Nat} (hx : Dp K H x d) (hy : Dp K H y d) (sh : Sh n d) (k : Q (.bl true) H) (hn : n ≤ 64 := by decide) : rEqX K x y H Q :=
  .inr ⟨d, d, hx, hy, sh.ok hn, sh.ok hn, by rw [SeqAt.eqv_refl d sh.1]; exact k⟩
/-- a number, a list of pairs, one thing more -/
abbrev nplD (c : Int) (ps : List (Int × Int)) (d : PyData) : PyData := .tuple [.int c, .list (ps.map pI), d]
theorem sh_npl {c : Int} {ps : List (Int × Int)} {d : PyData} (h : Sh 2 d) : Sh 3 (nplD c ps d) := Sh.tup (n := 2) fun e he => by
  rcases List.mem_cons.mp he with rfl | he
  · exact Sh.int 2 c
  · rcases List.mem_cons.mp he with rfl | he
    · exact Sh.list (n := 1) fun z hz => by
        obtain ⟨p, _, rfl⟩ := List.mem_map.mp hz
        exact Sh.tup (n := 0) Sh.ints
    · rw [List.mem_singleton.mp he]
      exact h
theorem dp_npl {t g : Addr} {c : Int} {us : List V} {ps : List (Int × Int)} {v : V} {d : PyData} (S : Sx D L H) (kt : Kn D t (.tup [.int c, .ref g, v])) (hg : Rds K D L g us) (hr : RpAll D us (ps.map pI)) (hd : Dp K H v d) : Dp K H (.ref t) (nplD c ps d) :=
  .tup (sqT S kt.pf) (.cons (.int c) (.cons (.lst (hg.sq S) (RpAll.dp (RpAll.up S.dH hr))) (.cons hd .nil)))
end
/-! ## t + u, the object known -/
def rCatZ (K : PySem.W.Frag) : R2 := fun x y H Q => ∃ (a b : Addr) (xs ys : List V), x = .ref a ∧ y = .ref b ∧ SqT K H a xs ∧ SqT K H b ys ∧ xs ≠ [] ∧ ys ≠ [] ∧ xs.length + ys.length ≤ sizeLine ∧
  ∀ (p : Addr) (o : Obj), H p = none → o.cls = .type "tuple" → o.dict = none → Q (.ref p) (upd H p (.frz o (.tup (xs ++ ys))))
theorem opCatZ {X : Cx} : OpR X (binaryOp .Add) (rCatZ X.K) := by
  intro pins s σ H x y v u Q I rx ry h
  obtain ⟨a, b, xs, ys, rfl, rfl, ha, hb, hx, hy, hz, q⟩ := h
  cases rx
  cases ry
  obtain ⟨its, r1, p1, _⟩ := I.tuple ha
  obtain ⟨its2, r2, p2, _⟩ := I.tuple hb
  refine HT.cat_tup p1 p2 (fun z => hx (r1.nil_iff.mp z)) (fun z => absurd (r2.nil_iff.mp z) hy) (fun z => ?_) (by rw [← r1.length, ← r2.length]; exact hz)
  exact ⟨.ref s.heap.objs.size, _, I.laid (t' := s.toks) (o := .frz { cls := .type "tuple", data := .seq (its ++ its2).toArray } (.tup (xs ++ ys))) (fun b ob q => Heap.get?_push_of_some _ q) (Nat.le_refl _) ⟨Heap.get?_push_size _ rfl, by rw [List.length_append]; exact hz, _, r1.append r2, IsTup.new _ _⟩, rfl, q _ _ (I.hok.fresh (Nat.le_refl _)) rfl rfl⟩
section
variable {σ : L2.St} {D H : Hp} {L : Own} {K : PySem.W.Frag} {Q : VK}
instance v_catZ {a b : Addr} {xs ys : List V} [S : Sx D L H] [ha : Kz D a xs] [hb : Kn D b (.tup ys)] : VC (rCatZ K (.ref a) (.ref b) H Q) ((xs ≠ [] ∧ ys ≠ [] ∧ xs.length + ys.length ≤ 16777216) ∧ ∀ p D' H', Sx D' L H' → Sm D D' → Kz D' p (xs ++ ys) → Q (.ref p) H') :=
  ⟨fun h => ⟨a, b, xs, ys, rfl, rfl, sqZ S ha, sqT S hb.pf, h.1.1, h.1.2.1, h.1.2.2, fun p o hp h1 h2 => h.2 p _ _ (S.fix hp) ⟨same_upd (S.dH.free hp)⟩ ⟨o, upd_same, h1, h2⟩⟩⟩
end
end Fk

namespace Fk
open PySem PySem.Spec PyProof.Rows L2
/-! ## zip of a list and a tuple -/
def Itzl (K : PySem.W.Frag) (a b : Addr) : It :=
  ⟨fun i H => ∃ (xs ys : List V) (x y : V), SqL K H a xs ∧ SqT K H b ys ∧ xs[i]? = some x ∧ ys[i]? = some y,
    fun i H v H' => ∃ T x y, v = .ref T ∧ H T = none ∧ H' = upd H T (.tup [x, y]) ∧ (∀ xs, SqL K H a xs → xs[i]? = some x) ∧ ∀ ys, SqT K H b ys → ys[i]? = some y,
    fun i H => ∃ xs ys : List V, SqL K H a xs ∧ SqT K H b ys ∧ i ≤ xs.length ∧ i ≤ ys.length ∧ (i = xs.length ∨ i = ys.length)⟩
theorem turn_zipL {P : Program} {w : World} {K : PySem.W.Frag} {elts : List Expr} {kk : Nat} {tpos : Pos} {a b z TI TO i1 i2 : Addr} (hai : a ≠ i1) (hbi : b ≠ i2) (S : ZipSep2 z TI TO i1 i2 [i1, a] [i2, b]) :
    Turn P w K (.Tuple elts kk tpos) (Itzl K a b) [z, TI, TO, i1, i2] z (fun i h => IsZip h z TI TO .none ∧ IsTupOf2 h TI (.ref i1) (.ref i2) ∧ (∃ x y, IsTupOf2 h TO x y) ∧ h.IsListIter i1 a i ∧ h.IsTupleIter i2 b i) where
  mem := by simp
  obj := fun i h st c hc => by
    obtain ⟨hz, hTI, ⟨x, y, hTO⟩, ⟨o1, e1, _, d1⟩, ⟨o2, e2, _, d2⟩⟩ := st
    have e' : c = z ∨ c = TI ∨ c = TO ∨ c = i1 ∨ c = i2 := by simpa using hc
    rcases e' with q | q | q | q | q
    · rw [q]; exact ⟨_, hz, fun v q => nomatch q⟩
    · rw [q]; exact ⟨_, hTI, fun v q => nomatch q⟩
    · rw [q]; exact ⟨_, hTO, fun v q => nomatch q⟩
    · rw [q]; exact ⟨o1, e1, fun v q => by rw [d1] at q; cases q⟩
    · rw [q]; exact ⟨o2, e2, fun v q => by rw [d2] at q; cases q⟩
  keep := fun i h h' st k => by
    obtain ⟨hz, hTI, ⟨x, y, hTO⟩, h1, h2⟩ := st
    exact ⟨k z (by simp) _ hz, k TI (by simp) _ hTI, ⟨x, y, k TO (by simp) _ hTO⟩, h1.at fun o q => k i1 (by simp) o q, h2.at fun o q => k i2 (by simp) o q⟩
  item := by
    intro X hP hw hK hc i pins s σ H E I hf st hg
    subst hP hw hK
    obtain ⟨hz, hTI, ⟨x0, y0, hTO⟩, h1, h2⟩ := st
    obtain ⟨xs, ys, x, y, hqx, hqy, hx, hy⟩ := hg
    obtain ⟨its, rv, p, _⟩ := I.list hqx
    obtain ⟨its2, rv2, p2, _⟩ := I.tuple hqy
    obtain ⟨u, hu, ru⟩ := rv.get hx
    obtain ⟨u2, hu2, ru2⟩ := rv2.get hy
    have hzl : z < s.heap.objs.size := Heap.lt_size hz
    have n1 : i < its.toArray.size := by simpa using (List.getElem?_eq_some_iff.mp hu).1
    have n2 : i < its2.toArray.size := by simpa using (List.getElem?_eq_some_iff.mp hu2).1
    have hh := I.ok.hd hc
    refine wpAny_pyNext_zipD2_item S (Draws.list (A := X.A.in1) (show X.A.in1.handled = none from hh) i1 a hai its.toArray) (Draws.tuple (A := X.A.in1) (show X.A.in1.handled = none from hh) i2 b hbi its2.toArray) hz hTI hTO ⟨h1, p.isList⟩ ⟨h2, p2⟩ n1 n2
      fun v1 v2 h' tk hv1 hv2 z' TO' st1 st2 hT hsz hk => ?_
    have ev1 : v1 = u := by
      rw [List.getElem?_toArray, hu] at hv1
      exact (Option.some.inj hv1).symm
    have ev2 : v2 = u2 := by
      rw [List.getElem?_toArray, hu2] at hv2
      exact (Option.some.inj hv2).symm
    subst ev1 ev2
    refine ⟨_, rfl, wpAny_letOwnedTupleGo_zip (s := { s with heap := h', toks := tk }) z' fun h'' z'' sb => ?_⟩
    have hT2 : h''.get? s.heap.objs.size = some { cls := .type "tuple", data := .seq #[v1, v2] } := (sb.2 _ (Nat.ne_of_gt hzl)).trans hT
    have new : ObjOk X.prog X.w (upd H s.heap.objs.size (.tup [x, y])) h'' s.heap.objs.size (.tup [x, y]) :=
      ⟨by show 2 ≤ sizeLine; decide, [v1, v2], .cons ru (.cons ru2 .nil), ⟨_, hT2, rfl, _, rfl⟩⟩
    have I1 : Inv X pins σ (upd H s.heap.objs.size (.tup [x, y])) { s with heap := h'', toks := tk } :=
      I.turnedNew (t' := tk) (ch := [z, TI, TO, i1, i2]) (fun c o hb q => (sb.2 c (fun q' => hb (by simp [q']))).trans (hk c o (fun q' => hb (by simp [q'])) (fun q' => hb (by simp [q'])) (fun q' => hb (by simp [q'])) (fun q' => hb (by simp [q'])) q)) hf (Nat.le_refl _) new
    refine ⟨.ref s.heap.objs.size, _, I1, rfl, ⟨_, x, y, rfl, I.hok.fresh (Nat.le_refl _), rfl, fun l hl => by rw [I.list_inj hl hqx]; exact hx, fun l hl => by rw [I.tuple_inj hl hqy]; exact hy⟩, ⟨z'', ?_, ⟨v1, v2, ?_⟩, ?_, ?_⟩, fun c hcm => ?_⟩
    · exact (sb.2 _ S.TIz).trans (hk _ _ S.TIz S.TITO S.TIi1 S.TIi2 hTI)
    · exact (sb.2 _ S.TOz).trans TO'
    · exact st1.1.at fun o q => (sb.2 _ (Ne.symm S.zi1)).trans q
    · exact st2.1.at fun o q => (sb.2 _ (Ne.symm S.zi2)).trans q
    · have hlt : c < s.heap.objs.size := by
        have e' : c = z ∨ c = TI ∨ c = TO ∨ c = i1 ∨ c = i2 := by simpa using hcm
        rcases e' with q | q | q | q | q
        · rw [q]; exact hzl
        · rw [q]; exact Heap.lt_size hTI
        · rw [q]; exact Heap.lt_size hTO
        · rw [q]; obtain ⟨_, e1, _⟩ := h1; exact Heap.lt_size e1
        · rw [q]; obtain ⟨_, e2, _⟩ := h2; exact Heap.lt_size e2
      rw [upd_ne (Nat.ne_of_lt hlt)]
      exact (hf c hcm).1
  done := by
    intro X hP hw hK hc i pins s σ H E I hf st hg
    subst hP hw hK
    obtain ⟨hz, hTI, ⟨x0, y0, hTO⟩, h1, h2⟩ := st
    obtain ⟨xs, ys, hqx, hqy, l1, l2, hend⟩ := hg
    obtain ⟨its, rv, p, _⟩ := I.list hqx
    obtain ⟨its2, rv2, p2, _⟩ := I.tuple hqy
    have q1 := rv.length
    have q2 := rv2.length
    have z1 : its.toArray.size = xs.length := by simp [q1]
    have z2 : its2.toArray.size = ys.length := by simp [q2]
    have hh := I.ok.hd hc
    refine wpAny_pyNext_zipD2_end (i := i) S (Draws.list (A := X.A.in1) (show X.A.in1.handled = none from hh) i1 a hai its.toArray) (Draws.tuple (A := X.A.in1) (show X.A.in1.handled = none from hh) i2 b hbi its2.toArray) hz hTI hTO ⟨h1, p.isList⟩ ⟨h2, p2⟩ (by rw [z1]; exact l1) (by rw [z2]; exact l2) (by rw [z1, z2]; exact hend)
      fun h' tk hk => ⟨rfl, I.turnedL (t' := tk) (ch := [z, TI, TO, i1, i2]) (fun c o hb q =>
      hk c o (fun q' => hb (by simp [q'])) (fun q' => hb (by simp [q'])) (fun q' => hb (by simp [q'])) (fun q' => hb (by simp [q'])) q) hf⟩
  self := fun A i s Q E st h => wpAny_pyIter_zip st.1 h
def iZipL (K : PySem.W.Frag) (ta : TA) : TI := fun σ H R => ta σ H fun vs H1 => ∃ a b xs ys, vs = [.ref a, .ref b] ∧ SqL K H1 a xs ∧ SqT K H1 b ys ∧ R (Itzl K a b) H1
theorem pi_zipL (K : PySem.W.Frag) {X : Cx} {e e2 : Expr} {ta : TA} {p pos tpos : Pos} {elts : List Expr} {kk : Nat} (hg : Gl X "zip") (hm : X.mg "zip" = none) (ha : PA X [e, e2] ta) (hK : X.K = K := by rfl)
    (hs : starEach [e, e2] X.env = (false, eval e X.env) :: starEach [e2] X.env := by rfl) (hpl : (backTo pos (starEach [e2] X.env)).any (·.1) = false := by rfl) :
    PI X (.Tuple elts kk tpos) (.Call (.Name "zip" p) [e, e2] [] pos) (iZipL K ta) := by
  subst hK
  refine ⟨fun pins s σ H R I h => ?_⟩
  refine Call_ (ld_blt I hg hm PyProof.Rows.boot_zip (PyProof.Rows.callWith_type1 (thn (ha.run pos pins s σ H _ I h) fun us s1 ⟨vs, H1, I1, r1, q1⟩ => ?_) hs hpl))
  have fresh5 : ∀ c, c ∈ [s1.heap.objs.size + 4, s1.heap.objs.size + 2, s1.heap.objs.size + 3, s1.heap.objs.size, s1.heap.objs.size + 1] → FpOk X pins H1 c := fun c hcm => by
    have e' : c = s1.heap.objs.size + 4 ∨ c = s1.heap.objs.size + 2 ∨ c = s1.heap.objs.size + 3 ∨ c = s1.heap.objs.size ∨ c = s1.heap.objs.size + 1 := by simpa using hcm
    have hle : s1.heap.objs.size ≤ c := by
      rcases e' with z | z | z | z | z
      · rw [z]; exact Nat.le_add_right _ _
      · rw [z]; exact Nat.le_add_right _ _
      · rw [z]; exact Nat.le_add_right _ _
      · rw [z]; exact Nat.le_refl _
      · rw [z]; exact Nat.le_add_right _ _
    exact I1.fpOk hle (I1.hok.fresh hle)
  obtain ⟨a, b, xs, ys, ex, hqx, hqy, q⟩ := q1
  subst ex
  cases r1 with
  | cons r rr =>
    cases rr with
    | cons r' rr =>
      cases rr
      cases r
      cases r'
      obtain ⟨its, rv, p1, _⟩ := I1.list hqx
      obtain ⟨its2, rv2, p2, _⟩ := I1.tuple hqy
      obtain ⟨o2, ho2, _⟩ := id p2
      have la : a < s1.heap.objs.size := p1.lt
      have lb : b < s1.heap.objs.size := Heap.lt_size ho2
      refine zip_begins2 (begins_list a its.toArray) (begins_tuple b its2.toArray) p1.isList (show s1.heap.IsTuple b its2.toArray from p2) fun h' hz hTI hTO h1 h2 hsz hk => wpAny_pyIter_zip hz ?_
      have I2 : Inv X pins σ H1 { s1 with heap := h' } := I1.kept (t' := s1.toks) hk
      exact ⟨s1.heap.objs.size + 4, [s1.heap.objs.size + 4, s1.heap.objs.size + 2, s1.heap.objs.size + 3, s1.heap.objs.size, s1.heap.objs.size + 1], _, _, H1, rfl, I2,
        turn_zipL (Nat.ne_of_lt la) (Nat.ne_of_lt (Nat.lt_succ_of_lt lb)) (zip_sep2 (N := s1.heap.objs.size) (fp1 := [a]) (fp2 := [b]) (fun c hc => by rw [List.mem_singleton.mp hc]; exact la) (fun c hc => by rw [List.mem_singleton.mp hc]; exact lb)),
        ⟨hz, hTI, ⟨_, _, hTO⟩, ⟨_, h1, rfl, rfl⟩, ⟨_, h2, rfl, rfl⟩⟩, fresh5, q⟩
theorem walk_zipL {K : PySem.W.Frag} {a b : Addr} {xs ys : List V} {n : Nat} (hn : n = min xs.length ys.length) : Walk (Itzl K a b) n (fun H => SqL K H a xs ∧ SqT K H b ys) (YPair (fun i => xs[i]?) (fun i => ys[i]?)) := by
  subst hn
  refine ⟨fun i H hi q => ?_, fun H q => ⟨xs, ys, q.1, q.2, by omega, by omega, by omega⟩, fun i H v H' hi q y => ?_⟩
  · have k1 : i < xs.length := by omega
    have k2 : i < ys.length := by omega
    exact ⟨xs, ys, xs[i], ys[i], q.1, q.2, by simp [k1], by simp [k2]⟩
  · obtain ⟨T, x, z, e1, e2, e3, e4, e5⟩ := y
    exact ⟨T, x, z, e1, e2, e3, e4 xs q.1, e5 ys q.2⟩
section
variable {σ : L2.St} {D H : Hp} {L : Own} {K : PySem.W.Frag} {Q : VK}
def IsZL (K : PySem.W.Frag) (vs : List V) (H1 : Hp) (R : It → Hp → Prop) : Prop := ∃ a b xs ys, vs = [.ref a, .ref b] ∧ SqL K H1 a xs ∧ SqT K H1 b ys ∧ R (Itzl K a b) H1
instance v_zipLw {tr : TA} {R : It → Hp → Prop} : VC (iZipL K tr σ H R) (tr σ H fun vs H1 => IsZL K vs H1 R) := ⟨fun h => h⟩
instance v_zipLLT {a b : Addr} {xs ys : List V} {R : It → Hp → Prop} [S : Sx D L H] [ha : Sl K D L a xs] [hb : Kn D b (.tup ys)] : VC (IsZL K [.ref a, .ref b] H R) (R (Itzl K a b) H) := ⟨fun h => ⟨a, b, xs, ys, rfl, ha.pf.sq S, sqT S hb.pf, h⟩⟩
end
end Fk

namespace Fk
open PySem PySem.Spec PyProof.Rows L2
/-! ## {t: v}, t a tuple -/
def tDisp1T (tk tv : TE) : TE := fun σ H Q => ∀ p, H p = none → tk σ (upd H p (.dT [])) fun x H1 => tv σ H1 fun y H2 => H2 p = some (.dT []) ∧ ∃ (k : List Key) (b : Addr), x = .ref b ∧ H2 b = some (.tup (k.map kV)) ∧ Q (.ref p) (upd H2 p (.dT [(k, y)]))
theorem pe_disp1T {X : Cx} {pos : Pos} {ek ev : Expr} {tk tv : TE} (hu : X.A.units + 1 < cLine) (hk : PE X ek tk) (hv : PE X ev tv) : PE X (.Dict [some ek] [ev] pos) (tDisp1T tk tv) := by
  refine ⟨fun pins s σ H Q I q => ?_⟩
  have hn := I.hok.fresh (Nat.le_refl s.heap.objs.size)
  have I1 := I.laid (a := s.heap.objs.size) (o := .dT []) (h' := s.heap.push { cls := .type "dict", data := .dict #[] }) (t' := s.toks) (fun _ _ q => Heap.get?_push_of_some _ q) (Nat.le_refl _) (dt_empty s.heap I.big)
  have hlen := pairTrees_length [some ek] [ev] X.env pos rfl rfl
  rw [arm_eval_Dict, zip_pairTrees [some ek] [ev] X.env pos rfl rfl, dictDisplay_pairs (pairTrees [some ek] [ev] X.env pos) (fun e => by rw [e] at hlen; simp at hlen) (by rw [hlen]; show 1 < 17; decide)]
  refine wpAny_bind (wpAny_standAt (wpAny_bind (wpAny_subDictH (knd := tupleKind (mixKind X.prog X.w)) (Q := fun d s' => wpAny (model X.prog X.w) X.A (pure (Value.ref d)) (EP X pins σ Q) X.xe s') (Nat.lt_of_le_of_lt (Nat.le_succ _) hu) (by rw [hlen]; show 1 ≤ 15; decide) ?_)))
  refine thn ((pps_cons hk hv pps_nil).run pins _ σ _ (fun ps H2 => match ps with | [(x, y)] => H2 s.heap.objs.size = some (.dT []) ∧ ∃ (k : List Key) (b : Addr), x = .ref b ∧ H2 b = some (.tup (k.map kV)) ∧ Q (.ref s.heap.objs.size) (upd H2 s.heap.objs.size (.dT [(k, y)])) | _ => False) I1 (q _ hn)) fun ws s2 ⟨ps, H2, I2, rel, q2⟩ => ?_
  cases rel with
  | nil => exact q2.elim
  | @cons a b as bs h t =>
    cases t with
    | cons h' t' => exact q2.elim
    | nil =>
      obtain ⟨x, y⟩ := a
      obtain ⟨u, r⟩ := b
      obtain ⟨e, k, b, rfl, eb, q3⟩ := q2
      obtain ⟨h1, h2⟩ := h
      cases (show u = Value.ref b from h1)
      obtain ⟨z, hd, xs, rel0, dd⟩ := dt_of I2.hok e
      cases rel0
      refine ⟨[(k, b, r)], ⟨rfl, rfl, key_of I2.hok eb, True.intro⟩, dd, fun h' tk hm hs => wpAny_pure ⟨.ref s.heap.objs.size, _, ?_, rfl, q3⟩⟩
      obtain ⟨o, es, ep, hq, g2, g3, g4, _, g5⟩ := hm
      refine d_write I2 (by rw [e]; exact True.intro) hs ⟨o, hq⟩ ⟨by show 1 ≤ sizeLine; decide, hd, [(k, b, r)], .cons ⟨rfl, ?_, h2⟩ .nil, o, es, ep, hq, g2, g3, g4, g5⟩
      rw [upd_ne (ne_of eb e (fun z => nomatch z))]
      exact eb
instance keM {ns : List Int} : KeC (ns.map V.int) (ns.map Sum.inl) := ⟨by rw [List.map_map]; rfl⟩
section
variable {σ : L2.St} {D H : Hp} {L : Own} {K : PySem.W.Frag} {Q : VK}
instance v_sortWZ {a : Addr} {xs : List V} {ns : List Int} [S : Sx D L H] [ha : Kz D a xs] [c : IsC xs ns] : VC (rSortedW K [.ref a] H Q) (∀ ns' : List Int, ns'.Perm ns → ns'.Pairwise (· ≤ ·) → ∀ p H', Sx D ((p, .lst (ns'.map V.int)) :: L) H' → Q (.ref p) H') :=
  ⟨fun h => .inl ⟨a, ns, rfl, .inr (by rw [← c.pf]; exact sqZ S ha), fun ns' p h1 h2 hp => h ns' h1 h2 p _ (S.new hp)⟩⟩
def NwD1 (p : Addr) (x y : V) (H2 : Hp) (Q : VK) : Prop := H2 p = some (.dT []) ∧ ∃ (k : List Key) (b : Addr), x = .ref b ∧ H2 b = some (.tup (k.map kV)) ∧ Q (.ref p) (upd H2 p (.dT [(k, y)]))
instance v_disp1T {tk tv : TE} [S : Sx D L H] : VC (tDisp1T tk tv σ H Q) (∀ p H', Sx D ((p, .dT []) :: L) H' → tk σ H' fun x H1 => tv σ H1 fun y H2 => NwD1 p x y H2 Q) := ⟨fun h p hp => h p _ (S.new hp)⟩
instance v_nwD1 {p b : Addr} {y : V} {us : List V} {k : List Key} {n : Nat} {L' : Own} [S : Sx D L H] [h : Fi L p (.dT []) n] [kb : Kn D b (.tup us)] [c : KeC us k] [e : Se L n (p, .dT [(k, y)]) L'] : VC (NwD1 p (.ref b) y H Q) (∀ H', Sx D L' H' → Q (.ref p) H') :=
  ⟨fun z => ⟨S.at h.pf, k, b, rfl, by rw [← c.pf]; exact S.dH _ _ kb.pf, z _ (by have := S.put (.dT [(k, y)]) h.pf; rw [e.pf] at this; exact this)⟩⟩
end
end Fk

namespace Fk
open PySem PySem.Spec PyProof.Rows L2
/-! ## sorted pairs, in their order -/
def leP (a b : Int × Int) : Prop := a.1 < b.1 ∨ (a.1 = b.1 ∧ a.2 ≤ b.2)
/-- the two numbers of the tuple that stands there -/
def keyD (D : Hp) : V → Int × Int
  | .ref t => match D t with
    | some (.tup [.int i, .int j]) => (i, j)
    | _ => (0, 0)
  | _ => (0, 0)
theorem keyD_at {D : Hp} {b : Addr} {i j : Int} (e : D b = some (.tup [.int i, .int j])) : keyD D (.ref b) = (i, j) := by
  show (match D b with
    | some (.tup [.int i, .int j]) => (i, j)
    | _ => (0, 0)) = (i, j)
  rw [e]
theorem keyD_map {D : Hp} : ∀ {us : List V} {xs : List (Int × Int)}, RpAll D us (xs.map pI) → us.map (keyD D) = xs
  | [], [], _ => rfl
  | [], _ :: _, h => nomatch h
  | _ :: _, [], h => nomatch h
  | u :: us, x :: xs, .cons h t => by
    obtain ⟨b, rfl, e⟩ := h.inv_tupI
    have e1 : keyD D (.ref b) = x := keyD_at e
    rw [List.map_cons, e1, keyD_map t]
theorem rp_keys {D : Hp} {us : List V} {xs : List (Int × Int)} (h : RpAll D us (xs.map pI)) : ∀ {ys : List V}, (∀ y, y ∈ ys → y ∈ us) → RpAll D ys ((ys.map (keyD D)).map pI)
  | [], _ => .nil
  | y :: ys, hy => by
    obtain ⟨b, x, _, rfl, kb⟩ := ra_memP h (hy y List.mem_cons_self)
    have e1 : keyD D (.ref b) = x := keyD_at kb.pf
    rw [List.map_cons, List.map_cons, e1]
    exact .cons (.tupI (ns := [x.1, x.2]) kb.pf) (rp_keys h fun z hz => hy z (List.mem_cons_of_mem _ hz))
section
variable {σ : L2.St} {D H : Hp} {L : Own} {K : PySem.W.Frag} {Q : VK}
theorem c_sortPO {a : Addr} {us : List V} {xs : List (Int × Int)} (S : Sx D L H) (ha : Rds K D L a us) (hr : RpAll D us (xs.map pI)) (k : ∀ (ys : List V) (P : List (Int × Int)) p H', P.Perm xs → P.Pairwise leP → RpAll D ys (P.map pI) → Sx D ((p, .lst ys) :: L) H' → Q (.ref p) H') : rSortedPO K [.ref a] H Q := by
  refine ⟨a, us, keyD D, rfl, ha.sq S, fun v hv => ?_, fun ys p h1 h2 hn => k ys (ys.map (keyD D)) p _ ?_ ?_ (rp_keys hr fun y hy => h2.perm.mem_iff.mp hy) (S.new hn)⟩
  · obtain ⟨b, x, _, rfl, kb⟩ := ra_memP hr hv
    have e1 : keyD D (.ref b) = x := keyD_at kb.pf
    rw [e1]
    exact ⟨b, rfl, S.dH _ _ kb.pf⟩
  · have := h2.perm.map (keyD D)
    rw [keyD_map hr] at this
    exact this
  · refine List.Pairwise.map _ (fun x y h => ?_) h1
    have := SrtO.lexB_no.mp h
    show (keyD D x).1 < (keyD D y).1 ∨ ((keyD D x).1 = (keyD D y).1 ∧ (keyD D x).2 ≤ (keyD D y).2)
    omega
end
end Fk

namespace Fk
open PySem PySem.Spec PyProof.Rows L2
/-! ## sorted(d.items()), keys and values numbers -/
abbrev entI (e : Int × Int) : Key × V := (Sum.inl e.1, V.int e.2)
def rItemsK : V → List V → Hp → VK → Prop := fun x xs H Q => ∃ (a : Addr) (kvs : List (Key × V)), x = .ref a ∧ xs = [] ∧ H a = some (.dK kvs) ∧ ∀ p, H p = none → Q (.ref p) (upd H p (DX.itemsO p a))
theorem mt_itemsK {X : Cx} : MtR X "dict.items" rItemsK := by
  intro pins s σ H x xs v us Q I rx rxs h
  obtain ⟨a, kvs, rfl, rfl, ha, q⟩ := h
  cases rx
  cases rxs
  obtain ⟨z, hd, vs, rel, o, es, ep, ho, hx, hdat, _⟩ := dk_of I.hok ha
  refine DT.callItems (es := es) (ep := ep) hd ⟨o, ho, hx, hdat⟩ ?_
  have hf : H s.heap.objs.size = none := I.hok.fresh (Nat.le_refl _)
  exact ⟨.ref s.heap.objs.size, _, I.laid (t' := s.toks) (fun b u e => Heap.get?_push_of_some _ e) (Nat.le_refl _) (DX.itemsO_ok (Heap.get?_push_size _ rfl)), rfl, q _ hf⟩
/-- one call deeper -/
abbrev inX (X : Cx) : Cx := { X with A := X.A.in1 }
theorem inv_in {X : Cx} {pins : List (Addr × Obj)} {σ : L2.St} {H : Hp} {s : Shared} (I : Inv X pins σ H s) : Inv (inX X) pins σ H s :=
  ⟨⟨I.ok.mod, I.ok.kind, I.ok.glob, I.ok.blt, I.ok.above, I.ok.inj, I.ok.has, I.ok.cab, I.ok.hd, I.ok.frames, I.ok.stk, I.ok.exf, I.ok.bs, I.ok.bsz, I.ok.noex, I.ok.exfs, I.ok.funs, I.ok.frf⟩, I.os, I.bare, I.base, I.loc, I.cell, I.free, I.freeC, I.pin, I.hok, I.len⟩
theorem inv_out {X : Cx} {pins : List (Addr × Obj)} {σ : L2.St} {H : Hp} {s : Shared} (ok : X.Ok) (I : Inv (inX X) pins σ H s) : Inv X pins σ H s :=
  ⟨ok, I.os, I.bare, I.base, I.loc, I.cell, I.free, I.freeC, I.pin, I.hok, I.len⟩
theorem pairs_at {prog : Program} {w : World} {KK : Type} [DecidableEq KK] {knd : PySem.KeyKind prog w KK} : ∀ {es : List DictEntry} {kvs : List (KK × Value)} {j : Nat} {e : DictEntry}, Pairs knd es kvs → es[j]? = some e → ∃ kv, kvs[j]? = some kv ∧ knd.is kv.1 e.key = true ∧ e.val = kv.2
  | _, _, j, _, .nil, h => by simp at h
  | _, _, 0, _, .cons h1 h2 _, h => by
    simp only [List.getElem?_cons_zero] at h
    cases h
    exact ⟨_, rfl, h1, h2⟩
  | _, _, j + 1, _, .cons _ _ t, h => by
    simp only [List.getElem?_cons_succ] at h
    obtain ⟨kv, h1, h2⟩ := pairs_at t h
    exact ⟨kv, by rw [List.getElem?_cons_succ]; exact h1, h2⟩
theorem pairs_len {prog : Program} {w : World} {KK : Type} [DecidableEq KK] {knd : PySem.KeyKind prog w KK} : ∀ {es : List DictEntry} {kvs : List (KK × Value)}, Pairs knd es kvs → es.length = kvs.length
  | _, _, .nil => rfl
  | _, _, .cons _ _ t => by rw [List.length_cons, List.length_cons, pairs_len t]
def rSortItK : List V → Hp → VK → Prop := fun vs H Q => ∃ (p a : Addr) (kvs : List (Int × Int)), vs = [.ref p] ∧ H p = some (DX.itemsO p a) ∧ H a = some (.dK (kvs.map entI)) ∧
  ∀ (H3 : Hp) (l : Addr) (ts : List (Addr × Int × Int)), (∀ b o, H b = some o → H3 b = some o) → H l = none → (∀ z, z ∈ ts → H z.1 = none ∧ z.1 ≠ l ∧ H3 z.1 = some (.tup [.int z.2.1, .int z.2.2])) → (ts.map (·.2)).Perm kvs → (ts.map (·.2)).Pairwise leP → H3 l = some (.lst (ts.map fun z => V.ref z.1)) → Q (.ref l) H3
theorem cr_sortItK {X : Cx} (hc : X.calm = true) : CallR X (.builtin "sorted") rSortItK := by
  intro pins s σ H xs us Q I r h
  obtain ⟨p, a, kvs, rfl, hp, ha, q⟩ := h
  obtain rfl := Vals.ref1 r
  have view : s.heap.IsItemsView p a := (show ObjOk X.prog X.w H s.heap p (DX.itemsO p a) from I.hok p _ hp).1
  obtain ⟨z, hd, vs, rel, o, es, ep, ho, hx, hdat, _, hes, _⟩ := dk_of I.hok ha
  have l1 : kvs.length = vs.length := by
    have := Paired.length rel
    rw [List.length_map] at this
    exact this
  have l2 : es.size = vs.length := by rw [← Array.length_toList]; exact pairs_len hes
  rw [List.length_map] at z
  refine DT.sortedI (es := es) (ep := ep) (I.ok.hd hc) view ⟨o, ho, hx, hdat⟩ (by omega) fun h' tk as hk hlt hl hG => ?_
  have lak : as.length = kvs.length := by omega
  have nd : as.Nodup := List.Pairwise.imp (fun h => Nat.ne_of_lt h) hG.rise
  have pr : ∀ (j : Nat) (b : Addr), as[j]? = some b → ∃ e : Int × Int, kvs[j]? = some e ∧ ∃ t u, h'.get? b = some { cls := .type "tuple", data := .seq #[Value.int e.1 t, Value.int e.2 u] } := by
    intro j b hj
    obtain ⟨en, he, hg⟩ := hG.pairs j b hj
    rw [← Array.getElem?_toList] at he
    obtain ⟨kv, h1, h2, h3⟩ := pairs_at hes he
    obtain ⟨e0, he0, r1, r2⟩ := DX.pget rel h1
    rw [List.getElem?_map] at he0
    cases hkj : kvs[j]? with
    | none => rw [hkj] at he0; exact nomatch he0
    | some e =>
      rw [hkj] at he0
      have ee : entI e = e0 := Option.some.inj he0
      rw [← ee] at r1 r2
      rw [← show Sum.inl e.1 = kv.1 from r1] at h2
      obtain ⟨t, ht⟩ : ∃ t, en.key = Value.int e.1 t := by
        rcases keyIs_shape (show keyIs (Sum.inl e.1) en.key = true from h2) with ⟨i, t, ei, et⟩ | ⟨x, t, ei, _⟩
        · exact ⟨t, by rw [et, Sum.inl.inj ei]⟩
        · exact nomatch ei
      obtain ⟨u, hu⟩ : ∃ u, kv.2 = Value.int e.2 u := r2
      refine ⟨e, rfl, t, u, ?_⟩
      rw [hg, ht, h3, hu]
  have I1 : Inv X pins σ H { s with heap := h', toks := tk } := I.kept (t' := tk) hk
  have hn0 : H h'.objs.size = none := I1.hok.fresh (Nat.le_refl _)
  have hlen : (as.map V.ref).length ≤ sizeLine := by rw [List.length_map]; omega
  have I2 := I1.laid (a := h'.objs.size) (o := .lst (as.map V.ref)) (h' := h'.push { cls := .type "list", data := .seq (as.map Value.ref).toArray }) (t' := tk) (fun _ _ q => Heap.get?_push_of_some _ q) (Nat.le_refl _)
    ⟨hlen, as.map Value.ref, 0, vals_maps V.ref Value.ref as fun _ _ => rfl, Heap.get?_push_size _ rfl⟩
  obtain ⟨H2, I3, g, qt⟩ := DX.takeT (P := fun b ws => ∃ (j : Nat) (e : Int × Int), as[j]? = some b ∧ kvs[j]? = some e ∧ ws = [.int e.1, .int e.2]) I as _ I2 nd fun b hb => by
    obtain ⟨j, hj⟩ := List.mem_iff_getElem?.mp hb
    obtain ⟨e, he, t, u, hg⟩ := pr j b hj
    have hbl : s.heap.objs.size ≤ b := Nat.le_of_lt (hG.above b hb)
    refine ⟨hbl, ?_, [.int e.1, .int e.2], ⟨j, e, hj, he, rfl⟩, fun H3 => ⟨(by rw [sizeLine_eq]; show 2 ≤ 16777216; omega), [Value.int e.1 t, Value.int e.2 u], .cons ⟨t, rfl⟩ (.cons ⟨u, rfl⟩ .nil), ⟨_, Heap.get?_push_of_some _ hg, rfl, 0, rfl⟩⟩⟩
    rw [upd_ne (Nat.ne_of_lt (Heap.lt_size hg))]
    exact I.hok.fresh hbl
  have hne : ∀ b, b ∈ as → H b = none ∧ b ≠ h'.objs.size := fun b hb => by
    obtain ⟨j, hj⟩ := List.mem_iff_getElem?.mp hb
    obtain ⟨e, he, t, u, hg⟩ := pr j b hj
    exact ⟨I.hok.fresh (Nat.le_of_lt (hG.above b hb)), Nat.ne_of_lt (Heap.lt_size hg)⟩
  have gr : ∀ b o, H b = some o → H2 b = some o := fun b o e => g b o (by rw [upd_ne (ne_of_none e hn0)]; exact e)
  have hkey : ∀ (j : Nat) (b : Addr) (e : Int × Int), as[j]? = some b → kvs[j]? = some e → H2 b = some (.tup [.int e.1, .int e.2]) := fun j b e hj he => by
    obtain ⟨ws, ⟨j2, e2, a1, a2, a3⟩, hH⟩ := qt b (List.mem_of_getElem? hj)
    have eij : j2 = j := (List.getElem?_inj (List.getElem?_eq_some_iff.mp a1).1 nd).mp (a1.trans hj.symm)
    subst eij
    rw [he] at a2
    cases a2
    rw [hH, a3]
  have hmap : (as.map V.ref).map (keyD H2) = kvs := by
    refine List.ext_getElem? fun j => ?_
    rw [List.getElem?_map, List.getElem?_map]
    by_cases c : j < as.length
    · have hj := List.getElem?_eq_getElem c
      have he : kvs[j]? = some kvs[j] := List.getElem?_eq_getElem (by omega)
      rw [hj, he]
      show some (keyD H2 (.ref as[j])) = _
      rw [keyD_at (hkey j _ _ hj he)]
    · rw [List.getElem?_eq_none (by omega), List.getElem?_eq_none (by omega)]
      rfl
  refine wpAny_mono (mt_sortPO (X := inX X) pins { s with heap := h'.push { cls := .type "list", data := .seq (as.map Value.ref).toArray }, toks := tk } σ H2 (.ref h'.objs.size) [] (.ref h'.objs.size) [] (fun _ H3 => Q (.ref h'.objs.size) H3) (inv_in I3) rfl .nil
    ⟨h'.objs.size, as.map V.ref, keyD H2, rfl, rfl, g _ _ upd_same, fun y hy => ?_, fun zs h1 h2 => ?_⟩) (fun u s' hu => ?_) (fun _ _ e => e)
  · obtain ⟨b, hb, rfl⟩ := List.mem_map.mp hy
    obtain ⟨j, hj⟩ := List.mem_iff_getElem?.mp hb
    obtain ⟨e, he, _⟩ := pr j b hj
    have := hkey j b e hj he
    exact ⟨b, rfl, by rw [keyD_at this]; exact this⟩
  · have hz : ∀ y, y ∈ zs → ∃ b, b ∈ as ∧ y = .ref b ∧ H2 b = some (.tup [.int (keyD H2 y).1, .int (keyD H2 y).2]) := fun y hy => by
      obtain ⟨b, hb, rfl⟩ := List.mem_map.mp (h2.perm.mem_iff.mp hy)
      obtain ⟨j, hj⟩ := List.mem_iff_getElem?.mp hb
      obtain ⟨e, he, _⟩ := pr j b hj
      have := hkey j b e hj he
      exact ⟨b, hb, rfl, by rw [keyD_at this]; exact this⟩
    have hts : (zs.map fun y => ((match y with | .ref b => b | _ => 0 : Addr), keyD H2 y)).map (fun z => V.ref z.1) = zs := by
      rw [List.map_map]
      refine (List.map_congr_left fun y hy => ?_).trans (List.map_id zs)
      obtain ⟨b, _, rfl, _⟩ := hz y hy
      rfl
    have ht2 : (zs.map fun y => ((match y with | .ref b => b | _ => 0 : Addr), keyD H2 y)).map (·.2) = zs.map (keyD H2) := by
      rw [List.map_map]
      rfl
    refine q _ h'.objs.size (zs.map fun y => ((match y with | .ref b => b | _ => 0 : Addr), keyD H2 y)) (fun b o e => ?_) hn0 (fun w hw => ?_) ?_ ?_ ?_
    · rw [upd_ne (ne_of_none e hn0)]
      exact gr b o e
    · obtain ⟨y, hy, rfl⟩ := List.mem_map.mp hw
      obtain ⟨b, hb, rfl, hH⟩ := hz y hy
      obtain ⟨f1, f2⟩ := hne b hb
      refine ⟨f1, f2, ?_⟩
      show upd H2 h'.objs.size _ b = _
      rw [upd_ne f2]
      exact hH
    · rw [ht2, ← hmap]
      exact h2.perm.map _
    · rw [ht2]
      refine List.Pairwise.map _ (fun x y h => ?_) h1
      have := SrtO.lexB_no.mp h
      show (keyD H2 x).1 < (keyD H2 y).1 ∨ ((keyD H2 x).1 = (keyD H2 y).1 ∧ (keyD H2 x).2 ≤ (keyD H2 y).2)
      omega
    · rw [hts]
      exact upd_same
  · obtain ⟨v, H4, J, _, qq⟩ := hu
    exact ⟨.ref h'.objs.size, H4, inv_out I.ok J, rfl, qq⟩
section
variable {σ : L2.St} {D H : Hp} {L : Own} {K : PySem.W.Frag} {Q : VK}
instance v_itemsK {a : Addr} {kvs : List (Key × V)} {n : Nat} [S : Sx D L H] [h : Fi L a (.dK kvs) n] : VC (rItemsK (.ref a) [] H Q) (∀ p D' H', Sx D' L H' → Sm D D' → Kn D' p (DX.itemsO p a) → Q (.ref p) H') :=
  ⟨fun k => ⟨a, kvs, rfl, rfl, S.at h.pf, fun p hp => k p _ _ (S.fix hp) ⟨same_upd (S.dH.free hp)⟩ ⟨upd_same⟩⟩⟩
instance v_tyD {a : Addr} {kvs : List (Key × V)} {n : Nat} {p : Prop} [S : Sx D L H] [h : Fi L a (.dK kvs) n] : VC (tyV K "dict" (.ref a) H ∧ p) p := ⟨fun k => ⟨.inr (.inr (.inl ⟨rfl, .inl ⟨kvs, S.at h.pf⟩⟩)), k⟩⟩
def DGo (a : Addr) (y z : V) (H3 : Hp) (Q : VK) : Prop := ∃ o, DGet H3 a y o ∧ Q (o.getD z) H3
def DG2 (ty tx : TE) (σ : L2.St) (x : V) (H1 : Hp) (Q : VK) : Prop := ∃ a, x = .ref a ∧ IsD H1 a ∧ ty σ H1 fun y H2 => tx σ H2 fun z H3 => DGo a y z H3 Q
instance v_dget2 {td ty tx : TE} : VC (tDGet2 td ty tx σ H Q) (td σ H fun x H1 => DG2 ty tx σ x H1 Q) := ⟨fun h => h⟩
instance v_dg2 {a : Addr} {kvs : List (Key × V)} {n : Nat} {ty tx : TE} [S : Sx D L H] [h : Fi L a (.dK kvs) n] : VC (DG2 ty tx σ (.ref a) H Q) (ty σ H fun y H2 => tx σ H2 fun z H3 => DGo a y z H3 Q) := ⟨fun k => ⟨a, rfl, .inl ⟨kvs, .inl (S.at h.pf)⟩, k⟩⟩
instance v_dgo {a : Addr} {kvs : List (Key × V)} {n : Nat} {i : Int} {z : V} [S : Sx D L H] [h : Fi L a (.dK kvs) n] : VC (DGo a (.int i) z H Q) (Q ((valV kvs (Sum.inl i)).getD z) H) := ⟨fun k => ⟨_, DGet.k (k := Sum.inl i) (S.at h.pf), k⟩⟩
theorem c_sortItK {p a : Addr} {kvs : List (Int × Int)} {n : Nat} (S : Sx D L H) (hp : Kn D p (DX.itemsO p a)) (h : L[n]? = some (a, .dK (kvs.map entI))) (k : ∀ (ys : List V) (P : List (Int × Int)) l D' H', P.Perm kvs → P.Pairwise leP → RpAll D' ys (P.map pI) → Sm D D' → Sx D' ((l, .lst ys) :: L) H' → Q (.ref l) H') : rSortItK [.ref p] H Q := by
  refine ⟨p, a, kvs, rfl, S.dH _ _ hp.pf, S.at h, fun H3 l ts g hl ht hP hs hH => ?_⟩
  obtain ⟨D', hD'⟩ : ∃ D' : Hp, D' = fun b => if ts.any (fun z => z.1 == b) = true then H3 b else D b := ⟨_, rfl⟩
  have hin : ∀ z, z ∈ ts → D' z.1 = some (.tup [.int z.2.1, .int z.2.2]) := fun z hz => by
    rw [hD']
    show (if ts.any (fun w => w.1 == z.1) = true then H3 z.1 else D z.1) = _
    have hc : (ts.any fun w => w.1 == z.1) = true := List.any_eq_true.mpr ⟨z, hz, beq_self_eq_true z.1⟩
    rw [if_pos hc]
    exact (ht z hz).2.2
  have hout : ∀ b, H b ≠ none → D' b = D b := fun b hb => by
    rw [hD']
    show (if ts.any (fun w => w.1 == b) = true then H3 b else D b) = _
    rw [if_neg]
    intro e
    obtain ⟨z, hz, ez⟩ := List.any_eq_true.mp e
    have ez2 : z.1 = b := by simpa using ez
    exact hb (ez2 ▸ (ht z hz).1)
  have hDs : Same D D' := fun b o e => by
    rw [hout b (by rw [S.dH b o e]; exact fun z => nomatch z)]
    exact e
  have hDH : Same D' H3 := fun b o e => by
    rw [hD'] at e
    have e' : (if ts.any (fun w => w.1 == b) = true then H3 b else D b) = some o := e
    by_cases c : ts.any (fun w => w.1 == b) = true
    · rw [if_pos c] at e'
      exact e'
    · rw [if_neg c] at e'
      exact g b o (S.dH b o e')
  refine k (ts.map fun z => V.ref z.1) (ts.map (·.2)) l D' H3 hP hs ?_ ⟨hDs⟩ ⟨hDH, fun q hq => ?_, ?_⟩
  · have : ∀ {us : List (Addr × Int × Int)}, (∀ z, z ∈ us → z ∈ ts) → RpAll D' (us.map fun z => V.ref z.1) ((us.map (·.2)).map pI) := by
      intro us
      induction us with
      | nil => exact fun _ => .nil
      | cons z us ih => exact fun hz => .cons (.tupI (ns := [z.2.1, z.2.2]) (hin z (hz z List.mem_cons_self))) (ih fun w hw => hz w (List.mem_cons_of_mem _ hw))
    exact this fun _ h => h
  · rcases List.mem_cons.mp hq with rfl | hq
    · refine ⟨hH, ?_⟩
      cases e : D' l with
      | none => rfl
      | some o =>
        exfalso
        rw [hD'] at e
        have e' : (if ts.any (fun w => w.1 == l) = true then H3 l else D l) = some o := e
        by_cases c : ts.any (fun w => w.1 == l) = true
        · obtain ⟨z, hz, ez⟩ := List.any_eq_true.mp c
          have ez2 : z.1 = l := by simpa using ez
          exact (ht z hz).2.1 ez2
        · rw [if_neg c] at e'
          rw [S.dH l o e'] at hl
          exact nomatch hl
    · obtain ⟨q1, q2⟩ := S.ow q hq
      exact ⟨g _ _ q1, by rw [hout q.1 (by rw [q1]; exact fun z => nomatch z)]; exact q2⟩
  · rw [List.map_cons]
    refine List.nodup_cons.mpr ⟨fun hm => ?_, S.nd⟩
    obtain ⟨q, hq, eq⟩ := List.mem_map.mp hm
    have := (S.ow q hq).1
    rw [eq, hl] at this
    exact nomatch this
end
end Fk

namespace Fk
open PySem PySem.Spec PyProof.Rows L2
/-! ## list(range(a, b)), a = list.index, more -/
def IsII (x y : V) (H : Hp) (R : Int → Int → Hp → Prop) : Prop := ∃ i j, x = .int i ∧ y = .int j ∧ R i j H
theorem ra_getP {D : Hp} {vs : List V} {xs : List (Int × Int)} {i : Nat} {v : V} (h : RpAll D vs (xs.map pI)) (hv : vs[i]? = some v) : ∃ b x, v = .ref b ∧ xs[i]? = some x ∧ Kn D b (.tup [.int x.1, .int x.2]) := by
  have e : xs.map pI = (xs.map fun x => [x.1, x.2]).map tI := by rw [List.map_map]; rfl
  rw [e] at h
  obtain ⟨b, r, h1, h2, h3⟩ := ra_getT h hv
  rw [List.getElem?_map] at h2
  cases c : xs[i]? with
  | none => rw [c] at h2; exact nomatch h2
  | some x =>
    rw [c] at h2
    have h2' : [x.1, x.2] = r := Option.some.inj h2
    subst h2'
    exact ⟨b, x, h1, rfl, h3⟩
section
variable {σ : L2.St} {D H : Hp} {L : Own} {K : PySem.W.Frag} {Q : VK}
instance v_rg2 {ta tb : TE} {R : Int → Int → Hp → Prop} : VC (tRg2 ta tb σ H R) (ta σ H fun x H1 => tb σ H1 fun y H2 => IsII x y H2 R) := ⟨fun h => by
  refine (show ta σ H _ from ?_)
  exact h⟩
instance v_isII {i j : Int} {R : Int → Int → Hp → Prop} : VC (IsII (.int i) (.int j) H R) (R i j H) := ⟨fun h => ⟨i, j, rfl, rfl, h⟩⟩
end
end Fk

namespace Fk
open PySem PySem.Spec PyProof.Rows L2
/-! ## a law that is run where no guard is set: str of lists and tuples -/
structure FnG (P : Program) (w : World) (K : PySem.W.Frag) (mg : Str → Option Value) (base : Heap) (CX : CXT) (k : Nat) (f : Addr) (fd : FuncData) (ps : List Str) (sp : Sp) : Prop where
  len : ∀ vs H Q E, sp vs H Q E → vs.length = ps.length
  run : ∀ (A : Around) (outer : List Env) (s : Shared) (H : Hp) (args : Args) (us : List Value) (vs : List V) (Q : VK) (E : XK), Room k A → A.guards = some [] → Env0 P w K mg base A outer s H → BindsTo s fd args (ps.zip us) → Vals vs us → sp vs H Q E → codeAny (model P w) A (.call (.ref f) args) (CR CX outer P w H s Q E) s
theorem Fun.okG {P : Program} {w : World} {K : PySem.W.Frag} {mg : Str → Option Value} {base : Heap} {x qual : Str} {st : Stmt} {f : Addr} {fd : FuncData} {N ps : List Str} {k : Nat} {sp : Sp} (F : Fun K x qual st f fd) (S : FnScope N ps (defScope st))
    (len : ∀ vs H Q E, sp vs H Q E → vs.length = ps.length)
    (hb : ∀ (cdv : Value) (A : Around) (outer : List Env) (s : Shared) (H : Hp) (vs : List V) (Q : VK) (E : XK), Room k (A.deeper (envOfC qual (defScope st) s.heap.objs.size f cdv)) → (A.deeper (envOfC qual (defScope st) s.heap.objs.size f cdv)).guards = some [] → sp vs H Q E →
      ∃ t, PSs (cxOf CX0 P w K mg base N qual (defScope st) f cdv A outer s H E).nox (defBody st) t ∧ t { nx := fun _ H' => Q .non H', rt := Q } (start N vs) H) : FnG P w K mg base CX0 (k + 1) f fd ps sp := by
  obtain ⟨oc, od, kV, doc, pm, an, cdv, ct, osl, rfl, lk, hcd⟩ := F.ex
  refine ⟨len, fun A outer s H args us vs Q E hr hg e0 bd r hsp => ?_⟩
  have hl := len _ _ _ _ hsp
  have grow : ∀ b o, base.get? b = some o → s.heap.get? b = some o := fun b o e => (e0.bs b o e).1
  have KX := e0.mod.kin.keeps grow
  have lim := e0.mod.nolimit.keeps grow
  refine codeAny_call_function hr.depth (KX _ _ lk) rfl S.co S.gen rfl (PySem.W.codeRec_of KX hcd) (bd _ _ _ _ ?_)
  refine wpAny_newFunctionEnv_cells S.kind (fun z hz => ?_) fun env he s1 y => ?_
  · rcases S.par z.1 (List.of_mem_zip (show (z.1, z.2) ∈ _ from hz)).1 with q | q
    · exact .inl q
    · exact .inr ⟨q, PySem.W.cellsFrom_some _ _ _ (.inl q)⟩
  subst he
  obtain ⟨t, ht, hq⟩ := hb cdv A outer s H vs Q E (hr.deeper _) hg hsp
  refine ⟨lim.keeps y.toInCall.keep, codeAny_func (wpAny_mono (ht.nox.run [] s1 (start N vs) H _ (inv_start S hr.hd e0 hl r y) hq) (fun fl s' hs => ?_) fun _ _ hs => hs)⟩
  cases fl with
  | ret u =>
    obtain ⟨v, _, H', J, rv, q⟩ := hs
    exact ⟨v, H', J.os, J.bare, J.base, J.hok, rv, q⟩
  | next =>
    obtain ⟨_, H', J, q⟩ := hs
    exact ⟨V.non, H', J.os, J.bare, J.base, J.hok, rfl, q⟩
  | brk => exact hs.elim fun _ h => h.elim fun _ h => h.2.elim
  | cont => exact hs.elim fun _ h => h.elim fun _ h => h.2.elim
/-- the head, for such a law -/
theorem head_G {P : Program} {w : World} {K : PySem.W.Frag} {mg mb : Str → Option Value} {k : Nat} {fa a : Addr} {fd : FuncData} {x : Str} {sp : Sp} {S : Shared} {vs : List Value} {H : Hp}
    (KX : K.In S.heap) (gm : S.heap.Ns mainGlobals mg) (gb : S.heap.Ns builtinsNs mb) (hbb : ∀ x : Str, x ≠ "__name__" → mb x = bootBuiltins x) (lim : S.heap.NoLimit) (hg : S.gens = #[])
    (ha : S.heap.get? a = some { cls := .type "list", data := .seq vs.toArray }) (hr : Room k callerA)
    (F : ∀ base : Heap, K.In base → base.Ns mainGlobals mg → FnG P w K mg base CX0 k fa fd [x] sp) (bd : ∀ (s : Shared) (u : Value), BindsTo s fd ⟨[u], []⟩ [(x, u)])
    (q : sp [.ref a] H (fun v _ => v = .bl true) fun _ _ _ => False) (hok : HOk P w H S.heap) (only : ∀ b u, H b = some u → b = a ∧ ∃ o xs, u = .frz o (.lst xs)) (hK : H a ≠ none → K.lookup a = none) :
    codeAny (model P w) callerA (.call (.ref fa) ⟨[.ref a], []⟩) (fun r s' => r = .ok (.ret (.bool true)) ∧ OldK S.heap s'.heap ∧ s'.os = S.os ∧ AllBare s'.gens) S := by
  have off : ∀ {b : Addr} {o : Obj}, S.heap.get? b = some o → (b = a → H a = none) → (hidT S.heap H).get? b = some o := fun {b o} e h => hidT_get e (by
    cases c : H b with
    | none => rfl
    | some u =>
      obtain ⟨e1, _⟩ := only b u c
      rw [e1, h e1] at c
      exact nomatch c)
  have nsH : ∀ {b : Addr} {m : Str → Option Value}, S.heap.Ns b m → (hidT S.heap H).Ns b m := fun {b m} ⟨o, es, ep, e, d, r⟩ => ⟨o, es, ep, off e (fun eb => by
    subst eb
    rw [ha] at e
    cases e
    exact nomatch d), d, r⟩
  have KH : K.In (hidT S.heap H) := fun b o e => off (KX b o e) fun eb => by
    cases c : H a with
    | none => rfl
    | some u =>
      have := hK (by rw [c]; simp)
      rw [← eb, e] at this
      exact nomatch this
  have M : Mod K mg (hidT S.heap H) := ⟨KH, nsH gm, ⟨mb, nsH gb, hbb⟩, lim.elim fun mc h => ⟨mc, nsH h.1, h.2⟩⟩
  have nofs : ∀ b : Addr, b ∉ ([] : List Addr) := fun _ => List.not_mem_nil
  refine codeAny_mono ((F _ KH (nsH gm)).run callerA [] S H ⟨[.ref a], []⟩ [.ref a] [.ref a] _ _ hr rfl ⟨rfl, M, fun b o e => of_hidT e, Nat.le_of_eq (hidT_size _ _), trivial, fun b hb => absurd hb (nofs b), hok, .of_eq hg⟩ (bd S (.ref a)) (.cons rfl .nil) q) fun r s' h => ?_
  cases r with
  | error e => exact False.elim h
  | ok fl =>
    cases fl with
    | ret u =>
      obtain ⟨v, H2, os, bare, un, ok2, rv, qv⟩ := h
      have qv : v = .bl true := qv
      subst qv
      have eu : u = Value.bool true := rv
      subst eu
      refine ⟨rfl, OldK.of_keep fun b o e => ?_, os, bare⟩
      cases c : H b with
      | none => exact un.keep b o e c (nofs b) (nofs b)
      | some u =>
        obtain ⟨_, ob, xs, eu⟩ := only b u c
        rw [eu] at c
        have f1 := (hok b _ c).1
        rw [e] at f1
        cases f1
        exact (ok2 b _ (un.frzs b _ _ c)).1
    | next => exact False.elim h
    | brk => exact False.elim h
    | cont => exact False.elim h
theorem walk_ofG {l : PySem.W.OpenLaw} {n k : Nat} {q : Program} {loose : List Str} {XP : (Str → Option Value) → Heap → Prop} {YP : World → Heap → Prop} {d : DefRec} {K : Params → PySem.W.Frag} {sp : World → Sp} {x : Str}
    (hn : l.most = some n) (hn2 : n ≤ sizeLine) (hdf : d.params.defaults = []) (hr : Room k callerA) (hY : ∀ (w : World) (h : Heap), YP w h → (K w.params).In h)
    (F : ∀ (w : World) (mg : Str → Option Value) (fa : Addr) (h : Heap), (K w.params).In h → h.Ns mainGlobals mg → mg d.name = some (.ref fa) →
      ∃ fd : FuncData, (∀ (s : Shared) (u : Value), BindsTo s fd ⟨[u], []⟩ [(x, u)]) ∧ ∀ base : Heap, (K w.params).In base → base.Ns mainGlobals mg → FnG l.prog w (K w.params) mg base CX0 k fa fd [x] (sp w))
    (hsp : ∀ (w : World) (H : Hp) (a : Addr) (ns : List Int), ns.length ≤ n → (∀ z ∈ ns, Builtin.Int.intBits z ≤ 1048576) → Only H → SqL (K w.params) H a (ns.map V.int) → sp w [.ref a] H (fun v _ => v = .bl true) fun _ _ _ => False) :
    PySem.W.WalkO q loose XP YP l.row.toRowW d [] (fun f vs => PySem.call f vs) := by
  refine Att.attach_callB hn hdf fun w _ S mg mb fa _ _ _ _ a vs ns G Y _ _ _ hmg ha hi hl hbt hg => ?_
  obtain ⟨fd, bd, hF⟩ := F w mg fa _ (hY w _ Y) G.T.g hmg
  have lens : (ns.map V.int).length ≤ sizeLine := by rw [List.length_map]; exact Nat.le_trans hl hn2
  have go := fun H => head_G (H := H) (hY w _ Y) G.T.g G.T.b G.T.builtins G.T.nolimit hg ha hr hF bd
  cases ek : (K w.params).lookup a with
  | some o =>
    have e := hY w _ Y a o ek
    rw [ha] at e
    cases e
    refine go (fun _ => none) (hsp w _ a ns hl hbt (fun _ => .inl rfl) (.inr ⟨_, vs.toArray, _, ek, rfl, rfl, rfl, ?_, by simpa using vals_ints hi⟩)) (fun b u z => nomatch (show (none : Option HO) = some u from z)) (fun b u z => nomatch (show (none : Option HO) = some u from z)) fun z => absurd rfl z
    rw [List.size_toArray, hi.length]
    exact Nat.le_trans hl hn2
  | none =>
    have at' : ∀ b u, (if b = a then some (HO.frz { cls := .type "list", data := .seq vs.toArray } (.lst (ns.map V.int))) else none) = some u → b = a ∧ u = .frz { cls := .type "list", data := .seq vs.toArray } (.lst (ns.map V.int)) := fun b u z => by
      by_cases c : b = a
      · rw [if_pos c] at z
        exact ⟨c, (Option.some.inj z).symm⟩
      · rw [if_neg c] at z
        exact nomatch z
    refine go (fun b => if b = a then some (.frz { cls := .type "list", data := .seq vs.toArray } (.lst (ns.map V.int))) else none) (hsp w _ a ns hl hbt (fun b => ?_) (.inl (.inr ⟨_, if_pos rfl⟩))) (fun b u z => ?_) (fun b u z => ?_) fun _ => ek
    · by_cases c : b = a
      · exact .inr ⟨_, _, if_pos c⟩
      · exact .inl (if_neg c)
    · obtain ⟨rfl, rfl⟩ := at' b u z
      exact ⟨ha, lens, vs, _, vals_ints hi, ha⟩
    · obtain ⟨e1, e2⟩ := at' b u z
      exact ⟨e1, _, _, e2⟩
/-- data whose text is no longer than a text may be -/
def Pr (n m : Nat) (d : PyData) : Prop := d.showable = true ∧ d.hasDict = false ∧ d.leavesShort 700 = true ∧ d.bulk ≤ n ∧ d.depth ≤ m
def PrAll (n m : Nat) (ds : List PyData) : Prop := PyData.showableAll ds = true ∧ PyData.hasDictAll ds = false ∧ PyData.leavesShortAll 700 ds = true ∧ PyData.bulkAll ds ≤ n ∧ PyData.depthAll ds ≤ m
theorem pr_nil (n m : Nat) : PrAll n m [] := ⟨rfl, rfl, rfl, Nat.zero_le _, Nat.zero_le _⟩
theorem pr_cons {n n1 n2 m : Nat} {d : PyData} {ds : List PyData} (h : Pr n1 m d) (t : PrAll n2 m ds) (e : n1 + 1 + n2 ≤ n) : PrAll n m (d :: ds) := by
  obtain ⟨a1, a2, a3, a4, a5⟩ := h
  obtain ⟨b1, b2, b3, b4, b5⟩ := t
  refine ⟨?_, ?_, ?_, ?_, ?_⟩
  · simp [PyData.showableAll, a1, b1]
  · simp [PyData.hasDictAll, a2, b2]
  · simp [PyData.leavesShortAll, a3, b3]
  · simp only [PyData.bulkAll]; omega
  · simp only [PyData.depthAll]; omega
theorem pr_lst {n m : Nat} {ds : List PyData} (h : PrAll n m ds) : Pr n (m + 1) (.list ds) := by
  obtain ⟨b1, b2, b3, b4, b5⟩ := h
  exact ⟨by simp [PyData.showable, b1], by simp [PyData.hasDict, b2], by simp [PyData.leavesShort, b3], by simp only [PyData.bulk]; omega, by simp only [PyData.depth]; omega⟩
theorem pr_tup {n m : Nat} {ds : List PyData} (h : PrAll n m ds) : Pr n (m + 1) (.tuple ds) := by
  obtain ⟨b1, b2, b3, b4, b5⟩ := h
  exact ⟨by simp [PyData.showable, b1], by simp [PyData.hasDict, b2], by simp [PyData.leavesShort, b3], by simp only [PyData.bulk]; omega, by simp only [PyData.depth]; omega⟩
theorem pr_all {n m c : Nat} {ds : List PyData} (h : ∀ d, d ∈ ds → Pr n m d) (e : (n + 1) * ds.length ≤ c) : PrAll c m ds := by
  induction ds generalizing c with
  | nil => exact pr_nil _ _
  | cons d ds ih =>
    rw [List.length_cons, Nat.mul_add] at e
    exact pr_cons (h d List.mem_cons_self) (ih (fun d hd => h d (List.mem_cons_of_mem _ hd)) (Nat.le_refl _)) (by omega)
theorem pr_int {i : Int} (h : i.natAbs.log2 < 600) : Pr 0 0 (.int i) := by
  refine ⟨by simp only [PyData.showable]; exact decide_eq_true (by omega), rfl, ?_, Nat.le_refl _, Nat.le_refl _⟩
  simp only [PyData.leavesShort]
  refine decide_eq_true ?_
  have := int_text_length_le (a := i) (k := 600) (by decide) h
  show (Str.ofString (toString i)).length ≤ 700
  rw [PySem.ofString_length]
  omega
theorem pr_non : Pr 0 0 .none := ⟨rfl, rfl, rfl, Nat.le_refl _, Nat.le_refl _⟩
theorem pr_bl (b : Bool) : Pr 0 0 (.bool b) := ⟨rfl, rfl, rfl, Nat.le_refl _, Nat.le_refl _⟩
theorem Pr.mono {n n' m m' : Nat} {d : PyData} (h : Pr n m d) (h1 : n ≤ n') (h2 : m ≤ m') : Pr n' m' d := ⟨h.1, h.2.1, h.2.2.1, Nat.le_trans h.2.2.2.1 h1, Nat.le_trans h.2.2.2.2 h2⟩
def rStrD (K : PySem.W.Frag) : List V → Hp → VK → Prop := fun xs H Q => ∃ (a : Addr) (d : PyData), xs = [.ref a] ∧ Dp K H (.ref a) d ∧ Pr 23000 50 d ∧ Q (.str d.shown) H
theorem call_strD {X : Cx} (hg : X.A.guards = some []) (hu : X.A.units + 64 < cLine) : CallR X (.type "str") (rStrD X.K) := by
  intro pins s σ H xs us Q I r h
  obtain ⟨a, d, rfl, hd, hp, q⟩ := h
  obtain ⟨u, rfl, rx⟩ := vals1 r
  obtain ⟨as, hr⟩ := Dp.reads I d _ _ hd rx
  cases (show u = Value.ref a from rx)
  obtain ⟨h1, h2, h3, h4, h5⟩ := hp
  refine str_of_reads hr h1 (fun z => by rw [h2] at z; exact nomatch z) hg (by omega) (fun _ _ e => e) (fun h' u tk hk => ⟨V.str d.shown, H, I.kept (t' := tk) hk, ⟨u, rfl⟩, q⟩) ?_
  have := PyData.shown_le_bulk 700 (by decide) d h3
  rw [sizeLine_eq]
  omega
section
variable {σ : L2.St} {D H : Hp} {L : Own} {K : PySem.W.Frag} {Q : VK}
theorem c_strD {a : Addr} {d : PyData} (h : Dp K H (.ref a) d) (p : Pr 23000 50 d) (k : Q (.str d.shown) H) : rStrD K [.ref a] H Q := ⟨a, d, rfl, h, p, k⟩
instance v_neStr {t : Str} : VC (rNeX K (.str t) (.str t) H Q) (Q (.bl false) H) := ⟨fun h => .inl ⟨rfl, by
  have e : (!decide (V.str t = V.str t)) = false := by rw [decide_eq_true rfl]; rfl
  rw [e]; exact h⟩⟩
instance v_eqStr {t : Str} : VC (rEqX K (.str t) (.str t) H Q) (Q (.bl true) H) := ⟨fun h => .inl ⟨rfl, by
  have e : decide (V.str t = V.str t) = true := decide_eq_true rfl
  rw [e]; exact h⟩⟩
theorem dpLLH {a : Addr} {us : List V} {xs : List (List Int)} (ha : SqL K H a us) (ra : RpAll H us (xs.map lI)) : Dp K H (.ref a) (.list (xs.map lI)) := .lst ha ra.dp
theorem r_eqLLH {a b : Addr} {us ws : List V} {xs ys : List (List Int)} (ha : SqL K H a us) (hb : SqL K H b ws) (ra : RpAll H us (xs.map lI)) (rb : RpAll H ws (ys.map lI)) (k : Q (.bl (decide (xs = ys))) H) : rEqX K (.ref a) (.ref b) H Q :=
  .inr ⟨_, _, dpLLH ha ra, dpLLH hb rb, sh_LL xs, sh_LL ys, by rw [eqv_LL]; exact k⟩
theorem r_neLLH {a b : Addr} {us ws : List V} {xs ys : List (List Int)} (ha : SqL K H a us) (hb : SqL K H b ws) (ra : RpAll H us (xs.map lI)) (rb : RpAll H ws (ys.map lI)) (k : Q (.bl (!decide (xs = ys))) H) : rNeX K (.ref a) (.ref b) H Q :=
  .inr ⟨_, _, dpLLH ha ra, dpLLH hb rb, sh_LL xs, sh_LL ys, by rw [eqv_LL]; exact k⟩
end
end Fk

namespace Fk
open PySem PySem.Spec PyProof.Rows L2
/-! ## a list extended by a tuple -/
open Builtin in
theorem ext_tup (l : Addr) (items : Array Value) (n : Nat) (b : Addr) (items2 : Array Value) (n2 : Nat) (dd : Option Addr) (sl : Array (Option Value)) (h0 : ¬(!items.isEmpty && Builtin.List.listTooLong (items.size + items2.size)) = true) (h1 : items.size ≤ sizeLine) (h2 : items.size + items2.size ≤ sizeLine + 1) :
    Meets (Builtin.«list.extend» ⟨[.ref l, .ref b], []⟩) (fun _ R s => s.heap.get? l = some { cls := .type "list", dict := none, data := .seq items n, slots := #[] } ∧ s.heap.get? b = some { cls := .type "tuple", dict := dd, data := .seq items2 n2, slots := sl } ∧ R (.ok (.ret Value.none)) { s with heap := s.heap.update l (Obj.mapSeq fun x => x ++ items2), toks := s.toks }) :=
  .of_wp fun prog w A R s h => by
    obtain ⟨hq, gg, dw, tk, oz⟩ := s
    obtain ⟨hl, hb, h⟩ := h
    have f2 := sub_tuple_tuple
    have f3 := sub_list_list
    have f4 := sub_tuple_list
    have f5 := sub_list_tuple
    have hz' : (items ++ items2).size ≤ sizeLine + 1 := by rw [Array.size_append]; exact h2
    wp_walk using (wpAny_updateSeq hl rfl (hz := h1) (_hz' := hz')), wpAny_loadPart' hl, wpAny_loadPart' hb
    exact ⟨_, rfl, h⟩
def rExtK (K : PySem.W.Frag) : V → List V → Hp → VK → Prop := fun x vs H Q => rExtend x vs H Q ∨ ∃ l b xs zs, x = .ref l ∧ vs = [.ref b] ∧ H l = some (.lst xs) ∧ SqT K H b zs ∧ xs.length + zs.length ≤ sizeLine ∧ Q .non (upd H l (.lst (xs ++ zs)))
theorem mt_extK {X : Cx} : MtM X "list.extend" (rExtK X.K) := by
  intro pins s σ H x vs v us Q I rx rv h
  rcases h with h | ⟨l, b, xs, zs, rfl, rfl, hH, hB, hz, q⟩
  · exact mt_extend pins s σ H x vs v us Q I rx rv h
  cases rx
  obtain ⟨u, rfl, ru⟩ := rv.one
  cases ru
  obtain ⟨z, its, n, r, hl, e⟩ := I.lstM hH
  obtain ⟨its2, r2, ⟨⟨oc, od, da, sl⟩, e2, ec, n2, ed⟩, hl2⟩ := I.tuple hB
  dsimp only at ec ed
  subst ec ed
  have hl3 := r2.length
  have hsz : its.toArray.size + its2.toArray.size ≤ sizeLine := by
    rw [List.size_toArray, List.size_toArray]
    omega
  refine call_meets PySem.F.slot_list_extend ⟨_, e, rfl⟩ PySem.F.entry_list_extend (PySem.F.args_list_extend_2 _ _) (ext_tup l its.toArray n b its2.toArray n2 od sl (by rw [notLongL hsz, Bool.and_false]; exact Bool.false_ne_true) (by rw [List.size_toArray]; omega) (by omega)) ⟨e, e2, .non, _, I.lset (its' := its ++ its2) hH e (by simp) (r.append r2) ?_, rfl, q⟩
  rw [List.length_append]
  omega
section
variable {σ : L2.St} {D H : Hp} {L : Own} {K : PySem.W.Frag} {Q : VK}
instance v_extK {a b : Addr} {xs zs : List V} {n : Nat} {L' : Own} [S : Sx D L H] [h : Fi L a (.lst xs) n] [hb : Ks D b zs] [e : Se L n (a, .lst (xs ++ zs)) L'] : VC (rExtK K (.ref a) [.ref b] H Q) (xs.length + zs.length ≤ 16777216 ∧ ∀ H', Sx D L' H' → Q .non H') :=
  ⟨fun k => by
    have k2 := k.2 _ (by have := S.put (.lst (xs ++ zs)) h.pf; rw [e.pf] at this; exact this)
    rcases hb.pf with g | g
    · exact .inl ⟨a, b, xs, zs, rfl, rfl, S.at h.pf, S.dH _ _ g, k.1, k2⟩
    · exact .inr ⟨a, b, xs, zs, rfl, rfl, S.at h.pf, sqT S g, k.1, k2⟩⟩
end
/-- rows that are lists or tuples -/
def RKs (D : Hp) (us : List V) (rs : List (List Int)) : Prop := us.length = rs.length ∧ ∀ (i : Nat) (v : V), us[i]? = some v → ∃ g r, v = .ref g ∧ rs[i]? = some r ∧ Ks D g (r.map V.int)
theorem rks_up {D D' : Hp} {us : List V} {rs : List (List Int)} (h : RKs D us rs) (s : Sm D D') : RKs D' us rs := ⟨h.1, fun i v hv => by
  obtain ⟨g, r, e, hr, k⟩ := h.2 i v hv
  exact ⟨g, r, e, hr, k.pf.elim (fun z => ⟨.inl (s.e _ _ z)⟩) fun z => ⟨.inr (s.e _ _ z)⟩⟩⟩
theorem rks_L {D : Hp} {us : List V} {rs : List (List Int)} (h : RpAll D us (rs.map lI)) : RKs D us rs := ⟨by have := RpAll.length h; rw [List.length_map] at this; exact this, fun i v hv => by
  obtain ⟨g, r, e, hr, k⟩ := ra_getL h hv
  exact ⟨g, r, e, hr, ⟨.inl k.pf⟩⟩⟩
theorem rks_T {D : Hp} {us : List V} {rs : List (List Int)} (h : RpAll D us (rs.map tI)) : RKs D us rs := ⟨by have := RpAll.length h; rw [List.length_map] at this; exact this, fun i v hv => by
  obtain ⟨g, r, e, hr, k⟩ := ra_getT h hv
  exact ⟨g, r, e, hr, ⟨.inr k.pf⟩⟩⟩
end Fk

namespace Fk
open PySem PySem.Spec PyProof.Rows L2
/-! ## a caught error that is kept behind its suite -/
/-- an error at a, of this class -/
def ErO (a : Addr) (cls : Value) (d : Option Addr) : HO := .ext fun h => ∃ oe, h.get? a = some oe ∧ Zc cls d oe ∧ ∃ vs, oe.data = .fields vs
theorem erO_ok {P : Program} {w : World} {H : Hp} {h : Heap} {a : Addr} {oe : Obj} {cls : Value} {d : Option Addr} (e : h.get? a = some oe) (z : Zc cls d oe) (f : ∃ vs, oe.data = .fields vs) : ObjOk P w H h a (ErO a cls d) :=
  ⟨⟨oe, e, z, f⟩, ⟨oe, e⟩, fun _ _ ⟨o, e1, z1⟩ k => ⟨o, k o e1, z1⟩⟩
section
variable {X : Cx} {pins : List (Addr × Obj)} {σ : L2.St} {H : Hp} {s : Shared} {a : Addr} {oe : Obj} {cls : Value} {d : Option Addr}
/-- the suite's end: its error is a thing of the heap from now on -/
theorem adopt (S : Inv (X.suite a ((a, oe) :: (X.pn ++ pins))) [] σ H s) (ok : X.Ok) (z : Zc cls d oe) (f : ∃ vs, oe.data = .fields vs) (n0 : X.s_0.heap.get? a = none) (np : ∀ p, p ∈ X.pn ++ pins → p.1 ≠ a) : Inv X pins σ (upd H a (ErO a cls d)) s := by
  obtain ⟨ga, na, nl, nf, nc⟩ := S.pin (a, oe) (by rw [List.append_nil]; exact List.mem_cons_self)
  have old : ∀ {b : Addr} {o : Obj}, X.s_0.heap.get? b = some o → b ≠ a := fun e q => by rw [q, n0] at e; exact nomatch e
  have tr : ∀ {b : Addr} {o : HO}, H b = some o → upd H a (ErO a cls d) b = some o := fun {b o} e => by rw [upd_ne (ne_of_none e na)]; exact e
  have U := S.base
  refine ⟨ok, S.os, S.bare, ⟨U.keep, U.slot, fun b o e h hx => ?_, U.there, fun b xs e => tr (U.tups b xs e), fun b o u e => tr (U.frzs b o u e), fun b ps e => ?_⟩, S.loc, S.cell, ?_, fun x c e => ?_, fun p hp => ?_, ?_, S.len⟩
  · rw [upd_ne (old e)]
    exact U.free b o e h hx
  · obtain ⟨m, hm⟩ := U.tbls b ps e
    exact ⟨m, tr hm⟩
  · rw [upd_ne (fun q => nl q.symm)]
    exact S.free
  · rw [upd_ne]
    · exact S.freeC x c e
    · intro q
      obtain ⟨v, oc, ho, hv⟩ := S.cell x c e
      rw [q, ga] at ho
      cases ho
      exact nc v hv
  · obtain ⟨q1, q2, q3⟩ := S.pin p (by rw [List.append_nil]; exact List.mem_cons_of_mem _ hp)
    exact ⟨q1, by rw [upd_ne (np p hp)]; exact q2, q3⟩
  · exact HOk.laidN S.hok (fun _ _ e => e) na (erO_ok ga z f)
end
def wKeep (K : PySem.W.Frag) (c : Value) (i : Nat) (ts : Addr → Value → Option Addr → TS) (Wout : WX) (D : Ends) : WX := fun cls d σ H =>
  ∃ yes, PySem.W.exmOne K cls c = some yes ∧ (yes = true → ∀ a, H a = none → ts a cls d { nx := fun σ2 H2 => D.nx (σ2.set i none) (upd H2 a (ErO a cls d)), rt := D.rt, bk := fun σ2 H2 => D.bk (σ2.set i none) H2, ct := fun σ2 H2 => D.ct (σ2.set i none) H2 } (σ.set i (some (.ref a))) H) ∧ (yes = false → Wout cls d σ H)
section
variable {X : Cx} {x n : Str} {c : Value} {i : Nat} {body rest : List Stmt} {s0 : Stmt} {p1 p2 p3 : Pos} {tb : WX → TS} {ts : Addr → Value → Option Addr → TS} {Wout : WX}
theorem ps_try_keep (hs : X.stack = X.env :: X.outer) (hf : X.env.frame = some X.env.locals) (hN : X.N.Nodup) (hi : X.N[i]? = some n) (hl : X.env.kindOf n = some .local) (hx : X.ex = []) (hc : Names X x c) (tk : Takes X Wout)
    (hb : ∀ (W : WX) (pn : List (Addr × Obj)) (xe : Value → Shared → Prop), Takes (X.tr pn xe) W → PassesOwn (model X.prog X.w) X.A X.env xe → PSs (X.tr pn xe) body (tb W))
    (ht : ∀ (a : Addr) (oe : Obj) (cls : Value) (d : Option Addr) (pn : List (Addr × Obj)), Zc cls d oe → (∃ vs, oe.data = .fields vs) → PSs (X.suite a ((a, oe) :: pn)) (s0 :: rest) (ts a cls d)) :
    PS X (.Try body [.ExceptHandler (some (.Name x p1)) (some n) (s0 :: rest) p2] [] [] p3) (fun D σ H => tb (wKeep X.K c i ts Wout D) D σ H) := by
  refine ⟨fun pins s σ H D I h => ?_⟩
  have okX := I.ok
  have hfs : X.A.frames = some (X.env :: X.outer) := by rw [okX.frames, hs]
  obtain ⟨hd9, hh9⟩ : ∃ hd, hd = Stmt.Try body [.ExceptHandler (some (.Name x p1)) (some n) (s0 :: rest) p2] [] [] p3 := ⟨_, rfl⟩
  refine wpAny_Try_except (wpAny_mono ((hb (wKeep X.K c i ts Wout D) (X.pn ++ pins) _ (fun u t hX => ?_) PassesOwn.looking).run [] s σ H D (I.toTry _) h) (fun f t hf9 => ?_) fun _ _ z => z)
  rotate_left
  · cases f with
    | next => exact hf9.elim fun σ2 z => z.elim fun H2 z => wpAny_execs_nil ⟨σ2, H2, z.1.ofTry okX, z.2⟩
    | brk => exact hf9.elim fun σ2 z => z.elim fun H2 z => ⟨σ2, H2, z.1.ofTry okX, z.2⟩
    | cont => exact hf9.elim fun σ2 z => z.elim fun H2 z => ⟨σ2, H2, z.1.ofTry okX, z.2⟩
    | ret u =>
      obtain ⟨v, σ2, H2, J, z⟩ := hf9
      exact ⟨v, σ2, H2, J.ofTry okX, z⟩
  obtain ⟨a, G, sJ, q, σ2, H2, cls, d, rfl, J0, keepG, upS, sk, fr, osE, gs, yes, hyes, wY, wN⟩ := hX
  rw [show (X.tr (X.pn ++ pins) _).stack = X.env :: X.outer from hs] at sk keepG
  have J := J0.ofTry okX
  show wpAny (model X.prog X.w) X.A (noteFrame (.ref a) X.env) _ _ _
  refine Sky.land Zc.steady hfs hf sk fun g1 F1 up1 => ?_
  obtain ⟨o1, v1, e1, zc1, f1⟩ := F1.there
  have notF : a ∉ frs (X.env :: X.outer) := fun hm => by
    obtain ⟨_, o2, e2, bad⟩ := F1.2.2.1.mem hm
    rw [e1] at e2
    exact bad v1 (Option.some.inj e2 ▸ f1)
  have notL : a ≠ X.env.locals := fun z => notF (List.mem_filterMap.mpr ⟨X.env, List.mem_cons_self, by rw [hf, z]⟩)
  have notO : a ∉ X.fs := fun hm => by
    obtain ⟨e, he, z⟩ := List.mem_filterMap.mp hm
    exact notF (List.mem_filterMap.mpr ⟨e, List.mem_cons_of_mem _ he, z⟩)
  have newJ : ∀ o, sJ.heap.get? a = some o → False := fun o e => by
    have := keepG a o e notF
    rw [F1.2.1] at this
    exact nomatch this
  have new0 : X.s_0.heap.get? a = none := by
    cases e : X.s_0.heap.get? a with
    | none => rfl
    | some o =>
      obtain ⟨o2, e2⟩ := J.base.there a o e (by rw [hx]; exact List.not_mem_nil)
      exact (newJ o2 e2).elim
  have newP : ∀ p, p ∈ X.pn ++ pins → p.1 ≠ a := fun p hp z => newJ p.2 (by rw [← z]; exact (J.pin p hp).1)
  have J1 : Inv X pins σ2 H2 { t with heap := g1 } := J.landed (by rw [hs]; exact keepG) F1.1 (upS.trans up1) osE gs
  have T1 := J1.suite e1 f1 fr notL notO
  have ask := PySem.W.exm_one (M := model X.prog X.w) J1.kIn (show PySem.W.Looks (model X.prog X.w) g1 (typeOf (.ref a)) cls from fun A Q E s9 k z => wpAny_typeOf_ref (k _ _ e1) (by rw [zc1.1]; exact z)) hyes
  have look : ∀ {Q E : Value → Shared → Prop}, Q c { t with heap := g1 } → wpAny (model X.prog X.w) (X.A.mark (some (.ref a))) (eval (.Name x p1) X.env) Q E { t with heap := g1 } := fun {Q E} z => by
    rcases hc with ⟨hg, hdb, hm | ⟨hm, hv, hnn⟩⟩
    · exact ld_glob (X := X.suite a ((a, o1) :: (X.pn ++ pins))) T1 hg hm z hdb
    · exact ld_blt (X := X.suite a ((a, o1) :: (X.pn ++ pins))) T1 hg hm hv z hnn hdb
  refine wpAny_handleBy_cons (codeAny_handlers_test (look (ask.here ?_))) (by intro z; cases z)
  cases yes with
  | true =>
    refine codeAny_handlers_suite_as (HandSPX.lands_againZ F1 fun g2 F2 up2 => ?_)
    obtain ⟨o2, v2, e2, zc2, f2⟩ := F2.there
    have T2 := (J.landed (s' := { t with heap := g2 }) (by rw [hs]; exact keepG) F2.1 ((upS.trans up1).trans up2) osE gs).suite e2 f2 fr notL notO
    refine store_ok (X := X.suite a ((a, o2) :: (X.pn ++ pins))) (v := .ref a) T2 hN hi (.inl hl) rfl (fun t3 T3 => ?_) (.inr hl)
    refine wpAny_mono ((ht a o2 cls d (X.pn ++ pins) zc2 ⟨_, f2⟩).run [] t3 _ H2 _ T3 (wY rfl a fr)) (fun f t4 r4 => ?_) fun _ _ z => z.elim
    cases f with
    | next =>
      obtain ⟨σ4, H4, T4, z4⟩ := r4
      exact gone_ok (X := X.suite a ((a, o2) :: (X.pn ++ pins))) T4 hN hi hl fun t5 T5 => ⟨_, _, adopt T5 okX zc2 ⟨_, f2⟩ new0 newP, z4⟩
    | brk =>
      obtain ⟨σ4, H4, T4, z4⟩ := r4
      exact gone_ok (X := X.suite a ((a, o2) :: (X.pn ++ pins))) T4 hN hi hl fun t5 T5 => ⟨_, _, T5.unsuite okX, z4⟩
    | cont =>
      obtain ⟨σ4, H4, T4, z4⟩ := r4
      exact gone_ok (X := X.suite a ((a, o2) :: (X.pn ++ pins))) T4 hN hi hl fun t5 T5 => ⟨_, _, T5.unsuite okX, z4⟩
    | ret u =>
      obtain ⟨v4, σ4, H4, T4, r4, z4⟩ := r4
      exact gone_ok (X := X.suite a ((a, o2) :: (X.pn ++ pins))) T4 hN hi hl fun t5 T5 => ⟨_, _, _, T5.unsuite okX, r4, z4⟩
  | false =>
    show wpAny _ X.A (handleBy (.ref a) X.env []) _ _ _
    refine wpAny_handleBy_nil ?_
    have F1' := F1
    obtain ⟨_, _, _, o3, v3, T, oT, ts3, e3, zc3, f3, i3, _⟩ := F1'
    have on : wpAny (model X.prog X.w) X.A (setFlight (.ref a) X.env.frame) (fun _ s9 => wpAny (model X.prog X.w) X.A (throw (.ref a) : Sem Flow) (SP X pins D) X.xe s9) X.xe { t with heap := g1 } := by
      rw [hf]
      exact HandSPX.setFlight_upZ F1 fun g2 F2 up2 => wpAny_throw (tk _ _ ⟨a, G, sJ, pins, σ2, H2, cls, d, rfl, J, by rw [hs]; exact keepG, (upS.trans up1).trans up2, .inr (.inr (by rw [hs]; exact F2)), fr, osE, gs, wN rfl⟩)
    unfold PySem.passOn
    refine wpAny_bind (wpAny_field e3 f3 i3 ?_)
    rw [if_neg (show ¬ ((Value.ref T == Value.none) = true) from by simp)]
    first
      | exact wpAny_bind (wpAny_pure (wpAny_bind on))
      | exact wpAny_bind on
end
/-! isinstance of a kept error -/
def rIsEK (K : PySem.W.Frag) : List V → Hp → VK → Prop := fun xs H Q => (∃ (a : Addr) (cls : Value) (d : Option Addr), H a = some (ErO a cls d) ∧ rIsES K a cls d xs H Q) ∨ rIsiX K xs H Q
theorem call_isEK {X : Cx} : CallR X (.builtin "isinstance") (rIsEK X.K) := by
  intro pins s σ H xs us Q I r h
  rcases h with ⟨a, cls, d, hE, C, rfl, rfl, x, h⟩ | h
  rotate_left
  · exact call_isiX pins s σ H xs us Q I r h
  obtain ⟨⟨oe, hget, ⟨z1, z2⟩, vs, hv⟩, _⟩ := (show ObjOk X.prog X.w H s.heap a (ErO a (.ref C) none) from I.hok a _ hE)
  have J : PySem.W.InstAt s.heap a oe C none := by
    cases oe
    dsimp only at z1 z2 hv
    subst z1 z2 hv
    exact ⟨hget, rfl, rfl, trivial⟩
  rcases h with ⟨c, cv, b, rfl, hcv, e, q⟩ | ⟨tp, cs, ws, b, rfl, hT, kp, e, q⟩
  · obtain ⟨u1, u2, rfl, r1, r2⟩ := vals2 r
    cases (show u1 = Value.ref a from r1)
    have ec := hcv.eq r2
    subst ec
    exact PySem.W.kia_one (PySem.W.handS_kitx_exc x.hg x.hk x.hs x.hd x.ha x.hn x.ht x.hm) I.kIn J e (fun z => nomatch z) fun tk => ⟨.bl b, H, I.kept (t' := tk) fun _ _ z => z, rfl, q⟩
  · obtain ⟨u1, u2, rfl, r1, r2⟩ := vals2 r
    cases (show u1 = Value.ref a from r1)
    cases (show u2 = Value.ref tp from r2)
    obtain ⟨_, its, rv, ot, g1, g2, n, g3⟩ := (show ObjOk X.prog X.w H s.heap tp (.tup cs) from I.hok tp _ hT)
    have ew := ClsV.all kp rv
    subst ew
    cases ot
    simp only at g2 g3
    subst g2 g3
    exact PySem.W.kia_tup (PySem.W.handS_kitx_exc x.hg x.hk x.hs x.hd x.ha x.hn x.ht x.hm) I.kIn J g1 e (fun z => nomatch z) fun tk => ⟨.bl b, H, I.kept (t' := tk) fun _ _ z => z, rfl, q⟩
class Kx (D : Hp) (a : Addr) (C : outParam Addr) : Prop where
  pf : D a = some (ErO a (.ref C) none)
instance kxUp {D D' : Hp} {a C : Addr} [s : Sm D D'] [k : Kx D a C] : Kx D' a C := ⟨s.e _ _ k.pf⟩
section
variable {σ : L2.St} {D H : Hp} {L : Own} {K : PySem.W.Frag} {Q : VK}
instance (priority := 2000) v_isEK1 {a C : Addr} {c : V} {b : Bool} [S : Sx D L H] [e : Kx D a C] [x : ExC K C] [k : KtO K C c b] : VC (rIsEK K [.ref a, c] H Q) (Q (.bl b) H) := ⟨fun q => by
  obtain ⟨cv, h1, h2⟩ := k.pf
  exact .inl ⟨a, _, _, S.dH _ _ e.pf, C, rfl, rfl, x.pf, .inl ⟨c, cv, b, rfl, h1, h2, q⟩⟩⟩
instance (priority := 2000) v_isEKT {a C tp : Addr} {cs : List V} {b : Bool} [S : Sx D L H] [kt : Kn D tp (.tup cs)] [e : Kx D a C] [x : ExC K C] [k : KtA K C cs b] : VC (rIsEK K [.ref a, .ref tp] H Q) (Q (.bl b) H) := ⟨fun q => by
  obtain ⟨us, h1, h2⟩ := k.pf
  exact .inl ⟨a, _, _, S.dH _ _ e.pf, C, rfl, rfl, x.pf, .inr ⟨tp, cs, us, b, rfl, S.dH _ _ kt.pf, h1, h2, q⟩⟩⟩
instance (priority := 100) v_isEKx {xs : List V} : VC (rIsEK K xs H Q) (rIsiX K xs H Q) := ⟨fun q => .inr q⟩
/-- the error is adopted -/
theorem Sx.err {a C : Addr} (S : Sx D L H) (h : H a = none) : Sx (upd D a (ErO a (.ref C) none)) L (upd H a (ErO a (.ref C) none)) ∧ Sm D (upd D a (ErO a (.ref C) none)) ∧ Kx (upd D a (ErO a (.ref C) none)) a C := ⟨S.fix h, ⟨same_upd (S.dH.free h)⟩, ⟨upd_same⟩⟩
end
end Fk

namespace Fk
open PySem PySem.Spec PyProof.Rows L2
/-! ## dicts that are written no more: walks, sorted(d) -/
class Kf (D : Hp) (a : Addr) (u : outParam HO) : Prop where
  pf : ∃ o, D a = some (.frz o u)
instance kfUp {D D' : Hp} {a : Addr} {u : HO} [s : Sm D D'] [k : Kf D a u] : Kf D' a u := ⟨let ⟨o, e⟩ := k.pf; ⟨o, s.e _ _ e⟩⟩
def tFrz (t : TS) : TS := fun E σ H => ∃ d u, H d = some u ∧ Mut (some u) ∧ ∀ od, t E σ (upd H d (.frz od u))
theorem ps_frz {X : Cx} {st : Stmt} {t : TS} (h : PS X st t) : PS X st (tFrz t) := by
  refine ⟨fun pins s σ H E I hw => ?_⟩
  obtain ⟨d, u, hd, mu, hw⟩ := hw
  obtain ⟨od, I1⟩ := I.lock hd mu
  exact h.run pins s σ _ _ I1 (hw od)
/-- sorted(d), the keys numbers, any number of them -/
def rSortDK : List V → Hp → VK → Prop := fun vs H Q => ∃ (a : Addr) (kvs : List (Int × Int)), vs = [.ref a] ∧ Rd H a (.dK (kvs.map entI)) ∧
  ∀ (ys : List Int) (p : Addr), ys.Perm (kvs.map (·.1)) → ys.Pairwise (· ≤ ·) → H p = none → Q (.ref p) (upd H p (.lst (ys.map V.int)))
theorem cr_sortDK {X : Cx} (hcalm : X.calm = true) : CallR X (.builtin "sorted") rSortDK := by
  intro pins s σ H xs us Q I r q
  obtain ⟨a, kvs, ex, hd, q⟩ := q
  subst ex
  obtain ⟨u, eu, rx⟩ := vals1 r
  subst eu
  cases rx
  obtain ⟨z, lo, vs, rel, dd⟩ := dk_rd I.hok hd
  obtain ⟨ep, hat⟩ := dd.dictAt
  have hkeys : vs.map (·.1) = (kvs.map (·.1)).map Sum.inl := by
    rw [← rel.keys, List.map_map, List.map_map]
    rfl
  have hl : vs.length = kvs.length := by
    have e := congrArg List.length hkeys
    rw [List.length_map, List.length_map, List.length_map] at e
    exact e
  rw [List.length_map] at z
  have h16 : vs.length ≤ sizeLine := by rw [hl]; exact z
  refine Calls.call_function_entry PyProof.Rows.kind_sorted PyProof.Rows.plain_sorted PyProof.Rows.entry_sorted (PyProof.Rows.args_sorted1 _) ?_
  unfold Builtin.«sorted»
  refine wpAny_bind (m := checkCount "sorted" 1 1 _) (wpAny_pure ?_)
  refine wpAny_bind (PySem.W.kdu_collect (A := X.A.in1) (PySem.W.kdl_dict (knd := mixKind X.prog X.w) (kvs := vs) (ep := ep) lo) (I.ok.hd hcalm) hat h16 fun h' tk acc hk hacc => ?_)
  have hal : acc.toList.length = (kvs.map (·.1)).length := by rw [Array.length_toList, hacc.1, hl, List.length_map]
  have hS : IntsAre acc.toList (kvs.map (·.1)) := ints_each hal fun j v e => by
    obtain ⟨k, x, e1, e2⟩ := hacc.2 j v (by rw [← Array.getElem?_toList]; exact e)
    have e3 : (vs.map (·.1))[j]? = some k := by rw [List.getElem?_map, e1]; rfl
    rw [hkeys, List.getElem?_map] at e3
    cases e4 : (kvs.map (·.1))[j]? with
    | none => rw [e4] at e3; cases e3
    | some y =>
      rw [e4] at e3
      have e5 : Sum.inl y = k := Option.some.inj e3
      subst e5
      rcases keyIs_shape (show keyIs (Sum.inl y) v = true from e2) with ⟨i, t, ek, ev⟩ | ⟨z, t, ek, ev⟩
      · cases ek
        exact ⟨y, t, rfl, ev⟩
      · cases ek
  have I1 : Inv X pins σ H { s with heap := h', toks := tk } := I.kept hk
  have hz2 : acc.toList.length ≤ sizeLine := by rw [hal, List.length_map]; exact z
  refine wpAny_bind (wpAny_newList ?_ hz2)
  have hoL : (h'.push (seqObj "list" acc.toList.toArray 0)).get? h'.objs.size = some (seqObj "list" acc.toList.toArray 0) := Heap.get?_push_size _ rfl
  show wpAny _ _ _ _ _ { s with heap := h'.push (seqObj "list" acc.toList.toArray 0), toks := tk }
  have hn0 : H h'.objs.size = none := I1.hok.fresh (Nat.le_refl _)
  have hlen : ((kvs.map (·.1)).map V.int).length ≤ sizeLine := by rw [List.length_map, List.length_map]; exact z
  have I2 := I1.laid (a := h'.objs.size) (o := .lst ((kvs.map (·.1)).map V.int)) (h' := h'.push (seqObj "list" acc.toList.toArray 0)) (t' := tk) (fun _ _ q => Heap.get?_push_of_some _ q) (Nat.le_refl _)
    ⟨hlen, acc.toList, 0, vals_of_ints hS, Heap.get?_push_size _ rfl⟩
  refine wpAny_bind (wpAny_holding (wpAny_mono (mt_sortI (X := inX X) pins { s with heap := h'.push (seqObj "list" acc.toList.toArray 0), toks := tk } σ (upd H h'.objs.size (.lst ((kvs.map (·.1)).map V.int))) (.ref h'.objs.size) [] (.ref h'.objs.size) [] (fun _ H3 => Q (.ref h'.objs.size) H3) (inv_in I2) rfl .nil
    ⟨h'.objs.size, kvs.map (·.1), rfl, rfl, upd_same, fun ns' h1 h2 => ?_⟩) (fun u s' hu => ?_) (fun _ _ e => e)))
  · have e : upd (upd H h'.objs.size (.lst ((kvs.map (·.1)).map V.int))) h'.objs.size (.lst (ns'.map V.int)) = upd H h'.objs.size (.lst (ns'.map V.int)) := funext fun b => by
      by_cases c : b = h'.objs.size
      · rw [c, upd_same, upd_same]
      · rw [upd_ne c, upd_ne c, upd_ne c]
    rw [e]
    exact q ns' _ h1 h2 hn0
  · obtain ⟨v, H4, J, _, qq⟩ := hu
    exact wpAny_pure ⟨_, rfl, .ref h'.objs.size, H4, inv_out I.ok J, rfl, qq⟩
section
variable {σ : L2.St} {D H : Hp} {L : Own} {K : PySem.W.Frag} {Q : VK} {nx : L2.St → Hp → Prop} {rt : VK} {bk ct : L2.St → Hp → Prop}
/-- my dict is frozen from now on -/
theorem Sx.frzK {a : Addr} {u : HO} {L1 L' : Own} {n : Nat} (od : Obj) [S : Sx D L1 H] [h : Fi L1 a u n] [e : Er L1 n L'] : Sm D (upd D a (.frz od u)) ∧ Kf (upd D a (.frz od u)) a u ∧ Sx (upd D a (.frz od u)) L' (upd H a (.frz od u)) := by
  have hDa : D a = none := S.off h.pf
  have hF := Sx.front (S := S) (h := h) (e := e)
  have hnd : a ∉ L'.map (·.1) := by have := hF.nd; rw [List.map_cons] at this; exact (List.nodup_cons.mp this).1
  refine ⟨⟨same_upd hDa⟩, ⟨⟨od, upd_same⟩⟩, ⟨fun b o hb => ?_, fun q hq => ?_, ?_⟩⟩
  · by_cases c : b = a
    · rw [c, upd_same] at hb ⊢
      exact hb
    · rw [upd_ne c] at hb ⊢
      exact S.dH b o hb
  · obtain ⟨q1, q2⟩ := hF.ow q (List.mem_cons_of_mem _ hq)
    have c : q.1 ≠ a := fun z => hnd (z ▸ List.mem_map.mpr ⟨q, hq, rfl⟩)
    rw [upd_ne c, upd_ne c]
    exact ⟨q1, q2⟩
  · have := hF.nd
    rw [List.map_cons] at this
    exact (List.nodup_cons.mp this).2
def IsKy (x : V) (H : Hp) (R : It → Hp → Prop) : Prop := ∃ d o, x = .ref d ∧ ((∃ kvs, H d = some (.frz o (.dK kvs)) ∧ R (Itk d o kvs) H) ∨ ∃ kvs, H d = some (.frz o (.dT kvs)) ∧ R (Itkt d o kvs) H)
instance v_keys {td : TE} {R : It → Hp → Prop} : VC (iKeys td σ H R) (td σ H fun x H1 => IsKy x H1 R) := ⟨fun h => h⟩
instance v_ky {a : Addr} {kvs : List (Key × V)} {R : It → Hp → Prop} [S : Sx D L H] [h : Kf D a (.dK kvs)] : VC (IsKy (.ref a) H R) (∀ o, D a = some (.frz o (.dK kvs)) → R (Itk a o kvs) H) :=
  ⟨fun k => let ⟨o, e⟩ := h.pf; ⟨a, o, rfl, .inl ⟨kvs, S.dH _ _ e, k o e⟩⟩⟩
theorem rdF {a : Addr} {u : HO} (S : Sx D L H) (h : Kf D a u) : Rd H a u := let ⟨o, e⟩ := h.pf; .inr ⟨o, S.dH _ _ e⟩
instance v_dgF {a : Addr} {kvs : List (Key × V)} {i : Int} {q : Option V → Prop} [S : Sx D L H] [h : Kf D a (.dK kvs)] : VC (IsDG (.ref a) (.int i) H q) (q (valV kvs (Sum.inl i))) := ⟨fun k => ⟨a, _, rfl, .inl ⟨kvs, Sum.inl i, rdF S h, rfl, rfl⟩, k⟩⟩
instance v_dg2F {a : Addr} {kvs : List (Key × V)} {ty tx : TE} [S : Sx D L H] [h : Kf D a (.dK kvs)] : VC (DG2 ty tx σ (.ref a) H Q) (ty σ H fun y H2 => tx σ H2 fun z H3 => DGo a y z H3 Q) := ⟨fun k => ⟨a, rfl, .inl ⟨kvs, rdF S h⟩, k⟩⟩
instance v_dgoF {a : Addr} {kvs : List (Key × V)} {i : Int} {z : V} [S : Sx D L H] [h : Kf D a (.dK kvs)] : VC (DGo a (.int i) z H Q) (Q ((valV kvs (Sum.inl i)).getD z) H) := ⟨fun k => ⟨_, .inl ⟨kvs, Sum.inl i, rdF S h, rfl, rfl⟩, k⟩⟩
/-- d[k], the key there -/
def DGe (x y : V) (H : Hp) (Q : VK) : Prop := ∃ a v, x = .ref a ∧ DGet H a y (some v) ∧ Q v H
instance v_dget {td ty : TE} : VC (tDGet td ty σ H Q) (td σ H fun x H1 => ty σ H1 fun y H2 => DGe x y H2 Q) := ⟨fun h => h⟩
class DvC (kvs : List (Key × V)) (i : Int) (v : outParam V) : Prop where
  pf : valV kvs (Sum.inl i) = some v
instance v_dge {a : Addr} {kvs : List (Key × V)} {n : Nat} {i : Int} {v : V} [S : Sx D L H] [h : Fi L a (.dK kvs) n] [c : DvC kvs i v] : VC (DGe (.ref a) (.int i) H Q) (Q v H) := ⟨fun k => ⟨a, v, rfl, .inl ⟨kvs, Sum.inl i, .inl (S.at h.pf), rfl, c.pf.symm⟩, k⟩⟩
instance v_dgeF {a : Addr} {kvs : List (Key × V)} {i : Int} {v : V} [S : Sx D L H] [h : Kf D a (.dK kvs)] [c : DvC kvs i v] : VC (DGe (.ref a) (.int i) H Q) (Q v H) := ⟨fun k => ⟨a, v, rfl, .inl ⟨kvs, Sum.inl i, rdF S h, rfl, c.pf.symm⟩, k⟩⟩
theorem c_sortDK {a : Addr} {kvs : List (Int × Int)} (S : Sx D L H) (hR : Rd H a (.dK (kvs.map entI))) (k : ∀ (ys : List Int), ys.Perm (kvs.map (·.1)) → ys.Pairwise (· ≤ ·) → ∀ p H', Sx D ((p, .lst (ys.map V.int)) :: L) H' → Q (.ref p) H') : rSortDK [.ref a] H Q :=
  ⟨a, kvs, rfl, hR, fun ys p h1 h2 hp => k ys h1 h2 p _ (S.new hp)⟩
end
end Fk

namespace Fk
open PySem PySem.Spec PyProof.Rows L2 SrtO
/-! ## sorted(xs), xs triples of numbers, any number of them -/
abbrev T3 := Int × Int × Int
def lexT (p q : T3) : Bool := if p.1 = q.1 then lexB p.2 q.2 else decide (p.1 < q.1)
theorem lexT_iff {p q : T3} : lexT p q = true ↔ p.1 < q.1 ∨ (p.1 = q.1 ∧ (p.2.1 < q.2.1 ∨ (p.2.1 = q.2.1 ∧ p.2.2 < q.2.2))) := by
  unfold lexT
  by_cases e : p.1 = q.1
  · rw [if_pos e, lexB_iff]
    omega
  · rw [if_neg e, decide_eq_true_eq]
    omega
theorem lexT_no {p q : T3} : lexT p q = false ↔ ¬ (p.1 < q.1 ∨ (p.1 = q.1 ∧ (p.2.1 < q.2.1 ∨ (p.2.1 = q.2.1 ∧ p.2.2 < q.2.2)))) := by
  rw [← lexT_iff]
  cases lexT p q <;> simp
theorem swo_lexT {α : Type} (k : α → T3) : Swo fun v u => lexT (k v) (k u) := by
  refine ⟨fun x y h => ?_, fun x y z h1 h2 => ?_⟩
  · have a := lexT_iff.mp h
    refine lexT_no.mpr ?_
    omega
  · have a := lexT_no.mp h1
    have b := lexT_no.mp h2
    refine lexT_no.mpr ?_
    omega
def IsTrip (h : Heap) (v : Value) (p : T3) : Prop := ∃ a o t u w n, v = .ref a ∧ h.get? a = some o ∧ o.cls = .type "tuple" ∧ o.data = .seq #[.int p.1 t, .int p.2.1 u, .int p.2.2 w] n
theorem IsTrip.keeps {h h' : Heap} {v : Value} {x : T3} (p : IsTrip h v x) (k : ∀ b o, h.get? b = some o → o.cls = .type "tuple" → h'.get? b = some o) : IsTrip h' v x := by
  obtain ⟨a, o, t, u, w, n, e, ho, hc, hd⟩ := p
  exact ⟨a, o, t, u, w, n, e, k _ _ ho hc, hc, hd⟩
section
variable {prog : Program} {w : World} {A : Around} {E : Value → Shared → Prop} {s : Shared}
theorem trip_firsts {h : Heap} {k : Value → T3} : ∀ {vs : List Value}, (∀ v ∈ vs, IsTrip h v (k v)) → ∃ fs : List Value, PySem.W.KatTups h vs fs ∧ fs.length = vs.length ∧ ∀ f ∈ fs, ∃ x t, f = Value.int x t
  | [], _ => ⟨[], PySem.W.KatTups.nil, rfl, fun _ hm => by simp at hm⟩
  | v :: vs, hp => by
    obtain ⟨fs, h1, h2, h3⟩ := trip_firsts (vs := vs) fun v' hm => hp v' (List.mem_cons_of_mem _ hm)
    obtain ⟨a, o, t, u, ww, n, e, ho, hc, hd⟩ := hp v (List.mem_cons_self ..)
    refine ⟨.int (k v).1 t :: fs, by rw [e]; rw [e] at hd; exact PySem.W.KatTups.cons ho hc hd rfl h1, by rw [List.length_cons, List.length_cons, h2], fun f hm => ?_⟩
    rcases List.mem_cons.mp hm with rfl | hm
    · exact ⟨_, t, rfl⟩
    · exact h3 f hm
theorem trip_cmp {vs : List Value} {k : Value → T3} (hp : ∀ v ∈ vs, IsTrip s.heap v (k v)) : Cmp prog w A s (tuples' true) (fun p => p.1 ∈ vs) (lt2 fun v u => lexT (k v) (k u)) := by
  intro p q hm hm'
  have h1 := hp _ hm
  have h2 := hp _ hm'
  show wpAny (model prog w) A (keyLt' (tuples' true) p.1 q.1) (fun r s' => s' = s ∧ r = lexT (k p.1) (k q.1)) (fun _ _ => False) s
  unfold lexT lexB
  generalize (k p.1) = kp at h1 ⊢
  generalize (k q.1) = kq at h2 ⊢
  obtain ⟨x, y, z⟩ := kp
  obtain ⟨x', y', z'⟩ := kq
  obtain ⟨a, o, t, u, c, n, e, ho, hc, hd⟩ := h1
  obtain ⟨a', o', t', u', c', n', e', ho', hc', hd'⟩ := h2
  rw [e, e']
  refine PySem.W.kat_lt ho hd ho' hd' ?_
  show PySem.W.KatLex prog w A true (decide (3 < 3)) _ [(.int x t, .int x' t'), (.int y u, .int y' u'), (.int z c, .int z' c')] 0 s
  show PySem.W.KatLex prog w A true (decide (3 < 3)) (fun r s' => s' = s ∧ r = (if x = x' then (if y = y' then decide (z < z') else decide (y < y')) else decide (x < x'))) _ 0 s
  refine PySem.W.kat_cons (SeqAt.EqAt.int_int x t x' t' prog w _ _ ?_)
  refine PySem.W.kat_go (fun e1 => ?_) (fun e1 => ?_)
  · have ex : x = x' := by simpa using e1
    refine PySem.W.kat_yes (PySem.W.kat_cons (SeqAt.EqAt.int_int y u y' u' prog w _ _ ?_))
    refine PySem.W.kat_go (fun e2 => ?_) (fun e2 => ?_)
    · have ey : y = y' := by simpa using e2
      refine PySem.W.kat_yes (PySem.W.kat_cons (SeqAt.EqAt.int_int z c z' c' prog w _ _ ?_))
      refine PySem.W.kat_go (fun e3 => ?_) (fun e3 => ?_)
      · have ez : z = z' := by simpa using e3
        have e4 : (if x = x' then (if y = y' then decide (z < z') else decide (y < y')) else decide (x < x')) = false := by
          rw [if_pos ex, if_pos ey, ez]
          exact decide_eq_false (Int.lt_irrefl _)
        exact PySem.W.kat_yes (PySem.W.kat_nil ⟨rfl, e4.symm⟩)
      · have e4 : (if x = x' then (if y = y' then decide (z < z') else decide (y < y')) else decide (x < x')) = decide (z < z') := by rw [if_pos ex, if_pos ey]
        refine PySem.W.kat_no (PySem.W.kat_one _ _ (PyProof.Rows.lt_int ?_))
        exact ⟨rfl, e4.symm⟩
    · have e4 : (if x = x' then (if y = y' then decide (z < z') else decide (y < y')) else decide (x < x')) = decide (y < y') := by rw [if_pos ex, if_neg (by simpa using e2)]
      refine PySem.W.kat_no (PySem.W.kat_one _ _ (PyProof.Rows.lt_int ?_))
      exact ⟨rfl, e4.symm⟩
  · have ex : ¬ x = x' := by simpa using e1
    have e3 : (if x = x' then (if y = y' then decide (z < z') else decide (y < y')) else decide (x < x')) = decide (x < x') := if_neg ex
    exact PySem.W.kat_no (oneLt_int ⟨rfl, e3.symm⟩)
theorem trip_sortableO {a : Addr} {vs : List Value} {k : Value → T3} (h0 : 0 < vs.length) (hp : ∀ v ∈ vs, IsTrip s.heap v (k v)) (ha : ∀ o, s.heap.get? a = some o → o.cls ≠ .type "tuple") : SortableO prog w A s a vs fun v u => lexT (k v) (k u) := by
  intro h' keep
  have hp' : ∀ v ∈ vs, IsTrip h' v (k v) := fun v hm => (hp v hm).keeps fun b o e c => keep b o (fun z => by subst z; exact ha o e c) e
  obtain ⟨fs, h1, h2, h3⟩ := trip_firsts hp'
  refine ⟨tuples' true, fun Q E hq => ?_, trip_cmp hp'⟩
  refine PySem.W.kat_kind (T := .type "int") h1 (by omega) (fun f hm => ?_) (by rfl) ?_
  · obtain ⟨x, t, rfl⟩ := h3 f hm
    exact PySem.W.Looks.now
  · have e : (Value.type "int" != Value.type "tuple") = true := by first | decide +kernel | rfl | decide
    rw [e]
    exact hq
theorem sorted_tripO {l : Addr} {vs : List Value} {k : Value → T3} {Q : Value → Shared → Prop} (hl : s.heap.IsList l vs.toArray) (hz : vs.length ≤ sizeLine) (hp : ∀ v ∈ vs, IsTrip s.heap v (k v))
    (h : ∀ (h' : Heap) (d : Addr) (out : List Value), Srtd (fun v u => lexT (k v) (k u)) out → Stb (fun v u => lexT (k v) (k u)) out vs → (∀ b o, s.heap.get? b = some o → h'.get? b = some o) → s.heap.objs.size ≤ d → (∃ n, h'.get? d = some (seqObj "list" out.toArray n)) → Q (.ref d) { s with heap := h' }) :
    wpAny (model prog w) A (call (.builtin "sorted") [.ref l]) Q E s := by
  refine sorted_ord (swo_lexT k) hl hz (fun h2 h₁ a ha kk => ?_) fun out hs hb => ?_
  · refine trip_sortableO (s := { s with heap := h₁ }) (by omega) (fun v hm => (hp v hm).keeps fun b o e _ => (kk b o e).2) fun o e => ?_
    have e' : some o = some (seqObj "list" vs.toArray 0) := e.symm.trans ha
    cases e'
    intro c
    exact absurd (Value.type.inj c) (by decide)
  · exact h _ _ out hs hb (fun b o e => sortedAll_old e) (Nat.le_succ _) (sortedAll_at s.heap vs out.toArray)
end
abbrev ltT (k : V → T3) (x y : V) : Bool := lexT (k x) (k y)
/-- sorted(xs), xs a list of triples of numbers (k says which) -/
def rSortedT3 (K : PySem.W.Frag) : List V → Hp → VK → Prop := fun vs H Q => ∃ (a : Addr) (xs : List V) (k : V → T3), vs = [V.ref a] ∧ SqL K H a xs ∧ (∀ x ∈ xs, ∃ t, x = V.ref t ∧ H t = some (.tup [.int (k x).1, .int (k x).2.1, .int (k x).2.2])) ∧
  ∀ ys p, Srtd (ltT k) ys → Stb (ltT k) ys xs → H p = none → Q (.ref p) (upd H p (.lst ys))
theorem cr_sortedT3 {X : Cx} : CallR X (.builtin "sorted") (rSortedT3 X.K) := by
  intro pins s σ H vs us Q I r h
  obtain ⟨a, xs, k, rfl, hs, hx, q⟩ := h
  obtain ⟨its, rv, hl, hz⟩ := I.list hs
  obtain ⟨u, rfl, ru⟩ := vals1 r
  obtain rfl : u = Value.ref a := ru
  obtain ⟨e1, e2⟩ := refs_back rv fun x m => by
    obtain ⟨t, e, _⟩ := hx x m
    exact ⟨t, e⟩
  refine sorted_tripO (k := fun u => k (backV u)) hl.isList (by rw [← rv.length]; exact hz) (fun v hv => ?_) fun h' d out h1 h2 kp hd hn => ?_
  · obtain ⟨t, rfl⟩ := e2 v hv
    have hm : V.ref t ∈ xs := by rw [e1]; exact List.mem_map.mpr ⟨_, hv, rfl⟩
    obtain ⟨t', e, ht⟩ := hx _ hm
    cases e
    obtain ⟨_, its2, r2, o, ho, hc, n, hd⟩ := I.hok _ _ ht
    cases r2 with
    | cons r1 r2 =>
      obtain ⟨u2, u3, rfl, ri, rj⟩ := vals2 r2
      obtain ⟨t1, rfl⟩ := r1
      obtain ⟨t2, rfl⟩ := ri
      obtain ⟨t3, rfl⟩ := rj
      exact ⟨t, o, t1, t2, t3, n, rfl, ho, hc, hd⟩
  · have h3 : ∀ u ∈ out, ∃ a, u = Value.ref a := fun u hu => e2 u (h2.perm.mem_iff.mp hu)
    obtain ⟨n, hn⟩ := hn
    have hb : Stb (ltT k) (out.map backV) xs := by
      rw [e1]
      exact Stb.map (swo_lexT k) backV h2
    refine ⟨.ref d, upd H d (.lst (out.map backV)), I.laid (t' := s.toks) kp hd ⟨?_, out, n, L2.vals_back h3, hn⟩, rfl, q _ d (srtd_map h1) hb (I.hok.fresh hd)⟩
    rw [hb.len]
    exact hz
def leT (a b : T3) : Prop := a.1 < b.1 ∨ (a.1 = b.1 ∧ (a.2.1 < b.2.1 ∨ (a.2.1 = b.2.1 ∧ a.2.2 ≤ b.2.2)))
def keyT (D : Hp) : V → T3
  | .ref t => match D t with
    | some (.tup [.int i, .int j, .int l]) => (i, j, l)
    | _ => (0, 0, 0)
  | _ => (0, 0, 0)
theorem keyT_at {D : Hp} {b : Addr} {i j l : Int} (e : D b = some (.tup [.int i, .int j, .int l])) : keyT D (.ref b) = (i, j, l) := by
  show (match D b with
    | some (.tup [.int i, .int j, .int l]) => (i, j, l)
    | _ => (0, 0, 0)) = (i, j, l)
  rw [e]
/-- triples that stand there -/
def T3A (D : Hp) (us : List V) (xs : List T3) : Prop := us.length = xs.length ∧ ∀ (i : Nat) (v : V), us[i]? = some v → ∃ b x, v = .ref b ∧ xs[i]? = some x ∧ Kn D b (.tup [.int x.1, .int x.2.1, .int x.2.2])
theorem T3A.nil {D : Hp} : T3A D [] [] := ⟨rfl, fun i v h => by simp at h⟩
theorem T3A.up {D D' : Hp} {us : List V} {xs : List T3} (h : T3A D us xs) (s : Sm D D') : T3A D' us xs := ⟨h.1, fun i v hv => by
  obtain ⟨b, x, e, hx, k⟩ := h.2 i v hv
  exact ⟨b, x, e, hx, inferInstance⟩⟩
theorem T3A.snoc {D : Hp} {us : List V} {xs : List T3} (h : T3A D us xs) {b : Addr} {x : T3} (k : Kn D b (.tup [.int x.1, .int x.2.1, .int x.2.2])) : T3A D (us ++ [.ref b]) (xs ++ [x]) := ⟨by rw [List.length_append, List.length_append, h.1]; rfl, fun i v hv => by
  by_cases c : i < us.length
  · rw [List.getElem?_append_left c] at hv
    obtain ⟨b, x, e, hx, k⟩ := h.2 i v hv
    exact ⟨b, x, e, by rw [List.getElem?_append_left (by rw [← h.1]; exact c)]; exact hx, k⟩
  · rw [List.getElem?_append_right (by omega)] at hv
    have hi : i - us.length = 0 := by
      have := (List.getElem?_eq_some_iff.mp hv).1
      rw [List.length_singleton] at this
      omega
    rw [hi] at hv
    exact ⟨b, x, (Option.some.inj hv).symm, by rw [List.getElem?_append_right (by rw [← h.1]; omega), ← h.1, hi]; rfl, k⟩⟩
theorem T3A.app {D : Hp} {us ws : List V} {xs ys : List T3} (h : T3A D us xs) (k : T3A D ws ys) : T3A D (us ++ ws) (xs ++ ys) := ⟨by rw [List.length_append, List.length_append, h.1, k.1], fun i v hv => by
  by_cases c : i < us.length
  · rw [List.getElem?_append_left c] at hv
    obtain ⟨b, x, e, hx, kk⟩ := h.2 i v hv
    exact ⟨b, x, e, by rw [List.getElem?_append_left (by rw [← h.1]; exact c)]; exact hx, kk⟩
  · rw [List.getElem?_append_right (by omega)] at hv
    obtain ⟨b, x, e, hx, kk⟩ := k.2 _ v hv
    exact ⟨b, x, e, by rw [List.getElem?_append_right (by rw [← h.1]; omega), ← h.1]; exact hx, kk⟩⟩
theorem T3A.map {D : Hp} {us : List V} {xs : List T3} (h : T3A D us xs) : us.map (keyT D) = xs := by
  refine List.ext_getElem? fun i => ?_
  rw [List.getElem?_map]
  cases e : us[i]? with
  | none =>
    have := List.getElem?_eq_none_iff.mp e
    rw [List.getElem?_eq_none (by rw [← h.1]; exact this)]
    rfl
  | some v =>
    obtain ⟨b, x, rfl, hx, k⟩ := h.2 i v e
    rw [hx]
    show some (keyT D (.ref b)) = _
    rw [keyT_at k.pf]
section
variable {σ : L2.St} {D H : Hp} {L : Own} {K : PySem.W.Frag} {Q : VK}
theorem T3A.mem {us : List V} {xs : List T3} (h : T3A D us xs) {v : V} (hv : v ∈ us) : ∃ b, v = .ref b ∧ Kn D b (.tup [.int (keyT D v).1, .int (keyT D v).2.1, .int (keyT D v).2.2]) := by
  obtain ⟨i, hi⟩ := List.getElem?_of_mem hv
  obtain ⟨b, x, rfl, hx, k⟩ := h.2 i v hi
  exact ⟨b, rfl, by rw [keyT_at k.pf]; exact k⟩
theorem c_sortT3 {a : Addr} {us : List V} {xs : List T3} (S : Sx D L H) (ha : Rds K D L a us) (hr : T3A D us xs) (k : ∀ (ys : List V) (P : List T3) p H', P.Perm xs → P.Pairwise leT → T3A D ys P → Sx D ((p, .lst ys) :: L) H' → Q (.ref p) H') : rSortedT3 K [.ref a] H Q := by
  refine ⟨a, us, keyT D, rfl, ha.sq S, fun v hv => ?_, fun ys p h1 h2 hn => k ys (ys.map (keyT D)) p _ ?_ ?_ ⟨by rw [List.length_map], fun i v hv => ?_⟩ (S.new hn)⟩
  · obtain ⟨b, rfl, kb⟩ := hr.mem hv
    exact ⟨b, rfl, S.dH _ _ kb.pf⟩
  · have := h2.perm.map (keyT D)
    rw [hr.map] at this
    exact this
  · refine List.Pairwise.map _ (fun x y h => ?_) h1
    have := lexT_no.mp h
    show (keyT D x).1 < (keyT D y).1 ∨ ((keyT D x).1 = (keyT D y).1 ∧ ((keyT D x).2.1 < (keyT D y).2.1 ∨ ((keyT D x).2.1 = (keyT D y).2.1 ∧ (keyT D x).2.2 ≤ (keyT D y).2.2)))
    omega
  · obtain ⟨b, e, kb⟩ := hr.mem (h2.perm.mem_iff.mp (List.mem_of_getElem? hv))
    exact ⟨b, keyT D v, e, by rw [List.getElem?_map, hv]; rfl, kb⟩
end
end Fk

namespace Fk
open PySem PySem.Spec PyProof.Rows L2
/-! ## all(t), t a tuple of truths -/
section
variable {X : Cx}
def rAllT (K : PySem.W.Frag) : List V → Hp → VK → Prop := fun vs H Q => ∃ (a : Addr) (bs : List Bool), vs = [V.ref a] ∧ SqT K H a (bs.map V.bl) ∧ Q (.bl (bs.all id)) H
theorem cr_allT (hc : X.calm = true) : CallR X (.builtin "all") (rAllT X.K) := by
  intro pins s σ H vs us Q I r h
  obtain ⟨a, bs, rfl, hs, q⟩ := h
  obtain ⟨its, rv, hl, _⟩ := I.tuple hs
  rw [Vals.ref1 r]
  obtain ⟨as, hr⟩ := Dp.readsAll I (bs.map PyData.bool) _ its (dpa_bls bs) rv
  refine PySem.W.all_tuple_data (I.ok.hd hc) (vs := its.toArray) hl (show ReadsAll s.heap its.toArray.toList _ as from hr) (plain_bls bs) (fun x hx => ?_) fun h' tk hk => ?_
  · obtain ⟨b, _, rfl⟩ := List.mem_map.mp hx
    simp [PyData.fits63]
  · have e : (bs.map PyData.bool).all PyData.truthy = bs.all id := by
      rw [List.all_map]
      rfl
    rw [e]
    exact ⟨.bl (bs.all id), H, I.kept (t' := tk) hk, rfl, q⟩
def rAllX (K : PySem.W.Frag) : List V → Hp → VK → Prop := fun xs H Q => rAll K xs H Q ∨ rAllT K xs H Q
theorem cr_allX (hc : X.calm = true) : CallR X (.builtin "all") (rAllX X.K) := CallR.or (cr_all hc) (cr_allT hc)
end
section
variable {σ : L2.St} {D H : Hp} {L : Own} {K : PySem.W.Frag} {Q : VK}
instance (priority := 2000) v_allXT {a : Addr} {bs : List Bool} {xs : List V} [S : Sx D L H] [ha : Kn D a (.tup xs)] [c : BsC xs bs] : VC (rAllX K [.ref a] H Q) (Q (.bl (bs.all id)) H) := ⟨fun h => .inr ⟨a, bs, rfl, by rw [← c.pf]; exact sqT S ha.pf, h⟩⟩
instance (priority := 2100) v_allXR {a : Addr} {n : Nat} [S : Sx D L H] [ha : Kn D a (.tup (List.replicate n (V.bl true)))] : VC (rAllX K [.ref a] H Q) (Q (.bl true) H) := ⟨fun h => .inr ⟨a, List.replicate n true, rfl, by rw [List.map_replicate]; exact sqT S ha.pf, by
  have e : (List.replicate n true).all id = true := List.all_eq_true.mpr fun x hx => (List.eq_of_mem_replicate hx)
  rw [e]; exact h⟩⟩
instance (priority := 100) v_allXx {xs : List V} : VC (rAllX K xs H Q) (rAll K xs H Q) := ⟨fun h => .inl h⟩
end
end Fk

namespace Fk
open PySem PySem.Spec PyProof.Rows L2
/-! ## many things frozen at once -/
def tFz : Nat → TS → TS
  | 0, t => t
  | n + 1, t => fun E σ H => ∃ d u, H d = some u ∧ Mut (some u) ∧ ∀ od, tFz n t E σ (upd H d (.frz od u))
def tFzS (t : TS) : TS := fun E σ H => ∃ n, tFz n t E σ H
theorem ps_frzS {X : Cx} {st : Stmt} {t : TS} (h : PS X st t) : PS X st (tFzS t) := by
  refine ⟨fun pins s σ H E I hw => ?_⟩
  obtain ⟨n, hw⟩ := hw
  have key : ∀ n H, Inv X pins σ H s → tFz n t E σ H → _ := fun n => by
    induction n with
    | zero => exact fun H I hw => h.run pins s σ H E I hw
    | succ n ih =>
      intro H I hw
      obtain ⟨d, u, hd, mu, hw⟩ := hw
      obtain ⟨od, I1⟩ := I.lock hd mu
      exact ih _ I1 (hw od)
  exact key n H I hw
theorem frzS_go {t : TS} {E : Ends} {σ : L2.St} {L : Own} : ∀ (ds : List (Addr × HO)) {D H : Hp}, (∀ x, x ∈ ds → Mut (some x.2)) → Sx D (ds ++ L) H →
    (∀ D' H', Sx D' L H' → Sm D D' → (∀ x, x ∈ ds → Kf D' x.1 x.2) → t E σ H') → tFzS t E σ H
  | [], D, H, _, S, k => ⟨0, k D H S Sm.rfl' fun _ h => nomatch h⟩
  | x :: ds, D, H, hm, S, k => by
    obtain ⟨a, u⟩ := x
    have S1 : Sx D ((a, u) :: (ds ++ L)) H := S
    have hH : H a = some u := (S1.ow (a, u) List.mem_cons_self).1
    have hD : D a = none := (S1.ow (a, u) List.mem_cons_self).2
    have hnd : a ∉ (ds ++ L).map (·.1) := by have := S1.nd; rw [List.map_cons] at this; exact (List.nodup_cons.mp this).1
    have S2 : ∀ od, Sx (upd D a (.frz od u)) (ds ++ L) (upd H a (.frz od u)) := fun od => by
      refine ⟨fun b o hb => ?_, fun q hq => ?_, ?_⟩
      · by_cases c : b = a
        · rw [c, upd_same] at hb ⊢
          exact hb
        · rw [upd_ne c] at hb ⊢
          exact S1.dH b o hb
      · obtain ⟨q1, q2⟩ := S1.ow q (List.mem_cons_of_mem _ hq)
        have c : q.1 ≠ a := fun z => hnd (z ▸ List.mem_map.mpr ⟨q, hq, rfl⟩)
        rw [upd_ne c, upd_ne c]
        exact ⟨q1, q2⟩
      · have := S1.nd
        rw [List.map_cons] at this
        exact (List.nodup_cons.mp this).2
    have key : ∀ od, tFzS t E σ (upd H a (.frz od u)) := fun od => frzS_go ds (fun y hy => hm y (List.mem_cons_of_mem _ hy)) (S2 od) fun D' H' S' e' hk => k D' H' S' ⟨fun b o hb => by
      have c : b ≠ a := fun z => by rw [z, hD] at hb; exact nomatch hb
      exact e'.e b o (by rw [upd_ne c]; exact hb)⟩ fun y hy => by
        rcases List.mem_cons.mp hy with rfl | hy
        · exact ⟨od, e'.e _ _ upd_same⟩
        · exact hk y hy
    -- the same number of steps whatever the object
    have len : ∀ (ds : List (Addr × HO)) {D H : Hp}, (∀ x, x ∈ ds → Mut (some x.2)) → Sx D (ds ++ L) H → (∀ D' H', Sx D' L H' → Sm D D' → (∀ x, x ∈ ds → Kf D' x.1 x.2) → t E σ H') → tFz ds.length t E σ H := by
      intro ds
      induction ds with
      | nil => exact fun _ S k => k _ _ S Sm.rfl' fun _ h => nomatch h
      | cons x ds ih =>
        intro D H hm S k
        obtain ⟨a, u⟩ := x
        have S1 : Sx D ((a, u) :: (ds ++ L)) H := S
        have hH : H a = some u := (S1.ow (a, u) List.mem_cons_self).1
        have hD : D a = none := (S1.ow (a, u) List.mem_cons_self).2
        have hnd : a ∉ (ds ++ L).map (·.1) := by have := S1.nd; rw [List.map_cons] at this; exact (List.nodup_cons.mp this).1
        refine ⟨a, u, hH, hm (a, u) List.mem_cons_self, fun od => ih (fun y hy => hm y (List.mem_cons_of_mem _ hy)) (D := upd D a (.frz od u)) ⟨fun b o hb => ?_, fun q hq => ?_, ?_⟩ fun D' H' S' e' hk => k D' H' S' ⟨fun b o hb => ?_⟩ fun y hy => ?_⟩
        · by_cases c : b = a
          · rw [c, upd_same] at hb ⊢
            exact hb
          · rw [upd_ne c] at hb ⊢
            exact S1.dH b o hb
        · obtain ⟨q1, q2⟩ := S1.ow q (List.mem_cons_of_mem _ hq)
          have c : q.1 ≠ a := fun z => hnd (z ▸ List.mem_map.mpr ⟨q, hq, rfl⟩)
          rw [upd_ne c, upd_ne c]
          exact ⟨q1, q2⟩
        · have := S1.nd
          rw [List.map_cons] at this
          exact (List.nodup_cons.mp this).2
        · have c : b ≠ a := fun z => by rw [z, hD] at hb; exact nomatch hb
          exact e'.e b o (by rw [upd_ne c]; exact hb)
        · rcases List.mem_cons.mp hy with rfl | hy
          · exact ⟨od, e'.e _ _ upd_same⟩
          · exact hk y hy
    exact ⟨_, len ((a, u) :: ds) hm S k⟩
end Fk

namespace Fk
open PySem PySem.Spec PyProof.Rows L2 PySem.Calls PyProof.V
/-! ## sum(d.values()), keys and values numbers -/
def valsO (p d : Addr) : HO := .ext fun h => h.IsValuesView p d
theorem valsO_ok {P : Program} {w : World} {H : Hp} {h : Heap} {p d : Addr} (e : h.get? p = some { cls := .type "dict_values", data := .fields #[.ref d] }) : ObjOk P w H h p (valsO p d) :=
  ⟨⟨_, e, rfl, rfl⟩, ⟨_, e⟩, fun h1 h2 x k => let ⟨o, ho, r⟩ := x; ⟨o, k o ho, r⟩⟩
def rValsK : V → List V → Hp → VK → Prop := fun x xs H Q => ∃ (a : Addr) (kvs : List (Key × V)), x = .ref a ∧ xs = [] ∧ Rd H a (.dK kvs) ∧ ∀ p, H p = none → Q (.ref p) (upd H p (valsO p a))
theorem mt_valsK {X : Cx} : MtR X "dict.values" rValsK := by
  intro pins s σ H x xs v us Q I rx rxs h
  obtain ⟨a, kvs, rfl, rfl, ha, q⟩ := h
  cases rx
  cases rxs
  obtain ⟨z, lo, vs, rel, dd⟩ := dk_rd I.hok ha
  have hf : H s.heap.objs.size = none := I.hok.fresh (Nat.le_refl _)
  refine call_meetsIn PySem.F.slot_dict_values dd.typeIs PySem.F.entry_dict_values (PySem.F.args_dict_values_1 _) (PySem.meets_dict_values_raw a lo) ⟨let ⟨es, ep, h, _⟩ := dd.raw; ⟨es, ep, h⟩, ?_⟩
  exact ⟨.ref s.heap.objs.size, _, I.laid (t' := s.toks) (fun b u e => Heap.get?_push_of_some _ e) (Nat.le_refl _) (valsO_ok (Heap.get?_push_size _ rfl)), rfl, q _ hf⟩
def tyKF : V → Hp → Prop := fun x H => ∃ (a : Addr) (kvs : List (Key × V)), x = .ref a ∧ Rd H a (.dK kvs)
theorem ty_dKF {X : Cx} : TyOk X "dict" tyKF := by
  intro pins σ H s x v I r ty
  obtain ⟨a, kvs, rfl, e⟩ := ty
  cases r
  obtain ⟨h1, h2, _⟩ := isD_at I (.inl ⟨kvs, e⟩)
  exact ⟨h1, h2⟩
theorem pre_sum (f : Nat → Int) : ∀ (kvs : List (Int × Int)) (k : Nat), (∀ i e, kvs[i]? = some e → f (k + i) = e.2) → preSum (fun i => f (k + i)) kvs.length = (kvs.map (·.2)).sum
  | [], _, _ => rfl
  | e :: kvs, k, h => by
    have ih := pre_sum f kvs (k + 1) fun i x hx => by rw [show k + 1 + i = k + (i + 1) by omega]; exact h (i + 1) x (by simpa using hx)
    rw [List.length_cons, PySem.W.kdu_shift, List.map_cons, List.sum_cons, ← ih, h 0 e rfl]
    congr 1
    congr 1
    funext i
    congr 1
    omega
def rSumV : List V → Hp → VK → Prop := fun vs H Q => ∃ (p a : Addr) (kvs : List (Int × Int)), vs = [.ref p] ∧ H p = some (valsO p a) ∧ Rd H a (.dK (kvs.map entI)) ∧ Q (.int (kvs.map (·.2)).sum) H
theorem cr_sumV {X : Cx} (hc : X.calm = true) : CallR X (.builtin "sum") rSumV := by
  intro pins s σ H xs us Q I r h
  obtain ⟨p, a, kvs, rfl, hp, ha, q⟩ := h
  obtain rfl := Vals.ref1 r
  have view : s.heap.IsValuesView p a := (show ObjOk X.prog X.w H s.heap p (valsO p a) from I.hok p _ hp).1
  obtain ⟨z, lo, vs, rel, dd⟩ := dk_rd I.hok ha
  obtain ⟨ep, hat⟩ := dd.dictAt
  have hlen : kvs.length = vs.length := by have := Paired.length rel; rw [List.length_map] at this; exact this
  have Ks := PySem.W.kdl_values (prog := X.prog) (w := X.w) (knd := mixKind X.prog X.w) (r := p) (d := a) (kvs := vs) (ep := ep)
  obtain ⟨f, hf⟩ : ∃ f : Nat → Int, f = fun i => (kvs.getD i (0, 0)).2 := ⟨_, rfl⟩
  refine call_sum_walkAnyS ?_
  obtain ⟨oI, St, hit, W, st⟩ := Ks.iter X.A.in1 s (I.ok.hd hc) ⟨view, hat⟩
  refine hit _ _ ⟨s.heap.objs.size, _, _, _, vs.length, _, _, f, rfl, W.toS, st, fun b hb => ?_, fun i v hv => ?_, fun s' t' hm => ?_⟩
  · show b < (s.heap.push oI).objs.size
    rw [size_push']
    rcases List.mem_cons.mp hb with e | hb
    · rw [e]; exact Nat.lt_succ_self _
    · rw [List.mem_singleton.mp hb]; exact Nat.lt_succ_of_lt (Ks.there _ ⟨view, hat⟩).2
  · obtain ⟨k, hk⟩ := hv
    obtain ⟨e0, he0, r1, r2⟩ := DX.pget rel hk
    rw [List.getElem?_map] at he0
    cases g : kvs[i]? with
    | none => rw [g] at he0; exact nomatch he0
    | some e =>
      rw [g] at he0
      have ee : entI e = e0 := Option.some.inj he0
      rw [← ee] at r2
      obtain ⟨t, ht⟩ := (show ∃ t, v = Value.int e.2 t from r2)
      exact ⟨t, by rw [hf]; show v = Value.int (kvs.getD i (0, 0)).2 t; rw [List.getD_eq_getElem?_getD, g]; exact ht⟩
  · have hk : ∀ b o, s.heap.get? b = some o → s'.heap.get? b = some o := fun b o e =>
      hm.heap b o (fun hI => absurd (Heap.lt_size e) (by rw [List.mem_singleton.mp hI]; exact Nat.lt_irrefl _)) (Heap.get?_push_of_some _ e)
    rw [Moved.eq_with hm]
    have es : preSum f vs.length = (kvs.map (·.2)).sum := by
      rw [← hlen]
      have := pre_sum f kvs 0 fun i e he => by rw [hf, Nat.zero_add]; show (kvs.getD i (0, 0)).2 = e.2; rw [List.getD_eq_getElem?_getD, he]; rfl
      simp only [Nat.zero_add] at this
      exact this
    exact ⟨.int (kvs.map (·.2)).sum, H, I.kept (t' := s'.toks) hk, ⟨t', by rw [es]⟩, q⟩
section
variable {σ : L2.St} {D H : Hp} {L : Own} {K : PySem.W.Frag} {Q : VK}
instance v_valsF {a : Addr} {kvs : List (Key × V)} [S : Sx D L H] [h : Kf D a (.dK kvs)] : VC (rValsK (.ref a) [] H Q) (∀ p D' H', Sx D' L H' → Sm D D' → Kn D' p (valsO p a) → Q (.ref p) H') :=
  ⟨fun k => ⟨a, kvs, rfl, rfl, rdF S h, fun p hp => k p _ _ (S.fix hp) ⟨same_upd (S.dH.free hp)⟩ ⟨upd_same⟩⟩⟩
instance v_mG0 {to : TE} {ty : V → Hp → Prop} {r : V → List V → Hp → VK → Prop} : VC (tMG0 ty r to σ H Q) (to σ H fun x H1 => ty x H1 ∧ r x [] H1 Q) := ⟨fun h => h⟩
instance v_tyKF {a : Addr} {kvs : List (Key × V)} {p : Prop} [S : Sx D L H] [h : Kf D a (.dK kvs)] : VC (tyKF (.ref a) H ∧ p) p := ⟨fun k => ⟨⟨a, kvs, rfl, rdF S h⟩, k⟩⟩
instance v_sumV {p a : Addr} {kvs : List (Int × Int)} [S : Sx D L H] [hp : Kn D p (valsO p a)] [h : Kf D a (.dK (kvs.map entI))] : VC (rSumV [.ref p] H Q) (Q (.int (kvs.map (·.2)).sum) H) := ⟨fun k => ⟨p, a, kvs, rfl, S.dH _ _ hp.pf, rdF S h, k⟩⟩
theorem c_sumV {p a : Addr} {kvs : List (Int × Int)} (S : Sx D L H) (hp : Kn D p (valsO p a)) (h : Kf D a (.dK (kvs.map entI))) (k : Q (.int (kvs.map (·.2)).sum) H) : rSumV [.ref p] H Q := ⟨p, a, kvs, rfl, S.dH _ _ hp.pf, rdF S h, k⟩
end
end Fk

namespace Fk
open PySem PySem.Spec PyProof.Rows L2 ClX
/-! ## B.__init__(self, ..), B an exception class of the program's own that has no __init__ -/
theorem pe_ceinit {X : Cx} {o e : Expr} {es : List Expr} {ta : TA} {B : Addr} {mc : Value} {pos p2 : Pos} {pl : Sem Bool} (ho : PE X o (tC (.ref B))) (r : CRead X.K B mc)
    (vV : PySem.W.findCls X.K (.ref B) mc "__init__" = some (.val (.builtin "ValueError.__init__"))) (ha : PA X (e :: es) ta)
    (hc : eval (.Call (.Attribute o "__init__" p2) (e :: es) [] pos) X.env = (do
      let ov ← eval o X.env
      standAt p2.atName
      let (f, first) ← holding [ov] (getMethod ov "__init__" pl)
      callWith pos f first (backTo pos (starEach (e :: es) X.env)) (backToKw pos (keywordEach [] X.env))) := by rfl)
    (he : starEach (e :: es) X.env = (false, eval e X.env) :: starEach es X.env := by rfl) (hpl : (backTo pos (starEach es X.env)).any (·.1) = false := by rfl) :
    PE X (.Call (.Attribute o "__init__" p2) (e :: es) [] pos) (tVeI X.K ta) := by
  refine ⟨fun pins s σ H Q I h => ?_⟩
  have h0 : tC (.ref B) σ H (fun x H1 => x = .ref B ∧ tVeI X.K ta σ H1 Q) := ⟨rfl, h⟩
  refine PySem.W.methodCall_KW (pl := pl) (thn (ho.run pins s σ H _ I h0) fun u s1 ⟨x, H1, I1, rx, ex, q⟩ => ?_) hc
  subst ex
  obtain rfl : u = Value.ref B := rx
  refine PySem.W.method_cls I1.kIn r.ga (PySem.W.cls_value I1.kIn r.rd vV rfl ?_)
  show wpAny _ _ (callWith pos (Value.builtin "ValueError.__init__") [] (backTo pos (starEach (e :: es) X.env)) []) _ _ _
  refine PyProof.Rows.callWith_method1 (thn (ha.run pos pins _ σ H1 _ (I1.tok _) q) fun us s1 ⟨vs, H2, I2, r1, a, C, ws, ev, hl, T, ea, q⟩ => ?_) he hpl
  subst ev
  cases r1 with
  | @cons _ u0 _ ur ra rw' =>
    obtain rfl : u0 = Value.ref a := ra
    have hlen : ur.length ≤ sizeLine := by
      rw [← Paired.length rw', sizeLine_eq]
      omega
    exact oinit_ok T I2 ea hlen fun s' J => ⟨.non, H2, J, rfl, q⟩
end Fk

namespace Fk
open PySem PySem.Spec PyProof.Rows L2
/-! ## dict(xs), xs a list of pairs (tuple, value) -/
def mergeT (kvs more : List (List Key × V)) : List (List Key × V) := more.foldl (fun acc kv => putK acc kv.1 kv.2) kvs
def rDictPT (K : PySem.W.Frag) : List V → Hp → VK → Prop := fun xs H Q => ∃ (a : Addr) (ps : List Addr) (kvs : List (List Key × V)), xs = [.ref a] ∧ SqL K H a (ps.map V.ref) ∧
  Paired (fun p kv => ∃ b, SqT K H p [.ref b, kv.2] ∧ H b = some (.tup (kv.1.map kV))) ps kvs ∧ ∀ p, H p = none → Q (.ref p) (upd H p (.dT (mergeT [] kvs)))
theorem kt_mergeT {H : Hp} {more : List (List Key × V)} {rs : List (List Key × Addr × Value)} (r : KT H more rs) : ∀ {kvs : List (List Key × V)} {xs : List (List Key × Addr × Value)}, KT H kvs xs → KT H (mergeT kvs more) (storedAllH xs rs) := by
  induction r with
  | nil => exact fun h => h
  | @cons p q ps qs hq t ih =>
    intro kvs xs h
    obtain ⟨e1, e2, e3⟩ := hq
    show KT H (mergeT (putK kvs p.1 p.2) ps) (storedAllH (storedH xs q.1 q.2.1 q.2.2) qs)
    refine ih ?_
    rw [← e1]
    exact KT.put h p.1 e2 e3
theorem mergeT_len (more : List (List Key × V)) : ∀ kvs, (mergeT kvs more).length ≤ kvs.length + more.length := by
  induction more with
  | nil => exact fun kvs => Nat.le_refl _
  | cons p ps ih =>
    intro kvs
    have h1 := ih (putK kvs p.1 p.2)
    have h2 : (putK kvs p.1 p.2).length ≤ kvs.length + 1 := by
      unfold putK
      split
      · rw [List.length_map]; omega
      · rw [List.length_append]; exact Nat.le_refl _
    show (mergeT (putK kvs p.1 p.2) ps).length ≤ _
    rw [List.length_cons]
    omega
theorem pairsT_of {X : Cx} {pins : List (Addr × Obj)} {σ : L2.St} {H : Hp} {s : Shared} (I : L2.Inv X pins σ H s) : ∀ {ps : List Addr} {kvs : List (List Key × V)}, Paired (fun p kv => ∃ b, SqT X.K H p [.ref b, kv.2] ∧ H b = some (.tup (kv.1.map kV))) ps kvs →
    ∃ prs : List (List Key × Addr × Value), KT H kvs prs ∧ prs.length = ps.length ∧ ∀ (j : Nat) (q : List Key × Addr × Value), prs[j]? = some q → ∃ b : Addr, ps[j]? = some b ∧ IsTup s.heap b #[.ref q.2.1, q.2.2]
  | _, _, .nil => ⟨[], .nil, rfl, fun j q e => by simp at e⟩
  | _, _, .cons (a := p) (b := kv) h t => by
    obtain ⟨b, h, hb⟩ := h
    obtain ⟨prs, r, hl, hp⟩ := pairsT_of I t
    obtain ⟨its, rv, ht, _⟩ := I.tuple h
    obtain ⟨u, y, ei, ru, ry⟩ := vals2 rv
    subst ei
    obtain rfl : u = .ref b := ru
    refine ⟨(kv.1, b, y) :: prs, .cons ⟨rfl, hb, ry⟩ r, by simp [hl], fun j q e => ?_⟩
    cases j with
    | zero =>
      cases e
      exact ⟨p, rfl, ht⟩
    | succ j => exact hp j q e
theorem call_dictPT {X : Cx} (hcalm : X.calm = true) (hu : X.A.units + 64 < cLine) : CallR X (.type "dict") (rDictPT X.K) := by
  intro pins s σ H xs us Q I r q
  obtain ⟨a, ps, kvs, ex, hq, hp, q⟩ := q
  subst ex
  obtain ⟨u, eu, rx⟩ := vals1 r
  subst eu
  cases rx
  obtain ⟨its, rv, pl, hz⟩ := I.list hq
  have ei := refs_at rv
  subst ei
  rw [List.length_map] at hz
  obtain ⟨prs, rel, hl, hpr⟩ := pairsT_of I hp
  have hks : ∀ {kv : List (List Key × V)} {l : List (List Key × Addr × Value)}, KT H kv l → ∀ x, x ∈ l → (tupleKind (mixKind X.prog X.w)).is s.heap x.1 x.2.1 := by
    intro kv l r
    induction r with
    | nil => intro x hx; exact nomatch hx
    | @cons p q ps qs hq t ih =>
      intro x hx
      rcases List.mem_cons.mp hx with e | hx
      · subst e
        exact key_of I.hok (by rw [← hq.1]; exact hq.2.1)
      · exact ih x hx
  have hm : (s.heap.objs.size == sysModules) = false := beq_eq_false_iff_ne.mpr (Nat.ne_of_gt I.big)
  have hlen : (mergeT [] kvs).length ≤ sizeLine := by
    refine Nat.le_trans (mergeT_len kvs []) ?_
    rw [List.length_nil, Nat.zero_add, rel.length, hl]
    exact hz
  have hkt : KT H (mergeT [] kvs) (storedAllH [] prs) := kt_mergeT rel .nil
  refine PySem.call_dict_pairsH (K := List Key) (knd := tupleKind (mixKind X.prog X.w)) (ps := prs) (PairArg.list a (ps.map Value.ref).toArray (fun j => ps.getD j 0) (prs.map fun q => (Value.ref q.2.1, q.2.2))) (I.ok.hd hcalm) ?_ ⟨pl, ?_, fun j k v e => ?_⟩ ⟨by simp, fun i key v e => ?_⟩ (fun h' hk x hx => ?_) ?_ fun h' tk hd' k => ?_
  · exact tupleKind_room_in1 (A := X.A.in1) (by first | (show X.A.units + 1 + 1 < cLine; omega) | (show X.A.units + 1 < cLine; omega))
  · simp [hl]
  · rw [List.getElem?_map] at e
    cases e1 : prs[j]? with
    | none => rw [e1] at e; exact nomatch e
    | some q0 =>
      rw [e1] at e
      cases e
      obtain ⟨b, h1, h2⟩ := hpr j q0 e1
      refine ⟨by simp [List.getD_eq_getElem?_getD, h1], ?_⟩
      show PairAt s.heap (ps.getD j 0) _ _
      rw [List.getD_eq_getElem?_getD, h1]
      exact .inl h2
  · have e : (prs.map fun q => (Value.ref q.2.1, q.2.2))[i]? = some (key, v) := e
    rw [List.getElem?_map] at e
    cases e1 : prs[i]? with
    | none => rw [e1] at e; exact nomatch e
    | some q0 =>
      rw [e1] at e
      cases e
      exact ⟨q0.1, q0.2.1, rfl, rfl⟩
  · exact tupleKind_stays.stays (fun b o _ _ eb _ => hk b o (Nat.ne_of_lt (Heap.lt_size eb)) (fun z => nomatch z) eb) (hks rel x hx)
  · rw [List.length_map, hl]
    exact hz
  · have kk : ∀ b o, s.heap.get? b = some o → h'.get? b = some o := fun b o e => k b o (fun z => nomatch z) e
    obtain ⟨o, es, ep, h1, h2, h3, h4, _, h5⟩ := hd'
    refine ⟨.ref s.heap.objs.size, upd H s.heap.objs.size (.dT (mergeT [] kvs)), I.laid (t' := tk) kk (Nat.le_refl _) (show ObjOk X.prog X.w _ _ _ (.dT (mergeT [] kvs)) from ⟨hlen, hm, storedAllH [] prs, ?_, o, es, ep, h1, h2, h3, h4, h5⟩), rfl, q _ (I.hok.fresh (Nat.le_refl _))⟩
    exact KT.keeps hkt fun b ys hb => (upd_ne (fun z => by rw [z, I.hok.fresh (Nat.le_refl _)] at hb; exact nomatch hb)).trans hb
section
variable {K : PySem.W.Frag} {D H : Hp} {L : Own} {Q : VK}
theorem c_dictPT {a : Addr} {ps : List Addr} {kvs : List (List Key × V)} (S : Sx D L H) (ha : Rds K D L a (ps.map V.ref)) (hp : Paired (fun p kv => ∃ b, Kn D p (.tup [.ref b, kv.2]) ∧ Kn D b (.tup (kv.1.map kV))) ps kvs)
    (k : ∀ p H', Sx D ((p, .dT (mergeT [] kvs)) :: L) H' → Q (.ref p) H') : rDictPT K [.ref a] H Q := by
  refine ⟨a, ps, kvs, rfl, ha.sq S, ?_, fun p hp => k p _ (S.new hp)⟩
  clear ha k
  induction hp with
  | nil => exact .nil
  | cons h t ih =>
    obtain ⟨b, h1, h2⟩ := h
    exact .cons ⟨b, sqT S h1.pf, S.dH _ _ h2.pf⟩ ih
/-- keys that are all different: in their order -/
theorem mergeT_new : ∀ (more kvs : List (List Key × V)), (more.map (·.1)).Nodup → (∀ m, m ∈ more → ∀ k, k ∈ kvs → k.1 ≠ m.1) → mergeT kvs more = kvs ++ more
  | [], kvs, _, _ => (List.append_nil kvs).symm
  | m :: more, kvs, hn, hd => by
    have e1 : putK kvs m.1 m.2 = kvs ++ [m] := by
      unfold putK
      rw [if_neg]
      rw [List.any_eq_true]
      rintro ⟨k, hk, e⟩
      exact hd m List.mem_cons_self k hk (of_decide_eq_true e)
    rw [List.map_cons, List.nodup_cons] at hn
    show mergeT (putK kvs m.1 m.2) more = _
    rw [e1, mergeT_new more (kvs ++ [m]) hn.2 (fun m' hm' k hk => ?_), List.append_assoc, List.singleton_append]
    rcases List.mem_append.mp hk with hk | hk
    · exact hd m' (List.mem_cons_of_mem _ hm') k hk
    · rw [List.mem_singleton.mp hk]
      exact fun e => hn.1 (by rw [e]; exact List.mem_map_of_mem hm')
end
end Fk

namespace Fk
open PySem PySem.Spec PyProof.Rows L2
/-! ## t.count(x), t a tuple whose object is known -/
def rCntT (K : PySem.W.Frag) : V → List V → Hp → VK → Prop := fun x xs H Q => ∃ (a : Addr) (ys : List V) (y : V), x = V.ref a ∧ xs = [y] ∧ SqT K H a ys ∧ flatV y = true ∧ ys.all flatV = true ∧ Q (.int (ys.countP fun z => eqV z y : Nat)) H
theorem mt_cntT {X : Cx} : MtR X "tuple.count" (rCntT X.K) := by
  intro pins s σ H x xs v us Q I rx rxs h
  obtain ⟨a, ys, y, rfl, rfl, hs, fy, fys, q⟩ := h
  cases rx
  cases rxs with
  | cons ry rt =>
    rename_i uy ut
    cases rt
    obtain ⟨its, rv, ⟨⟨cls, dd, data, sl⟩, ho, hc, n, hd⟩, hlen⟩ := I.tuple hs
    simp only at hc hd
    subst hc hd
    refine call_meets PySem.F.slot_tuple_count ⟨_, ho, rfl⟩ PySem.F.entry_tuple_count (PySem.F.args_tuple_count_2 _ _) (SeqAt.tuple_countAt a its.toArray n dd sl uy (eqU y)) ⟨ho, fun u' hu' => mem_eqAt ry fy rv fys u' (by simpa using hu'), ?_⟩
    refine ⟨.int (ys.countP fun z => eqV z y : Nat), H, I.tok _, ⟨s.toks, ?_⟩, q⟩
    rw [show its.toArray.toList = its from rfl, countP_eqU rv fys]
section
variable {σ : L2.St} {D D' H : Hp} {L : Own} {K : PySem.W.Frag} {Q : VK}
instance v_cntZ {a : Addr} {bs : List V} {b : Bool} {n : Nat} [S : Sx D L H] [ha : Kz D a bs] [c : CntC bs (.bl b) n] : VC (rCntT K (.ref a) [.bl b] H Q) (Q (.int (n : Nat)) H) := ⟨fun h => ⟨a, bs, .bl b, rfl, rfl, sqZ S ha, rfl, c.fl, by rw [c.pf]; exact h⟩⟩
instance v_zipLLZ {a b : Addr} {xs ys : List V} {R : It → Hp → Prop} [S : Sx D L H] [ha : Sl K D L a xs] [hb : Kz D b ys] : VC (IsZL K [.ref a, .ref b] H R) (R (Itzl K a b) H) := ⟨fun h => ⟨a, b, xs, ys, rfl, ha.pf.sq S, sqZ S hb, h⟩⟩
theorem cntB (b : Bool) : ∀ bs : List Bool, ((bs.map V.bl).countP fun z => eqV z (.bl b)) = bs.count b ∧ (bs.map V.bl).all flatV = true
  | [] => ⟨rfl, rfl⟩
  | x :: bs => by
    obtain ⟨h1, h2⟩ := cntB b bs
    refine ⟨?_, by rw [List.map_cons, List.all_cons, h2]; rfl⟩
    rw [List.map_cons, List.countP_cons, h1, List.count_cons]
    cases x <;> cases b <;> rfl
instance (priority := low) cntMap {b : Bool} {bs : List Bool} : CntC (bs.map V.bl) (.bl b) (bs.count b) := ⟨(cntB b bs).1, (cntB b bs).2⟩
end
/-! ## tuples of truths, their objects known -/
def TbZ (D : Hp) (us : List V) (bss : List (List Bool)) : Prop := us.length = bss.length ∧ ∀ (i : Nat) (u : V) (bs : List Bool), us[i]? = some u → bss[i]? = some bs → ∃ b, u = .ref b ∧ Kz D b (bs.map V.bl)
theorem TbZ.up {D D' : Hp} {us : List V} {bss : List (List Bool)} (h : TbZ D us bss) (s : Sm D D') : TbZ D' us bss := ⟨h.1, fun i u bs h1 h2 => let ⟨b, e, k⟩ := h.2 i u bs h1 h2; ⟨b, e, inferInstance⟩⟩
theorem TbZ.nil {D : Hp} : TbZ D [] [] := ⟨rfl, fun i u bs h _ => by simp at h⟩
theorem TbZ.put {D : Hp} {us : List V} {bss : List (List Bool)} (h : TbZ D us bss) {b : Addr} {bs : List Bool} (k : Kz D b (bs.map V.bl)) : TbZ D (us ++ [.ref b]) (bss ++ [bs]) := by
  refine ⟨by rw [List.length_append, List.length_append, h.1]; rfl, fun i u cs h1 h2 => ?_⟩
  rcases Nat.lt_or_ge i us.length with c | c
  · rw [List.getElem?_append_left c] at h1
    rw [List.getElem?_append_left (by rw [← h.1]; exact c)] at h2
    exact h.2 i u cs h1 h2
  · rw [List.getElem?_append_right c] at h1
    rw [List.getElem?_append_right (by rw [← h.1]; exact c), ← h.1] at h2
    cases e : i - us.length with
    | zero =>
      rw [e] at h1 h2
      cases h1
      cases h2
      exact ⟨b, rfl, k⟩
    | succ j =>
      rw [e] at h1
      simp at h1
theorem TbZ.get {D : Hp} {us : List V} {bss : List (List Bool)} (h : TbZ D us bss) {i : Nat} {u : V} (hu : us[i]? = some u) : ∃ b bs, u = .ref b ∧ bss[i]? = some bs ∧ Kz D b (bs.map V.bl) := by
  have hi : i < bss.length := by rw [← h.1]; exact (List.getElem?_eq_some_iff.mp hu).1
  obtain ⟨b, e, k⟩ := h.2 i u bss[i] hu (List.getElem?_eq_getElem hi)
  exact ⟨b, bss[i], e, List.getElem?_eq_getElem hi, k⟩
end Fk

namespace Fk
open PySem PySem.Spec PyProof.Rows L2
/-! ## dict(t), t a tuple of pairs whose object is known -/
def rDictZ (K : PySem.W.Frag) : List V → Hp → VK → Prop := fun xs H Q => ∃ (a : Addr) (o : Obj) (ps : List Addr) (kvs : List (Key × V)), xs = [.ref a] ∧ H a = some (.frz o (.tup (ps.map V.ref))) ∧ o.cls = .type "tuple" ∧ o.dict = none ∧
  Paired (fun p kv => SqT K H p [kV kv.1, kv.2]) ps kvs ∧ ∀ p, H p = none → Q (.ref p) (upd H p (.dK (mergeK [] kvs)))
theorem pairsK_of {X : Cx} {pins : List (Addr × Obj)} {σ : L2.St} {H : Hp} {s : Shared} (I : L2.Inv X pins σ H s) : ∀ {ps : List Addr} {kvs : List (Key × V)}, Paired (fun p kv => SqT X.K H p [kV kv.1, kv.2]) ps kvs →
    ∃ prs : List (Key × Value × Value), KV kvs (prs.map fun q => (q.1, q.2.2)) ∧ prs.length = ps.length ∧ ∀ (j : Nat) (q : Key × Value × Value), prs[j]? = some q → ∃ b : Addr, ps[j]? = some b ∧ IsTup s.heap b #[q.2.1, q.2.2] ∧ keyIs q.1 q.2.1 = true
  | _, _, .nil => ⟨[], .nil, rfl, fun j q e => by simp at e⟩
  | _, _, .cons (a := p) (b := kv) h t => by
    obtain ⟨prs, r, hl, hp⟩ := pairsK_of I t
    obtain ⟨its, rv, ht, _⟩ := I.tuple h
    obtain ⟨u, y, ei, ru, ry⟩ := vals2 rv
    subst ei
    refine ⟨(kv.1, u, y) :: prs, .cons ⟨rfl, ry⟩ r, by rw [List.length_cons, List.length_cons, hl], fun j q e => ?_⟩
    cases j with
    | zero =>
      cases e
      exact ⟨p, rfl, ht, kV_is (P := X.prog) (w := X.w) ru⟩
    | succ j => exact hp j q e
theorem call_dictZ {X : Cx} (hcalm : X.calm = true) : CallR X (.type "dict") (rDictZ X.K) := by
  intro pins s σ H xs us Q I r q
  obtain ⟨a, o, ps, kvs, ex, hq, hc, hd, hp, q⟩ := q
  subst ex
  obtain ⟨u, eu, rx⟩ := vals1 r
  subst eu
  cases rx
  obtain ⟨its, rv, pl, hz⟩ := I.tuple (X := X) (.inl (.inr ⟨o, hq⟩))
  obtain ⟨ho, _⟩ := (show ObjOk X.prog X.w H s.heap a (.frz o (.tup (ps.map V.ref))) from I.hok a _ hq)
  obtain ⟨o', ho', hc', n, hdat⟩ := pl
  have eo : o' = o := Option.some.inj (ho'.symm.trans ho)
  subst eo
  have ei := refs_at rv
  subst ei
  rw [List.length_map] at hz
  obtain ⟨prs, rel, hl, hpr⟩ := pairsK_of I hp
  refine PySem.call_dict_pairs (K := Key) (knd := mixKind X.prog X.w) (kvs := prs.map fun q => (q.1, q.2.2)) (PairArg.tuple a (ps.map Value.ref).toArray (fun j => ps.getD j 0) (prs.map fun q => (q.2.1, q.2.2))) (I.ok.hd hcalm) ⟨⟨o', n, ho, hc, hd, hdat⟩, ?_, fun j k v e => ?_⟩ ⟨by simp, fun i key v e => ?_⟩ ?_ fun h' tk hd' k => ?_
  · simp [hl]
  · rw [List.getElem?_map] at e
    cases e1 : prs[j]? with
    | none => rw [e1] at e; exact nomatch e
    | some q0 =>
      rw [e1] at e
      cases e
      obtain ⟨b, h1, h2, h3⟩ := hpr j q0 e1
      refine ⟨by simp [List.getD_eq_getElem?_getD, h1], ?_⟩
      show PairAt s.heap (ps.getD j 0) _ _
      rw [List.getD_eq_getElem?_getD, h1]
      exact .inl h2
  · have e : (prs.map fun q => (q.2.1, q.2.2))[i]? = some (key, v) := e
    rw [List.getElem?_map] at e
    cases e1 : prs[i]? with
    | none => rw [e1] at e; exact nomatch e
    | some q0 =>
      rw [e1] at e
      cases e
      obtain ⟨b, h1, h2, h3⟩ := hpr i q0 e1
      exact ⟨q0.1, by rw [List.getElem?_map, e1]; rfl, h3⟩
  · rw [List.length_map, hl]
    exact hz
  · have hm : (s.heap.objs.size == sysModules) = false := beq_eq_false_iff_ne.mpr (Nat.ne_of_gt I.big)
    have hlen : (mergeK [] kvs).length ≤ sizeLine := by
      refine Nat.le_trans (length_mergeK kvs []) ?_
      rw [List.length_nil, Nat.zero_add, rel.length, List.length_map, hl]
      exact hz
    exact ⟨.ref s.heap.objs.size, upd H s.heap.objs.size (.dK (mergeK [] kvs)), I.laid (t' := tk) (fun b o e => k b o (fun z => nomatch z) e) (Nat.le_refl _) (show ObjOk X.prog X.w _ _ _ (.dK (mergeK [] kvs)) from ⟨hlen, hm, merged [] (prs.map fun q => (q.1, q.2.2)), KV.merge rel .nil, hd'⟩), rfl, q _ (I.hok.fresh (Nat.le_refl _))⟩
section
variable {K : PySem.W.Frag} {D H : Hp} {L : Own} {Q : VK}
/-- pairs of numbers, as a tuple's things -/
theorem c_dictZ {a : Addr} {us : List V} {es : List (Int × Int)} (S : Sx D L H) (ha : Kz D a us) (hr : RpAll D us (es.map pI)) (k : ∀ p H', Sx D ((p, .dK (mergeK [] (es.map fun e => ((Sum.inl e.1 : Key), V.int e.2)))) :: L) H' → Q (.ref p) H') : rDictZ K [.ref a] H Q := by
  obtain ⟨o, e, hc, hd⟩ := ha.pf
  obtain ⟨ps, hps, hp⟩ : ∃ ps : List Addr, us = ps.map V.ref ∧ Paired (fun p kv => SqT K H p [kV kv.1, kv.2]) ps (es.map fun e => ((Sum.inl e.1 : Key), V.int e.2)) := by
    clear ha e k
    induction es generalizing us with
    | nil => cases hr; exact ⟨[], rfl, .nil⟩
    | cons x es ih =>
      cases hr with
      | cons h t =>
        obtain ⟨ps, e1, e2⟩ := ih t
        obtain ⟨b, e3, e4⟩ := Rp.inv_tupI (ns := [x.1, x.2]) h
        subst e1 e3
        exact ⟨b :: ps, rfl, .cons (sqT S e4) e2⟩
  subst hps
  exact ⟨a, o, ps, _, rfl, S.dH _ _ e, hc, hd, hp, fun p hp => k p _ (S.new hp)⟩
end
end Fk

namespace Fk
open PySem PySem.Spec PyProof.Rows L2
/-! ## errors of a class with an __init__ of its own, that keep one field -/
class RzO (K : PySem.W.Frag) (C : Addr) (f : outParam Str) : Prop where
  T : OexC K C
  no : PySem.W.findIn K (.ref C) f = some none
/-- what the __init__ does: the field is set -/
def spI (K : PySem.W.Frag) (f : Str) : Sp := fun vs H Q _ => ∃ (a C : Addr) (v : V), vs = [.ref a, v] ∧ RzO K C f ∧ H a = some (exo a C none) ∧
  ∀ dx, H dx = none → dx ≠ a → Q .non (upd (upd H dx (exd dx [(f, v)])) a (exo a C (some dx)))
structure RzI (P : Program) (w : World) (K : PySem.W.Frag) (mg : Str → Option Value) (base : Heap) (C : Addr) (f : Str) (k : Nat) : Prop where
  o : RzO K C f
  ex : ∃ (fI : Addr) (fd : FuncData) (ps : List Str), PySem.W.findIn K (.ref C) "__init__" = some (some (.ref fI)) ∧ PySem.W.typeIn K (.ref fI) = some (.type "function") ∧ FnOk P w K mg base CX0 k fI fd ps (spI K f) ∧ Binds K fd ps []
def tRzI (K : PySem.W.Frag) (W : WX) (C : Addr) (f : Str) (te : TE) : TS := fun _ σ H => tMkO C (spI K f) [] (tCons te tNil) σ H (fun cls d H' => W cls d σ H')
theorem ps_rzI (K : PySem.W.Frag) {X : Cx} {W : WX} {C : Addr} {x f : Str} {k j : Nat} {p pos pos2 : Pos} {e : Expr} {te : TE} (kc : ClC X.K X.mg x C) (R : RzI X.prog X.w X.K X.mg X.base C f k) (hr : Room j X.A) (hk : k + 1 ≤ j) (hg : Gl X x) (tk : Takes X W) (ha : PA X [e] (tCons te tNil)) (eK : X.K = K := by rfl)
    (hc : X.calm = true := by rfl) (hdb : (x == ("__debug__" : Str)) = false := by decide) (hs : starEach [e] X.env = (false, eval e X.env) :: starEach [] X.env := by rfl) :
    PS X (.Raise (some (.Call (.Name x p) [e] [] pos)) none pos2) (tRzI K W C f te) := by
  subst eK
  obtain ⟨fI, fd, ps, iC, tI, F1, hb⟩ := R.ex
  exact ps_raise hc tk (pmk_oex R.o.T iC tI F1 (hr.mono hk) hb .nil pass0 hg kc.g ha hdb hs rfl)
def RzA (K : PySem.W.Frag) (W : WX) (C : Addr) (f : Str) (σ : L2.St) (x : V) (H1 : Hp) : Prop := [x].length ≤ 1000 ∧ ∀ a, H1 a = none → spI K f (.ref a :: ([x] ++ [])) (upd H1 a (exo a C none))
  (fun v H2 => v = .non ∧ ∃ (d : Addr) (fs : List (Str × V)), H2 a = some (exo a C (some d)) ∧ H2 d = some (exd d fs) ∧ H1 d = none ∧ W (.ref C) (some d) σ (upd (del H2 a) d (.xd fs))) (fun _ _ _ => False)
section
variable {σ : L2.St} {D H : Hp} {L : Own} {K : PySem.W.Frag} {Q : VK}
def VeA (K : PySem.W.Frag) (vs : List V) (H1 : Hp) (Q : VK) : Prop := ∃ (a C : Addr) (ws : List V), vs = .ref a :: ws ∧ ws.length ≤ 1000 ∧ OexC K C ∧ H1 a = some (exo a C none) ∧ Q .non H1
instance v_veI {ta : TA} : VC (tVeI K ta σ H Q) (ta σ H fun vs H1 => VeA K vs H1 Q) := ⟨fun h => h⟩
instance v_rzI {W : WX} {C : Addr} {f : Str} {te : TE} {Es : Ends} : VC (tRzI K W C f te Es σ H) (te σ H fun x H1 => RzA K W C f σ x H1) := ⟨fun h => h⟩
instance v_rzA {W : WX} {C : Addr} {f : Str} {x : V} [S : Sx D L H] [r : RzO K C f] : VC (RzA K W C f σ x H) (∀ d D' H', Sx D' L H' → Sm D D' → Kn D' d (.xd [(f, x)]) → W (.ref C) (some d) σ H') := ⟨fun h => by
  refine ⟨by show 1 ≤ 1000; decide, fun a ha => ⟨a, C, x, rfl, r, upd_same, fun dx hdx hne => ⟨rfl, dx, [(f, x)], upd_same, ?_, ?_, ?_⟩⟩⟩
  · rw [upd_ne hne, upd_same]
  · rw [upd_ne hne] at hdx
    exact hdx
  · rw [upd_ne hne] at hdx
    have e : upd (del (upd (upd (upd H a (exo a C none)) dx (exd dx [(f, x)])) a (exo a C (some dx))) a) dx (.xd [(f, x)]) = upd H dx (.xd [(f, x)]) := by
      funext b
      by_cases hb : b = dx
      · rw [hb, upd_same, upd_same]
      · rw [upd_ne hb, upd_ne hb]
        by_cases hba : b = a
        · rw [hba, del_same, ha]
        · rw [del_ne hba, upd_ne hba, upd_ne hb, upd_ne hba]
    rw [e]
    exact h dx _ _ (S.fix hdx) ⟨same_upd (S.dH.free hdx)⟩ ⟨upd_same⟩⟩
end
/-- the shape of such a class -/
def oexB (C : Addr) : Obj → Bool
  | ⟨.type "type", _, .cls cd, sl⟩ => (match cd.mro, sl.toList with
    | .ref C' :: bm, [_, _, _, _, some (.builtin n), _] => C' == C && n == "ValueError.__new__" && !cd.hasDel && cd.hasDict && PySem.HandSPX.refsVE bm
    | _, _ => false)
  | _ => false
theorem oexB_ok {K : PySem.W.Frag} {C : Addr} {o : Obj} (l : K.lookup C = some o) (h : oexB C o = true) : ∃ nm q N bs bm sn sub ab col dd k0 k1 k2 k3 k5, K.lookup C = some (excClassObj nm q C N bs bm true sn sub ab col dd k0 k1 k2 k3 k5 "ValueError.__new__") ∧ PySem.HandSPX.refsVE bm = true := by
  unfold oexB at h
  split at h
  · rename_i dd cd sl
    split at h
    · rename_i C' bm k0 k1 k2 k3 n k5 hm hs
      simp only [Bool.and_eq_true, beq_iff_eq, Bool.not_eq_true'] at h
      obtain ⟨⟨⟨⟨rfl, rfl⟩, hdel⟩, hd1⟩, hr⟩ := h
      obtain ⟨nm, bs, mro, ns, qn, hd, sn, sub, ab, col, del⟩ := cd
      dsimp only at hm hdel hd1
      subst hm hdel hd1
      have hsl : sl = #[k0, k1, k2, k3, some (.builtin "ValueError.__new__"), k5] := by
        obtain ⟨l⟩ := sl
        simp only at hs
        rw [hs]
      subst hsl
      exact ⟨nm, qn, ns, bs, bm, sn, sub, ab, col, dd, k0, k1, k2, k3, k5, l, hr⟩
    · cases h
  · cases h
/-! ## e.f of the caught error; isinstance(e, ..) -/
theorem XfC.of {K : PySem.W.Frag} {C : Addr} (h : ExC K C) : XfC K C := ⟨h.pf.hg, h.pf.hk, h.pf.hs, h.pf.hd⟩
def XfA (a dd : Addr) (f : Str) (x : V) (H1 : Hp) (Q : VK) : Prop := x = .ref a ∧ ∃ (fs : List (Str × V)) (v : V), H1 dd = some (.xd fs) ∧ fs.lookup f = some v ∧ Q v H1
def rIsEI (K : PySem.W.Frag) (a : Addr) (cls : Value) (d : Option Addr) : List V → Hp → VK → Prop := fun xs H Q => ∃ (D dd : Addr) (fs : List (Str × V)), cls = .ref D ∧ d = some dd ∧ H dd = some (.xd fs) ∧ ExcC K D ∧
  ((∃ (c : V) (cv : Value) (b : Bool), xs = [.ref a, c] ∧ ClsV c cv ∧ PySem.W.kitOne K (.ref D) cv = some b ∧ Q (.bl b) H) ∨
   ∃ (tp : Addr) (cs : List V) (us : List Value) (b : Bool), xs = [.ref a, .ref tp] ∧ H tp = some (.tup cs) ∧ Paired ClsV cs us ∧ PySem.W.kitAny K (.ref D) us = some b ∧ Q (.bl b) H)
theorem call_isEI {X : Cx} {a : Addr} {oe : Obj} {cls : Value} {d : Option Addr} {pn : List (Addr × Obj)} (hz : Zc cls d oe) (hf : ∃ vs, oe.data = .fields vs) : CallR (X.suite a ((a, oe) :: pn)) (.builtin "isinstance") (rIsEI X.K a cls d) := by
  intro pins s σ H xs us Q I r h
  obtain ⟨D, dd, fs, rfl, rfl, hx, C, h⟩ := h
  obtain ⟨hget, _⟩ := I.pin (a, oe) (List.mem_append.mpr (.inl List.mem_cons_self))
  obtain ⟨vs, hv⟩ := hf
  obtain ⟨_, ⟨od, _, _, hod, _⟩, _⟩ := (show ObjOk X.prog X.w H s.heap dd (.xd fs) from I.hok dd _ hx)
  have J : PySem.W.InstAt s.heap a oe D (some od) := by
    obtain ⟨oc, odd, oda, osl⟩ := oe
    obtain ⟨h1, h2⟩ := hz
    dsimp only at h1 h2 hv
    subst h1 h2 hv
    exact ⟨hget, rfl, rfl, hod⟩
  have hcl : (PySem.W.clsIn X.K D).isSome = true := by
    have h := C.hd
    unfold PySem.W.hasDictIn at h
    cases e : PySem.W.clsIn X.K D with
    | none => rw [e] at h; cases h
    | some c => rfl
  have Z := PySem.W.kitx_exc (x := a) (ox := oe) (od := some od) hcl C.hg C.hk C.hs C.ha C.hn C.ht C.hm
  rcases h with ⟨c, cv, b, rfl, hcv, e, q⟩ | ⟨tp, cs, ws, b, rfl, hT, kp, e, q⟩
  · obtain ⟨u1, u2, rfl, r1, r2⟩ := vals2 r
    cases (show u1 = Value.ref a from r1)
    have ec := hcv.eq r2
    subst ec
    exact PySem.W.kia_one Z I.kIn J e (fun z => nomatch z) fun tk => ⟨.bl b, H, I.kept (t' := tk) fun _ _ z => z, rfl, q⟩
  · obtain ⟨u1, u2, rfl, r1, r2⟩ := vals2 r
    cases (show u1 = Value.ref a from r1)
    cases (show u2 = Value.ref tp from r2)
    obtain ⟨_, its, rv, o, h1, h2, n, h3⟩ := (show ObjOk X.prog X.w H s.heap tp (.tup cs) from I.hok tp _ hT)
    have e3 := ClsV.all kp rv
    subst e3
    obtain ⟨oc, od2, dt, sl⟩ := o
    simp only at h2 h3
    subst h2 h3
    exact PySem.W.kia_tup Z I.kIn J h1 e (fun z => nomatch z) fun tk => ⟨.bl b, H, I.kept (t' := tk) fun _ _ z => z, rfl, q⟩
section
variable {σ : L2.St} {D0 H : Hp} {L : Own} {K : PySem.W.Frag} {Q : VK}
instance v_xf {a C dd : Addr} {n : Str} {i : Nat} [h : Nth σ i (.ref a)] : VC (tXf a (.ref C) (some dd) C n (tVar i) σ H Q) (XfA a dd n (.ref a) H Q) := ⟨fun ⟨_, fs, v, h1, h2, h3⟩ => ⟨.ref a, h.pf, rfl, rfl, dd, fs, v, rfl, h1, h2, h3⟩⟩
instance v_xfA {a dd : Addr} {n : Str} {v : V} [S : Sx D0 L H] [k : Kn D0 dd (.xd [(n, v)])] : VC (XfA a dd n (.ref a) H Q) (Q v H) := ⟨fun h => ⟨rfl, [(n, v)], v, S.dH _ _ k.pf, by simp [List.lookup], h⟩⟩
instance v_isi1 {a D dd : Addr} {fs : List (Str × V)} {c : V} {b : Bool} [S : Sx D0 L H] [k0 : Kn D0 dd (.xd fs)] [x : ExC K D] [k : KtO K D c b] : VC (rIsEI K a (.ref D) (some dd) [.ref a, c] H Q) (Q (.bl b) H) := ⟨fun q => by
  obtain ⟨cv, h1, h2⟩ := k.pf
  exact ⟨D, dd, fs, rfl, rfl, S.dH _ _ k0.pf, x.pf, .inl ⟨c, cv, b, rfl, h1, h2, q⟩⟩⟩
instance v_isiT {a D tp dd : Addr} {fs : List (Str × V)} {cs : List V} {b : Bool} [S : Sx D0 L H] [k0 : Kn D0 dd (.xd fs)] [kt : Kn D0 tp (.tup cs)] [x : ExC K D] [k : KtA K D cs b] : VC (rIsEI K a (.ref D) (some dd) [.ref a, .ref tp] H Q) (Q (.bl b) H) := ⟨fun q => by
  obtain ⟨us, h1, h2⟩ := k.pf
  exact ⟨D, dd, fs, rfl, rfl, S.dH _ _ k0.pf, x.pf, .inr ⟨tp, cs, us, b, rfl, S.dH _ _ kt.pf, h1, h2, q⟩⟩⟩
end
end Fk

namespace Fk
open PySem PySem.Spec PyProof.Rows L2
/-! ## t < u of two tuples of ints -/
def rLtT (K : PySem.W.Frag) : R2 := fun x y H Q => ∃ (a b : Addr) (ns ms : List Int), x = .ref a ∧ y = .ref b ∧ SqT K H a (ns.map V.int) ∧ SqT K H b (ms.map V.int) ∧
  Q (.bl (Ob.lexAt (fun j => decide (ns.getD j 0 = ms.getD j 0)) (fun j => decide (ns.getD j 0 < ms.getD j 0)) (decide (ns.length < ms.length)) 0 (min ns.length ms.length))) H
theorem op_ltT {X : Cx} (hu : X.A.units + 64 < cLine) : OpR X (compareOp .Lt) (rLtT X.K) := by
  intro pins s σ H x y v u Q I rx ry h
  obtain ⟨a, b, ns, ms, rfl, rfl, ha, hb, q⟩ := h
  cases rx
  cases ry
  obtain ⟨its, r1, p1, _⟩ := I.tuple ha
  obtain ⟨its2, r2, p2, _⟩ := I.tuple hb
  have i1 : IntsAre its ns := Vals.ints r1
  have i2 : IntsAre its2 ms := Vals.ints r2
  have sz1 : its.toArray.size = ns.length := by rw [List.size_toArray]; exact i1.length
  have sz2 : its2.toArray.size = ms.length := by rw [List.size_toArray]; exact i2.length
  have g1 : ∀ j, j < its.toArray.size → ∃ t, its[j]? = some (.int (ns.getD j 0) t) := fun j hj => by
    have hj2 : j < its.length := by rwa [List.size_toArray] at hj
    obtain ⟨t, e⟩ := PyProof.Rows.IntsAre.int_at i1 j _ (List.getElem?_eq_getElem hj2)
    exact ⟨t, by rw [List.getElem?_eq_getElem hj2, e]⟩
  have g2 : ∀ j, j < its2.toArray.size → ∃ t, its2[j]? = some (.int (ms.getD j 0) t) := fun j hj => by
    have hj2 : j < its2.length := by rwa [List.size_toArray] at hj
    obtain ⟨t, e⟩ := PyProof.Rows.IntsAre.int_at i2 j _ (List.getElem?_eq_getElem hj2)
    exact ⟨t, by rw [List.getElem?_eq_getElem hj2, e]⟩
  have val1 : ∀ j (h1 : j < its.toArray.size), ∃ t, its.toArray[j] = .int (ns.getD j 0) t := fun j h1 => by
    obtain ⟨t, e⟩ := g1 j h1
    obtain ⟨_, e2⟩ := List.getElem?_eq_some_iff.mp e
    exact ⟨t, by simpa using e2⟩
  have val2 : ∀ j (h1 : j < its2.toArray.size), ∃ t, its2.toArray[j] = .int (ms.getD j 0) t := fun j h1 => by
    obtain ⟨t, e⟩ := g2 j h1
    obtain ⟨_, e2⟩ := List.getElem?_eq_some_iff.mp e
    exact ⟨t, by simpa using e2⟩
  have key := Ob.RcOp.tuples_lt (A := X.A) (s := s) (e := fun j => decide (ns.getD j 0 = ms.getD j 0)) (r := fun j => decide (ns.getD j 0 < ms.getD j 0)) p1 p2 (by omega)
    (fun j h1 h2 => by
      obtain ⟨t, et⟩ := val1 j h1
      obtain ⟨t', et'⟩ := val2 j h2
      rw [et, et']
      have z : (ns.getD j 0 == ms.getD j 0) = decide (ns.getD j 0 = ms.getD j 0) := by
        by_cases c : ns.getD j 0 = ms.getD j 0
        · rw [decide_eq_true c]; exact beq_iff_eq.mpr c
        · rw [decide_eq_false c]; exact beq_eq_false_iff_ne.mpr c
      rw [← z]
      exact SeqAt.EqAt.int_int _ _ _ _)
    (fun j h1 h2 _ => by
      obtain ⟨t, et⟩ := val1 j h1
      obtain ⟨t', et'⟩ := val2 j h2
      rw [et, et']
      exact Ob.RcOp.lt_int _ _ _ _)
  rw [sz1, sz2] at key
  exact key X.prog X.w X.xe (EP X pins σ Q) ⟨.bl _, H, I, rfl, q⟩
def lsQ (p q : Int × Int) : Bool := decide (p.1 < q.1 ∨ (p.1 = q.1 ∧ p.2 < q.2))
theorem lsQ_lex (a b c d : Int) : Ob.lexAt (fun j => decide (([a, b] : List Int).getD j 0 = ([c, d] : List Int).getD j 0)) (fun j => decide (([a, b] : List Int).getD j 0 < ([c, d] : List Int).getD j 0)) (decide (2 < 2)) 0 2 = lsQ (a, b) (c, d) := by
  show (if decide (a = c) = true then (if decide (b = d) = true then false else decide (b < d)) else decide (a < c)) = decide (a < c ∨ (a = c ∧ b < d))
  by_cases h1 : a = c
  · subst h1
    by_cases h2 : b = d
    · subst h2; simp
    · simp [h2]
  · simp [h1]
def rLtX (K : PySem.W.Frag) : R2 := fun x y H Q => rI0 (fun i j => .bl (decide (i < j))) x y H Q ∨ rLtT K x y H Q
theorem opLtX {X : Cx} (hu : X.A.units + 64 < cLine) : OpR X (compareOp .Lt) (rLtX X.K) := OpR.or op_lt (op_ltT hu)
/-! ## x not in xs -/
def rNotInX (K : PySem.W.Frag) : R2 := rIn K true
theorem opNotInX {X : Cx} : OpR X (compareOp .NotIn) (rNotInX X.K) := op_notIn_seq
section
variable {D H : Hp} {L : Own} {K : PySem.W.Frag} {Q : VK}
instance v_ninL {a : Addr} {us : List V} {xs : List Int} {x : Int} [S : Sx D L H] [ha : Sl K D L a us] [c : IsC us xs] : VC (rNotInX K (.int x) (.ref a) H Q) (Q (.bl (!decide (x ∈ xs))) H) :=
  ⟨fun k => ⟨a, us, rfl, .inl (ha.pf.sq S), rfl, by rw [c.pf]; exact flat_ints, by rw [if_pos rfl, c.pf, inV_int]; exact k⟩⟩
instance v_ninT {a : Addr} {us : List V} {xs : List Int} {x : Int} [S : Sx D L H] [ha : Kn D a (.tup us)] [c : IsC us xs] : VC (rNotInX K (.int x) (.ref a) H Q) (Q (.bl (!decide (x ∈ xs))) H) :=
  ⟨fun k => ⟨a, us, rfl, .inr (sqT S ha.pf), rfl, by rw [c.pf]; exact flat_ints, by rw [if_pos rfl, c.pf, inV_int]; exact k⟩⟩
instance v_ltXI {i j : Int} : VC (rLtX K (.int i) (.int j) H Q) (Q (.bl (decide (i < j))) H) := ⟨fun h => .inl ⟨i, j, rfl, rfl, h⟩⟩
instance v_ltXT {a b : Addr} {x y z u : Int} [S : Sx D L H] [ha : Kn D a (.tup [.int x, .int y])] [hb : Kn D b (.tup [.int z, .int u])] : VC (rLtX K (.ref a) (.ref b) H Q) (Q (.bl (lsQ (x, y) (z, u))) H) :=
  ⟨fun h => .inr ⟨a, b, [x, y], [z, u], rfl, rfl, sqT S ha.pf, sqT S hb.pf, by
    show Q (.bl (Ob.lexAt (fun j => decide (([x, y] : List Int).getD j 0 = ([z, u] : List Int).getD j 0)) (fun j => decide (([x, y] : List Int).getD j 0 < ([z, u] : List Int).getD j 0)) (decide (2 < 2)) 0 2)) H
    rw [lsQ_lex]
    exact h⟩⟩
end
end Fk

namespace Fk
open PySem PySem.Spec PyProof.Rows L2
/-! ## texts -/
section
variable {X : Cx}
def rJoin (K : PySem.W.Frag) : V → List V → Hp → VK → Prop := fun x xs H Q => ∃ a p, ∃ ys : List Str, x = .str a ∧ xs = [.ref p] ∧ (SqL K H p (ys.map V.str) ∨ SqT K H p (ys.map V.str)) ∧
    (ys.map (·.length)).sum + ys.length * a.length ≤ 16777216 ∧ Q (.str (Txt.join a ys)) H
theorem pe_joinN (K : PySem.W.Frag) {o e : Expr} {to te : TE} {apos pos : Pos} (ho : PE X o to) (he : PE X e te) (hK : X.K = K := by rfl) (hs : starEach [e] X.env = [(false, eval e X.env)] := by rfl) (hbase : attributeBase o "join" X.env (eval o X.env) = eval o X.env := by rfl) (hline : (apos.endLine == pos.line) = true := by rfl) :
    PE X (.Call (.Attribute o "join" apos) [e] [] pos) (tM1 (rJoin K) to te) := by
  subst hK
  exact pe_m1 PySem.F.slot_str_join PySem.F.type_str_join mt_join ho he hs hbase hline
def rSplit : V → List V → Hp → VK → Prop := fun x xs H Q => ∃ a b, x = .str a ∧ xs = [.str b] ∧ (b.length == 0) = false ∧ a.length + 2 ≤ sizeLine ∧ rNewStrs (Txt.split a b) H Q
theorem pe_splitN {o e : Expr} {to te : TE} {apos pos : Pos} (ho : PE X o to) (he : PE X e te) (hs : starEach [e] X.env = [(false, eval e X.env)] := by rfl) (hbase : attributeBase o "split" X.env (eval o X.env) = eval o X.env := by rfl) (hline : (apos.endLine == pos.line) = true := by rfl) :
    PE X (.Call (.Attribute o "split" apos) [e] [] pos) (tM1 rSplit to te) := pe_m1 PySem.F.slot_str_split PySem.F.type_str_split mt_split ho he hs hbase hline
def rAddS : R2 := fun x y H Q => ∃ i j, x = .str i ∧ y = .str j ∧ i.length + j.length ≤ sizeLine ∧ Q (.str (i ++ j)) H
theorem opAddS : OpR X (binaryOp .Add) rAddS := op_add_str
def rStrI : List V → Hp → VK → Prop := fun xs H Q => ∃ i, xs = [.int i] ∧ i.natAbs.log2 < 1920 ∧ Q (.str (toString i)) H
theorem call_strI : CallR X (.type "str") rStrI := call_str_int
def rIntT : List V → Hp → VK → Prop := fun xs H Q => ∃ a n, xs = [.str a] ∧ PySem.intText? a = some n ∧ a.length ≤ 640 ∧ Q (.int n) H
theorem call_intT : CallR X (.type "int") rIntT := call_int_str
def rInSg : R2 := fun x y H Q => ∃ (c : Nat) (z : Str), x = .str ⟨#[c]⟩ ∧ y = .str z ∧ Q (.bl (decide (c ∈ z.cps.toList))) H
theorem opInSg : OpR X (compareOp .In) rInSg := op_in_sign
end
theorem eqvS : ∀ (xs ys : List Str), PyData.eqvAll (xs.map PyData.str) (ys.map PyData.str) = decide (xs = ys)
  | [], [] => by simp [PyData.eqvAll]
  | [], y :: ys => by simp [PyData.eqvAll]
  | x :: xs, [] => by simp [PyData.eqvAll]
  | x :: xs, y :: ys => by
    simp only [List.map_cons, PyData.eqvAll, PyData.eqv, eqvS xs ys]
    by_cases h : x = y
    · subst h; simp
    · simp [h]
theorem eqv_lstS (xs ys : List Str) : PyData.eqv (.list (xs.map PyData.str)) (.list (ys.map PyData.str)) = decide (xs = ys) := by simp only [PyData.eqv, eqvS]
def Sk (x : Str) : Prop := PyData.strOk x = true
theorem Sh.str (n : Nat) {x : Str} (h : Sk x) : Sh n (.str x) := ⟨by unfold Sk at h; simp [PyData.canLay0, h], by simp [PyData.depth]⟩
theorem sh_lstS {xs : List Str} (h : ∀ x, x ∈ xs → Sk x) : SeqAt.shaped (.list (xs.map PyData.str)) = true := (Sh.list (n := 0) fun d hd => by
  obtain ⟨x, hx, rfl⟩ := List.mem_map.mp hd
  exact Sh.str 0 (h x hx)).ok
theorem sk_of (s : String) : Sk (Str.ofString s) := by
  rw [PySem.Str.ofString_eq_toList]
  unfold Sk PyData.strOk
  rw [Array.all_eq_true']
  intro c hc
  have hc2 : c ∈ s.toList.map Char.toNat := by simpa using hc
  obtain ⟨d, _, rfl⟩ := List.mem_map.mp hc2
  refine decide_eq_true ?_
  have := d.valid
  unfold UInt32.isValidChar Nat.isValidChar at this
  show d.val.toNat < _
  omega
theorem sk_app {x y : Str} (hx : Sk x) (hy : Sk y) : Sk (x ++ y) := by
  unfold Sk PyData.strOk at *
  rw [Str.cps_append, Array.all_append, hx, hy]
  rfl
theorem sk_join {a : Str} (ha : Sk a) : ∀ {ys : List Str}, (∀ y, y ∈ ys → Sk y) → Sk (Txt.join a ys) := by
  have key : ∀ (ys : List Str), (∀ y, y ∈ ys → Sk y) → Sk (Str.join a ys) := by
    intro ys
    induction ys with
    | nil => exact fun _ => (by unfold Sk PyData.strOk Str.empty; simp : Sk Str.empty)
    | cons x r ih =>
      intro h
      cases r with
      | nil => exact h x List.mem_cons_self
      | cons y r => exact sk_app (sk_app (h x List.mem_cons_self) ha) (ih fun z hz => h z (List.mem_cons_of_mem _ hz))
  intro ys h
  rw [TL.join_eq]
  exact key ys h
class StC (xs : List V) (ys : outParam (List Str)) : Prop where
  pf : xs = ys.map V.str
instance stMap {ys : List Str} : StC (ys.map V.str) ys := ⟨rfl⟩
instance stNil : StC [] [] := ⟨rfl⟩
instance stCons {y : Str} {r : List V} {ys : List Str} [h : StC r ys] : StC (.str y :: r) (y :: ys) := ⟨by rw [h.pf]; rfl⟩
instance stApp {r s : List V} {ns ms : List Str} [h : StC r ns] [k : StC s ms] : StC (r ++ s) (ns ++ ms) := ⟨by rw [h.pf, k.pf, List.map_append]⟩
theorem rp_strs {D : Hp} : ∀ ys : List Str, RpAll D (ys.map V.str) (ys.map PyData.str)
  | [] => .nil
  | y :: r => .cons (.str y) (rp_strs r)
section
variable {σ : L2.St} {D H : Hp} {L : Own} {K : PySem.W.Frag} {Q : VK}
instance v_tM1 {r : V → List V → Hp → VK → Prop} {to te : TE} : VC (tM1 r to te σ H Q) (to σ H fun x H1 => (∃ a, x = .str a) ∧ te σ H1 fun y H2 => r x [y] H2 Q) := ⟨fun h => h⟩
instance v_exS {a : Str} {p : Prop} : VC ((∃ b, V.str a = .str b) ∧ p) p := ⟨fun h => ⟨⟨a, rfl⟩, h⟩⟩
instance v_joinL {a : Str} {p : Addr} {us : List V} {ys : List Str} [S : Sx D L H] [ha : Sl K D L p us] [c : StC us ys] : VC (rJoin K (.str a) [.ref p] H Q) ((ys.map (·.length)).sum + ys.length * a.length ≤ 16777216 ∧ Q (.str (Txt.join a ys)) H) :=
  ⟨fun h => ⟨a, p, ys, rfl, rfl, .inl (by rw [← c.pf]; exact ha.pf.sq S), h.1, h.2⟩⟩
instance v_split {a b : Str} [S : Sx D L H] : VC (rSplit (.str a) [.str b] H Q) ((b.length == 0) = false ∧ a.length + 2 ≤ 16777216 ∧ ∀ p H', Sx D ((p, .lst ((Txt.split a b).map V.str)) :: L) H' → Q (.ref p) H') :=
  ⟨fun h => ⟨a, b, rfl, rfl, h.1, h.2.1, fun p hp => h.2.2 p _ (S.new hp)⟩⟩
instance v_addS {i j : Str} : VC (rAddS (.str i) (.str j) H Q) (i.length + j.length ≤ 16777216 ∧ Q (.str (i ++ j)) H) := ⟨fun h => ⟨i, j, rfl, rfl, h.1, h.2⟩⟩
instance v_strI {i : Int} : VC (rStrI [.int i] H Q) (i.natAbs.log2 < 1920 ∧ Q (.str (toString i)) H) := ⟨fun h => ⟨i, rfl, h.1, h.2⟩⟩
instance v_eqS {a b : Str} : VC (rEqX K (.str a) (.str b) H Q) (Q (.bl (decide (a = b))) H) := ⟨fun k => .inl ⟨rfl, by
  have e : decide (V.str a = V.str b) = decide (a = b) := by
    by_cases c : a = b
    · subst c; rw [decide_eq_true rfl, decide_eq_true rfl]
    · rw [decide_eq_false c, decide_eq_false (fun z => c (V.str.inj z))]
  rw [e]; exact k⟩⟩
instance v_neS {a b : Str} : VC (rNeX K (.str a) (.str b) H Q) (Q (.bl (!decide (a = b))) H) := ⟨fun k => .inl ⟨rfl, by
  have e : decide (V.str a = V.str b) = decide (a = b) := by
    by_cases c : a = b
    · subst c; rw [decide_eq_true rfl, decide_eq_true rfl]
    · rw [decide_eq_false c, decide_eq_false (fun z => c (V.str.inj z))]
  rw [e]; exact k⟩⟩
theorem dplS {a : Addr} {us : List V} {xs : List Str} (S : Sx D L H) (ha : Rds K D L a us) (e : us = xs.map V.str) : Dp K H (.ref a) (.list (xs.map PyData.str)) := .lst (ha.sq S) (by rw [e]; exact RpAll.dp (rp_strs xs))
instance v_eqSS {a b : Addr} {us ws : List V} {xs ys : List Str} [S : Sx D L H] [ha : Sl K D L a us] [hb : Sl K D L b ws] [c : StC us xs] [d : StC ws ys] : VC (rEqX K (.ref a) (.ref b) H Q) (((∀ x, x ∈ xs → Sk x) ∧ ∀ y, y ∈ ys → Sk y) ∧ Q (.bl (decide (xs = ys))) H) :=
  ⟨fun k => .inr ⟨_, _, dplS S ha.pf c.pf, dplS S hb.pf d.pf, sh_lstS k.1.1, sh_lstS k.1.2, by rw [eqv_lstS]; exact k.2⟩⟩
instance v_neSS {a b : Addr} {us ws : List V} {xs ys : List Str} [S : Sx D L H] [ha : Sl K D L a us] [hb : Sl K D L b ws] [c : StC us xs] [d : StC ws ys] : VC (rNeX K (.ref a) (.ref b) H Q) (((∀ x, x ∈ xs → Sk x) ∧ ∀ y, y ∈ ys → Sk y) ∧ Q (.bl (!decide (xs = ys))) H) :=
  ⟨fun k => .inr ⟨_, _, dplS S ha.pf c.pf, dplS S hb.pf d.pf, sh_lstS k.1.1, sh_lstS k.1.2, by rw [eqv_lstS]; exact k.2⟩⟩
/-- a sign of a text -/
class AtS (z : Str) (i : Int) (c : outParam Nat) : Prop where
  pf : z.length ≤ sizeLine ∧ atI z.cps.toList i = some c
instance v_ixS {z : Str} {i : Int} {c : Nat} [h : AtS z i c] : VC (rIx K (.str z) (.int i) H Q) (Q (.str ⟨#[c]⟩) H) := ⟨fun k => .inr (.inr ⟨z, i, c, rfl, rfl, h.pf.1, h.pf.2, k⟩)⟩
instance v_inSg {c : Nat} {z : Str} : VC (rInSg (.str ⟨#[c]⟩) (.str z) H Q) (Q (.bl (decide (c ∈ z.cps.toList))) H) := ⟨fun k => ⟨c, z, rfl, rfl, k⟩⟩
end
/-! lengths of texts -/
theorem len_sjoin (a : Str) : ∀ ys : List Str, (Str.join a ys).length ≤ (ys.map (·.length)).sum + ys.length * a.length
  | [] => Nat.zero_le _
  | [x] => by
    show x.length ≤ _
    simp
  | x :: y :: r => by
    have ih := len_sjoin a (y :: r)
    show (x ++ a ++ Str.join a (y :: r)).length ≤ _
    rw [PySem.Str.length_append, PySem.Str.length_append, List.map_cons, List.sum_cons, List.length_cons (as := y :: r), Nat.succ_mul]
    omega
theorem len_join (a : Str) (ys : List Str) : (Txt.join a ys).length ≤ (ys.map (·.length)).sum + ys.length * a.length := by
  rw [TL.join_eq]
  exact len_sjoin a ys
theorem len_str {i : Int} (h : i.natAbs < 10000000000000000000000000000000000000000) : (Str.ofString (toString i)).length ≤ 41 := by
  rw [PySem.ofString_length]
  exact int_text_length_le10 (k := 40) (by decide) (Nat.lt_of_lt_of_le h (by decide))
theorem log_str {i : Int} (h : i.natAbs < 10000000000000000000000000000000000000000) : i.natAbs.log2 < 1920 := by
  rcases Nat.eq_zero_or_pos i.natAbs with e | e
  · rw [e]; decide
  · refine (Nat.log2_lt (by omega)).mpr (Nat.lt_trans h ?_)
    decide +kernel
theorem sum_len {B : Nat} {ys : List Str} (h : ∀ y, y ∈ ys → y.length ≤ B) : (ys.map (·.length)).sum ≤ ys.length * B := PySem.StrLaws.sumLen_le ys h
end Fk

namespace Fk
open PySem PySem.Spec PyProof.Rows L2
/-! ## texts that are read -/
def IsStr (v : V) (H : Hp) (R : It → Hp → Prop) : Prop := ∃ x, v = .str x ∧ R (Its x) H
def oN : Option Int → V
  | none => .non
  | some i => .int i
theorem inV_oN : ∀ {xs : List (Option Int)}, inV .non (xs.map oN) = xs.any (·.isNone)
  | [] => by simp [inV]
  | y :: xs => by
    have ih := inV_oN (xs := xs)
    unfold inV at ih ⊢
    rw [List.map_cons, List.any_cons, List.any_cons, ih]
    cases y <;> rfl
theorem flat_oN {xs : List (Option Int)} : (xs.map oN).all flatV = true := by
  rw [List.all_map]
  exact List.all_eq_true.mpr fun x _ => by cases x <;> rfl
section
variable {σ : L2.St} {D H : Hp} {L : Own} {K : PySem.W.Frag} {Q : VK}
instance v_iStr {te : TE} {R : It → Hp → Prop} : VC (iStr te σ H R) (te σ H fun v H1 => IsStr v H1 R) := ⟨fun h => h⟩
instance v_isStr {z : Str} {R : It → Hp → Prop} : VC (IsStr (.str z) H R) (R (Its z) H) := ⟨fun h => ⟨z, rfl, h⟩⟩
instance v_lenS {z : Str} : VC (rLen K [.str z] H Q) (z.length ≤ 16777216 ∧ Q (.int z.length) H) := ⟨fun h => ⟨.str z, z.length, rfl, ⟨h.1, rfl⟩, h.2⟩⟩
instance v_inNL {a : Addr} {xs : List (Option Int)} [S : Sx D L H] [ha : Sl K D L a (xs.map oN)] : VC (rInX K .non (.ref a) H Q) (Q (.bl (xs.any (·.isNone))) H) :=
  ⟨fun k => ⟨a, xs.map oN, rfl, .inl (ha.pf.sq S), rfl, flat_oN, by rw [if_neg (fun z => nomatch z), inV_oN]; exact k⟩⟩
instance v_inNT {a : Addr} {xs : List (Option Int)} [S : Sx D L H] [ha : Kn D a (.tup (xs.map oN))] : VC (rInX K .non (.ref a) H Q) (Q (.bl (xs.any (·.isNone))) H) :=
  ⟨fun k => ⟨a, xs.map oN, rfl, .inr (sqT S ha.pf), rfl, flat_oN, by rw [if_neg (fun z => nomatch z), inV_oN]; exact k⟩⟩
end
theorem op_inDS {X : Cx} {A : Around} (h : A.units + 80 < cLine) (e : X.A.units = A.units := by rfl) : OpR X (compareOp .In) (rInD X.K) := op_inD (by rw [e]; omega)
/-! words and texts -/
def spT (z : Str) : List Str := Txt.split z (Str.ofString " ")
def clT (z : Str) : List Str := Txt.split z (Str.ofString ":")
theorem sp_join {ws : List Str} (hne : ws ≠ []) (h : ∀ w, w ∈ ws → 32 ∉ TL.tl w) : spT (Txt.join (Str.ofString " ") ws) = ws := TL.split_join (s := 32) (S := []) (by decide +kernel) (by decide +kernel) hne h
theorem cl_join {ws : List Str} (hne : ws ≠ []) (h : ∀ w, w ∈ ws → 58 ∉ TL.tl w) : clT (Txt.join (Str.ofString ":") ws) = ws := TL.split_join (s := 58) (S := []) (by decide +kernel) (by decide +kernel) hne h
def digB (c : Nat) : Bool := decide (c ∈ (Str.ofString "0123456789").cps.toList)
theorem figs_eq : (Str.ofString "0123456789").cps.toList = [48, 49, 50, 51, 52, 53, 54, 55, 56, 57] := by decide +kernel
theorem digB_iff {c : Nat} : digB c = true ↔ 48 ≤ c ∧ c ≤ 57 := by
  unfold digB
  rw [figs_eq, decide_eq_true_iff]
  simp only [List.mem_cons, List.not_mem_nil, or_false]
  omega
theorem all_dig {w : Str} : (TL.tl w).all digB = true ↔ NumText.AllDigits (TL.tl w) := by
  rw [List.all_eq_true]
  exact ⟨fun h c hc => digB_iff.mp (h c hc), fun h c hc => digB_iff.mpr (h c hc)⟩
open Classical in
/-- the number that a word writes -/
noncomputable def numR (w : Str) : Option Int :=
  if (1 ≤ w.length ∧ w.length ≤ 20) ∧ (TL.tl w).all digB = true ∧ ¬ ((TL.tl w).head? = some 48 ∧ w ≠ Str.ofString "0") then some ((NumText.digitsVal (TL.tl w) : Nat) : Int) else none
theorem numL_head : ∀ (n : Nat), 1 ≤ n → (TL.numL n).head? ≠ some 48 := by
  intro n
  induction n using Nat.strongRecOn with
  | _ n ih =>
    intro h1
    by_cases h : n < 10
    · rw [TL.numL_lt h]
      simp only [List.head?_cons]
      intro e
      have := Option.some.inj e
      omega
    · rw [TL.numL_step (by omega)]
      have h2 := ih (n / 10) (by omega) (by omega)
      have h3 := TL.numL_ne (n / 10)
      cases e : TL.numL (n / 10) with
      | nil => exact absurd e h3
      | cons c r =>
        rw [e] at h2
        exact h2
end Fk

namespace Fk
open PySem PySem.Spec PyProof.Rows L2
/-! ## sets of ints: set(t), sorted(set) -/
def SetIO (w : World) (a : Addr) (S : Int → Bool) (n : Nat) : HO := .ext fun h => SetR w h a S n
theorem setIO_new {P : Program} {w : World} {H : Hp} {h : Heap} {a : Addr} {S : Int → Bool} {n : Nat} (R : SetR w h a S n) : ObjOk P w H h a (SetIO w a S n) := by
  have R2 := R
  obtain ⟨o, es, ep, t, ho, r⟩ := R2
  exact ⟨R, ⟨o, ho⟩, fun h1 h2 p k => p.at k⟩
def rSetI (K : PySem.W.Frag) (w : World) : List V → Hp → VK → Prop := fun xs H Q => ∃ (l : Addr) (ns : List Int), xs = [.ref l] ∧ SqT K H l (ns.map V.int) ∧ ns.length ≤ 63 ∧
  ∀ a c, H a = none → c ≤ ns.length → Q (.ref a) (upd H a (SetIO w a (fun j => decide (j ∈ ns)) c))
theorem cr_setI {X : Cx} (hc : X.calm = true) : CallR X (.type "set") (rSetI X.K X.w) := by
  intro pins s σ H xs us Q I r h
  obtain ⟨l, ns, rfl, hl, hf, q⟩ := h
  rw [Vals.ref1 r]
  obtain ⟨its, rv, pt, hz⟩ := I.tuple hl
  have hi : IntsAre its.toArray.toList ns := ints_of_vals rv
  have hn : H s.heap.objs.size = none := I.hok.fresh (Nat.le_refl _)
  refine call_set_tupI ns (I.ok.hd hc) (show s.heap.IsTuple l its.toArray from pt) hi (by unfold scanBound; omega) fun h' tk c R1 hcn k => ?_
  exact ⟨.ref s.heap.objs.size, upd H s.heap.objs.size (SetIO X.w s.heap.objs.size (fun j => decide (j ∈ ns)) c), I.laid (t' := tk) k (Nat.le_refl _) (setIO_new R1), rfl, q _ c hn hcn⟩
def rSortedSI (w : World) : List V → Hp → VK → Prop := fun xs H Q => ∃ (a : Addr) (S : Int → Bool) (n : Nat), xs = [.ref a] ∧ H a = some (SetIO w a S n) ∧ n ≤ 63 ∧
  ∀ (p : Addr) (ns : List Int), H p = none → ns.Pairwise (· < ·) → (∀ k, k ∈ ns ↔ S k = true) → Q (.ref p) (upd H p (.lst (ns.map V.int)))
theorem cr_sortedSI {X : Cx} (hc : X.calm = true) : CallR X (.builtin "sorted") (rSortedSI X.w) := by
  intro pins s σ H xs us Q I r h
  obtain ⟨a, S, n, rfl, ha, h63, q⟩ := h
  have R0 : SetR X.w s.heap a S n := (I.hok a _ ha).1
  rw [Vals.ref1 r]
  refine sorted_set R0 (I.ok.hd hc) (by omega) fun s' p out c ns k g o hp hg hI hw hm hl => ?_
  have hn : H p = none := I.hok.fresh hp
  have hlen : (ns.map V.int).length ≤ sizeLine := by rw [List.length_map, sizeLine_eq]; omega
  have J : Inv X pins σ (upd H p (.lst (ns.map V.int))) { s with heap := s'.heap, gens := s'.gens, drawn := s'.drawn, toks := s'.toks } :=
    I.call (ch := []) (Un.laid k hp hn) (I.hok.laid k hp ⟨hlen, out.toList, c, vals_ints hI, hg⟩) (by rw [g]; exact I.bare) (fun _ z => nomatch z)
  have e : s' = { s with heap := s'.heap, gens := s'.gens, drawn := s'.drawn, toks := s'.toks } := by
    cases s'
    cases s
    cases o
    rfl
  rw [e]
  exact ⟨.ref p, _, J, rfl, q p ns hn hw hm⟩
section
variable {D H : Hp} {L : Own} {K : PySem.W.Frag} {Q : VK}
instance v_setI {w : World} {a : Addr} {xs : List V} {ns : List Int} [S : Sx D L H] [ha : Kn D a (.tup xs)] [c : IsC xs ns] : VC (rSetI K w [.ref a] H Q) (ns.length ≤ 63 ∧ ∀ p D' H' n, Sx D' L H' → Sm D D' → Kn D' p (SetIO w p (fun j => decide (j ∈ ns)) n) → n ≤ ns.length → Q (.ref p) H') :=
  ⟨fun h => ⟨a, ns, rfl, sqT S (by rw [← c.pf]; exact ha.pf), h.1, fun p n hp hn => h.2 p _ _ n (S.fix hp) ⟨same_upd (S.dH.free hp)⟩ ⟨upd_same⟩ hn⟩⟩
instance v_sortSI {w : World} {a : Addr} {F : Int → Bool} {n : Nat} [S : Sx D L H] [ha : Kn D a (SetIO w a F n)] : VC (rSortedSI w [.ref a] H Q) (n ≤ 63 ∧ ∀ ns : List Int, ns.Pairwise (· < ·) → (∀ k, k ∈ ns ↔ F k = true) → ∀ p H', Sx D ((p, .lst (ns.map V.int)) :: L) H' → Q (.ref p) H') :=
  ⟨fun h => ⟨a, F, n, rfl, S.dH _ _ ha.pf, h.1, fun p ns hp h1 h2 => h.2 ns h1 h2 p _ (S.new hp)⟩⟩
end
end Fk

namespace Fk
open PySem PySem.Spec PyProof.Rows L2
/-! ## zip of lists and tuples, whichever -/
def iZipX (K : PySem.W.Frag) (ta : TA) : TI := fun σ H R => ta σ H fun vs H1 => (IsZ K vs H1 R ∨ ∃ a b xs ys, vs = [.ref a, .ref b] ∧ SqT K H1 a xs ∧ SqL K H1 b ys ∧ R (Itzm K a b) H1) ∨ IsZL K vs H1 R
def IsZX (K : PySem.W.Frag) (vs : List V) (H1 : Hp) (R : It → Hp → Prop) : Prop := IsZM K vs H1 R ∨ IsZL K vs H1 R
theorem pi_zipX (K : PySem.W.Frag) {X : Cx} {e e2 : Expr} {ta : TA} {p pos tpos : Pos} {elts : List Expr} {kk : Nat} (hg : Gl X "zip") (hm : X.mg "zip" = none) (ha : PA X [e, e2] ta) (hK : X.K = K := by rfl)
    (hs : starEach [e, e2] X.env = (false, eval e X.env) :: starEach [e2] X.env := by rfl) (hpl : (backTo pos (starEach [e2] X.env)).any (·.1) = false := by rfl) :
    PI X (.Tuple elts kk tpos) (.Call (.Name "zip" p) [e, e2] [] pos) (iZipX K ta) := by
  subst hK
  refine ⟨fun pins s σ H R I h => ?_⟩
  refine Call_ (ld_blt I hg hm PyProof.Rows.boot_zip (PyProof.Rows.callWith_type1 (thn (ha.run pos pins s σ H _ I h) fun us s1 ⟨vs, H1, I1, r1, q1⟩ => ?_) hs hpl))
  have fresh5 : ∀ c, c ∈ [s1.heap.objs.size + 4, s1.heap.objs.size + 2, s1.heap.objs.size + 3, s1.heap.objs.size, s1.heap.objs.size + 1] → FpOk X pins H1 c := fun c hcm => by
    have e' : c = s1.heap.objs.size + 4 ∨ c = s1.heap.objs.size + 2 ∨ c = s1.heap.objs.size + 3 ∨ c = s1.heap.objs.size ∨ c = s1.heap.objs.size + 1 := by simpa using hcm
    have hle : s1.heap.objs.size ≤ c := by
      rcases e' with z | z | z | z | z
      · rw [z]; exact Nat.le_add_right _ _
      · rw [z]; exact Nat.le_add_right _ _
      · rw [z]; exact Nat.le_add_right _ _
      · rw [z]; exact Nat.le_refl _
      · rw [z]; exact Nat.le_add_right _ _
    exact I1.fpOk hle (I1.hok.fresh hle)
  rcases q1 with (⟨a, b, xs, ys, ex, q1⟩ | ⟨a, b, xs, ys, ex, hqx, hqy, q⟩) | ⟨a, b, xs, ys, ex, hqx, hqy, q⟩
  · subst ex
    cases r1 with
    | cons r rr =>
      cases rr with
      | cons r' rr =>
        cases rr
        cases r
        cases r'
        rcases q1 with ⟨hqx, hqy, q⟩ | ⟨hqx, hqy, q⟩
        · obtain ⟨its, rv, p1, _⟩ := I1.list hqx
          obtain ⟨its2, rv2, p2, _⟩ := I1.list hqy
          refine call_zip_2 p1.isList p2.isList fun h' hz hTI hTO h1 h2 hsz hk => wpAny_pyIter_zip hz ?_
          have I2 : Inv X pins σ H1 { s1 with heap := h' } := I1.kept (t' := s1.toks) hk
          exact ⟨s1.heap.objs.size + 4, [s1.heap.objs.size + 4, s1.heap.objs.size + 2, s1.heap.objs.size + 3, s1.heap.objs.size, s1.heap.objs.size + 1], _, _, H1, rfl, I2, turn_zip (PySem.W.ktu_apart s1.heap.objs.size a b p1.lt p2.lt), ⟨hz, hTI, ⟨_, _, hTO⟩, h1, h2⟩, fresh5, q⟩
        · obtain ⟨its, rv, p1, _⟩ := I1.tuple hqx
          obtain ⟨its2, rv2, p2, _⟩ := I1.tuple hqy
          obtain ⟨o1, ho1, _⟩ := id p1
          obtain ⟨o2, ho2, _⟩ := id p2
          refine RZ.call_zipT (show s1.heap.IsTuple a its.toArray from p1) (show s1.heap.IsTuple b its2.toArray from p2) fun h' hz hTI hTO h1 h2 hsz hk => wpAny_pyIter_zip hz ?_
          have I2 : Inv X pins σ H1 { s1 with heap := h' } := I1.kept (t' := s1.toks) hk
          exact ⟨s1.heap.objs.size + 4, [s1.heap.objs.size + 4, s1.heap.objs.size + 2, s1.heap.objs.size + 3, s1.heap.objs.size, s1.heap.objs.size + 1], _, _, H1, rfl, I2, RZ.turn_zipT (PySem.W.ktu_apart s1.heap.objs.size a b (Heap.lt_size ho1) (Heap.lt_size ho2)), ⟨hz, hTI, ⟨_, _, hTO⟩, h1, h2⟩, fresh5, q⟩
  · subst ex
    cases r1 with
    | cons r rr =>
      cases rr with
      | cons r' rr =>
        cases rr
        cases r
        cases r'
        obtain ⟨its, rv, p1, _⟩ := I1.tuple hqx
        obtain ⟨its2, rv2, p2, _⟩ := I1.list hqy
        obtain ⟨o1, ho1, _⟩ := id p1
        have la : a < s1.heap.objs.size := Heap.lt_size ho1
        have lb : b < s1.heap.objs.size := p2.lt
        refine zip_begins2 (begins_tuple a its.toArray) (begins_list b its2.toArray) (show s1.heap.IsTuple a its.toArray from p1) p2.isList fun h' hz hTI hTO h1 h2 hsz hk => wpAny_pyIter_zip hz ?_
        have I2 : Inv X pins σ H1 { s1 with heap := h' } := I1.kept (t' := s1.toks) hk
        exact ⟨s1.heap.objs.size + 4, [s1.heap.objs.size + 4, s1.heap.objs.size + 2, s1.heap.objs.size + 3, s1.heap.objs.size, s1.heap.objs.size + 1], _, _, H1, rfl, I2,
          turn_zipM (Nat.ne_of_lt la) (Nat.ne_of_lt (Nat.lt_succ_of_lt lb)) (zip_sep2 (N := s1.heap.objs.size) (fp1 := [a]) (fp2 := [b]) (fun c hc => by rw [List.mem_singleton.mp hc]; exact la) (fun c hc => by rw [List.mem_singleton.mp hc]; exact lb)),
          ⟨hz, hTI, ⟨_, _, hTO⟩, ⟨_, h1, rfl, rfl⟩, ⟨_, h2, rfl, rfl⟩⟩, fresh5, q⟩
  · subst ex
    cases r1 with
    | cons r rr =>
      cases rr with
      | cons r' rr =>
        cases rr
        cases r
        cases r'
        obtain ⟨its, rv, p1, _⟩ := I1.list hqx
        obtain ⟨its2, rv2, p2, _⟩ := I1.tuple hqy
        obtain ⟨o2, ho2, _⟩ := id p2
        have la : a < s1.heap.objs.size := p1.lt
        have lb : b < s1.heap.objs.size := Heap.lt_size ho2
        refine zip_begins2 (begins_list a its.toArray) (begins_tuple b its2.toArray) p1.isList (show s1.heap.IsTuple b its2.toArray from p2) fun h' hz hTI hTO h1 h2 hsz hk => wpAny_pyIter_zip hz ?_
        have I2 : Inv X pins σ H1 { s1 with heap := h' } := I1.kept (t' := s1.toks) hk
        exact ⟨s1.heap.objs.size + 4, [s1.heap.objs.size + 4, s1.heap.objs.size + 2, s1.heap.objs.size + 3, s1.heap.objs.size, s1.heap.objs.size + 1], _, _, H1, rfl, I2,
          turn_zipL (Nat.ne_of_lt la) (Nat.ne_of_lt (Nat.lt_succ_of_lt lb)) (zip_sep2 (N := s1.heap.objs.size) (fp1 := [a]) (fp2 := [b]) (fun c hc => by rw [List.mem_singleton.mp hc]; exact la) (fun c hc => by rw [List.mem_singleton.mp hc]; exact lb)),
          ⟨hz, hTI, ⟨_, _, hTO⟩, ⟨_, h1, rfl, rfl⟩, ⟨_, h2, rfl, rfl⟩⟩, fresh5, q⟩
section
variable {σ : L2.St} {D H : Hp} {L : Own} {K : PySem.W.Frag} {Q : VK}
instance v_zipX {tr : TA} {R : It → Hp → Prop} : VC (iZipX K tr σ H R) (tr σ H fun vs H1 => IsZX K vs H1 R) := ⟨fun h => h⟩
instance v_zipXLL {a b : Addr} {xs ys : List V} {R : It → Hp → Prop} [S : Sx D L H] [ha : Sl K D L a xs] [hb : Sl K D L b ys] : VC (IsZX K [.ref a, .ref b] H R) (R (Itz K a b) H) := ⟨fun h => .inl (VC.pf h)⟩
instance v_zipXTT {a b : Addr} {xs ys : List V} {R : It → Hp → Prop} [S : Sx D L H] [ha : Kn D a (.tup xs)] [hb : Kn D b (.tup ys)] : VC (IsZX K [.ref a, .ref b] H R) (R (RZ.ItzT K a b) H) := ⟨fun h => .inl (VC.pf h)⟩
instance v_zipXTL {a b : Addr} {xs ys : List V} {R : It → Hp → Prop} [S : Sx D L H] [ha : Kn D a (.tup xs)] [hb : Sl K D L b ys] : VC (IsZX K [.ref a, .ref b] H R) (R (Itzm K a b) H) := ⟨fun h => .inl (VC.pf h)⟩
instance v_zipXLT {a b : Addr} {xs ys : List V} {R : It → Hp → Prop} [S : Sx D L H] [ha : Sl K D L a xs] [hb : Kn D b (.tup ys)] : VC (IsZX K [.ref a, .ref b] H R) (R (Itzl K a b) H) := ⟨fun h => .inr (VC.pf h)⟩
/-! ## the least of what is a list or a tuple -/
instance v_minYK {a : Addr} {xs : List V} {ns : List Int} [S : Sx D L H] [ha : Ks D a xs] [c : IsC xs ns] : VC (rMinY K [.ref a] H Q) (0 < ns.length ∧ ∀ m, m ∈ ns → (∀ y, y ∈ ns → m ≤ y) → Q (.int m) H) := ⟨fun h => ha.pf.elim (fun k => have : Kn D a (.lst xs) := ⟨k⟩; VC.pf (g := rMinY K [.ref a] H Q) h) fun k => have : Kn D a (.tup xs) := ⟨k⟩; VC.pf (g := rMinY K [.ref a] H Q) h⟩
end
/-! ## a def as a thing: called where it was put -/
noncomputable def Cl.f {P : Program} {w : World} {K : PySem.W.Frag} {mg : Str → Option Value} {base : Heap} {CX : CXT} {k : Nat} {x : Str} {ps : List Str} {sp : Sp} (C : Cl P w K mg base CX k x ps sp) : Addr := C.ex.choose
theorem Cl.g {P : Program} {w : World} {K : PySem.W.Frag} {mg : Str → Option Value} {base : Heap} {CX : CXT} {k : Nat} {x : Str} {ps : List Str} {sp : Sp} (C : Cl P w K mg base CX k x ps sp) : mg x = some (.ref C.f) := let ⟨_, _, g, _⟩ := C.ex.choose_spec; g
def tCallE (f1 f2 : Addr) (s1 s2 : Sp) (tf : TE) (t : TA) : TE := fun σ H Q => tf σ H fun y H1 => (y = V.ref f1 ∧ t σ H1 fun vs H2 => s1 vs H2 Q E0) ∨ (y = V.ref f2 ∧ t σ H1 fun vs H2 => s2 vs H2 Q E0)
theorem pe_callE {X : Cx} {fe : Expr} {tf : TE} {x1 x2 : Str} {k1 k2 j : Nat} {p1 p2 : List Str} {s1 s2 : Sp} {e : Expr} {es : List Expr} {t : TA} {pos : Pos} (hf : PE X fe tf) (C1 : Cl X.prog X.w X.K X.mg X.base CX0 k1 x1 p1 s1) (C2 : Cl X.prog X.w X.K X.mg X.base CX0 k2 x2 p2 s2) (hr : Room j X.A) (hk1 : k1 ≤ j) (hk2 : k2 ≤ j) (ha : PA X (e :: es) t)
    (ht : eval (.Call fe (e :: es) [] pos) X.env = (do callWith pos (← eval fe X.env) [] (backTo pos (starEach (e :: es) X.env)) (backToKw pos (keywordEach [] X.env))) := by rfl)
    (he : starEach (e :: es) X.env = (false, eval e X.env) :: starEach es X.env := by rfl) (hpl : (backTo pos (starEach es X.env)).any (·.1) = false := by rfl) : PE X (.Call fe (e :: es) [] pos) (tCallE C1.f C2.f s1 s2 tf t) := by
  refine ⟨fun pins s σ H Q I h => ?_⟩
  refine Call_ (thn (hf.run pins s σ H _ I h) fun u sA ⟨y, H1, I1, ry, q⟩ => ?_) ht
  obtain ⟨fd1, F1, g1, kp1, hb1⟩ := C1.ex.choose_spec
  obtain ⟨fd2, F2, g2, kp2, hb2⟩ := C2.ex.choose_spec
  rcases q with ⟨ey, q⟩ | ⟨ey, q⟩
  · subst ey
    obtain rfl : u = Value.ref C1.f := ry
    refine PySem.W.callWith_K (h₀ := X.base) I1.ok.mod.kin kp1 (thn (ha.run pos pins sA σ _ _ I1 q) fun us s2 ⟨vs, H2, I2, r, q2⟩ => ⟨I2.kIn, ?_⟩) he hpl
    exact run_fn (dvs := []) F1 (hr.mono hk1) hb1 .nil pass0 I2 r (by rw [List.append_nil]; exact q2)
  · subst ey
    obtain rfl : u = Value.ref C2.f := ry
    refine PySem.W.callWith_K (h₀ := X.base) I1.ok.mod.kin kp2 (thn (ha.run pos pins sA σ _ _ I1 q) fun us s2 ⟨vs, H2, I2, r, q2⟩ => ⟨I2.kIn, ?_⟩) he hpl
    exact run_fn (dvs := []) F2 (hr.mono hk2) hb2 .nil pass0 I2 r (by rw [List.append_nil]; exact q2)
instance v_callE {σ : L2.St} {H : Hp} {Q : VK} {f1 f2 : Addr} {s1 s2 : Sp} {tf : TE} {t : TA} : VC (tCallE f1 f2 s1 s2 tf t σ H Q) (tf σ H fun y H1 => (y = V.ref f1 ∧ t σ H1 fun vs H2 => s1 vs H2 Q E0) ∨ (y = V.ref f2 ∧ t σ H1 fun vs H2 => s2 vs H2 Q E0)) := ⟨fun h => h⟩
end Fk

namespace Fk
open PySem PySem.Spec PyProof.Rows L2
/-! ## xs[i] += n, a list of mine, i no less than nought -/
def rIxA (K : PySem.W.Frag) : V → V → Hp → VK → Prop := fun x y H Q => ∃ p xs i v, x = .ref p ∧ y = .int i ∧ SqL K H p xs ∧ 0 ≤ i ∧ atI xs i = some v ∧ Q v H
theorem ix_aug {X : Cx} : PGet X (rIxA X.K) := by
  intro pins s σ H o i ov iv Q I ro ri h
  obtain ⟨p, xs, k, z, rfl, rfl, hq, h0, he, q⟩ := h
  cases ro
  obtain ⟨t, rfl⟩ := ri
  obtain ⟨its, r, pl, hz⟩ := I.list hq
  obtain ⟨j, h1, h2, h3, h4, h5⟩ := L2.atI_get he
  obtain ⟨w, ew, rw'⟩ := r.get h2
  have hl := r.length
  have hn := line63
  have hj : k.toNat = j := by
    rw [seqIndex_of h0 h5] at h1
    exact Option.some.inj h1
  exact wpAny_getItem_list pl.isList h0 (by omega) (by rw [hj]; simpa using ew) ⟨z, H, I, rw', q⟩
def IpI (f : Int → Int → Int) (x y : V) (H : Hp) (Q : VK) : Prop := ipI f x y H Q
section
variable {σ : L2.St} {D H : Hp} {L : Own} {K : PySem.W.Frag} {Q : VK} {nx bk ct : L2.St → Hp → Prop} {rt : VK}
instance v_augS {to ti te : TE} {tget : V → V → Hp → VK → Prop} {tip : TIp} {tset : TSet} : VC (tAugS to ti te tget tip tset ⟨nx, rt, bk, ct⟩ σ H) (to σ H fun o H1 => ti σ H1 fun i H2 => tget o i H2 fun x H3 => te σ H3 fun y H4 => tip x y H4 fun z H5 => tset o i z H5 fun H6 => nx σ H6) := ⟨fun h => h⟩
instance v_ipI {f : Int → Int → Int} {i j : Int} : VC (ipI f (.int i) (.int j) H Q) (Q (.int (f i j)) H) := ⟨fun h => ⟨i, j, rfl, rfl, h⟩⟩
instance v_ixA {a : Addr} {xs : List V} {i : Int} {v : V} [S : Sx D L H] [ha : Sl K D L a xs] [c : AtC xs i v] : VC (rIxA K (.ref a) (.int i) H Q) (0 ≤ i ∧ Q v H) := ⟨fun h => ⟨a, xs, i, v, rfl, rfl, ha.pf.sq S, h.1, c.pf, h.2⟩⟩
end
end Fk

namespace Fk
open PySem PySem.Spec PyProof.Rows L2 PySem.Calls PyProof.V
/-! ## dict(enumerate(xs)) of a list, d.pop(k), sorted(d.values()) -/
def enK : Nat → List V → List (Key × V)
  | _, [] => []
  | j, v :: vs => (Sum.inl (j : Int), v) :: enK (j + 1) vs
def enKV : Nat → List Value → List (Key × Value)
  | _, [] => []
  | j, v :: vs => (Sum.inl (j : Int), v) :: enKV (j + 1) vs
theorem enKV_rel : ∀ {vs : List V} {us : List Value} {j : Nat}, Vals vs us → KV (enK j vs) (enKV j us)
  | _, _, _, .nil => .nil
  | _, _, _, .cons r t => .cons ⟨rfl, r⟩ (enKV_rel t)
theorem enKV_get : ∀ {us : List Value} {j i : Nat} {u : Value}, us[i]? = some u → (enKV j us)[i]? = some (Sum.inl ((j + i : Nat) : Int), u)
  | y :: ys, j, 0, x, h => by cases h; rfl
  | y :: ys, j, i + 1, x, h => by
    have h : ys[i]? = some x := h
    show (enKV (j + 1) ys)[i]? = _
    rw [enKV_get h, show j + 1 + i = j + (i + 1) by omega]
theorem enKV_len : ∀ (us : List Value) (j : Nat), (enKV j us).length = us.length
  | [], _ => rfl
  | x :: xs, j => congrArg (· + 1) (enKV_len xs (j + 1))
theorem enK_len : ∀ (us : List V) (j : Nat), (enK j us).length = us.length
  | [], _ => rfl
  | x :: xs, j => congrArg (· + 1) (enK_len xs (j + 1))
theorem enK_key : ∀ {xs : List V} {j : Nat} {kv : Key × V}, kv ∈ enK j xs → ∃ i : Nat, j ≤ i ∧ kv.1 = Sum.inl (i : Int)
  | x :: xs, j, kv, h => by
    rcases List.mem_cons.mp h with h | h
    · exact ⟨j, Nat.le_refl _, by rw [h]⟩
    · obtain ⟨i, h1, h2⟩ := enK_key h
      exact ⟨i, by omega, h2⟩
theorem merge_en : ∀ (xs : List V) (j : Nat) (acc : List (Key × V)), (∀ kv, kv ∈ acc → ∃ i : Nat, i < j ∧ kv.1 = Sum.inl (i : Int)) → mergeK acc (enK j xs) = acc ++ enK j xs
  | [], j, acc, _ => by rw [show enK j [] = [] from rfl, List.append_nil]; rfl
  | x :: xs, j, acc, h => by
    have hn : (acc.any fun kv => decide (kv.1 = Sum.inl (j : Int))) = false := by
      rw [List.any_eq_false]
      intro kv hkv
      obtain ⟨i, h1, h2⟩ := h kv hkv
      rw [h2]
      simp only [decide_eq_true_eq, Sum.inl.injEq]
      omega
    have e : putK acc (Sum.inl (j : Int)) x = acc ++ [(Sum.inl (j : Int), x)] := by
      unfold putK
      rw [hn]
      rfl
    show mergeK (putK acc (Sum.inl (j : Int)) x) (enK (j + 1) xs) = _
    rw [e, merge_en xs (j + 1) _ (fun kv hkv => by
      rcases List.mem_append.mp hkv with g | g
      · obtain ⟨i, h1, h2⟩ := h kv g
        exact ⟨i, by omega, h2⟩
      · rw [List.mem_singleton.mp g]
        exact ⟨j, by omega, rfl⟩), List.append_assoc]
    rfl
def DEn (K : PySem.W.Frag) (vs : List V) (H1 : Hp) (Q : VK) : Prop := ∃ a xs, vs = [.ref a] ∧ SqL K H1 a xs ∧ ∀ d, H1 d = none → Q (.ref d) (upd H1 d (.dK (enK 0 xs)))
def tDictEn (K : PySem.W.Frag) (ta : TA) : TE := fun σ H Q => ta σ H fun vs H1 => DEn K vs H1 Q
theorem pe_dictEn (K : PySem.W.Frag) {X : Cx} {e : Expr} {ta : TA} {p p2 pos pos2 : Pos} (hc : X.calm = true) (hgd : Gl X "dict") (hmd : X.mg "dict" = none) (hge : Gl X "enumerate") (hme : X.mg "enumerate" = none) (ha : PA X [e] ta) (hK : X.K = K := by rfl)
    (hs1 : starEach [e] X.env = [(false, eval e X.env)] := by rfl) (hs2 : starEach [.Call (.Name "enumerate" p2) [e] [] pos2] X.env = [(false, eval (.Call (.Name "enumerate" p2) [e] [] pos2) X.env)] := by rfl) :
    PE X (.Call (.Name "dict" p) [.Call (.Name "enumerate" p2) [e] [] pos2] [] pos) (tDictEn K ta) := by
  subst hK
  refine ⟨fun pins s σ H Q I h => ?_⟩
  refine Call_ (ld_blt I hgd hmd PyProof.Rows.boot_dict (PyProof.Rows.callWith_type1 ?_ hs2 rfl))
  rw [hs2]
  show wpAny _ _ (spliced ((false, eval (.Call (.Name "enumerate" p2) [e] [] pos2) X.env) :: [])) _ _ s
  refine Calls.spliced_cons ?_
  refine Call_ (ld_blt I hge hme boot_enumerate (PyProof.Rows.callWith_type1 (thn (ha.run pos2 pins s σ H _ I h) fun us s1 ⟨vs, H1, I1, r1, a, xs, ex, hq, q⟩ => ?_) hs1 rfl))
  subst ex
  cases r1 with
  | cons r rr =>
    cases rr
    cases r
    obtain ⟨its, rv, p', hz⟩ := I1.list hq
    have la : a < s1.heap.objs.size := p'.lt
    refine call_enumerate_list p'.isList fun h' he hit hsz hk => ?_
    refine Calls.spliced_nil ?_
    have hl' : h'.IsList a its.toArray := p'.isList.at fun o x => hk a o x
    refine PySem.call_dict_pairs (K := Key) (knd := mixKind X.prog X.w) (kvs := enKV 0 its) (PairArg.enumerate (s1.heap.objs.size + 1) s1.heap.objs.size a (Nat.succ_ne_self _) (Nat.ne_of_lt (Nat.lt_succ_of_lt la)) (Nat.ne_of_lt la) its.toArray) (I1.ok.hd hc) ⟨⟨_, he⟩, hit, hl'⟩ ⟨by rw [enKV_len]; simp, fun i key v ⟨⟨t, ek⟩, ev⟩ => ?_⟩ ?_ fun h2 tk hd' k => ?_
    · refine ⟨Sum.inl (i : Int), ?_, ?_⟩
      · have := enKV_get (j := 0) (us := its) (i := i) (u := v) (by simpa using ev)
        rw [Nat.zero_add] at this
        exact this
      · rw [ek]
        exact kV_is (P := X.prog) (w := X.w) (k := Sum.inl (i : Int)) ⟨t, rfl⟩
    · have := rv.length
      simp only [List.size_toArray]
      omega
    · have hlv := rv.length
      have hm : (h'.objs.size == sysModules) = false := beq_eq_false_iff_ne.mpr (Nat.ne_of_gt (by rw [hsz]; exact Nat.lt_succ_of_lt (Nat.lt_succ_of_lt I1.big)))
      have e0 : mergeK [] (enK 0 xs) = enK 0 xs := by rw [merge_en xs 0 [] (fun kv h => nomatch h), List.nil_append]
      have hrel : KV (enK 0 xs) (merged [] (enKV 0 its)) := by
        have := KV.merge (enKV_rel (j := 0) rv) (.nil : KV [] [])
        rw [e0] at this
        exact this
      have hlen : (enK 0 xs).length ≤ sizeLine := by rw [enK_len]; exact hz
      refine ⟨.ref h'.objs.size, upd H1 h'.objs.size (.dK (enK 0 xs)), I1.laid (t' := tk) (h' := h2) (fun b o e => k b o (fun z => ?_) (hk b o e)) (by rw [hsz]; exact Nat.le_add_right _ _) (show ObjOk X.prog X.w _ _ _ (.dK (enK 0 xs)) from ⟨hlen, hm, merged [] (enKV 0 its), hrel, hd'⟩), rfl, q _ (I1.hok.fresh (by rw [hsz]; exact Nat.le_add_right _ _))⟩
      have hb := Heap.lt_size e
      have z2 : b = s1.heap.objs.size + 1 ∨ b = s1.heap.objs.size := by simpa using z
      rcases z2 with z | z
      · rw [z] at hb; exact absurd hb (Nat.not_lt.mpr (Nat.le_succ _))
      · rw [z] at hb; exact absurd hb (Nat.lt_irrefl _)
/-- sorted(d.values()), the values numbers -/
def rSortVs : List V → Hp → VK → Prop := fun xs H Q => ∃ (p a : Addr) (kvs : List (Int × Int)), xs = [.ref p] ∧ H p = some (valsO p a) ∧ Rd H a (.dK (kvs.map entI)) ∧
  ∀ (ys : List Int) (p : Addr), ys.Perm (kvs.map (·.2)) → ys.Pairwise (· ≤ ·) → H p = none → Q (.ref p) (upd H p (.lst (ys.map V.int)))
theorem cr_sortVs {X : Cx} (hcalm : X.calm = true) : CallR X (.builtin "sorted") rSortVs := by
  intro pins s σ H xs us Q I r q
  obtain ⟨p, a, kvs, ex, hp, hd, q⟩ := q
  subst ex
  obtain ⟨u, eu, rx⟩ := vals1 r
  subst eu
  cases rx
  have view : s.heap.IsValuesView p a := (show ObjOk X.prog X.w H s.heap p (valsO p a) from I.hok p _ hp).1
  obtain ⟨z, lo, vs, rel, dd⟩ := dk_rd I.hok hd
  obtain ⟨ep, hat⟩ := dd.dictAt
  have hl : vs.length = kvs.length := by have := Paired.length rel; rw [List.length_map] at this; exact this.symm
  rw [List.length_map] at z
  have h16 : vs.length ≤ sizeLine := by rw [hl]; exact z
  refine Calls.call_function_entry PyProof.Rows.kind_sorted PyProof.Rows.plain_sorted PyProof.Rows.entry_sorted (PyProof.Rows.args_sorted1 _) ?_
  unfold Builtin.«sorted»
  refine wpAny_bind (m := checkCount "sorted" 1 1 _) (wpAny_pure ?_)
  refine wpAny_bind (PySem.W.kdu_collect (A := X.A.in1) (PySem.W.kdl_values (prog := X.prog) (w := X.w) (knd := mixKind X.prog X.w) (r := p) (d := a) (kvs := vs) (ep := ep)) (I.ok.hd hcalm) ⟨view, hat⟩ h16 fun h' tk acc hk hacc => ?_)
  have hal : acc.toList.length = (kvs.map (·.2)).length := by rw [Array.length_toList, hacc.1, hl, List.length_map]
  have hS : IntsAre acc.toList (kvs.map (·.2)) := ints_each hal fun j v e => by
    obtain ⟨k, h1⟩ := hacc.2 j v (by rw [← Array.getElem?_toList]; exact e)
    obtain ⟨e0, he0, r1, r2⟩ := DX.pget rel h1
    rw [List.getElem?_map] at he0
    cases g : kvs[j]? with
    | none => rw [g] at he0; exact nomatch he0
    | some e =>
      rw [g] at he0
      have ee : entI e = e0 := Option.some.inj he0
      rw [← ee] at r2
      obtain ⟨t, ht⟩ := (show ∃ t, v = Value.int e.2 t from r2)
      exact ⟨e.2, t, by rw [List.getElem?_map, g]; rfl, ht⟩
  have I1 : Inv X pins σ H { s with heap := h', toks := tk } := I.kept hk
  have hz2 : acc.toList.length ≤ sizeLine := by rw [hal, List.length_map]; exact z
  refine wpAny_bind (wpAny_newList ?_ hz2)
  have hoL : (h'.push (seqObj "list" acc.toList.toArray 0)).get? h'.objs.size = some (seqObj "list" acc.toList.toArray 0) := Heap.get?_push_size _ rfl
  show wpAny _ _ _ _ _ { s with heap := h'.push (seqObj "list" acc.toList.toArray 0), toks := tk }
  have hn0 : H h'.objs.size = none := I1.hok.fresh (Nat.le_refl _)
  have hlen : ((kvs.map (·.2)).map V.int).length ≤ sizeLine := by rw [List.length_map, List.length_map]; exact z
  have I2 := I1.laid (a := h'.objs.size) (o := .lst ((kvs.map (·.2)).map V.int)) (h' := h'.push (seqObj "list" acc.toList.toArray 0)) (t' := tk) (fun _ _ q => Heap.get?_push_of_some _ q) (Nat.le_refl _)
    ⟨hlen, acc.toList, 0, vals_of_ints hS, Heap.get?_push_size _ rfl⟩
  refine wpAny_bind (wpAny_holding (wpAny_mono (mt_sortI (X := inX X) pins { s with heap := h'.push (seqObj "list" acc.toList.toArray 0), toks := tk } σ (upd H h'.objs.size (.lst ((kvs.map (·.2)).map V.int))) (.ref h'.objs.size) [] (.ref h'.objs.size) [] (fun _ H3 => Q (.ref h'.objs.size) H3) (inv_in I2) rfl .nil
    ⟨h'.objs.size, kvs.map (·.2), rfl, rfl, upd_same, fun ns' h1 h2 => ?_⟩) (fun u s' hu => ?_) (fun _ _ e => e)))
  · have e : upd (upd H h'.objs.size (.lst ((kvs.map (·.2)).map V.int))) h'.objs.size (.lst (ns'.map V.int)) = upd H h'.objs.size (.lst (ns'.map V.int)) := funext fun b => by
      by_cases c : b = h'.objs.size
      · rw [c, upd_same, upd_same]
      · rw [upd_ne c, upd_ne c, upd_ne c]
    rw [e]
    exact q ns' _ h1 h2 hn0
  · obtain ⟨v, H4, J, _, qq⟩ := hu
    exact wpAny_pure ⟨_, rfl, .ref h'.objs.size, H4, inv_out I.ok J, rfl, qq⟩
section
variable {σ : L2.St} {D H : Hp} {L : Own} {K : PySem.W.Frag} {Q : VK}
instance v_valsO {a : Addr} {kvs : List (Key × V)} {n : Nat} [S : Sx D L H] [h : Fi L a (.dK kvs) n] : VC (rValsK (.ref a) [] H Q) (∀ p D' H', Sx D' L H' → Sm D D' → Kn D' p (valsO p a) → Q (.ref p) H') :=
  ⟨fun k => ⟨a, kvs, rfl, rfl, .inl (S.at h.pf), fun p hp => k p _ _ (S.fix hp) ⟨same_upd (S.dH.free hp)⟩ ⟨upd_same⟩⟩⟩
instance v_tyKO {a : Addr} {kvs : List (Key × V)} {n : Nat} {p : Prop} [S : Sx D L H] [h : Fi L a (.dK kvs) n] : VC (tyKF (.ref a) H ∧ p) p := ⟨fun k => ⟨⟨a, kvs, rfl, .inl (S.at h.pf)⟩, k⟩⟩
instance v_sortVs {p a : Addr} {kvs : List (Int × Int)} {n : Nat} [S : Sx D L H] [hp : Kn D p (valsO p a)] [h : Fi L a (.dK (kvs.map entI)) n] : VC (rSortVs [.ref p] H Q) (∀ ys : List Int, ys.Perm (kvs.map (·.2)) → ys.Pairwise (· ≤ ·) → ∀ l H', Sx D ((l, .lst (ys.map V.int)) :: L) H' → Q (.ref l) H') :=
  ⟨fun k => ⟨p, a, kvs, rfl, S.dH _ _ hp.pf, .inl (S.at h.pf), fun ys l h1 h2 hl => k ys h1 h2 l _ (S.new hl)⟩⟩
def DPo (ty : TE) (σ : L2.St) (x : V) (H1 : Hp) (Q : VK) : Prop := ∃ a, x = .ref a ∧ IsD H1 a ∧ ty σ H1 fun y H2 => ∃ kvs k v, H2 a = some (.dK kvs) ∧ y = kV k ∧ valV kvs k = some v ∧ Q v (upd H2 a (.dK (dropK kvs k)))
def DPo2 (a : Addr) (y : V) (H2 : Hp) (Q : VK) : Prop := ∃ kvs k v, H2 a = some (.dK kvs) ∧ y = kV k ∧ valV kvs k = some v ∧ Q v (upd H2 a (.dK (dropK kvs k)))
instance v_dpop1 {td ty : TE} : VC (tDPop1 td ty σ H Q) (td σ H fun x H1 => DPo ty σ x H1 Q) := ⟨fun h => h⟩
instance v_dpo {a : Addr} {ty : TE} {kvs : List (Key × V)} {n : Nat} [S : Sx D L H] [h : Fi L a (.dK kvs) n] : VC (DPo ty σ (.ref a) H Q) (ty σ H fun y H2 => DPo2 a y H2 Q) := ⟨fun k => ⟨a, rfl, .inl ⟨kvs, .inl (S.at h.pf)⟩, k⟩⟩
instance v_dpo2 {a : Addr} {kvs : List (Key × V)} {n : Nat} {i : Int} {v : V} {L' : Own} [S : Sx D L H] [h : Fi L a (.dK kvs) n] [c : DvC kvs i v] [e : Se L n (a, .dK (dropK kvs (Sum.inl i))) L'] : VC (DPo2 a (.int i) H Q) (∀ H', Sx D L' H' → Q v H') :=
  ⟨fun k => ⟨kvs, Sum.inl i, v, S.at h.pf, rfl, c.pf, k _ (by rw [← e.pf]; exact S.put _ h.pf)⟩⟩
instance v_dictEn {ta : TA} : VC (tDictEn K ta σ H Q) (ta σ H fun vs H1 => DEn K vs H1 Q) := ⟨fun h => h⟩
instance v_dEn {a : Addr} {xs : List V} [S : Sx D L H] [ha : Sl K D L a xs] : VC (DEn K [.ref a] H Q) (∀ d H', Sx D ((d, .dK (enK 0 xs)) :: L) H' → Q (.ref d) H') := ⟨fun k => ⟨a, xs, rfl, ha.pf.sq S, fun d hd => k d _ (S.new hd)⟩⟩
end
end Fk

namespace Fk
open PySem PySem.Spec PyProof.Rows L2
/-! ## list + list, whichever lists (the law's script, too) -/
def rCatQ (K : PySem.W.Frag) : R2 := fun x y H Q => ∃ l b xs zs, x = .ref l ∧ y = .ref b ∧ SqL K H l xs ∧ SqL K H b zs ∧ xs.length + zs.length ≤ sizeLine ∧ ∀ p, H p = none → Q (.ref p) (upd H p (.lst (xs ++ zs)))
theorem op_catQ {X : Cx} : OpR X (binaryOp .Add) (rCatQ X.K) := by
  intro pins s σ H x y v u Q I rx ry h
  obtain ⟨l, b, xs, zs, rfl, rfl, hH, hB, hz, q⟩ := h
  cases rx
  cases ry
  obtain ⟨its, r, ⟨⟨cls, dd, data, sl⟩, n, ho, hc, hd0, hd⟩, hl⟩ := I.list hH
  obtain ⟨its2, r2, ⟨⟨cls2, dd2, data2, sl2⟩, n2, ho2, hc2, hd02, hd2⟩, hl2⟩ := I.list hB
  simp only at hc hd hc2 hd2
  subst hc hd hc2 hd2
  have e1 := r.length
  have e2 := r2.length
  have ea : its.toArray ++ its2.toArray = (its ++ its2).toArray := by simp
  refine concat_meets ⟨_, ho, rfl⟩ ⟨_, ho2, rfl⟩ noFill_list_add seq_list_add PySem.F.slot_list_add PySem.F.entry_list_add (PySem.F.args_list_add_2 _ _) (list_addW l b its.toArray its2.toArray n n2 dd dd2 sl sl2 (by rw [List.size_toArray, List.size_toArray]; omega)) ⟨ho, ho2, ?_⟩
  rw [ea]
  exact ⟨.ref _, _, I.lnew (t' := s.toks) (r.append r2) (by rw [List.length_append]; omega), rfl, q _ I.fresh⟩
instance v_catQ {D H : Hp} {L : Own} {K : PySem.W.Frag} {Q : VK} {a b : Addr} {xs ys : List V} [S : Sx D L H] [ha : Sl K D L a xs] [hb : Sl K D L b ys] : VC (rCatQ K (.ref a) (.ref b) H Q) (xs.length + ys.length ≤ 16777216 ∧ ∀ p H', Sx D ((p, .lst (xs ++ ys)) :: L) H' → Q (.ref p) H') :=
  ⟨fun h => ⟨a, b, xs, ys, rfl, rfl, ha.pf.sq S, hb.pf.sq S, h.1, fun p hp => h.2 p _ (S.new hp)⟩⟩
instance v_pow_10_11 {H : Hp} {Q : VK} : VC (rI CPow (fun i j => .int (i ^ j.toNat)) (.int 10) (.int 11) H Q) (Q (.int 100000000000) H) := ⟨fun k => ⟨10, 11, rfl, rfl, ⟨by decide, by decide, by decide⟩, k⟩⟩
/-- a, b = x + .., y + .. with plain local names: stored the other way about -/
theorem sw_two {x y u : Str} {px py pt pu pa pb : Pos} {v bl br : Expr} {o1 o2 : Operator} {kt k2 pt2} {env : Env} (hb : env.blockKind = .function) (hl : (py.line == px.line) = true) (hx : env.scope.names.lookup x = some .local) (hy : env.scope.names.lookup y = some .local) (hne : (x == y) = false)
    (hc : (u == Str.ofString "__debug__") = false) :
    swappedStores [.Tuple [.Name x px, .Name y py] kt pt] (.Tuple [.BinOp (.Name u pu) o1 v pa, .BinOp bl o2 br pb] k2 pt2) env = pure (some [x, y]) := by
  unfold swappedStores
  have e1 : (env.blockKind != .function) = false := by rw [hb]; rfl
  have kx : env.kindOf x = some .local := hx
  have ky : env.kindOf y = some .local := hy
  have e2 : (px.line == px.line) = true := by simp
  have hne' : (y == x) = false := by
    rw [beq_eq_false_iff_ne] at hne ⊢
    exact fun h => hne h.symm
  have e3 : ([.BinOp (.Name u pu) o1 v pa, .BinOp bl o2 br pb] : List Expr).all (constantsAlone 8) = false := by
    simp only [List.all_cons, constantsAlone]
    rw [show (u == ("__debug__" : Str)) = false from hc]
    rfl
  have e4 : List.filterMap (fun x_1 => match x_1 with | Expr.Name id pos => if (env.kindOf id == some NameKind.local && pos.line == px.line) = true then some id else none | x => none) [Expr.Name x px, Expr.Name y py] = [x, y] := by
    simp only [List.filterMap_cons, kx, ky, e2, hl]
    rfl
  have e5 : [x, y].eraseDups = [x, y] := by
    rw [List.eraseDups_cons, List.filter_cons, if_pos (by rw [hne']; rfl)]
    rfl
  simp only [e1, e3]
  show (if _ then _ else if _ then _ else if ((List.filterMap (fun x_1 => match x_1 with | Expr.Name id pos => if (env.kindOf id == some NameKind.local && pos.line == px.line) = true then some id else none | x => none) [Expr.Name x px, Expr.Name y py]).length != 2 || (List.filterMap (fun x_1 => match x_1 with | Expr.Name id pos => if (env.kindOf id == some NameKind.local && pos.line == px.line) = true then some id else none | x => none) [Expr.Name x px, Expr.Name y py]).eraseDups.length != (List.filterMap (fun x_1 => match x_1 with | Expr.Name id pos => if (env.kindOf id == some NameKind.local && pos.line == px.line) = true then some id else none | x => none) [Expr.Name x px, Expr.Name y py]).length) then _ else _) = _
  rw [e4, e5]
  exact congrArg (fun l => (pure (some l) : Sem (Option (List Str)))) e4
end Fk

namespace Fk
open PySem PySem.Spec PyProof.Rows L2 HT
section
variable {prog : Program} {w : World} {A : Around} {E : Value → Shared → Prop} {s : Shared}
theorem places_rev (n : Nat) : Builtin.Slice.slicePlaces ((n : Int) - 1) (-1) (-1) = n := by
  unfold Builtin.Slice.slicePlaces
  have h1 : ¬ ((-1 : Int) > 0) := by omega
  simp only [h1, if_false, Int.neg_neg, Int.ediv_one]
  split <;> omega
theorem sliceApplied_rev {sl : Addr} {vl vu vs : Value} {n : Nat} {Q : Int × Int × Nat → Shared → Prop} (hs : s.heap.IsSliceOf sl vl vu vs) (pl : IsPart vl none) (pu : IsPart vu none) (ps : IsPart vs (some (-1)))
    (h : Q ((n : Int) - 1, -1, n) s) : wpAny (model prog w) A (Builtin.Slice.sliceApplied (.ref sl) (pure (n : Int))) Q E s := by
  obtain ⟨os, hos, hcs, hds⟩ := id hs
  unfold Builtin.Slice.sliceApplied Builtin.Slice.sliceFields
  refine wpAny_bind (wpAny_bind (wpAny_field hos hds (x := vl) rfl (wpAny_bind (wpAny_field hos hds (x := vu) rfl (wpAny_bind (wpAny_field hos hds (x := vs) rfl (wpAny_pure ?_)))))))
  refine wpAny_bind (slicePart_ ps ?_)
  show wpAny _ _ (if ((-1 : Int) == 0) = true then _ else _) _ _ s
  rw [if_neg (by decide)]
  refine wpAny_bind (slicePart_ pl (wpAny_bind (slicePart_ pu (wpAny_bind (wpAny_pure ?_)))))
  show wpAny _ _ (match Builtin.Slice.sliceAdjust none none (-1) (n : Int) with | (lo, hi) => pure (lo, (-1 : Int), Builtin.Slice.slicePlaces lo hi (-1))) _ _ s
  have e : Builtin.Slice.sliceAdjust none none (-1) (n : Int) = ((n : Int) - 1, -1) := by
    unfold Builtin.Slice.sliceAdjust
    simp
  rw [e]
  show wpAny _ _ (pure ((n : Int) - 1, (-1 : Int), Builtin.Slice.slicePlaces ((n : Int) - 1) (-1) (-1))) _ _ s
  rw [places_rev]
  exact wpAny_pure h
theorem fm_congr {α β : Type} {f g : α → Option β} : ∀ {l : List α}, (∀ x, x ∈ l → f x = g x) → l.filterMap f = l.filterMap g
  | [], _ => rfl
  | x :: l, h => by
    rw [List.filterMap_cons, List.filterMap_cons, h x List.mem_cons_self, fm_congr fun y hy => h y (List.mem_cons_of_mem _ hy)]
theorem pick_rev (xs : Array Value) : ((List.range xs.size).filterMap fun (m : Nat) => xs[(((xs.size : Int) - 1) + (m : Int) * (-1)).toNat]?).toArray = xs.toList.reverse.toArray := by
  have := pick_gen xs.toList.reverse.toArray 0 xs.size
  rw [show ((xs.toList.reverse.toArray.toList.drop 0).take xs.size) = xs.toList.reverse by
    show (xs.toList.reverse).take xs.size = _
    rw [List.take_of_length_le (by rw [List.length_reverse, Array.length_toList]; exact Nat.le_refl _)]] at this
  rw [← this]
  refine congrArg List.toArray (fm_congr fun m hm => ?_)
  have hm := List.mem_range.mp hm
  rw [show (((xs.size : Int) - 1) + (m : Int) * (-1)).toNat = xs.size - 1 - m by omega, show (((0 : Nat) : Int) + (m : Int) * 1).toNat = m by omega]
  have e2 : xs.toList.reverse.toArray[m]? = xs.toList.reverse[m]? := by simp
  rw [e2, List.getElem?_reverse (by rw [Array.length_toList]; exact hm), Array.length_toList, Array.getElem?_toList]
theorem getItem_tuple_rev {t sl : Addr} {items : Array Value} {vl vu vs : Value} {Q : Value → Shared → Prop} (ht : IsTup s.heap t items) (hs : s.heap.IsSliceOf sl vl vu vs) (pl : IsPart vl none) (pu : IsPart vu none) (ps : IsPart vs (some (-1)))
    (h : Q (.ref s.heap.objs.size) { s with heap := s.heap.push { cls := .type "tuple", data := .seq items.toList.reverse.toArray } })
    (hsz : items.size ≤ sizeLine) : wpAny (model prog w) A (getItem (.ref t) (.ref sl)) Q E s := by
  have htake : sizeOk (.seq items.toList.reverse.toArray) := by
    show items.toList.reverse.toArray.size ≤ sizeLine
    rw [List.size_toArray, List.length_reverse, Array.length_toList]
    omega
  obtain ⟨os, hos, hcs, hds⟩ := id hs
  have hTs : s.TypeIs (.ref sl) "slice" := ⟨os, hos, hcs⟩
  unfold getItem
  try with_reducible refine wpAny_holding ?_
  first | refine wpAny_bind (wpAny_pure ?_) | skip
  refine wpAny_bind (wpAny_sequenceKey ht.typeIs (by decide) ?_)
  refine wpAny_bind (wpAny_callSpecial?_slot (name := Str.ofString "__getitem__") ht.typeIs PyProof.Rows.slot_tuple_getitem
    (wpAny_call_entry PyProof.Rows.slot_tuple_getitem ht.typeIs entry_tuple_getitem ?_ (args_tuple_getitem _ _)))
  show wpAny _ _ (Builtin.Tuple.tupleItemsOf (.ref t) >>= _) _ _ s
  refine wpAny_bind (tupleItemsOf_ ht ?_)
  refine wpAny_bind (wpAny_typeOf hTs ?_)
  rw [if_pos (by decide)]
  refine wpAny_bind (sliceApplied_rev hs pl pu ps ?_)
  have hno : ¬ ((((items.size : Int) - 1) == 0 && (-1 : Int) == 1 && items.size == items.size) = true) := by
    rw [show ((-1 : Int) == 1) = false from rfl, Bool.and_false, Bool.false_and]
    exact Bool.false_ne_true
  show wpAny _ _ (if (((items.size : Int) - 1) == 0 && (-1 : Int) == 1 && items.size == items.size) = true then _ else _) _ _ s
  rw [if_neg hno, pick_rev]
  first
    | exact wpAny_bind (m := Builtin.Tuple.tupleExact _) (wpAny_newObj_type (wpAny_pure ⟨_, rfl, wpAny_pure h⟩) htake)
    | exact wpAny_bind (m := Builtin.Tuple.tupleExact _) (wpAny_newObj_type (wpAny_bind (wpAny_pure (wpAny_pure ⟨_, rfl, wpAny_pure h⟩))) htake)
    | exact wpAny_bind (wpAny_bind (m := Builtin.Tuple.tupleExact _) (wpAny_newObj_type (wpAny_pure (wpAny_pure ⟨_, rfl, wpAny_pure h⟩)) htake))
    | exact wpAny_bind (wpAny_bind (m := Builtin.Tuple.tupleExact _) (wpAny_newObj_type (wpAny_pure ⟨_, rfl, wpAny_pure h⟩) htake))
end
/-! ### t[::-1] -/
section
variable {X : Cx}
def tRevT (K : PySem.W.Frag) (te : TE) : TE := fun σ H Q => te σ H fun x H1 => ∃ a xs, x = .ref a ∧ SqT K H1 a xs ∧ ∀ p, H1 p = none → Q (.ref p) (upd H1 p (.tup xs.reverse))
theorem pe_revT {e : Expr} {te : TE} {k : Nat} {p1 p2 p3 pos : Pos} (he : PE X e te) : PE X (.Subscript e (.Slice none none (some (.UnaryOp .USub (.Constant (.int 1) k p1) p2)) p3) pos) (tRevT X.K te) := by
  refine ⟨fun pins s σ H Q I h => ?_⟩
  refine Subscript_ (thn (he.run pins s σ H _ I h) fun v s1 ⟨x, H1, I1, r1, q1⟩ => ?_)
  obtain ⟨a, xs, ex, hx, q⟩ := q1
  subst ex
  cases r1
  have hst : PO X (some (.UnaryOp .USub (.Constant (.int 1) k p1) p2)) (tPart (tUn (rU fun i => .int (-i)) (tC (.int 1)))) := po_some (pe_un un_neg pe_int)
  refine wpAny_Slice (thn (po_none.run pins s1 σ H1 (fun o H2 => o = none ∧ H2 = H1) I1 ⟨rfl, rfl⟩) fun vl s2 ⟨l, H2, I2, pl, el, e2⟩ => ?_)
  subst el e2
  refine thn (po_none.run pins s2 σ H2 (fun o H3 => o = none ∧ H3 = H2) I2 ⟨rfl, rfl⟩) fun vu s3 ⟨u, H3, I3, pu, eu, e3⟩ => ?_
  subst eu e3
  refine thn (hst.run pins s3 σ H3 (fun o H4 => o = some (-1) ∧ H4 = H3) I3 ⟨1, rfl, -1, rfl, rfl, rfl⟩) fun vs s4 ⟨o, H4, I4, ps, eo, e4⟩ => ?_
  subst eo e4
  have I5 : Inv X pins σ H4 { s4 with heap := s4.heap.push { cls := .type "slice", data := .fields #[vl, vu, vs] } } := I4.kept (t' := s4.toks) fun b ob q => Heap.get?_push_of_some _ q
  obtain ⟨its, r, ht, hz⟩ := I5.tuple hx
  have hlen := r.length
  show wpAny (model X.prog X.w) X.A (subscriptTail e (.Slice none none (some (.UnaryOp .USub (.Constant (.int 1) k p1) p2)) p3) (.ref a) (.ref s4.heap.objs.size)) (EP X pins σ Q) X.xe { s4 with heap := s4.heap.push { cls := .type "slice", data := .fields #[vl, vu, vs] } }
  refine tail_any (ops := [.ref a, .ref s4.heap.objs.size]) ht.typeIs PyProof.Rows.slot_tuple_getitem.lookup ?_ (by with_unfolding_all rfl)
  refine getItem_tuple_rev ht (Heap.IsSliceOf.new _ vl vu vs) pl pu ps ?_ (by rw [List.size_toArray]; omega)
  refine ⟨.ref _, _, I5.laid (t' := s4.toks) (o := .tup xs.reverse) (fun b ob q => Heap.get?_push_of_some _ q) (Nat.le_refl _) ?_, rfl, q _ (I5.hok.fresh (Nat.le_refl _))⟩
  exact ⟨by rw [List.length_reverse]; exact hz, _, r.reverse, IsTup.new _ _⟩
end
section
variable {σ : L2.St} {D H : Hp} {L : Own} {K : PySem.W.Frag} {Q : VK}
def IsRvT (K : PySem.W.Frag) (x : V) (H1 : Hp) (Q : VK) : Prop := ∃ a xs, x = .ref a ∧ SqT K H1 a xs ∧ ∀ p, H1 p = none → Q (.ref p) (upd H1 p (.tup xs.reverse))
instance v_rvT0 {te : TE} : VC (tRevT K te σ H Q) (te σ H fun x H1 => IsRvT K x H1 Q) := ⟨fun h => h⟩
instance v_rvT1 {a : Addr} {xs : List V} [S : Sx D L H] [ha : Kn D a (.tup xs)] : VC (IsRvT K (.ref a) H Q) (∀ p D' H', Sx D' L H' → Sm D D' → Kn D' p (.tup xs.reverse) → Q (.ref p) H') := ⟨fun h => ⟨a, xs, rfl, sqT S ha.pf, fun p hp => h p _ _ (S.fix hp) ⟨same_upd (S.dH.free hp)⟩ ⟨upd_same⟩⟩⟩
end
end Fk

namespace Fk
open PySem PySem.Spec PyProof.Rows L2 PySem.Calls PyProof.V
/-! ## dict(enumerate(t)) of a tuple: the list's facts of the library turned to tuples -/
section
variable {prog : Program} {w : World} {A : Around} {E : Value → Shared → Prop} {s : Shared}
theorem enumT_next_held {e it l T : Addr} {i : Nat} {items : Array Value} {x old : Value} {f : Bool} {oT : Obj} {Q : Value → Shared → Prop}
    (he : IsEnumHeld s.heap e it i old T f) (hT : s.heap.get? T = some oT) (hTe : T ≠ e) (hTi : T ≠ it) (hit : s.heap.IsTupleIter it l i) (hl : s.heap.IsTuple l items) (hx : items[i]? = some x) (hne : e ≠ it)
    (hQ : ∀ h', IsEnumHeld h' e it ((i : Int) + 1) old T true → h'.IsTupleIter it l (i + 1) →
      h'.get? s.heap.objs.size = some { cls := .type "tuple", data := .seq #[.int i s.toks, x] } → h'.objs.size = s.heap.objs.size + 1 →
      (∀ b o, b ≠ e → b ≠ it → s.heap.get? b = some o → h'.get? b = some o) → Q (.ref s.heap.objs.size) { s with heap := h', toks := s.toks + 1 }) :
    wpAny (model prog w) A (Builtin.«enumerate.__next__» ⟨[.ref e], []⟩) (fun fin s' => ∃ v, fin = .done (.ret v) ∧ Q v s') E s := by
  obtain ⟨hp, g, d, tk, os⟩ := s
  show wpAny _ _ (field (.ref e) 2 >>= _) _ _ _
  refine wpAny_bind (wpAny_field he rfl (x := .ref it) rfl ?_)
  refine wpAny_bind (wpAny_nextOf_tuple_item hit hl hx fun h₁ hit₁ hs₁ => ?_)
  replace hs₁ : Heap.SameBut it hp h₁ := hs₁
  have he₁ : IsEnumHeld h₁ e it i old T f := (hs₁.2 e hne).trans he
  show wpAny _ _ (field (.ref e) 3 >>= _) _ _ ⟨h₁, g, d, tk, os⟩
  refine wpAny_bind (wpAny_field he₁ rfl (x := rawInt i) rfl ?_)
  show wpAny _ _ (field (.ref e) 4 >>= _) _ _ ⟨h₁, g, d, tk, os⟩
  refine wpAny_bind (wpAny_field he₁ rfl (x := .none) rfl ?_)
  show wpAny _ _ (mkInt i >>= _) _ _ ⟨h₁, g, d, tk, os⟩
  refine wpAny_bind (wpAny_mkInt ?_)
  show wpAny _ _ (setField (.ref e) 3 (rawInt ((i : Int) + 1)) >>= _) _ _ ⟨h₁, g, d, tk + 1, os⟩
  refine wpAny_bind (wpAny_setField_rec he₁ (by simp) fun h₂ he₂ hs₂ => ?_)
  replace hs₂ : Heap.SameBut e h₁ h₂ := hs₂
  replace he₂ : IsEnumHeld h₂ e it ((i : Int) + 1) old T f := he₂
  show wpAny _ _ (setField (.ref e) 4 .none >>= _) _ _ ⟨h₂, g, d, tk + 1, os⟩
  refine wpAny_bind (wpAny_setField_rec he₂ (by simp) fun h₃ he₃ hs₃ => ?_)
  replace hs₃ : Heap.SameBut e h₂ h₃ := hs₃
  replace he₃ : IsEnumHeld h₃ e it ((i : Int) + 1) old T f := he₃
  show wpAny _ _ (newTuple [.int i tk, x] >>= _) _ _ ⟨h₃, g, d, tk + 1, os⟩
  refine wpAny_bind (wpAny_newTuple ?_)
  have he₄ : IsEnumHeld (h₃.push { cls := .type "tuple", data := .seq #[.int i tk, x] }) e it ((i : Int) + 1) old T f := Heap.get?_push_of_some _ he₃
  generalize hh₄ : h₃.push { cls := .type "tuple", data := .seq #[.int i tk, x] } = h₄ at he₄
  have hsz : h₃.objs.size = hp.objs.size := by rw [hs₃.1, hs₂.1, hs₁.1]
  have hel : e < hp.objs.size := Heap.lt_size he
  have ht₄ : h₄.get? hp.objs.size = some { cls := .type "tuple", data := .seq #[.int i tk, x] } := by rw [← hh₄, ← hsz]; exact Heap.get?_push_size _ rfl
  have hz₄ : h₄.objs.size = hp.objs.size + 1 := by rw [← hh₄, Heap.size_push, hsz]
  have hk₄ : ∀ b o, b ≠ e → b ≠ it → hp.get? b = some o → h₄.get? b = some o := fun b o hbe hbi hb => by
    rw [← hh₄]; exact Heap.get?_push_of_some _ (hs₃.extBut b o hbe (hs₂.extBut b o hbe (hs₁.extBut b o hbi hb)))
  have hit₄ : h₄.IsTupleIter it l (i + 1) := by
    rw [← hh₄]; obtain ⟨o, ho, r⟩ := (hit₁.extBut hs₂.extBut (Ne.symm hne)).extBut hs₃.extBut (Ne.symm hne); exact ⟨o, Heap.get?_push_of_some _ ho, r⟩
  show wpAny _ _ (Builtin.SmallTypes.ownedTupleIsFree (.ref e) >>= _) _ _ ⟨h₄, g, d, tk + 1, os⟩
  rw [hsz]
  clear hh₄ he₃ hs₃ he₂ hs₂ he₁ hs₁ hit₁ hsz h₃ h₂ h₁
  refine wpAny_bind (wpAny_tupleHeld_enum (s := ⟨h₄, g, d, tk + 1, os⟩) he₄ (hk₄ T oT hTe hTi hT) fun h₅ he₅ hs₅ => ?_)
  replace hs₅ : Heap.SameBut e h₄ h₅ := hs₅
  simp only [Bool.false_eq_true, if_false]
  refine wpAny_pure ⟨_, rfl, hQ h₅ he₅ (hit₄.extBut hs₅.extBut (Ne.symm hne)) (hs₅.extBut _ _ (Nat.ne_of_gt hel) ht₄) ?_ fun b o hbe hbi hb => hs₅.extBut b o hbe (hk₄ b o hbe hbi hb)⟩
  show h₅.objs.size = hp.objs.size + 1
  rw [hs₅.1, hz₄]
theorem enumT_item_held {e it l T : Addr} {i : Nat} {items : Array Value} {x old : Value} {f : Bool} {oT : Obj} {Q : Option Value → Shared → Prop}
    (he : IsEnumHeld s.heap e it i old T f) (hT : s.heap.get? T = some oT) (hTe : T ≠ e) (hTi : T ≠ it) (hit : s.heap.IsTupleIter it l i) (hl : s.heap.IsTuple l items) (hx : items[i]? = some x) (hne : e ≠ it)
    (hQ : ∀ h', IsEnumHeld h' e it ((i : Int) + 1) old T true → h'.IsTupleIter it l (i + 1) →
      h'.get? s.heap.objs.size = some { cls := .type "tuple", data := .seq #[.int i s.toks, x] } → h'.objs.size = s.heap.objs.size + 1 →
      (∀ b o, b ≠ e → b ≠ it → s.heap.get? b = some o → h'.get? b = some o) → Q (some (.ref s.heap.objs.size)) { s with heap := h', toks := s.toks + 1 }) :
    wpAny (model prog w) A (pyNext (.ref e)) Q E s := by
  have hTy : s.TypeIs (.ref e) "enumerate" := ⟨_, he, rfl⟩
  unfold pyNext
  exact wpAny_bind (wpAny_attempt (wpAny_callSpecial?_slot (name := Str.ofString "__next__") hTy F.slot_enumerate_next
    (wpAny_call_entry F.slot_enumerate_next hTy F.entry_enumerate_next
      (enumT_next_held he hT hTe hTi hit hl hx hne fun h' a1 a2 a3 a4 a5 => wpAny_pure (hQ h' a1 a2 a3 a4 a5)) (F.args_enumerate_next_1 _))))
theorem enumT_end_held {e it l T : Addr} {i : Nat} {items : Array Value} {old : Value} {f : Bool} {Q : Option Value → Shared → Prop} (hh : A.handled = none)
    (he : IsEnumHeld s.heap e it i old T f) (hit : s.heap.IsTupleIter it l i) (hl : s.heap.IsTuple l items) (hx : items[i]? = none)
    (hQ : ∀ h', Heap.ExtBut it s.heap h' → Q none { s with heap := h' }) : wpAny (model prog w) A (pyNext (.ref e)) Q E s := by
  have hTy : s.TypeIs (.ref e) "enumerate" := ⟨_, he, rfl⟩
  unfold pyNext
  refine wpAny_bind (wpAny_attempt (wpAny_callSpecial?_slot (name := Str.ofString "__next__") hTy F.slot_enumerate_next
    (wpAny_call_entry F.slot_enumerate_next hTy F.entry_enumerate_next ?_ (F.args_enumerate_next_1 _))))
  show wpAny _ _ (field (.ref e) 2 >>= _) _ _ _
  refine wpAny_bind (wpAny_field he rfl (x := .ref it) rfl ?_)
  refine wpAny_bind (wpAny_nextOf_tuple_end hh hit hl hx fun h' x he' hx' => ?_)
  obtain ⟨o, ho, hc⟩ := hx'
  refine wpAny_bind (wpAny_isInstance (T := "StopIteration") (b := true) ⟨o, ho, hc⟩ isSubtype_stop ?_)
  exact wpAny_pure (hQ _ he')

theorem pairArg_enumT (e it l : Addr) (hei : e ≠ it) (hle : l ≠ e) (hli : l ≠ it) (items : Array Value) :
    PairArg prog w "enumerate" e [e, it, l] [e, it] items.size (fun i k v => (∃ t, k = .int i t) ∧ items[i]? = some v)
      (fun h => (∃ old, IsEnum h e it 0 old) ∧ h.IsTupleIter it l 0 ∧ h.IsTuple l items) where
  type := fun s ok => let ⟨⟨_, he⟩, _⟩ := ok; ⟨_, he, rfl⟩
  notDict := by decide
  keep := fun h h' ok hk => by
    obtain ⟨⟨old, he⟩, hit, hl⟩ := ok
    exact ⟨⟨old, hk _ _ he⟩, hit.at fun o x => hk _ o x, hl.at fun o x => hk _ o x⟩
  there := fun h ok b hb => by
    obtain ⟨⟨old, he⟩, ⟨o1, h1, _⟩, ⟨o2, h2, _⟩⟩ := ok
    simp only [List.mem_cons, List.not_mem_nil, or_false] at hb
    rcases hb with rfl | rfl | rfl
    all_goals first | exact ⟨_, he⟩ | exact ⟨_, h1⟩ | exact ⟨_, h2⟩
  sub := fun b hb => by simp at hb ⊢; rcases hb with rfl | rfl <;> simp
  noKeys := fun A s Q E hA ok h => let ⟨⟨_, he⟩, _⟩ := ok; getAttrOr_miss_enumerate he rfl rfl rfl enumerate_no_keys (by decide +kernel) hA h
  iter := fun A s d Q E hA ok hd hdf h => by
    obtain ⟨⟨old, he⟩, hit, hl⟩ := ok
    simp only [List.mem_cons, List.not_mem_nil, or_false, not_or] at hdf
    obtain ⟨de, dit, dl⟩ := hdf
    refine wpAny_pyIter_enum he (h e [e, it] (fun i h => h.IsTupleIter it l i ∧ h.IsTuple l items ∧ ((∃ old, IsEnum h e it i old) ∨ ∃ old T f oT, IsEnumHeld h e it i old T f ∧ h.get? T = some oT ∧ T ≠ e ∧ T ≠ it ∧ T ≠ d)) s.heap s.toks ?_
      ⟨hit, hl, .inl ⟨old, he⟩⟩ (fun _ _ e => e) fun b hb => .inl hb)
    exact {
      off := fun hm => by
        simp only [List.mem_cons, List.not_mem_nil, or_false] at hm
        rcases hm with x | x
        · exact de x
        · exact dit x
      frame := fun i h₁ h₂ st hk => by
        obtain ⟨hit, hl, he⟩ := st
        refine ⟨hit.at fun o x => hk _ o (Ne.symm dit) x, hl.at fun o x => hk _ o (Ne.symm dl) x, ?_⟩
        rcases he with ⟨old, he⟩ | ⟨old, T, f, oT, he, hT, r1, r2, r3⟩
        · exact .inl ⟨old, hk _ _ (Ne.symm de) he⟩
        · exact .inr ⟨old, T, f, oT, hk _ _ (Ne.symm de) he, hk _ _ r3 hT, r1, r2, r3⟩
      item := fun i s₁ Q₁ E₁ hi st hds hQ => by
        obtain ⟨hit, hl, he⟩ := st
        have ex := Array.getElem?_eq_getElem hi
        have ec : ((i + 1 : Nat) : Int) = (i : Int) + 1 := by omega
        have nit : s₁.heap.objs.size ≠ it := let ⟨_, x, _⟩ := hit; Nat.ne_of_gt (Heap.lt_size x)
        rcases he with ⟨old, he⟩ | ⟨old, T, f, oT, he, hT, r1, r2, r3⟩
        · refine wpAny_pyNext_enum_itemD (Draws.tuple (A := A.in1) (show A.in1.handled = none from hA) it l hli items) he ⟨hit, hl⟩ hi hei (by simp [hei, Ne.symm hle]) fun x h' tk hx ho hit' hT hsz hk => ?_
          exact hQ s₁.heap.objs.size _ _ h' (tk + 1) ⟨⟨_, rfl⟩, hx⟩ (.inl ⟨_, hT, rfl, _, rfl⟩)
            ⟨hit'.1, hit'.2, .inr ⟨_, s₁.heap.objs.size, false, _, (by rw [ec]; exact ho), hT, Nat.ne_of_gt (Heap.lt_size he), nit, Nat.ne_of_gt hds⟩⟩
            fun b o hb x => hk b o (fun y => hb (by simp [y])) (fun y => hb (by simp [y])) x
        · refine enumT_item_held he hT r1 r2 hit hl ex hei fun h' ho hit' hT' hsz hk => ?_
          exact hQ s₁.heap.objs.size _ _ h' (s₁.toks + 1) ⟨⟨_, rfl⟩, ex⟩ (.inl ⟨_, hT', rfl, _, rfl⟩)
            ⟨hit', hl.at fun o x => hk l o hle hli x, .inr ⟨old, T, true, oT, (by rw [ec]; exact ho), hk _ _ r1 r2 hT, r1, r2, r3⟩⟩
            fun b o hb x => hk b o (fun y => hb (by simp [y])) (fun y => hb (by simp [y])) x
      done := fun s₁ Q₁ E₁ st hQ => by
        obtain ⟨hit, hl, he⟩ := st
        have hx : items[items.size]? = none := Array.getElem?_eq_none (Nat.le_refl _)
        rcases he with ⟨old, he⟩ | ⟨old, T, f, oT, he, hT, r1, r2, r3⟩
        · exact enumT_end hA he hit hl hx fun h' hk => hQ h' s₁.toks fun b o hb x => hk b o (fun y => hb (by simp [y])) x
        · exact enumT_end_held hA he hit hl hx fun h' hk => hQ h' s₁.toks fun b o hb x => hk b o (fun y => hb (by simp [y])) x }
end

def DEnX (K : PySem.W.Frag) (vs : List V) (H1 : Hp) (Q : VK) : Prop := DEn K vs H1 Q ∨ ∃ a xs, vs = [.ref a] ∧ SqT K H1 a xs ∧ ∀ d, H1 d = none → Q (.ref d) (upd H1 d (.dK (enK 0 xs)))
def tDictEnX (K : PySem.W.Frag) (ta : TA) : TE := fun σ H Q => ta σ H fun vs H1 => DEnX K vs H1 Q
theorem pe_dictEnX (K : PySem.W.Frag) {X : Cx} {e : Expr} {ta : TA} {p p2 pos pos2 : Pos} (hc : X.calm = true) (hgd : Gl X "dict") (hmd : X.mg "dict" = none) (hge : Gl X "enumerate") (hme : X.mg "enumerate" = none) (ha : PA X [e] ta) (hK : X.K = K := by rfl)
    (hs1 : starEach [e] X.env = [(false, eval e X.env)] := by rfl) (hs2 : starEach [.Call (.Name "enumerate" p2) [e] [] pos2] X.env = [(false, eval (.Call (.Name "enumerate" p2) [e] [] pos2) X.env)] := by rfl) :
    PE X (.Call (.Name "dict" p) [.Call (.Name "enumerate" p2) [e] [] pos2] [] pos) (tDictEnX K ta) := by
  subst hK
  refine ⟨fun pins s σ H Q I h => ?_⟩
  refine Call_ (ld_blt I hgd hmd PyProof.Rows.boot_dict (PyProof.Rows.callWith_type1 ?_ hs2 rfl))
  rw [hs2]
  show wpAny _ _ (spliced ((false, eval (.Call (.Name "enumerate" p2) [e] [] pos2) X.env) :: [])) _ _ s
  refine Calls.spliced_cons ?_
  refine Call_ (ld_blt I hge hme boot_enumerate (PyProof.Rows.callWith_type1 (thn (ha.run pos2 pins s σ H _ I h) fun us s1 ⟨vs, H1, I1, r1, q1⟩ => ?_) hs1 rfl))
  rcases q1 with ⟨a, xs, ex, hq, q⟩ | ⟨a, xs, ex, hq, q⟩
  · subst ex
    cases r1 with
    | cons r rr =>
      cases rr
      cases r
      obtain ⟨its, rv, p', hz⟩ := I1.list hq
      have la : a < s1.heap.objs.size := p'.lt
      refine call_enumerate_list p'.isList fun h' he hit hsz hk => ?_
      refine Calls.spliced_nil ?_
      have hl' : h'.IsList a its.toArray := p'.isList.at fun o x => hk a o x
      refine PySem.call_dict_pairs (K := Key) (knd := mixKind X.prog X.w) (kvs := enKV 0 its) (PairArg.enumerate (s1.heap.objs.size + 1) s1.heap.objs.size a (Nat.succ_ne_self _) (Nat.ne_of_lt (Nat.lt_succ_of_lt la)) (Nat.ne_of_lt la) its.toArray) (I1.ok.hd hc) ⟨⟨_, he⟩, hit, hl'⟩ ⟨by rw [enKV_len]; simp, fun i key v ⟨⟨t, ek⟩, ev⟩ => ?_⟩ ?_ fun h2 tk hd' k => ?_
      · refine ⟨Sum.inl (i : Int), ?_, ?_⟩
        · have := enKV_get (j := 0) (us := its) (i := i) (u := v) (by simpa using ev)
          rw [Nat.zero_add] at this
          exact this
        · rw [ek]
          exact kV_is (P := X.prog) (w := X.w) (k := Sum.inl (i : Int)) ⟨t, rfl⟩
      · have := rv.length
        simp only [List.size_toArray]
        omega
      · have hlv := rv.length
        have hm : (h'.objs.size == sysModules) = false := beq_eq_false_iff_ne.mpr (Nat.ne_of_gt (by rw [hsz]; exact Nat.lt_succ_of_lt (Nat.lt_succ_of_lt I1.big)))
        have e0 : mergeK [] (enK 0 xs) = enK 0 xs := by rw [merge_en xs 0 [] (fun kv h => nomatch h), List.nil_append]
        have hrel : KV (enK 0 xs) (merged [] (enKV 0 its)) := by
          have := KV.merge (enKV_rel (j := 0) rv) (.nil : KV [] [])
          rw [e0] at this
          exact this
        have hlen : (enK 0 xs).length ≤ sizeLine := by rw [enK_len]; exact hz
        refine ⟨.ref h'.objs.size, upd H1 h'.objs.size (.dK (enK 0 xs)), I1.laid (t' := tk) (h' := h2) (fun b o e => k b o (fun z => ?_) (hk b o e)) (by rw [hsz]; exact Nat.le_add_right _ _) (show ObjOk X.prog X.w _ _ _ (.dK (enK 0 xs)) from ⟨hlen, hm, merged [] (enKV 0 its), hrel, hd'⟩), rfl, q _ (I1.hok.fresh (by rw [hsz]; exact Nat.le_add_right _ _))⟩
        have hb := Heap.lt_size e
        have z2 : b = s1.heap.objs.size + 1 ∨ b = s1.heap.objs.size := by simpa using z
        rcases z2 with z | z
        · rw [z] at hb; exact absurd hb (Nat.not_lt.mpr (Nat.le_succ _))
        · rw [z] at hb; exact absurd hb (Nat.lt_irrefl _)
  · subst ex
    cases r1 with
    | cons r rr =>
      cases rr
      cases r
      obtain ⟨its, rv, p', hz⟩ := I1.tuple hq
      have la : a < s1.heap.objs.size := p'.lt
      refine call_enumB (begins_tuple a its.toArray) (show s1.heap.IsTuple a its.toArray from p') fun h' he hit0 hk => ?_
      refine Calls.spliced_nil ?_
      have hsl : s1.heap.objs.size < h'.objs.size := Nat.lt_trans (Nat.lt_succ_self _) (Heap.lt_size he)
      have p2' : s1.heap.IsTuple a its.toArray := p'
      have hl' : h'.IsTuple a its.toArray := p2'.at fun o x => hk a o x
      have hit : h'.IsTupleIter s1.heap.objs.size a 0 := ⟨_, hit0, rfl, rfl⟩
      refine PySem.call_dict_pairs (K := Key) (knd := mixKind X.prog X.w) (kvs := enKV 0 its) (pairArg_enumT (s1.heap.objs.size + 1) s1.heap.objs.size a (Nat.succ_ne_self _) (Nat.ne_of_lt (Nat.lt_succ_of_lt la)) (Nat.ne_of_lt la) its.toArray) (I1.ok.hd hc) ⟨⟨_, he⟩, hit, hl'⟩ ⟨by rw [enKV_len]; simp, fun i key v ⟨⟨t, ek⟩, ev⟩ => ?_⟩ ?_ fun h2 tk hd' k => ?_
      · refine ⟨Sum.inl (i : Int), ?_, ?_⟩
        · have := enKV_get (j := 0) (us := its) (i := i) (u := v) (by simpa using ev)
          rw [Nat.zero_add] at this
          exact this
        · rw [ek]
          exact kV_is (P := X.prog) (w := X.w) (k := Sum.inl (i : Int)) ⟨t, rfl⟩
      · have := rv.length
        simp only [List.size_toArray]
        omega
      · have hlv := rv.length
        have hm : (h'.objs.size == sysModules) = false := beq_eq_false_iff_ne.mpr (Nat.ne_of_gt (Nat.lt_trans I1.big hsl))
        have e0 : mergeK [] (enK 0 xs) = enK 0 xs := by rw [merge_en xs 0 [] (fun kv h => nomatch h), List.nil_append]
        have hrel : KV (enK 0 xs) (merged [] (enKV 0 its)) := by
          have := KV.merge (enKV_rel (j := 0) rv) (.nil : KV [] [])
          rw [e0] at this
          exact this
        have hlen : (enK 0 xs).length ≤ sizeLine := by rw [enK_len]; exact hz
        refine ⟨.ref h'.objs.size, upd H1 h'.objs.size (.dK (enK 0 xs)), I1.laid (t' := tk) (h' := h2) (fun b o e => k b o (fun z => ?_) (hk b o e)) (Nat.le_of_lt hsl) (show ObjOk X.prog X.w _ _ _ (.dK (enK 0 xs)) from ⟨hlen, hm, merged [] (enKV 0 its), hrel, hd'⟩), rfl, q _ (I1.hok.fresh (Nat.le_of_lt hsl))⟩
        have hb := Heap.lt_size e
        have z2 : b = s1.heap.objs.size + 1 ∨ b = s1.heap.objs.size := by simpa using z
        rcases z2 with z | z
        · rw [z] at hb; exact absurd hb (Nat.not_lt.mpr (Nat.le_succ _))
        · rw [z] at hb; exact absurd hb (Nat.lt_irrefl _)
section
variable {σ : L2.St} {D H : Hp} {L : Own} {K : PySem.W.Frag} {Q : VK}
instance v_dictEnX0 {ta : TA} : VC (tDictEnX K ta σ H Q) (ta σ H fun vs H1 => DEnX K vs H1 Q) := ⟨fun h => h⟩
instance v_dictEnX1 {a : Addr} {xs : List V} [S : Sx D L H] [ha : Ks D a xs] : VC (DEnX K [.ref a] H Q) (∀ p H', Sx D ((p, .dK (enK 0 xs)) :: L) H' → Q (.ref p) H') := ⟨fun h => ha.pf.elim
  (fun e => .inl ⟨a, xs, rfl, (rsD (K := K) (L := L) e).sq S, fun p hp => h p _ (S.new hp)⟩)
  (fun e => .inr ⟨a, xs, rfl, sqT S e, fun p hp => h p _ (S.new hp)⟩)⟩
end
end Fk

set_option Elab.async false
set_option linter.all false
set_option maxRecDepth 100000
set_option maxHeartbeats 1000000
namespace Fk
open PySem PySem.Spec PyProof.Rows L2
local macro_rules | `(tactic| wtm_at "sz") => `(tactic| (simp only [List.length_map, List.length_cons, List.length_nil, List.length_append, List.length_replicate, List.length_take, List.length_drop, List.length_range, List.length_reverse]; omega))
local macro_rules | `(tactic| wtm_at "side") => `(tactic| first | omega | assumption | wtm_at "sz" | (simp only [List.length_cons, List.length_nil, Nat.reduceAdd, Nat.reduceLeDiff, Nat.reduceLT]; done) | exact Or.inl (by omega) | exact Or.inr (Or.inl (by omega)) | exact ⟨by decide, by decide, by decide⟩)
local macro_rules | `(tactic| wtm_at "v2") => `(tactic| first
  | refine And.intro (by wtm_at "side") ?_
  | with_reducible intro _
  | with_reducible refine if_dt (by first | assumption | omega) ?_ | with_reducible refine if_df (by first | assumption | omega) ?_
  | with_reducible refine if_ndt (by first | assumption | omega) ?_ | with_reducible refine if_ndf (by first | assumption | omega) ?_)
local macro_rules | `(tactic| wtm_at "vc") => `(tactic| repeat (first | refine VC.pf ?_ | wtm_at "v2"))
def clsBody : Stmt → List Stmt
  | .ClassDef (body := b) .. => b
  | _ => []
def topS (i : Nat) : Stmt := PySem.Challenge.pw_fewreels_k67_least_logs_told.main.body.getD i (.Pass ⟨0, 0, 0, 0⟩)
section
variable {P : Program} {w : World} {K : PySem.W.Frag} {mg : Str → Option Value} {base : Heap}
abbrev st__law_mixed : Stmt := topS 21
theorem sc__law_mixed : FnScope ["cell", "k", "prime", "part"] ["cell", "k"] (defScope st__law_mixed) := ⟨rfl, rfl, rfl, by decide +kernel, rfl, by decide +kernel, by decide +kernel⟩
def sp__law_mixed (K : PySem.W.Frag) : Sp := fun vs H Q _ => ∃ (D : Hp) (L : Own) (c k : Int), vs = [.int c, .int k] ∧ Sx D L H ∧ 0 ≤ k ∧ k ≤ 1000 ∧
  ∀ r H', Sx D L H' → 0 ≤ r → Q (.int r) H'
theorem ok__law_mixed {fA : Addr} {fd : FuncData} (F : Fun K "_law_mixed" "_law_mixed" st__law_mixed fA fd) : FnOk P w K mg base CX0 1 fA fd ["cell", "k"] (sp__law_mixed K) := by
  refine F.ok sc__law_mixed (fun vs H Q E h => ?_) (fun cdv A outer s H vs Q E hr h => ?_)
  · obtain ⟨D, L, c, k, rfl, S, k0, k1, q⟩ := h
    rfl
  · obtain ⟨D, L, c, k, rfl, S, k0, k1, q⟩ := h
    have hu : (A.deeper (envOfC "_law_mixed" (defScope st__law_mixed) s.heap.objs.size fA cdv)).units + 64 < cLine := by have := hr.un; omega
    refine ⟨_, (pss_cons (ps_set (i := 2) sc__law_mixed.nd rfl (Or.inl rfl) (pe_ix (r := rIx K) ix_seq (pe_lst (pa_cons pe_int (pa_cons pe_int (pa_cons pe_int (pa_cons pe_int (pa_cons pe_int (pa_cons pe_int (pa_cons pe_int pa_nil)))))))) (pe_op op_mod (pv 1) pe_int) (fun _ _ => rfl)))
      (pss_cons (ps_set (i := 3) sc__law_mixed.nd rfl (Or.inl rfl) (pe_op op_mod (pe_op (r := rAddX K) opAdd (pe_op (r := rAddX K) opAdd (pe_op (r := rMulU K) opMulU (pe_op op_mod (pv 0) pe_int) pe_int) (pe_op (r := rMulU K) opMulU pe_int (pv 1))) pe_int) (pv 2)))
      (pss_cons (ps_set (i := 3) sc__law_mixed.nd rfl (Or.inl rfl) (pe_op op_mod (pe_op op_pow (pv 3) pe_int) pe_int))
      (pss_one (ps_ret (pe_op opDiv (pe_op op_mod (pe_op (r := rMulU K) opMulU (pe_op (r := rAddX K) opAdd (pv 3) (pe_op (r := rMulU K) opMulU pe_int (pv 1))) pe_int) pe_int) pe_int)))))), ?_⟩
    refine st_start (σ' := [some _, some _, none, none]) rfl (fun bk ct => ?_)
    obtain ⟨pr, hp1, hp2⟩ := atI_get (ns := [2147483647, 2147483629, 2147483587, 2147483579, 2147483563, 2147483549, 2147483543]) (i := k % 7) (by omega) (by show k % 7 < 7; omega)
    have hp3 : 2147483543 ≤ pr ∧ pr ≤ 2147483647 := by
      simp only [List.mem_cons, List.not_mem_nil, or_false] at hp1
      omega
    have : AtC [V.int 2147483647, V.int 2147483629, V.int 2147483587, V.int 2147483579, V.int 2147483563, V.int 2147483549, V.int 2147483543] (k % 7) (.int pr) := ⟨hp2⟩
    wtm_at "vc"
    obtain ⟨mx, hmx⟩ : ∃ mx, mx = (c % 1000000000000000009 * 40692 + 6361 * k + 77) % pr := ⟨_, rfl⟩
    have hm0 : 0 ≤ mx := by rw [hmx]; exact Int.emod_nonneg _ (by omega)
    have hm1 : mx < pr := by rw [hmx]; exact Int.emod_lt_of_pos _ (by omega)
    rw [← hmx]
    refine ⟨⟨by decide, by decide, by omega⟩, ?_⟩
    wtm_at "vc"
    exact q _ _ Sx.gc (Int.ediv_nonneg (Int.emod_nonneg _ (by decide)) (by decide))
abbrev st__law_draws : Stmt := topS 22
theorem sc__law_draws : FnScope ["cell", "many", "base", "found", "left", "k"] ["cell", "many", "base"] (defScope st__law_draws) := ⟨rfl, rfl, rfl, by decide +kernel, rfl, by decide +kernel, by decide +kernel⟩
def sp__law_draws (K : PySem.W.Frag) : Sp := fun vs H Q _ => ∃ (D : Hp) (L : Own) (c m : Int), vs = [.int c, .int m, .int 1000000000000000] ∧ Sx D L H ∧ 0 ≤ m ∧ m ≤ 1000 ∧
  ∀ (a : Addr) (ds : List Int) (H' : Hp), Sx D ((a, .lst (ds.map V.int)) :: L) H' → ds.length = m.toNat → (∀ d, d ∈ ds → 0 ≤ d ∧ d < 1000000000000000) → Q (.ref a) H'
theorem ok__law_draws {fA : Addr} {fd : FuncData} (F : Fun K "_law_draws" "_law_draws" st__law_draws fA fd) (b_range : mg "range" = none)
    (C__law_mixed : Cl P w K mg base CX0 1 "_law_mixed" ["cell", "k"] (sp__law_mixed K)) : FnOk P w K mg base CX0 2 fA fd ["cell", "many", "base"] (sp__law_draws K) := by
  refine F.ok sc__law_draws (fun vs H Q E h => ?_) (fun cdv A outer s H vs Q E hr h => ?_)
  · obtain ⟨D, L, c, m, rfl, S, m0, m1, q⟩ := h
    rfl
  · obtain ⟨D, L, c, m, rfl, S, m0, m1, q⟩ := h
    have hu : (A.deeper (envOfC "_law_draws" (defScope st__law_draws) s.heap.objs.size fA cdv)).units + 64 < cLine := by have := hr.un; omega
    refine ⟨_, (pss_cons (ps_set (i := 3) sc__law_draws.nd rfl (Or.inl rfl) (pe_lst pa_nil))
      (pss_cons (ps_set (i := 4) sc__law_draws.nd rfl (Or.inl rfl) pe_int)
      (Evl.pss_cut (ps_if (pt_cmpR op_ge (pv 0) (pe_op op_pow pe_int pe_int) (nomark _)) (pss_one (ps_set (i := 4) sc__law_draws.nd rfl (Or.inl rfl) (pe_op op_sub (pv 0) (pe_op op_pow pe_int pe_int)))) pss_nil)
      (pss_cons (ps_for PassesOwn.never rfl (pi_range1 (by rfl) b_range (pa_cons (pv 1) pa_nil)) (pg_name (i := 5) sc__law_draws.nd rfl (Or.inl rfl))
      (pss_one (ps_if (pt_cmpR op_gt (pv 4) pe_int (nomark _)) (pss_cons (ps_expr (pe_bm PySem.F.plainAttrs_list PySem.F.slot_list_append PySem.F.type_list_append mt_append (pv 3) (pa_cons (pe_op op_mod (pv 4) (pv 2)) pa_nil)))
      (pss_one (ps_set (i := 4) sc__law_draws.nd rfl (Or.inl rfl) (pe_op opDiv (pv 4) (pv 2))))) (pss_one (ps_expr (pe_bm PySem.F.plainAttrs_list PySem.F.slot_list_append PySem.F.type_list_append mt_append (pv 3) (pa_cons (pe_op op_mod (pe_cl C__law_mixed hr (by decide) (by rfl) (pa_cons (pv 0) (pa_cons (pv 5) pa_nil))) (pv 2)) pa_nil)))))))
      (pss_one (ps_ret (pv 3))))))), ?_⟩
    refine st_start (σ' := [some _, some _, some _, none, none, none]) rfl (fun bk ct => ?_)
    have hb : ∀ i : Int, DivOk i 1000000000000000 := fun i => divW (by decide) (by decide)
    wtm_at "vc"
    rename_i b H1 S1
    refine s_cut (fun σ H => ∃ l, 0 ≤ l ∧ σ = [some (.int c), some (.int m), some (.int 1000000000000000), some (.ref b), some (.int l), none] ∧ Sx D ((b, .lst []) :: L) H) (fun nx hN => ?_) (fun σ H ⟨l, l0, es, S⟩ => ?_)
    · wtm_at "vc"
      refine if_d (fun hk => ?_) (fun hk => ?_)
      · wtm_at "vc"
        exact hN _ _ ⟨_, by omega, rfl, inferInstance⟩
      · wtm_at "vc"
        exact hN _ _ ⟨0, Int.le_refl _, rfl, inferInstance⟩
    subst es
    wtm_at "vc"
    refine for_go walk_rng (fun i σ H => ∃ (ds : List Int) (l : Int) (x : Option V), ds.length = i ∧ 0 ≤ l ∧ (∀ d, d ∈ ds → 0 ≤ d ∧ d < 1000000000000000) ∧ σ = [some (.int c), some (.int m), some (.int 1000000000000000), some (.ref b), some (.int l), x] ∧ Sx D ((b, .lst (ds.map V.int)) :: L) H)
      ⟨[], l, none, rfl, l0, (fun _ h => nomatch h), rfl, S⟩ (fun _ _ _ _ _ => trivial) (fun i v σ H2 H3 hi ⟨ds, l, x, hl, l0, hd, es, S2⟩ hy nx bk hN => ?_) (fun σ H2 ⟨ds, l, x, hl, l0, hd, es, S2⟩ => ?_)
    · obtain ⟨rfl, rfl⟩ := hy
      subst es
      have hbl := hb l
      have key : ∀ z : Int, ∀ d, d ∈ ds ++ [z % 1000000000000000] → 0 ≤ d ∧ d < 1000000000000000 := fun z d h => by
        rcases List.mem_append.mp h with h | h
        · exact hd d h
        · rw [List.mem_singleton.mp h]
          exact ⟨Int.emod_nonneg _ (by decide), Int.emod_lt_of_pos _ (by decide)⟩
      wtm_at "vc"
      refine if_d (fun hk => ?_) (fun hk => ?_)
      · wtm_at "vc"
        refine hN _ _ ⟨ds ++ [l % 1000000000000000], l / 1000000000000000, _, by rw [List.length_append, hl]; rfl, Int.ediv_nonneg l0 (by decide), key l, rfl, ?_⟩
        rw [List.map_append]
        infer_instance
      · wtm_at "vc"
        refine ⟨_, _, c, 0 + (i : Int), rfl, S2, by omega, by omega, fun r H4 S4 r0 => ?_⟩
        wtm_at "vc"
        refine hN _ _ ⟨ds ++ [r % 1000000000000000], _, _, by rw [List.length_append, hl]; rfl, l0, key r, rfl, ?_⟩
        rw [List.map_append]
        infer_instance
    · subst es
      wtm_at "vc"
      exact q b ds H2 S2 (by omega) hd
abbrev st__law_greedy : Stmt := topS 24
theorem sc__law_greedy : FnScope ["p", "lengths", "there", "row", "length", "many", "log", "reading", "together"] ["p", "lengths"] (defScope st__law_greedy) := ⟨rfl, rfl, rfl, by decide +kernel, rfl, by decide +kernel, by decide +kernel⟩
theorem psumR : ∀ {xs ys : List Int}, xs.Perm ys → xs.sum = ys.sum := by
  intro xs ys h
  induction h with
  | nil => rfl
  | cons x _ ih => rw [List.sum_cons, List.sum_cons, ih]
  | swap x y l => simp only [List.sum_cons]; omega
  | trans _ _ h1 h2 => rw [h1, h2]
theorem mul_swap {a l m b : Int} (h1 : l ≤ a) (h2 : b ≤ m) : a * b + l * m ≤ a * m + l * b := by
  have h := Int.mul_nonneg (show (0 : Int) ≤ a - l by omega) (show (0 : Int) ≤ m - b by omega)
  rw [Int.sub_mul, Int.mul_sub, Int.mul_sub] at h
  omega
def mulW (A B : List Int) : Int := (List.zipWith (fun a b => a * b) A B).sum
def prW (ps : List (Int × Int)) : Int := (ps.map fun p => p.1 * p.2).sum
theorem prW_perm {ps qs : List (Int × Int)} (h : ps.Perm qs) : prW ps = prW qs := by
  unfold prW
  exact psumR (h.map _)
theorem prW_cons (p : Int × Int) (ps : List (Int × Int)) : prW (p :: ps) = p.1 * p.2 + prW ps := by
  unfold prW
  rw [List.map_cons, List.sum_cons]
/-- the rearrangement: the greatest by the least -/
theorem rearr : ∀ (A B : List Int) (ps : List (Int × Int)) (rest : List Int), A.Pairwise (fun a b => b ≤ a) → (∀ a, a ∈ A → 0 ≤ a) → B.Pairwise (fun a b => a ≤ b) → A.Perm (ps.map Prod.fst) → B.Perm (ps.map Prod.snd ++ rest) → mulW A B ≤ prW ps
  | [], B, ps, rest, _, _, _, hA, _ => by
    have : ps = [] := by
      have := hA.length_eq
      rw [List.length_map] at this
      exact List.length_eq_zero_iff.mp this.symm
    rw [this]
    exact Int.le_refl 0
  | a :: A, [], ps, rest, _, _, _, hA, hB => by
    have h1 := hA.length_eq
    have h2 := hB.length_eq
    rw [List.length_append, List.length_map] at h2
    rw [List.length_map] at h1
    simp only [List.length_cons, List.length_nil] at h1 h2
    omega
  | a :: A, b :: B, ps, rest, sA, nA, sB, hA, hB => by
    have ha : a ∈ ps.map Prod.fst := hA.mem_iff.mp List.mem_cons_self
    obtain ⟨⟨a', m⟩, hp, e⟩ := List.mem_map.mp ha
    have e : a' = a := e
    subst e
    have hps := List.perm_cons_erase hp
    generalize ps.erase (a', m) = qs at hps
    rw [prW_perm hps, prW_cons]
    have hA2 : A.Perm (qs.map Prod.fst) := (hA.trans (hps.map _)).cons_inv
    have hB2 : (b :: B).Perm (m :: (qs.map Prod.snd ++ rest)) := hB.trans ((hps.map Prod.snd).append_right rest)
    have sA2 := List.pairwise_cons.mp sA
    have sB2 := List.pairwise_cons.mp sB
    have nA2 : ∀ a, a ∈ A → 0 ≤ a := fun x hx => nA x (List.mem_cons_of_mem _ hx)
    have na := nA a' List.mem_cons_self
    have hbm : b ≤ m := by
      rcases List.mem_cons.mp (hB2.mem_iff.mpr List.mem_cons_self) with e | e
      · omega
      · exact sB2.1 m e
    show a' * b + mulW A B ≤ a' * m + prW qs
    rcases List.mem_cons.mp (hB2.mem_iff.mp List.mem_cons_self) with e | e
    · subst e
      have := rearr A B qs rest sA2.2 nA2 sB2.2 hA2 hB2.cons_inv
      omega
    rcases List.mem_append.mp e with e | e
    · obtain ⟨⟨l, b'⟩, hq, eb⟩ := List.mem_map.mp e
      have eb : b' = b := eb
      subst eb
      have hqs := List.perm_cons_erase hq
      generalize qs.erase (l, b') = rs at hqs
      rw [prW_perm hqs, prW_cons]
      have hA3 := hA2.trans (hqs.map Prod.fst)
      have hl : l ≤ a' := sA2.1 l (hA3.mem_iff.mpr List.mem_cons_self)
      have hB3 : (b' :: B).Perm (b' :: m :: (rs.map Prod.snd ++ rest)) := (hB2.trans (((hqs.map Prod.snd).append_right rest).cons m)).trans (List.Perm.swap _ _ _)
      have := rearr A B ((l, m) :: rs) rest sA2.2 nA2 sB2.2 hA3 hB3.cons_inv
      rw [prW_cons] at this
      have h9 := mul_swap hl hbm
      show a' * b' + mulW A B ≤ a' * m + (l * b' + prW rs)
      have this : mulW A B ≤ l * m + prW rs := this
      omega
    · have hr := List.perm_cons_erase e
      generalize rest.erase b = r2 at hr
      have hB3 : (b :: B).Perm (b :: (qs.map Prod.snd ++ m :: r2)) := by
        refine (hB2.trans ((List.Perm.append_left _ hr).cons m)).trans ?_
        refine ((List.perm_middle).cons m).trans ?_
        refine (List.Perm.swap _ _ _).trans (List.Perm.cons b ?_)
        exact List.perm_middle.symm
      have := rearr A B qs (m :: r2) sA2.2 nA2 sB2.2 hA2 hB3.cons_inv
      have h9 := Int.mul_le_mul_of_nonneg_left hbm na
      omega

def kS (p M : Nat) (ds : List Nat) : Nat := (ds.map fun d => p ^ (M - d)).sum
theorem kS_cons (p M d : Nat) (ds : List Nat) : kS p M (d :: ds) = p ^ (M - d) + kS p M ds := by
  unfold kS
  rw [List.map_cons, List.sum_cons]
theorem kS_app (p M : Nat) (ds es : List Nat) : kS p M (ds ++ es) = kS p M ds + kS p M es := by
  unfold kS
  rw [List.map_append, List.sum_append]
theorem kS_perm {p M : Nat} {ds es : List Nat} (h : ds.Perm es) : kS p M ds = kS p M es := (h.map _).sum_nat
theorem kS_scale {p M L : Nat} : ∀ (ds : List Nat), (∀ d, d ∈ ds → d ≤ L) → L ≤ M → kS p M ds = p ^ (M - L) * kS p L ds
  | [], _, _ => rfl
  | d :: ds, h, hl => by
    have hd := h d List.mem_cons_self
    rw [kS_cons, kS_cons, kS_scale ds (fun x hx => h x (List.mem_cons_of_mem _ hx)) hl, Nat.mul_add, ← Nat.pow_add, show M - L + (L - d) = M - d by omega]
/-- the sum of 1 by p to these powers is 1 at most -/
def Kra (p : Nat) (ds : List Nat) : Prop := ∃ M, (∀ d, d ∈ ds → d ≤ M) ∧ kS p M ds ≤ p ^ M
theorem Kra.at {p : Nat} (hp : 1 ≤ p) {ds : List Nat} (h : Kra p ds) {L : Nat} (hL : ∀ d, d ∈ ds → d ≤ L) : kS p L ds ≤ p ^ L := by
  obtain ⟨M, h1, h2⟩ := h
  rcases Nat.le_total L M with c | c
  · rw [kS_scale ds hL c, show p ^ M = p ^ (M - L) * p ^ L by rw [← Nat.pow_add, show M - L + L = M by omega]] at h2
    exact Nat.le_of_mul_le_mul_left h2 (Nat.pow_pos (by omega))
  · rw [kS_scale ds h1 c, show p ^ L = p ^ (L - M) * p ^ M by rw [← Nat.pow_add, show L - M + M = L by omega]]
    exact Nat.mul_le_mul_left _ h2
theorem Kra.perm {p : Nat} {ds es : List Nat} (h : Kra p ds) (hp : ds.Perm es) : Kra p es := by
  obtain ⟨M, h1, h2⟩ := h
  exact ⟨M, fun d hd => h1 d (hp.mem_iff.mpr hd), by rw [← kS_perm hp]; exact h2⟩
theorem Kra.sub {p : Nat} {ds es : List Nat} (h : Kra p (ds ++ es)) : Kra p ds := by
  obtain ⟨M, h1, h2⟩ := h
  refine ⟨M, fun d hd => h1 d (List.mem_append_left _ hd), ?_⟩
  rw [kS_app] at h2
  omega
theorem pow_mod1 {p : Nat} (hp : 2 ≤ p) : ∀ k, p ^ k % (p - 1) = 1 % (p - 1)
  | 0 => rfl
  | k + 1 => by
    rw [Nat.pow_succ, Nat.mul_mod, pow_mod1 hp k, ← Nat.mul_mod]
    obtain ⟨q, rfl⟩ : ∃ q, p = q + 1 := ⟨p - 1, by omega⟩
    rw [Nat.one_mul, Nat.add_sub_cancel, Nat.add_mod_left]
theorem kS_mod {p M : Nat} (hp : 2 ≤ p) : ∀ ds : List Nat, kS p M ds % (p - 1) = ds.length % (p - 1)
  | [] => rfl
  | d :: ds => by
    rw [kS_cons, Nat.add_mod, pow_mod1 hp, kS_mod hp ds, ← Nat.add_mod, List.length_cons, Nat.add_comm]
/-- always joining the p least: what is read of rows of these lengths -/
inductive Hfm (p : Nat) : List Int → Int → Prop
  | one (w : Int) : Hfm p [w] 0
  | step {A B ws : List Int} {r : Int} : A.length = p → (A ++ B).Pairwise (· ≤ ·) → ws.Perm (A.sum :: B) → Hfm p ws r → Hfm p (A ++ B) (A.sum + r)
theorem Hfm.len {p : Nat} (hp : 2 ≤ p) {ws : List Int} {r : Int} (h : Hfm p ws r) : ws.length % (p - 1) = 1 % (p - 1) := by
  induction h with
  | one w => rfl
  | step h1 h2 h3 _ ih =>
    rw [h3.length_eq, List.length_cons] at ih
    rw [List.length_append, h1, ← ih]
    obtain ⟨q, rfl⟩ : ∃ q, p = q + 1 := ⟨p - 1, by omega⟩
    rw [Nat.add_sub_cancel, Nat.add_assoc, Nat.add_mod_left, Nat.add_comm]
def csW (ps : List (Int × Nat)) : Int := (ps.map fun x => x.1 * (x.2 : Int)).sum
theorem csW_cons (x : Int × Nat) (ps : List (Int × Nat)) : csW (x :: ps) = x.1 * (x.2 : Int) + csW ps := by
  unfold csW
  rw [List.map_cons, List.sum_cons]
theorem csW_perm {ps qs : List (Int × Nat)} (h : ps.Perm qs) : csW ps = csW qs := psumR (h.map _)
theorem csW_app (ps qs : List (Int × Nat)) : csW (ps ++ qs) = csW ps + csW qs := by
  unfold csW
  rw [List.map_append, List.sum_append]
theorem max_of : ∀ (ds : List Nat), ds ≠ [] → ∃ L, L ∈ ds ∧ ∀ d, d ∈ ds → d ≤ L
  | [], h => absurd rfl h
  | [d], _ => ⟨d, List.mem_cons_self, fun x hx => by rw [List.mem_singleton.mp hx]; exact Nat.le_refl _⟩
  | d :: e :: ds, _ => by
    obtain ⟨L, h1, h2⟩ := max_of (e :: ds) (by simp)
    rcases Nat.le_total d L with c | c
    · exact ⟨L, List.mem_cons_of_mem _ h1, fun x hx => by
        rcases List.mem_cons.mp hx with e | e
        · omega
        · exact h2 x e⟩
    · exact ⟨d, List.mem_cons_self, fun x hx => by
        rcases List.mem_cons.mp hx with e | e
        · omega
        · exact Nat.le_trans (h2 x e) c⟩
theorem kS_cnt {p L : Nat} (hL : 1 ≤ L) : ∀ ds : List Nat, (∀ d, d ∈ ds → d ≤ L) → kS p L ds % p = ds.count L % p
  | [], _ => rfl
  | d :: ds, h => by
    have ih := kS_cnt (p := p) hL ds fun x hx => h x (List.mem_cons_of_mem _ hx)
    have hd := h d List.mem_cons_self
    rw [kS_cons, Nat.add_mod, ih, ← Nat.add_mod]
    by_cases c : d = L
    · rw [c, Nat.sub_self, Nat.pow_zero, List.count_cons_self, Nat.add_comm]
    · rw [List.count_cons_of_ne c, show L - d = (L - d - 1) + 1 by omega, Nat.pow_succ, Nat.mul_comm, Nat.mul_add_mod]
theorem desc_take {L : Nat} : ∀ (D : List Nat) (c : Nat), D.Pairwise (fun a b => b ≤ a) → (∀ d, d ∈ D → d ≤ L) → c ≤ D.count L → D = List.replicate c L ++ D.drop c
  | D, 0, _, _, _ => rfl
  | [], c + 1, _, _, h => by simp at h
  | d :: D, c + 1, s, h, hc => by
    have s2 := List.pairwise_cons.mp s
    have hd : d = L := by
      by_cases e : d = L
      · exact e
      rw [List.count_cons_of_ne e] at hc
      have hm : L ∈ D := List.count_pos_iff.mp (by omega)
      have := s2.1 L hm
      have := h d List.mem_cons_self
      omega
    subst hd
    rw [List.count_cons_self] at hc
    have := desc_take D c s2.2 (fun x hx => h x (List.mem_cons_of_mem _ hx)) (by omega)
    rw [List.replicate_succ, List.drop_succ_cons, List.cons_append, ← this]
theorem zip_rep (L : Nat) : ∀ (A : List Int), csW (A.zip (List.replicate A.length L)) = A.sum * (L : Int)
  | [] => by show (0 : Int) = 0 * _; rw [Int.zero_mul]
  | a :: A => by
    rw [List.length_cons, List.replicate_succ, List.zip_cons_cons, csW_cons, zip_rep L A, List.sum_cons, Int.add_mul]
theorem sort_desc (ds : List Nat) : ∃ D : List Nat, D.Perm ds ∧ D.Pairwise (fun a b => b ≤ a) := by
  refine ⟨ds.mergeSort (fun a b => decide (b ≤ a)), List.mergeSort_perm _ _, ?_⟩
  have := List.pairwise_mergeSort (le := fun a b : Nat => decide (b ≤ a)) (fun a b c h1 h2 => by simp at *; omega) (fun a b => by simp; omega) ds
  exact this.imp fun {a b} h => by simpa using h
theorem csW_prW : ∀ ps : List (Int × Nat), csW ps = prW (ps.map fun x => ((x.2 : Int), x.1))
  | [] => rfl
  | x :: ps => by rw [csW_cons, List.map_cons, prW_cons, csW_prW ps, Int.mul_comm]
theorem csW_mulW : ∀ (ws : List Int) (D : List Nat), csW (ws.zip D) = mulW (D.map Int.ofNat) ws
  | [], D => by cases D <;> rfl
  | _ :: _, [] => rfl
  | w :: ws, d :: D => by
    have ih := csW_mulW ws D
    rw [List.zip_cons_cons, csW_cons, ih]
    show w * (d : Int) + mulW (D.map Int.ofNat) ws = (d : Int) * w + mulW (D.map Int.ofNat) ws
    rw [Int.mul_comm]
/-- no depths whose sum is 1 at most read less than always joining the least -/
theorem huff {p : Nat} (hp : 2 ≤ p) {ws : List Int} {r : Int} (h : Hfm p ws r) : (∀ w, w ∈ ws → 0 ≤ w) → ∀ ps : List (Int × Nat), (ps.map Prod.fst).Perm ws → Kra p (ps.map Prod.snd) → r ≤ csW ps := by
  induction h with
  | one w =>
    intro hw ps h1 h2
    have hw := hw w List.mem_cons_self
    have : ps.length = 1 := by have := h1.length_eq; rw [List.length_map] at this; exact this
    obtain ⟨x, rfl⟩ := List.length_eq_one_iff.mp this
    have hx : x.1 = w := by
      have : x.1 ∈ [w] := h1.mem_iff.mp List.mem_cons_self
      exact List.mem_singleton.mp this
    rw [csW_cons, hx]
    show (0 : Int) ≤ w * (x.2 : Int) + 0
    have := Int.mul_nonneg hw (Int.natCast_nonneg x.2)
    omega
  | step hA hs hws hr ih =>
    rename_i A B ws r
    intro hw
    have hlen := (Hfm.step hA hs hws hr).len hp
    have hsum : 0 ≤ A.sum := by
      have hA0 : ∀ w, w ∈ A → 0 ≤ w := fun w hw1 => hw w (List.mem_append_left _ hw1)
      clear hA hs hws hr ih hw hlen
      induction A with
      | nil => exact Int.le_refl 0
      | cons a A ih =>
        rw [List.sum_cons]
        have := ih fun w h => hA0 w (List.mem_cons_of_mem _ h)
        have := hA0 a List.mem_cons_self
        omega
    have ih2 := ih fun w hw1 => by
      rcases List.mem_cons.mp (hws.mem_iff.mp hw1) with e | e
      · rw [e]; exact hsum
      · exact hw w (List.mem_append_right _ e)
    intro ps
    generalize hN : (ps.map Prod.snd).sum = N
    induction N using Nat.strongRecOn generalizing ps with
    | _ N ihN =>
    intro h1 h2
    have hpl : ps.length = p + B.length := by have := h1.length_eq; rw [List.length_map, List.length_append, hA] at this; exact this
    have hne : ps.map Prod.snd ≠ [] := by
      intro e
      have := congrArg List.length e
      rw [List.length_map] at this
      simp at this
      rw [this] at hpl
      simp at hpl
      omega
    obtain ⟨L, hLm, hLa⟩ := max_of _ hne
    have hS := h2.at (by omega) hLa
    have hL1 : 1 ≤ L := by
      rcases Nat.eq_zero_or_pos L with c | c
      · subst c
        exfalso
        have : kS p 0 (ps.map Prod.snd) = ps.length := by
          generalize ps = qs
          induction qs with
          | nil => rfl
          | cons x qs ih => rw [List.map_cons, kS_cons, ih, Nat.zero_sub, Nat.pow_zero, List.length_cons]; omega
        rw [this, hpl, Nat.pow_zero] at hS
        omega
      · exact c
    have hmod : kS p L (ps.map Prod.snd) % (p - 1) = p ^ L % (p - 1) := by
      rw [kS_mod hp, pow_mod1 hp, List.length_map, hpl, ← hlen, List.length_append, hA]
    rcases Nat.lt_or_ge (kS p L (ps.map Prod.snd)) (p ^ L) with c | c
    · -- a deepest one may be less deep
      have hsl : kS p L (ps.map Prod.snd) + (p - 1) ≤ p ^ L := by
        obtain ⟨d, hd⟩ : ∃ d, p ^ L = kS p L (ps.map Prod.snd) + d := ⟨p ^ L - kS p L (ps.map Prod.snd), by omega⟩
        rw [hd] at hmod ⊢
        have hdm : d % (p - 1) = 0 := by
          have h3 := Nat.sub_mod_eq_zero_of_mod_eq hmod.symm
          rw [Nat.add_sub_cancel_left] at h3
          exact h3
        have : p - 1 ≤ d := Nat.le_of_dvd (by omega) (Nat.dvd_of_mod_eq_zero hdm)
        omega
      obtain ⟨⟨w, L'⟩, hx, e⟩ := List.mem_map.mp hLm
      have e : L' = L := e
      subst e
      have hps := List.perm_cons_erase hx
      generalize ps.erase (w, L') = qs at hps
      have hm := hps.map Prod.snd
      rw [List.map_cons] at hm
      have hw0 : 0 ≤ w := hw w (h1.mem_iff.mp (List.mem_map.mpr ⟨_, hx, rfl⟩))
      have hres := ihN ((((w, L' - 1) :: qs).map Prod.snd).sum) (by
        rw [← hN, hm.sum_nat, List.map_cons, List.sum_cons, List.sum_cons]
        show L' - 1 + _ < L' + _
        omega) ((w, L' - 1) :: qs) rfl ((hps.map Prod.fst).symm.trans h1) ⟨L', fun d hd => by
          rw [List.map_cons] at hd
          rcases List.mem_cons.mp hd with e | e
          · rw [e]; show L' - 1 ≤ L'; omega
          · exact hLa d (hm.mem_iff.mpr (List.mem_cons_of_mem _ e)), by
          rw [List.map_cons, kS_cons]
          show p ^ (L' - (L' - 1)) + _ ≤ _
          rw [kS_perm hm, kS_cons] at hsl
          have hsl : p ^ (L' - L') + kS p L' (qs.map Prod.snd) + (p - 1) ≤ p ^ L' := hsl
          rw [Nat.sub_self, Nat.pow_zero] at hsl
          rw [show L' - (L' - 1) = 1 by omega, Nat.pow_one]
          omega⟩
      rw [csW_perm hps, csW_cons]
      rw [csW_cons] at hres
      have h9 : w * ((L' - 1 : Nat) : Int) ≤ w * (L' : Int) := Int.mul_le_mul_of_nonneg_left (by omega) hw0
      show _ ≤ w * (L' : Int) + csW qs
      have hres : A.sum + r ≤ w * ((L' - 1 : Nat) : Int) + csW qs := hres
      omega
    · -- all full: at least p are at the greatest depth
      have hSe : kS p L (ps.map Prod.snd) = p ^ L := by omega
      have hcm : (ps.map Prod.snd).count L % p = 0 := by
        rw [← kS_cnt hL1 _ hLa, hSe, show L = (L - 1) + 1 by omega, Nat.pow_succ, Nat.mul_mod_left]
      have hcp : p ≤ (ps.map Prod.snd).count L := by
        have h3 : 1 ≤ (ps.map Prod.snd).count L := List.count_pos_iff.mpr hLm
        exact Nat.le_of_dvd (by omega) (Nat.dvd_of_mod_eq_zero hcm)
      obtain ⟨D, hD1, hD2⟩ := sort_desc (ps.map Prod.snd)
      have hDL : ∀ d, d ∈ D → d ≤ L := fun d hd => hLa d (hD1.mem_iff.mp hd)
      have hDs := desc_take D p hD2 hDL (by rw [hD1.count_eq]; exact hcp)
      have hDl : D.length = p + B.length := by rw [hD1.length_eq, List.length_map, hpl]
      have h5 : csW ((A ++ B).zip D) ≤ csW ps := by
        rw [csW_mulW, csW_prW]
        refine rearr _ _ _ [] ?_ ?_ hs ?_ ?_
        · rw [List.pairwise_map]
          exact hD2.imp fun {a b} h => Int.ofNat_le.mpr h
        · intro a ha
          obtain ⟨d, _, e⟩ := List.mem_map.mp ha
          rw [← e]
          exact Int.natCast_nonneg d
        · rw [List.map_map]
          have := hD1.map Int.ofNat
          rw [List.map_map] at this
          exact this
        · rw [List.append_nil, List.map_map]
          exact h1.symm
      generalize hE : D.drop p = E at hDs
      have hEl : E.length = B.length := by rw [← hE, List.length_drop]; omega
      have h6 : csW ((A ++ B).zip D) = A.sum * (L : Int) + csW (B.zip E) := by
        rw [hDs, List.zip_append (by rw [List.length_replicate]; exact hA), csW_app, ← hA, zip_rep]
      have h7 := ih2 ((A.sum, L - 1) :: B.zip E) (by
        rw [List.map_cons, List.map_fst_zip (by omega)]
        exact hws.symm) ⟨L, fun d hd => by
          rw [List.map_cons, List.map_snd_zip (by omega)] at hd
          rcases List.mem_cons.mp hd with e | e
          · rw [e]; show L - 1 ≤ L; omega
          · exact hDL d (by rw [hDs]; exact List.mem_append_right _ e), by
          rw [List.map_cons, List.map_snd_zip (by omega), kS_cons]
          show p ^ (L - (L - 1)) + kS p L E ≤ p ^ L
          have h8 : kS p L D = p ^ L := by rw [kS_perm hD1, hSe]
          rw [hDs, kS_app] at h8
          have h10 : kS p L (List.replicate p L) = p := by
            have : ∀ c, kS p L (List.replicate c L) = c := fun c => by
              induction c with
              | zero => rfl
              | succ c ih => rw [List.replicate_succ, kS_cons, ih, Nat.sub_self, Nat.pow_zero, Nat.add_comm]
            exact this p
          rw [h10] at h8
          rw [show L - (L - 1) = 1 by omega, Nat.pow_one]
          omega⟩
      rw [csW_cons] at h7
      have h7 : r ≤ A.sum * ((L - 1 : Nat) : Int) + csW (B.zip E) := h7
      have h11 : A.sum * (L : Int) = A.sum * ((L - 1 : Nat) : Int) + A.sum := by
        rw [show ((L : Nat) : Int) = ((L - 1 : Nat) : Int) + 1 by omega, Int.mul_add, Int.mul_one]
      omega

def srtZ (xs : List Int) : List Int := xs.mergeSort (fun a b => decide (a ≤ b))
theorem srtZ_perm (xs : List Int) : (srtZ xs).Perm xs := List.mergeSort_perm _ _
theorem srtZ_srt (xs : List Int) : (srtZ xs).Pairwise (· ≤ ·) := by
  have := List.pairwise_mergeSort (le := fun a b : Int => decide (a ≤ b)) (fun a b c h1 h2 => by simp at *; omega) (fun a b => by simp; omega) xs
  exact this.imp fun {a b} h => by simpa using h
theorem srtZ_uniq {xs ys : List Int} (h : xs.Perm ys) (hx : xs.Pairwise (· ≤ ·)) : xs = srtZ ys :=
  (h.trans (srtZ_perm ys).symm).eq_of_pairwise (fun a b _ _ h1 h2 => Int.le_antisymm h1 h2) hx (srtZ_srt ys)
def srtP (xs : List (Int × Int)) : List (Int × Int) := xs.mergeSort (fun a b => decide (a.1 < b.1 ∨ (a.1 = b.1 ∧ a.2 ≤ b.2)))
theorem srtP_perm (xs : List (Int × Int)) : (srtP xs).Perm xs := List.mergeSort_perm _ _
theorem srtP_srt (xs : List (Int × Int)) : (srtP xs).Pairwise leP := by
  have := List.pairwise_mergeSort (le := fun a b : Int × Int => decide (a.1 < b.1 ∨ (a.1 = b.1 ∧ a.2 ≤ b.2))) (fun a b c h1 h2 => by simp at *; omega) (fun a b => by simp; omega) xs
  exact this.imp fun {a b} h => by simpa [leP] using h
theorem leP_anti {a b : Int × Int} (h1 : leP a b) (h2 : leP b a) : a = b := by
  unfold leP at h1 h2
  exact Prod.ext (by omega) (by omega)
theorem srtP_uniq {xs ys : List (Int × Int)} (h : xs.Perm ys) (hx : xs.Pairwise leP) : xs = srtP ys :=
  (h.trans (srtP_perm ys).symm).eq_of_pairwise (fun a b _ _ h1 h2 => leP_anti h1 h2) hx (srtP_srt ys)
theorem srtP_len (xs : List (Int × Int)) : (srtP xs).length = xs.length := (srtP_perm xs).length_eq
/-- the least log: so many at first, then always p, of what is there in order; reading and log -/
def ljS (p : Nat) : Nat → Nat → Nat → List (Int × Int) → Int × List (List Int)
  | 0, _, _, _ => (0, [])
  | f + 1, many, fresh, th => if th.length ≤ 1 then (0, []) else
      (((th.take many).map Prod.fst).sum + (ljS p f p (fresh + 1) (srtP (th.drop many ++ [(((th.take many).map Prod.fst).sum, (fresh : Int))]))).1,
       srtZ ((th.take many).map Prod.snd) :: (ljS p f p (fresh + 1) (srtP (th.drop many ++ [(((th.take many).map Prod.fst).sum, (fresh : Int))]))).2)
def enP : Nat → List Int → List (Int × Int)
  | _, [] => []
  | j, x :: xs => (x, (j : Int)) :: enP (j + 1) xs
theorem enP_get : ∀ {xs : List Int} {j i : Nat} {x : Int}, xs[i]? = some x → (enP j xs)[i]? = some (x, ((j + i : Nat) : Int))
  | y :: ys, j, 0, x, h => by cases h; rfl
  | y :: ys, j, i + 1, x, h => by
    have h : ys[i]? = some x := h
    show (enP (j + 1) ys)[i]? = _
    rw [enP_get h, show j + 1 + i = j + (i + 1) by omega]
theorem enP_len : ∀ (xs : List Int) (j : Nat), (enP j xs).length = xs.length
  | [], _ => rfl
  | x :: xs, j => congrArg (· + 1) (enP_len xs (j + 1))
theorem enP_fst : ∀ (xs : List Int) (j : Nat), (enP j xs).map Prod.fst = xs
  | [], _ => rfl
  | x :: xs, j => congrArg (x :: ·) (enP_fst xs (j + 1))
def fmR (p s : Nat) : Nat := (s - 2) % (p - 1) + 2
/-- reading and log of the least log; of one row none is joined -/
def ljR (p : Nat) (ls : List Int) : Int × List (List Int) := ljS p ls.length (fmR p ls.length) ls.length (srtP (enP 0 ls))
theorem sum_nnR : ∀ (xs : List Int), (∀ x, x ∈ xs → 0 ≤ x) → 0 ≤ xs.sum
  | [], _ => Int.le_refl 0
  | x :: xs, h => by
    rw [List.sum_cons]
    have := sum_nnR xs fun y hy => h y (List.mem_cons_of_mem _ hy)
    have := h x List.mem_cons_self
    omega
theorem lj_hfm {p : Nat} (hp : 2 ≤ p) : ∀ (f fresh : Nat) (th : List (Int × Int)), th.length ≤ f → 1 ≤ th.length → th.length % (p - 1) = 1 % (p - 1) → th.Pairwise leP → Hfm p (th.map Prod.fst) (ljS p f p fresh th).1
  | 0, _, th, h1, h2, _, _ => by omega
  | f + 1, fresh, th, h1, h2, h3, h4 => by
    unfold ljS
    by_cases c : th.length ≤ 1
    · rw [if_pos c]
      obtain ⟨x, rfl⟩ := List.length_eq_one_iff.mp (show th.length = 1 by omega)
      exact .one _
    · rw [if_neg c]
      have hpl : p ≤ th.length := by
        rcases Nat.lt_or_ge th.length p with d | d
        · exfalso
          have h5 : (th.length - 1) % (p - 1) = 0 := by
            have := Nat.sub_mod_eq_zero_of_mod_eq h3
            exact this
          rw [Nat.mod_eq_of_lt (by omega)] at h5
          omega
        · exact d
      have e : th.map Prod.fst = (th.take p).map Prod.fst ++ (th.drop p).map Prod.fst := by rw [← List.map_append, List.take_append_drop]
      rw [e]
      refine Hfm.step (ws := (srtP (th.drop p ++ [(((th.take p).map Prod.fst).sum, (fresh : Int))])).map Prod.fst) (by rw [List.length_map, List.length_take]; omega) ?_ ?_ ?_
      · rw [← e, List.pairwise_map]
        refine h4.imp fun {a b} h => ?_
        rcases h with h | h <;> omega
      · refine ((srtP_perm _).map _).trans ?_
        rw [List.map_append]
        exact List.perm_append_comm
      · have hl : (srtP (th.drop p ++ [(((th.take p).map Prod.fst).sum, (fresh : Int))])).length = th.length - p + 1 := by
          rw [srtP_len, List.length_append, List.length_drop]
          rfl
        refine lj_hfm hp f (fresh + 1) _ (by rw [hl]; omega) (by rw [hl]; omega) ?_ (srtP_srt _)
        rw [hl]
        obtain ⟨q, rfl⟩ : ∃ q, p = q + 1 := ⟨p - 1, by omega⟩
        rw [Nat.add_sub_cancel] at h3 ⊢
        rw [← h3]
        have : th.length = q + (th.length - (q + 1) + 1) := by omega
        conv => rhs; rw [this]
        rw [Nat.add_mod_left]
/-- with noughts put to the first joining it is always p that are joined -/
theorem ljR_hfm {p : Nat} (hp : 2 ≤ p) {ls : List Int} (h1 : 1 ≤ ls.length) (hn : ∀ x, x ∈ ls → 0 ≤ x) : ∃ z ws, ws.Perm (List.replicate z 0 ++ ls) ∧ Hfm p ws (ljR p ls).1 ∧ z < p - 1 := by
  unfold ljR
  have hl : (srtP (enP 0 ls)).length = ls.length := by rw [srtP_len, enP_len]
  have hfst : ((srtP (enP 0 ls)).map Prod.fst).Perm ls := by
    have := (srtP_perm (enP 0 ls)).map Prod.fst
    rw [enP_fst] at this
    exact this
  have hsrt := srtP_srt (enP 0 ls)
  generalize srtP (enP 0 ls) = th at hl hfst hsrt
  have hn' : ∀ x, x ∈ th.map Prod.fst → 0 ≤ x := fun x hx => hn x (hfst.mem_iff.mp hx)
  by_cases c : ls.length = 1
  · obtain ⟨x, rfl⟩ := List.length_eq_one_iff.mp c
    refine ⟨0, [x], .refl _, ?_, by omega⟩
    show Hfm p [x] (ljS p 1 (fmR p 1) 1 th).1
    unfold ljS
    rw [if_pos (by rw [hl]; exact Nat.le_refl 1)]
    exact .one x
  · obtain ⟨f, hf⟩ : ∃ f, ls.length = f + 1 := ⟨ls.length - 1, by omega⟩
    rw [hf]
    have hm2 : fmR p (f + 1) ≤ p ∧ fmR p (f + 1) ≤ f + 1 ∧ 2 ≤ fmR p (f + 1) := by
      unfold fmR
      have := Nat.mod_lt (f + 1 - 2) (show 0 < p - 1 by omega)
      have := Nat.mod_le (f + 1 - 2) (p - 1)
      omega
    have hmod : (f + 1 - fmR p (f + 1) + 1) % (p - 1) = 1 % (p - 1) := by
      unfold fmR
      have h3 := Nat.div_add_mod (f + 1 - 2) (p - 1)
      have h4 : f + 1 - ((f + 1 - 2) % (p - 1) + 2) + 1 = (p - 1) * ((f + 1 - 2) / (p - 1)) + 1 := by
        have := Nat.mod_le (f + 1 - 2) (p - 1)
        omega
      rw [h4, Nat.mul_add_mod]
    generalize fmR p (f + 1) = m at hm2 hmod
    unfold ljS
    rw [if_neg (by omega)]
    refine ⟨p - m, (List.replicate (p - m) 0 ++ (th.take m).map Prod.fst) ++ (th.drop m).map Prod.fst, ?_, ?_, by omega⟩
    · rw [List.append_assoc, ← List.map_append, List.take_append_drop]
      exact List.Perm.append_left _ hfst
    · have hs : (List.replicate (p - m) (0 : Int) ++ (th.take m).map Prod.fst).sum = ((th.take m).map Prod.fst).sum := by
        rw [List.sum_append]
        have : ∀ k, (List.replicate k (0 : Int)).sum = 0 := fun k => by
          induction k with
          | zero => rfl
          | succ k ih => rw [List.replicate_succ, List.sum_cons, ih]; rfl
        rw [this, Int.zero_add]
      show Hfm p _ (((th.take m).map Prod.fst).sum + _)
      rw [← hs]
      refine Hfm.step (ws := (srtP (th.drop m ++ [((List.replicate (p - m) (0 : Int) ++ (th.take m).map Prod.fst).sum, ((f + 1 : Nat) : Int))])).map Prod.fst) (by rw [List.length_append, List.length_replicate, List.length_map, List.length_take]; omega) ?_ ?_ ?_
      · rw [List.append_assoc, ← List.map_append, List.take_append_drop]
        refine List.pairwise_append.mpr ⟨?_, ?_, ?_⟩
        · exact List.pairwise_replicate.mpr (.inr (Int.le_refl 0))
        · rw [List.pairwise_map]
          refine hsrt.imp fun {a b} h => ?_
          rcases h with h | h <;> omega
        · intro a ha b hb
          rw [List.eq_of_mem_replicate ha]
          exact hn' b hb
      · refine ((srtP_perm _).map _).trans ?_
        rw [List.map_append]
        exact List.perm_append_comm
      · rw [hs]
        have hl2 : (srtP (th.drop m ++ [(((th.take m).map Prod.fst).sum, ((f + 1 : Nat) : Int))])).length = th.length - m + 1 := by
          rw [srtP_len, List.length_append, List.length_drop]
          rfl
        exact lj_hfm hp f (f + 1 + 1) _ (by rw [hl2]; omega) (by rw [hl2]; omega) (by rw [hl2, hl, hf]; exact hmod) (srtP_srt _)
theorem mod_gap {q s S P : Nat} (hq : 1 ≤ q) (h1 : S % q = s % q) (h2 : P % q = 1 % q) (h3 : S ≤ P) {z : Nat} (hz : (z + s) % q = 1 % q) (hzq : z < q) : z ≤ P - S := by
  have e : P % q = (z + S) % q := by
    rw [h2, ← hz, Nat.add_mod, ← h1, ← Nat.add_mod]
  rcases Nat.lt_or_ge P (z + S) with c | c
  · exfalso
    have h5 := Nat.sub_mod_eq_zero_of_mod_eq e.symm
    rw [Nat.mod_eq_of_lt (by omega)] at h5
    omega
  · omega
theorem kS_rep (p M L : Nat) : ∀ z, kS p M (List.replicate z L) = z * p ^ (M - L)
  | 0 => by rw [Nat.zero_mul]; rfl
  | z + 1 => by rw [List.replicate_succ, kS_cons, kS_rep p M L z, Nat.succ_mul, Nat.add_comm]
theorem zipW_cs : ∀ (ls : List Int) (ds : List Nat), csW (ls.zip ds) = (List.zipWith (fun l (d : Nat) => l * (d : Int)) ls ds).sum
  | [], ds => by cases ds <;> rfl
  | _ :: _, [] => rfl
  | l :: ls, d :: ds => by
    rw [List.zip_cons_cons, csW_cons, zipW_cs ls ds, List.zipWith_cons_cons, List.sum_cons]
/-- the least log reads no more than whatever numbers whose sum is 1 at most -/
theorem ljR_least {p : Nat} (hp : 2 ≤ p) {ls : List Int} (h1 : 1 ≤ ls.length) (hn : ∀ x, x ∈ ls → 0 ≤ x) {ps : List (Int × Nat)} (hps : (ps.map Prod.fst).Perm ls) (hk : Kra p (ps.map Prod.snd)) : (ljR p ls).1 ≤ csW ps := by
  obtain ⟨z, ws, hw, hh, hz⟩ := ljR_hfm hp h1 hn
  have hlen := hh.len hp
  rw [hw.length_eq, List.length_append, List.length_replicate] at hlen
  have hpl : ps.length = ls.length := by have := hps.length_eq; rw [List.length_map] at this; exact this
  have hne : ps.map Prod.snd ≠ [] := by
    intro e
    have := congrArg List.length e
    rw [List.length_map] at this
    simp at this
    rw [this] at hpl
    simp at hpl
    omega
  obtain ⟨L, hLm, hLa⟩ := max_of _ hne
  have hkS := hk.at (by omega) hLa
  have hgap := mod_gap (q := p - 1) (by omega) (kS_mod hp (M := L) (ps.map Prod.snd)) (pow_mod1 hp L) hkS (z := z) (by rw [List.length_map, hpl]; exact hlen) hz
  have hws : ∀ w, w ∈ ws → 0 ≤ w := fun w h => by
    rcases List.mem_append.mp (hw.mem_iff.mp h) with e | e
    · rw [List.eq_of_mem_replicate e]; exact Int.le_refl 0
    · exact hn w e
  have h9 := huff hp hh hws (List.replicate z ((0 : Int), L) ++ ps) (by
    rw [List.map_append, List.map_replicate]
    exact (List.Perm.append_left _ hps).trans hw.symm) ⟨L, fun d hd => by
      rw [List.map_append, List.map_replicate] at hd
      rcases List.mem_append.mp hd with e | e
      · rw [List.eq_of_mem_replicate e]; exact Nat.le_refl L
      · exact hLa d e, by
      rw [List.map_append, List.map_replicate, kS_app, kS_rep, Nat.sub_self, Nat.pow_zero, Nat.mul_one]
      omega⟩
  rw [csW_app] at h9
  have h0 : ∀ k, csW (List.replicate k ((0 : Int), L)) = 0 := fun k => by
    induction k with
    | zero => rfl
    | succ k ih => rw [List.replicate_succ, csW_cons, ih, Int.zero_mul]; rfl
  rw [h0, Int.zero_add] at h9
  exact h9
theorem ljR_eq {p : Nat} {ls : List Int} {m : Nat} (h1 : 1 ≤ ls.length) (h : 2 ≤ ls.length → m = fmR p ls.length) : ljS p ls.length m ls.length (srtP (enP 0 ls)) = ljR p ls := by
  unfold ljR
  by_cases c : 2 ≤ ls.length
  · rw [h c]
  · have e : ls.length = 1 := by omega
    have e2 : (srtP (enP 0 ls)).length ≤ 1 := by rw [srtP_len, enP_len]; omega
    rw [e]
    unfold ljS
    rw [if_pos e2, if_pos e2]
theorem ljS_end {p f m fr : Nat} {th : List (Int × Int)} (h : th.length ≤ 1) : ljS p f m fr th = (0, []) := by
  cases f with
  | zero => rfl
  | succ f => unfold ljS; rw [if_pos h]

def sp__law_greedy (K : PySem.W.Frag) : Sp := fun vs H Q _ => ∃ (D : Hp) (L : Own) (a : Addr) (p : Int) (ls : List Int), vs = [.int p, .ref a] ∧ 2 ≤ p ∧ p ≤ 7 ∧ Sx D L H ∧ Ks D a (ls.map V.int) ∧ 1 ≤ ls.length ∧ ls.length ≤ 4000 ∧
  ∀ (t lg : Addr) (js : List V) D' H', Sx D' ((lg, .lst js) :: L) H' → Sm D D' → Kn D' t (.tup [.int (ljR p.toNat ls).1, .ref lg]) → RpAll D' js ((ljR p.toNat ls).2.map tI) → Q (.ref t) H'
theorem ok__law_greedy {fA : Addr} {fd : FuncData} (F : Fun K "_law_greedy" "_law_greedy" st__law_greedy fA fd) (b_enumerate : mg "enumerate" = none) (b_len : mg "len" = none) (b_sorted : mg "sorted" = none) (b_sum : mg "sum" = none) (b_tuple : mg "tuple" = none) : FnOk P w K mg base CX0 1 fA fd ["p", "lengths"] (sp__law_greedy K) := by
  refine F.ok sc__law_greedy (fun vs H Q E h => ?_) (fun cdv A outer s H vs Q E hr h => ?_)
  · obtain ⟨D, L, a, p, ls, rfl, h2, h7, S, ha, hl1, hl4, q⟩ := h
    rfl
  · obtain ⟨D, L, a, p, ls, rfl, h2, h7, S, ha, hl1, hl4, q⟩ := h
    have hu : (A.deeper (envOfC "_law_greedy" (defScope st__law_greedy) s.heap.objs.size fA cdv)).units + 64 < cLine := by have := hr.un; omega
    refine ⟨_, (pss_cons (ps_setLc (i := 2) (own := [("row", 3), ("length", 4)]) (tt := tYes) rfl sc__law_greedy.nd rfl rfl (sw_true rfl rfl rfl (by decide +kernel)) (pi_enX K (by rfl) b_enumerate (pa_cons (pv 1) pa_nil)) (blkOk_by (N := ["p", "lengths", "there", "row", "length", "many", "log", "reading", "together"]) (sc := defScope st__law_greedy) (by decide +kernel)) (fun _ _ _ _ _ => (pg_tupK K 2 rfl (pgs_cons (pg_name (i := 3) sc__law_greedy.nd rfl (Or.inl rfl)) (pgs_cons (pg_name (i := 4) sc__law_greedy.nd rfl (Or.inl rfl)) pgs_nil)))) (fun _ _ _ _ _ => pts_nil) (fun _ _ _ _ _ => (pe_tup (pa_cons (pv 4) (pa_cons (pv 3) pa_nil)))))
      (pss_cons (ps_set (i := 5) sc__law_greedy.nd rfl (Or.inl rfl) (pe_op (r := rAddX K) opAdd (pe_op op_mod (pe_op op_sub (pe_callB (r := rLen K) call_lenN (by rfl) b_len bb_len (pa_cons (pv 2) pa_nil)) pe_int) (pe_op op_sub (pv 0) pe_int)) pe_int))
      (pss_cons (ps_set (i := 6) sc__law_greedy.nd rfl (Or.inl rfl) (pe_lst pa_nil))
      (pss_cons (ps_set (i := 7) sc__law_greedy.nd rfl (Or.inl rfl) pe_int)
      (pss_cons (ps_while PassesOwn.never (pt_cmpR op_gt (pe_callB (r := rLen K) call_lenN (by rfl) b_len bb_len (pa_cons (pv 2) pa_nil)) pe_int (nomark _))
      (pss_cons (ps_set (i := 2) sc__law_greedy.nd rfl (Or.inl rfl) (pe_callB (r := rSortedPO K) cr_sortedPO (by rfl) b_sorted bb_sorted (pa_cons (pv 2) pa_nil)))
      (pss_cons (ps_set (i := 8) sc__law_greedy.nd rfl (Or.inl rfl) (pe_callB (r := rSumX K) (cr_sumX rfl) (by rfl) b_sum bb_sum (pa_cons (pe_lc (own := [("length", 4), ("row", 3)]) (tt := tYes) rfl sc__law_greedy.nd (pi_seqK K (pe_slice (r := rSlX K) slX (pv 2) po_none (po_some (pv 5)))) (blkOk_by (N := ["p", "lengths", "there", "row", "length", "many", "log", "reading", "together"]) (sc := defScope st__law_greedy) (by decide +kernel)) (fun _ _ _ _ _ => (pg_tupK K 2 rfl (pgs_cons (pg_name (i := 4) sc__law_greedy.nd rfl (Or.inl rfl)) (pgs_cons (pg_name (i := 3) sc__law_greedy.nd rfl (Or.inl rfl)) pgs_nil)))) (fun _ _ _ _ _ => pts_nil) (fun _ _ _ _ _ => (pv 4))) pa_nil)))
      (pss_cons (ps_expr (pe_bm PySem.F.plainAttrs_list PySem.F.slot_list_append PySem.F.type_list_append mt_append (pv 6) (pa_cons (pe_callTy (r := rTupOf K) call_tupN (by rfl) b_tuple bb_tuple (pa_cons (pe_callB (r := rSortedW K) cr_sortedW (by rfl) b_sorted bb_sorted (pa_cons (pe_lc (own := [("length", 4), ("row", 3)]) (tt := tYes) rfl sc__law_greedy.nd (pi_seqK K (pe_slice (r := rSlX K) slX (pv 2) po_none (po_some (pv 5)))) (blkOk_by (N := ["p", "lengths", "there", "row", "length", "many", "log", "reading", "together"]) (sc := defScope st__law_greedy) (by decide +kernel)) (fun _ _ _ _ _ => (pg_tupK K 2 rfl (pgs_cons (pg_name (i := 4) sc__law_greedy.nd rfl (Or.inl rfl)) (pgs_cons (pg_name (i := 3) sc__law_greedy.nd rfl (Or.inl rfl)) pgs_nil)))) (fun _ _ _ _ _ => pts_nil) (fun _ _ _ _ _ => (pv 3))) pa_nil)) pa_nil)) pa_nil)))
      (pss_cons (ps_set (i := 7) sc__law_greedy.nd rfl (Or.inl rfl) (pe_op (r := rAddX K) opAdd (pv 7) (pv 8)))
      (pss_cons (ps_set (i := 2) sc__law_greedy.nd rfl (Or.inl rfl) (pe_op (r := rAddX K) opAdd (pe_slice (r := rSlX K) slX (pv 2) (po_some (pv 5)) po_none) (pe_lst (pa_cons (pe_tup (pa_cons (pv 8) (pa_cons (pe_op op_sub (pe_op (r := rAddX K) opAdd (pe_callB (r := rLen K) call_lenN (by rfl) b_len bb_len (pa_cons (pv 1) pa_nil)) (pe_callB (r := rLen K) call_lenN (by rfl) b_len bb_len (pa_cons (pv 6) pa_nil))) pe_int) pa_nil))) pa_nil))))
      (pss_one (ps_set (i := 5) sc__law_greedy.nd rfl (Or.inl rfl) (pv 0)))))))))
      (pss_one (ps_ret (pe_tup (pa_cons (pv 7) (pa_cons (pv 6) pa_nil)))))))))), ?_⟩
    refine st_start (σ' := [some _, some _, none, none, none, none, none, none, none]) rfl (fun bk ct => ?_)
    wtm_at "vc"
    rename_i J1 G1 w1 hG1
    refine lc_go w1 (by rw [List.length_map]; omega) (fun i acc D' => RpAll D' acc (((enP 0 ls).take i).map pI)) .nil (fun D' p acc H' e' S' => hG1 _ _ _ S' e') (fun i v q2 acc D5 H5 H6 hi e5 S5 hR hy Ad Sk hA hS => ?_) (fun lf D5 acc H5 e5 S5 hR => ?_)
    · obtain ⟨T, y1, z, D8, rfl, h1, hv, e8, hT, S8⟩ := pair_step hy
      cases h1
      obtain ⟨x, hx, rfl⟩ := getI hv
      wtm_at "vc"
      rename_i t9 D9 H9 S9 e9 k9
      refine hA _ D9 _ up S9 ?_
      have hg := enP_get (j := 0) hx
      rw [List.take_add_one, hg, List.map_append]
      refine RpAll.app (hR.up (up : Sm D5 D9).e) (.cons (.tupI (ns := [x, ((0 + i : Nat) : Int)]) ?_) .nil)
      rw [Nat.zero_add]
      exact k9.pf
    rw [List.length_map, List.take_of_length_le (by rw [enP_len]; exact Nat.le_refl _)] at hR
    have hal : acc.length = ls.length := by have := hR.length; rw [List.length_map, enP_len] at this; exact this
    wtm_at "vc"
    rename_i lg H6 S6
    rw [hal]
    obtain ⟨m0, hm1⟩ : ∃ m : Nat, ((ls.length : Int) - 2) % (p - 1) + 2 = (m : Int) := ⟨(((ls.length : Int) - 2) % (p - 1) + 2).toNat, by have := Int.emod_nonneg ((ls.length : Int) - 2) (show p - 1 ≠ 0 by omega); omega⟩
    have hm2 : 2 ≤ m0 ∧ (m0 : Int) ≤ p := by
      have h1 := Int.emod_nonneg ((ls.length : Int) - 2) (show p - 1 ≠ 0 by omega)
      have h2 := Int.emod_lt_of_pos ((ls.length : Int) - 2) (show 0 < p - 1 by omega)
      omega
    have hme : 2 ≤ ls.length → m0 = fmR p.toNat ls.length := fun g => by
      have : (m0 : Int) = (fmR p.toNat ls.length : Nat) := by
        rw [← hm1]
        unfold fmR
        rw [show (ls.length : Int) - 2 = ((ls.length - 2 : Nat) : Int) by omega, show p - 1 = ((p.toNat - 1 : Nat) : Int) by omega]
        rfl
      omega
    rw [hm1]
    have hle := ljR_eq (p := p.toNat) (m := m0) hl1 hme
    have S7 : Sx D5 ((lf, .lst acc) :: (lg, .lst []) :: L) H6 := Sx.front (a := lf) (S := S6)
    refine while_go (fun mm σ H => ∃ (D3 : Hp) (th : Addr) (ys js : List V) (P : List (Int × Int)) (m : Nat) (r0 : Int) (lg0 : List (List Int)) (x8 : Option V), σ = [some (.int p), some (.ref a), some (.ref th), none, none, some (.int (m : Int)), some (.ref lg), some (.int r0), x8] ∧ Sm D5 D3 ∧ Sx D3 ((th, .lst ys) :: (lg, .lst js) :: L) H ∧ RpAll D3 ys (P.map pI) ∧ RpAll D3 js (lg0.map tI) ∧ P.length ≤ mm ∧ mm ≤ 4000 ∧ 2 ≤ m ∧ (m : Int) ≤ p ∧ r0 + (ljS p.toNat mm m (ls.length + js.length) (srtP P)).1 = (ljR p.toNat ls).1 ∧ lg0 ++ (ljS p.toNat mm m (ls.length + js.length) (srtP P)).2 = (ljR p.toNat ls).2 ∧ js.length ≤ 4000 - mm) ls.length
      ⟨D5, lf, acc, [], enP 0 ls, m0, 0, [], _, rfl, Sm.rfl', S7, hR, .nil, by rw [enP_len]; exact Nat.le_refl _, by omega, hm2.1, hm2.2, by show 0 + (ljS p.toNat ls.length m0 ls.length (srtP (enP 0 ls))).1 = _; rw [hle]; omega, by show [] ++ (ljS p.toNat ls.length m0 ls.length (srtP (enP 0 ls))).2 = _; rw [hle]; rfl, by simp⟩ (fun mm σ H8 ⟨D3, th, ys, js, P, m, r0, lg0, x8, es, e3, S3, hT, hJ, hPl, hmm, hm2, hmp, hr, hl, hjl⟩ => ?_)
    have hyP : ys.length = P.length := by have := RpAll.length hT; rw [List.length_map] at this; exact this
    subst es
    wtm_at "vc"
    refine if_d (fun c => ?_) (fun c => ?_)
    rotate_left
    · rw [ljS_end (by rw [srtP_len]; omega)] at hr hl
      wtm_at "vc"
      rename_i t D9 H9 S9 e9 k9
      have hr : r0 = (ljR p.toNat ls).1 := by simpa using hr
      have hl : lg0 = (ljR p.toNat ls).2 := by simpa using hl
      rw [← hr, ← hl] at q
      have S10 := Sx.front (a := lg) (S := S9)
      exact q t lg js D9 _ (Sx.gc (S := S10)) up k9 (hJ.up e9.e)
    refine wh_body fun N hN => ?_
    wtm_at "vc"
    refine c_sortPO S3 rs0 hT fun ys2 P2 th2 H9 hp2 hs2 hT2 S9 => ?_
    obtain rfl := srtP_uniq hp2 hs2
    have hyl2 : ys2.length = P.length := by have := RpAll.length hT2; rw [List.length_map, srtP_len] at this; exact this
    have hcu : CuC ys2 none (some (m : Int)) (ys2.take m) := ⟨cut_to _ m⟩
    have hcu2 : CuC ys2 (some (m : Int)) none (ys2.drop m) := ⟨cut_from _ m⟩
    have htl : (ys2.take m).length = ((srtP P).take m).length := by rw [List.length_take, List.length_take, hyl2, srtP_len]
    have hat : ∀ (i : Nat) (v : V), (ys2.take m)[i]? = some v → ys2[i]? = some v ∧ i < m := fun i v h => by
      rw [List.getElem?_take] at h
      by_cases c2 : i < m
      · rw [if_pos c2] at h
        exact ⟨h, c2⟩
      · rw [if_neg c2] at h
        cases h
    wtm_at "vc"
    rename_i pa Ha Sa
    obtain ⟨Da, ea, ka, Sa⟩ := Sx.fix1 (a := pa) (S := Sa)
    refine lc_vals (S := Sa) (walk_list (xs := ys2.take m)) (by rw [List.length_take]; omega) ((((srtP P).take m).map Prod.fst).map V.int) (by rw [List.length_map, List.length_map, htl]) (fun p acc H' S' => Rds.sq S' (rsD ka.pf)) (fun i v q2 acc H2 H3 hi S2 hy Ad hA => ?_) (fun la Ha2 Sa2 => ?_)
    · obtain ⟨rfl, hv⟩ := hy
      obtain ⟨hv, him⟩ := hat _ _ hv
      obtain ⟨g, w, rfl, hw, kg⟩ := ra_getP (hT2.up (up : Sm D3 Da).e) hv
      wtm_at "vc"
      exact hA _ _ S2 (by rw [List.getElem?_map, List.getElem?_map, List.getElem?_take, if_pos him, hw]; rfl)
    wtm_at "vc"
    rename_i pb Hb Sb
    obtain ⟨Db, eb, kb, Sb⟩ := Sx.fix1 (a := pb) (S := Sb)
    refine lc_vals (S := Sb) (walk_list (xs := ys2.take m)) (by rw [List.length_take]; omega) ((((srtP P).take m).map Prod.snd).map V.int) (by rw [List.length_map, List.length_map, htl]) (fun p acc H' S' => Rds.sq S' (rsD kb.pf)) (fun i v q2 acc H2 H3 hi S2 hy Ad hA => ?_) (fun lb Hb2 Sb2 => ?_)
    · obtain ⟨rfl, hv⟩ := hy
      obtain ⟨hv, him⟩ := hat _ _ hv
      obtain ⟨g, w, rfl, hw, kg⟩ := ra_getP (hT2.up (up : Sm D3 Db).e) hv
      wtm_at "vc"
      exact hA _ _ S2 (by rw [List.getElem?_map, List.getElem?_map, List.getElem?_take, if_pos him, hw]; rfl)
    wtm_at "vc"
    rename_i nz hpn hsn pS HS SS tj D5' H14 S14 e14 k14 H15 S15 pd Hd Sd tq D6 H17 S17 e17 k17 pl Hl Sl pc Hc Sc
    obtain rfl := srtZ_uniq hpn hsn
    have hjsl : (js ++ [V.ref tj]).length = js.length + 1 := by rw [List.length_append]; rfl
    have hfr : (ls.length : Int) + ((js ++ [V.ref tj]).length : Int) - 1 = ((ls.length + js.length : Nat) : Int) := by rw [hjsl]; omega
    rw [hfr] at k17
    obtain ⟨f, rfl⟩ : ∃ f, mm = f + 1 := ⟨mm - 1, by omega⟩
    have hu : ljS p.toNat (f + 1) m (ls.length + js.length) (srtP P) = ((((srtP P).take m).map Prod.fst).sum + (ljS p.toNat f p.toNat (ls.length + js.length + 1) (srtP ((srtP P).drop m ++ [((((srtP P).take m).map Prod.fst).sum, ((ls.length + js.length : Nat) : Int))]))).1, srtZ (((srtP P).take m).map Prod.snd) :: (ljS p.toNat f p.toNat (ls.length + js.length + 1) (srtP ((srtP P).drop m ++ [((((srtP P).take m).map Prod.fst).sum, ((ls.length + js.length : Nat) : Int))]))).2) := by
      show (if (srtP P).length ≤ 1 then _ else _) = _
      rw [if_neg (by rw [srtP_len]; omega)]
    rw [hu] at hr hl
    have S22 : Sx D6 ((pc, .lst (ys2.drop m ++ [V.ref tq])) :: (lg, .lst (js ++ [V.ref tj])) :: L) Hc := by
      have S21 := Sx.front (a := lg) (S := Sc)
      have S23 := Sx.front (a := pc) (S := S21)
      exact Sx.gc (S := S23)
    refine hN f _ _ (by omega) ⟨D6, pc, _, js ++ [.ref tj], (srtP P).drop m ++ [((((srtP P).take m).map Prod.fst).sum, ((ls.length + js.length : Nat) : Int))], p.toNat, _, lg0 ++ [srtZ (((srtP P).take m).map Prod.snd)], _, by rw [Int.toNat_of_nonneg (by omega)], up, S22, ?_, ?_, ?_, by omega, by omega, by omega, ?_, ?_, ?_⟩
    · rw [List.map_append, List.map_drop]
      exact RpAll.app (ra_drop m (hT2.up (up : Sm D3 D6).e)) (.cons (.tupI (ns := [(((srtP P).take m).map Prod.fst).sum, ((ls.length + js.length : Nat) : Int)]) k17.pf) .nil)
    · rw [List.map_append]
      exact RpAll.app (hJ.up (up : Sm D3 D6).e) (.cons (.tupI ((up : Sm D5' D6).e _ _ k14.pf)) .nil)
    · rw [List.length_append, List.length_drop, srtP_len]
      simp only [List.length_cons, List.length_nil]
      omega
    · rw [hjsl, ← hr, Int.add_assoc]
      rfl
    · rw [hjsl, ← hl, List.append_assoc]
      rfl
    · rw [hjsl]
      omega
abbrev st__law_whole : Stmt := topS 26
theorem sc__law_whole : FnScope ["thing"] ["thing"] (defScope st__law_whole) := ⟨rfl, rfl, rfl, by decide +kernel, rfl, by decide +kernel, by decide +kernel⟩
def sp__law_whole (K : PySem.W.Frag) : Sp := fun vs H Q _ => ∃ n, vs = [.int n] ∧ Q (.bl true) H
theorem ok__law_whole {fA : Addr} {fd : FuncData} (F : Fun K "_law_whole" "_law_whole" st__law_whole fA fd) (b_bool : mg "bool" = none) (b_int : mg "int" = none) (b_isinstance : mg "isinstance" = none) : FnOk P w K mg base CX0 1 fA fd ["thing"] (sp__law_whole K) := by
  refine F.ok sc__law_whole (fun vs H Q E h => ?_) (fun cdv A outer s H vs Q E hr h => ?_)
  · obtain ⟨n, rfl, q⟩ := h
    rfl
  · obtain ⟨n, rfl, q⟩ := h
    have hu : (A.deeper (envOfC "_law_whole" (defScope st__law_whole) s.heap.objs.size fA cdv)).units + 64 < cLine := by have := hr.un; omega
    refine ⟨_, (pss_one (ps_ret (pe_and (pe_callB (r := rIsiX K) call_isiX (by rfl) b_isinstance bb_isinstance (pa_cons (pv 0) (pa_cons (pe_bltn (v := .ty "int") (u := .type "int") (by rfl) b_int bb_int rfl) pa_nil))) (pe_one (pe_notK K (pe_callB (r := rIsiX K) call_isiX (by rfl) b_isinstance bb_isinstance (pa_cons (pv 0) (pa_cons (pe_bltn (v := .ty "bool") (u := .type "bool") (by rfl) b_bool bb_bool rfl) pa_nil)))))))), ?_⟩
    refine st_start (σ' := [some _]) rfl (fun bk ct => ?_)
    wtm_at "vc"
    exact q
abbrev st__law_kinds : Stmt := topS 27
theorem sc__law_kinds : FnScope ["told", "joining", "number"] ["told"] (defScope st__law_kinds) := ⟨rfl, rfl, rfl, by decide +kernel, rfl, by decide +kernel, by decide +kernel⟩
def ups (i : Nat) : List Int := (List.range i).map fun (k : Nat) => (k : Int)
theorem ups_succ (i : Nat) : ups (i + 1) = ups i ++ [(i : Int)] := by
  unfold ups
  rw [List.range_succ, List.map_append]
  rfl
theorem ups_len (i : Nat) : (ups i).length = i := by
  unfold ups
  rw [List.length_map, List.length_range]
theorem ups_get {i k : Nat} (h : k < i) : (ups i)[k]? = some (k : Int) := by
  unfold ups
  rw [List.getElem?_map, List.getElem?_range h]
  rfl

def sp__law_kinds (K : PySem.W.Frag) : Sp := fun vs H Q _ => ∃ (D : Hp) (L : Own) (t lg : Addr) (r : Int) (us : List V) (js : List (List Int)), vs = [.ref t] ∧ Sx D ((lg, .lst us) :: L) H ∧ Kn D t (.tup [.int r, .ref lg]) ∧ RpAll D us (js.map tI) ∧ js.length ≤ 1000 ∧ (∀ j, j ∈ js → j.length ≤ 100) ∧
  ∀ D' H', Sx D' ((lg, .lst us) :: L) H' → Sm D D' → Q (.bl true) H'
theorem ok__law_kinds {fA : Addr} {fd : FuncData} (F : Fun K "_law_kinds" "_law_kinds" st__law_kinds fA fd) (b_all : mg "all" = none) (b_isinstance : mg "isinstance" = none) (b_len : mg "len" = none) (b_list : mg "list" = none) (b_tuple : mg "tuple" = none)
    (C__law_whole : Cl P w K mg base CX0 1 "_law_whole" ["thing"] (sp__law_whole K)) : FnOk P w K mg base CX0 2 fA fd ["told"] (sp__law_kinds K) := by
  refine F.ok sc__law_kinds (fun vs H Q E h => ?_) (fun cdv A outer s H vs Q E hr h => ?_)
  · obtain ⟨D, L, t, lg, r, us, js, rfl, S, kt, hU, hj, hjl, q⟩ := h
    rfl
  · obtain ⟨D, L, t, lg, r, us, js, rfl, S, kt, hU, hj, hjl, q⟩ := h
    have hu : (A.deeper (envOfC "_law_kinds" (defScope st__law_kinds) s.heap.objs.size fA cdv)).units + 64 < cLine := by have := hr.un; omega
    refine ⟨_, (pss_cons (ps_if (PW.pt (pw_or (pt_not (pt_val (pe_callB (r := rIsiX K) call_isiX (by rfl) b_isinstance bb_isinstance (pa_cons (pv 0) (pa_cons (pe_bltn (v := .ty "tuple") (u := .type "tuple") (by rfl) b_tuple bb_tuple rfl) pa_nil))))) (pw_or (pt_cmpR (r := rNeX K) (opNe hu) (pe_callB (r := rLen K) call_lenN (by rfl) b_len bb_len (pa_cons (pv 0) pa_nil)) pe_int (nomark _)) (pw_or (pt_not (pt_val (pe_cl C__law_whole hr (by decide) (by rfl) (pa_cons (pe_ix (r := rIx K) ix_seq (pv 0) pe_int (fun _ _ => rfl)) pa_nil)))) (pw_or1 (pt_not (pt_val (pe_callB (r := rIsiX K) call_isiX (by rfl) b_isinstance bb_isinstance (pa_cons (pe_ix (r := rIx K) ix_seq (pv 0) pe_int (fun _ _ => rfl)) (pa_cons (pe_bltn (v := .ty "list") (u := .type "list") (by rfl) b_list bb_list rfl) pa_nil)))))))))) (pss_one (ps_ret pe_bl)) pss_nil)
      (pss_cons (ps_for PassesOwn.never rfl (pi_seqK K (pe_ix (r := rIx K) ix_seq (pv 0) pe_int (fun _ _ => rfl))) (pg_name (i := 1) sc__law_kinds.nd rfl (Or.inl rfl))
      (pss_one (ps_if (PW.pt (pw_or (pt_not (pt_val (pe_callB (r := rIsiX K) call_isiX (by rfl) b_isinstance bb_isinstance (pa_cons (pv 1) (pa_cons (pe_bltn (v := .ty "tuple") (u := .type "tuple") (by rfl) b_tuple bb_tuple rfl) pa_nil))))) (pw_or1 (pt_not (pt_val (pe_callB (r := rAll K) (cr_all rfl) (by rfl) b_all bb_all (pa_cons (pe_lc (own := [("number", 2)]) (tt := tYes) rfl sc__law_kinds.nd (pi_seqK K (pv 1)) (blkOk_by (N := ["told", "joining", "number"]) (sc := defScope st__law_kinds) (by decide +kernel)) (fun _ _ _ _ _ => (pg_name (i := 2) sc__law_kinds.nd rfl (Or.inl rfl))) (fun _ _ _ _ _ => pts_nil) (fun _ _ _ _ _ => (pe_cl C__law_whole hr (by decide) (by rfl) (pa_cons (pv 2) pa_nil)))) pa_nil))))))) (pss_one (ps_ret pe_bl)) pss_nil)))
      (pss_one (ps_ret pe_bl)))), ?_⟩
    refine st_start (σ' := [some _, none, none]) rfl (fun bk ct => ?_)
    wtm_at "vc"
    refine ⟨r, rfl, ?_⟩
    wtm_at "vc"
    refine for_go (walk_list (xs := us)) (fun i σ H => ∃ (D2 : Hp) (x1 : Option V), Sx D2 ((lg, .lst us) :: L) H ∧ Sm D D2 ∧ σ = [some (.ref t), x1, none])
      ⟨D, _, S, Sm.rfl', rfl⟩ (fun i σ H hi ⟨D2, x1, S2, e2, es⟩ => Rds.sq S2 rs0) (fun i v σ H2 H3 hi ⟨D2, x1, S2, e2, es⟩ hy nx bk hN => ?_) (fun σ H2 ⟨D2, x1, S2, e2, es⟩ => ?_)
    rotate_left
    · subst es
      wtm_at "vc"
      exact q D2 _ S2 e2
    obtain ⟨rfl, hv⟩ := hy
    subst es
    obtain ⟨c, j, rfl, hjt, kc⟩ := ra_getT (hU.up e2.e) hv
    have hjl2 := hjl j (List.mem_of_getElem? hjt)
    wtm_at "vc"
    refine lc_vals (walk_tup (xs := j.map V.int)) (by rw [List.length_map]; omega) (List.replicate j.length (V.bl true)) (by rw [List.length_replicate, List.length_map]) (fun p acc H' S' => sqT S' kc.pf) (fun k v p9 acc H7 H8 hk S7 hy Ad hA => ?_) (fun m2 H7 S7 => ?_)
    · obtain ⟨rfl, hv9⟩ := hy
      obtain ⟨x, hx, rfl⟩ := getI hv9
      wtm_at "vc"
      refine ⟨x, rfl, ?_⟩
      wtm_at "vc"
      rw [List.length_map] at hk
      exact hA _ _ Sx.gw (by rw [List.getElem?_replicate, if_pos hk])
    wtm_at "vc"
    exact hN _ _ ⟨D2, _, Sx.gc, e2, rfl⟩
abbrev st__law_lengths : Stmt := topS 23
theorem sc__law_lengths : FnScope ["draws", "most", "way", "found", "k", "number"] ["draws", "most"] (defScope st__law_lengths) := ⟨rfl, rfl, rfl, by decide +kernel, rfl, by decide +kernel, by decide +kernel⟩
def sp__law_lengths (K : PySem.W.Frag) : Sp := fun vs H Q _ => ∃ (D : Hp) (L : Own) (a : Addr) (ds : List Int) (M : Int), vs = [.ref a, .int M] ∧ Sx D L H ∧ Kn D a (.lst (ds.map V.int)) ∧ 1 ≤ M ∧ M ≤ 200 ∧ M + 2 ≤ ds.length ∧ (∀ d, d ∈ ds → 0 ≤ d ∧ d < 1000000000000000) ∧
  ∀ (b : Addr) (ls : List Int) H', Sx D ((b, .lst (ls.map V.int)) :: L) H' → 1 ≤ ls.length → (ls.length : Int) ≤ M → (∀ x, x ∈ ls → 0 ≤ x ∧ x ≤ 1000000000000) → Q (.ref b) H'
theorem ok__law_lengths {fA : Addr} {fd : FuncData} (F : Fun K "_law_lengths" "_law_lengths" st__law_lengths fA fd) (b_range : mg "range" = none) : FnOk P w K mg base CX0 1 fA fd ["draws", "most"] (sp__law_lengths K) := by
  refine F.ok sc__law_lengths (fun vs H Q E h => ?_) (fun cdv A outer s H vs Q E hr h => ?_)
  · obtain ⟨D, L, a, ds, M, rfl, S, ka, hM1, hM2, hdl, hd, q⟩ := h
    rfl
  · obtain ⟨D, L, a, ds, M, rfl, S, ka, hM1, hM2, hdl, hd, q⟩ := h
    have hu : (A.deeper (envOfC "_law_lengths" (defScope st__law_lengths) s.heap.objs.size fA cdv)).units + 64 < cLine := by have := hr.un; omega
    refine ⟨_, (pss_cons (ps_set (i := 2) sc__law_lengths.nd rfl (Or.inl rfl) (pe_op op_mod (pe_ix (r := rIx K) ix_seq (pv 0) pe_int (fun _ _ => rfl)) pe_int))
      (pss_cons (ps_set (i := 3) sc__law_lengths.nd rfl (Or.inl rfl) (pe_lst pa_nil))
      (pss_cons (ps_for PassesOwn.never rfl (pi_range1 (by rfl) b_range (pa_cons (pe_op (r := rAddX K) opAdd pe_int (pe_op op_mod (pe_ix (r := rIx K) ix_seq (pv 0) pe_int (fun _ _ => rfl)) (pv 1))) pa_nil)) (pg_name (i := 4) sc__law_lengths.nd rfl (Or.inl rfl))
      (pss_cons (ps_set (i := 5) sc__law_lengths.nd rfl (Or.inl rfl) (pe_ix (r := rIx K) ix_seq (pv 0) (pe_op (r := rAddX K) opAdd pe_int (pv 4)) (fun _ _ => rfl)))
      (pss_one (ps_expr (pe_bm PySem.F.plainAttrs_list PySem.F.slot_list_append PySem.F.type_list_append mt_append (pv 3) (pa_cons (pe_ix (r := rIx K) ix_seq (pe_lst (pa_cons pe_int (pa_cons (pe_op op_mod (pv 5) pe_int) (pa_cons (pe_op (r := rAddX K) opAdd pe_int (pe_op op_mod (pv 5) pe_int)) (pa_cons (pe_op op_mod (pv 5) (pe_op (r := rAddX K) opAdd (pe_op op_pow pe_int pe_int) pe_int)) (pa_cons (pe_op (r := rMulU K) opMulU (pe_op op_mod (pv 5) pe_int) (pe_op op_pow pe_int pe_int)) (pa_cons (pe_op (r := rMulU K) opMulU (pv 4) (pv 4)) pa_nil))))))) (pv 2) (fun _ _ => rfl)) pa_nil))))))
      (pss_one (ps_ret (pv 3)))))), ?_⟩
    refine st_start (σ' := [some _, some _, none, none, none, none]) rfl (fun bk ct => ?_)
    have hAt : ∀ k : Nat, k < ds.length → AtC (ds.map V.int) (k : Int) (.int (ds.getD k 0)) := fun k hk => ⟨atI_nat (mapI (by rw [List.getD_eq_getElem?_getD, List.getElem?_eq_getElem hk]; rfl))⟩
    have hnn : ∀ k : Nat, k < ds.length → 0 ≤ ds.getD k 0 ∧ ds.getD k 0 < 1000000000000000 := fun k hk => hd _ (by
      rw [List.getD_eq_getElem?_getD, List.getElem?_eq_getElem hk]
      exact List.getElem_mem hk)
    have a0 : AtC (ds.map V.int) 0 (.int (ds.getD 0 0)) := hAt 0 (by omega)
    have a1 : AtC (ds.map V.int) 1 (.int (ds.getD 1 0)) := hAt 1 (by omega)
    obtain ⟨w, hw⟩ : ∃ w, w = ds.getD 0 0 % 6 := ⟨_, rfl⟩
    have w0 : 0 ≤ w ∧ w < 6 := by omega
    have g0 := Int.emod_nonneg (ds.getD 1 0) (show M ≠ 0 by omega)
    have g1 := Int.emod_lt_of_pos (ds.getD 1 0) (show 0 < M by omega)
    wtm_at "vc"
    rw [← hw]
    rename_i fo H1 S1
    refine for_go (walk_rng (lo := 0) (n := (1 + ds.getD 1 0 % M).toNat)) (fun k σ H => ∃ (ls : List Int) (x4 x5 : Option V), σ = [some (.ref a), some (.int M), some (.int w), some (.ref fo), x4, x5] ∧ ls.length = k ∧ (∀ x, x ∈ ls → 0 ≤ x ∧ x ≤ 1000000000000) ∧ Sx D ((fo, .lst (ls.map V.int)) :: L) H)
      ⟨[], _, _, rfl, rfl, (fun x h => absurd h List.not_mem_nil), S1⟩ (fun _ _ _ _ _ => trivial) (fun k v σ H2 H3 hk ⟨ls, x4, x5, es, hll, hlb, S2⟩ hy nx bk hN => ?_) (fun σ H2 ⟨ls, x4, x5, es, hll, hlb, S2⟩ => ?_)
    · obtain ⟨rfl, rfl⟩ := hy
      subst es
      have a2 : AtC (ds.map V.int) (2 + (0 + (k : Int))) (.int (ds.getD (2 + k) 0)) := by
        have := hAt (2 + k) (by omega)
        rw [show ((2 + k : Nat) : Int) = 2 + (0 + (k : Int)) by omega] at this
        exact this
      have b2 := hnn (2 + k) (by omega)
      obtain ⟨e, he⟩ : ∃ e, e = ds.getD (2 + k) 0 := ⟨_, rfl⟩
      rw [← he] at a2 b2
      have hkk1 : 0 ≤ (0 + (k : Int)) * (0 + (k : Int)) := Int.mul_nonneg (by omega) (by omega)
      have hkk2 : (0 + (k : Int)) * (0 + (k : Int)) ≤ 200 * 200 := Int.mul_le_mul (by omega) (by omega) (by omega) (by omega)
      obtain ⟨z, hz, hzA⟩ := atI_get (ns := [7, e % 4, 1 + e % 60, e % (1000000000000 + 1), e % 2 * 1000000000000, (0 + (k : Int)) * (0 + (k : Int))]) w0.1 (by show w < 6; omega)
      have hzb : 0 ≤ z ∧ z ≤ 1000000000000 := by
        simp only [List.mem_cons, List.not_mem_nil, or_false] at hz
        omega
      have hA9 : AtC [V.int 7, V.int (e % 4), V.int (1 + e % 60), V.int (e % (1000000000000 + 1)), V.int (e % 2 * 1000000000000), V.int ((0 + (k : Int)) * (0 + (k : Int)))] w (.int z) := ⟨hzA⟩
      wtm_at "vc"
      rename_i H5 S5
      rw [show ls.map V.int ++ [V.int z] = (ls ++ [z]).map V.int by rw [List.map_append]; rfl] at S5
      refine hN _ _ ⟨ls ++ [z], _, _, rfl, by rw [List.length_append, hll]; rfl, fun x hx => ?_, Sx.gc⟩
      rcases List.mem_append.mp hx with c | c
      · exact hlb x c
      · rw [List.mem_singleton.mp c]; exact hzb
    subst es
    wtm_at "vc"
    exact q fo ls _ S2 (by omega) (by omega) hlb
abbrev st__law_often : Stmt := topS 25
theorem sc__law_often : FnScope ["rows", "log", "often", "at", "number"] ["rows", "log"] (defScope st__law_often) := ⟨rfl, rfl, rfl, by decide +kernel, rfl, by decide +kernel, by decide +kernel⟩
theorem psum : ∀ {xs ys : List Int}, xs.Perm ys → xs.sum = ys.sum := by
  intro xs ys h
  induction h with
  | nil => rfl
  | cons x _ ih => rw [List.sum_cons, List.sum_cons, ih]
  | swap x y l => rw [List.sum_cons, List.sum_cons, List.sum_cons, List.sum_cons]; omega
  | trans _ _ h1 h2 => rw [h1, h2]
def fol : Int → List (List Int) → Int → Nat
  | _, [], _ => 0
  | k, j :: js, x => if x ∈ j then fol (k + 1) js k + 1 else fol (k + 1) js x
theorem fol_le : ∀ (k : Int) (js : List (List Int)) (x : Int), fol k js x ≤ js.length
  | _, [], _ => Nat.le_refl _
  | k, j :: js, x => by
    have h1 := fol_le (k + 1) js k
    have h2 := fol_le (k + 1) js x
    show (if x ∈ j then fol (k + 1) js k + 1 else fol (k + 1) js x) ≤ js.length + 1
    split <;> omega
inductive Jn (p : Int) : Int → List Int → List (List Int) → Prop
  | done (k x : Int) : Jn p k [x] []
  | step {k : Int} {there rest j : List Int} {js : List (List Int)} (hp : there.Perm (j ++ rest)) (hn : there.Nodup) (h1 : 2 ≤ j.length) (h2 : (j.length : Int) ≤ p) (t : Jn p (k + 1) (rest ++ [k]) js) : Jn p k there (j :: js)
theorem Jn.len {p k : Int} {there : List Int} {js : List (List Int)} (h : Jn p k there js) : js.length + 1 ≤ there.length := by
  induction h with
  | done => exact Nat.le_refl _
  | step hp hn h1 h2 t ih =>
    have := hp.length_eq
    rw [List.length_append] at this ih
    rw [List.length_cons]
    simp only [List.length_cons, List.length_nil] at ih
    omega
theorem Jn.two {p k : Int} {there : List Int} {js : List (List Int)} (h : Jn p k there js) : ∀ j, j ∈ js → 2 ≤ j.length ∧ (j.length : Int) ≤ p := by
  induction h with
  | done => exact fun j hj => nomatch hj
  | step hp hn h1 h2 t ih =>
    intro i hi
    rcases List.mem_cons.mp hi with e | hi
    · rw [e]; exact ⟨h1, h2⟩
    · exact ih i hi
theorem Jn.lo {p k : Int} {there : List Int} {js : List (List Int)} (h : Jn p k there js) : (∀ x, x ∈ there → 0 ≤ x ∧ x < k) → 0 ≤ k → ∀ (at_ : Nat) (j : List Int), js[at_]? = some j → ∀ x, x ∈ j → 0 ≤ x ∧ x < k + (at_ : Int) := by
  induction h with
  | done => exact fun _ _ at_ j hj => by simp at hj
  | @step k there rest j js hp hn h1 h2 t ih =>
    intro hb k0 at_ i hi x hx
    cases at_ with
    | zero =>
      have e : j = i := Option.some.inj hi
      subst e
      have := hb x (hp.mem_iff.mpr (List.mem_append_left _ hx))
      omega
    | succ n =>
      have := ih (fun y hy => by
        rcases List.mem_append.mp hy with hy | hy
        · have := hb y (hp.mem_iff.mpr (List.mem_append_right _ hy))
          omega
        · rw [List.mem_singleton] at hy
          omega) (by omega) n i (by simpa using hi) x hx
      omega
def wt (p : Int) (D : Nat) (k : Int) (js : List (List Int)) (xs : List Int) : Int := (xs.map fun x => p ^ (D - fol k js x)).sum
theorem wt_app {p : Int} {D : Nat} {k : Int} {js : List (List Int)} {xs ys : List Int} : wt p D k js (xs ++ ys) = wt p D k js xs + wt p D k js ys := by
  unfold wt
  rw [List.map_append, List.sum_append]
theorem wt_in {p : Int} {D : Nat} {k : Int} {j : List Int} {js : List (List Int)} : ∀ {xs : List Int}, (∀ x, x ∈ xs → x ∈ j) → wt p D k (j :: js) xs = xs.length * p ^ (D - (fol (k + 1) js k + 1))
  | [], _ => by simp [wt]
  | x :: xs, h => by
    have ih := wt_in (p := p) (D := D) (k := k) (j := j) (js := js) (xs := xs) fun y hy => h y (List.mem_cons_of_mem _ hy)
    unfold wt at ih ⊢
    rw [List.map_cons, List.sum_cons, ih, show fol k (j :: js) x = fol (k + 1) js k + 1 from if_pos (h x List.mem_cons_self), List.length_cons, Int.natCast_add, Int.add_mul, Int.natCast_one, Int.one_mul, Int.add_comm]
theorem wt_off {p : Int} {D : Nat} {k : Int} {j : List Int} {js : List (List Int)} {xs : List Int} (h : ∀ x, x ∈ xs → x ∉ j) : wt p D k (j :: js) xs = wt p D (k + 1) js xs := by
  unfold wt
  exact congrArg List.sum (List.map_congr_left fun x hx => by rw [show fol k (j :: js) x = fol (k + 1) js x from if_neg (h x hx)])
theorem kraft {p k : Int} {there : List Int} {js : List (List Int)} (h : Jn p k there js) : 1 ≤ p → ∀ D : Nat, (∀ x, x ∈ there → fol k js x ≤ D) → wt p D k js there ≤ p ^ D ∧ ((∀ j, j ∈ js → (j.length : Int) = p) → wt p D k js there = p ^ D) := by
  induction h with
  | done k x =>
    intro hp D _
    have : wt p D k [] [x] = p ^ D := by simp [wt, fol]
    rw [this]
    exact ⟨Int.le_refl _, fun _ => rfl⟩
  | @step k there rest j js hpm hn h1 h2 t ih =>
    intro hp D hD
    obtain ⟨y, r, ej⟩ : ∃ y r, j = y :: r := by
      cases j with
      | nil => simp at h1
      | cons y r => exact ⟨y, r, rfl⟩
    have hnd := hpm.nodup_iff.mp hn
    have hoff : ∀ x, x ∈ rest → x ∉ j := fun x hx hj => (List.nodup_append.mp hnd).2.2 x hj x hx rfl
    have hk : fol (k + 1) js k + 1 ≤ D := by
      have := hD y (hpm.mem_iff.mpr (by rw [ej]; exact List.mem_cons_self))
      rwa [show fol k (j :: js) y = fol (k + 1) js k + 1 from if_pos (by rw [ej]; exact List.mem_cons_self)] at this
    have hD' : ∀ x, x ∈ rest ++ [k] → fol (k + 1) js x ≤ D := fun x hx => by
      rcases List.mem_append.mp hx with hx | hx
      · have := hD x (hpm.mem_iff.mpr (List.mem_append_right _ hx))
        rwa [show fol k (j :: js) x = fol (k + 1) js x from if_neg (hoff x hx)] at this
      · rw [List.mem_singleton] at hx
        subst hx
        omega
    obtain ⟨i1, i2⟩ := ih hp D hD'
    have e1 : wt p D k (j :: js) there = j.length * p ^ (D - (fol (k + 1) js k + 1)) + wt p D (k + 1) js rest := by
      rw [← wt_off hoff, ← wt_in (p := p) (D := D) (k := k) (j := j) (js := js) (xs := j) fun x hx => hx, ← wt_app]
      unfold wt
      exact psum (hpm.map _)
    have e2 : wt p D (k + 1) js (rest ++ [k]) = wt p D (k + 1) js rest + p * p ^ (D - (fol (k + 1) js k + 1)) := by
      rw [wt_app]
      have : wt p D (k + 1) js [k] = p ^ (D - fol (k + 1) js k) := by simp [wt]
      rw [this, show D - fol (k + 1) js k = (D - (fol (k + 1) js k + 1)) + 1 by omega, Int.pow_succ, Int.mul_comm p]
    have pp : 0 ≤ p ^ (D - (fol (k + 1) js k + 1)) := Int.le_of_lt (Int.pow_pos (by omega))
    have hm := Int.mul_le_mul_of_nonneg_right h2 pp
    rw [e2] at i1 i2
    rw [e1]
    refine ⟨by omega, fun ha => ?_⟩
    have h3 := i2 fun j' hj' => ha j' (List.mem_cons_of_mem _ hj')
    rw [ha j List.mem_cons_self]
    omega
theorem map_erase : ∀ (xs : List Int) (n : Nat), (xs.map V.int).eraseIdx n = (xs.eraseIdx n).map V.int
  | [], _ => rfl
  | x :: xs, 0 => rfl
  | x :: xs, n + 1 => by rw [List.map_cons, List.eraseIdx_cons_succ, List.eraseIdx_cons_succ, List.map_cons, map_erase xs n]
theorem set_range {n i : Nat} {f : Nat → Int} {v : Int} (h : i < n) : (((List.range n).map f).map V.int).set i (V.int v) = ((List.range n).map fun x => if x = i then v else f x).map V.int := by
  apply List.ext_getElem?
  intro m
  rw [List.getElem?_set, List.getElem?_map, List.getElem?_map, List.getElem?_map, List.getElem?_map, List.length_map, List.length_map, List.length_range]
  by_cases c : i = m
  · subst c
    rw [if_pos rfl, if_pos h, List.getElem?_range h]
    simp
  · rw [if_neg c]
    by_cases c2 : m < n
    · rw [List.getElem?_range c2]
      have : ¬ m = i := fun e => c e.symm
      simp [this]
    · rw [List.getElem?_eq_none (by rw [List.length_range]; omega)]
      rfl

def sp__law_often (K : PySem.W.Frag) : Sp := fun vs H Q _ => ∃ (D : Hp) (L : Own) (rows : Int) (a : Addr) (us : List V) (js : List (List Int)), vs = [.int rows, .ref a] ∧ Sx D L H ∧ Kn D a (.lst us) ∧ RpAll D us (js.map tI) ∧ js.length ≤ 1000 ∧ 0 ≤ rows ∧ rows ≤ 1000 ∧
  (∀ (t : Nat) (j : List Int), js[t]? = some j → ∀ x, x ∈ j → 0 ≤ x ∧ x < rows + (t : Int)) ∧
  ∀ b H', Sx D ((b, .lst (((List.range rows.toNat).map fun (x : Nat) => (fol rows js x : Int)).map V.int)) :: L) H' → Q (.ref b) H'
theorem ok__law_often {fA : Addr} {fd : FuncData} (F : Fun K "_law_often" "_law_often" st__law_often fA fd) (b_len : mg "len" = none) (b_list : mg "list" = none) (b_range : mg "range" = none) : FnOk P w K mg base CX0 1 fA fd ["rows", "log"] (sp__law_often K) := by
  refine F.ok sc__law_often (fun vs H Q E h => ?_) (fun cdv A outer s H vs Q E hr h => ?_)
  · obtain ⟨D, L, rows, a, us, js, rfl, S, ha, hR, hj, r0, r1, hlo, q⟩ := h
    rfl
  · obtain ⟨D, L, rows, a, us, js, rfl, S, ha, hR, hj, r0, r1, hlo, q⟩ := h
    have hu : (A.deeper (envOfC "_law_often" (defScope st__law_often) s.heap.objs.size fA cdv)).units + 64 < cLine := by have := hr.un; omega
    refine ⟨_, (pss_cons (ps_set (i := 2) sc__law_often.nd rfl (Or.inl rfl) (pe_op (r := rMulU K) opMulU (pe_lst (pa_cons pe_int pa_nil)) (pe_op (r := rAddX K) opAdd (pv 0) (pe_callB (r := rLen K) call_lenN (by rfl) b_len bb_len (pa_cons (pv 1) pa_nil)))))
      (pss_cons (ps_for PassesOwn.never rfl (pi_seqK K (pe_revL (pe_listRg rfl (by rfl) b_list (prg_1 (by rfl) b_range (pe_callB (r := rLen K) call_lenN (by rfl) b_len bb_len (pa_cons (pv 1) pa_nil)))))) (pg_name (i := 3) sc__law_often.nd rfl (Or.inl rfl))
      (pss_one (ps_for PassesOwn.never rfl (pi_seqK K (pe_ix (r := rIx K) ix_seq (pv 1) (pv 3) (fun _ _ => rfl))) (pg_name (i := 4) sc__law_often.nd rfl (Or.inl rfl))
      (pss_one (ps_asg (pe_op (r := rAddX K) opAdd (pe_ix (r := rIx K) ix_seq (pv 2) (pe_op (r := rAddX K) opAdd (pv 0) (pv 3)) (fun _ _ => rfl)) pe_int) (pg_sub (pv 2) (pv 4) set_list))))))
      (pss_one (ps_ret (pe_slice (r := rSlX K) slX (pv 2) po_none (po_some (pv 0))))))), ?_⟩
    refine st_start (σ' := [some _, some _, none, none, none]) rfl (fun bk ct => ?_)
    have hul : us.length = js.length := by rw [hR.length, List.length_map]
    wtm_at "vc"
    rename_i b0 H0 S0 b H1 S1
    obtain ⟨N, hN⟩ : ∃ N, N = js.length := ⟨_, rfl⟩
    rw [hul, ← hN] at S1 ⊢
    obtain ⟨n, hn⟩ : ∃ n, n = (rows + (N : Int)).toNat := ⟨_, rfl⟩
    rw [← hn] at S1
    have e0 : (List.replicate n (V.int 0)) = ((List.range n).map fun (x : Nat) => (fol (rows + ((N - 0 : Nat) : Int)) (js.drop (N - 0)) x : Int)).map V.int := by
      rw [Nat.sub_zero, hN, List.drop_of_length_le (Nat.le_refl _)]
      symm
      refine List.eq_replicate_iff.mpr ⟨by simp, fun v hv => ?_⟩
      obtain ⟨z, hz, rfl⟩ := List.mem_map.mp hv
      obtain ⟨x, _, rfl⟩ := List.mem_map.mp hz
      rfl
    rw [e0] at S1
    refine ⟨RgOk.of_le (by decide) (by omega) (by decide) (by omega), fun t1 ht1 => ?_⟩
    have S9 := S1.new (o := .lst (rgV 0 (N : Int))) ht1
    wtm_at "vc"
    rename_i rv H7 S7
    obtain ⟨rr, hrr⟩ : ∃ rr, rr = (rgV 0 (N : Int)).reverse := ⟨_, rfl⟩
    have hrl : rr.length = N := by rw [hrr, List.length_reverse]; unfold rgV; rw [List.length_map, List.length_range]; omega
    have hrg : ∀ (i : Nat) (v : V), rr[i]? = some v → v = .int ((N : Int) - 1 - (i : Int)) := fun i v hv => by
      have hi : i < N := by have := (List.getElem?_eq_some_iff.mp hv).1; omega
      rw [hrr, List.getElem?_reverse (by unfold rgV; rw [List.length_map, List.length_range]; omega)] at hv
      unfold rgV at hv
      rw [List.length_map, List.length_range, List.getElem?_map, List.getElem?_range (by omega)] at hv
      have := Option.some.inj hv
      rw [← this]
      show V.int (0 + (((N : Int) - 0).toNat - 1 - i : Nat)) = _
      congr 1
      omega
    rw [← hrr] at S7
    have S7b : Sx D ((rv, .lst rr) :: (b, .lst (((List.range n).map fun (x : Nat) => (fol (rows + ((N - 0 : Nat) : Int)) (js.drop (N - 0)) x : Int)).map V.int)) :: L) H7 := Sx.gc (S := S7)
    have S8 := Sx.perm S7b (List.Perm.swap _ _ _)
    refine for_go (walk_list (xs := rr)) (fun i σ H => ∃ x4 x5, σ = [some (.int rows), some (.ref a), some (.ref b), x4, x5] ∧ Sx D ((b, .lst (((List.range n).map fun (x : Nat) => (fol (rows + ((N - i : Nat) : Int)) (js.drop (N - i)) x : Int)).map V.int)) :: (rv, .lst rr) :: L) H)
      ⟨none, none, rfl, S8⟩ (fun i σ H hi ⟨x4, x5, es, S2⟩ => Rds.sq S2 rs1) (fun i v σ H2 H3 hi ⟨x4, x5, es, S2⟩ hy nx bk hG => ?_) (fun σ H2 ⟨x4, x5, es, S2⟩ => ?_)
    rotate_left
    · subst es
      rw [show N - rr.length = 0 by omega, List.drop_zero, show rows + ((0 : Nat) : Int) = rows by omega] at S2
      wtm_at "vc"
      rename_i b9 H9 S9
      rw [cut_toI r0, ← List.map_take, ← List.map_take, List.take_range, show min rows.toNat n = rows.toNat by omega] at S9
      exact q b9 _ Sx.gc
    obtain ⟨rfl, hv⟩ := hy
    subst es
    have hv9 := hrg i v hv
    subst hv9
    obtain ⟨t, ht⟩ : ∃ t, t = N - (i + 1) := ⟨_, rfl⟩
    have hat : (N : Int) - 1 - (i : Int) = (t : Int) := by omega
    have eN : N - i = t + 1 := by omega
    rw [eN] at S2
    rw [hat]
    rw [← ht] at hG
    obtain ⟨u, hu⟩ : ∃ u, us[t]? = some u := ⟨_, List.getElem?_eq_getElem (by omega)⟩
    obtain ⟨c, j, rfl, hjt, kc⟩ := ra_getT hR hu
    have : AtC us (t : Int) (.ref c) := ⟨atN (by omega) (by rw [show (t : Int).toNat = t by omega]; exact hu)⟩
    have hdr : js.drop t = j :: js.drop (t + 1) := by
      obtain ⟨h3, h4⟩ := List.getElem?_eq_some_iff.mp hjt
      rw [← h4]
      exact List.drop_eq_getElem_cons h3
    have hlj := hlo t j hjt
    have hnot : ¬ ((((rows + (t : Int)).toNat : Nat) : Int) ∈ j) := fun hm => by
      have := hlj _ hm
      omega
    obtain ⟨F, hF⟩ : ∃ F : Int, F = (fol (rows + ((t + 1 : Nat) : Int)) (js.drop (t + 1)) (rows + (t : Int)) : Int) := ⟨_, rfl⟩
    wtm_at "vc"
    refine for_go (walk_tup (xs := j.map V.int)) (fun m σ H => ∃ x5, σ = [some (.int rows), some (.ref a), some (.ref b), some (.int (t : Int)), x5] ∧ Sx D ((b, .lst (((List.range n).map fun (x : Nat) => if (x : Int) ∈ j.take m then F + 1 else (fol (rows + ((t + 1 : Nat) : Int)) (js.drop (t + 1)) x : Int)).map V.int)) :: (rv, .lst rr) :: L) H)
      ⟨_, rfl, ?_⟩ (fun m σ H _ ⟨x, es, S⟩ => sqT S kc.pf) (fun m v σ H4 H5 hm ⟨x5, es, S3⟩ hy nx2 bk2 hG2 => ?_) (fun σ H4 ⟨x5, es, S3⟩ => ?_)
    · simp only [List.take_zero, List.not_mem_nil, if_false]
      exact S2
    · obtain ⟨rfl, hv⟩ := hy
      subst es
      obtain ⟨y, hy, rfl⟩ := getI hv
      have hyb := hlj y (List.mem_of_getElem? hy)
      have hA : AtC (((List.range n).map fun (x : Nat) => if (x : Int) ∈ j.take m then F + 1 else (fol (rows + ((t + 1 : Nat) : Int)) (js.drop (t + 1)) x : Int)).map V.int) (rows + (t : Int)) (.int F) := ⟨atN (by omega) (mapI (by
        rw [List.getElem?_map, List.getElem?_range (by omega)]
        refine congrArg some ?_
        show (if (((rows + (t : Int)).toNat : Nat) : Int) ∈ j.take m then F + 1 else (fol (rows + ((t + 1 : Nat) : Int)) (js.drop (t + 1)) (((rows + (t : Int)).toNat : Nat) : Int) : Int)) = F
        rw [if_neg (fun hm => hnot (List.mem_of_mem_take hm)), hF, show (((rows + (t : Int)).toNat : Nat) : Int) = rows + (t : Int) by omega]))⟩
      wtm_at "vc"
      rename_i S4
      rw [set_range (by omega)] at S4
      refine hG2 _ _ ⟨_, rfl, ?_⟩
      have ef : (fun (x : Nat) => if (x : Int) ∈ j.take (m + 1) then F + 1 else (fol (rows + ((t + 1 : Nat) : Int)) (js.drop (t + 1)) x : Int)) = fun (x : Nat) => if x = y.toNat then F + 1 else if (x : Int) ∈ j.take m then F + 1 else (fol (rows + ((t + 1 : Nat) : Int)) (js.drop (t + 1)) x : Int) := by
        funext x
        rw [List.take_add_one, hy]
        by_cases c1 : x = y.toNat
        · rw [if_pos c1, if_pos (List.mem_append_right _ (by rw [show (x : Int) = y by omega]; exact List.mem_singleton.mpr rfl))]
        · rw [if_neg c1]
          by_cases c2 : (x : Int) ∈ j.take m
          · rw [if_pos c2, if_pos (List.mem_append_left _ c2)]
          · rw [if_neg c2, if_neg (fun hm => (List.mem_append.mp hm).elim c2 fun h => c1 (by have := List.mem_singleton.mp h; omega))]
      rw [ef]
      exact S4
    · subst es
      wtm_at "vc"
      rw [List.length_map, List.take_length] at S3
      refine hG _ _ ⟨_, _, rfl, ?_⟩
      rw [hdr]
      have ef : (fun (x : Nat) => (fol (rows + (t : Int)) (j :: js.drop (t + 1)) x : Int)) = fun (x : Nat) => if (x : Int) ∈ j then F + 1 else (fol (rows + ((t + 1 : Nat) : Int)) (js.drop (t + 1)) x : Int) := by
        funext x
        have ek : rows + (t : Int) + 1 = rows + ((t + 1 : Nat) : Int) := by omega
        show ((if (x : Int) ∈ j then fol (rows + (t : Int) + 1) (js.drop (t + 1)) (rows + (t : Int)) + 1 else fol (rows + (t : Int) + 1) (js.drop (t + 1)) x : Nat) : Int) = _
        rw [ek]
        split
        · rw [hF]
          rfl
        · rfl
      rw [ef]
      exact S3
abbrev st_is_whole : Stmt := topS 7
theorem sc_is_whole : FnScope ["thing"] ["thing"] (defScope st_is_whole) := ⟨rfl, rfl, rfl, by decide +kernel, rfl, by decide +kernel, by decide +kernel⟩
def sp_is_whole (K : PySem.W.Frag) : Sp := fun vs H Q _ => ∃ (v : V) (t : String) (b1 b2 b : Bool), vs = [v] ∧ TyX K H v (.type t) ∧ kitB t "int" = some b1 ∧ kitB t "bool" = some b2 ∧ (b1 && !b2) = b ∧ Q (.bl b) H
theorem ok_is_whole {fA : Addr} {fd : FuncData} (F : Fun K "is_whole" "is_whole" st_is_whole fA fd) (b_bool : mg "bool" = none) (b_int : mg "int" = none) (b_isinstance : mg "isinstance" = none) : FnOk P w K mg base CX0 1 fA fd ["thing"] (sp_is_whole K) := by
  refine F.ok sc_is_whole (fun vs H Q E h => ?_) (fun cdv A outer s H vs Q E hr h => ?_)
  · obtain ⟨v, t, b1, b2, b, rfl, h1, h2, h3, rfl, q⟩ := h
    rfl
  · obtain ⟨v, t, b1, b2, b, rfl, h1, h2, h3, rfl, q⟩ := h
    have hu : (A.deeper (envOfC "is_whole" (defScope st_is_whole) s.heap.objs.size fA cdv)).units + 64 < cLine := by have := hr.un; omega
    refine ⟨_, (pss_one (ps_ret (pe_and (pe_callB (r := rIsiX K) call_isiX (by rfl) b_isinstance bb_isinstance (pa_cons (pv 0) (pa_cons (pe_bltn (v := .ty "int") (u := .type "int") (by rfl) b_int bb_int rfl) pa_nil))) (pe_one (pe_notK K (pe_callB (r := rIsiX K) call_isiX (by rfl) b_isinstance bb_isinstance (pa_cons (pv 0) (pa_cons (pe_bltn (v := .ty "bool") (u := .type "bool") (by rfl) b_bool bb_bool rfl) pa_nil)))))))), ?_⟩
    refine st_start (σ' := [some _]) rfl (fun bk ct => ?_)
    have i1 : TyC K H v t := ⟨h1⟩
    have i2 : KiC t "int" b1 := ⟨h2⟩
    have i3 : KiC t "bool" b2 := ⟨h3⟩
    cases b1
    · wtm_at "vc"
      exact q
    · wtm_at "vc"
      exact q
abbrev st_look_at_ways : Stmt := topS 11
theorem sc_look_at_ways : FnScope ["p"] ["p"] (defScope st_look_at_ways) := ⟨rfl, rfl, rfl, by decide +kernel, rfl, by decide +kernel, by decide +kernel⟩
def sp_look_at_ways (K : PySem.W.Frag) : Sp := fun vs H Q _ => ∃ p, vs = [.int p] ∧ 2 ≤ p ∧ p ≤ 7 ∧ Q .non H
theorem ok_look_at_ways {fA : Addr} {fd : FuncData} (F : Fun K "look_at_ways" "look_at_ways" st_look_at_ways fA fd) {t_LEAST_WAYS : Tok} (c_LEAST_WAYS : mg "LEAST_WAYS" = some (.int (2) t_LEAST_WAYS)) {t_MOST_WAYS : Tok} (c_MOST_WAYS : mg "MOST_WAYS" = some (.int (7) t_MOST_WAYS))
    (C_is_whole : Cl P w K mg base CX0 1 "is_whole" ["thing"] (sp_is_whole K)) : FnOk P w K mg base CX0 2 fA fd ["p"] (sp_look_at_ways K) := by
  refine F.ok sc_look_at_ways (fun vs H Q E h => ?_) (fun cdv A outer s H vs Q E hr h => ?_)
  · obtain ⟨p, rfl, h2, h7, q⟩ := h
    rfl
  · obtain ⟨p, rfl, h2, h7, q⟩ := h
    have hu : (A.deeper (envOfC "look_at_ways" (defScope st_look_at_ways) s.heap.objs.size fA cdv)).units + 64 < cLine := by have := hr.un; omega
    refine ⟨_, (pss_one (ps_if (PW.pt (pw_or (pt_not (pt_val (pe_cl C_is_whole hr (by decide) (by rfl) (pa_cons (pv 0) pa_nil)))) (pw_or1 (pt_not (pt_chain op_le op_le (pe_glob (v := .int (2)) (by rfl) c_LEAST_WAYS ⟨_, rfl⟩) (pv 0) (pe_glob (v := .int (7)) (by rfl) c_MOST_WAYS ⟨_, rfl⟩)))))) pss_never pss_nil)), ?_⟩
    refine st_start (σ' := [some _]) rfl (fun bk ct => ?_)
    wtm_at "vc"
    refine ⟨.int p, "int", true, false, true, rfl, .base (.int p), KiC.pf, KiC.pf, rfl, ?_⟩
    wtm_at "vc"
    exact q
--@@
def sp_look_at_ways_x (K : PySem.W.Frag) : Sp := fun vs H Q E => ∃ (D : Hp) (L : Own) (v : V), vs = [v] ∧ Sx D L H ∧ OddV 2 7 D v ∧ ∀ C, PySem.W.nsIn K mainGlobals "NoWays" = some (some (.ref C)) → E (.ref C) none H
theorem ok_look_at_ways_x {fA : Addr} {fd : FuncData} (F : Fun K "look_at_ways" "look_at_ways" st_look_at_ways fA fd) {t_LEAST_WAYS : Tok} (c_LEAST_WAYS : mg "LEAST_WAYS" = some (.int (2) t_LEAST_WAYS)) {t_MOST_WAYS : Tok} (c_MOST_WAYS : mg "MOST_WAYS" = some (.int (7) t_MOST_WAYS))
    (C_is_whole : Cl P w K mg base CX0 1 "is_whole" ["thing"] (sp_is_whole K))
    {C_NoWays : Addr} (k_NoWays : ClC K mg "NoWays" C_NoWays) (R_NoWays : RzC K C_NoWays) : FnOk P w K mg base (L2.CX P w) 2 fA fd ["p"] (sp_look_at_ways_x K) := by
  refine F.okX sc_look_at_ways (fun vs H Q E h => ?_) (fun cdv A outer s H vs Q E hr h => ?_)
  · obtain ⟨D, L, v, rfl, S, ho, q⟩ := h
    rfl
  · obtain ⟨D, L, v, rfl, S, ho, q⟩ := h
    have hu : (A.deeper (envOfC "look_at_ways" (defScope st_look_at_ways) s.heap.objs.size fA cdv)).units + 64 < cLine := by have := hr.un; omega
    refine ⟨_, (pss_one (ps_if (PW.pt (pw_or (pt_not (pt_val (pe_cl C_is_whole hr (by decide) (by rfl) (pa_cons (pv 0) pa_nil)))) (pw_or1 (pt_not (pt_chain op_le op_le (pe_glob (v := .int (2)) (by rfl) c_LEAST_WAYS ⟨_, rfl⟩) (pv 0) (pe_glob (v := .int (7)) (by rfl) c_MOST_WAYS ⟨_, rfl⟩)))))) (pss_one (ps_rz k_NoWays R_NoWays (by rfl) (takes_of rfl rfl rfl rfl))) pss_nil)), ?_⟩
    refine st_start (σ' := [some _]) rfl (fun bk ct => ?_)
    wtm_at "vc"
    
    cases ho with
    | int i hi =>
      refine ⟨.int i, "int", true, false, true, rfl, .base (.int i), KiC.pf, KiC.pf, rfl, ?_⟩
      wtm_at "vc"
      rcases hi with hi | hi
      · wtm_at "vc"
        exact q _ k_NoWays.ns
      · refine if_d (fun _ => ?_) (fun h => ?_)
        · wtm_at "vc"
          exact q _ k_NoWays.ns
        · wtm_at "vc"
          exact q _ k_NoWays.ns
    | bl b =>
      refine ⟨.bl b, "bool", true, true, false, rfl, .base (.bl b), KiC.pf, KiC.pf, rfl, ?_⟩
      wtm_at "vc"
      exact q _ k_NoWays.ns
    | non =>
      refine ⟨.non, "NoneType", false, false, false, rfl, .base .non, KiC.pf, KiC.pf, rfl, ?_⟩
      wtm_at "vc"
      exact q _ k_NoWays.ns
    | str z =>
      refine ⟨.str z, "str", false, false, false, rfl, .base (.str z), KiC.pf, KiC.pf, rfl, ?_⟩
      wtm_at "vc"
      exact q _ k_NoWays.ns
    | tup a xs h =>
      have : Kn D a (.tup xs) := ⟨h⟩
      refine ⟨.ref a, "tuple", false, false, false, rfl, TyC.pf, KiC.pf, KiC.pf, rfl, ?_⟩
      wtm_at "vc"
      exact q _ k_NoWays.ns
    | lst a xs h =>
      have : Kn D a (.lst xs) := ⟨h⟩
      refine ⟨.ref a, "list", false, false, false, rfl, TyC.pf, KiC.pf, KiC.pf, rfl, ?_⟩
      wtm_at "vc"
      exact q _ k_NoWays.ns
    | dic a kvs h =>
      have : Kn D a (.dK kvs) := ⟨h⟩
      refine ⟨.ref a, "dict", false, false, false, rfl, TyC.pf, KiC.pf, KiC.pf, rfl, ?_⟩
      wtm_at "vc"
      exact q _ k_NoWays.ns
abbrev st_join_numbers : Stmt := topS 17
theorem sc_join_numbers : FnScope ["p", "rows", "log", "often", "at", "number"] ["p", "rows", "log"] (defScope st_join_numbers) := ⟨rfl, rfl, rfl, by decide +kernel, rfl, by decide +kernel, by decide +kernel⟩
def sp_join_numbers (K : PySem.W.Frag) : Sp := fun vs H Q _ => ∃ (D : Hp) (L : Own) (p rows : Int) (a : Addr) (us : List V) (js : List (List Int)), vs = [.int p, .int rows, .ref a] ∧ Sx D L H ∧ Ks D a us ∧ RpAll D us (js.map tI) ∧ js.length ≤ 1000 ∧ 0 ≤ rows ∧ rows ≤ 1000 ∧ 2 ≤ p ∧ p ≤ 7 ∧
  (∀ (t : Nat) (j : List Int), js[t]? = some j → ∀ x, x ∈ j → 0 ≤ x ∧ x < rows + (t : Int)) ∧
  ∀ b H', Sx D ((b, .lst (((List.range rows.toNat).map fun (x : Nat) => (fol rows js x : Int)).map V.int)) :: L) H' → Q (.ref b) H'
theorem ok_join_numbers {fA : Addr} {fd : FuncData} (F : Fun K "join_numbers" "join_numbers" st_join_numbers fA fd) (b_len : mg "len" = none) (b_range : mg "range" = none)
    (C_look_at_ways : Cl P w K mg base CX0 2 "look_at_ways" ["p"] (sp_look_at_ways K)) : FnOk P w K mg base CX0 3 fA fd ["p", "rows", "log"] (sp_join_numbers K) := by
  refine F.ok sc_join_numbers (fun vs H Q E h => ?_) (fun cdv A outer s H vs Q E hr h => ?_)
  · obtain ⟨D, L, p, rows, a, us, js, rfl, S, ha, hR, hj, r0, r1, h2, h7, hlo, q⟩ := h
    rfl
  · obtain ⟨D, L, p, rows, a, us, js, rfl, S, ha, hR, hj, r0, r1, h2, h7, hlo, q⟩ := h
    have hu : (A.deeper (envOfC "join_numbers" (defScope st_join_numbers) s.heap.objs.size fA cdv)).units + 64 < cLine := by have := hr.un; omega
    refine ⟨_, (pss_cons (ps_expr (pe_cl C_look_at_ways hr (by decide) (by rfl) (pa_cons (pv 0) pa_nil)))
      (pss_cons (ps_set (i := 3) sc_join_numbers.nd rfl (Or.inl rfl) (pe_op (r := rMulU K) opMulU (pe_lst (pa_cons pe_int pa_nil)) (pe_op (r := rAddX K) opAdd (pv 1) (pe_callB (r := rLen K) call_lenN (by rfl) b_len bb_len (pa_cons (pv 2) pa_nil)))))
      (pss_cons (ps_for PassesOwn.never rfl (pi_range3 (by rfl) b_range (pa_cons (pe_op op_sub (pe_callB (r := rLen K) call_lenN (by rfl) b_len bb_len (pa_cons (pv 2) pa_nil)) pe_int) (pa_cons (pe_un un_neg pe_int) (pa_cons (pe_un un_neg pe_int) pa_nil)))) (pg_name (i := 4) sc_join_numbers.nd rfl (Or.inl rfl))
      (pss_one (ps_for PassesOwn.never rfl (pi_seqK K (pe_ix (r := rIx K) ix_seq (pv 2) (pv 4) (fun _ _ => rfl))) (pg_name (i := 5) sc_join_numbers.nd rfl (Or.inl rfl))
      (pss_one (ps_asg (pe_op (r := rAddX K) opAdd (pe_ix (r := rIx K) ix_seq (pv 3) (pe_op (r := rAddX K) opAdd (pv 1) (pv 4)) (fun _ _ => rfl)) pe_int) (pg_sub (pv 3) (pv 5) set_list))))))
      (pss_one (ps_ret (pe_slice (r := rSlX K) slX (pv 3) po_none (po_some (pv 1)))))))), ?_⟩
    refine st_start (σ' := [some _, some _, some _, none, none, none]) rfl (fun bk ct => ?_)
    have hul : us.length = js.length := by rw [hR.length, List.length_map]
    wtm_at "vc"
    refine ⟨p, rfl, h2, h7, ?_⟩
    wtm_at "vc"
    rename_i b0 H0 S0 b H1 S1
    obtain ⟨N, hN⟩ : ∃ N, N = js.length := ⟨_, rfl⟩
    rw [hul, ← hN] at S1 ⊢
    obtain ⟨n, hn⟩ : ∃ n, n = (rows + (N : Int)).toNat := ⟨_, rfl⟩
    rw [← hn] at S1
    have e0 : (List.replicate n (V.int 0)) = ((List.range n).map fun (x : Nat) => (fol (rows + ((N - 0 : Nat) : Int)) (js.drop (N - 0)) x : Int)).map V.int := by
      rw [Nat.sub_zero, hN, List.drop_of_length_le (Nat.le_refl _)]
      symm
      refine List.eq_replicate_iff.mpr ⟨by simp, fun v hv => ?_⟩
      obtain ⟨z, hz, rfl⟩ := List.mem_map.mp hv
      obtain ⟨x, _, rfl⟩ := List.mem_map.mp hz
      rfl
    rw [e0] at S1
    refine for_go walk_rangeC (fun i σ H => ∃ x4 x5, σ = [some (.int p), some (.int rows), some (.ref a), some (.ref b), x4, x5] ∧ Sx D ((b, .lst (((List.range n).map fun (x : Nat) => (fol (rows + ((N - i : Nat) : Int)) (js.drop (N - i)) x : Int)).map V.int)) :: L) H)
      ⟨none, none, rfl, Sx.gc⟩ (fun _ _ _ _ _ => trivial) (fun i v σ H2 H3 hi ⟨x4, x5, es, S2⟩ hy nx bk hG => ?_) (fun σ H2 ⟨x4, x5, es, S2⟩ => ?_)
    rotate_left
    · subst es
      rw [show N - ((N : Int) - 1 - -1).toNat = 0 by omega, List.drop_zero, show rows + ((0 : Nat) : Int) = rows by omega] at S2
      wtm_at "vc"
      rename_i b9 H9 S9
      rw [cut_toI r0, ← List.map_take, ← List.map_take, List.take_range, show min rows.toNat n = rows.toNat by omega] at S9
      exact q b9 _ Sx.gc
    obtain ⟨rfl, rfl⟩ := hy
    subst es
    obtain ⟨t, ht⟩ : ∃ t, t = N - (i + 1) := ⟨_, rfl⟩
    have hat : (N : Int) - 1 + (i : Int) * -1 = (t : Int) := by omega
    have eN : N - i = t + 1 := by omega
    rw [eN] at S2
    show gName 4 (V.int ((N : Int) - 1 + (i : Int) * -1)) _ _ _
    rw [hat]
    rw [← ht] at hG
    obtain ⟨u, hu⟩ : ∃ u, us[t]? = some u := ⟨_, List.getElem?_eq_getElem (by omega)⟩
    obtain ⟨c, j, rfl, hjt, kc⟩ := ra_getT hR hu
    have : AtC us (t : Int) (.ref c) := ⟨atN (by omega) (by rw [show (t : Int).toNat = t by omega]; exact hu)⟩
    have hdr : js.drop t = j :: js.drop (t + 1) := by
      obtain ⟨h3, h4⟩ := List.getElem?_eq_some_iff.mp hjt
      rw [← h4]
      exact List.drop_eq_getElem_cons h3
    have hlj := hlo t j hjt
    have hnot : ¬ ((((rows + (t : Int)).toNat : Nat) : Int) ∈ j) := fun hm => by
      have := hlj _ hm
      omega
    obtain ⟨F, hF⟩ : ∃ F : Int, F = (fol (rows + ((t + 1 : Nat) : Int)) (js.drop (t + 1)) (rows + (t : Int)) : Int) := ⟨_, rfl⟩
    wtm_at "vc"
    refine for_go (walk_tup (xs := j.map V.int)) (fun m σ H => ∃ x5, σ = [some (.int p), some (.int rows), some (.ref a), some (.ref b), some (.int (t : Int)), x5] ∧ Sx D ((b, .lst (((List.range n).map fun (x : Nat) => if (x : Int) ∈ j.take m then F + 1 else (fol (rows + ((t + 1 : Nat) : Int)) (js.drop (t + 1)) x : Int)).map V.int)) :: L) H)
      ⟨_, rfl, ?_⟩ (fun m σ H _ ⟨x, es, S⟩ => sqT S kc.pf) (fun m v σ H4 H5 hm ⟨x5, es, S3⟩ hy nx2 bk2 hG2 => ?_) (fun σ H4 ⟨x5, es, S3⟩ => ?_)
    · simp only [List.take_zero, List.not_mem_nil, if_false]
      exact S2
    · obtain ⟨rfl, hv⟩ := hy
      subst es
      obtain ⟨y, hy, rfl⟩ := getI hv
      have hyb := hlj y (List.mem_of_getElem? hy)
      have hA : AtC (((List.range n).map fun (x : Nat) => if (x : Int) ∈ j.take m then F + 1 else (fol (rows + ((t + 1 : Nat) : Int)) (js.drop (t + 1)) x : Int)).map V.int) (rows + (t : Int)) (.int F) := ⟨atN (by omega) (mapI (by
        rw [List.getElem?_map, List.getElem?_range (by omega)]
        refine congrArg some ?_
        show (if (((rows + (t : Int)).toNat : Nat) : Int) ∈ j.take m then F + 1 else (fol (rows + ((t + 1 : Nat) : Int)) (js.drop (t + 1)) (((rows + (t : Int)).toNat : Nat) : Int) : Int)) = F
        rw [if_neg (fun hm => hnot (List.mem_of_mem_take hm)), hF, show (((rows + (t : Int)).toNat : Nat) : Int) = rows + (t : Int) by omega]))⟩
      wtm_at "vc"
      rename_i S4
      rw [set_range (by omega)] at S4
      refine hG2 _ _ ⟨_, rfl, ?_⟩
      have ef : (fun (x : Nat) => if (x : Int) ∈ j.take (m + 1) then F + 1 else (fol (rows + ((t + 1 : Nat) : Int)) (js.drop (t + 1)) x : Int)) = fun (x : Nat) => if x = y.toNat then F + 1 else if (x : Int) ∈ j.take m then F + 1 else (fol (rows + ((t + 1 : Nat) : Int)) (js.drop (t + 1)) x : Int) := by
        funext x
        rw [List.take_add_one, hy]
        by_cases c1 : x = y.toNat
        · rw [if_pos c1, if_pos (List.mem_append_right _ (by rw [show (x : Int) = y by omega]; exact List.mem_singleton.mpr rfl))]
        · rw [if_neg c1]
          by_cases c2 : (x : Int) ∈ j.take m
          · rw [if_pos c2, if_pos (List.mem_append_left _ c2)]
          · rw [if_neg c2, if_neg (fun hm => (List.mem_append.mp hm).elim c2 fun h => c1 (by have := List.mem_singleton.mp h; omega))]
      rw [ef]
      exact S4
    · subst es
      wtm_at "vc"
      rw [List.length_map, List.take_length] at S3
      refine hG _ _ ⟨_, _, rfl, ?_⟩
      rw [hdr]
      have ef : (fun (x : Nat) => (fol (rows + (t : Int)) (j :: js.drop (t + 1)) x : Int)) = fun (x : Nat) => if (x : Int) ∈ j then F + 1 else (fol (rows + ((t + 1 : Nat) : Int)) (js.drop (t + 1)) x : Int) := by
        funext x
        have ek : rows + (t : Int) + 1 = rows + ((t + 1 : Nat) : Int) := by omega
        show ((if (x : Int) ∈ j then fol (rows + (t : Int) + 1) (js.drop (t + 1)) (rows + (t : Int)) + 1 else fol (rows + (t : Int) + 1) (js.drop (t + 1)) x : Nat) : Int) = _
        rw [ek]
        split
        · rw [hF]
          rfl
        · rfl
      rw [ef]
      exact S3
--@@
def sp_join_numbers_x (K : PySem.W.Frag) : Sp := fun vs H Q E => ∃ (D : Hp) (L : Own) (v n m : V), vs = [v, n, m] ∧ Sx D L H ∧ OddV 2 7 D v ∧ ∀ C, PySem.W.nsIn K mainGlobals "NoWays" = some (some (.ref C)) → E (.ref C) none H
theorem ok_join_numbers_x {fA : Addr} {fd : FuncData} (F : Fun K "join_numbers" "join_numbers" st_join_numbers fA fd)
    (C_look_at_ways_x : Cl P w K mg base (L2.CX P w) 2 "look_at_ways" ["p"] (sp_look_at_ways_x K)) : FnOk P w K mg base (L2.CX P w) 3 fA fd ["p", "rows", "log"] (sp_join_numbers_x K) := by
  refine F.okX sc_join_numbers (fun vs H Q E h => ?_) (fun cdv A outer s H vs Q E hr h => ?_)
  · obtain ⟨D, L, v, n, m, rfl, S, ho, q⟩ := h
    rfl
  · obtain ⟨D, L, v, n, m, rfl, S, ho, q⟩ := h
    have hu : (A.deeper (envOfC "join_numbers" (defScope st_join_numbers) s.heap.objs.size fA cdv)).units + 64 < cLine := by have := hr.un; omega
    refine ⟨_, (pss_cons (ps_expr (pe_clS C_look_at_ways_x hr (by decide) (by rfl) (takes_of rfl rfl rfl rfl) (pa_cons (pv 0) pa_nil)))
      pss_never), ?_⟩
    refine st_start (σ' := [some _, some _, some _, none, none, none]) rfl (fun bk ct => ?_)
    wtm_at "vc"
    exact ⟨D, L, v, rfl, S, ho, q⟩
abbrev st_are_there : Stmt := topS 15
theorem sc_are_there : FnScope ["there", "joining", "at", "number"] ["there", "joining"] (defScope st_are_there) := ⟨rfl, rfl, rfl, by decide +kernel, rfl, by decide +kernel, by decide +kernel⟩
/-- what becomes of x by a log: the row that has it, and how often it was read -/
def anc : Int → List (List Int) → Int → Int × Nat
  | _, [], x => (x, 0)
  | k, j :: js, x => if x ∈ j then ((anc (k + 1) js k).1, (anc (k + 1) js k).2 + 1) else anc (k + 1) js x
theorem fol_anc : ∀ (k : Int) (js js' : List (List Int)) (x : Int), fol k (js ++ js') x = (anc k js x).2 + fol (k + js.length) js' (anc k js x).1
  | k, [], js', x => by
    show fol k js' x = 0 + fol (k + ((0 : Nat) : Int)) js' x
    rw [Nat.zero_add, show k + ((0 : Nat) : Int) = k by omega]
  | k, j :: js, js', x => by
    show (if x ∈ j then fol (k + 1) (js ++ js') k + 1 else fol (k + 1) (js ++ js') x) = (if x ∈ j then ((anc (k + 1) js k).1, (anc (k + 1) js k).2 + 1) else anc (k + 1) js x).2 + fol (k + ((js.length + 1 : Nat) : Int)) js' (if x ∈ j then ((anc (k + 1) js k).1, (anc (k + 1) js k).2 + 1) else anc (k + 1) js x).1
    rw [show k + ((js.length + 1 : Nat) : Int) = k + 1 + (js.length : Int) by omega]
    by_cases c : x ∈ j
    · rw [if_pos c, if_pos c, fol_anc (k + 1) js js' k]
      exact Nat.add_right_comm _ _ _
    · rw [if_neg c, if_neg c, fol_anc (k + 1) js js' x]
theorem anc_app : ∀ (k : Int) (js ws : List (List Int)) (x : Int), anc k (js ++ ws) x = ((anc (k + js.length) ws (anc k js x).1).1, (anc k js x).2 + (anc (k + js.length) ws (anc k js x).1).2)
  | k, [], ws, x => by
    show anc k ws x = ((anc (k + ((0 : Nat) : Int)) ws x).1, 0 + (anc (k + ((0 : Nat) : Int)) ws x).2)
    rw [Nat.zero_add, show k + ((0 : Nat) : Int) = k by omega]
  | k, j :: js, ws, x => by
    have e : k + ((j :: js).length : Int) = k + 1 + (js.length : Int) := by rw [List.length_cons]; omega
    rw [e]
    show (if x ∈ j then ((anc (k + 1) (js ++ ws) k).1, (anc (k + 1) (js ++ ws) k).2 + 1) else anc (k + 1) (js ++ ws) x) = _
    have e2 : anc k (j :: js) x = if x ∈ j then ((anc (k + 1) js k).1, (anc (k + 1) js k).2 + 1) else anc (k + 1) js x := rfl
    rw [e2]
    by_cases c : x ∈ j
    · rw [if_pos c, if_pos c, anc_app (k + 1) js ws k]
      refine Prod.ext rfl ?_
      exact Nat.add_right_comm _ _ _
    · rw [if_neg c, if_neg c, anc_app (k + 1) js ws x]
theorem Jn.prm {p k : Int} {th th' : List Int} {js : List (List Int)} (h : Jn p k th js) (hp : th.Perm th') : Jn p k th' js := by
  cases h with
  | done k x =>
    have := List.perm_singleton.mp hp.symm
    rw [this]
    exact .done k x
  | step h1 h2 h3 h4 t => exact .step (hp.symm.trans h1) (hp.nodup_iff.mp h2) h3 h4 t
/-- what is there joined by so many at once: what is there then, the next row's number, the joinings -/
def jo1 (p : Nat) : Nat → List Int → Int → List Int × Int × List (List Int)
  | 0, _, f => ([], f, [])
  | n + 1, xs, f => if xs.length ≤ 1 then (xs, f, []) else (f :: (jo1 p n (xs.drop p) (f + 1)).1, (jo1 p n (xs.drop p) (f + 1)).2.1, srtZ (xs.take p) :: (jo1 p n (xs.drop p) (f + 1)).2.2)
theorem jo1_out (p : Nat) : ∀ (n : Nat) (xs : List Int) (f g a : Int), a ∉ xs → anc g (jo1 p n xs f).2.2 a = (a, 0)
  | 0, _, f, g, a, _ => rfl
  | n + 1, xs, f, g, a, h => by
    unfold jo1
    by_cases c : xs.length ≤ 1
    · rw [if_pos c]
      rfl
    · rw [if_neg c]
      show (if a ∈ srtZ (xs.take p) then _ else anc (g + 1) (jo1 p n (xs.drop p) (f + 1)).2.2 a) = _
      rw [if_neg (fun z => h (List.mem_of_mem_take ((srtZ_perm _).mem_iff.mp z)))]
      exact jo1_out p n _ _ _ a fun z => h (List.mem_of_mem_drop z)
theorem jo1_f (p : Nat) : ∀ (n : Nat) (xs : List Int) (f : Int), (jo1 p n xs f).2.1 = f + (jo1 p n xs f).2.2.length
  | 0, _, f => by show f = f + ((0 : Nat) : Int); omega
  | n + 1, xs, f => by
    unfold jo1
    by_cases c : xs.length ≤ 1
    · rw [if_pos c]
      show f = f + ((0 : Nat) : Int)
      omega
    · rw [if_neg c]
      show (jo1 p n (xs.drop p) (f + 1)).2.1 = f + (((jo1 p n (xs.drop p) (f + 1)).2.2.length + 1 : Nat) : Int)
      rw [jo1_f p n]
      omega
theorem jo1_lt (p : Nat) : ∀ (n : Nat) (xs : List Int) (f : Int), (∀ x, x ∈ xs → x < f) → ∀ x, x ∈ (jo1 p n xs f).1 → x < (jo1 p n xs f).2.1
  | 0, _, f, _, x, hx => nomatch hx
  | n + 1, xs, f, h, x, hx => by
    have hf := jo1_f p n (xs.drop p) (f + 1)
    unfold jo1 at hx ⊢
    by_cases c : xs.length ≤ 1
    · rw [if_pos c] at hx ⊢
      exact h x hx
    · rw [if_neg c] at hx ⊢
      show x < (jo1 p n (xs.drop p) (f + 1)).2.1
      rcases List.mem_cons.mp hx with e | e
      · omega
      · exact jo1_lt p n (xs.drop p) (f + 1) (fun y hy => by have := h y (List.mem_of_mem_drop hy); omega) x e
theorem jo1_anc (p : Nat) (hp : 2 ≤ p) : ∀ (n : Nat) (xs : List Int) (f a : Int), xs.length ≤ n → (∀ x, x ∈ xs → x < f) → a ∈ xs → (anc f (jo1 p n xs f).2.2 a).1 ∈ (jo1 p n xs f).1 ∧ (anc f (jo1 p n xs f).2.2 a).2 ≤ 1
  | 0, xs, f, a, hl, _, ha => by
    have : xs = [] := List.length_eq_zero_iff.mp (by omega)
    rw [this] at ha
    exact nomatch ha
  | n + 1, xs, f, a, hl, h, ha => by
    unfold jo1
    by_cases c : xs.length ≤ 1
    · rw [if_pos c]
      exact ⟨ha, Nat.zero_le _⟩
    · rw [if_neg c]
      have hm : a ∈ srtZ (xs.take p) ↔ a ∈ xs.take p := (srtZ_perm _).mem_iff
      show (if a ∈ srtZ (xs.take p) then ((anc (f + 1) (jo1 p n (xs.drop p) (f + 1)).2.2 f).1, (anc (f + 1) (jo1 p n (xs.drop p) (f + 1)).2.2 f).2 + 1) else anc (f + 1) (jo1 p n (xs.drop p) (f + 1)).2.2 a).1 ∈ f :: (jo1 p n (xs.drop p) (f + 1)).1 ∧ (if a ∈ srtZ (xs.take p) then ((anc (f + 1) (jo1 p n (xs.drop p) (f + 1)).2.2 f).1, (anc (f + 1) (jo1 p n (xs.drop p) (f + 1)).2.2 f).2 + 1) else anc (f + 1) (jo1 p n (xs.drop p) (f + 1)).2.2 a).2 ≤ 1
      by_cases d : a ∈ srtZ (xs.take p)
      · rw [if_pos d]
        have hn : f ∉ xs.drop p := fun z => by have := h f (List.mem_of_mem_drop z); omega
        rw [jo1_out p n (xs.drop p) (f + 1) (f + 1) f hn]
        exact ⟨List.mem_cons_self, Nat.le_refl _⟩
      · rw [if_neg d]
        have hd : a ∈ xs.drop p := by
          rw [← List.take_append_drop p xs] at ha
          rcases List.mem_append.mp ha with e | e
          · exact absurd (hm.mpr e) d
          · exact e
        obtain ⟨i1, i2⟩ := jo1_anc p hp n (xs.drop p) (f + 1) a (by rw [List.length_drop]; omega) (fun y hy => by have := h y (List.mem_of_mem_drop hy); omega) hd
        exact ⟨List.mem_cons_of_mem _ i1, i2⟩
theorem jo1_len (p : Nat) (hp : 2 ≤ p) : ∀ (n : Nat) (xs : List Int) (f : Int), xs.length ≤ n → (jo1 p n xs f).1.length = (xs.length + p - 1) / p
  | 0, xs, f, hl => by
    show 0 = _
    rw [Nat.div_eq_of_lt (by omega)]
  | n + 1, xs, f, hl => by
    unfold jo1
    by_cases c : xs.length ≤ 1
    · rw [if_pos c]
      rcases (by omega : xs.length = 0 ∨ xs.length = 1) with e | e
      · rw [e, Nat.div_eq_of_lt (by omega)]
      · rw [e, show 1 + p - 1 = p by omega, Nat.div_self (by omega)]
    · rw [if_neg c]
      show (jo1 p n (xs.drop p) (f + 1)).1.length + 1 = _
      rw [jo1_len p hp n _ _ (by rw [List.length_drop]; omega), List.length_drop]
      by_cases d : p ≤ xs.length
      · rw [show xs.length + p - 1 = (xs.length - p + p - 1) + p by omega, Nat.add_div_right _ (by omega)]
      · rw [show xs.length - p + p - 1 = p - 1 by omega, Nat.div_eq_of_lt (show p - 1 < p by omega), show xs.length + p - 1 = (xs.length - 1) + p by omega, Nat.add_div_right _ (by omega), Nat.div_eq_of_lt (show xs.length - 1 < p by omega)]
theorem jo1_jn (p : Nat) (hp : 2 ≤ p) : ∀ (n : Nat) (xs un : List Int) (f : Int) (js' : List (List Int)), xs.length ≤ n → (xs ++ un).Nodup → (∀ x, x ∈ xs ++ un → x < f) → Jn (p : Int) (jo1 p n xs f).2.1 ((jo1 p n xs f).1 ++ un) js' → Jn (p : Int) f (xs ++ un) ((jo1 p n xs f).2.2 ++ js')
  | 0, xs, un, f, js', hl, hn, h, t => by
    have : xs = [] := List.length_eq_zero_iff.mp (by omega)
    rw [this]
    exact t
  | n + 1, xs, un, f, js', hl, hn, h, t => by
    unfold jo1 at t ⊢
    by_cases c : xs.length ≤ 1
    · rw [if_pos c] at t ⊢
      exact t
    · rw [if_neg c] at t ⊢
      have t : Jn (p : Int) (jo1 p n (xs.drop p) (f + 1)).2.1 (f :: (jo1 p n (xs.drop p) (f + 1)).1 ++ un) js' := t
      show Jn (p : Int) f (xs ++ un) (srtZ (xs.take p) :: ((jo1 p n (xs.drop p) (f + 1)).2.2 ++ js'))
      have hls : (srtZ (xs.take p)).length = min p xs.length := by rw [(srtZ_perm _).length_eq, List.length_take]
      have hpm : (xs ++ un).Perm (srtZ (xs.take p) ++ (xs.drop p ++ un)) := by
        rw [← List.append_assoc]
        refine List.Perm.append_right un ?_
        have := (srtZ_perm (xs.take p)).symm.append_right (xs.drop p)
        rw [List.take_append_drop] at this
        exact this
      have hnd : (xs.drop p ++ (un ++ [f])).Nodup := by
        rw [← List.append_assoc]
        refine List.nodup_append.mpr ⟨(List.nodup_append.mp (hpm.nodup_iff.mp hn)).2.1, by simp, fun a ha b hb e => ?_⟩
        rw [List.mem_singleton.mp hb] at e
        have := h a (hpm.mem_iff.mpr (List.mem_append_right _ ha))
        omega
      have hlt : ∀ x, x ∈ xs.drop p ++ (un ++ [f]) → x < f + 1 := fun x hx => by
        rw [← List.append_assoc] at hx
        rcases List.mem_append.mp hx with e | e
        · have := h x (hpm.mem_iff.mpr (List.mem_append_right _ e))
          omega
        · rw [List.mem_singleton.mp e]
          omega
      have ih := jo1_jn p hp n (xs.drop p) (un ++ [f]) (f + 1) js' (by rw [List.length_drop]; omega) hnd hlt (t.prm (by
        rw [← List.append_assoc, List.cons_append]
        exact List.perm_append_singleton f _ |>.symm))
      exact .step hpm hn (by omega) (by omega) (by rw [List.append_assoc]; exact ih)
/-- joined at so many numbers, one below the other -/
def njW (p : Nat) : Nat → List Int → Int → Nat → List Int × Int × List (List Int)
  | 0, xs, f, _ => (xs, f, [])
  | n + 1, xs, f, l => if 1 < xs.length ∧ 0 < l then ((njW p n (jo1 p xs.length xs f).1 (jo1 p xs.length xs f).2.1 (l - 1)).1, (njW p n (jo1 p xs.length xs f).1 (jo1 p xs.length xs f).2.1 (l - 1)).2.1, (jo1 p xs.length xs f).2.2 ++ (njW p n (jo1 p xs.length xs f).1 (jo1 p xs.length xs f).2.1 (l - 1)).2.2) else (xs, f, [])
theorem jo1_less {p : Nat} (hp : 2 ≤ p) {xs : List Int} (f : Int) (h : 1 < xs.length) : (jo1 p xs.length xs f).1.length < xs.length := by
  rw [jo1_len p hp _ _ _ (Nat.le_refl _)]
  refine Nat.div_lt_of_lt_mul ?_
  have : 2 * xs.length ≤ p * xs.length := Nat.mul_le_mul_right _ hp
  have h2 : p * 2 ≤ p * xs.length := Nat.mul_le_mul_left _ h
  omega
theorem jo1_kr {p : Nat} (hp : 2 ≤ p) (xs : List Int) (f : Int) : ((jo1 p xs.length xs f).1.length - 1) * p ≤ xs.length - 1 := by
  rw [jo1_len p hp _ _ _ (Nat.le_refl _)]
  rcases Nat.eq_zero_or_pos xs.length with e | e
  · rw [e, Nat.div_eq_of_lt (by omega)]
    omega
  · rw [show xs.length + p - 1 = (xs.length - 1) + p by omega, Nat.add_div_right _ (by omega), Nat.succ_sub_one]
    exact Nat.div_mul_le_self _ _
theorem njW_f (p : Nat) : ∀ (n : Nat) (xs : List Int) (f : Int) (l : Nat), (njW p n xs f l).2.1 = f + (njW p n xs f l).2.2.length
  | 0, xs, f, l => by show f = f + ((0 : Nat) : Int); omega
  | n + 1, xs, f, l => by
    unfold njW
    by_cases c : 1 < xs.length ∧ 0 < l
    · rw [if_pos c]
      have h1 := njW_f p n (jo1 p xs.length xs f).1 (jo1 p xs.length xs f).2.1 (l - 1)
      have h2 := jo1_f p xs.length xs f
      show (njW p n (jo1 p xs.length xs f).1 (jo1 p xs.length xs f).2.1 (l - 1)).2.1 = f + (((jo1 p xs.length xs f).2.2 ++ (njW p n (jo1 p xs.length xs f).1 (jo1 p xs.length xs f).2.1 (l - 1)).2.2).length : Int)
      rw [List.length_append]
      omega
    · rw [if_neg c]
      show f = f + ((0 : Nat) : Int)
      omega
theorem njW_lt (p : Nat) : ∀ (n : Nat) (xs : List Int) (f : Int) (l : Nat), (∀ x, x ∈ xs → x < f) → ∀ x, x ∈ (njW p n xs f l).1 → x < (njW p n xs f l).2.1
  | 0, xs, f, l, h, x, hx => h x hx
  | n + 1, xs, f, l, h, x, hx => by
    unfold njW at hx ⊢
    by_cases c : 1 < xs.length ∧ 0 < l
    · rw [if_pos c] at hx ⊢
      exact njW_lt p n _ _ _ (jo1_lt p _ xs f h) x hx
    · rw [if_neg c] at hx ⊢
      exact h x hx
theorem njW_out (p : Nat) : ∀ (n : Nat) (xs : List Int) (f : Int) (l : Nat) (a : Int), a < f → a ∉ xs → anc f (njW p n xs f l).2.2 a = (a, 0)
  | 0, xs, f, l, a, _, _ => rfl
  | n + 1, xs, f, l, a, h, hn => by
    unfold njW
    by_cases c : 1 < xs.length ∧ 0 < l
    · rw [if_pos c]
      show anc f ((jo1 p xs.length xs f).2.2 ++ (njW p n (jo1 p xs.length xs f).1 (jo1 p xs.length xs f).2.1 (l - 1)).2.2) a = _
      have hf := jo1_f p xs.length xs f
      rw [anc_app, jo1_out p _ _ _ _ _ hn, ← hf]
      have hn2 : a ∉ (jo1 p xs.length xs f).1 := fun z => by
        have key : ∀ (n : Nat) (xs : List Int) (f : Int), a < f → a ∈ (jo1 p n xs f).1 → a ∈ xs := by
          intro n
          induction n with
          | zero => intro xs f _ z; exact nomatch z
          | succ n ih =>
            intro xs f hf z
            unfold jo1 at z
            by_cases c : xs.length ≤ 1
            · rw [if_pos c] at z
              exact z
            · rw [if_neg c] at z
              rcases List.mem_cons.mp z with e | e
              · omega
              · exact List.mem_of_mem_drop (ih _ _ (by omega) e)
        exact hn (key _ _ _ h z)
      rw [njW_out p n _ _ _ a (by omega) hn2]
      rfl
    · rw [if_neg c]
      rfl
theorem njW_anc (p : Nat) (hp : 2 ≤ p) : ∀ (n : Nat) (xs : List Int) (f : Int) (l : Nat) (a : Int), (∀ x, x ∈ xs → x < f) → a ∈ xs → (anc f (njW p n xs f l).2.2 a).1 ∈ (njW p n xs f l).1 ∧ (anc f (njW p n xs f l).2.2 a).2 ≤ l
  | 0, xs, f, l, a, h, ha => ⟨ha, Nat.zero_le _⟩
  | n + 1, xs, f, l, a, h, ha => by
    unfold njW
    by_cases c : 1 < xs.length ∧ 0 < l
    · rw [if_pos c]
      show (anc f ((jo1 p xs.length xs f).2.2 ++ (njW p n (jo1 p xs.length xs f).1 (jo1 p xs.length xs f).2.1 (l - 1)).2.2) a).1 ∈ (njW p n (jo1 p xs.length xs f).1 (jo1 p xs.length xs f).2.1 (l - 1)).1 ∧ (anc f ((jo1 p xs.length xs f).2.2 ++ (njW p n (jo1 p xs.length xs f).1 (jo1 p xs.length xs f).2.1 (l - 1)).2.2) a).2 ≤ l
      have hf := jo1_f p xs.length xs f
      obtain ⟨i1, i2⟩ := jo1_anc p hp xs.length xs f a (Nat.le_refl _) h ha
      rw [anc_app, ← hf]
      obtain ⟨j1, j2⟩ := njW_anc p hp n (jo1 p xs.length xs f).1 (jo1 p xs.length xs f).2.1 (l - 1) _ (jo1_lt p _ xs f h) i1
      exact ⟨j1, by show (anc f (jo1 p xs.length xs f).2.2 a).2 + _ ≤ l; omega⟩
    · rw [if_neg c]
      exact ⟨ha, Nat.zero_le _⟩
theorem jo1_nd (p : Nat) : ∀ (n : Nat) (xs un : List Int) (f : Int), (xs ++ un).Nodup → (∀ x, x ∈ xs ++ un → x < f) → ((jo1 p n xs f).1 ++ un).Nodup ∧ ∀ x, x ∈ (jo1 p n xs f).1 → x ∈ xs ∨ f ≤ x
  | 0, xs, un, f, hn, h => ⟨(List.nodup_append.mp hn).2.1, fun x hx => nomatch hx⟩
  | n + 1, xs, un, f, hn, h => by
    unfold jo1
    by_cases c : xs.length ≤ 1
    · rw [if_pos c]
      exact ⟨hn, fun x hx => .inl hx⟩
    · rw [if_neg c]
      have hs : (xs.drop p ++ un).Sublist (xs ++ un) := (List.drop_sublist p xs).append_right un
      obtain ⟨i1, i2⟩ := jo1_nd p n (xs.drop p) un (f + 1) (hn.sublist hs) (fun x hx => by have := h x (hs.mem hx); omega)
      refine ⟨?_, fun x hx => ?_⟩
      · show (f :: ((jo1 p n (xs.drop p) (f + 1)).1 ++ un)).Nodup
        refine List.nodup_cons.mpr ⟨fun z => ?_, i1⟩
        rcases List.mem_append.mp z with e | e
        · rcases i2 f e with d | d
          · have := h f (List.mem_append_left _ (List.mem_of_mem_drop d))
            omega
          · omega
        · have := h f (List.mem_append_right _ e)
          omega
      · rcases List.mem_cons.mp hx with e | e
        · exact .inr (by omega)
        · rcases i2 x e with d | d
          · exact .inl (List.mem_of_mem_drop d)
          · exact .inr (by omega)
theorem njW_nd (p : Nat) : ∀ (n : Nat) (xs un : List Int) (f : Int) (l : Nat), (xs ++ un).Nodup → (∀ x, x ∈ xs ++ un → x < f) → ((njW p n xs f l).1 ++ un).Nodup ∧ ∀ x, x ∈ (njW p n xs f l).1 ++ un → x < (njW p n xs f l).2.1
  | 0, xs, un, f, l, hn, h => ⟨hn, h⟩
  | n + 1, xs, un, f, l, hn, h => by
    unfold njW
    by_cases c : 1 < xs.length ∧ 0 < l
    · rw [if_pos c]
      have hf := jo1_f p xs.length xs f
      exact njW_nd p n _ un _ _ (jo1_nd p _ xs un f hn h).1 (fun x hx => by
        rcases List.mem_append.mp hx with e | e
        · exact jo1_lt p _ xs f (fun y hy => h y (List.mem_append_left _ hy)) x e
        · have := h x (List.mem_append_right _ e)
          omega)
    · rw [if_neg c]
      exact ⟨hn, h⟩
theorem njW_jn (p : Nat) (hp : 2 ≤ p) : ∀ (n : Nat) (xs un : List Int) (f : Int) (l : Nat) (js' : List (List Int)), (xs ++ un).Nodup → (∀ x, x ∈ xs ++ un → x < f) → Jn (p : Int) (njW p n xs f l).2.1 ((njW p n xs f l).1 ++ un) js' → Jn (p : Int) f (xs ++ un) ((njW p n xs f l).2.2 ++ js')
  | 0, xs, un, f, l, js', hn, h, t => t
  | n + 1, xs, un, f, l, js', hn, h, t => by
    unfold njW at t ⊢
    by_cases c : 1 < xs.length ∧ 0 < l
    · rw [if_pos c] at t ⊢
      have hf := jo1_f p xs.length xs f
      have hlt : ∀ x, x ∈ (jo1 p xs.length xs f).1 ++ un → x < (jo1 p xs.length xs f).2.1 := fun x hx => by
        rcases List.mem_append.mp hx with e | e
        · exact jo1_lt p _ xs f (fun y hy => h y (List.mem_append_left _ hy)) x e
        · have := h x (List.mem_append_right _ e)
          omega
      have ih := njW_jn p hp n _ un _ _ js' (jo1_nd p _ xs un f hn h).1 hlt t
      show Jn (p : Int) f (xs ++ un) (((jo1 p xs.length xs f).2.2 ++ (njW p n (jo1 p xs.length xs f).1 (jo1 p xs.length xs f).2.1 (l - 1)).2.2) ++ js')
      rw [List.append_assoc]
      exact jo1_jn p hp xs.length xs un f _ (Nat.le_refl _) hn h ih
    · rw [if_neg c] at t ⊢
      exact t
theorem njW_kr (p : Nat) (hp : 2 ≤ p) : ∀ (n : Nat) (xs : List Int) (f : Int) (l : Nat), xs.length ≤ n → ((njW p n xs f l).1.length - 1) * p ^ l ≤ xs.length - 1
  | 0, xs, f, l, hl => by
    show (xs.length - 1) * p ^ l ≤ _
    rw [show xs.length - 1 = 0 by omega, Nat.zero_mul]
    exact Nat.le_refl _
  | n + 1, xs, f, l, hl => by
    unfold njW
    by_cases c : 1 < xs.length ∧ 0 < l
    · rw [if_pos c]
      have h1 := jo1_less hp f c.1
      have ih := njW_kr p hp n (jo1 p xs.length xs f).1 (jo1 p xs.length xs f).2.1 (l - 1) (by omega)
      have h2 := jo1_kr hp xs f
      show ((njW p n (jo1 p xs.length xs f).1 (jo1 p xs.length xs f).2.1 (l - 1)).1.length - 1) * p ^ l ≤ xs.length - 1
      rw [show p ^ l = p ^ (l - 1) * p by rw [← Nat.pow_succ]; congr 1; omega, ← Nat.mul_assoc]
      exact Nat.le_trans (Nat.mul_le_mul_right p ih) h2
    · rw [if_neg c]
      by_cases d : 1 < xs.length
      · have : l = 0 := by omega
        rw [this, Nat.pow_zero, Nat.mul_one]
        exact Nat.le_refl _
      · show (xs.length - 1) * p ^ l ≤ _
        rw [show xs.length - 1 = 0 by omega, Nat.zero_mul]
        exact Nat.le_refl _
/-- the next number -/
def nxN : List (Int × Int) → Int
  | [] => 0
  | q :: _ => q.1
/-- the log made of numbers with their rows, the greatest number first -/
def njF (p : Nat) : List (Int × Int) → List Int → Int → List Int × Int × List (List Int)
  | [], th, f => (th, f, [])
  | q :: qs, th, f => ((njF p qs (njW p (th.length + 1) (th ++ [q.2]) f (q.1 - nxN qs).toNat).1 (njW p (th.length + 1) (th ++ [q.2]) f (q.1 - nxN qs).toNat).2.1).1, (njF p qs (njW p (th.length + 1) (th ++ [q.2]) f (q.1 - nxN qs).toNat).1 (njW p (th.length + 1) (th ++ [q.2]) f (q.1 - nxN qs).toNat).2.1).2.1, (njW p (th.length + 1) (th ++ [q.2]) f (q.1 - nxN qs).toNat).2.2 ++ (njF p qs (njW p (th.length + 1) (th ++ [q.2]) f (q.1 - nxN qs).toNat).1 (njW p (th.length + 1) (th ++ [q.2]) f (q.1 - nxN qs).toNat).2.1).2.2)
theorem njF_ok (p : Nat) (hp : 2 ≤ p) : ∀ (qs : List (Int × Int)) (th : List Int) (f : Int), (th ++ qs.map (·.2)).Nodup → (∀ x, x ∈ th ++ qs.map (·.2) → x < f) → qs.Pairwise (fun a b => b.1 ≤ a.1) → (∀ q, q ∈ qs → 0 ≤ q.1) →
    (∀ js', Jn (p : Int) (njF p qs th f).2.1 (njF p qs th f).1 js' → Jn (p : Int) f (th ++ qs.map (·.2)) ((njF p qs th f).2.2 ++ js')) ∧
    (∀ a, a ∈ th → (anc f (njF p qs th f).2.2 a).1 ∈ (njF p qs th f).1 ∧ ((anc f (njF p qs th f).2.2 a).2 : Int) ≤ nxN qs) ∧
    (∀ q, q ∈ qs → (anc f (njF p qs th f).2.2 q.2).1 ∈ (njF p qs th f).1 ∧ ((anc f (njF p qs th f).2.2 q.2).2 : Int) ≤ q.1)
  | [], th, f, hn, h, hs, h0 => by
    refine ⟨fun js' t => ?_, fun a ha => ⟨ha, Int.le_refl _⟩, fun q hq => nomatch hq⟩
    show Jn (p : Int) f (th ++ []) js'
    rw [List.append_nil]
    exact t
  | q :: qs, th, f, hn, h, hs, h0 => by
    obtain ⟨l, hl⟩ : ∃ l, l = (q.1 - nxN qs).toNat := ⟨_, rfl⟩
    have hq0 := h0 q List.mem_cons_self
    have hnx : 0 ≤ nxN qs ∧ nxN qs ≤ q.1 := by
      cases qs with
      | nil => exact ⟨Int.le_refl _, hq0⟩
      | cons r rs => exact ⟨h0 r (List.mem_cons_of_mem _ List.mem_cons_self), (List.pairwise_cons.mp hs).1 r List.mem_cons_self⟩
    have hli : (l : Int) = q.1 - nxN qs := by omega
    have eL : th ++ (q :: qs).map (·.2) = (th ++ [q.2]) ++ qs.map (·.2) := by rw [List.map_cons, List.append_assoc]; rfl
    rw [eL] at hn h ⊢
    obtain ⟨n1, n2⟩ := njW_nd p (th.length + 1) (th ++ [q.2]) (qs.map (·.2)) f l hn h
    obtain ⟨i1, i2, i3⟩ := njF_ok p hp qs (njW p (th.length + 1) (th ++ [q.2]) f l).1 (njW p (th.length + 1) (th ++ [q.2]) f l).2.1 n1 n2 (List.pairwise_cons.mp hs).2 (fun r hr => h0 r (List.mem_cons_of_mem _ hr))
    have hf := njW_f p (th.length + 1) (th ++ [q.2]) f l
    have hlt : ∀ x, x ∈ th ++ [q.2] → x < f := fun x hx => h x (List.mem_append_left _ hx)
    unfold njF
    rw [← hl]
    have key : ∀ a, a ∈ th ++ [q.2] → (anc f ((njW p (th.length + 1) (th ++ [q.2]) f l).2.2 ++ (njF p qs (njW p (th.length + 1) (th ++ [q.2]) f l).1 (njW p (th.length + 1) (th ++ [q.2]) f l).2.1).2.2) a).1 ∈ (njF p qs (njW p (th.length + 1) (th ++ [q.2]) f l).1 (njW p (th.length + 1) (th ++ [q.2]) f l).2.1).1 ∧ ((anc f ((njW p (th.length + 1) (th ++ [q.2]) f l).2.2 ++ (njF p qs (njW p (th.length + 1) (th ++ [q.2]) f l).1 (njW p (th.length + 1) (th ++ [q.2]) f l).2.1).2.2) a).2 : Int) ≤ q.1 := fun a ha => by
      obtain ⟨w1, w2⟩ := njW_anc p hp (th.length + 1) (th ++ [q.2]) f l a hlt ha
      rw [anc_app, ← hf]
      obtain ⟨v1, v2⟩ := i2 _ w1
      refine ⟨v1, ?_⟩
      show (((anc f (njW p (th.length + 1) (th ++ [q.2]) f l).2.2 a).2 + _ : Nat) : Int) ≤ q.1
      omega
    refine ⟨fun js' t => ?_, fun a ha => key a (List.mem_append_left _ ha), fun r hr => ?_⟩
    · show Jn (p : Int) f _ (((njW p (th.length + 1) (th ++ [q.2]) f l).2.2 ++ (njF p qs (njW p (th.length + 1) (th ++ [q.2]) f l).1 (njW p (th.length + 1) (th ++ [q.2]) f l).2.1).2.2) ++ js')
      have t2 := njW_jn p hp _ _ _ f l _ hn h (i1 js' t)
      rw [← List.append_assoc] at t2
      exact t2
    · rcases List.mem_cons.mp hr with e | e
      · rw [e]
        exact key q.2 (List.mem_append_right _ List.mem_cons_self)
      · have hm : r.2 ∈ qs.map (·.2) := List.mem_map.mpr ⟨r, e, rfl⟩
        have ho := njW_out p (th.length + 1) (th ++ [q.2]) f l r.2 (h _ (List.mem_append_right _ hm)) (fun z => (List.nodup_append.mp hn).2.2 _ z _ hm rfl)
        obtain ⟨v1, v2⟩ := i3 r e
        show (anc f ((njW p (th.length + 1) (th ++ [q.2]) f l).2.2 ++ (njF p qs (njW p (th.length + 1) (th ++ [q.2]) f l).1 (njW p (th.length + 1) (th ++ [q.2]) f l).2.1).2.2) r.2).1 ∈ _ ∧ ((anc f ((njW p (th.length + 1) (th ++ [q.2]) f l).2.2 ++ (njF p qs (njW p (th.length + 1) (th ++ [q.2]) f l).1 (njW p (th.length + 1) (th ++ [q.2]) f l).2.1).2.2) r.2).2 : Int) ≤ r.1
        rw [anc_app, ← hf, ho]
        refine ⟨v1, ?_⟩
        show ((0 + _ : Nat) : Int) ≤ r.1
        rw [Nat.zero_add]
        exact v2
theorem njF_kr (p : Nat) (hp : 2 ≤ p) (D : Nat) : ∀ (qs : List (Int × Int)) (th : List Int) (f : Int) (K : Nat), qs.Pairwise (fun a b => b.1 ≤ a.1) → (∀ q, q ∈ qs → 0 ≤ q.1 ∧ q.1.toNat ≤ D) → ((th.length - 1) * p ^ (D - (nxN qs).toNat) < K ∨ (th.length = 0 ∧ qs ≠ [])) → ((njF p qs th f).1.length - 1) * p ^ D < K + kS p D (qs.map fun q => q.1.toNat)
  | [], th, f, K, hs, h0, H => by
    rcases H with H | ⟨_, H⟩
    · exact H
    · exact absurd rfl H
  | q :: qs, th, f, K, hs, h0, H => by
    obtain ⟨l, hl⟩ : ∃ l, l = (q.1 - nxN qs).toNat := ⟨_, rfl⟩
    obtain ⟨hq0, hqD⟩ := h0 q List.mem_cons_self
    have hnx : 0 ≤ nxN qs ∧ nxN qs ≤ q.1 := by
      cases qs with
      | nil => exact ⟨Int.le_refl _, hq0⟩
      | cons r rs => exact ⟨(h0 r (List.mem_cons_of_mem _ List.mem_cons_self)).1, (List.pairwise_cons.mp hs).1 r List.mem_cons_self⟩
    unfold njF
    rw [← hl]
    have hk := njW_kr p hp (th.length + 1) (th ++ [q.2]) f l (by rw [List.length_append, List.length_singleton]; exact Nat.le_refl _)
    rw [List.length_append, List.length_singleton, Nat.add_sub_cancel] at hk
    have H : (th.length - 1) * p ^ (D - q.1.toNat) < K ∨ (th.length = 0 ∧ q :: qs ≠ []) := H
    have h1 : th.length * p ^ (D - q.1.toNat) < K + p ^ (D - q.1.toNat) := by
      have hpos : 0 < p ^ (D - q.1.toNat) := Nat.pow_pos (by omega)
      rcases Nat.eq_zero_or_pos th.length with e | e
      · rw [e, Nat.zero_mul]
        omega
      · rcases H with H | ⟨H, _⟩
        · have : th.length * p ^ (D - q.1.toNat) = (th.length - 1) * p ^ (D - q.1.toNat) + p ^ (D - q.1.toNat) := by
            conv => lhs; rw [show th.length = (th.length - 1) + 1 by omega, Nat.succ_mul]
          omega
        · omega
    have h2 : ((njW p (th.length + 1) (th ++ [q.2]) f l).1.length - 1) * p ^ (D - (nxN qs).toNat) < K + p ^ (D - q.1.toNat) := by
      have e : p ^ (D - (nxN qs).toNat) = p ^ l * p ^ (D - q.1.toNat) := by
        rw [← Nat.pow_add]
        congr 1
        omega
      rw [e, ← Nat.mul_assoc]
      exact Nat.lt_of_le_of_lt (Nat.mul_le_mul_right _ hk) h1
    have ih := njF_kr p hp D qs (njW p (th.length + 1) (th ++ [q.2]) f l).1 (njW p (th.length + 1) (th ++ [q.2]) f l).2.1 (K + p ^ (D - q.1.toNat)) (List.pairwise_cons.mp hs).2 (fun r hr => h0 r (List.mem_cons_of_mem _ hr)) (.inl h2)
    rw [List.map_cons, kS_cons, ← Nat.add_assoc]
    exact ih
/-- a log by which no row is read more often than its number tells -/
theorem nj_log (p : Nat) (hp : 2 ≤ p) {qs : List (Int × Int)} {R : Int} (hn : (qs.map (·.2)).Nodup) (hr : ∀ q, q ∈ qs → q.2 < R) (hs : qs.Pairwise (fun a b => b.1 ≤ a.1)) (h0 : ∀ q, q ∈ qs → 0 ≤ q.1) (h1 : (njF p qs [] R).1.length ≤ 1) (hq : qs ≠ []) : Jn (p : Int) R (qs.map (·.2)) (njF p qs [] R).2.2 ∧ ∀ q, q ∈ qs → (fol R (njF p qs [] R).2.2 q.2 : Int) ≤ q.1 := by
  obtain ⟨i1, i2, i3⟩ := njF_ok p hp qs [] R (by rw [List.nil_append]; exact hn) (fun x hx => by
    rw [List.nil_append] at hx
    obtain ⟨q, hq, e⟩ := List.mem_map.mp hx
    rw [← e]
    exact hr q hq) hs h0
  obtain ⟨q0, hq0⟩ := List.exists_mem_of_ne_nil qs hq
  have hm := (i3 q0 hq0).1
  obtain ⟨t, ht⟩ : ∃ t, (njF p qs [] R).1 = [t] := by
    generalize (njF p qs [] R).1 = zs at hm h1
    match zs, hm, h1 with
    | [], hm, _ => exact nomatch hm
    | [t], _, _ => exact ⟨t, rfl⟩
    | _ :: _ :: _, _, h1 => simp at h1
  refine ⟨?_, fun q hq => ?_⟩
  · have := i1 [] (by rw [ht]; exact .done _ _)
    rw [List.append_nil, List.nil_append] at this
    exact this
  · have := fol_anc R (njF p qs [] R).2.2 [] q.2
    rw [List.append_nil] at this
    rw [this]
    have h9 := (i3 q hq).2
    show (((anc R (njF p qs [] R).2.2 q.2).2 + 0 : Nat) : Int) ≤ q.1
    exact h9
/-- numbers whose sum of 1 by p to their powers is 1 at most have one -/
theorem nj_one (p : Nat) (hp : 2 ≤ p) {qs : List (Int × Int)} {R : Int} (hs : qs.Pairwise (fun a b => b.1 ≤ a.1)) (h0 : ∀ q, q ∈ qs → 0 ≤ q.1) (hq : qs ≠ []) (hk : Kra p (qs.map fun q => q.1.toNat)) : (njF p qs [] R).1.length ≤ 1 := by
  obtain ⟨M, h1, h2⟩ := hk
  have h3 := njF_kr p hp M qs [] R 0 hs (fun q hq => ⟨h0 q hq, h1 _ (List.mem_map.mpr ⟨q, hq, rfl⟩)⟩) (.inr ⟨rfl, hq⟩)
  rw [Nat.zero_add] at h3
  have h4 : ((njF p qs [] R).1.length - 1) * p ^ M < 1 * p ^ M := by omega
  have := Nat.lt_of_mul_lt_mul_right h4
  omega

theorem rsz_pos {len p : Nat} (hp : 1 ≤ p) : Builtin.Range.rangeSize 0 (len : Int) (p : Int) = (((len + p - 1) / p : Nat) : Int) := by
  unfold Builtin.Range.rangeSize
  rw [if_pos (by omega), Int.natCast_ediv, show ((len + p - 1 : Nat) : Int) = (len : Int) + (p : Int) - 1 by omega]
  split
  · rw [show (len : Int) + (p : Int) - 1 = ((len : Int) - 0 - 1) + 1 * (p : Int) by omega, Int.add_mul_ediv_right _ _ (by omega)]
  · rw [show (len : Int) + (p : Int) - 1 = (p : Int) - 1 by omega, Int.ediv_eq_zero_of_lt (by omega) (by omega)]
theorem rgc_pos {len p : Nat} (hp : 1 ≤ p) (hp9 : p ≤ 1000) (hl : len ≤ 1000000) : RgC 0 (len : Int) (p : Int) ((len + p - 1) / p) := by
  refine ⟨by omega, by omega, ?_, rsz_pos hp⟩
  obtain ⟨q, hq⟩ : ∃ q, q = (len + p - 1) / p := ⟨_, rfl⟩
  have hq1 : q ≤ len + p - 1 := by rw [hq]; exact Nat.div_le_self _ _
  unfold Builtin.Range.small
  rw [rsz_pos hp, ← hq, if_pos (show (p : Int) > 0 by omega)]
  simp only [Builtin.Range.rangeFitsLong, Bool.and_eq_true, Bool.or_eq_true, decide_eq_true_eq, beq_iff_eq]
  omega

theorem cut_mdJ (xs : List V) (k m : Nat) : cutV xs (some (k : Int)) (some ((k + m : Nat) : Int)) = (xs.drop k).take m := by
  unfold cutV
  rw [HT.sIx_nat, HT.sIx_nat]
  by_cases c : k ≤ xs.length
  · rw [Nat.min_eq_left c]
    by_cases d : k + m ≤ xs.length
    · rw [Nat.min_eq_left d, show k + m - k = m by omega]
    · rw [Nat.min_eq_right (by omega), List.take_of_length_le (by rw [List.length_drop]; exact Nat.le_refl _), List.take_of_length_le (by rw [List.length_drop]; omega)]
  · rw [List.drop_of_length_le (by omega), List.drop_of_length_le (by omega)]
    simp
theorem jo1_le {p k : Nat} {xs : List Int} {f : Int} (h : xs.length ≤ 1) : jo1 p (k + 1) xs f = (xs, f, []) := if_pos h
theorem jo1_gt {p k : Nat} {xs : List Int} {f : Int} (h : ¬ xs.length ≤ 1) : jo1 p (k + 1) xs f = (f :: (jo1 p k (xs.drop p) (f + 1)).1, (jo1 p k (xs.drop p) (f + 1)).2.1, srtZ (xs.take p) :: (jo1 p k (xs.drop p) (f + 1)).2.2) := if_neg h

theorem jo1_cnt (p : Nat) (hp : 2 ≤ p) : ∀ (n : Nat) (xs : List Int) (f : Int), (jo1 p n xs f).1.length + (jo1 p n xs f).2.2.length ≤ xs.length
  | 0, xs, f => Nat.zero_le _
  | n + 1, xs, f => by
    by_cases c : xs.length ≤ 1
    · rw [jo1_le c]
      exact Nat.le_refl _
    · rw [jo1_gt c]
      have ih := jo1_cnt p hp n (xs.drop p) (f + 1)
      rw [List.length_drop] at ih
      show (jo1 p n (xs.drop p) (f + 1)).1.length + 1 + ((jo1 p n (xs.drop p) (f + 1)).2.2.length + 1) ≤ xs.length
      omega
/-- the numbers with their rows, the greatest first -/
def njO (ns : List Int) : List (Int × Int) := srtP (enP 0 (ns.map fun n => 0 - n))
def ngP (e : Int × Int) : Int × Int := (0 - e.1, e.2)
def njR (p : Nat) (ns : List Int) : Option (List (List Int)) :=
  if 1 < (njF p ((njO ns).map ngP) [] ns.length).1.length ∨ (((njO ns).getLast?.map Prod.fst).getD 0) > 0 then none else some (njF p ((njO ns).map ngP) [] ns.length).2.2
theorem atLj {xs : List V} {v : V} {n : Nat} (hn : xs.length = n + 1) (h : xs[n]? = some v) : atI xs (-1) = some v := by
  unfold atI ixN
  rw [if_neg (by decide), if_pos (by omega), hn]
  show xs[(-1 + ((n + 1 : Nat) : Int)).toNat]? = some v
  rw [show (-1 + ((n + 1 : Nat) : Int)).toNat = n by omega]
  exact h
theorem njW_z (p n : Nat) (xs : List Int) (f : Int) (l : Nat) (h : ¬ (1 < xs.length ∧ 0 < l)) : njW p n xs f l = (xs, f, []) := by
  cases n with
  | zero => rfl
  | succ n => exact if_neg h
theorem njW_s {p n : Nat} {xs : List Int} {f : Int} {l : Nat} (h : 1 < xs.length ∧ 0 < l) : njW p (n + 1) xs f l = ((njW p n (jo1 p xs.length xs f).1 (jo1 p xs.length xs f).2.1 (l - 1)).1, (njW p n (jo1 p xs.length xs f).1 (jo1 p xs.length xs f).2.1 (l - 1)).2.1, (jo1 p xs.length xs f).2.2 ++ (njW p n (jo1 p xs.length xs f).1 (jo1 p xs.length xs f).2.1 (l - 1)).2.2) := if_pos h
/-- more turns than rows change nothing -/
theorem njW_fu {p : Nat} (hp : 2 ≤ p) : ∀ (n m : Nat) (xs : List Int) (f : Int) (l : Nat), xs.length ≤ n + 1 → xs.length ≤ m + 1 → njW p n xs f l = njW p m xs f l
  | 0, m, xs, f, l, h1, h2 => by rw [njW_z p 0 xs f l (by omega), njW_z p m xs f l (by omega)]
  | n + 1, 0, xs, f, l, h1, h2 => by rw [njW_z p (n + 1) xs f l (by omega), njW_z p 0 xs f l (by omega)]
  | n + 1, m + 1, xs, f, l, h1, h2 => by
    by_cases c : 1 < xs.length ∧ 0 < l
    · have h3 := jo1_less hp f c.1
      rw [njW_s c, njW_s c, njW_fu hp n m _ _ _ (by omega) (by omega)]
    · rw [njW_z p _ xs f l c, njW_z p _ xs f l c]

theorem enP_mem : ∀ {xs : List Int} {j : Nat} {e : Int × Int}, e ∈ enP j xs → ∃ i x, xs[i]? = some x ∧ e = (x, ((j + i : Nat) : Int))
  | [], j, e, h => nomatch h
  | x :: xs, j, e, h => by
    rcases List.mem_cons.mp h with h | h
    · exact ⟨0, x, rfl, h⟩
    · obtain ⟨i, y, h1, h2⟩ := enP_mem h
      exact ⟨i + 1, y, h1, by rw [h2, show j + 1 + i = j + (i + 1) by omega]⟩
theorem enP_snd : ∀ (xs : List Int) (j : Nat), (enP j xs).map Prod.snd = (List.range' j xs.length).map fun (i : Nat) => (i : Int)
  | [], _ => rfl
  | x :: xs, j => by
    show (j : Int) :: (enP (j + 1) xs).map Prod.snd = _
    rw [enP_snd xs (j + 1), List.length_cons, List.range'_succ, List.map_cons]
theorem njO_mem {ns : List Int} {q : Int × Int} (h : q ∈ (njO ns).map ngP) : ∃ (i : Nat) (n : Int), ns[i]? = some n ∧ q = (n, (i : Int)) := by
  obtain ⟨e, he, rfl⟩ := List.mem_map.mp h
  obtain ⟨i, x, h1, h2⟩ := enP_mem ((srtP_perm _).mem_iff.mp he)
  rw [List.getElem?_map] at h1
  obtain ⟨n, h3, h4⟩ := Option.map_eq_some_iff.mp h1
  refine ⟨i, n, h3, ?_⟩
  rw [h2, ← h4, Nat.zero_add]
  exact Prod.ext (by show 0 - (0 - n) = n; omega) rfl
theorem njO_in {ns : List Int} {i : Nat} {n : Int} (h : ns[i]? = some n) : (n, (i : Int)) ∈ (njO ns).map ngP := by
  refine List.mem_map.mpr ⟨(0 - n, (i : Int)), (srtP_perm _).mem_iff.mpr ?_, Prod.ext (by show 0 - (0 - n) = n; omega) rfl⟩
  have := enP_get (j := 0) (xs := ns.map fun n => 0 - n) (i := i) (x := 0 - n) (by rw [List.getElem?_map, h]; rfl)
  rw [Nat.zero_add] at this
  exact List.mem_of_getElem? this
theorem njO_len (ns : List Int) : (((njO ns).map ngP).map (·.2)).length = ns.length := by
  rw [List.length_map, List.length_map]
  unfold njO
  rw [srtP_len, enP_len, List.length_map]
theorem njO_rows {ns : List Int} {x : Int} (h : x ∈ ((njO ns).map ngP).map (·.2)) : 0 ≤ x ∧ x < (ns.length : Int) := by
  obtain ⟨q, hq, rfl⟩ := List.mem_map.mp h
  obtain ⟨i, n, h1, h2⟩ := njO_mem hq
  have := (List.getElem?_eq_some_iff.mp h1).1
  rw [h2]
  exact ⟨by show 0 ≤ (i : Int); omega, by show (i : Int) < _; omega⟩
theorem njO_nd (ns : List Int) : (((njO ns).map ngP).map (·.2)).Nodup := by
  have h1 : (((njO ns).map ngP).map (·.2)).Perm ((enP 0 (ns.map fun n => 0 - n)).map Prod.snd) := by
    rw [List.map_map]
    exact (srtP_perm _).map _
  rw [h1.nodup_iff, enP_snd]
  refine List.pairwise_map.mpr ((List.nodup_range' (step := 1)).imp fun {a b} h e => h ?_)
  omega
theorem njO_srt (ns : List Int) : ((njO ns).map ngP).Pairwise (fun a b => b.1 ≤ a.1) := by
  refine List.pairwise_map.mpr ((srtP_srt _).imp fun {a b} h => ?_)
  show 0 - b.1 ≤ 0 - a.1
  unfold leP at h
  omega
theorem njO_fst (ns : List Int) : (((njO ns).map ngP).map fun q => q.1.toNat).Perm (ns.map Int.toNat) := by
  have h1 : ((njO ns).map ngP).Perm ((enP 0 (ns.map fun n => 0 - n)).map ngP) := (srtP_perm _).map _
  refine (h1.map _).trans ?_
  rw [List.map_map]
  have e : ((fun q : Int × Int => q.1.toNat) ∘ ngP) = (fun z : Int => (0 - z).toNat) ∘ Prod.fst := rfl
  rw [e, ← List.map_map, enP_fst, List.map_map]
  have e2 : ((fun z : Int => (0 - z).toNat) ∘ fun n => 0 - n) = Int.toNat := funext fun n => by show (0 - (0 - n)).toNat = n.toNat; congr 1; omega
  rw [e2]
theorem njR_ok {p : Nat} (hp : 2 ≤ p) {ns : List Int} (h1 : 1 ≤ ns.length) (h0 : ∀ x, x ∈ ns → 0 ≤ x) (hk : Kra p (ns.map Int.toNat)) : njR p ns ≠ none ∧ ∀ jj, njR p ns = some jj → Jn (p : Int) (ns.length : Int) (((njO ns).map ngP).map (·.2)) jj ∧ ∀ (i : Nat) (n : Int), ns[i]? = some n → (fol (ns.length : Int) jj (i : Int) : Int) ≤ n := by
  have hq : (njO ns).map ngP ≠ [] := fun e => by
    have := njO_len ns
    rw [e] at this
    simp at this
    omega
  have hq0 : ∀ q, q ∈ (njO ns).map ngP → 0 ≤ q.1 := fun q hq => by
    obtain ⟨i, n, h2, rfl⟩ := njO_mem hq
    exact h0 n (List.mem_of_getElem? h2)
  have hone := nj_one p hp (R := (ns.length : Int)) (njO_srt ns) hq0 hq (hk.perm (njO_fst ns).symm)
  obtain ⟨a1, a2⟩ := nj_log p hp (R := (ns.length : Int)) (njO_nd ns) (fun q hq => by
    obtain ⟨i, n, h2, rfl⟩ := njO_mem hq
    have := (List.getElem?_eq_some_iff.mp h2).1
    show (i : Int) < _
    omega) (njO_srt ns) hq0 hone hq
  have hl : ¬ (((njO ns).getLast?.map Prod.fst).getD 0) > 0 := by
    cases e : (njO ns).getLast? with
    | none => exact Int.lt_irrefl _
    | some z =>
      have hz := List.mem_of_getLast? e
      have := hq0 (ngP z) (List.mem_map.mpr ⟨z, hz, rfl⟩)
      have this : 0 ≤ 0 - z.1 := this
      show ¬ z.1 > 0
      omega
  have hR : njR p ns = some (njF p ((njO ns).map ngP) [] (ns.length : Int)).2.2 := if_neg (fun h => h.elim (fun z => by omega) hl)
  refine ⟨by rw [hR]; exact Option.some_ne_none _, fun jj hj => ?_⟩
  rw [hR] at hj
  cases hj
  exact ⟨a1, fun i n hn => a2 (n, (i : Int)) (njO_in hn)⟩

theorem ljS_jn {p : Nat} (hp : 2 ≤ p) : ∀ (f many fr : Nat) (th : List (Int × Int)), th.length ≤ f → 1 ≤ th.length → (th.map Prod.snd).Nodup → (∀ x, x ∈ th → x.2 < (fr : Int)) → 2 ≤ many → many ≤ p →
    Jn (p : Int) (fr : Int) (th.map Prod.snd) (ljS p f many fr th).2 ∧ (ljS p f many fr th).1 = (th.map fun x => x.1 * (fol (fr : Int) (ljS p f many fr th).2 x.2 : Int)).sum
  | 0, many, fr, th, h1, h2, _, _, _, _ => by omega
  | f + 1, many, fr, th, h1, h2, hn, hf, m2, mp => by
    by_cases c : th.length ≤ 1
    · obtain ⟨x, rfl⟩ := List.length_eq_one_iff.mp (show th.length = 1 by omega)
      have e : ljS p (f + 1) many fr [x] = (0, []) := if_pos (Nat.le_refl 1)
      rw [e]
      refine ⟨.done _ _, ?_⟩
      show (0 : Int) = [x.1 * ((0 : Nat) : Int)].sum
      simp
    · obtain ⟨T, hT⟩ : ∃ T, T = ((th.take many).map Prod.fst).sum := ⟨_, rfl⟩
      obtain ⟨th', hth'⟩ : ∃ th', th' = srtP (th.drop many ++ [(T, (fr : Int))]) := ⟨_, rfl⟩
      have hpm : th'.Perm (th.drop many ++ [(T, (fr : Int))]) := by rw [hth']; exact srtP_perm _
      have hl' : th'.length = th.length - many + 1 := by rw [hpm.length_eq, List.length_append, List.length_drop]; rfl
      have hsn : (th'.map Prod.snd).Perm ((th.drop many).map Prod.snd ++ [(fr : Int)]) := by
        have := hpm.map Prod.snd
        rw [List.map_append] at this
        exact this
      have hdl : ∀ x, x ∈ th.drop many → x.2 < (fr : Int) := fun x hx => hf x (List.mem_of_mem_drop hx)
      have htk : th.map Prod.snd = (th.take many).map Prod.snd ++ (th.drop many).map Prod.snd := by rw [← List.map_append, List.take_append_drop]
      have hn' : (th'.map Prod.snd).Nodup := by
        rw [hsn.nodup_iff]
        refine List.nodup_append.mpr ⟨?_, by simp, fun a ha b hb e => ?_⟩
        · rw [htk] at hn
          exact (List.nodup_append.mp hn).2.1
        · obtain ⟨x, hx, hxa⟩ := List.mem_map.mp ha
          rw [List.mem_singleton] at hb
          have := hdl x hx
          omega
      obtain ⟨i1, i2⟩ := ljS_jn hp f p (fr + 1) th' (by omega) (by omega) hn' (fun x hx => by
        rcases List.mem_append.mp (hpm.mem_iff.mp hx) with h | h
        · have := hdl x h
          omega
        · rw [List.mem_singleton] at h
          rw [h]
          show (fr : Int) < _
          omega) hp (Nat.le_refl p)
      have e : ljS p (f + 1) many fr th = (T + (ljS p f p (fr + 1) th').1, srtZ ((th.take many).map Prod.snd) :: (ljS p f p (fr + 1) th').2) := by
        rw [hth', hT]
        exact if_neg c
      rw [e]
      obtain ⟨js, hjs⟩ : ∃ js, js = (ljS p f p (fr + 1) th').2 := ⟨_, rfl⟩
      rw [← hjs] at i1 i2 ⊢
      have hjl : (srtZ ((th.take many).map Prod.snd)).length = min many th.length := by rw [(srtZ_perm _).length_eq, List.length_map, List.length_take]
      have hjm : ∀ z, z ∈ srtZ ((th.take many).map Prod.snd) ↔ z ∈ (th.take many).map Prod.snd := fun z => (srtZ_perm _).mem_iff
      refine ⟨?_, ?_⟩
      · refine .step (j := srtZ ((th.take many).map Prod.snd)) (rest := (th.drop many).map Prod.snd) ?_ hn (by omega) (by omega) ?_
        · rw [htk]
          exact ((srtZ_perm _).symm).append_right _
        · have := i1.prm hsn
          rw [show ((fr + 1 : Nat) : Int) = (fr : Int) + 1 by omega] at this
          exact this
      · have hF : ∀ z, fol (fr : Int) (srtZ ((th.take many).map Prod.snd) :: js) z = if z ∈ srtZ ((th.take many).map Prod.snd) then fol ((fr : Int) + 1) js (fr : Int) + 1 else fol ((fr : Int) + 1) js z := fun z => rfl
        show T + (ljS p f p (fr + 1) th').1 = _
        rw [i2, psum (hpm.map _), List.map_append, List.sum_append, show ((fr + 1 : Nat) : Int) = (fr : Int) + 1 by omega]
        have hsp : (th.map fun x => x.1 * (fol (fr : Int) (srtZ ((th.take many).map Prod.snd) :: js) x.2 : Int)).sum = ((th.take many).map fun x => x.1 * (fol (fr : Int) (srtZ ((th.take many).map Prod.snd) :: js) x.2 : Int)).sum + ((th.drop many).map fun x => x.1 * (fol (fr : Int) (srtZ ((th.take many).map Prod.snd) :: js) x.2 : Int)).sum := by
          rw [← List.sum_append, ← List.map_append, List.take_append_drop]
        rw [hsp]
        have h5 : ((th.drop many).map fun x => x.1 * (fol (fr : Int) (srtZ ((th.take many).map Prod.snd) :: js) x.2 : Int)) = (th.drop many).map fun x => x.1 * (fol ((fr : Int) + 1) js x.2 : Int) := by
          refine List.map_congr_left fun x hx => ?_
          rw [hF, if_neg]
          intro hz
          have hz := (hjm _).mp hz
          rw [htk] at hn
          exact (List.nodup_append.mp hn).2.2 x.2 hz x.2 (List.mem_map_of_mem hx) rfl
        have h6 : ((th.take many).map fun x => x.1 * (fol (fr : Int) (srtZ ((th.take many).map Prod.snd) :: js) x.2 : Int)) = (th.take many).map fun x => x.1 * ((fol ((fr : Int) + 1) js (fr : Int) : Int) + 1) := by
          refine List.map_congr_left fun x hx => ?_
          rw [hF, if_pos ((hjm _).mpr (List.mem_map_of_mem hx))]
          rfl
        rw [h5, h6]
        have h7 : ∀ (c : Int) (xs : List (Int × Int)), (xs.map fun x => x.1 * c).sum = (xs.map Prod.fst).sum * c := fun c xs => by
          induction xs with
          | nil => simp
          | cons x xs ih => rw [List.map_cons, List.map_cons, List.sum_cons, List.sum_cons, ih, Int.add_mul]
        rw [h7, ← hT]
        simp only [List.map_cons, List.map_nil, List.sum_cons, List.sum_nil]
        rw [Int.mul_add, Int.mul_one]
        omega
/-- the least log is a log, and it reads what is told -/
theorem ljR_jn {p : Nat} (hp : 2 ≤ p) {ls : List Int} (h1 : 1 ≤ ls.length) : Jn (p : Int) (ls.length : Int) ((enP 0 ls).map Prod.snd) (ljR p ls).2 ∧ (ljR p ls).1 = ((enP 0 ls).map fun x => x.1 * (fol (ls.length : Int) (ljR p ls).2 x.2 : Int)).sum := by
  have hf : 2 ≤ fmR p ls.length ∧ fmR p ls.length ≤ p := by
    unfold fmR
    have := Nat.mod_lt (ls.length - 2) (show 0 < p - 1 by omega)
    omega
  have hpm := srtP_perm (enP 0 ls)
  have hnd : ((enP 0 ls).map Prod.snd).Nodup := by
    rw [enP_snd]
    exact List.pairwise_map.mpr ((List.nodup_range' (step := 1)).imp fun {a b} h e => h (by omega))
  obtain ⟨a1, a2⟩ := ljS_jn hp ls.length (fmR p ls.length) ls.length (srtP (enP 0 ls)) (by rw [srtP_len, enP_len]; exact Nat.le_refl _) (by rw [srtP_len, enP_len]; exact h1) ((hpm.map _).nodup_iff.mpr hnd) (fun x hx => by
    obtain ⟨i, y, hy, e⟩ := enP_mem (hpm.mem_iff.mp hx)
    have := (List.getElem?_eq_some_iff.mp hy).1
    rw [e]
    show ((0 + i : Nat) : Int) < _
    omega) hf.1 hf.2
  refine ⟨a1.prm (hpm.map _), ?_⟩
  unfold ljR
  rw [a2]
  exact psum (hpm.map _)
theorem jn_kra {p : Nat} (hp : 1 ≤ p) {k : Int} {th : List Int} {js : List (List Int)} (h : Jn (p : Int) k th js) : Kra p (th.map fun x => fol k js x) := by
  refine ⟨js.length, fun d hd => ?_, ?_⟩
  · obtain ⟨x, _, rfl⟩ := List.mem_map.mp hd
    exact fol_le _ _ _
  · have h1 := (kraft h (by omega) js.length fun x _ => fol_le _ _ _).1
    have e : wt (p : Int) js.length k js th = (kS p js.length (th.map fun x => fol k js x) : Int) := by
      unfold wt kS
      clear h1 h
      induction th with
      | nil => rfl
      | cons x th ih =>
        rw [List.map_cons, List.map_cons, List.map_cons, List.sum_cons, List.sum_cons, ih, Int.natCast_add, Int.natCast_pow]
    rw [e, ← Int.natCast_pow] at h1
    exact Int.ofNat_le.mp h1
/-- the least reading is had by numbers whose sum is 1 at most -/
theorem ljR_att {p : Nat} (hp : 2 ≤ p) {ls : List Int} (h1 : 1 ≤ ls.length) : ∃ ds : List Nat, ds.length = ls.length ∧ Kra p ds ∧ (ljR p ls).1 = csW (ls.zip ds) := by
  obtain ⟨a1, a2⟩ := ljR_jn hp h1
  refine ⟨((enP 0 ls).map Prod.snd).map fun x => fol (ls.length : Int) (ljR p ls).2 x, by rw [List.length_map, List.length_map, enP_len], jn_kra (by omega) a1, ?_⟩
  rw [a2]
  have key : ∀ (xs : List Int) (j : Nat) (F : Int → Nat), ((enP j xs).map fun x => x.1 * (F x.2 : Int)).sum = csW (xs.zip (((enP j xs).map Prod.snd).map F)) := fun xs => by
    induction xs with
    | nil => intro j F; rfl
    | cons x xs ih =>
      intro j F
      show x * (F (j : Int) : Int) + ((enP (j + 1) xs).map fun x => x.1 * (F x.2 : Int)).sum = csW ((x, F (j : Int)) :: xs.zip (((enP (j + 1) xs).map Prod.snd).map F))
      rw [csW_cons, ih]
  exact key ls 0 _

/-- the greatest first -/
def dscZ (ls : List Int) : List Int := (srtZ ls).reverse
/-- the least reading of lengths at so many numbers: the longest at the least -/
def lvL (N ls : List Int) : Int := mulW (dscZ ls) (srtZ N)
theorem dscZ_perm (ls : List Int) : (dscZ ls).Perm ls := (List.reverse_perm _).trans (srtZ_perm ls)
theorem dscZ_len (ls : List Int) : (dscZ ls).length = ls.length := (dscZ_perm ls).length_eq
theorem dscZ_srt (ls : List Int) : (dscZ ls).Pairwise (fun a b => b ≤ a) := by
  unfold dscZ
  rw [List.pairwise_reverse]
  exact srtZ_srt ls
theorem dscZ_uniq {xs ys : List Int} (h : xs.Perm ys) (hx : xs.Pairwise (fun a b => b ≤ a)) : xs = dscZ ys := by
  have : xs.reverse = srtZ ys := srtZ_uniq ((List.reverse_perm _).trans h) (by rw [List.pairwise_reverse]; exact hx)
  unfold dscZ
  rw [← this, List.reverse_reverse]
theorem srtZ_of_perm {xs ys : List Int} (h : xs.Perm ys) : srtZ xs = srtZ ys := srtZ_uniq ((srtZ_perm xs).trans h) (srtZ_srt xs)
theorem dscZ_of_perm {xs ys : List Int} (h : xs.Perm ys) : dscZ xs = dscZ ys := by unfold dscZ; rw [srtZ_of_perm h]
theorem lvL_perm {N xs ys : List Int} (h : xs.Perm ys) : lvL N xs = lvL N ys := by unfold lvL; rw [dscZ_of_perm h]
theorem lvL_permN {N M xs : List Int} (h : N.Perm M) : lvL N xs = lvL M xs := by unfold lvL; rw [srtZ_of_perm h]
theorem lvL_least {N ls : List Int} (hn : ∀ x, x ∈ ls → 0 ≤ x) {ps : List (Int × Int)} {rest : List Int} (h1 : (ps.map Prod.fst).Perm ls) (h2 : N.Perm (ps.map Prod.snd ++ rest)) : lvL N ls ≤ prW ps :=
  rearr (dscZ ls) (srtZ N) ps rest (dscZ_srt ls) (fun a ha => hn a ((dscZ_perm ls).mem_iff.mp ha)) (srtZ_srt N) ((dscZ_perm ls).trans h1.symm) ((srtZ_perm N).trans h2)
theorem lift_perm {α β : Type} [DecidableEq β] (f : α → β) : ∀ (ls : List β) (ps : List α), (ps.map f).Perm ls → ∃ qs : List α, qs.Perm ps ∧ qs.map f = ls
  | [], ps, h => by
    have := h.length_eq
    rw [List.length_map] at this
    have : ps = [] := List.length_eq_zero_iff.mp this
    subst this
    exact ⟨[], List.Perm.refl _, rfl⟩
  | x :: ls, ps, h => by
    obtain ⟨y, hy, hyx⟩ := List.mem_map.mp (h.mem_iff.mpr List.mem_cons_self)
    obtain ⟨s, t, rfl⟩ := List.append_of_mem hy
    have hp : (s ++ y :: t).Perm (y :: (s ++ t)) := List.perm_middle
    have h2 : ((s ++ t).map f).Perm ls := by
      have h3 := (hp.map f).symm.trans h
      rw [List.map_cons, hyx] at h3
      exact h3.cons_inv
    obtain ⟨qs, q1, q2⟩ := lift_perm f ls (s ++ t) h2
    exact ⟨y :: qs, (q1.cons y).trans hp.symm, by rw [List.map_cons, q2, hyx]⟩
theorem zip_fst {α β : Type} : ∀ (xs : List α) (ys : List β), xs.length ≤ ys.length → (xs.zip ys).map Prod.fst = xs ∧ (xs.zip ys).map Prod.snd = ys.take xs.length
  | [], ys, _ => ⟨rfl, by simp⟩
  | x :: xs, [], h => by simp at h
  | x :: xs, y :: ys, h => by
    obtain ⟨h1, h2⟩ := zip_fst xs ys (by simpa using h)
    rw [List.zip_cons_cons, List.map_cons, List.map_cons, h1, h2]
    exact ⟨rfl, rfl⟩
theorem zip_unzip {α β : Type} : ∀ ps : List (α × β), (ps.map Prod.fst).zip (ps.map Prod.snd) = ps
  | [] => rfl
  | p :: ps => by rw [List.map_cons, List.map_cons, List.zip_cons_cons, zip_unzip ps]
theorem mulW_zip : ∀ (A B : List Int), mulW A B = prW (A.zip B)
  | [], B => by cases B <;> rfl
  | a :: A, [] => rfl
  | a :: A, b :: B => by
    rw [List.zip_cons_cons, prW_cons, ← mulW_zip A B]
    unfold mulW
    rw [List.zipWith_cons_cons, List.sum_cons]
/-- numbers by which the least is read -/
theorem lvL_att {N ls : List Int} (h : ls.length ≤ N.length) : ∃ ms rest : List Int, ms.length = ls.length ∧ (ms ++ rest).Perm N ∧ lvL N ls = prW (ls.zip ms) := by
  have hl : (dscZ ls).length ≤ (srtZ N).length := by rw [dscZ_len, (srtZ_perm N).length_eq]; exact h
  obtain ⟨z1, z2⟩ := zip_fst (dscZ ls) (srtZ N) hl
  obtain ⟨qs, q1, q2⟩ := lift_perm Prod.fst ls ((dscZ ls).zip (srtZ N)) (by rw [z1]; exact dscZ_perm ls)
  refine ⟨qs.map Prod.snd, (srtZ N).drop (dscZ ls).length, ?_, ?_, ?_⟩
  · rw [List.length_map, ← q2, List.length_map]
  · have h5 := (q1.map Prod.snd).append_right ((srtZ N).drop (dscZ ls).length)
    rw [z2, List.take_append_drop] at h5
    exact h5.trans (srtZ_perm N)
  · have e : ls.zip (qs.map Prod.snd) = qs := by
      conv => lhs; rw [← q2]
      exact zip_unzip qs
    unfold lvL
    rw [e, mulW_zip, prW_perm q1]
theorem prW_le : ∀ {xs ys ms : List Int}, xs.length = ys.length → (∀ (i : Nat) (x y : Int), xs[i]? = some x → ys[i]? = some y → x ≤ y) → (∀ m, m ∈ ms → 0 ≤ m) → prW (xs.zip ms) ≤ prW (ys.zip ms)
  | [], [], _, _, _, _ => Int.le_refl _
  | [], _ :: _, _, h, _, _ => by simp at h
  | _ :: _, [], _, h, _, _ => by simp at h
  | x :: xs, y :: ys, [], _, _, _ => Int.le_refl _
  | x :: xs, y :: ys, m :: ms, h, hle, hm => by
    have ih := prW_le (xs := xs) (ys := ys) (ms := ms) (by simpa using h) (fun i a b ha hb => hle (i + 1) a b (by simpa using ha) (by simpa using hb)) (fun z hz => hm z (List.mem_cons_of_mem _ hz))
    rw [List.zip_cons_cons, List.zip_cons_cons, prW_cons, prW_cons]
    have h1 := Int.mul_le_mul_of_nonneg_right (hle 0 x y rfl rfl) (hm m List.mem_cons_self)
    show x * m + _ ≤ y * m + _
    omega
theorem lvL_mono {N xs ys : List Int} (hN : ∀ m, m ∈ N → 0 ≤ m) (hx : ∀ x, x ∈ xs → 0 ≤ x) (hl : xs.length = ys.length) (hle : ∀ (i : Nat) (x y : Int), xs[i]? = some x → ys[i]? = some y → x ≤ y) (h : xs.length ≤ N.length) : lvL N xs ≤ lvL N ys := by
  obtain ⟨ms, rest, m1, m2, m3⟩ := lvL_att (N := N) (ls := ys) (by omega)
  rw [m3]
  obtain ⟨z1, z2⟩ := zip_fst xs ms (by omega)
  refine Int.le_trans (lvL_least hx (ps := xs.zip ms) (rest := rest) (by rw [z1]) (by rw [z2, List.take_of_length_le (by omega)]; exact m2.symm)) (prW_le hl hle fun m hm => hN m (m2.mem_iff.mp (List.mem_append_left _ hm)))
theorem prW_app (ps qs : List (Int × Int)) : prW (ps ++ qs) = prW ps + prW qs := by unfold prW; rw [List.map_append, List.sum_append]
theorem lvL_more {N xs : List Int} {x : Int} (hN : ∀ m, m ∈ N → 0 ≤ m) (hx : ∀ y, y ∈ xs → 0 ≤ y) (h0 : 0 ≤ x) (h : xs.length + 1 ≤ N.length) : lvL N xs ≤ lvL N (xs ++ [x]) := by
  obtain ⟨ms, rest, m1, m2, m3⟩ := lvL_att (N := N) (ls := xs ++ [x]) (by rw [List.length_append]; exact h)
  rw [List.length_append] at m1
  rw [m3]
  have e : ms = ms.take xs.length ++ ms.drop xs.length := (List.take_append_drop _ _).symm
  have hd : (ms.drop xs.length).length = 1 := by rw [List.length_drop]; simp only [List.length_cons, List.length_nil] at m1; omega
  obtain ⟨y, hy⟩ := List.length_eq_one_iff.mp hd
  have htl : (ms.take xs.length).length = xs.length := by rw [List.length_take]; omega
  rw [hy] at e
  have hyN : 0 ≤ y := hN y (m2.mem_iff.mp (List.mem_append_left _ (by rw [e]; exact List.mem_append_right _ List.mem_cons_self)))
  rw [e, List.zip_append htl.symm, prW_app]
  have e1 : prW ([x].zip [y]) = x * y := by simp [prW]
  rw [e1]
  have := Int.mul_nonneg h0 hyN
  obtain ⟨z1, z2⟩ := zip_fst xs (ms.take xs.length) (by omega)
  have := lvL_least hx (N := N) (ps := xs.zip (ms.take xs.length)) (rest := [y] ++ rest) (by rw [z1]) (by
    rw [z2, List.take_of_length_le (by omega), ← List.append_assoc, ← e]
    exact m2.symm)
  omega
theorem mulW_scale (c : Int) : ∀ (A B : List Int), mulW (A.map (· * c)) B = mulW A B * c
  | [], B => by cases B <;> simp [mulW]
  | a :: A, [] => by simp [mulW]
  | a :: A, b :: B => by
    have ih := mulW_scale c A B
    unfold mulW at ih ⊢
    rw [List.map_cons, List.zipWith_cons_cons, List.zipWith_cons_cons, List.sum_cons, List.sum_cons, ih, Int.add_mul, Int.mul_right_comm]
theorem srtZ_scale {c : Int} (hc : 0 ≤ c) (xs : List Int) : srtZ (xs.map (· * c)) = (srtZ xs).map (· * c) := by
  refine (srtZ_uniq ((srtZ_perm xs).map _) ?_).symm
  rw [List.pairwise_map]
  exact (srtZ_srt xs).imp fun {a b} h => Int.mul_le_mul_of_nonneg_right h hc
theorem lvL_scale {c : Int} (hc : 0 ≤ c) (N xs : List Int) : lvL N (xs.map (· * c)) = lvL N xs * c := by
  unfold lvL dscZ
  rw [srtZ_scale hc, ← List.map_reverse, mulW_scale]


theorem csW_zipmap {c : Int} : ∀ (ls : List Int) (ds : List Nat), csW ((ls.map (· * c)).zip ds) = csW (ls.zip ds) * c
  | [], ds => by simp [csW]
  | l :: ls, [] => by simp [csW]
  | l :: ls, d :: ds => by rw [List.map_cons, List.zip_cons_cons, List.zip_cons_cons, csW_cons, csW_cons, csW_zipmap ls ds, Int.add_mul, Int.mul_right_comm]
theorem zipN_fst {ls : List Int} {ds : List Nat} (h : ds.length = ls.length) : (ls.zip ds).map Prod.fst = ls ∧ (ls.zip ds).map Prod.snd = ds := by
  obtain ⟨z1, z2⟩ := zip_fst ls ds (by omega)
  exact ⟨z1, by rw [z2, List.take_of_length_le (by omega)]⟩
theorem ljR_lst {p : Nat} (hp : 2 ≤ p) {ls : List Int} (h1 : 1 ≤ ls.length) (hn : ∀ x, x ∈ ls → 0 ≤ x) {ds : List Nat} (hl : ds.length = ls.length) (hk : Kra p ds) : (ljR p ls).1 ≤ csW (ls.zip ds) := by
  obtain ⟨z1, z2⟩ := zipN_fst hl
  exact ljR_least hp h1 hn (ps := ls.zip ds) (by rw [z1]) (by rw [z2]; exact hk)
theorem ljR_scale {p : Nat} (hp : 2 ≤ p) {ls : List Int} (h1 : 1 ≤ ls.length) (hn : ∀ x, x ∈ ls → 0 ≤ x) {c : Int} (hc : 0 < c) : (ljR p (ls.map (· * c))).1 = (ljR p ls).1 * c := by
  obtain ⟨ds, d1, d2, d3⟩ := ljR_att hp h1
  obtain ⟨es, e1, e2, e3⟩ := ljR_att hp (ls := ls.map (· * c)) (by rw [List.length_map]; exact h1)
  rw [List.length_map] at e1
  have a := ljR_lst hp (ls := ls.map (· * c)) (by rw [List.length_map]; exact h1) (fun x hx => by
    obtain ⟨y, hy, rfl⟩ := List.mem_map.mp hx
    exact Int.mul_nonneg (hn y hy) (Int.le_of_lt hc)) (ds := ds) (by rw [List.length_map]; exact d1) d2
  rw [csW_zipmap, ← d3] at a
  have b := ljR_lst hp h1 hn (ds := es) e1 e2
  rw [csW_zipmap] at e3
  have b2 := Int.mul_le_mul_of_nonneg_right b (Int.le_of_lt hc)
  omega
theorem csW_le : ∀ {xs ys : List Int} {ds : List Nat}, xs.length = ys.length → (∀ (i : Nat) (x y : Int), xs[i]? = some x → ys[i]? = some y → x ≤ y) → csW (xs.zip ds) ≤ csW (ys.zip ds)
  | [], [], _, _, _ => Int.le_refl _
  | [], _ :: _, _, h, _ => by simp at h
  | _ :: _, [], _, h, _ => by simp at h
  | x :: xs, y :: ys, [], _, _ => Int.le_refl _
  | x :: xs, y :: ys, d :: ds, h, hle => by
    have ih := csW_le (xs := xs) (ys := ys) (ds := ds) (by simpa using h) (fun i a b ha hb => hle (i + 1) a b (by simpa using ha) (by simpa using hb))
    rw [List.zip_cons_cons, List.zip_cons_cons, csW_cons, csW_cons]
    have h1 := Int.mul_le_mul_of_nonneg_right (hle 0 x y rfl rfl) (show (0 : Int) ≤ (d : Int) by omega)
    show x * (d : Int) + _ ≤ y * (d : Int) + _
    omega
theorem ljR_mono {p : Nat} (hp : 2 ≤ p) {xs ys : List Int} (h1 : 1 ≤ xs.length) (hx : ∀ x, x ∈ xs → 0 ≤ x) (hl : xs.length = ys.length) (hle : ∀ (i : Nat) (x y : Int), xs[i]? = some x → ys[i]? = some y → x ≤ y) : (ljR p xs).1 ≤ (ljR p ys).1 := by
  obtain ⟨ds, d1, d2, d3⟩ := ljR_att hp (ls := ys) (by omega)
  rw [d3]
  exact Int.le_trans (ljR_lst hp h1 hx (by omega) d2) (csW_le hl hle)
theorem ljR_more {p : Nat} (hp : 2 ≤ p) {xs : List Int} {x : Int} (h1 : 1 ≤ xs.length) (hx : ∀ y, y ∈ xs → 0 ≤ y) (h0 : 0 ≤ x) : (ljR p xs).1 ≤ (ljR p (xs ++ [x])).1 := by
  obtain ⟨ds, d1, d2, d3⟩ := ljR_att hp (ls := xs ++ [x]) (by rw [List.length_append]; omega)
  rw [List.length_append] at d1
  have e : ds = ds.take xs.length ++ ds.drop xs.length := (List.take_append_drop _ _).symm
  have hd : (ds.drop xs.length).length = 1 := by rw [List.length_drop]; simp only [List.length_cons, List.length_nil] at d1; omega
  obtain ⟨y, hy⟩ := List.length_eq_one_iff.mp hd
  have htl : (ds.take xs.length).length = xs.length := by rw [List.length_take]; omega
  rw [hy] at e
  rw [d3, e, List.zip_append htl.symm, csW_app]
  have e1 : csW ([x].zip [y]) = x * (y : Int) := by simp [csW]
  rw [e1]
  have := Int.mul_nonneg h0 (show (0 : Int) ≤ (y : Int) by omega)
  rw [e] at d2
  have := ljR_lst hp h1 hx htl d2.sub
  omega
theorem ljR_perm {p : Nat} (hp : 2 ≤ p) {xs ys : List Int} (h1 : 1 ≤ xs.length) (hx : ∀ x, x ∈ xs → 0 ≤ x) (h : xs.Perm ys) : (ljR p xs).1 = (ljR p ys).1 := by
  have key : ∀ {xs ys : List Int}, 1 ≤ xs.length → (∀ x, x ∈ xs → 0 ≤ x) → xs.Perm ys → (ljR p xs).1 ≤ (ljR p ys).1 := fun {xs ys} h1 hx h => by
    obtain ⟨ds, d1, d2, d3⟩ := ljR_att hp (ls := ys) (by rw [← h.length_eq]; exact h1)
    obtain ⟨z1, z2⟩ := zipN_fst d1
    rw [d3]
    exact ljR_least hp h1 hx (ps := ys.zip ds) (by rw [z1]; exact h.symm) (by rw [z2]; exact d2)
  exact Int.le_antisymm (key h1 hx h) (key (by rw [← h.length_eq]; exact h1) (fun x hx2 => hx x (h.mem_iff.mpr hx2)) h.symm)
theorem Kra.up {p : Nat} (hp : 1 ≤ p) : ∀ {ds es : List Nat}, Kra p ds → ds.length = es.length → (∀ (i : Nat) (d e : Nat), ds[i]? = some d → es[i]? = some e → d ≤ e) → Kra p es := by
  intro ds es hk hl hle
  obtain ⟨M, hM, hM2⟩ := id hk
  have hE : ∃ L, (∀ e, e ∈ es → e ≤ L) ∧ (∀ d, d ∈ ds → d ≤ L) := by
    refine ⟨M + es.sum, fun e he => ?_, fun d hd => Nat.le_trans (hM d hd) (Nat.le_add_right _ _)⟩
    have : e ≤ es.sum := by
      clear hle hl
      induction es with
      | nil => cases he
      | cons x es ih =>
        rw [List.sum_cons]
        rcases List.mem_cons.mp he with h | h
        · omega
        · have := ih h; omega
    omega
  obtain ⟨L, hL1, hL2⟩ := hE
  refine ⟨L, hL1, Nat.le_trans ?_ (hk.at hp hL2)⟩
  clear hL1 hL2 hM hM2 hk
  induction ds generalizing es with
  | nil =>
    have : es = [] := List.length_eq_zero_iff.mp (by simpa using hl.symm)
    rw [this]
    exact Nat.le_refl _
  | cons d ds ih =>
    cases es with
    | nil => simp at hl
    | cons e es =>
      rw [kS_cons, kS_cons]
      have h1 := hle 0 d e rfl rfl
      have h2 := ih (by simpa using hl) fun i a b ha hb => hle (i + 1) a b (by simpa using ha) (by simpa using hb)
      have h3 : p ^ (L - e) ≤ p ^ (L - d) := Nat.pow_le_pow_right hp (by omega)
      omega

/-! join_right: what it tells -/
def getN (th : List (Int × Int)) (x : Int) : Int := ((th.find? fun e => decide (e.1 = x)).map Prod.snd).getD 0
def riseB : List Int → Bool
  | x :: y :: r => decide (x < y) && riseB (y :: r)
  | _ => true
def thereB (th : List (Int × Int)) (j : List Int) : Bool := riseB j && j.all fun x => decide (x ∈ th.map Prod.fst)
def offJ (th : List (Int × Int)) (j : List Int) : List (Int × Int) := th.filter fun e => !decide (e.1 ∈ j)
def jrS (p : Nat) : Nat → Int → List (Int × Int) → List (List Int) → Option (Int × Nat)
  | _, _, th, [] => some (0, th.length)
  | many, k, th, j :: js =>
    if th.length < 2 ∨ j.length ≠ many ∨ thereB th j = false then none
    else if srtZ (j.map (getN th)) ≠ (srtZ (th.map Prod.snd)).take many then none
    else (jrS p p (k + 1) (offJ th j ++ [(k, (srtZ (j.map (getN th))).sum)]) js).map fun r => ((srtZ (j.map (getN th))).sum + r.1, r.2)
def jrB (p : Nat) (ls : List Int) (rd : Int) (js : List (List Int)) : Bool := decide (∃ r, jrS p (fmR p ls.length) (ls.length : Int) ((enP 0 ls).map Prod.swap) js = some r ∧ r.2 = 1 ∧ r.1 = rd)
theorem riseB_iff : ∀ xs : List Int, riseB xs = true ↔ xs.Pairwise (· < ·)
  | [] => ⟨(fun _ => List.Pairwise.nil), (fun _ => rfl)⟩
  | [x] => ⟨(fun _ => List.pairwise_singleton _ _), (fun _ => rfl)⟩
  | x :: y :: r => by
    have ih := riseB_iff (y :: r)
    show (decide (x < y) && riseB (y :: r)) = true ↔ _
    rw [Bool.and_eq_true, decide_eq_true_eq, ih]
    constructor
    · rintro ⟨h1, h2⟩
      refine List.pairwise_cons.mpr ⟨fun z hz => ?_, h2⟩
      rcases List.mem_cons.mp hz with e | e
      · omega
      · have := (List.pairwise_cons.mp h2).1 z e
        omega
    · intro h
      obtain ⟨h1, h2⟩ := List.pairwise_cons.mp h
      exact ⟨h1 y List.mem_cons_self, h2⟩
theorem getN_mem {th : List (Int × Int)} (hn : (th.map Prod.fst).Nodup) {e : Int × Int} (he : e ∈ th) : getN th e.1 = e.2 := by
  unfold getN
  induction th with
  | nil => exact nomatch he
  | cons f th ih =>
    rw [List.map_cons, List.nodup_cons] at hn
    rw [List.find?_cons]
    rcases List.mem_cons.mp he with h | h
    · rw [h, decide_eq_true rfl]
      rfl
    · have : f.1 ≠ e.1 := fun z => hn.1 (z ▸ List.mem_map_of_mem h)
      rw [decide_eq_false this]
      exact ih hn.2 h
theorem thereB_iff (th : List (Int × Int)) (j : List Int) : thereB th j = true ↔ j.Pairwise (· < ·) ∧ ∀ x, x ∈ j → x ∈ th.map Prod.fst := by
  unfold thereB
  rw [Bool.and_eq_true, riseB_iff, List.all_eq_true]
  simp only [decide_eq_true_eq]
theorem lt_leZ {xs : List Int} (h : xs.Pairwise (· ≤ ·)) (hn : xs.Nodup) : xs.Pairwise (· < ·) := by
  induction xs with
  | nil => exact List.Pairwise.nil
  | cons x xs ih =>
    obtain ⟨h1, h2⟩ := List.pairwise_cons.mp h
    obtain ⟨d1, d2⟩ := List.nodup_cons.mp hn
    refine List.pairwise_cons.mpr ⟨fun y hy => ?_, ih h2 d2⟩
    have a := h1 y hy
    have b : x ≠ y := fun z => d1 (z ▸ hy)
    omega
/-- the least log is right -/
theorem jr_ljS {p : Nat} (hp : 2 ≤ p) : ∀ (f many fr : Nat) (th D : List (Int × Int)), th.length ≤ f → 1 ≤ th.length → (2 ≤ th.length → many ≤ th.length) → (th.map Prod.snd).Nodup → (∀ x, x ∈ th → x.2 < (fr : Int)) → 2 ≤ many → many ≤ p → (th.length + 1 - many) % (p - 1) = 1 % (p - 1) ∨ th.length = 1 → th.Pairwise leP → D.Perm (th.map Prod.swap) → jrS p many (fr : Int) D (ljS p f many fr th).2 = some ((ljS p f many fr th).1, 1)
  | 0, many, fr, th, D, h1, h2, _, _, _, _, _, _, _, _ => by omega
  | f + 1, many, fr, th, D, h1, h2, hml, hn, hf, m2, mp, hmod, hs, hD => by
    have hDl : D.length = th.length := by rw [hD.length_eq, List.length_map]
    by_cases c : th.length ≤ 1
    · have e : ljS p (f + 1) many fr th = (0, []) := if_pos c
      rw [e]
      show some ((0 : Int), D.length) = _
      rw [hDl, show th.length = 1 by omega]
    · have hml := hml (by omega)
      obtain ⟨T, hT⟩ : ∃ T, T = ((th.take many).map Prod.fst).sum := ⟨_, rfl⟩
      obtain ⟨th', hth'⟩ : ∃ th', th' = srtP (th.drop many ++ [(T, (fr : Int))]) := ⟨_, rfl⟩
      have hpm : th'.Perm (th.drop many ++ [(T, (fr : Int))]) := by rw [hth']; exact srtP_perm _
      have hl' : th'.length = th.length - many + 1 := by rw [hpm.length_eq, List.length_append, List.length_drop]; rfl
      have e : ljS p (f + 1) many fr th = (T + (ljS p f p (fr + 1) th').1, srtZ ((th.take many).map Prod.snd) :: (ljS p f p (fr + 1) th').2) := by
        rw [hth', hT]
        exact if_neg c
      obtain ⟨j, hj⟩ : ∃ j, j = srtZ ((th.take many).map Prod.snd) := ⟨_, rfl⟩
      rw [e, ← hj]
      have hjp : j.Perm ((th.take many).map Prod.snd) := by rw [hj]; exact srtZ_perm _
      have hjl : j.length = many := by rw [hjp.length_eq, List.length_map, List.length_take]; omega
      have htk : th.map Prod.snd = (th.take many).map Prod.snd ++ (th.drop many).map Prod.snd := by rw [← List.map_append, List.take_append_drop]
      rw [htk] at hn
      obtain ⟨hn1, hn2, hn3⟩ := List.nodup_append.mp hn
      have hDf : (D.map Prod.fst).Perm (th.map Prod.snd) := by
        have := hD.map Prod.fst
        rw [List.map_map] at this
        exact this
      have hDs : (D.map Prod.snd).Perm (th.map Prod.fst) := by
        have := hD.map Prod.snd
        rw [List.map_map] at this
        exact this
      have hDn : (D.map Prod.fst).Nodup := by
        rw [hDf.nodup_iff, htk]
        exact hn
      have hthB : thereB D j = true := by
        rw [thereB_iff]
        refine ⟨lt_leZ (by rw [hj]; exact srtZ_srt _) (hjp.nodup_iff.mpr hn1), fun x hx => ?_⟩
        rw [hDf.mem_iff, htk]
        exact List.mem_append_left _ (hjp.mem_iff.mp hx)
      have hgt : (j.map (getN D)).Perm ((th.take many).map Prod.fst) := by
        refine (hjp.map (getN D)).trans ?_
        rw [List.map_map]
        refine List.Perm.of_eq (List.map_congr_left fun e he => ?_)
        have hm : e.swap ∈ D := hD.mem_iff.mpr (List.mem_map_of_mem (List.mem_of_mem_take he))
        exact getN_mem hDn hm
      have hsf : (th.map Prod.fst).Pairwise (· ≤ ·) := by
        rw [List.pairwise_map]
        refine hs.imp fun {a b} h => ?_
        rcases h with h | h <;> omega
      have e1 : srtZ (j.map (getN D)) = (th.take many).map Prod.fst := (srtZ_uniq hgt.symm (by
        rw [List.map_take]
        exact hsf.sublist (List.take_sublist _ _))).symm
      have e2 : (srtZ (D.map Prod.snd)).take many = (th.take many).map Prod.fst := by
        rw [← srtZ_uniq hDs.symm hsf, List.map_take]
      have es : jrS p many (fr : Int) D (j :: (ljS p f p (fr + 1) th').2) = (jrS p p ((fr : Int) + 1) (offJ D j ++ [((fr : Int), (srtZ (j.map (getN D))).sum)]) (ljS p f p (fr + 1) th').2).map fun r => ((srtZ (j.map (getN D))).sum + r.1, r.2) := by
        show (if D.length < 2 ∨ j.length ≠ many ∨ thereB D j = false then none else if srtZ (j.map (getN D)) ≠ (srtZ (D.map Prod.snd)).take many then none else _) = _
        rw [if_neg (fun z => z.elim (fun y => by omega) fun y => y.elim (fun w => w hjl) fun w => by rw [hthB] at w; exact Bool.noConfusion w), if_neg (fun z => z (e1.trans e2.symm))]
      rw [es, e1, ← hT]
      have hmod2 : (th'.length + 1 - p) % (p - 1) = 1 % (p - 1) ∨ th'.length = 1 := by
        rw [hl']
        rcases hmod with h | h
        · rcases (by omega : th.length = many ∨ many < th.length) with g | g
          · right; omega
          · left
            obtain ⟨q, rfl⟩ : ∃ q, p = q + 1 := ⟨p - 1, by omega⟩
            rw [Nat.add_sub_cancel] at h ⊢
            have hqle : q ≤ th.length - many := by
              rcases Nat.lt_or_ge (th.length - many) q with g2 | g2
              · exfalso
                have g3 : (th.length - many) % q = 0 := by
                  have := Nat.sub_mod_eq_zero_of_mod_eq h
                  rw [show th.length + 1 - many - 1 = th.length - many by omega] at this
                  exact this
                rw [Nat.mod_eq_of_lt g2] at g3
                omega
              · exact g2
            rw [show th.length + 1 - many = q + (th.length - many + 1 + 1 - (q + 1)) by omega, Nat.add_mod_left] at h
            exact h
        · omega
      have hpl : 2 ≤ th'.length → p ≤ th'.length := fun g => by
        rcases hmod2 with h | h
        · rcases Nat.lt_or_ge th'.length p with g2 | g2
          · exfalso
            rcases hmod with h5 | h5
            · rw [hl'] at g g2
              have g3 : (th.length - many) % (p - 1) = 0 := by
                have := Nat.sub_mod_eq_zero_of_mod_eq h5
                rw [show th.length + 1 - many - 1 = th.length - many by omega] at this
                exact this
              rw [Nat.mod_eq_of_lt (by omega)] at g3
              omega
            · omega
          · exact g2
        · omega
      have ih := jr_ljS hp f p (fr + 1) th' (offJ D j ++ [((fr : Int), T)]) (by omega) (by omega) hpl (by
          have hsn : (th'.map Prod.snd).Perm ((th.drop many).map Prod.snd ++ [(fr : Int)]) := by
            have := hpm.map Prod.snd
            rw [List.map_append] at this
            exact this
          rw [hsn.nodup_iff]
          refine List.nodup_append.mpr ⟨hn2, by simp, fun a ha b hb e => ?_⟩
          obtain ⟨x, hx, hxa⟩ := List.mem_map.mp ha
          rw [List.mem_singleton] at hb
          have := hf x (List.mem_of_mem_drop hx)
          omega) (fun x hx => by
          rcases List.mem_append.mp (hpm.mem_iff.mp hx) with h | h
          · have := hf x (List.mem_of_mem_drop h)
            omega
          · rw [List.mem_singleton] at h
            rw [h]
            show (fr : Int) < _
            omega) hp (Nat.le_refl p) hmod2 (by rw [hth']; exact srtP_srt _) (by
          refine List.Perm.trans ?_ (hpm.map Prod.swap).symm
          rw [List.map_append]
          refine List.Perm.append ?_ (List.Perm.refl _)
          unfold offJ
          refine (hD.filter _).trans ?_
          rw [← List.take_append_drop many th, List.map_append, List.filter_append, List.take_append_drop]
          have f1 : ((th.take many).map Prod.swap).filter (fun e => !decide (e.1 ∈ j)) = [] := by
            rw [List.filter_eq_nil_iff]
            intro z hz
            obtain ⟨y, hy, rfl⟩ := List.mem_map.mp hz
            rw [show (y.swap).1 = y.2 from rfl, decide_eq_true (hjp.mem_iff.mpr (List.mem_map_of_mem hy))]
            decide
          have f2 : ((th.drop many).map Prod.swap).filter (fun e => !decide (e.1 ∈ j)) = (th.drop many).map Prod.swap := by
            rw [List.filter_eq_self]
            intro z hz
            obtain ⟨y, hy, rfl⟩ := List.mem_map.mp hz
            rw [show (y.swap).1 = y.2 from rfl, decide_eq_false (fun h => hn3 y.2 (hjp.mem_iff.mp h) y.2 (List.mem_map_of_mem hy) rfl)]
            rfl
          rw [f1, f2, List.nil_append])
      rw [show ((fr + 1 : Nat) : Int) = (fr : Int) + 1 by omega] at ih
      rw [ih]
      rfl
theorem jr_least {p : Nat} (hp : 2 ≤ p) {ls : List Int} (h1 : 1 ≤ ls.length) : jrB p ls (ljR p ls).1 (ljR p ls).2 = true := by
  unfold jrB
  rw [decide_eq_true_eq]
  have hf : 2 ≤ fmR p ls.length ∧ fmR p ls.length ≤ p ∧ (2 ≤ ls.length → fmR p ls.length ≤ ls.length) := by
    unfold fmR
    have := Nat.mod_lt (ls.length - 2) (show 0 < p - 1 by omega)
    have := Nat.mod_le (ls.length - 2) (p - 1)
    omega
  have hpm := srtP_perm (enP 0 ls)
  have hl : (srtP (enP 0 ls)).length = ls.length := by rw [srtP_len, enP_len]
  have hnd : ((enP 0 ls).map Prod.snd).Nodup := by
    rw [enP_snd]
    exact List.pairwise_map.mpr ((List.nodup_range' (step := 1)).imp fun {a b} h e => h (by omega))
  refine ⟨_, jr_ljS hp ls.length (fmR p ls.length) ls.length (srtP (enP 0 ls)) _ (by omega) (by omega) (fun h => by rw [hl] at h ⊢; exact hf.2.2 h) ((hpm.map _).nodup_iff.mpr hnd) (fun x hx => by
    obtain ⟨i, y, hy, e⟩ := enP_mem (hpm.mem_iff.mp hx)
    have := (List.getElem?_eq_some_iff.mp hy).1
    rw [e]
    show ((0 + i : Nat) : Int) < _
    omega) hf.1 hf.2.1 ?_ (srtP_srt _) ((hpm.map _).symm), rfl, rfl⟩
  rw [hl]
  rcases (by omega : ls.length = 1 ∨ 2 ≤ ls.length) with g | g
  · exact .inr g
  · left
    unfold fmR
    have h3 := Nat.div_add_mod (ls.length - 2) (p - 1)
    have h4 : ls.length + 1 - ((ls.length - 2) % (p - 1) + 2) = (p - 1) * ((ls.length - 2) / (p - 1)) + 1 := by
      have := Nat.mod_le (ls.length - 2) (p - 1)
      omega
    rw [h4, Nat.mul_add_mod]


theorem rise_all : ∀ xs : List Int, ((List.range (xs.length - 1)).map fun (i : Nat) => decide (xs.getD i 0 < xs.getD (i + 1) 0)).all id = riseB xs
  | [] => rfl
  | [x] => rfl
  | x :: y :: r => by
    have ih := rise_all (y :: r)
    rw [show (x :: y :: r).length - 1 = ((y :: r).length - 1) + 1 from rfl, List.range_succ_eq_map, List.map_cons, List.map_map, List.all_cons]
    show (decide (x < y) && _) = (decide (x < y) && riseB (y :: r))
    rw [← ih]
    rfl
theorem valV_th {th : List (Int × Int)} (x : Int) : valV (th.map entI) (Sum.inl x) = if x ∈ th.map Prod.fst then some (.int (getN th x)) else none := by
  induction th with
  | nil => rfl
  | cons e th ih =>
    by_cases c : e.1 = x
    · have h1 : valV ((e :: th).map entI) (Sum.inl x) = some (.int e.2) := by
        rw [List.map_cons]
        exact valV_pos (p := entI e) (by show Sum.inl e.1 = Sum.inl x; rw [c])
      rw [h1, if_pos (by rw [List.map_cons, c]; exact List.mem_cons_self)]
      unfold getN
      rw [List.find?_cons, decide_eq_true c]
      rfl
    · have h1 : valV ((e :: th).map entI) (Sum.inl x) = valV (th.map entI) (Sum.inl x) := by
        rw [List.map_cons]
        exact valV_neg (p := entI e) (fun z => c (Sum.inl.inj z))
      have h2 : getN (e :: th) x = getN th x := by
        unfold getN
        rw [List.find?_cons, decide_eq_false c]
      rw [h1, ih, h2, List.map_cons]
      by_cases d : x ∈ th.map Prod.fst
      · rw [if_pos d, if_pos (List.mem_cons_of_mem _ d)]
      · rw [if_neg d, if_neg (fun z => (List.mem_cons.mp z).elim (fun w => c w.symm) d)]
theorem drop_th (th : List (Int × Int)) (x : Int) : dropK (th.map entI) (Sum.inl x) = (th.filter fun e => decide (e.1 ≠ x)).map entI := by
  unfold dropK
  rw [List.filter_map]
  congr 1
  refine List.filter_congr fun e _ => ?_
  refine decide_eq_decide.mpr ⟨fun h z => h ?_, fun h z => h (Sum.inl.inj z)⟩
  show Sum.inl e.1 = (Sum.inl x : Key)
  rw [z]
theorem put_th {th : List (Int × Int)} {x v : Int} (h : x ∉ th.map Prod.fst) : putK (th.map entI) (Sum.inl x) (.int v) = (th ++ [(x, v)]).map entI := by
  unfold putK
  rw [if_neg, List.map_append]
  · rfl
  · intro z
    obtain ⟨kv, h1, h2⟩ := List.any_eq_true.mp z
    obtain ⟨e, he, rfl⟩ := List.mem_map.mp h1
    have := of_decide_eq_true h2
    exact h (Sum.inl.inj this ▸ List.mem_map_of_mem he)
theorem enK_th : ∀ (xs : List Int) (j : Nat), enK j (xs.map V.int) = ((enP j xs).map Prod.swap).map entI
  | [], _ => rfl
  | x :: xs, j => congrArg ((Sum.inl (j : Int), V.int x) :: ·) (enK_th xs (j + 1))

theorem jrS_few {p m m' : Nat} {k : Int} {th : List (Int × Int)} (h : th.length < 2) (js : List (List Int)) : jrS p m k th js = jrS p m' k th js := by
  cases js with
  | nil => rfl
  | cons j js =>
    have e : ∀ m, jrS p m k th (j :: js) = none := fun m => if_pos (.inl h)
    rw [e, e]
theorem jrS_no {p m : Nat} {k : Int} {th : List (Int × Int)} {j : List Int} {js : List (List Int)} (h : th.length < 2 ∨ j.length ≠ m ∨ thereB th j = false) : jrS p m k th (j :: js) = none := if_pos h
theorem jrS_no2 {p m : Nat} {k : Int} {th : List (Int × Int)} {j : List Int} {js : List (List Int)} (h : srtZ (j.map (getN th)) ≠ (srtZ (th.map Prod.snd)).take m) : jrS p m k th (j :: js) = none := by
  have e : jrS p m k th (j :: js) = if th.length < 2 ∨ j.length ≠ m ∨ thereB th j = false then none else if srtZ (j.map (getN th)) ≠ (srtZ (th.map Prod.snd)).take m then none else (jrS p p (k + 1) (offJ th j ++ [(k, (srtZ (j.map (getN th))).sum)]) js).map fun r => ((srtZ (j.map (getN th))).sum + r.1, r.2) := rfl
  rw [e]
  by_cases c : th.length < 2 ∨ j.length ≠ m ∨ thereB th j = false
  · rw [if_pos c]
  · rw [if_neg c, if_pos h]
theorem jrS_go {p m : Nat} {k : Int} {th : List (Int × Int)} {j : List Int} {js : List (List Int)} (h1 : ¬ th.length < 2) (h2 : j.length = m) (h3 : thereB th j = true) (h4 : srtZ (j.map (getN th)) = (srtZ (th.map Prod.snd)).take m) : jrS p m k th (j :: js) = (jrS p p (k + 1) (offJ th j ++ [(k, (srtZ (j.map (getN th))).sum)]) js).map fun r => ((srtZ (j.map (getN th))).sum + r.1, r.2) := by
  have e : jrS p m k th (j :: js) = if th.length < 2 ∨ j.length ≠ m ∨ thereB th j = false then none else if srtZ (j.map (getN th)) ≠ (srtZ (th.map Prod.snd)).take m then none else (jrS p p (k + 1) (offJ th j ++ [(k, (srtZ (j.map (getN th))).sum)]) js).map fun r => ((srtZ (j.map (getN th))).sum + r.1, r.2) := rfl
  rw [e, if_neg (fun z => z.elim h1 fun y => y.elim (fun w => w h2) fun w => by rw [h3] at w; exact Bool.noConfusion w), if_neg (fun z => z h4)]

theorem offJ_nil (th : List (Int × Int)) : offJ th [] = th := by
  unfold offJ
  rw [List.filter_eq_self]
  intro e _
  simp
theorem offJ_step {th : List (Int × Int)} {j : List Int} {k : Nat} {x : Int} (h : j[k]? = some x) : (offJ th (j.take k)).filter (fun e => decide (e.1 ≠ x)) = offJ th (j.take (k + 1)) := by
  unfold offJ
  rw [List.filter_filter]
  refine List.filter_congr fun e _ => ?_
  rw [List.take_add_one, h]
  have e1 : (e.1 ∈ j.take k ++ (some x).toList) ↔ (e.1 ∈ j.take k ∨ e.1 = x) := by simp
  by_cases c : e.1 = x
  · rw [decide_eq_true (e1.mpr (.inr c)), decide_eq_false (show ¬ e.1 ≠ x from fun z => z c)]
    rfl
  · by_cases d : e.1 ∈ j.take k
    · rw [decide_eq_true (e1.mpr (.inl d)), decide_eq_true d, Bool.not_true, Bool.and_false]
    · rw [decide_eq_false (fun z => (e1.mp z).elim d c), decide_eq_false d, decide_eq_true (show e.1 ≠ x from c)]
      rfl
theorem offJ_in {th : List (Int × Int)} {j : List Int} (hj : j.Pairwise (· < ·)) {k : Nat} {x : Int} (hm : x ∈ th.map Prod.fst) (h : j[k]? = some x) : x ∈ (offJ th (j.take k)).map Prod.fst := by
  obtain ⟨e, he, rfl⟩ := List.mem_map.mp hm
  refine List.mem_map_of_mem (List.mem_filter.mpr ⟨he, ?_⟩)
  rw [decide_eq_false]
  · rfl
  · intro z
    obtain ⟨i, hi⟩ := List.getElem?_of_mem z
    have hik : i < k := by
      have := (List.getElem?_eq_some_iff.mp hi).1
      rw [List.length_take] at this
      omega
    rw [List.getElem?_take_of_lt hik] at hi
    obtain ⟨h1, h2⟩ := List.getElem?_eq_some_iff.mp hi
    obtain ⟨h3, h4⟩ := List.getElem?_eq_some_iff.mp h
    have := List.pairwise_iff_getElem.mp hj i k h1 h3 hik
    omega

def sp_are_there (K : PySem.W.Frag) : Sp := fun vs H Q _ => ∃ (D : Hp) (L : Own) (d jn : Addr) (th : List (Int × Int)) (xs : List Int), vs = [.ref d, .ref jn] ∧ Sx D ((d, .dK (th.map entI)) :: L) H ∧ Kn D jn (.tup (xs.map V.int)) ∧ xs.length ≤ 1000 ∧
  ∀ H', Sx D ((d, .dK (th.map entI)) :: L) H' → Q (.bl (thereB th xs)) H'
theorem ok_are_there {fA : Addr} {fd : FuncData} (F : Fun K "are_there" "are_there" st_are_there fA fd) (b_all : mg "all" = none) (b_len : mg "len" = none) (b_range : mg "range" = none) : FnOk P w K mg base CX0 1 fA fd ["there", "joining"] (sp_are_there K) := by
  refine F.ok sc_are_there (fun vs H Q E h => ?_) (fun cdv A outer s H vs Q E hr h => ?_)
  · obtain ⟨D, L, d, jn, th, xs, rfl, S, kj, hx, q⟩ := h
    rfl
  · obtain ⟨D, L, d, jn, th, xs, rfl, S, kj, hx, q⟩ := h
    have hu : (A.deeper (envOfC "are_there" (defScope st_are_there) s.heap.objs.size fA cdv)).units + 64 < cLine := by have := hr.un; omega
    refine ⟨_, (pss_cons (ps_if (pt_not (pt_val (pe_callB (r := rAll K) (cr_all rfl) (by rfl) b_all bb_all (pa_cons (pe_lc (own := [("at", 2)]) (tt := tYes) rfl sc_are_there.nd (pi_range2 (by rfl) b_range (pa_cons pe_int (pa_cons (pe_callB (r := rLen K) call_lenN (by rfl) b_len bb_len (pa_cons (pv 1) pa_nil)) pa_nil))) (blkOk_by (N := ["there", "joining", "at", "number"]) (sc := defScope st_are_there) (by decide +kernel)) (fun _ _ _ _ _ => (pg_name (i := 2) sc_are_there.nd rfl (Or.inl rfl))) (fun _ _ _ _ _ => pts_nil) (fun _ _ _ _ _ => (pe_cmpR op_lt (pe_ix (r := rIx K) ix_seq (pv 1) (pe_op op_sub (pv 2) pe_int) (fun _ _ => rfl)) (pe_ix (r := rIx K) ix_seq (pv 1) (pv 2) (fun _ _ => rfl)) (nomark _)))) pa_nil)))) (pss_one (ps_ret pe_bl)) pss_nil)
      (pss_one (ps_ret (pe_callB (r := rAll K) (cr_all rfl) (by rfl) b_all bb_all (pa_cons (pe_lc (own := [("number", 3)]) (tt := tYes) rfl sc_are_there.nd (pi_seqK K (pv 1)) (blkOk_by (N := ["there", "joining", "at", "number"]) (sc := defScope st_are_there) (by decide +kernel)) (fun _ _ _ _ _ => (pg_name (i := 3) sc_are_there.nd rfl (Or.inl rfl))) (fun _ _ _ _ _ => pts_nil) (fun _ _ _ _ _ => (pe_cmp (pc_din (hu1 hu) (pv 3) (pv 0))))) pa_nil))))), ?_⟩
    refine st_start (σ' := [some _, some _, none, none]) rfl (fun bk ct => ?_)
    wtm_at "vc"
    rw [show ((xs.length : Int) - 1).toNat = xs.length - 1 by omega]
    refine lc_vals (walk_rng (lo := 1) (n := xs.length - 1)) (by omega) ((List.range (xs.length - 1)).map fun (i : Nat) => V.bl (decide (xs.getD i 0 < xs.getD (i + 1) 0))) (by rw [List.length_map, List.length_range]) (fun _ _ _ _ => trivial) (fun i v p9 acc H7 H8 hj S7 hy Ad hA => ?_) (fun l1 H7 S7 => ?_)
    · obtain ⟨rfl, rfl⟩ := hy
      have hg : ∀ k, k < xs.length → xs[k]? = some (xs.getD k 0) := fun k hk => by rw [List.getD_eq_getElem?_getD, List.getElem?_eq_getElem hk]; rfl
      have a1 : AtC (xs.map V.int) (1 + (i : Int) - 1) (.int (xs.getD i 0)) := ⟨atN (by omega) (by rw [show (1 + (i : Int) - 1).toNat = i by omega]; exact mapI (hg i (by omega)))⟩
      have a2 : AtC (xs.map V.int) (1 + (i : Int)) (.int (xs.getD (i + 1) 0)) := ⟨atN (by omega) (by rw [show (1 + (i : Int)).toNat = i + 1 by omega]; exact mapI (hg (i + 1) (by omega)))⟩
      wtm_at "vc"
      exact hA _ _ Sx.gw (by rw [List.getElem?_map, List.getElem?_range hj]; rfl)
    have eb : ((List.range (xs.length - 1)).map fun (i : Nat) => V.bl (decide (xs.getD i 0 < xs.getD (i + 1) 0))) = ((List.range (xs.length - 1)).map fun (i : Nat) => decide (xs.getD i 0 < xs.getD (i + 1) 0)).map V.bl := by rw [List.map_map]; rfl
    rw [eb] at S7
    wtm_at "vc"
    rw [rise_all]
    have hthd : thereB th xs = (riseB xs && xs.all fun x => decide (x ∈ th.map Prod.fst)) := rfl
    cases hb : riseB xs with
    | false =>
      wtm_at "vc"
      rw [hb] at hthd
      rw [Bool.false_and] at hthd
      rw [← hthd]
      exact q _ Sx.gc
    | true =>
      rw [hb, Bool.true_and] at hthd
      have S8 : Sx D ((d, .dK (th.map entI)) :: L) H7 := Sx.gc (S := S7)
      wtm_at "vc"
      refine lc_vals (S := S8) (walk_tup (xs := xs.map V.int)) (by rw [List.length_map]; omega) ((xs.map fun x => decide (x ∈ th.map Prod.fst)).map V.bl) (by rw [List.length_map, List.length_map, List.length_map]) (fun p acc H' S' => sqT S' kj.pf) (fun i v p9 acc H9 H10 hj S9 hy Ad hA => ?_) (fun l2 H9 S9 => ?_)
      · obtain ⟨rfl, hv⟩ := hy
        obtain ⟨x, hx, rfl⟩ := getI hv
        wtm_at "vc"
        refine hA _ _ Sx.gw ?_
        rw [List.getElem?_map, List.getElem?_map, hx, valV_th]
        show some (V.bl (decide (x ∈ th.map Prod.fst))) = some (V.bl _)
        split
        · rename_i g; rw [decide_eq_true g]; rfl
        · rename_i g; rw [decide_eq_false g]; rfl
      wtm_at "vc"
      have e : (xs.map fun x => decide (x ∈ th.map Prod.fst)).all id = thereB th xs := by rw [hthd, List.all_map]; rfl
      rw [e]
      exact q _ Sx.gc
abbrev st_first_many : Stmt := topS 13
theorem sc_first_many : FnScope ["p", "rows"] ["p", "rows"] (defScope st_first_many) := ⟨rfl, rfl, rfl, by decide +kernel, rfl, by decide +kernel, by decide +kernel⟩
def sp_first_many (K : PySem.W.Frag) : Sp := fun vs H Q _ => ∃ (p : Int) (R : Nat), vs = [.int p, .int (R : Int)] ∧ 2 ≤ p ∧ p ≤ 7 ∧ 1 ≤ R ∧ ∀ m : Nat, 2 ≤ m → (m : Int) ≤ p → (2 ≤ R → m = fmR p.toNat R) → Q (.int (m : Int)) H
theorem ok_first_many {fA : Addr} {fd : FuncData} (F : Fun K "first_many" "first_many" st_first_many fA fd) : FnOk P w K mg base CX0 1 fA fd ["p", "rows"] (sp_first_many K) := by
  refine F.ok sc_first_many (fun vs H Q E h => ?_) (fun cdv A outer s H vs Q E hr h => ?_)
  · obtain ⟨p, R, rfl, h2, h7, hs, q⟩ := h
    rfl
  · obtain ⟨p, R, rfl, h2, h7, hs, q⟩ := h
    have hu : (A.deeper (envOfC "first_many" (defScope st_first_many) s.heap.objs.size fA cdv)).units + 64 < cLine := by have := hr.un; omega
    refine ⟨_, (pss_one (ps_ret (pe_op (r := rAddX K) opAdd (pe_op op_mod (pe_op op_sub (pv 1) pe_int) (pe_op op_sub (pv 0) pe_int)) pe_int))), ?_⟩
    refine st_start (σ' := [some _, some _]) rfl (fun bk ct => ?_)
    wtm_at "vc"
    have e0 := Int.emod_nonneg ((R : Int) - 2) (show p - 1 ≠ 0 by omega)
    have e1 := Int.emod_lt_of_pos ((R : Int) - 2) (show 0 < p - 1 by omega)
    have h := q (((R : Int) - 2) % (p - 1) + 2).toNat (by omega) (by omega) (fun h => by
      unfold fmR
      have e3 : ((R : Int) - 2) % (p - 1) = (((R - 2) % (p.toNat - 1) : Nat) : Int) := by
        rw [Int.natCast_emod]
        congr 1
        · omega
        · omega
      omega)
    rw [Int.toNat_of_nonneg (by omega)] at h
    exact h
abbrev st_join_right : Stmt := topS 16
theorem sc_join_right : FnScope ["p", "lengths", "told", "reading", "log", "there", "many", "read", "at", "joining", "taken", "number"] ["p", "lengths", "told"] (defScope st_join_right) := ⟨rfl, rfl, rfl, by decide +kernel, rfl, by decide +kernel, by decide +kernel⟩
def sp_join_right (K : PySem.W.Frag) : Sp := fun vs H Q _ => ∃ (D : Hp) (L : Own) (a t lg : Addr) (p : Nat) (ls : List Int) (rd : Int) (us : List V) (js : List (List Int)), vs = [.int (p : Int), .ref a, .ref t] ∧ 2 ≤ p ∧ p ≤ 7 ∧ Sx D L H ∧ Ks D a (ls.map V.int) ∧ 1 ≤ ls.length ∧ ls.length ≤ 1000 ∧ Kn D t (.tup [.int rd, .ref lg]) ∧ Ks D lg us ∧ RpAll D us (js.map tI) ∧ js.length ≤ 1000 ∧ (∀ j, j ∈ js → j.length ≤ 1000) ∧
  ∀ D' H', Sx D' L H' → Sm D D' → Q (.bl (jrB p ls rd js)) H'
theorem ok_join_right {fA : Addr} {fd : FuncData} (F : Fun K "join_right" "join_right" st_join_right fA fd) (b_dict : mg "dict" = none) (b_enumerate : mg "enumerate" = none) (b_len : mg "len" = none) (b_sorted : mg "sorted" = none) (b_sum : mg "sum" = none)
    (C_are_there : Cl P w K mg base CX0 1 "are_there" ["there", "joining"] (sp_are_there K))
    (C_first_many : Cl P w K mg base CX0 1 "first_many" ["p", "rows"] (sp_first_many K))
    (C_look_at_ways : Cl P w K mg base CX0 2 "look_at_ways" ["p"] (sp_look_at_ways K)) : FnOk P w K mg base CX0 3 fA fd ["p", "lengths", "told"] (sp_join_right K) := by
  refine F.ok sc_join_right (fun vs H Q E h => ?_) (fun cdv A outer s H vs Q E hr h => ?_)
  · obtain ⟨D, L, a, t, lg, p, ls, rd, us, js, rfl, h2, h7, S, ka, hl1, hl4, kt, klg, hU, hj, hjl, q⟩ := h
    rfl
  · obtain ⟨D, L, a, t, lg, p, ls, rd, us, js, rfl, h2, h7, S, ka, hl1, hl4, kt, klg, hU, hj, hjl, q⟩ := h
    have hu : (A.deeper (envOfC "join_right" (defScope st_join_right) s.heap.objs.size fA cdv)).units + 64 < cLine := by have := hr.un; omega
    refine ⟨_, (pss_cons (ps_expr (pe_cl C_look_at_ways hr (by decide) (by rfl) (pa_cons (pv 0) pa_nil)))
      (pss_cons (ps_asg (pv 2) (pg_tupK K 2 rfl (pgs_cons (pg_name (i := 3) sc_join_right.nd rfl (Or.inl rfl)) (pgs_cons (pg_name (i := 4) sc_join_right.nd rfl (Or.inl rfl)) pgs_nil))))
      (pss_cons (ps_set (i := 5) sc_join_right.nd rfl (Or.inr rfl) (pe_dictEnX K rfl (by rfl) b_dict (by rfl) b_enumerate (pa_cons (pv 1) pa_nil)))
      (pss_cons (ps_set (i := 6) sc_join_right.nd rfl (Or.inl rfl) (pe_cl C_first_many hr (by decide) (by rfl) (pa_cons (pv 0) (pa_cons (pe_callB (r := rLen K) call_lenN (by rfl) b_len bb_len (pa_cons (pv 1) pa_nil)) pa_nil))))
      (pss_cons (ps_set (i := 7) sc_join_right.nd rfl (Or.inl rfl) pe_int)
      (pss_cons (ps_for PassesOwn.never rfl (pi_enX K (by rfl) b_enumerate (pa_cons (pv 4) pa_nil)) (pg_tupK K 2 rfl (pgs_cons (pg_name (i := 8) sc_join_right.nd rfl (Or.inl rfl)) (pgs_cons (pg_name (i := 9) sc_join_right.nd rfl (Or.inl rfl)) pgs_nil)))
      (pss_cons (ps_if (PW.pt (pw_or (pt_cmpR op_lt (pe_callB (r := rLenD) call_lenDD (by rfl) b_len bb_len (pa_cons (pv 5) pa_nil)) pe_int (nomark _)) (pw_or (pt_cmpR (r := rNeX K) (opNe hu) (pe_callB (r := rLen K) call_lenN (by rfl) b_len bb_len (pa_cons (pv 9) pa_nil)) (pv 6) (nomark _)) (pw_or1 (pt_not (pt_val (pe_cl C_are_there hr (by decide) (by rfl) (pa_cons (pv 5) (pa_cons (pv 9) pa_nil))))))))) (pss_one (ps_ret pe_bl)) pss_nil)
      (pss_cons (ps_set (i := 10) sc_join_right.nd rfl (Or.inl rfl) (pe_callB (r := rSortedW K) cr_sortedW (by rfl) b_sorted bb_sorted (pa_cons (pe_lc (own := [("number", 11)]) (tt := tYes) rfl sc_join_right.nd (pi_seqK K (pv 9)) (blkOk_by (N := ["p", "lengths", "told", "reading", "log", "there", "many", "read", "at", "joining", "taken", "number"]) (sc := defScope st_join_right) (by decide +kernel)) (fun _ _ _ _ _ => (pg_name (i := 11) sc_join_right.nd rfl (Or.inl rfl))) (fun _ _ _ _ _ => pts_nil) (fun _ _ _ _ _ => (pe_dget (hu1 hu) (pv 5) (pv 11) (fun _ _ => rfl)))) pa_nil)))
      (pss_cons (ps_if (pt_cmpR (r := rNeX K) (opNe hu) (pv 10) (pe_slice (r := rSlX K) slX (pe_callB (r := rSortVs) (cr_sortVs rfl) (by rfl) b_sorted bb_sorted (pa_cons (pe_mG0 (r := rValsK) ty_dKF PySem.F.plainAttrs_dict PySem.F.slot_dict_values PySem.F.type_dict_values mt_valsK (pv 5)) pa_nil)) po_none (po_some (pv 6))) (nomark _)) (pss_one (ps_ret pe_bl)) pss_nil)
      (pss_cons (ps_for PassesOwn.never rfl (pi_seqK K (pv 9)) (pg_name (i := 11) sc_join_right.nd rfl (Or.inl rfl))
      (pss_one (ps_expr (pe_dpop1 (pv 5) (pv 11) (by exact ⟨rfl, rfl, rfl, rfl⟩)))))
      (pss_cons (ps_dput (hu1 hu) (pv 5) (pe_op (r := rAddX K) opAdd (pe_callB (r := rLen K) call_lenN (by rfl) b_len bb_len (pa_cons (pv 1) pa_nil)) (pv 8)) (pe_callB (r := rSumX K) (cr_sumX rfl) (by rfl) b_sum bb_sum (pa_cons (pv 10) pa_nil)) rfl)
      (pss_cons (ps_set (i := 7) sc_join_right.nd rfl (Or.inl rfl) (pe_op (r := rAddX K) opAdd (pv 7) (pe_callB (r := rSumX K) (cr_sumX rfl) (by rfl) b_sum bb_sum (pa_cons (pv 10) pa_nil))))
      (pss_one (ps_set (i := 6) sc_join_right.nd rfl (Or.inl rfl) (pv 0))))))))))
      (pss_one (ps_ret (pe_and (pe_cmpR (r := rEqX K) (opEq hu) (pe_callB (r := rLenD) call_lenDD (by rfl) b_len bb_len (pa_cons (pv 5) pa_nil)) pe_int (nomark _)) (pe_one (pe_cmpR (r := rEqX K) (opEq hu) (pv 7) (pv 3) (nomark _)))))))))))), ?_⟩
    refine st_start (σ' := [some _, some _, some _, none, none, none, none, none, none, none, none, none]) rfl (fun bk ct => ?_)
    wtm_at "vc"
    refine ⟨(p : Int), rfl, by omega, by omega, ?_⟩
    wtm_at "vc"
    rename_i d H1 S1
    rw [enK_th] at S1
    wtm_at "vc"
    refine ⟨(p : Int), ls.length, rfl, by omega, by omega, hl1, fun m0 m2 m3 hm0 => ?_⟩
    wtm_at "vc"
    rename_i J G hW hG
    obtain ⟨th0, hth0⟩ : ∃ th0, th0 = (enP 0 ls).map Prod.swap := ⟨_, rfl⟩
    have hth0l : th0.length = ls.length := by rw [hth0, List.length_map, enP_len]
    have hk0 : (th0.map Prod.fst).Nodup ∧ ∀ e, e ∈ th0 → e.1 < (ls.length : Int) := by
      have e1 : th0.map Prod.fst = (enP 0 ls).map Prod.snd := by rw [hth0, List.map_map]; rfl
      refine ⟨?_, fun e he => ?_⟩
      · rw [e1, enP_snd]
        exact List.pairwise_map.mpr ((List.nodup_range' (step := 1)).imp fun {a b} h e => h (by omega))
      · rw [hth0] at he
        obtain ⟨e', he', rfl⟩ := List.mem_map.mp he
        obtain ⟨i, y, hy, e⟩ := enP_mem he'
        have := (List.getElem?_eq_some_iff.mp hy).1
        rw [e]
        show ((0 + i : Nat) : Int) < _
        omega
    have hJ0 : jrS p (fmR p ls.length) (ls.length : Int) th0 js = (jrS p m0 (ls.length : Int) th0 js).map fun r => (0 + r.1, r.2) := by
      have e : (fun r : Int × Nat => (0 + r.1, r.2)) = id := funext fun r => Prod.ext (Int.zero_add _) rfl
      rw [e, Option.map_id]
      rcases (by omega : ls.length = 1 ∨ 2 ≤ ls.length) with g | g
      · exact jrS_few (by omega) _
      · rw [hm0 g, Int.toNat_natCast]
        rfl
    have hus : us.length = js.length := by have := hU.length; rw [List.length_map] at this; exact this
    rw [← hth0] at S1
    have hB : jrB p ls rd js = decide (∃ r, jrS p (fmR p ls.length) (ls.length : Int) th0 js = some r ∧ r.2 = 1 ∧ r.1 = rd) := by rw [hth0]; rfl
    refine for_go hW (fun i σ H => ∃ (th : List (Int × Int)) (m : Nat) (rn : Int) (x8 x9 x10 x11 : Option V) (D2 : Hp), σ = [some (.int (p : Int)), some (.ref a), some (.ref t), some (.int rd), some (.ref lg), some (.ref d), some (.int (m : Int)), some (.int rn), x8, x9, x10, x11] ∧ Sm D D2 ∧ Sx D2 ((d, .dK (th.map entI)) :: L) H ∧ (th.map Prod.fst).Nodup ∧ (∀ e, e ∈ th → e.1 < (ls.length : Int) + (i : Int)) ∧ th.length ≤ 1000 + i ∧ jrS p (fmR p ls.length) (ls.length : Int) th0 js = (jrS p m ((ls.length : Int) + (i : Int)) th (js.drop i)).map fun r => (rn + r.1, r.2))
      ⟨th0, m0, 0, _, _, _, _, D, rfl, Sm.rfl', S1, hk0.1, (fun e he => by have := hk0.2 e he; omega), by omega, by rw [show (ls.length : Int) + ((0 : Nat) : Int) = (ls.length : Int) by omega]; exact hJ0⟩ (fun i σ H hi ⟨th, m, rn, x8, x9, x10, x11, D2, es, e2, S2, _⟩ => hG _ _ _ S2 e2) (fun i v σ H2 H3 hi ⟨th, m, rn, x8, x9, x10, x11, D2, es, e2, S2, hkn, hkl, htl, hI⟩ hy nx bk hN => ?_) (fun σ H2 ⟨th, m, rn, x8, x9, x10, x11, D2, es, e2, S2, hkn, hkl, htl, hI⟩ => ?_)
    rotate_left
    · subst es
      rw [hus, List.drop_of_length_le (Nat.le_refl _)] at hI
      have hI : jrS p (fmR p ls.length) (ls.length : Int) th0 js = some (rn + 0, th.length) := hI
      have hB2 : jrB p ls rd js = (decide (th.length = 1) && decide (rn = rd)) := by
        rw [hB, hI, ← Bool.decide_and]
        refine decide_eq_decide.mpr ⟨fun ⟨r, h1, h2, h3⟩ => ?_, fun ⟨h1, h2⟩ => ⟨_, rfl, h1, by rw [h2]; exact Int.add_zero _⟩⟩
        cases h1
        exact ⟨h2, by rw [← h3]; exact (Int.add_zero _).symm⟩
      wtm_at "vc"
      rw [List.length_map]
      refine if_d (fun c => ?_) (fun c => ?_)
      · wtm_at "vc"
        rw [decide_eq_true (show th.length = 1 by omega), Bool.true_and] at hB2
        rw [← hB2]
        exact q D2 _ Sx.gc e2
      · rw [decide_eq_false (show ¬ th.length = 1 by omega), Bool.false_and] at hB2
        rw [← hB2]
        exact q D2 _ Sx.gc e2
    obtain ⟨T, y1, z, D8, rfl, h1, hv, e8, hT, S8⟩ := pair_step hy
    cases h1
    subst es
    obtain ⟨c, j, rfl, hjt, kc⟩ := ra_getT (hU.up (up : Sm D D8).e) hv
    have hdr : js.drop i = j :: js.drop (i + 1) := by
      obtain ⟨h3, h4⟩ := List.getElem?_eq_some_iff.mp hjt
      rw [← h4]
      exact List.drop_eq_getElem_cons h3
    rw [hdr] at hI
    have hjl2 := hjl j (List.mem_of_getElem? hjt)
    have fail : jrS p m ((ls.length : Int) + (i : Int)) th (j :: js.drop (i + 1)) = none → jrB p ls rd js = false := fun h => by
      rw [h] at hI
      rw [hB, hI]
      exact decide_eq_false fun ⟨r, h1, _⟩ => nomatch h1
    wtm_at "vc"
    rw [List.length_map]
    refine if_d (fun c1 => ?_) (fun c1 => ?_)
    · wtm_at "vc"
      rw [← fail (jrS_no (.inl (by omega)))]
      exact q D8 _ Sx.gc up
    wtm_at "vc"
    by_cases c2 : (j.length : Int) = (m : Int)
    rotate_left
    · rw [decide_eq_false c2]
      wtm_at "vc"
      rw [← fail (jrS_no (.inr (.inl (by omega))))]
      exact q D8 _ Sx.gc up
    rw [decide_eq_true c2]
    wtm_at "vc"
    refine ⟨D8, L, d, c, th, j, rfl, S8, kc, hjl2, fun H4 S9 => ?_⟩
    cases c3 : thereB th j with
    | false =>
      wtm_at "vc"
      rw [← fail (jrS_no (.inr (.inr c3)))]
      exact q D8 _ Sx.gc up
    | true =>
      obtain ⟨hr1, hr2⟩ := (thereB_iff th j).mp c3
      wtm_at "vc"
      refine lc_vals (S := S9) (walk_tup (xs := j.map V.int)) (by rw [List.length_map]; omega) ((j.map (getN th)).map V.int) (by rw [List.length_map, List.length_map, List.length_map]) (fun p acc H' S' => sqT S' kc.pf) (fun k v p9 acc H9 H10 hk S10 hy Ad hA => ?_) (fun l2 H9 S10 => ?_)
      · obtain ⟨rfl, hv9⟩ := hy
        obtain ⟨x, hx, rfl⟩ := getI hv9
        have hd : DvC (th.map entI) x (.int (getN th x)) := ⟨by rw [valV_th, if_pos (hr2 x (List.mem_of_getElem? hx))]⟩
        wtm_at "vc"
        exact hA _ _ Sx.gw (by rw [List.getElem?_map, List.getElem?_map, hx]; rfl)
      wtm_at "vc"
      rename_i n1 hp1 hs1 l1 H5 S5 pv D9 H6 S6 e9 kv ys hp2 hs2 l2' H7 S7 l3 H11 S11
      obtain rfl := srtZ_uniq hp1 hs1
      obtain rfl := srtZ_uniq hp2 hs2
      have ecu : cutV ((srtZ (th.map fun x => x.2)).map V.int) none (some (m : Int)) = ((srtZ (th.map Prod.snd)).take m).map V.int := by rw [cut_to, List.map_take]
      rw [ecu] at S11
      wtm_at "vc"
      by_cases c4 : srtZ (j.map (getN th)) = (srtZ (th.map Prod.snd)).take m
      rotate_left
      · rw [decide_eq_false c4]
        wtm_at "vc"
        rw [← fail (jrS_no2 c4)]
        exact q D9 _ Sx.gc up
      rw [decide_eq_true c4]
      obtain ⟨TK, hTK⟩ : ∃ TK, TK = srtZ (j.map (getN th)) := ⟨_, rfl⟩
      have hgo := jrS_go (p := p) (k := (ls.length : Int) + (i : Int)) (js := js.drop (i + 1)) (show ¬ th.length < 2 by omega) (show j.length = m by omega) c3 c4
      rw [← hTK] at S11 hgo
      have kc9 : Kn D9 c (.tup (j.map V.int)) := inferInstance
      have S12 : Sx D9 ((d, .dK (th.map entI)) :: (l1, .lst (TK.map V.int)) :: L) H11 := by
        have := Sx.gc (S := S11) (L := (l1, .lst (TK.map V.int)) :: (d, .dK (th.map entI)) :: L)
        exact Sx.swap this
      wtm_at "vc"
      refine for_go (walk_tup (xs := j.map V.int)) (fun k σ H => ∃ (x11 : Option V), σ = [some (.int (p : Int)), some (.ref a), some (.ref t), some (.int rd), some (.ref lg), some (.ref d), some (.int (m : Int)), some (.int rn), some (.int (i : Int)), some (.ref c), some (.ref l1), x11] ∧ Sx D9 ((d, .dK ((offJ th (j.take k)).map entI)) :: (l1, .lst (TK.map V.int)) :: L) H)
        ⟨_, rfl, by rw [List.take_zero, offJ_nil]; exact S12⟩ (fun k σ H hk ⟨x11, es, S5⟩ => sqT S5 kc9.pf) (fun k v σ H5 H6 hk ⟨x11, es, S5⟩ hy nx2 bk2 hN2 => ?_) (fun σ H5 ⟨x11, es, S5⟩ => ?_)
      · obtain ⟨rfl, hv9⟩ := hy
        obtain ⟨x, hx, rfl⟩ := getI hv9
        subst es
        have hin := offJ_in hr1 (hr2 x (List.mem_of_getElem? hx)) hx
        have hd : DvC ((offJ th (j.take k)).map entI) x (.int (getN (offJ th (j.take k)) x)) := ⟨by rw [valV_th, if_pos hin]⟩
        wtm_at "vc"
        rename_i H8 S8
        rw [drop_th, offJ_step hx] at S8
        exact hN2 _ _ ⟨_, rfl, S8⟩
      subst es
      rw [List.length_map, List.take_length] at S5
      have hofl : (offJ th j).length ≤ th.length := List.length_filter_le _ _
      have hofk : ∀ e, e ∈ offJ th j → e.1 < (ls.length : Int) + (i : Int) := fun e he => hkl e ((List.mem_filter.mp he).1)
      have hofn : ((offJ th j).map Prod.fst).Nodup := hkn.sublist (List.filter_sublist.map _)
      have hfresh : ((ls.length : Int) + (i : Int)) ∉ (offJ th j).map Prod.fst := fun z => by
        obtain ⟨e, he, h9⟩ := List.mem_map.mp z
        have := hofk e he
        omega
      wtm_at "vc"
      rename_i S13
      rw [put_th hfresh] at S13
      refine hN _ _ ⟨offJ th j ++ [((ls.length : Int) + (i : Int), TK.sum)], p, rn + TK.sum, _, _, _, _, D9, rfl, up, Sx.gc (S := S13), ?_, ?_, ?_, ?_⟩
      · rw [List.map_append]
        refine List.nodup_append.mpr ⟨hofn, by simp, fun a9 ha9 b9 hb9 e9 => ?_⟩
        rw [List.map_singleton, List.mem_singleton] at hb9
        rw [e9, hb9] at ha9
        exact hfresh ha9
      · intro e he
        rcases List.mem_append.mp he with g | g
        · have := hofk e g
          omega
        · rw [List.mem_singleton.mp g]
          show (ls.length : Int) + (i : Int) < _
          omega
      · rw [List.length_append, List.length_singleton]
        omega
      · rw [hI, hgo, Option.map_map, show (ls.length : Int) + ((i + 1 : Nat) : Int) = (ls.length : Int) + (i : Int) + 1 by omega]
        congr 1
        funext r
        exact Prod.ext (by show rn + (TK.sum + r.1) = rn + TK.sum + r.1; omega) rfl
--@@
def sp_join_right_x (K : PySem.W.Frag) : Sp := fun vs H Q E => ∃ (D : Hp) (L : Own) (v n m : V), vs = [v, n, m] ∧ Sx D L H ∧ OddV 2 7 D v ∧ ∀ C, PySem.W.nsIn K mainGlobals "NoWays" = some (some (.ref C)) → E (.ref C) none H
theorem ok_join_right_x {fA : Addr} {fd : FuncData} (F : Fun K "join_right" "join_right" st_join_right fA fd)
    (C_look_at_ways_x : Cl P w K mg base (L2.CX P w) 2 "look_at_ways" ["p"] (sp_look_at_ways_x K)) : FnOk P w K mg base (L2.CX P w) 3 fA fd ["p", "lengths", "told"] (sp_join_right_x K) := by
  refine F.okX sc_join_right (fun vs H Q E h => ?_) (fun cdv A outer s H vs Q E hr h => ?_)
  · obtain ⟨D, L, v, n, m, rfl, S, ho, q⟩ := h
    rfl
  · obtain ⟨D, L, v, n, m, rfl, S, ho, q⟩ := h
    have hu : (A.deeper (envOfC "join_right" (defScope st_join_right) s.heap.objs.size fA cdv)).units + 64 < cLine := by have := hr.un; omega
    refine ⟨_, (pss_cons (ps_expr (pe_clS C_look_at_ways_x hr (by decide) (by rfl) (takes_of rfl rfl rfl rfl) (pa_cons (pv 0) pa_nil)))
      pss_never), ?_⟩
    refine st_start (σ' := [some _, some _, some _, none, none, none, none, none, none, none, none, none]) rfl (fun bk ct => ?_)
    wtm_at "vc"
    exact ⟨D, L, v, rfl, S, ho, q⟩
abbrev st_least_join : Stmt := topS 14
theorem sc_least_join : FnScope ["p", "lengths", "there", "row", "length", "fresh", "many", "reading", "log", "some", "together"] ["p", "lengths"] (defScope st_least_join) := ⟨rfl, rfl, rfl, by decide +kernel, rfl, by decide +kernel, by decide +kernel⟩
def sp_least_join (K : PySem.W.Frag) : Sp := fun vs H Q _ => ∃ (D : Hp) (L : Own) (a : Addr) (p : Int) (ls : List Int), vs = [.int p, .ref a] ∧ 2 ≤ p ∧ p ≤ 7 ∧ Sx D L H ∧ Ks D a (ls.map V.int) ∧ 1 ≤ ls.length ∧ ls.length ≤ 4000 ∧
  ∀ (t lg : Addr) (js : List V) D' H', Sx D' ((lg, .lst js) :: L) H' → Sm D D' → Kn D' t (.tup [.int (ljR p.toNat ls).1, .ref lg]) → RpAll D' js ((ljR p.toNat ls).2.map tI) → Q (.ref t) H'
theorem ok_least_join {fA : Addr} {fd : FuncData} (F : Fun K "least_join" "least_join" st_least_join fA fd) (b_enumerate : mg "enumerate" = none) (b_len : mg "len" = none) (b_sorted : mg "sorted" = none) (b_sum : mg "sum" = none) (b_tuple : mg "tuple" = none)
    (C_first_many : Cl P w K mg base CX0 1 "first_many" ["p", "rows"] (sp_first_many K))
    (C_look_at_ways : Cl P w K mg base CX0 2 "look_at_ways" ["p"] (sp_look_at_ways K)) : FnOk P w K mg base CX0 3 fA fd ["p", "lengths"] (sp_least_join K) := by
  refine F.ok sc_least_join (fun vs H Q E h => ?_) (fun cdv A outer s H vs Q E hr h => ?_)
  · obtain ⟨D, L, a, p, ls, rfl, h2, h7, S, ha, hl1, hl4, q⟩ := h
    rfl
  · obtain ⟨D, L, a, p, ls, rfl, h2, h7, S, ha, hl1, hl4, q⟩ := h
    have hu : (A.deeper (envOfC "least_join" (defScope st_least_join) s.heap.objs.size fA cdv)).units + 64 < cLine := by have := hr.un; omega
    refine ⟨_, (pss_cons (ps_expr (pe_cl C_look_at_ways hr (by decide) (by rfl) (pa_cons (pv 0) pa_nil)))
      (pss_cons (ps_set (i := 2) sc_least_join.nd rfl (Or.inl rfl) (pe_callB (r := rSortedPO K) cr_sortedPO (by rfl) b_sorted bb_sorted (pa_cons (pe_lc (own := [("row", 3), ("length", 4)]) (tt := tYes) rfl sc_least_join.nd (pi_enX K (by rfl) b_enumerate (pa_cons (pv 1) pa_nil)) (blkOk_by (N := ["p", "lengths", "there", "row", "length", "fresh", "many", "reading", "log", "some", "together"]) (sc := defScope st_least_join) (by decide +kernel)) (fun _ _ _ _ _ => (pg_tupK K 2 rfl (pgs_cons (pg_name (i := 3) sc_least_join.nd rfl (Or.inl rfl)) (pgs_cons (pg_name (i := 4) sc_least_join.nd rfl (Or.inl rfl)) pgs_nil)))) (fun _ _ _ _ _ => pts_nil) (fun _ _ _ _ _ => (pe_tup (pa_cons (pv 4) (pa_cons (pv 3) pa_nil))))) pa_nil)))
      (pss_cons (ps_set (i := 5) sc_least_join.nd rfl (Or.inl rfl) (pe_callB (r := rLen K) call_lenN (by rfl) b_len bb_len (pa_cons (pv 2) pa_nil)))
      (pss_cons (ps_set (i := 6) sc_least_join.nd rfl (Or.inl rfl) (pe_cl C_first_many hr (by decide) (by rfl) (pa_cons (pv 0) (pa_cons (pv 5) pa_nil))))
      (pss_cons (ps_set (i := 7) sc_least_join.nd rfl (Or.inl rfl) pe_int)
      (pss_cons (ps_set (i := 8) sc_least_join.nd rfl (Or.inl rfl) (pe_lst pa_nil))
      (pss_cons (ps_while PassesOwn.never (pt_cmpR op_gt (pe_callB (r := rLen K) call_lenN (by rfl) b_len bb_len (pa_cons (pv 2) pa_nil)) pe_int (nomark _))
      (pss_cons (ps_set (i := 9) sc_least_join.nd rfl (Or.inl rfl) (pe_slice (r := rSlX K) slX (pv 2) po_none (po_some (pv 6))))
      (pss_cons (ps_set (i := 10) sc_least_join.nd rfl (Or.inl rfl) (pe_callB (r := rSumX K) (cr_sumX rfl) (by rfl) b_sum bb_sum (pa_cons (pe_lc (own := [("length", 4), ("row", 3)]) (tt := tYes) rfl sc_least_join.nd (pi_seqK K (pv 9)) (blkOk_by (N := ["p", "lengths", "there", "row", "length", "fresh", "many", "reading", "log", "some", "together"]) (sc := defScope st_least_join) (by decide +kernel)) (fun _ _ _ _ _ => (pg_tupK K 2 rfl (pgs_cons (pg_name (i := 4) sc_least_join.nd rfl (Or.inl rfl)) (pgs_cons (pg_name (i := 3) sc_least_join.nd rfl (Or.inl rfl)) pgs_nil)))) (fun _ _ _ _ _ => pts_nil) (fun _ _ _ _ _ => (pv 4))) pa_nil)))
      (pss_cons (ps_set (i := 7) sc_least_join.nd rfl (Or.inl rfl) (pe_op (r := rAddX K) opAdd (pv 7) (pv 10)))
      (pss_cons (ps_expr (pe_bm PySem.F.plainAttrs_list PySem.F.slot_list_append PySem.F.type_list_append mt_append (pv 8) (pa_cons (pe_callTy (r := rTupOf K) call_tupN (by rfl) b_tuple bb_tuple (pa_cons (pe_callB (r := rSortedW K) cr_sortedW (by rfl) b_sorted bb_sorted (pa_cons (pe_lc (own := [("length", 4), ("row", 3)]) (tt := tYes) rfl sc_least_join.nd (pi_seqK K (pv 9)) (blkOk_by (N := ["p", "lengths", "there", "row", "length", "fresh", "many", "reading", "log", "some", "together"]) (sc := defScope st_least_join) (by decide +kernel)) (fun _ _ _ _ _ => (pg_tupK K 2 rfl (pgs_cons (pg_name (i := 4) sc_least_join.nd rfl (Or.inl rfl)) (pgs_cons (pg_name (i := 3) sc_least_join.nd rfl (Or.inl rfl)) pgs_nil)))) (fun _ _ _ _ _ => pts_nil) (fun _ _ _ _ _ => (pv 3))) pa_nil)) pa_nil)) pa_nil)))
      (pss_cons (ps_set (i := 2) sc_least_join.nd rfl (Or.inl rfl) (pe_callB (r := rSortedPO K) cr_sortedPO (by rfl) b_sorted bb_sorted (pa_cons (pe_op (r := rAddX K) opAdd (pe_slice (r := rSlX K) slX (pv 2) (po_some (pv 6)) po_none) (pe_lst (pa_cons (pe_tup (pa_cons (pv 10) (pa_cons (pv 5) pa_nil))) pa_nil))) pa_nil)))
      (pss_cons (ps_set (i := 5) sc_least_join.nd rfl (Or.inl rfl) (pe_op (r := rAddX K) opAdd (pv 5) pe_int))
      (pss_one (ps_set (i := 6) sc_least_join.nd rfl (Or.inl rfl) (pv 0))))))))))
      (pss_one (ps_ret (pe_tup (pa_cons (pv 7) (pa_cons (pv 8) pa_nil)))))))))))), ?_⟩
    refine st_start (σ' := [some _, some _, none, none, none, none, none, none, none, none, none]) rfl (fun bk ct => ?_)
    wtm_at "vc"
    refine ⟨p, rfl, h2, h7, ?_⟩
    wtm_at "vc"
    rename_i J1 G1 w1 hG1
    refine lc_go w1 (by rw [List.length_map]; omega) (fun i acc D' => RpAll D' acc (((enP 0 ls).take i).map pI)) .nil (fun D' p acc H' e' S' => hG1 _ _ _ S' e') (fun i v q2 acc D5 H5 H6 hi e5 S5 hR hy Ad Sk hA hS => ?_) (fun lf D5 acc H5 e5 S5 hR => ?_)
    · obtain ⟨T, y1, z, D8, rfl, h1, hv, e8, hT, S8⟩ := pair_step hy
      cases h1
      obtain ⟨x, hx, rfl⟩ := getI hv
      wtm_at "vc"
      rename_i t9 D9 H9 S9 e9 k9
      refine hA _ D9 _ up S9 ?_
      have hg := enP_get (j := 0) hx
      rw [List.take_add_one, hg, List.map_append]
      refine RpAll.app (hR.up (up : Sm D5 D9).e) (.cons (.tupI (ns := [x, ((0 + i : Nat) : Int)]) ?_) .nil)
      rw [Nat.zero_add]
      exact k9.pf
    rw [List.length_map, List.take_of_length_le (by rw [enP_len]; exact Nat.le_refl _)] at hR
    wtm_at "vc"
    refine c_sortPO S5 rs0 hR fun ys P2 p1 H6 hp2 hs2 hT2 S6 => ?_
    obtain rfl := srtP_uniq hp2 hs2
    have hyl : ys.length = ls.length := by have := RpAll.length hT2; rw [List.length_map, srtP_len, enP_len] at this; exact this
    wtm_at "vc"
    refine ⟨p, ls.length, by rw [hyl], h2, h7, hl1, fun m0 hm2 hmp hme => ?_⟩
    rw [hyl]
    have hle := ljR_eq hl1 hme
    wtm_at "vc"
    rename_i lg H7 S7
    have S8 : Sx D5 ((p1, .lst ys) :: (lg, .lst []) :: L) H7 := by
      have S9 := Sx.front (a := p1) (S := S7)
      exact Sx.gc (S := S9)
    refine while_go (fun mm σ H => ∃ (D3 : Hp) (th : Addr) (ys js : List V) (P : List (Int × Int)) (m fr : Nat) (r0 : Int) (lg0 : List (List Int)) (x9 x10 : Option V), σ = [some (.int p), some (.ref a), some (.ref th), none, none, some (.int (fr : Int)), some (.int (m : Int)), some (.int r0), some (.ref lg), x9, x10] ∧ Sm D5 D3 ∧ Sx D3 ((th, .lst ys) :: (lg, .lst js) :: L) H ∧ RpAll D3 ys (P.map pI) ∧ RpAll D3 js (lg0.map tI) ∧ P.length ≤ mm ∧ mm ≤ 4000 ∧ 2 ≤ m ∧ (m : Int) ≤ p ∧ r0 + (ljS p.toNat mm m fr P).1 = (ljR p.toNat ls).1 ∧ lg0 ++ (ljS p.toNat mm m fr P).2 = (ljR p.toNat ls).2 ∧ js.length ≤ 4000 - mm) ls.length
      ⟨D5, p1, ys, [], _, m0, ls.length, 0, [], _, _, rfl, Sm.rfl', S8, hT2, .nil, by rw [srtP_len, enP_len]; exact Nat.le_refl _, by omega, hm2, hmp, by rw [hle]; omega, by rw [hle]; rfl, by simp⟩ (fun mm σ H8 ⟨D3, th, ys, js, P, m, fr, r0, lg0, x9, x10, es, e3, S, hT, hJ, hPl, hmm, hm2, hmp, hr, hl, hjl⟩ => ?_)
    have hyP : ys.length = P.length := by have := RpAll.length hT; rw [List.length_map] at this; exact this
    subst es
    wtm_at "vc"
    refine if_d (fun c => ?_) (fun c => ?_)
    rotate_left
    · rw [ljS_end (by omega)] at hr hl
      wtm_at "vc"
      rename_i t D9 H9 S9 e9 k9
      have hr : r0 = (ljR p.toNat ls).1 := by simpa using hr
      have hl : lg0 = (ljR p.toNat ls).2 := by simpa using hl
      rw [← hr, ← hl] at q
      have S10 := Sx.front (a := lg) (S := S9)
      exact q t lg js D9 _ (Sx.gc (S := S10)) up k9 (hJ.up e9.e)
    refine wh_body fun N hN => ?_
    have hcu : CuC ys none (some (m : Int)) (ys.take m) := ⟨cut_to _ m⟩
    have hcu2 : CuC ys (some (m : Int)) none (ys.drop m) := ⟨cut_from _ m⟩
    wtm_at "vc"
    rename_i sm H9 S9
    obtain ⟨D4, e4, k4, S10⟩ := Sx.fix1 (a := sm) (S := S9)
    have hT4 := hT.up e4.e
    have htl : (ys.take m).length = (P.take m).length := by rw [List.length_take, List.length_take, hyP]
    have hat : ∀ (i : Nat) (v : V), (ys.take m)[i]? = some v → ys[i]? = some v ∧ i < m := fun i v h => by
      rw [List.getElem?_take] at h
      by_cases c2 : i < m
      · rw [if_pos c2] at h
        exact ⟨h, c2⟩
      · rw [if_neg c2] at h
        cases h
    refine lc_vals (S := S10) (walk_list (xs := ys.take m)) (by rw [List.length_take]; omega) (((P.take m).map Prod.fst).map V.int) (by rw [List.length_map, List.length_map, htl]) (fun p acc H' S' => Rds.sq S' (rsD k4.pf)) (fun i v q2 acc H2 H3 hi S2 hy Ad hA => ?_) (fun b2 H11 S11 => ?_)
    · obtain ⟨rfl, hv⟩ := hy
      obtain ⟨hv, him⟩ := hat _ _ hv
      obtain ⟨g, w, rfl, hw, kg⟩ := ra_getP hT4 hv
      wtm_at "vc"
      exact hA _ _ S2 (by rw [List.getElem?_map, List.getElem?_map, List.getElem?_take, if_pos him, hw]; rfl)
    refine (v_sumL (S := S11) (a := b2) (ns := (P.take m).map Prod.fst)).pf ?_
    wtm_at "vc"
    refine lc_vals (S := S11) (walk_list (xs := ys.take m)) (by rw [List.length_take]; omega) (((P.take m).map Prod.snd).map V.int) (by rw [List.length_map, List.length_map, htl]) (fun p acc H' S' => Rds.sq S' (rsD k4.pf)) (fun i v q2 acc H2 H3 hi S2 hy Ad hA => ?_) (fun b3 H12 S12 => ?_)
    · obtain ⟨rfl, hv⟩ := hy
      obtain ⟨hv, him⟩ := hat _ _ hv
      obtain ⟨g, w, rfl, hw, kg⟩ := ra_getP hT4 hv
      wtm_at "vc"
      exact hA _ _ S2 (by rw [List.getElem?_map, List.getElem?_map, List.getElem?_take, if_pos him, hw]; rfl)
    wtm_at "vc"
    rename_i ns' hpn hsn sr H13 S13 tj D5' H14 S14 e14 k14 H15 S15 dr H16 S16 t2 D6 H17 S17 e17 k17 l1 H18 S18 cat H19 S19
    obtain rfl := srtZ_uniq hpn hsn
    have hT6 : RpAll D6 (ys.drop m ++ [.ref t2]) ((P.drop m ++ [(((P.take m).map Prod.fst).sum, (fr : Int))]).map pI) := by
      rw [List.map_append, List.map_drop]
      exact RpAll.app (ra_drop m (hT4.up (up : Sm D4 D6).e)) (.cons (.tupI (ns := [((P.take m).map Prod.fst).sum, (fr : Int)]) k17.pf) .nil)
    refine c_sortPO S19 rs0 hT6 fun ys2 P2 th2 H20 hp3 hs3 hT3 S20 => ?_
    obtain rfl := srtP_uniq hp3 hs3
    wtm_at "vc"
    obtain ⟨f, rfl⟩ : ∃ f, mm = f + 1 := ⟨mm - 1, by omega⟩
    have hu : ljS p.toNat (f + 1) m fr P = (((P.take m).map Prod.fst).sum + (ljS p.toNat f p.toNat (fr + 1) (srtP (P.drop m ++ [(((P.take m).map Prod.fst).sum, (fr : Int))]))).1, srtZ ((P.take m).map Prod.snd) :: (ljS p.toNat f p.toNat (fr + 1) (srtP (P.drop m ++ [(((P.take m).map Prod.fst).sum, (fr : Int))]))).2) := by
      show (if P.length ≤ 1 then _ else _) = _
      rw [if_neg (by omega)]
    rw [hu] at hr hl
    have S22 : Sx D6 ((th2, .lst ys2) :: (lg, .lst (js ++ [.ref tj])) :: L) H20 := by
      have S21 := Sx.front (a := lg) (S := S20)
      have S23 := Sx.front (a := th2) (S := S21)
      exact Sx.gc (S := S23)
    refine hN f _ _ (by omega) ⟨D6, th2, ys2, js ++ [.ref tj], _, p.toNat, fr + 1, _, lg0 ++ [srtZ ((P.take m).map Prod.snd)], _, _, by rw [Int.toNat_of_nonneg (by omega)]; rfl, up, S22, hT3, ?_, ?_, by omega, by omega, by omega, ?_, ?_, ?_⟩
    · rw [List.map_append]
      exact RpAll.app (hJ.up (up : Sm D3 D6).e) (.cons (.tupI ((up : Sm D5' D6).e _ _ k14.pf)) .nil)
    · rw [srtP_len, List.length_append, List.length_drop]
      simp only [List.length_cons, List.length_nil]
      omega
    · rw [← hr, Int.add_assoc]
    · rw [← hl, List.append_assoc]
      rfl
    · rw [List.length_append]
      simp only [List.length_cons, List.length_nil]
      omega
--@@
def sp_least_join_x (K : PySem.W.Frag) : Sp := fun vs H Q E => ∃ (D : Hp) (L : Own) (v n : V), vs = [v, n] ∧ Sx D L H ∧ OddV 2 7 D v ∧ ∀ C, PySem.W.nsIn K mainGlobals "NoWays" = some (some (.ref C)) → E (.ref C) none H
theorem ok_least_join_x {fA : Addr} {fd : FuncData} (F : Fun K "least_join" "least_join" st_least_join fA fd)
    (C_look_at_ways_x : Cl P w K mg base (L2.CX P w) 2 "look_at_ways" ["p"] (sp_look_at_ways_x K)) : FnOk P w K mg base (L2.CX P w) 3 fA fd ["p", "lengths"] (sp_least_join_x K) := by
  refine F.okX sc_least_join (fun vs H Q E h => ?_) (fun cdv A outer s H vs Q E hr h => ?_)
  · obtain ⟨D, L, v, n, rfl, S, ho, q⟩ := h
    rfl
  · obtain ⟨D, L, v, n, rfl, S, ho, q⟩ := h
    have hu : (A.deeper (envOfC "least_join" (defScope st_least_join) s.heap.objs.size fA cdv)).units + 64 < cLine := by have := hr.un; omega
    refine ⟨_, (pss_cons (ps_expr (pe_clS C_look_at_ways_x hr (by decide) (by rfl) (takes_of rfl rfl rfl rfl) (pa_cons (pv 0) pa_nil)))
      pss_never), ?_⟩
    refine st_start (σ' := [some _, some _, none, none, none, none, none, none, none, none, none]) rfl (fun bk ct => ?_)
    wtm_at "vc"
    exact ⟨D, L, v, rfl, S, ho, q⟩
abbrev st_joined_once : Stmt := topS 18
theorem sc_joined_once : FnScope ["p", "there", "fresh", "log", "found", "at", "some"] ["p", "there", "fresh", "log"] (defScope st_joined_once) := ⟨rfl, rfl, rfl, by decide +kernel, rfl, by decide +kernel, by decide +kernel⟩
def sp_joined_once (K : PySem.W.Frag) : Sp := fun vs H Q _ => ∃ (D : Hp) (L : Own) (th lg : Addr) (p : Nat) (f : Int) (xs : List Int) (us : List V), vs = [.int (p : Int), .ref th, .int f, .ref lg] ∧ 2 ≤ p ∧ p ≤ 7 ∧ Sx D ((lg, .lst us) :: L) H ∧ Kn D th (.lst (xs.map V.int)) ∧ xs.length ≤ 4000 ∧ us.length ≤ 4000 ∧
  ∀ (t b : Addr) (ws : List V) D' H', Sx D' ((b, .lst ((jo1 p xs.length xs f).1.map V.int)) :: (lg, .lst (us ++ ws)) :: L) H' → Sm D D' → Kn D' t (.tup [.ref b, .int (jo1 p xs.length xs f).2.1]) → RpAll D' ws ((jo1 p xs.length xs f).2.2.map tI) → Q (.ref t) H'
theorem ok_joined_once {fA : Addr} {fd : FuncData} (F : Fun K "joined_once" "joined_once" st_joined_once fA fd) (b_len : mg "len" = none) (b_range : mg "range" = none) (b_sorted : mg "sorted" = none) (b_tuple : mg "tuple" = none) : FnOk P w K mg base CX0 1 fA fd ["p", "there", "fresh", "log"] (sp_joined_once K) := by
  refine F.ok sc_joined_once (fun vs H Q E h => ?_) (fun cdv A outer s H vs Q E hr h => ?_)
  · obtain ⟨D, L, th, lg, p, f, xs, us, rfl, h2, h7, S, kth, hl4, hu4, q⟩ := h
    rfl
  · obtain ⟨D, L, th, lg, p, f, xs, us, rfl, h2, h7, S, kth, hl4, hu4, q⟩ := h
    have hu : (A.deeper (envOfC "joined_once" (defScope st_joined_once) s.heap.objs.size fA cdv)).units + 64 < cLine := by have := hr.un; omega
    refine ⟨_, (pss_cons (ps_set (i := 4) sc_joined_once.nd rfl (Or.inl rfl) (pe_lst pa_nil))
      (pss_cons (ps_for PassesOwn.never rfl (pi_range3 (by rfl) b_range (pa_cons pe_int (pa_cons (pe_callB (r := rLen K) call_lenN (by rfl) b_len bb_len (pa_cons (pv 1) pa_nil)) (pa_cons (pv 0) pa_nil)))) (pg_name (i := 5) sc_joined_once.nd rfl (Or.inl rfl))
      (pss_cons (ps_set (i := 6) sc_joined_once.nd rfl (Or.inl rfl) (pe_slice (r := rSlX K) slX (pv 1) (po_some (pv 5)) (po_some (pe_op (r := rAddX K) opAdd (pv 5) (pv 0)))))
      (Evl.pss_cut (ps_if (pt_cmpR op_gt (pe_callB (r := rLen K) call_lenN (by rfl) b_len bb_len (pa_cons (pv 6) pa_nil)) pe_int (nomark _)) (pss_cons (ps_expr (pe_bm PySem.F.plainAttrs_list PySem.F.slot_list_append PySem.F.type_list_append mt_append (pv 3) (pa_cons (pe_callTy (r := rTupOf K) call_tupN (by rfl) b_tuple bb_tuple (pa_cons (pe_callB (r := rSortedW K) cr_sortedW (by rfl) b_sorted bb_sorted (pa_cons (pv 6) pa_nil)) pa_nil)) pa_nil)))
      (pss_cons (ps_set (i := 6) sc_joined_once.nd rfl (Or.inl rfl) (pe_lst (pa_cons (pv 2) pa_nil)))
      (pss_one (ps_set (i := 2) sc_joined_once.nd rfl (Or.inl rfl) (pe_op (r := rAddX K) opAdd (pv 2) pe_int))))) pss_nil)
      (pss_one (ps_expr (pe_bm PySem.F.plainAttrs_list PySem.F.slot_list_extend PySem.F.type_list_extend mt_extend (pv 4) (pa_cons (pv 6) pa_nil)))))))
      (pss_one (ps_ret (pe_tup (pa_cons (pv 4) (pa_cons (pv 2) pa_nil))))))), ?_⟩
    refine st_start (σ' := [some _, some _, some _, some _, none, none, none]) rfl (fun bk ct => ?_)
    wtm_at "vc"
    rename_i b H1 S1
    obtain ⟨n, hn⟩ : ∃ n, n = (xs.length + p - 1) / p := ⟨_, rfl⟩
    have hnp : xs.length ≤ n * p ∧ ∀ i, i < n → i * p < xs.length := by
      have h1 : (xs.length + p - 1) / p * p ≤ xs.length + p - 1 := Nat.div_mul_le_self _ _
      have h3 : xs.length + p - 1 < ((xs.length + p - 1) / p + 1) * p := Nat.lt_mul_of_div_lt (Nat.lt_succ_self _) (by omega)
      rw [← hn] at h1 h3
      rw [Nat.add_mul, Nat.one_mul] at h3
      refine ⟨by omega, fun i hi => ?_⟩
      have h2 : (i + 1) * p ≤ n * p := Nat.mul_le_mul_right p hi
      rw [Nat.add_mul, Nat.one_mul] at h2
      omega
    refine ⟨0, _, _, n, rfl, by rw [hn]; exact rgc_pos (by omega) (by omega) (by omega), ?_⟩
    refine for_go walk_rangeC (fun i σ H => ∃ (fd : List Int) (fr : Int) (ws : List V) (jw : List (List Int)) (x5 x6 : Option V) (D2 : Hp), σ = [some (.int (p : Int)), some (.ref th), some (.int fr), some (.ref lg), some (.ref b), x5, x6] ∧ Sm D D2 ∧ Sx D2 ((b, .lst (fd.map V.int)) :: (lg, .lst (us ++ ws)) :: L) H ∧ RpAll D2 ws (jw.map tI) ∧ ws.length ≤ i ∧ fd.length ≤ 7 * i ∧ fd ++ (jo1 p (xs.length - i) (xs.drop (i * p)) fr).1 = (jo1 p xs.length xs f).1 ∧ (jo1 p (xs.length - i) (xs.drop (i * p)) fr).2.1 = (jo1 p xs.length xs f).2.1 ∧ jw ++ (jo1 p (xs.length - i) (xs.drop (i * p)) fr).2.2 = (jo1 p xs.length xs f).2.2)
      ⟨[], f, [], [], none, none, D, rfl, Sm.rfl', by rw [List.append_nil]; exact S1, .nil, Nat.zero_le _, Nat.zero_le _, by rw [Nat.zero_mul]; rfl, by rw [Nat.zero_mul]; rfl, by rw [Nat.zero_mul]; rfl⟩ (fun _ _ _ _ _ => trivial) (fun i v σ H2 H3 hi ⟨fd, fr, ws, jw, x5, x6, D2, es, e2, S2, hw, hwl, hfl, j1, j2, j3⟩ hy nx bk hN => ?_) (fun σ H2 ⟨fd, fr, ws, jw, x5, x6, D2, es, e2, S2, hw, hwl, hfl, j1, j2, j3⟩ => ?_)
    rotate_left
    · subst es
      rw [List.drop_of_length_le (by omega)] at j1 j2 j3
      have e0 : ∀ m g, jo1 p m [] g = ([], g, []) := fun m g => by cases m <;> rfl
      rw [e0] at j1 j2 j3
      rw [List.append_nil] at j1 j3
      have j2 : fr = (jo1 p xs.length xs f).2.1 := j2
      wtm_at "vc"
      rename_i t9 D9 H9 S9 e9 k9
      rw [j1] at S9
      rw [j2] at k9
      exact q t9 b ws D9 _ S9 up k9 (by rw [← j3]; exact hw.up e9.e)
    obtain ⟨rfl, rfl⟩ := hy
    subst es
    have hip := hnp.2 i hi
    have hic : (0 : Int) + (i : Int) * (p : Int) = ((i * p : Nat) : Int) := by rw [Int.natCast_mul, Int.zero_add]
    have hil : i < xs.length := Nat.lt_of_le_of_lt (Nat.le_mul_of_pos_right i (by omega)) hip
    show gName 5 (V.int (0 + (i : Int) * (p : Int))) _ _ _
    rw [hic]
    obtain ⟨rs, hrs⟩ : ∃ rs, rs = xs.drop (i * p) := ⟨_, rfl⟩
    have hrl : rs.length = xs.length - i * p := by rw [hrs, List.length_drop]
    have hrn : xs.drop ((i + 1) * p) = rs.drop p := by rw [hrs, List.drop_drop, Nat.add_mul, Nat.one_mul]
    obtain ⟨k, hk⟩ : ∃ k, xs.length - i = k + 1 := ⟨xs.length - i - 1, by omega⟩
    have hk2 : xs.length - (i + 1) = k := by omega
    rw [hk, ← hrs] at j1 j2 j3
    have kth2 : Kn D2 th (.lst (xs.map V.int)) := inferInstance
    wtm_at "vc"
    rename_i so H4 S4
    have ecut : cutV (xs.map V.int) (some ((i * p : Nat) : Int)) (some (((i * p : Nat) : Int) + (p : Int))) = (rs.take p).map V.int := by
      have := cut_mdJ (xs.map V.int) (i * p) p
      rw [Int.natCast_add] at this
      rw [this, hrs, List.map_take, List.map_drop]
    rw [ecut] at S4
    have htl : (rs.take p).length = min p rs.length := List.length_take
    refine s_cut (fun σ H => ∃ (so2 : Addr) (sm : List Int) (fr2 : Int) (ws2 : List V) (jw2 : List (List Int)) (D3 : Hp), σ = [some (.int (p : Int)), some (.ref th), some (.int fr2), some (.ref lg), some (.ref b), some (.int ((i * p : Nat) : Int)), some (.ref so2)] ∧ Sm D2 D3 ∧ Sx D3 ((so2, .lst (sm.map V.int)) :: (b, .lst (fd.map V.int)) :: (lg, .lst (us ++ ws2)) :: L) H ∧ RpAll D3 ws2 (jw2.map tI) ∧ ws2.length ≤ i + 1 ∧ sm.length ≤ 7 ∧ (fd ++ sm) ++ (jo1 p k (rs.drop p) fr2).1 = (jo1 p xs.length xs f).1 ∧ (jo1 p k (rs.drop p) fr2).2.1 = (jo1 p xs.length xs f).2.1 ∧ jw2 ++ (jo1 p k (rs.drop p) fr2).2.2 = (jo1 p xs.length xs f).2.2) (fun nx1 hN1 => ?_) (fun σ H ⟨so2, sm, fr2, ws2, jw2, D3, es, e3, S3, hw2, hwl2, hsm, j1, j2, j3⟩ => ?_)
    rotate_left
    · subst es
      wtm_at "vc"
      rename_i H6 S6
      refine hN _ _ ⟨fd ++ sm, fr2, ws2, jw2, _, _, D3, rfl, up, ?_, hw2, by omega, by rw [List.length_append]; omega, by rw [hk2, hrn]; exact j1, by rw [hk2, hrn]; exact j2, by rw [hk2, hrn]; exact j3⟩
      rw [List.map_append]
      exact Sx.gc (S := S6)
    wtm_at "vc"
    refine if_d (fun hc => ?_) (fun hc => ?_)
    · have hc2 : ¬ rs.length ≤ 1 := by
        have h9 := hc
        omega
      rw [jo1_gt hc2] at j1 j2 j3
      wtm_at "vc"
      rename_i ns1 hp1 hs1 sl H5 S5 tt D3 H6 S6 e3 k3 H7 S7 so2 H8 S8
      obtain rfl := srtZ_uniq hp1 hs1
      rw [List.append_assoc] at S8
      have S9 : Sx D3 ((so2, .lst [V.int fr]) :: (b, .lst (fd.map V.int)) :: (lg, .lst (us ++ (ws ++ [V.ref tt]))) :: L) H8 := Sx.gc (S := S8)
      refine hN1 _ _ ⟨so2, [fr], fr + 1, ws ++ [V.ref tt], jw ++ [srtZ (rs.take p)], D3, rfl, e3, S9, ?_, by rw [List.length_append, List.length_singleton]; omega, by show 1 ≤ 7; omega, ?_, j2, ?_⟩
      · rw [List.map_append]
        exact RpAll.app (hw.up e3.e) (.cons (.tupI (ns := srtZ (rs.take p)) k3.pf) .nil)
      · rw [List.append_assoc]
        exact j1
      · rw [List.append_assoc]
        exact j3
    · have hc2 : rs.length ≤ 1 := by
        have h9 := hc
        omega
      have e0 : ∀ m g, jo1 p m [] g = ([], g, []) := fun m g => by cases m <;> rfl
      rw [jo1_le hc2] at j1 j2 j3
      wtm_at "vc"
      have etk : rs.take p = rs := List.take_of_length_le (by omega)
      have edr : rs.drop p = [] := List.drop_of_length_le (by omega)
      rw [etk] at S4
      refine hN1 _ _ ⟨so, rs, fr, ws, jw, D2, rfl, Sm.rfl', Sx.gc (S := S4), hw, by omega, by omega, ?_, ?_, ?_⟩
      · rw [edr, e0, List.append_nil]
        exact j1
      · rw [edr, e0]
        exact j2
      · rw [edr, e0]
        exact j3
abbrev st_numbers_join : Stmt := topS 19
theorem sc_numbers_join : FnScope ["p", "numbers", "order", "row", "number", "fresh", "log", "there", "at", "below", "left"] ["p", "numbers"] (defScope st_numbers_join) := ⟨rfl, rfl, rfl, by decide +kernel, rfl, by decide +kernel, by decide +kernel⟩
def sp_numbers_join (K : PySem.W.Frag) : Sp := fun vs H Q _ => ∃ (D : Hp) (L : Own) (a : Addr) (p : Nat) (ns : List Int), vs = [.int (p : Int), .ref a] ∧ 2 ≤ p ∧ p ≤ 7 ∧ Sx D L H ∧ Ks D a (ns.map V.int) ∧ 1 ≤ ns.length ∧ ns.length ≤ 1000 ∧
  (∀ D' H', Sx D' L H' → Sm D D' → njR p ns = none → Q .non H') ∧
  ∀ (lg : Addr) (js : List V) (jj : List (List Int)) D' H', Sx D' ((lg, .lst js) :: L) H' → Sm D D' → RpAll D' js (jj.map tI) → njR p ns = some jj → Q (.ref lg) H'
theorem ok_numbers_join {fA : Addr} {fd : FuncData} (F : Fun K "numbers_join" "numbers_join" st_numbers_join fA fd) (b_enumerate : mg "enumerate" = none) (b_len : mg "len" = none) (b_sorted : mg "sorted" = none)
    (C_joined_once : Cl P w K mg base CX0 1 "joined_once" ["p", "there", "fresh", "log"] (sp_joined_once K))
    (C_look_at_ways : Cl P w K mg base CX0 2 "look_at_ways" ["p"] (sp_look_at_ways K)) : FnOk P w K mg base CX0 3 fA fd ["p", "numbers"] (sp_numbers_join K) := by
  refine F.ok sc_numbers_join (fun vs H Q E h => ?_) (fun cdv A outer s H vs Q E hr h => ?_)
  · obtain ⟨D, L, a, p, ns, rfl, h2, h7, S, ha, hl1, hl4, q0, q⟩ := h
    rfl
  · obtain ⟨D, L, a, p, ns, rfl, h2, h7, S, ha, hl1, hl4, q0, q⟩ := h
    have hu : (A.deeper (envOfC "numbers_join" (defScope st_numbers_join) s.heap.objs.size fA cdv)).units + 64 < cLine := by have := hr.un; omega
    refine ⟨_, (pss_cons (ps_expr (pe_cl C_look_at_ways hr (by decide) (by rfl) (pa_cons (pv 0) pa_nil)))
      (pss_cons (ps_set (i := 2) sc_numbers_join.nd rfl (Or.inl rfl) (pe_callB (r := rSortedPO K) cr_sortedPO (by rfl) b_sorted bb_sorted (pa_cons (pe_lc (own := [("row", 3), ("number", 4)]) (tt := tYes) rfl sc_numbers_join.nd (pi_enX K (by rfl) b_enumerate (pa_cons (pv 1) pa_nil)) (blkOk_by (N := ["p", "numbers", "order", "row", "number", "fresh", "log", "there", "at", "below", "left"]) (sc := defScope st_numbers_join) (by decide +kernel)) (fun _ _ _ _ _ => (pg_tupK K 2 rfl (pgs_cons (pg_name (i := 3) sc_numbers_join.nd rfl (Or.inl rfl)) (pgs_cons (pg_name (i := 4) sc_numbers_join.nd rfl (Or.inl rfl)) pgs_nil)))) (fun _ _ _ _ _ => pts_nil) (fun _ _ _ _ _ => (pe_tup (pa_cons (pe_op op_sub pe_int (pv 4)) (pa_cons (pv 3) pa_nil))))) pa_nil)))
      (pss_cons (ps_set (i := 5) sc_numbers_join.nd rfl (Or.inl rfl) (pe_callB (r := rLen K) call_lenN (by rfl) b_len bb_len (pa_cons (pv 2) pa_nil)))
      (pss_cons (ps_set (i := 6) sc_numbers_join.nd rfl (Or.inl rfl) (pe_lst pa_nil))
      (pss_cons (ps_set (i := 7) sc_numbers_join.nd rfl (Or.inl rfl) (pe_lst pa_nil))
      (pss_cons (ps_for PassesOwn.never rfl (pi_enX K (by rfl) b_enumerate (pa_cons (pv 2) pa_nil)) (pg_tupK K 2 rfl (pgs_cons (pg_name (i := 8) sc_numbers_join.nd rfl (Or.inl rfl)) (pgs_cons (pg_tupK K 2 rfl (pgs_cons (pg_name (i := 9) sc_numbers_join.nd rfl (Or.inl rfl)) (pgs_cons (pg_name (i := 3) sc_numbers_join.nd rfl (Or.inl rfl)) pgs_nil))) pgs_nil)))
      (pss_cons (ps_expr (pe_bm PySem.F.plainAttrs_list PySem.F.slot_list_append PySem.F.type_list_append mt_append (pv 7) (pa_cons (pv 3) pa_nil)))
      (pss_cons (ps_set (i := 10) sc_numbers_join.nd rfl (Or.inl rfl) (pe_op op_sub pe_int (pv 9)))
      (Evl.pss_cut (ps_if (pt_cmpR op_lt (pe_op (r := rAddX K) opAdd (pv 8) pe_int) (pe_callB (r := rLen K) call_lenN (by rfl) b_len bb_len (pa_cons (pv 2) pa_nil)) (nomark _)) (pss_one (ps_set (i := 10) sc_numbers_join.nd rfl (Or.inl rfl) (pe_op op_sub (pe_ix (r := rIx K) ix_seq (pe_ix (r := rIx K) ix_seq (pv 2) (pe_op (r := rAddX K) opAdd (pv 8) pe_int) (fun _ _ => rfl)) pe_int (fun _ _ => rfl)) (pv 9)))) pss_nil)
      (pss_one (ps_while PassesOwn.never (PW.pt (pw_and (pt_cmpR op_gt (pe_callB (r := rLen K) call_lenN (by rfl) b_len bb_len (pa_cons (pv 7) pa_nil)) pe_int (nomark _)) (pw_and1 (pt_cmpR op_gt (pv 10) pe_int (nomark _)))))
      (pss_cons (ps_asg (pe_cl C_joined_once hr (by decide) (by rfl) (pa_cons (pv 0) (pa_cons (pv 7) (pa_cons (pv 5) (pa_cons (pv 6) pa_nil))))) (pg_tupK K 2 rfl (pgs_cons (pg_name (i := 7) sc_numbers_join.nd rfl (Or.inl rfl)) (pgs_cons (pg_name (i := 5) sc_numbers_join.nd rfl (Or.inl rfl)) pgs_nil))))
      (pss_one (ps_set (i := 10) sc_numbers_join.nd rfl (Or.inl rfl) (pe_op op_sub (pv 10) pe_int))))))))))
      (pss_cons (ps_if (PW.pt (pw_or (pt_cmpR op_gt (pe_callB (r := rLen K) call_lenN (by rfl) b_len bb_len (pa_cons (pv 7) pa_nil)) pe_int (nomark _)) (pw_or1 (pt_cmpR op_gt (pe_ix (r := rIx K) ix_seq (pe_ix (r := rIx K) ix_seq (pv 2) (pe_un un_neg pe_int) (fun _ _ => rfl)) pe_int (fun _ _ => rfl)) pe_int (nomark _))))) (pss_one (ps_ret pe_non)) pss_nil)
      (pss_one (ps_ret (pv 6)))))))))), ?_⟩
    refine st_start (σ' := [some _, some _, none, none, none, none, none, none, none, none, none]) rfl (fun bk ct => ?_)
    wtm_at "vc"
    refine ⟨(p : Int), rfl, by omega, by omega, ?_⟩
    wtm_at "vc"
    rename_i J1 G1 w1 hG1
    refine lc_go w1 (by rw [List.length_map]; omega) (fun i acc D' => RpAll D' acc (((enP 0 (ns.map fun n => 0 - n)).take i).map pI)) .nil (fun D' p acc H' e' S' => hG1 _ _ _ S' e') (fun i v q2 acc D5 H5 H6 hi e5 S5 hR hy Ad Sk hA hS => ?_) (fun lf D5 acc H5 e5 S5 hR => ?_)
    · obtain ⟨T, y1, z, D8, rfl, h1, hv, e8, hT, S8⟩ := pair_step hy
      cases h1
      obtain ⟨x, hx, rfl⟩ := getI hv
      wtm_at "vc"
      rename_i t9 D9 H9 S9 e9 k9
      refine hA _ D9 _ up S9 ?_
      have hg := enP_get (j := 0) (xs := ns.map fun n => 0 - n) (i := i) (x := 0 - x) (by rw [List.getElem?_map, hx]; rfl)
      rw [List.take_add_one, hg, List.map_append]
      refine RpAll.app (hR.up (up : Sm D5 D9).e) (.cons (.tupI (ns := [0 - x, ((0 + i : Nat) : Int)]) ?_) .nil)
      rw [Nat.zero_add]
      exact k9.pf
    rw [List.length_map, List.take_of_length_le (by rw [enP_len, List.length_map]; exact Nat.le_refl _)] at hR
    wtm_at "vc"
    refine c_sortPO S5 rs0 hR fun ys P2 p1 H6 hp2 hs2 hT2 S6 => ?_
    obtain rfl := srtP_uniq hp2 hs2
    have hyl : ys.length = ns.length := by have := RpAll.length hT2; rw [List.length_map, srtP_len, enP_len, List.length_map] at this; exact this
    obtain ⟨D6, e6, k6, S7⟩ := Sx.fix1 (a := p1) (S := S6)
    have hO : RpAll D6 ys ((njO ns).map pI) := hT2.up e6.e
    have hOl : (njO ns).length = ys.length := by have := RpAll.length hO; rw [List.length_map] at this; exact this.symm
    clear hT2
    wtm_at "vc"
    rename_i lg H8 S8 th0 H9 S9
    obtain ⟨G, hG⟩ : ∃ G, G = (njO ns).map ngP := ⟨_, rfl⟩
    have hGl : G.length = ns.length := by rw [hG, List.length_map]; omega
    obtain ⟨TT, hTT⟩ : ∃ TT, TT = njF p G [] (ns.length : Int) := ⟨_, rfl⟩
    have S10 : Sx D6 ((th0, .lst []) :: (lg, .lst []) :: L) H9 := Sx.gc (S := S9)
    refine for_go (walk_enum (xs := ys)) (fun i σ H => ∃ (th : Addr) (ts : List Int) (fr : Int) (js : List V) (jw : List (List Int)) (x3 x4 x8 x9 x10 : Option V) (D2 : Hp), σ = [some (.int (p : Int)), some (.ref a), some (.ref p1), x3, x4, some (.int fr), some (.ref lg), some (.ref th), x8, x9, x10] ∧ Sm D6 D2 ∧ Sx D2 ((th, .lst (ts.map V.int)) :: (lg, .lst js) :: L) H ∧ RpAll D2 js (jw.map tI) ∧ ts.length + js.length ≤ i ∧ (njF p (G.drop i) ts fr).1 = TT.1 ∧ jw ++ (njF p (G.drop i) ts fr).2.2 = TT.2.2)
      ⟨th0, [], (ns.length : Int), [], [], _, _, _, _, _, D6, by rw [hyl], Sm.rfl', S10, .nil, Nat.zero_le _, by rw [hTT]; rfl, by rw [hTT]; rfl⟩ (fun i σ H hi ⟨th, ts, fr, js, jw, x3, x4, x8, x9, x10, D2, es, e2, S2, hJ, hlen, j1, j3⟩ => (rsD (K := K) (e2.e _ _ k6.pf)).sq S2) (fun i v σ H2 H3 hi ⟨th, ts, fr, js, jw, x3, x4, x8, x9, x10, D2, es, e2, S2, hJ, hlen, j1, j3⟩ hy nx bk hN => ?_) (fun σ H2 ⟨th, ts, fr, js, jw, x3, x4, x8, x9, x10, D2, es, e2, S2, hJ, hlen, j1, j3⟩ => ?_)
    rotate_left
    · subst es
      rw [hyl, List.drop_of_length_le (by omega)] at j1 j3
      have j1 : ts = TT.1 := j1
      have j3 : jw ++ [] = TT.2.2 := j3
      rw [List.append_nil] at j3
      have hjl : js.length = jw.length := by have := RpAll.length hJ; rw [List.length_map] at this; exact this
      obtain ⟨v9, hv9⟩ : ∃ v9, ys[ys.length - 1]? = some v9 := ⟨_, List.getElem?_eq_getElem (by omega)⟩
      obtain ⟨c9, x9, rfl, hx9, kc9⟩ := ra_getP (hO.up e2.e) hv9
      have hAL : AtC ys (-1) (.ref c9) := ⟨atLj (n := ys.length - 1) (by omega) hv9⟩
      have hlast : (((njO ns).getLast?.map Prod.fst).getD 0) = x9.1 := by
        rw [List.getLast?_eq_getElem?, hOl, hx9]
        rfl
      have hR0 : njR p ns = if 1 < ts.length ∨ x9.1 > 0 then none else some jw := by
        unfold njR
        rw [hlast, ← hG, ← hTT, ← j1, ← j3]
      wtm_at "vc"
      refine if_d (fun c => ?_) (fun c => ?_)
      · wtm_at "vc"
        exact q0 D2 _ Sx.gc up (by rw [hR0, if_pos (.inl (by omega))])
      wtm_at "vc"
      refine if_d (fun c2 => ?_) (fun c2 => ?_)
      · wtm_at "vc"
        exact q0 D2 _ Sx.gc up (by rw [hR0, if_pos (.inr (by omega))])
      wtm_at "vc"
      exact q lg js jw D2 _ Sx.gc up hJ (by rw [hR0, if_neg (by omega)])
    have hil : i < ns.length := by omega
    obtain ⟨T, y1, z, D8, rfl, h1, hv, e8, hT, S11⟩ := pair_step hy
    cases h1
    have hO8 : RpAll D8 ys ((njO ns).map pI) := hO.up (up : Sm D6 D8).e
    obtain ⟨c, x, rfl, hx, kc⟩ := ra_getP hO8 hv
    subst es
    have k68 : Kn D8 p1 (.lst ys) := inferInstance
    have hGi : G[i]? = some (ngP x) := by rw [hG, List.getElem?_map, hx]; rfl
    have hGd : G.drop i = ngP x :: G.drop (i + 1) := by
      have hiG : i < G.length := by omega
      rw [List.drop_eq_getElem_cons hiG]
      congr 1
      rw [List.getElem?_eq_getElem hiG] at hGi
      exact Option.some.inj hGi
    rw [hGd] at j1 j3
    obtain ⟨l0, hl0⟩ : ∃ l0, l0 = (ngP x).1 - nxN (G.drop (i + 1)) := ⟨_, rfl⟩
    obtain ⟨W, hW⟩ : ∃ W, W = njW p (ts.length + 1) (ts ++ [x.2]) fr l0.toNat := ⟨_, rfl⟩
    have j1 : (njF p (G.drop (i + 1)) W.1 W.2.1).1 = TT.1 := by rw [hW, hl0]; exact j1
    have j3 : jw ++ (W.2.2 ++ (njF p (G.drop (i + 1)) W.1 W.2.1).2.2) = TT.2.2 := by rw [hW, hl0]; exact j3
    wtm_at "vc"
    rename_i H12 S12
    refine s_cut (fun σ H => σ = [some (.int (p : Int)), some (.ref a), some (.ref p1), some (.int x.2), x4, some (.int fr), some (.ref lg), some (.ref th), some (.int (i : Int)), some (.int x.1), some (.int l0)] ∧ Sx D8 ((th, .lst ((ts ++ [x.2]).map V.int)) :: (lg, .lst js) :: L) H) (fun nx1 hN1 => ?_) (fun σ H ⟨es, S13⟩ => ?_)
    · have S13 : Sx D8 ((th, .lst ((ts ++ [x.2]).map V.int)) :: (lg, .lst js) :: L) H12 := by
        rw [List.map_append]
        exact S12
      wtm_at "vc"
      refine if_d (fun hc => ?_) (fun hc => ?_)
      · obtain ⟨v2, hv2⟩ : ∃ v2, ys[i + 1]? = some v2 := ⟨_, List.getElem?_eq_getElem (by omega)⟩
        obtain ⟨c2, x2, rfl, hx2, kc2⟩ := ra_getP hO8 hv2
        have hA2 : AtC ys ((i : Int) + 1) (.ref c2) := ⟨atN (by omega) (by rw [show ((i : Int) + 1).toNat = i + 1 by omega]; exact hv2)⟩
        wtm_at "vc"
        have hnx : nxN (G.drop (i + 1)) = 0 - x2.1 := by
          have hi2 : i + 1 < G.length := by omega
          rw [List.drop_eq_getElem_cons hi2]
          have : G[i + 1]? = some (ngP x2) := by rw [hG, List.getElem?_map, hx2]; rfl
          rw [List.getElem?_eq_getElem hi2] at this
          show (G[i + 1]).1 = _
          rw [Option.some.inj this]
          rfl
        have el : x2.1 - x.1 = l0 := by rw [hl0, hnx]; show x2.1 - x.1 = 0 - x.1 - (0 - x2.1); omega
        exact hN1 _ _ ⟨by rw [el], S13⟩
      · wtm_at "vc"
        have el : 0 - x.1 = l0 := by
          rw [hl0, List.drop_of_length_le (by omega)]
          show 0 - x.1 = 0 - x.1 - 0
          omega
        exact hN1 _ _ ⟨by rw [el], S13⟩
    subst es
    wtm_at "vc"
    have hJ8 := hJ.up e8.e
    refine while_go (fun mm σ H => ∃ (th : Addr) (tw : List Int) (fw : Int) (jv : List V) (jx : List (List Int)) (l : Int) (D9 : Hp), σ = [some (.int (p : Int)), some (.ref a), some (.ref p1), some (.int x.2), x4, some (.int fw), some (.ref lg), some (.ref th), some (.int (i : Int)), some (.int x.1), some (.int l)] ∧ Sm D8 D9 ∧ Sx D9 ((th, .lst (tw.map V.int)) :: (lg, .lst jv) :: L) H ∧ RpAll D9 jv (jx.map tI) ∧ tw.length + jv.length ≤ i + 1 ∧ (njW p tw.length tw fw l.toNat).1 = W.1 ∧ (njW p tw.length tw fw l.toNat).2.1 = W.2.1 ∧ jx ++ (njW p tw.length tw fw l.toNat).2.2 = jw ++ W.2.2 ∧ mm = tw.length) _
      ⟨th, ts ++ [x.2], fr, js, jw, l0, D8, rfl, Sm.rfl', S13, hJ8, by rw [List.length_append, List.length_singleton]; omega, by rw [hW, List.length_append, List.length_singleton], by rw [hW, List.length_append, List.length_singleton], by rw [hW, List.length_append, List.length_singleton], rfl⟩ (fun mm σ H14 ⟨th, tw, fw, jv, jx, l, D9, es, e9, S14, hJ9, hlen9, w1, w2, w3, em⟩ => ?_)
    subst es
    have fin : ¬ (1 < tw.length ∧ 0 < l.toNat) → (njF p (G.drop (i + 1)) tw fw).1 = TT.1 ∧ jx ++ (njF p (G.drop (i + 1)) tw fw).2.2 = TT.2.2 := fun c => by
      rw [njW_z p _ tw fw _ c] at w1 w2 w3
      have w1 : tw = W.1 := w1
      have w2 : fw = W.2.1 := w2
      have w3 : jx ++ [] = jw ++ W.2.2 := w3
      rw [List.append_nil] at w3
      rw [w3, w1, w2, List.append_assoc]
      exact ⟨j1, j3⟩
    wtm_at "vc"
    refine if_d (fun c1 => ?_) (fun c1 => ?_)
    rotate_left
    · wtm_at "vc"
      obtain ⟨f1, f2⟩ := fin (by omega)
      exact hN _ _ ⟨th, tw, fw, jv, jx, _, _, _, _, _, D9, rfl, up, S14, hJ9, hlen9, f1, f2⟩
    wtm_at "vc"
    refine if_d (fun c2 => ?_) (fun c2 => ?_)
    rotate_left
    · wtm_at "vc"
      obtain ⟨f1, f2⟩ := fin (by omega)
      exact hN _ _ ⟨th, tw, fw, jv, jx, _, _, _, _, _, D9, rfl, up, S14, hJ9, hlen9, f1, f2⟩
    refine wh_body fun N hN2 => ?_
    clear fin
    obtain ⟨D10, e10, k10, S15⟩ := Sx.fix1 (a := th) (S := S14)
    wtm_at "vc"
    refine ⟨D10, L, th, lg, p, fw, tw, jv, rfl, h2, h7, S15, k10, by omega, by omega, fun t b ws D11 H15 S16 e11 kt hws => ?_⟩
    have hles := jo1_less h2 fw (xs := tw) (by omega)
    have hcnt := jo1_cnt p h2 tw.length tw fw
    have hwl : ws.length = (jo1 p tw.length tw fw).2.2.length := by have := RpAll.length hws; rw [List.length_map] at this; exact this
    have c3 : 1 < tw.length ∧ 0 < l.toNat := by omega
    rw [njW_fu h2 tw.length (tw.length + 1) tw fw l.toNat (by omega) (by omega), njW_s c3] at w1 w2 w3
    obtain ⟨X, hX⟩ : ∃ X, X = jo1 p tw.length tw fw := ⟨_, rfl⟩
    rw [← hX] at S16 kt hws hles hcnt hwl w1 w2 w3
    rw [njW_fu h2 tw.length X.1.length X.1 X.2.1 (l.toNat - 1) (by omega) (by omega)] at w1 w2 w3
    have w1 : (njW p X.1.length X.1 X.2.1 (l.toNat - 1)).1 = W.1 := w1
    have w2 : (njW p X.1.length X.1 X.2.1 (l.toNat - 1)).2.1 = W.2.1 := w2
    have w3 : jx ++ (X.2.2 ++ (njW p X.1.length X.1 X.2.1 (l.toNat - 1)).2.2) = jw ++ W.2.2 := w3
    have el : (l - 1).toNat = l.toNat - 1 := by omega
    have hjj : RpAll D11 (jv ++ ws) ((jx ++ X.2.2).map tI) := by
      rw [List.map_append]
      exact RpAll.app (hJ9.up (up : Sm D9 D11).e) hws
    wtm_at "vc"
    refine hN2 _ _ _ ?_ ⟨b, X.1, X.2.1, jv ++ ws, jx ++ X.2.2, l - 1, D11, rfl, up, S16, hjj, by rw [List.length_append]; omega, by rw [el]; exact w1, by rw [el]; exact w2, by rw [el, List.append_assoc]; exact w3, rfl⟩
    omega
--@@
def sp_numbers_join_x (K : PySem.W.Frag) : Sp := fun vs H Q E => ∃ (D : Hp) (L : Own) (v n : V), vs = [v, n] ∧ Sx D L H ∧ OddV 2 7 D v ∧ ∀ C, PySem.W.nsIn K mainGlobals "NoWays" = some (some (.ref C)) → E (.ref C) none H
theorem ok_numbers_join_x {fA : Addr} {fd : FuncData} (F : Fun K "numbers_join" "numbers_join" st_numbers_join fA fd)
    (C_look_at_ways_x : Cl P w K mg base (L2.CX P w) 2 "look_at_ways" ["p"] (sp_look_at_ways_x K)) : FnOk P w K mg base (L2.CX P w) 3 fA fd ["p", "numbers"] (sp_numbers_join_x K) := by
  refine F.okX sc_numbers_join (fun vs H Q E h => ?_) (fun cdv A outer s H vs Q E hr h => ?_)
  · obtain ⟨D, L, v, n, rfl, S, ho, q⟩ := h
    rfl
  · obtain ⟨D, L, v, n, rfl, S, ho, q⟩ := h
    have hu : (A.deeper (envOfC "numbers_join" (defScope st_numbers_join) s.heap.objs.size fA cdv)).units + 64 < cLine := by have := hr.un; omega
    refine ⟨_, (pss_cons (ps_expr (pe_clS C_look_at_ways_x hr (by decide) (by rfl) (takes_of rfl rfl rfl rfl) (pa_cons (pv 0) pa_nil)))
      pss_never), ?_⟩
    refine st_start (σ' := [some _, some _, none, none, none, none, none, none, none, none, none]) rfl (fun bk ct => ?_)
    wtm_at "vc"
    exact ⟨D, L, v, rfl, S, ho, q⟩
abbrev st__law_refused : Stmt := topS 28
theorem sc__law_refused : FnScope ["which", "p", "lengths", "caught", "e"] ["which", "p", "lengths"] (defScope st__law_refused) := ⟨rfl, rfl, rfl, by decide +kernel, rfl, by decide +kernel, by decide +kernel⟩
def sp__law_refused (K : PySem.W.Frag) : Sp := fun vs H Q _ => ∃ (D : Hp) (L : Own) (w : Int) (v la : V), vs = [.int w, v, la] ∧ Sx D L H ∧ OddV 2 7 D v ∧ ∀ D' H', Sx D' L H' → Sm D D' → Q (.bl true) H'
theorem ok__law_refused {fA : Addr} {fd : FuncData} (F : Fun K "_law_refused" "_law_refused" st__law_refused fA fd) (b_isinstance : mg "isinstance" = none)
    {C_NoLevel : Addr} (k_NoLevel : ClC K mg "NoLevel" C_NoLevel)
    {C_NoWays : Addr} (k_NoWays : ClC K mg "NoWays" C_NoWays)
    {C_ReelError : Addr} (k_ReelError : ClC K mg "ReelError" C_ReelError)
    {C_TooFew : Addr} (k_TooFew : ClC K mg "TooFew" C_TooFew)
    {C_TooMany : Addr} (k_TooMany : ClC K mg "TooMany" C_TooMany) (x_NoWays : ExC K C_NoWays) (t_NoWays_NoLevel : KtO K C_NoWays (.ref C_NoLevel) false) (t_NoWays_NoWays : KtO K C_NoWays (.ref C_NoWays) true) (t_NoWays_TooFew : KtO K C_NoWays (.ref C_TooFew) false) (t_NoWays_TooMany : KtO K C_NoWays (.ref C_TooMany) false) (m_NoWays_ReelError : PySem.W.exmOne K (.ref C_NoWays) (.ref C_ReelError) = some true)
    (C_join_numbers_x : Cl P w K mg base (L2.CX P w) 3 "join_numbers" ["p", "rows", "log"] (sp_join_numbers_x K))
    (C_join_right_x : Cl P w K mg base (L2.CX P w) 3 "join_right" ["p", "lengths", "told"] (sp_join_right_x K))
    (C_least_join_x : Cl P w K mg base (L2.CX P w) 3 "least_join" ["p", "lengths"] (sp_least_join_x K))
    (C_numbers_join_x : Cl P w K mg base (L2.CX P w) 3 "numbers_join" ["p", "numbers"] (sp_numbers_join_x K)) : FnOk P w K mg base CX0 4 fA fd ["which", "p", "lengths"] (sp__law_refused K) := by
  refine F.ok sc__law_refused (fun vs H Q E h => ?_) (fun cdv A outer s H vs Q E hr h => ?_)
  · obtain ⟨D, L, w, v, la, rfl, S, ho, q⟩ := h
    rfl
  · obtain ⟨D, L, w, v, la, rfl, S, ho, q⟩ := h
    have hu : (A.deeper (envOfC "_law_refused" (defScope st__law_refused) s.heap.objs.size fA cdv)).units + 64 < cLine := by have := hr.un; omega
    refine ⟨_, (pss_cons (ps_set (i := 3) sc__law_refused.nd rfl (Or.inl rfl) pe_non)
      (pss_cons (by (refine' ps_try_keep (c := .ref C_ReelError) (i := 4) rfl rfl sc__law_refused.nd rfl rfl rfl ⟨by rfl, by decide, .inl k_ReelError.g⟩ takes0 ?hb ?hs; (case hb => exact (fun W pn xe tk po => (pss_one (ps_if (pt_cmpR (r := rEqX K) (opEq hu) (pv 0) pe_int (nomark _)) (pss_one (ps_expr (pe_clS C_least_join_x hr (by decide) (by rfl) tk (pa_cons (pv 1) (pa_cons (pv 2) pa_nil))))) (pss_one (ps_if (pt_cmpR (r := rEqX K) (opEq hu) (pv 0) pe_int (nomark _)) (pss_one (ps_expr (pe_clS C_join_right_x hr (by decide) (by rfl) tk (pa_cons (pv 1) (pa_cons (pv 2) (pa_cons (pe_tup (pa_cons pe_int (pa_cons (pe_lst pa_nil) pa_nil))) pa_nil)))))) (pss_one (ps_if (pt_cmpR (r := rEqX K) (opEq hu) (pv 0) pe_int (nomark _)) (pss_one (ps_expr (pe_clS C_join_numbers_x hr (by decide) (by rfl) tk (pa_cons (pv 1) (pa_cons pe_int (pa_cons (pe_lst pa_nil) pa_nil)))))) (pss_one (ps_expr (pe_clS C_numbers_join_x hr (by decide) (by rfl) tk (pa_cons (pv 1) (pa_cons (pe_lst (pa_cons pe_int pa_nil)) pa_nil))))))))))))); (case hs => exact (fun a oe cls d pn hz hf => (pss_one (ps_set (i := 3) sc__law_refused.nd rfl (Or.inl rfl) (pv 4)))))))
      (pss_one (ps_ret (pe_and (pe_callB (r := rIsEK K) call_isEK (by rfl) b_isinstance bb_isinstance (pa_cons (pv 3) (pa_cons (pe_glob (v := .ref C_NoWays) (by rfl) k_NoWays.g rfl) pa_nil))) (pe_one (pe_notK K (pe_callB (r := rIsEK K) call_isEK (by rfl) b_isinstance bb_isinstance (pa_cons (pv 3) (pa_cons (pe_tup (pa_cons (pe_glob (v := .ref C_NoLevel) (by rfl) k_NoLevel.g rfl) (pa_cons (pe_glob (v := .ref C_TooFew) (by rfl) k_TooFew.g rfl) (pa_cons (pe_glob (v := .ref C_TooMany) (by rfl) k_TooMany.g rfl) pa_nil)))) pa_nil)))))))))), ?_⟩
    refine st_start (σ' := [some _, some _, some _, none, none]) rfl (fun bk ct => ?_)
    wtm_at "vc"
    refine if_d (fun h0 => ?_) (fun h0 => ?_)
    · wtm_at "vc"
      refine ⟨D, L, v, la, rfl, S, ho, fun C hC => ?_⟩
      obtain rfl : C_NoWays = C := by
        have e := k_NoWays.ns.symm.trans hC
        cases e
        rfl
      refine ⟨true, m_NoWays_ReelError, fun _ a ha => ?_, fun z => nomatch z⟩
      simp only [List.set_cons_succ, List.set_cons_zero]
      wtm_at "vc"
      simp only [List.set_cons_succ, List.set_cons_zero]
      obtain ⟨S9, e9, k9⟩ := Sx.err (C := C_NoWays) S ha
      wtm_at "vc"
      exact q _ _ (Sx.gc (L := L)) up
    wtm_at "vc"
    refine if_d (fun h0 => ?_) (fun h0 => ?_)
    · wtm_at "vc"
      rename_i lz Hz Sz tz Dz Hy Sy ey ky
      refine ⟨Dz, _, v, la, _, rfl, Sy, ho.up ey.e, fun C hC => ?_⟩
      obtain rfl : C_NoWays = C := by
        have e := k_NoWays.ns.symm.trans hC
        cases e
        rfl
      refine ⟨true, m_NoWays_ReelError, fun _ a ha => ?_, fun z => nomatch z⟩
      simp only [List.set_cons_succ, List.set_cons_zero]
      wtm_at "vc"
      simp only [List.set_cons_succ, List.set_cons_zero]
      obtain ⟨S9, e9, k9⟩ := Sx.err (C := C_NoWays) Sy ha
      wtm_at "vc"
      exact q _ _ (Sx.gc (L := L)) up
    wtm_at "vc"
    refine if_d (fun h0 => ?_) (fun h0 => ?_)
    · wtm_at "vc"
      rename_i lz Hz Sz
      refine ⟨D, _, v, _, _, rfl, Sz, ho, fun C hC => ?_⟩
      obtain rfl : C_NoWays = C := by
        have e := k_NoWays.ns.symm.trans hC
        cases e
        rfl
      refine ⟨true, m_NoWays_ReelError, fun _ a ha => ?_, fun z => nomatch z⟩
      simp only [List.set_cons_succ, List.set_cons_zero]
      wtm_at "vc"
      simp only [List.set_cons_succ, List.set_cons_zero]
      obtain ⟨S9, e9, k9⟩ := Sx.err (C := C_NoWays) Sz ha
      wtm_at "vc"
      exact q _ _ (Sx.gc (L := L)) up
    · wtm_at "vc"
      rename_i lz Hz Sz
      refine ⟨D, _, v, _, rfl, Sz, ho, fun C hC => ?_⟩
      obtain rfl : C_NoWays = C := by
        have e := k_NoWays.ns.symm.trans hC
        cases e
        rfl
      refine ⟨true, m_NoWays_ReelError, fun _ a ha => ?_, fun z => nomatch z⟩
      simp only [List.set_cons_succ, List.set_cons_zero]
      wtm_at "vc"
      simp only [List.set_cons_succ, List.set_cons_zero]
      obtain ⟨S9, e9, k9⟩ := Sx.err (C := C_NoWays) Sz ha
      wtm_at "vc"
      exact q _ _ (Sx.gc (L := L)) up
abbrev st_law : Stmt := topS 29
theorem sc_law : FnScope ["script", "cell", "draws", "p", "lengths", "due", "kept", "told", "numbers", "length", "number", "odd", "which"] ["script"] (defScope st_law) := ⟨rfl, rfl, rfl, by decide +kernel, rfl, by decide +kernel, by decide +kernel⟩
theorem njO_ups (ns : List Int) : (((njO ns).map ngP).map (·.2)).Perm (ups ns.length) := by
  have h1 : (((njO ns).map ngP).map (·.2)).Perm ((enP 0 (ns.map fun n => 0 - n)).map Prod.snd) := by
    rw [List.map_map]
    exact (srtP_perm _).map _
  refine h1.trans ?_
  rw [enP_snd, List.length_map, ← List.range_eq_range']
  exact List.Perm.refl _


theorem rd_cs : ∀ (xs ys : List Int), (∀ y, y ∈ ys → 0 ≤ y) → (List.zipWith (fun a b => a * b) xs ys).sum = csW (xs.zip (ys.map Int.toNat))
  | [], ys, _ => by simp [csW]
  | x :: xs, [], _ => by simp [csW]
  | x :: xs, y :: ys, h => by
    have hy := h y List.mem_cons_self
    rw [List.zipWith_cons_cons, List.sum_cons, List.map_cons, List.zip_cons_cons, csW_cons, rd_cs xs ys fun z hz => h z (List.mem_cons_of_mem _ hz)]
    show x * y + _ = x * ((y.toNat : Nat) : Int) + _
    rw [Int.toNat_of_nonneg hy]
theorem ljR_rd {p : Nat} (hp : 2 ≤ p) {ls xs ys : List Int} (h1 : 1 ≤ ls.length) (hn : ∀ x, x ∈ ls → 0 ≤ x) (hx : xs.Perm ls) (hy : ∀ y, y ∈ ys → 0 ≤ y) (hl : ys.length = ls.length) (hk : Kra p (ys.map Int.toNat)) : (ljR p ls).1 ≤ (List.zipWith (fun a b => a * b) xs ys).sum := by
  rw [rd_cs xs ys hy]
  have hxl := hx.length_eq
  obtain ⟨z1, z2⟩ := zipN_fst (ls := xs) (ds := ys.map Int.toNat) (by rw [List.length_map]; omega)
  exact ljR_least hp h1 hn (by rw [z1]; exact hx) (by rw [z2]; exact hk)
theorem kS_ways {p M : Nat} : ∀ ds : List Nat, (∀ d, d ∈ ds → d ≤ M) → kS (p + 1) M ds * p ^ M ≤ (p + 1) ^ M * kS p M ds
  | [], _ => by
    show 0 * _ ≤ _
    rw [Nat.zero_mul]
    exact Nat.zero_le _
  | d :: ds, h => by
    have ih := kS_ways (p := p) ds fun x hx => h x (List.mem_cons_of_mem _ hx)
    have hd := h d List.mem_cons_self
    rw [kS_cons, kS_cons, Nat.add_mul, Nat.mul_add]
    refine Nat.add_le_add ?_ ih
    have e1 : p ^ M = p ^ d * p ^ (M - d) := by rw [← Nat.pow_add]; congr 1; omega
    have e2 : (p + 1) ^ M = (p + 1) ^ (M - d) * (p + 1) ^ d := by rw [← Nat.pow_add]; congr 1; omega
    rw [e1, e2, Nat.mul_assoc ((p + 1) ^ (M - d))]
    refine Nat.mul_le_mul_left _ (Nat.mul_le_mul_right _ (Nat.pow_le_pow_left (Nat.le_succ p) d))
theorem Kra.ways {p : Nat} (hp : 1 ≤ p) {ds : List Nat} (h : Kra p ds) : Kra (p + 1) ds := by
  obtain ⟨M, hM, hk⟩ := h
  refine ⟨M, hM, ?_⟩
  have h1 := kS_ways (p := p) ds hM
  have h2 : (p + 1) ^ M * kS p M ds ≤ (p + 1) ^ M * p ^ M := Nat.mul_le_mul_left _ hk
  exact Nat.le_of_mul_le_mul_right (Nat.le_trans h1 h2) (Nat.pow_pos (by omega))
theorem ljR_ways {p : Nat} (hp : 2 ≤ p) {ls : List Int} (h1 : 1 ≤ ls.length) (hn : ∀ x, x ∈ ls → 0 ≤ x) : (ljR (p + 1) ls).1 ≤ (ljR p ls).1 := by
  obtain ⟨ds, d1, d2, d3⟩ := ljR_att hp h1
  rw [d3]
  exact ljR_lst (by omega) h1 hn d1 (d2.ways (by omega))
theorem csW_put {v : Int} : ∀ (xs : List Int) (ds : List Nat) (i : Nat) (x : Int) (d : Nat), xs[i]? = some x → ds[i]? = some d → csW ((xs.set i (x + v)).zip ds) = csW (xs.zip ds) + v * (d : Int)
  | [], _, i, x, d, h, _ => by simp at h
  | x :: xs, [], i, _, d, _, h => by simp at h
  | x :: xs, e :: ds, 0, y, d, h, h' => by
    cases h
    cases h'
    rw [List.set_cons_zero, List.zip_cons_cons, List.zip_cons_cons, csW_cons, csW_cons]
    show (x + v) * (e : Int) + _ = x * (e : Int) + _ + _
    rw [Int.add_mul]
    omega
  | x :: xs, e :: ds, i + 1, y, d, h, h' => by
    rw [List.set_cons_succ, List.zip_cons_cons, List.zip_cons_cons, csW_cons, csW_cons, csW_put xs ds i y d (by simpa using h) (by simpa using h')]
    omega
/-- a length greater by so much: greater by no less, and no more than so much for each joining -/
theorem ljR_put {p : Nat} (hp : 2 ≤ p) {ls : List Int} (h1 : 1 ≤ ls.length) (hn : ∀ x, x ∈ ls → 0 ≤ x) {i : Nat} {x v : Int} (hx : ls[i]? = some x) (hv : 0 ≤ v) : (ljR p ls).1 ≤ (ljR p (ls.set i (x + v))).1 ∧ (ljR p (ls.set i (x + v))).1 ≤ (ljR p ls).1 + v * (fol (ls.length : Int) (ljR p ls).2 (i : Int) : Int) := by
  have hil := (List.getElem?_eq_some_iff.mp hx).1
  have hn' : ∀ y, y ∈ ls.set i (x + v) → 0 ≤ y := fun y hy => by
    rcases List.mem_or_eq_of_mem_set hy with h | h
    · exact hn y h
    · have := hn x (List.mem_of_getElem? hx)
      omega
  refine ⟨ljR_mono hp h1 hn (List.length_set).symm fun j a b ha hb => ?_, ?_⟩
  · rw [List.getElem?_set] at hb
    split at hb
    · rename_i e
      subst e
      rw [hx] at ha
      have := Option.some.inj ha
      have := Option.some.inj hb
      omega
    · rw [ha] at hb
      exact Int.le_of_eq (Option.some.inj hb)
  · obtain ⟨a1, a2⟩ := ljR_jn hp h1
    obtain ⟨ds, hds⟩ : ∃ ds : List Nat, ds = ((enP 0 ls).map Prod.snd).map fun x => fol (ls.length : Int) (ljR p ls).2 x := ⟨_, rfl⟩
    have hdl : ds.length = ls.length := by rw [hds, List.length_map, List.length_map, enP_len]
    have key : ∀ (xs : List Int) (j : Nat) (F : Int → Nat), ((enP j xs).map fun x => x.1 * (F x.2 : Int)).sum = csW (xs.zip (((enP j xs).map Prod.snd).map F)) := fun xs => by
      induction xs with
      | nil => intro j F; rfl
      | cons x xs ih =>
        intro j F
        show x * (F (j : Int) : Int) + ((enP (j + 1) xs).map fun x => x.1 * (F x.2 : Int)).sum = csW ((x, F (j : Int)) :: xs.zip (((enP (j + 1) xs).map Prod.snd).map F))
        rw [csW_cons, ih]
    rw [key ls 0 (fun x => fol (ls.length : Int) (ljR p ls).2 x), ← hds] at a2
    have hdi : ds[i]? = some (fol (ls.length : Int) (ljR p ls).2 (i : Int)) := by
      rw [hds, List.getElem?_map, List.getElem?_map, enP_get hx, Nat.zero_add]
      rfl
    have hk : Kra p ds := by rw [hds]; exact jn_kra (by omega) a1
    have h5 := ljR_lst hp (by rw [List.length_set]; exact h1) hn' (ds := ds) (by rw [List.length_set]; exact hdl) hk
    rw [csW_put ls ds i x _ hx hdi, ← a2] at h5
    exact h5
theorem ups_enP (xs : List Int) : ((enP 0 xs).map Prod.snd) = ups xs.length := by
  rw [enP_snd, ← List.range_eq_range']
  rfl

theorem ups_memK {n : Nat} {x : Int} (hx : x ∈ ups n) : 0 ≤ x ∧ x < (n : Int) := by
  unfold ups at hx
  obtain ⟨k, hk, rfl⟩ := List.mem_map.mp hx
  have := List.mem_range.mp hk
  constructor
  · exact Int.natCast_nonneg k
  · exact Int.ofNat_lt.mpr this

/-- what was fixed for a while is owned again -/
theorem Sx.thaw {D D2 : Hp} {L : Own} {H : Hp} {lg : Addr} {o : HO} (S : Sx D2 L H) (k : Kn D2 lg o) (h0 : D lg = none) (e : Sm D D2) : ∃ D', Sm D D' ∧ Sx D' ((lg, o) :: L) H := by
  refine ⟨fun b => if b = lg then none else D2 b, ⟨fun b u h => ?_⟩, ⟨fun b u h => ?_, fun q hq => ?_, ?_⟩⟩
  · have hb : b ≠ lg := fun z => by rw [z, h0] at h; cases h
    show (if b = lg then none else D2 b) = some u
    rw [if_neg hb]
    exact e.e _ _ h
  · have h : (if b = lg then none else D2 b) = some u := h
    by_cases z : b = lg
    · rw [if_pos z] at h; cases h
    · rw [if_neg z] at h; exact S.dH _ _ h
  · rcases List.mem_cons.mp hq with z | z
    · rw [z]
      exact ⟨S.dH _ _ k.pf, if_pos rfl⟩
    · refine ⟨(S.ow q z).1, ?_⟩
      show (if q.1 = lg then none else D2 q.1) = none
      by_cases y : q.1 = lg
      · rw [if_pos y]
      · rw [if_neg y]; exact (S.ow q z).2
  · rw [List.map_cons, List.nodup_cons]
    refine ⟨fun h => ?_, S.nd⟩
    obtain ⟨q, hq, e1⟩ := List.mem_map.mp h
    have h1 := (S.ow q hq).2
    have e1 : q.1 = lg := e1
    rw [e1, k.pf] at h1
    cases h1

/-- what was fixed for a while is owned again -/
theorem Sx.thaw2 {D D2 : Hp} {L : Own} {H : Hp} {lg : Addr} {o : HO} (S : Sx D2 L H) (k : Kn D2 lg o) (h0 : D lg = none) (e : Sm D D2) : ∃ D', Sm D D' ∧ Sx D' ((lg, o) :: L) H ∧ ∀ x u, x ≠ lg → D2 x = some u → D' x = some u := by
  refine ⟨fun b => if b = lg then none else D2 b, ⟨fun b u h => ?_⟩, ⟨fun b u h => ?_, fun q hq => ?_, ?_⟩, fun x u hx h => by show (if x = lg then none else D2 x) = some u; rw [if_neg hx]; exact h⟩
  · have hb : b ≠ lg := fun z => by rw [z, h0] at h; cases h
    show (if b = lg then none else D2 b) = some u
    rw [if_neg hb]
    exact e.e _ _ h
  · have h : (if b = lg then none else D2 b) = some u := h
    by_cases z : b = lg
    · rw [if_pos z] at h; cases h
    · rw [if_neg z] at h; exact S.dH _ _ h
  · rcases List.mem_cons.mp hq with z | z
    · rw [z]
      exact ⟨S.dH _ _ k.pf, if_pos rfl⟩
    · refine ⟨(S.ow q z).1, ?_⟩
      show (if q.1 = lg then none else D2 q.1) = none
      by_cases y : q.1 = lg
      · rw [if_pos y]
      · rw [if_neg y]; exact (S.ow q z).2
  · rw [List.map_cons, List.nodup_cons]
    refine ⟨fun h => ?_, S.nd⟩
    obtain ⟨q, hq, e1⟩ := List.mem_map.mp h
    have h1 := (S.ow q hq).2
    have e1 : q.1 = lg := e1
    rw [e1, k.pf] at h1
    cases h1

def sp_law (K : PySem.W.Frag) : Sp := fun vs H Q _ => ∃ (a : Addr) (ns : List Int), vs = [.ref a] ∧ Sq K H a (ns.map V.int) ∧ ns.length ≤ 63 ∧ ∀ H', Q (.bl true) H'
theorem ok_law {fA : Addr} {fd : FuncData} (F : Fun K "law" "law" st_law fA fd) (b_all : mg "all" = none) (b_int : mg "int" = none) (b_isinstance : mg "isinstance" = none) (b_len : mg "len" = none) (b_list : mg "list" = none) (b_range : mg "range" = none) (b_sum : mg "sum" = none) (b_tuple : mg "tuple" = none) (b_zip : mg "zip" = none)
    (C__law_draws : Cl P w K mg base CX0 2 "_law_draws" ["cell", "many", "base"] (sp__law_draws K))
    (C__law_greedy : Cl P w K mg base CX0 1 "_law_greedy" ["p", "lengths"] (sp__law_greedy K))
    (C__law_kinds : Cl P w K mg base CX0 2 "_law_kinds" ["told"] (sp__law_kinds K))
    (C__law_lengths : Cl P w K mg base CX0 1 "_law_lengths" ["draws", "most"] (sp__law_lengths K))
    (C__law_often : Cl P w K mg base CX0 1 "_law_often" ["rows", "log"] (sp__law_often K))
    (C__law_refused : Cl P w K mg base CX0 4 "_law_refused" ["which", "p", "lengths"] (sp__law_refused K))
    (C_join_numbers : Cl P w K mg base CX0 3 "join_numbers" ["p", "rows", "log"] (sp_join_numbers K))
    (C_join_right : Cl P w K mg base CX0 3 "join_right" ["p", "lengths", "told"] (sp_join_right K))
    (C_least_join : Cl P w K mg base CX0 3 "least_join" ["p", "lengths"] (sp_least_join K)) : FnOk P w K mg base CX0 5 fA fd ["script"] (sp_law K) := by
  refine F.ok sc_law (fun vs H Q E h => ?_) (fun cdv A outer s H vs Q E hr h => ?_)
  · obtain ⟨a, ns, rfl, hA, hn, q⟩ := h
    rfl
  · obtain ⟨a, ns, rfl, hA, hn, q⟩ := h
    have hu : (A.deeper (envOfC "law" (defScope st_law) s.heap.objs.size fA cdv)).units + 64 < cLine := by have := hr.un; omega
    refine ⟨_, (pss_cons (ps_for PassesOwn.never rfl (pi_seqK K (pe_op (r := rAddX K) opAdd (pe_slice (r := rSlX K) slX (pv 0) po_none (po_some pe_int)) (pe_lst (pa_cons (pe_callB (r := rLen K) call_lenN (by rfl) b_len bb_len (pa_cons (pv 0) pa_nil)) pa_nil)))) (pg_name (i := 1) sc_law.nd rfl (Or.inl rfl))
      (pss_cons (ps_set (i := 2) sc_law.nd rfl (Or.inl rfl) (pe_cl C__law_draws hr (by decide) (by rfl) (pa_cons (pv 1) (pa_cons pe_int (pa_cons (pe_op op_pow pe_int pe_int) pa_nil)))))
      (pss_cons (ps_set (i := 3) sc_law.nd rfl (Or.inl rfl) (pe_op (r := rAddX K) opAdd pe_int (pe_op op_mod (pe_ix (r := rIx K) ix_seq (pv 2) pe_int (fun _ _ => rfl)) pe_int)))
      (pss_cons (ps_set (i := 4) sc_law.nd rfl (Or.inr rfl) (pe_cl C__law_lengths hr (by decide) (by rfl) (pa_cons (pv 2) (pa_cons (pe_ix (r := rIx K) ix_seq (pe_lst (pa_cons pe_int (pa_cons pe_int pa_nil))) (pe_callTy call_intN (by rfl) b_int bb_int (pa_cons (pe_cmpR (r := rEqX K) (opEq hu) (pe_op op_mod (pe_ix (r := rIx K) ix_seq (pv 2) pe_int (fun _ _ => rfl)) pe_int) pe_int (nomark _)) pa_nil)) (fun _ _ => rfl)) pa_nil))))
      (Evl.pss_cut (ps_if (pt_cmpR (r := rEqX K) (opEq hu) (pe_op op_mod (pe_ix (r := rIx K) ix_seq (pv 2) pe_int (fun _ _ => rfl)) pe_int) pe_int (nomark _)) (pss_one (ps_set (i := 4) sc_law.nd rfl (Or.inr rfl) (pe_callTy (r := rTupOf K) call_tupN (by rfl) b_tuple bb_tuple (pa_cons (pv 4) pa_nil)))) pss_nil)
      (pss_cons (ps_set (i := 5) sc_law.nd rfl (Or.inl rfl) (pe_cl C__law_greedy hr (by decide) (by rfl) (pa_cons (pv 3) (pa_cons (pv 4) pa_nil))))
      (pss_cons (ps_set (i := 6) sc_law.nd rfl (Or.inl rfl) (pe_callTy (r := rTupOf K) call_tupN (by rfl) b_tuple bb_tuple (pa_cons (pv 4) pa_nil)))
      (pss_cons (ps_set (i := 7) sc_law.nd rfl (Or.inl rfl) (pe_cl C_least_join hr (by decide) (by rfl) (pa_cons (pv 3) (pa_cons (pv 4) pa_nil))))
      (pss_cons (ps_if (PW.pt (pw_or (pt_not (pt_val (pe_cl C__law_kinds hr (by decide) (by rfl) (pa_cons (pv 7) pa_nil)))) (pw_or (pt_cmpR (r := rNeX K) (opNe hu) (pv 7) (pv 5) (nomark _)) (pw_or1 (pt_cmpR op_notBl (pe_cl C_join_right hr (by decide) (by rfl) (pa_cons (pv 3) (pa_cons (pv 4) (pa_cons (pv 7) pa_nil)))) pe_bl (nomark _)))))) (pss_one (ps_ret pe_bl)) pss_nil)
      (pss_cons (ps_set (i := 8) sc_law.nd rfl (Or.inl rfl) (pe_cl C_join_numbers hr (by decide) (by rfl) (pa_cons (pv 3) (pa_cons (pe_callB (r := rLen K) call_lenN (by rfl) b_len bb_len (pa_cons (pv 4) pa_nil)) (pa_cons (pe_ix (r := rIx K) ix_seq (pv 7) pe_int (fun _ _ => rfl)) pa_nil)))))
      (pss_cons (ps_if (PW.pt (pw_or (pt_not (pt_val (pe_callB (r := rIsiX K) call_isiX (by rfl) b_isinstance bb_isinstance (pa_cons (pv 8) (pa_cons (pe_bltn (v := .ty "list") (u := .type "list") (by rfl) b_list bb_list rfl) pa_nil))))) (pw_or1 (pt_cmpR (r := rNeX K) (opNe hu) (pv 8) (pe_cl C__law_often hr (by decide) (by rfl) (pa_cons (pe_callB (r := rLen K) call_lenN (by rfl) b_len bb_len (pa_cons (pv 4) pa_nil)) (pa_cons (pe_ix (r := rIx K) ix_seq (pv 5) pe_int (fun _ _ => rfl)) pa_nil))) (nomark _))))) (pss_one (ps_ret pe_bl)) pss_nil)
      (pss_cons (ps_if (pt_cmpR (r := rNeX K) (opNe hu) (pe_callB (r := rSumX K) (cr_sumX rfl) (by rfl) b_sum bb_sum (pa_cons (pe_lc (own := [("length", 9), ("number", 10)]) (tt := tYes) rfl sc_law.nd (pi_zipX K (by rfl) b_zip (pa_cons (pv 4) (pa_cons (pv 8) pa_nil))) (blkOk_by (N := ["script", "cell", "draws", "p", "lengths", "due", "kept", "told", "numbers", "length", "number", "odd", "which"]) (sc := defScope st_law) (by decide +kernel)) (fun _ _ _ _ _ => (pg_tupK K 2 rfl (pgs_cons (pg_name (i := 9) sc_law.nd rfl (Or.inl rfl)) (pgs_cons (pg_name (i := 10) sc_law.nd rfl (Or.inl rfl)) pgs_nil)))) (fun _ _ _ _ _ => pts_nil) (fun _ _ _ _ _ => (pe_op (r := rMulU K) opMulU (pv 9) (pv 10)))) pa_nil)) (pe_ix (r := rIx K) ix_seq (pv 7) pe_int (fun _ _ => rfl)) (nomark _)) (pss_one (ps_ret pe_bl)) pss_nil)
      (pss_cons (ps_expr (pe_bm PySem.F.plainAttrs_list PySem.F.slot_list_append PySem.F.type_list_append mt_append (pe_ix (r := rIx K) ix_seq (pv 7) pe_int (fun _ _ => rfl)) (pa_cons (pe_tup (pa_cons pe_int (pa_cons pe_int pa_nil))) pa_nil)))
      (pss_cons (ps_expr (pe_bm PySem.F.plainAttrs_list PySem.F.slot_list_append PySem.F.type_list_append mt_append (pv 8) (pa_cons pe_int pa_nil)))
      (pss_cons (ps_if (PW.pt (pw_or (pt_cmpR (r := rNeX K) (opNe hu) (pe_cl C_least_join hr (by decide) (by rfl) (pa_cons (pv 3) (pa_cons (pv 4) pa_nil))) (pv 5) (nomark _)) (pw_or1 (pt_cmpR (r := rNeX K) (opNe hu) (pe_callTy (r := rTupOf K) call_tupN (by rfl) b_tuple bb_tuple (pa_cons (pv 4) pa_nil)) (pv 6) (nomark _))))) (pss_one (ps_ret pe_bl)) pss_nil)
      (pss_cons (ps_set (i := 11) sc_law.nd rfl (Or.inr rfl) (pe_ix (r := rIx K) ix_seq (pe_lst (pa_cons pe_int (pa_cons pe_int (pa_cons pe_bl (pa_cons pe_non (pa_cons pe_str (pa_cons (pe_lst (pa_cons pe_int pa_nil)) (pa_cons (pe_op (r := rAddX K) opAdd pe_int (pe_op op_pow pe_int pe_int)) (pa_cons (pe_un un_neg pe_int) (pa_cons pe_dnewK (pa_cons (pe_tup pa_nil) pa_nil))))))))))) (pe_op op_mod (pe_ix (r := rIx K) ix_seq (pv 2) pe_int (fun _ _ => rfl)) pe_int) (fun _ _ => rfl)))
      (pss_one (ps_if (pt_not (pt_val (pe_callB (r := rAll K) (cr_all rfl) (by rfl) b_all bb_all (pa_cons (pe_lc (own := [("which", 12)]) (tt := tYes) rfl sc_law.nd (pi_range1 (by rfl) b_range (pa_cons pe_int pa_nil)) (blkOk_by (N := ["script", "cell", "draws", "p", "lengths", "due", "kept", "told", "numbers", "length", "number", "odd", "which"]) (sc := defScope st_law) (by decide +kernel)) (fun _ _ _ _ _ => (pg_name (i := 12) sc_law.nd rfl (Or.inl rfl))) (fun _ _ _ _ _ => pts_nil) (fun _ _ _ _ _ => (pe_cl C__law_refused hr (by decide) (by rfl) (pa_cons (pv 12) (pa_cons (pv 11) (pa_cons (pv 4) pa_nil)))))) pa_nil)))) (pss_one (ps_ret pe_bl)) pss_nil))))))))))))))))))
      (pss_one (ps_ret pe_bl))), ?_⟩
    refine st_start (σ' := [some _, none, none, none, none, none, none, none, none, none, none, none, none]) rfl (fun bk ct => ?_)
    have S := Sx.start H
    have hcu : CuC (ns.map V.int) none (some 10) ((ns.take 10).map V.int) := ⟨by rw [show cutV (ns.map V.int) none (some 10) = (ns.map V.int).take 10 from cut_to _ 10, List.map_take]⟩
    wtm_at "vc"
    rename_i b1 H1 S1 b2 H2 S2 b3 H3 S3
    obtain ⟨D2, e2, k2, S4⟩ := Sx.fix1 (a := b3) (S := S3)
    have em3 : (ns.take 10).map V.int ++ [V.int (ns.length : Int)] = (ns.take 10 ++ [(ns.length : Int)]).map V.int := by
      rw [List.map_append]
      rfl
    rw [em3] at k2
    generalize ns.take 10 ++ [(ns.length : Int)] = CL at *
    have S5 : Sx D2 [] H3 := Sx.gc (S := S4)
    refine for_go (walk_list (xs := CL.map V.int)) (fun i σ H1 => ∃ (D : Hp) (x1 x2 x3 x4 x5 x6 x7 x8 x9 x10 x11 x12 : Option V), Sx D [] H1 ∧ Sm D2 D ∧ σ = [some (.ref a), x1, x2, x3, x4, x5, x6, x7, x8, x9, x10, x11, x12])
      ⟨D2, _, _, _, _, _, _, _, _, _, _, _, _, S5, up, rfl⟩ (fun i σ H1 hi ⟨D, x1, x2, x3, x4, x5, x6, x7, x8, x9, x10, x11, x12, S, eD, es⟩ => (rsD (K := K) (L := []) (eD.e _ _ k2.pf)).sq S) (fun i v σ H1 H2 hi ⟨D, x1, x2, x3, x4, x5, x6, x7, x8, x9, x10, x11, x12, S, eD, es⟩ hy nx bk hN => ?_) (fun σ H1 ⟨D, x1, x2, x3, x4, x5, x6, x7, x8, x9, x10, x11, x12, S, eD, es⟩ => ?_)
    rotate_left
    · subst es
      wtm_at "vc"
      exact q _
    obtain ⟨rfl, hv⟩ := hy
    obtain ⟨cl, hcl, rfl⟩ := getI hv
    subst es
    wtm_at "vc"
    refine ⟨_, _, cl, 70, rfl, S, by decide, by decide, fun db ds H3 S3 hdl hds => ?_⟩
    have hdl : ds.length = 70 := hdl
    obtain ⟨D3, e3, k3, S4⟩ := Sx.fix1 (a := db) (S := S3)
    have hA : ∀ k : Nat, k < 70 → ∃ d, ds[k]? = some d ∧ AtC (ds.map V.int) (k : Int) (.int d) ∧ 0 ≤ d := fun k hk => by
      have h9 := List.getElem?_eq_getElem (show k < ds.length by omega)
      exact ⟨_, h9, ⟨atN (by omega) (by rw [Int.toNat_natCast]; exact mapI h9)⟩, (hds _ (List.getElem_mem _)).1⟩
    obtain ⟨d62, _, a62, _⟩ := hA 62 (by decide)
    obtain ⟨d63, _, a63, _⟩ := hA 63 (by decide)
    obtain ⟨d64, _, a64, _⟩ := hA 64 (by decide)
    obtain ⟨d65, _, a65, g65⟩ := hA 65 (by decide)
    have a62 : AtC (ds.map V.int) 62 (.int d62) := a62
    have a63 : AtC (ds.map V.int) 63 (.int d63) := a63
    have a64 : AtC (ds.map V.int) 64 (.int d64) := a64
    have a65 : AtC (ds.map V.int) 65 (.int d65) := a65
    obtain ⟨p, hp⟩ : ∃ p : Nat, 2 + d62 % 6 = (p : Int) := ⟨(2 + d62 % 6).toNat, by omega⟩
    have hp2 : 2 ≤ p := by omega
    have hp7 : p ≤ 7 := by omega
    obtain ⟨M, hM, aM⟩ : ∃ M : Int, (M = 20 ∨ M = 60) ∧ AtC [V.int 20, V.int 60] (if decide (d63 % 8 = 1) = true then 1 else 0) (.int M) := by
      split
      · exact ⟨60, .inr rfl, ⟨rfl⟩⟩
      · exact ⟨20, .inl rfl, ⟨rfl⟩⟩
    wtm_at "vc"
    rw [hp]
    rename_i pq Hq Sq_
    have S6' : Sx D3 [] Hq := Sx.gc (S := Sq_)
    refine ⟨D3, _, db, ds, M, rfl, S6', k3, by omega, by omega, by omega, hds, fun lb ls H5 S7 l1 l2 lb0 => ?_⟩
    obtain ⟨D4, e4, kl, S8⟩ := Sx.fix1 (a := lb) (S := S7)
    have hl60 : ls.length ≤ 60 := by omega
    have k34 : Kn D4 db (.lst (ds.map V.int)) := inferInstance
    wtm_at "vc"
    refine s_cut (fun σ H => ∃ (la : Addr) (D5 : Hp), Sx D5 [] H ∧ Sm D4 D5 ∧ (Kn D5 la (.lst (ls.map V.int)) ∨ Kn D5 la (.tup (ls.map V.int))) ∧ σ = [some (.ref a), some (.int cl), some (.ref db), some (.int (p : Int)), some (.ref la), x5, x6, x7, x8, x9, x10, x11, x12]) (fun nx hN2 => ?_) (fun σ H ⟨la, D5, S8, e5, hla, es⟩ => ?_)
    · wtm_at "vc"
      refine if_d (fun c => ?_) (fun c => ?_)
      · wtm_at "vc"
        rename_i tq Dq Hz Sz ez kz
        exact hN2 _ _ ⟨tq, Dq, Sz, ez, .inr kz, rfl⟩
      · wtm_at "vc"
        exact hN2 _ _ ⟨lb, D4, Sx.gc (S := S8), Sm.rfl', .inl kl, rfl⟩
    subst es
    have k35 : Kn D5 db (.lst (ds.map V.int)) := inferInstance
    clear kl
    rcases hla with hla | hla
    · have kla : Kn D5 la (.lst (ls.map V.int)) := inferInstance
      wtm_at "vc"
      refine ⟨D5, _, la, (p : Int), ls, rfl, by omega, by omega, S8, ⟨.inl kla.pf⟩, by omega, by omega, fun tg lg2 us2 D6 H6 S9 e6 ktg hj2 => ?_⟩
      rw [Int.toNat_natCast] at ktg hj2
      obtain ⟨D7, e7, klg2, S10⟩ := Sx.fix1 (a := lg2) (S := S9)
      have hj2 := hj2.up e7.e
      have kla7 : Kn D7 la (.lst (ls.map V.int)) := inferInstance
      wtm_at "vc"
      rename_i kp Dk Hk Sk ek kk
      have klak : Kn Dk la (.lst (ls.map V.int)) := inferInstance
      refine ⟨Dk, _, la, (p : Int), ls, rfl, by omega, by omega, Sk, ⟨.inl klak.pf⟩, by omega, by omega, fun tt lg us D8 H8 S11 e8 ktt hj => ?_⟩
      rw [Int.toNat_natCast] at ktt hj
      obtain ⟨b1, b2⟩ := ljR_jn hp2 l1
      have hjl := Jn.len b1
      rw [ups_enP, ups_len] at hjl
      have h2m := Jn.two b1
      have hlo := Jn.lo b1 (fun x hx => by rw [ups_enP] at hx; exact ups_memK hx) (by omega)
      have hall := b2
      generalize hJS : (ljR p ls).2 = jss at hj hj2 b1 hjl h2m hlo hall
      have husl : us.length = jss.length := by have := hj.length; rw [List.length_map] at this; exact this
      wtm_at "vc"
      refine ⟨D8, _, tt, lg, (ljR p ls).1, us, jss, rfl, S11, ktt, hj, by omega, fun j hj => by have := (h2m j hj).2; omega, fun D9 H9 S12 e9 => ?_⟩
      wtm_at "vc"
      obtain ⟨D10, e10, klg, S13⟩ := Sx.fix1 (a := lg) (S := S12)
      have hj10 := hj.up (up : Sm D8 D10).e
      have hj210 := hj2.up (up : Sm D7 D10).e
      have ktt10 : Kn D10 tt (.tup [.int (ljR p ls).1, .ref lg]) := inferInstance
      have ktg10 : Kn D10 tg (.tup [.int (ljR p ls).1, .ref lg2]) := inferInstance
      have klg210 : Kn D10 lg2 (.lst us2) := inferInstance
      have kla10 : Kn D10 la (.lst (ls.map V.int)) := inferInstance
      have sh3 : Sh 3 (.tuple [.int (ljR p ls).1, .list (jss.map tI)]) := Sh.tup (n := 2) fun z hz => by
        rcases List.mem_cons.mp hz with h | h
        · rw [h]; exact Sh.int 2 _
        · rw [List.mem_singleton.mp h]
          exact Sh.list (n := 1) fun z hz => by
            obtain ⟨j, _, rfl⟩ := List.mem_map.mp hz
            exact Sh.tup Sh.ints
      refine r_neSame (d := .tuple [.int (ljR p ls).1, .list (jss.map tI)]) (n := 3) (.tup (sqT S13 ktt10.pf) (.cons (.int _) (.cons (.lst (Rds.sq S13 (rsD klg.pf)) (RpAll.dp (hj10.up S13.dH))) .nil))) (.tup (sqT S13 ktg10.pf) (.cons (.int _) (.cons (.lst (Rds.sq S13 (rsD klg210.pf)) (RpAll.dp (hj210.up S13.dH))) .nil))) sh3 ?_
      wtm_at "vc"
      refine ⟨D10, _, la, tt, lg, p, ls, (ljR p ls).1, us, jss, rfl, hp2, hp7, S13, ⟨.inl kla10.pf⟩, l1, by omega, ktt10, ⟨.inl klg.pf⟩, hj10, by omega, fun j hj => by have := (h2m j hj).2; omega, fun D11 H11 S14 e11 => ?_⟩
      rw [show jrB p ls (ljR p ls).1 jss = true from by rw [← hJS]; exact jr_least hp2 l1]
      wtm_at "vc"
      refine ⟨_, _, rfl, rfl, ?_⟩
      have klg11 : Kn D11 lg (.lst us) := inferInstance
      have klg211 : Kn D11 lg2 (.lst us2) := inferInstance
      have kla11 : Kn D11 la (.lst (ls.map V.int)) := inferInstance
      have ktt11 : Kn D11 tt (.tup [.int (ljR p ls).1, .ref lg]) := inferInstance
      have ktg11 : Kn D11 tg (.tup [.int (ljR p ls).1, .ref lg2]) := inferInstance
      wtm_at "vc"
      refine ⟨D11, _, (p : Int), (ls.length : Int), lg, us, jss, rfl, S14, ⟨.inl klg11.pf⟩, hj10.up e11.e, by omega, by omega, by omega, by omega, by omega, hlo, fun nb H12 S15 => ?_⟩
      rw [Int.toNat_natCast] at S15
      wtm_at "vc"
      refine ⟨D11, _, (ls.length : Int), lg2, us2, jss, rfl, S15, klg211, hj210.up e11.e, by omega, by omega, by omega, hlo, fun ob H13 S16 => ?_⟩
      rw [Int.toNat_natCast] at S16
      wtm_at "vc"
      have hnl : ((List.range ls.length).map fun (x : Nat) => (fol (ls.length : Int) jss x : Int)).length = ls.length := by rw [List.length_map, List.length_range]
      refine lc_vals (S := S16) (walk_zip (xs := ls.map V.int) (ys := ((List.range ls.length).map fun (x : Nat) => (fol (ls.length : Int) jss x : Int)).map V.int) (n := ls.length) (by rw [List.length_map, List.length_map, hnl]; omega)) (by omega) (((enP 0 ls).map fun x => x.1 * (fol (ls.length : Int) jss x.2 : Int)).map V.int) (by rw [List.length_map, List.length_map, enP_len]) (fun p acc H' S' => ⟨Rds.sq S' (rsD kla11.pf), Rds.sq S' rs2⟩) (fun i v q2 acc H2 H3 hi S2 hy Ad hA => ?_) (fun bl H14 S18 => ?_)
      · obtain ⟨T, x, z, D6, rfl, hx, hz, e6, kT, S9⟩ := pair_step hy
        obtain ⟨x, hx', rfl⟩ := getI hx
        obtain ⟨z, hz', rfl⟩ := getI hz
        rw [List.getElem?_map, List.getElem?_range hi] at hz'
        have hz' := Option.some.inj hz'
        have hxb := lb0 x (List.mem_of_getElem? hx')
        have hfl := fol_le (ls.length : Int) jss (i : Int)
        have hmul : MulOk x z := .inl ⟨by omega, by omega⟩
        wtm_at "vc"
        have hg := enP_get (j := 0) hx'
        refine hA _ _ Sx.gw ?_
        rw [List.getElem?_map, List.getElem?_map, hg, ← hz', Nat.zero_add]
        rfl
      wtm_at "vc"
      rename_i t01 Dq Hq Sz1 ez1 kz1
      have S20 : Sx Dq [(nb, .lst (((List.range ls.length).map fun (x : Nat) => (fol (ls.length : Int) jss x : Int)).map V.int))] Hq := Sx.gc (S := Sz1)
      have klgq : Kn Dq lg (.lst us) := inferInstance
      obtain ⟨D12, e12, S21, hk12⟩ := Sx.thaw2 (D := D9) S20 klgq (S12.ow (lg, .lst us) List.mem_cons_self).2 (up : Sm D9 Dq)
      have kt12 : Kn D12 t01 (.tup [.int 0, .int 1]) := ⟨hk12 _ _ (fun z => by have h9 := kz1.pf; rw [z, klgq.pf] at h9; cases h9) kz1.pf⟩
      have ktt12 : Kn D12 tt (.tup [.int (ljR p ls).1, .ref lg]) := inferInstance
      have ktg12 : Kn D12 tg (.tup [.int (ljR p ls).1, .ref lg2]) := inferInstance
      have klg212 : Kn D12 lg2 (.lst us2) := inferInstance
      have kla12 : Kn D12 la (.lst (ls.map V.int)) := inferInstance
      have kk12 : Kn D12 kp (.tup (ls.map V.int)) := inferInstance
      have k312 : Kn D12 db (.lst (ds.map V.int)) := inferInstance
      wtm_at "vc"
      rename_i Hr Sr Hs Ss
      have S22 : Sx D12 [] Hs := Sx.gc (S := Ss)
      refine ⟨D12, _, la, (p : Int), ls, rfl, by omega, by omega, S22, ⟨.inl kla12.pf⟩, by omega, by omega, fun t5 lg5 us5 D14 H15 S19 e14 kt5 hj5 => ?_⟩
      rw [Int.toNat_natCast] at kt5 hj5
      rw [hJS] at hj5
      obtain ⟨D15, e15, klg5, S23⟩ := Sx.fix1 (a := lg5) (S := S19)
      have kt515 : Kn D15 t5 (.tup [.int (ljR p ls).1, .ref lg5]) := inferInstance
      have ktg15 : Kn D15 tg (.tup [.int (ljR p ls).1, .ref lg2]) := inferInstance
      have klg215 : Kn D15 lg2 (.lst us2) := inferInstance
      have kla15 : Kn D15 la (.lst (ls.map V.int)) := inferInstance
      have kk15 : Kn D15 kp (.tup (ls.map V.int)) := inferInstance
      have k315 : Kn D15 db (.lst (ds.map V.int)) := inferInstance
      have hj515 := hj5.up e15.e
      have hj215 := hj2.up (up : Sm D7 D15).e
      wtm_at "vc"
      refine r_neSame (d := .tuple [.int (ljR p ls).1, .list (jss.map tI)]) (n := 3) (.tup (sqT S23 kt515.pf) (.cons (.int _) (.cons (.lst (Rds.sq S23 (rsD klg5.pf)) (RpAll.dp (hj515.up S23.dH))) .nil))) (.tup (sqT S23 ktg15.pf) (.cons (.int _) (.cons (.lst (Rds.sq S23 (rsD klg215.pf)) (RpAll.dp (hj215.up S23.dH))) .nil))) sh3 ?_
      wtm_at "vc"
      rename_i l2 Ha Sa dd Hb Sb t0 D16 Hc Sc ec kc od Hd Sd
      obtain ⟨D17, e17, kl2, Se⟩ := Sx.fix1 (a := l2) (S := Sd)
      obtain ⟨D18, e18, kdd, Sf⟩ := Sx.fix1 (a := dd) (S := Se)
      have g2 : Kn D18 l2 (.lst [V.int 2]) := inferInstance
      have g0 : Kn D18 t0 (.tup []) := inferInstance
      obtain ⟨v, hv9, ho⟩ : ∃ v, AtC [V.int 1, V.int 8, V.bl true, V.non, V.str "2", V.ref l2, V.int (2 + 100000000000000000000), V.int (-2), V.ref dd, V.ref t0] (d65 % 10) v ∧ OddV 2 7 D18 v := by
        rcases (by omega : d65 % 10 = 0 ∨ d65 % 10 = 1 ∨ d65 % 10 = 2 ∨ d65 % 10 = 3 ∨ d65 % 10 = 4 ∨ d65 % 10 = 5 ∨ d65 % 10 = 6 ∨ d65 % 10 = 7 ∨ d65 % 10 = 8 ∨ d65 % 10 = 9) with e | e | e | e | e | e | e | e | e | e
        · exact ⟨_, ⟨by rw [e]; exact atN (by decide) rfl⟩, .int _ (by omega)⟩
        · exact ⟨_, ⟨by rw [e]; exact atN (by decide) rfl⟩, .int _ (by omega)⟩
        · exact ⟨_, ⟨by rw [e]; exact atN (by decide) rfl⟩, .bl _⟩
        · exact ⟨_, ⟨by rw [e]; exact atN (by decide) rfl⟩, .non⟩
        · exact ⟨_, ⟨by rw [e]; exact atN (by decide) rfl⟩, .str _⟩
        · exact ⟨_, ⟨by rw [e]; exact atN (by decide) rfl⟩, .lst _ _ g2.pf⟩
        · exact ⟨_, ⟨by rw [e]; exact atN (by decide) rfl⟩, .int _ (by omega)⟩
        · exact ⟨_, ⟨by rw [e]; exact atN (by decide) rfl⟩, .int _ (by omega)⟩
        · exact ⟨_, ⟨by rw [e]; exact atN (by decide) rfl⟩, .dic _ _ kdd.pf⟩
        · exact ⟨_, ⟨by rw [e]; exact atN (by decide) rfl⟩, .tup _ _ g0.pf⟩
      wtm_at "vc"
      refine lc_go walk_rng (by decide) (fun i acc D' => acc = List.replicate i (V.bl true)) rfl (fun _ _ _ _ _ _ => trivial) (fun i v9 p9 acc D19 H19 H20 hi e19 S24 hR hy Ad Sk hA hS => ?_) (fun l9 D19 acc H19 e19 S24 hR => ?_)
      · obtain ⟨rfl, rfl⟩ := hy
        wtm_at "vc"
        refine ⟨D19, _, 0 + (i : Int), v, .ref la, rfl, S24, ho.up e19.e, fun D20 H21 S25 e20 => ?_⟩
        exact hA _ D20 _ e20 S25 (by rw [hR]; exact List.replicate_succ'.symm)
      subst hR
      wtm_at "vc"
      exact hN _ _ ⟨D19, _, _, _, _, _, _, _, _, _, _, _, _, Sx.gc (S := S24), up, rfl⟩
    · have kla : Kn D5 la (.tup (ls.map V.int)) := inferInstance
      wtm_at "vc"
      refine ⟨D5, _, la, (p : Int), ls, rfl, by omega, by omega, S8, ⟨.inr kla.pf⟩, by omega, by omega, fun tg lg2 us2 D6 H6 S9 e6 ktg hj2 => ?_⟩
      rw [Int.toNat_natCast] at ktg hj2
      obtain ⟨D7, e7, klg2, S10⟩ := Sx.fix1 (a := lg2) (S := S9)
      have hj2 := hj2.up e7.e
      have kla7 : Kn D7 la (.tup (ls.map V.int)) := inferInstance
      wtm_at "vc"
      have kk : Kn D7 la (.tup (ls.map V.int)) := kla7
      have klak : Kn D7 la (.tup (ls.map V.int)) := inferInstance
      refine ⟨D7, _, la, (p : Int), ls, rfl, by omega, by omega, S10, ⟨.inr klak.pf⟩, by omega, by omega, fun tt lg us D8 H8 S11 e8 ktt hj => ?_⟩
      rw [Int.toNat_natCast] at ktt hj
      obtain ⟨b1, b2⟩ := ljR_jn hp2 l1
      have hjl := Jn.len b1
      rw [ups_enP, ups_len] at hjl
      have h2m := Jn.two b1
      have hlo := Jn.lo b1 (fun x hx => by rw [ups_enP] at hx; exact ups_memK hx) (by omega)
      have hall := b2
      generalize hJS : (ljR p ls).2 = jss at hj hj2 b1 hjl h2m hlo hall
      have husl : us.length = jss.length := by have := hj.length; rw [List.length_map] at this; exact this
      wtm_at "vc"
      refine ⟨D8, _, tt, lg, (ljR p ls).1, us, jss, rfl, S11, ktt, hj, by omega, fun j hj => by have := (h2m j hj).2; omega, fun D9 H9 S12 e9 => ?_⟩
      wtm_at "vc"
      obtain ⟨D10, e10, klg, S13⟩ := Sx.fix1 (a := lg) (S := S12)
      have hj10 := hj.up (up : Sm D8 D10).e
      have hj210 := hj2.up (up : Sm D7 D10).e
      have ktt10 : Kn D10 tt (.tup [.int (ljR p ls).1, .ref lg]) := inferInstance
      have ktg10 : Kn D10 tg (.tup [.int (ljR p ls).1, .ref lg2]) := inferInstance
      have klg210 : Kn D10 lg2 (.lst us2) := inferInstance
      have kla10 : Kn D10 la (.tup (ls.map V.int)) := inferInstance
      have sh3 : Sh 3 (.tuple [.int (ljR p ls).1, .list (jss.map tI)]) := Sh.tup (n := 2) fun z hz => by
        rcases List.mem_cons.mp hz with h | h
        · rw [h]; exact Sh.int 2 _
        · rw [List.mem_singleton.mp h]
          exact Sh.list (n := 1) fun z hz => by
            obtain ⟨j, _, rfl⟩ := List.mem_map.mp hz
            exact Sh.tup Sh.ints
      refine r_neSame (d := .tuple [.int (ljR p ls).1, .list (jss.map tI)]) (n := 3) (.tup (sqT S13 ktt10.pf) (.cons (.int _) (.cons (.lst (Rds.sq S13 (rsD klg.pf)) (RpAll.dp (hj10.up S13.dH))) .nil))) (.tup (sqT S13 ktg10.pf) (.cons (.int _) (.cons (.lst (Rds.sq S13 (rsD klg210.pf)) (RpAll.dp (hj210.up S13.dH))) .nil))) sh3 ?_
      wtm_at "vc"
      refine ⟨D10, _, la, tt, lg, p, ls, (ljR p ls).1, us, jss, rfl, hp2, hp7, S13, ⟨.inr kla10.pf⟩, l1, by omega, ktt10, ⟨.inl klg.pf⟩, hj10, by omega, fun j hj => by have := (h2m j hj).2; omega, fun D11 H11 S14 e11 => ?_⟩
      rw [show jrB p ls (ljR p ls).1 jss = true from by rw [← hJS]; exact jr_least hp2 l1]
      wtm_at "vc"
      refine ⟨_, _, rfl, rfl, ?_⟩
      have klg11 : Kn D11 lg (.lst us) := inferInstance
      have klg211 : Kn D11 lg2 (.lst us2) := inferInstance
      have kla11 : Kn D11 la (.tup (ls.map V.int)) := inferInstance
      have ktt11 : Kn D11 tt (.tup [.int (ljR p ls).1, .ref lg]) := inferInstance
      have ktg11 : Kn D11 tg (.tup [.int (ljR p ls).1, .ref lg2]) := inferInstance
      wtm_at "vc"
      refine ⟨D11, _, (p : Int), (ls.length : Int), lg, us, jss, rfl, S14, ⟨.inl klg11.pf⟩, hj10.up e11.e, by omega, by omega, by omega, by omega, by omega, hlo, fun nb H12 S15 => ?_⟩
      rw [Int.toNat_natCast] at S15
      wtm_at "vc"
      refine ⟨D11, _, (ls.length : Int), lg2, us2, jss, rfl, S15, klg211, hj210.up e11.e, by omega, by omega, by omega, hlo, fun ob H13 S16 => ?_⟩
      rw [Int.toNat_natCast] at S16
      wtm_at "vc"
      have hnl : ((List.range ls.length).map fun (x : Nat) => (fol (ls.length : Int) jss x : Int)).length = ls.length := by rw [List.length_map, List.length_range]
      refine lc_vals (S := S16) (walk_zipM (xs := ls.map V.int) (ys := ((List.range ls.length).map fun (x : Nat) => (fol (ls.length : Int) jss x : Int)).map V.int) (n := ls.length) (by rw [List.length_map, List.length_map, hnl]; omega)) (by omega) (((enP 0 ls).map fun x => x.1 * (fol (ls.length : Int) jss x.2 : Int)).map V.int) (by rw [List.length_map, List.length_map, enP_len]) (fun p acc H' S' => ⟨sqT S' kla11.pf, Rds.sq S' rs2⟩) (fun i v q2 acc H2 H3 hi S2 hy Ad hA => ?_) (fun bl H14 S18 => ?_)
      · obtain ⟨T, x, z, D6, rfl, hx, hz, e6, kT, S9⟩ := pair_step hy
        obtain ⟨x, hx', rfl⟩ := getI hx
        obtain ⟨z, hz', rfl⟩ := getI hz
        rw [List.getElem?_map, List.getElem?_range hi] at hz'
        have hz' := Option.some.inj hz'
        have hxb := lb0 x (List.mem_of_getElem? hx')
        have hfl := fol_le (ls.length : Int) jss (i : Int)
        have hmul : MulOk x z := .inl ⟨by omega, by omega⟩
        wtm_at "vc"
        have hg := enP_get (j := 0) hx'
        refine hA _ _ Sx.gw ?_
        rw [List.getElem?_map, List.getElem?_map, hg, ← hz', Nat.zero_add]
        rfl
      wtm_at "vc"
      rename_i t01 Dq Hq Sz1 ez1 kz1
      have S20 : Sx Dq [(nb, .lst (((List.range ls.length).map fun (x : Nat) => (fol (ls.length : Int) jss x : Int)).map V.int))] Hq := Sx.gc (S := Sz1)
      have klgq : Kn Dq lg (.lst us) := inferInstance
      obtain ⟨D12, e12, S21, hk12⟩ := Sx.thaw2 (D := D9) S20 klgq (S12.ow (lg, .lst us) List.mem_cons_self).2 (up : Sm D9 Dq)
      have kt12 : Kn D12 t01 (.tup [.int 0, .int 1]) := ⟨hk12 _ _ (fun z => by have h9 := kz1.pf; rw [z, klgq.pf] at h9; cases h9) kz1.pf⟩
      have ktt12 : Kn D12 tt (.tup [.int (ljR p ls).1, .ref lg]) := inferInstance
      have ktg12 : Kn D12 tg (.tup [.int (ljR p ls).1, .ref lg2]) := inferInstance
      have klg212 : Kn D12 lg2 (.lst us2) := inferInstance
      have kla12 : Kn D12 la (.tup (ls.map V.int)) := inferInstance
      have kk12 : Kn D12 la (.tup (ls.map V.int)) := inferInstance
      have k312 : Kn D12 db (.lst (ds.map V.int)) := inferInstance
      wtm_at "vc"
      rename_i Hr Sr Hs Ss
      have S22 : Sx D12 [] Hs := Sx.gc (S := Ss)
      refine ⟨D12, _, la, (p : Int), ls, rfl, by omega, by omega, S22, ⟨.inr kla12.pf⟩, by omega, by omega, fun t5 lg5 us5 D14 H15 S19 e14 kt5 hj5 => ?_⟩
      rw [Int.toNat_natCast] at kt5 hj5
      rw [hJS] at hj5
      obtain ⟨D15, e15, klg5, S23⟩ := Sx.fix1 (a := lg5) (S := S19)
      have kt515 : Kn D15 t5 (.tup [.int (ljR p ls).1, .ref lg5]) := inferInstance
      have ktg15 : Kn D15 tg (.tup [.int (ljR p ls).1, .ref lg2]) := inferInstance
      have klg215 : Kn D15 lg2 (.lst us2) := inferInstance
      have kla15 : Kn D15 la (.tup (ls.map V.int)) := inferInstance
      have kk15 : Kn D15 la (.tup (ls.map V.int)) := inferInstance
      have k315 : Kn D15 db (.lst (ds.map V.int)) := inferInstance
      have hj515 := hj5.up e15.e
      have hj215 := hj2.up (up : Sm D7 D15).e
      wtm_at "vc"
      refine r_neSame (d := .tuple [.int (ljR p ls).1, .list (jss.map tI)]) (n := 3) (.tup (sqT S23 kt515.pf) (.cons (.int _) (.cons (.lst (Rds.sq S23 (rsD klg5.pf)) (RpAll.dp (hj515.up S23.dH))) .nil))) (.tup (sqT S23 ktg15.pf) (.cons (.int _) (.cons (.lst (Rds.sq S23 (rsD klg215.pf)) (RpAll.dp (hj215.up S23.dH))) .nil))) sh3 ?_
      wtm_at "vc"
      rename_i l2 Ha Sa dd Hb Sb t0 D16 Hc Sc ec kc od Hd Sd
      obtain ⟨D17, e17, kl2, Se⟩ := Sx.fix1 (a := l2) (S := Sd)
      obtain ⟨D18, e18, kdd, Sf⟩ := Sx.fix1 (a := dd) (S := Se)
      have g2 : Kn D18 l2 (.lst [V.int 2]) := inferInstance
      have g0 : Kn D18 t0 (.tup []) := inferInstance
      obtain ⟨v, hv9, ho⟩ : ∃ v, AtC [V.int 1, V.int 8, V.bl true, V.non, V.str "2", V.ref l2, V.int (2 + 100000000000000000000), V.int (-2), V.ref dd, V.ref t0] (d65 % 10) v ∧ OddV 2 7 D18 v := by
        rcases (by omega : d65 % 10 = 0 ∨ d65 % 10 = 1 ∨ d65 % 10 = 2 ∨ d65 % 10 = 3 ∨ d65 % 10 = 4 ∨ d65 % 10 = 5 ∨ d65 % 10 = 6 ∨ d65 % 10 = 7 ∨ d65 % 10 = 8 ∨ d65 % 10 = 9) with e | e | e | e | e | e | e | e | e | e
        · exact ⟨_, ⟨by rw [e]; exact atN (by decide) rfl⟩, .int _ (by omega)⟩
        · exact ⟨_, ⟨by rw [e]; exact atN (by decide) rfl⟩, .int _ (by omega)⟩
        · exact ⟨_, ⟨by rw [e]; exact atN (by decide) rfl⟩, .bl _⟩
        · exact ⟨_, ⟨by rw [e]; exact atN (by decide) rfl⟩, .non⟩
        · exact ⟨_, ⟨by rw [e]; exact atN (by decide) rfl⟩, .str _⟩
        · exact ⟨_, ⟨by rw [e]; exact atN (by decide) rfl⟩, .lst _ _ g2.pf⟩
        · exact ⟨_, ⟨by rw [e]; exact atN (by decide) rfl⟩, .int _ (by omega)⟩
        · exact ⟨_, ⟨by rw [e]; exact atN (by decide) rfl⟩, .int _ (by omega)⟩
        · exact ⟨_, ⟨by rw [e]; exact atN (by decide) rfl⟩, .dic _ _ kdd.pf⟩
        · exact ⟨_, ⟨by rw [e]; exact atN (by decide) rfl⟩, .tup _ _ g0.pf⟩
      wtm_at "vc"
      refine lc_go walk_rng (by decide) (fun i acc D' => acc = List.replicate i (V.bl true)) rfl (fun _ _ _ _ _ _ => trivial) (fun i v9 p9 acc D19 H19 H20 hi e19 S24 hR hy Ad Sk hA hS => ?_) (fun l9 D19 acc H19 e19 S24 hR => ?_)
      · obtain ⟨rfl, rfl⟩ := hy
        wtm_at "vc"
        refine ⟨D19, _, 0 + (i : Int), v, .ref la, rfl, S24, ho.up e19.e, fun D20 H21 S25 e20 => ?_⟩
        exact hA _ D20 _ e20 S25 (by rw [hR]; exact List.replicate_succ'.symm)
      subst hR
      wtm_at "vc"
      exact hN _ _ ⟨D19, _, _, _, _, _, _, _, _, _, _, _, _, Sx.gc (S := S24), up, rfl⟩
end
theorem all_mk {l : PySem.W.OpenLaw} {w : World} {K : PySem.W.Frag} {h : Heap} {mg : Str → Option Value} {t_LEAST_WAYS t_MOST_WAYS : Tok} {C_NoLevel C_NoWays C_ReelError C_TooFew C_TooMany : Addr} 
    {fa f__law_mixed f__law_draws f__law_greedy f__law_whole f__law_kinds f__law_lengths f__law_often f_is_whole f_look_at_ways f_join_numbers f_are_there f_first_many f_join_right f_least_join f_joined_once f_numbers_join f__law_refused f_law : Addr} {od__law_mixed an__law_mixed od__law_draws an__law_draws od__law_greedy an__law_greedy od__law_whole an__law_whole od__law_kinds an__law_kinds od__law_lengths an__law_lengths od__law_often an__law_often od_is_whole an_is_whole od_look_at_ways an_look_at_ways od_join_numbers an_join_numbers od_are_there an_are_there od_first_many an_first_many od_join_right an_join_right od_least_join an_least_join od_joined_once an_joined_once od_numbers_join an_numbers_join od__law_refused an__law_refused od_law an_law : Option Addr} {sl__law_mixed sl__law_draws sl__law_greedy sl__law_whole sl__law_kinds sl__law_lengths sl__law_often sl_is_whole sl_look_at_ways sl_join_numbers sl_are_there sl_first_many sl_join_right sl_least_join sl_joined_once sl_numbers_join sl__law_refused sl_law : Array (Option Value)} {oc__law_mixed kV__law_mixed dc__law_mixed pm__law_mixed cd__law_mixed ct__law_mixed oc__law_draws kV__law_draws dc__law_draws pm__law_draws cd__law_draws ct__law_draws oc__law_greedy kV__law_greedy dc__law_greedy pm__law_greedy cd__law_greedy ct__law_greedy oc__law_whole kV__law_whole dc__law_whole pm__law_whole cd__law_whole ct__law_whole oc__law_kinds kV__law_kinds dc__law_kinds pm__law_kinds cd__law_kinds ct__law_kinds oc__law_lengths kV__law_lengths dc__law_lengths pm__law_lengths cd__law_lengths ct__law_lengths oc__law_often kV__law_often dc__law_often pm__law_often cd__law_often ct__law_often oc_is_whole kV_is_whole dc_is_whole pm_is_whole cd_is_whole ct_is_whole oc_look_at_ways kV_look_at_ways dc_look_at_ways pm_look_at_ways cd_look_at_ways ct_look_at_ways oc_join_numbers kV_join_numbers dc_join_numbers pm_join_numbers cd_join_numbers ct_join_numbers oc_are_there kV_are_there dc_are_there pm_are_there cd_are_there ct_are_there oc_first_many kV_first_many dc_first_many pm_first_many cd_first_many ct_first_many oc_join_right kV_join_right dc_join_right pm_join_right cd_join_right ct_join_right oc_least_join kV_least_join dc_least_join pm_least_join cd_least_join ct_least_join oc_joined_once kV_joined_once dc_joined_once pm_joined_once cd_joined_once ct_joined_once oc_numbers_join kV_numbers_join dc_numbers_join pm_numbers_join cd_numbers_join ct_numbers_join oc__law_refused kV__law_refused dc__law_refused pm__law_refused cd__law_refused ct__law_refused oc_law kV_law dc_law pm_law cd_law ct_law : Value} (X : K.In h) (G : h.Ns mainGlobals mg) (hfa : mg "law" = some (.ref fa))
    (a__law_mixed : PySem.W.nsIn K mainGlobals "_law_mixed" = some (some (.ref f__law_mixed)))
    (l__law_mixed : K.lookup f__law_mixed = some ⟨oc__law_mixed, od__law_mixed, .func (PySem.W.fnOf "_law_mixed" "_law_mixed" (defArgs st__law_mixed) (defBody st__law_mixed) (defScope st__law_mixed) .none kV__law_mixed dc__law_mixed pm__law_mixed an__law_mixed cd__law_mixed ct__law_mixed), sl__law_mixed⟩)
    (c__law_mixed : PySem.W.codeIn K cd__law_mixed "_law_mixed" = true) (k__law_mixed : PySem.W.keepIn K (.ref f__law_mixed) = true)
    (a__law_draws : PySem.W.nsIn K mainGlobals "_law_draws" = some (some (.ref f__law_draws)))
    (l__law_draws : K.lookup f__law_draws = some ⟨oc__law_draws, od__law_draws, .func (PySem.W.fnOf "_law_draws" "_law_draws" (defArgs st__law_draws) (defBody st__law_draws) (defScope st__law_draws) .none kV__law_draws dc__law_draws pm__law_draws an__law_draws cd__law_draws ct__law_draws), sl__law_draws⟩)
    (c__law_draws : PySem.W.codeIn K cd__law_draws "_law_draws" = true) (k__law_draws : PySem.W.keepIn K (.ref f__law_draws) = true)
    (a__law_greedy : PySem.W.nsIn K mainGlobals "_law_greedy" = some (some (.ref f__law_greedy)))
    (l__law_greedy : K.lookup f__law_greedy = some ⟨oc__law_greedy, od__law_greedy, .func (PySem.W.fnOf "_law_greedy" "_law_greedy" (defArgs st__law_greedy) (defBody st__law_greedy) (defScope st__law_greedy) .none kV__law_greedy dc__law_greedy pm__law_greedy an__law_greedy cd__law_greedy ct__law_greedy), sl__law_greedy⟩)
    (c__law_greedy : PySem.W.codeIn K cd__law_greedy "_law_greedy" = true) (k__law_greedy : PySem.W.keepIn K (.ref f__law_greedy) = true)
    (a__law_whole : PySem.W.nsIn K mainGlobals "_law_whole" = some (some (.ref f__law_whole)))
    (l__law_whole : K.lookup f__law_whole = some ⟨oc__law_whole, od__law_whole, .func (PySem.W.fnOf "_law_whole" "_law_whole" (defArgs st__law_whole) (defBody st__law_whole) (defScope st__law_whole) .none kV__law_whole dc__law_whole pm__law_whole an__law_whole cd__law_whole ct__law_whole), sl__law_whole⟩)
    (c__law_whole : PySem.W.codeIn K cd__law_whole "_law_whole" = true) (k__law_whole : PySem.W.keepIn K (.ref f__law_whole) = true)
    (a__law_kinds : PySem.W.nsIn K mainGlobals "_law_kinds" = some (some (.ref f__law_kinds)))
    (l__law_kinds : K.lookup f__law_kinds = some ⟨oc__law_kinds, od__law_kinds, .func (PySem.W.fnOf "_law_kinds" "_law_kinds" (defArgs st__law_kinds) (defBody st__law_kinds) (defScope st__law_kinds) .none kV__law_kinds dc__law_kinds pm__law_kinds an__law_kinds cd__law_kinds ct__law_kinds), sl__law_kinds⟩)
    (c__law_kinds : PySem.W.codeIn K cd__law_kinds "_law_kinds" = true) (k__law_kinds : PySem.W.keepIn K (.ref f__law_kinds) = true)
    (a__law_lengths : PySem.W.nsIn K mainGlobals "_law_lengths" = some (some (.ref f__law_lengths)))
    (l__law_lengths : K.lookup f__law_lengths = some ⟨oc__law_lengths, od__law_lengths, .func (PySem.W.fnOf "_law_lengths" "_law_lengths" (defArgs st__law_lengths) (defBody st__law_lengths) (defScope st__law_lengths) .none kV__law_lengths dc__law_lengths pm__law_lengths an__law_lengths cd__law_lengths ct__law_lengths), sl__law_lengths⟩)
    (c__law_lengths : PySem.W.codeIn K cd__law_lengths "_law_lengths" = true) (k__law_lengths : PySem.W.keepIn K (.ref f__law_lengths) = true)
    (a__law_often : PySem.W.nsIn K mainGlobals "_law_often" = some (some (.ref f__law_often)))
    (l__law_often : K.lookup f__law_often = some ⟨oc__law_often, od__law_often, .func (PySem.W.fnOf "_law_often" "_law_often" (defArgs st__law_often) (defBody st__law_often) (defScope st__law_often) .none kV__law_often dc__law_often pm__law_often an__law_often cd__law_often ct__law_often), sl__law_often⟩)
    (c__law_often : PySem.W.codeIn K cd__law_often "_law_often" = true) (k__law_often : PySem.W.keepIn K (.ref f__law_often) = true)
    (a_is_whole : PySem.W.nsIn K mainGlobals "is_whole" = some (some (.ref f_is_whole)))
    (l_is_whole : K.lookup f_is_whole = some ⟨oc_is_whole, od_is_whole, .func (PySem.W.fnOf "is_whole" "is_whole" (defArgs st_is_whole) (defBody st_is_whole) (defScope st_is_whole) .none kV_is_whole dc_is_whole pm_is_whole an_is_whole cd_is_whole ct_is_whole), sl_is_whole⟩)
    (c_is_whole : PySem.W.codeIn K cd_is_whole "is_whole" = true) (k_is_whole : PySem.W.keepIn K (.ref f_is_whole) = true)
    (a_look_at_ways : PySem.W.nsIn K mainGlobals "look_at_ways" = some (some (.ref f_look_at_ways)))
    (l_look_at_ways : K.lookup f_look_at_ways = some ⟨oc_look_at_ways, od_look_at_ways, .func (PySem.W.fnOf "look_at_ways" "look_at_ways" (defArgs st_look_at_ways) (defBody st_look_at_ways) (defScope st_look_at_ways) .none kV_look_at_ways dc_look_at_ways pm_look_at_ways an_look_at_ways cd_look_at_ways ct_look_at_ways), sl_look_at_ways⟩)
    (c_look_at_ways : PySem.W.codeIn K cd_look_at_ways "look_at_ways" = true) (k_look_at_ways : PySem.W.keepIn K (.ref f_look_at_ways) = true)
    (a_join_numbers : PySem.W.nsIn K mainGlobals "join_numbers" = some (some (.ref f_join_numbers)))
    (l_join_numbers : K.lookup f_join_numbers = some ⟨oc_join_numbers, od_join_numbers, .func (PySem.W.fnOf "join_numbers" "join_numbers" (defArgs st_join_numbers) (defBody st_join_numbers) (defScope st_join_numbers) .none kV_join_numbers dc_join_numbers pm_join_numbers an_join_numbers cd_join_numbers ct_join_numbers), sl_join_numbers⟩)
    (c_join_numbers : PySem.W.codeIn K cd_join_numbers "join_numbers" = true) (k_join_numbers : PySem.W.keepIn K (.ref f_join_numbers) = true)
    (a_are_there : PySem.W.nsIn K mainGlobals "are_there" = some (some (.ref f_are_there)))
    (l_are_there : K.lookup f_are_there = some ⟨oc_are_there, od_are_there, .func (PySem.W.fnOf "are_there" "are_there" (defArgs st_are_there) (defBody st_are_there) (defScope st_are_there) .none kV_are_there dc_are_there pm_are_there an_are_there cd_are_there ct_are_there), sl_are_there⟩)
    (c_are_there : PySem.W.codeIn K cd_are_there "are_there" = true) (k_are_there : PySem.W.keepIn K (.ref f_are_there) = true)
    (a_first_many : PySem.W.nsIn K mainGlobals "first_many" = some (some (.ref f_first_many)))
    (l_first_many : K.lookup f_first_many = some ⟨oc_first_many, od_first_many, .func (PySem.W.fnOf "first_many" "first_many" (defArgs st_first_many) (defBody st_first_many) (defScope st_first_many) .none kV_first_many dc_first_many pm_first_many an_first_many cd_first_many ct_first_many), sl_first_many⟩)
    (c_first_many : PySem.W.codeIn K cd_first_many "first_many" = true) (k_first_many : PySem.W.keepIn K (.ref f_first_many) = true)
    (a_join_right : PySem.W.nsIn K mainGlobals "join_right" = some (some (.ref f_join_right)))
    (l_join_right : K.lookup f_join_right = some ⟨oc_join_right, od_join_right, .func (PySem.W.fnOf "join_right" "join_right" (defArgs st_join_right) (defBody st_join_right) (defScope st_join_right) .none kV_join_right dc_join_right pm_join_right an_join_right cd_join_right ct_join_right), sl_join_right⟩)
    (c_join_right : PySem.W.codeIn K cd_join_right "join_right" = true) (k_join_right : PySem.W.keepIn K (.ref f_join_right) = true)
    (a_least_join : PySem.W.nsIn K mainGlobals "least_join" = some (some (.ref f_least_join)))
    (l_least_join : K.lookup f_least_join = some ⟨oc_least_join, od_least_join, .func (PySem.W.fnOf "least_join" "least_join" (defArgs st_least_join) (defBody st_least_join) (defScope st_least_join) .none kV_least_join dc_least_join pm_least_join an_least_join cd_least_join ct_least_join), sl_least_join⟩)
    (c_least_join : PySem.W.codeIn K cd_least_join "least_join" = true) (k_least_join : PySem.W.keepIn K (.ref f_least_join) = true)
    (a_joined_once : PySem.W.nsIn K mainGlobals "joined_once" = some (some (.ref f_joined_once)))
    (l_joined_once : K.lookup f_joined_once = some ⟨oc_joined_once, od_joined_once, .func (PySem.W.fnOf "joined_once" "joined_once" (defArgs st_joined_once) (defBody st_joined_once) (defScope st_joined_once) .none kV_joined_once dc_joined_once pm_joined_once an_joined_once cd_joined_once ct_joined_once), sl_joined_once⟩)
    (c_joined_once : PySem.W.codeIn K cd_joined_once "joined_once" = true) (k_joined_once : PySem.W.keepIn K (.ref f_joined_once) = true)
    (a_numbers_join : PySem.W.nsIn K mainGlobals "numbers_join" = some (some (.ref f_numbers_join)))
    (l_numbers_join : K.lookup f_numbers_join = some ⟨oc_numbers_join, od_numbers_join, .func (PySem.W.fnOf "numbers_join" "numbers_join" (defArgs st_numbers_join) (defBody st_numbers_join) (defScope st_numbers_join) .none kV_numbers_join dc_numbers_join pm_numbers_join an_numbers_join cd_numbers_join ct_numbers_join), sl_numbers_join⟩)
    (c_numbers_join : PySem.W.codeIn K cd_numbers_join "numbers_join" = true) (k_numbers_join : PySem.W.keepIn K (.ref f_numbers_join) = true)
    (a__law_refused : PySem.W.nsIn K mainGlobals "_law_refused" = some (some (.ref f__law_refused)))
    (l__law_refused : K.lookup f__law_refused = some ⟨oc__law_refused, od__law_refused, .func (PySem.W.fnOf "_law_refused" "_law_refused" (defArgs st__law_refused) (defBody st__law_refused) (defScope st__law_refused) .none kV__law_refused dc__law_refused pm__law_refused an__law_refused cd__law_refused ct__law_refused), sl__law_refused⟩)
    (c__law_refused : PySem.W.codeIn K cd__law_refused "_law_refused" = true) (k__law_refused : PySem.W.keepIn K (.ref f__law_refused) = true)
    (a_law : PySem.W.nsIn K mainGlobals "law" = some (some (.ref f_law)))
    (l_law : K.lookup f_law = some ⟨oc_law, od_law, .func (PySem.W.fnOf "law" "law" (defArgs st_law) (defBody st_law) (defScope st_law) .none kV_law dc_law pm_law an_law cd_law ct_law), sl_law⟩)
    (c_law : PySem.W.codeIn K cd_law "law" = true) (k_law : PySem.W.keepIn K (.ref f_law) = true)
    (z_all : PySem.W.nsIn K mainGlobals "all" = some none)
    (z_bool : PySem.W.nsIn K mainGlobals "bool" = some none)
    (z_dict : PySem.W.nsIn K mainGlobals "dict" = some none)
    (z_enumerate : PySem.W.nsIn K mainGlobals "enumerate" = some none)
    (z_int : PySem.W.nsIn K mainGlobals "int" = some none)
    (z_isinstance : PySem.W.nsIn K mainGlobals "isinstance" = some none)
    (z_len : PySem.W.nsIn K mainGlobals "len" = some none)
    (z_list : PySem.W.nsIn K mainGlobals "list" = some none)
    (z_range : PySem.W.nsIn K mainGlobals "range" = some none)
    (z_sorted : PySem.W.nsIn K mainGlobals "sorted" = some none)
    (z_sum : PySem.W.nsIn K mainGlobals "sum" = some none)
    (z_tuple : PySem.W.nsIn K mainGlobals "tuple" = some none)
    (z_zip : PySem.W.nsIn K mainGlobals "zip" = some none)
    (g_LEAST_WAYS : PySem.W.nsIn K mainGlobals "LEAST_WAYS" = some (some (.int (2) t_LEAST_WAYS)))
    (g_MOST_WAYS : PySem.W.nsIn K mainGlobals "MOST_WAYS" = some (some (.int (7) t_MOST_WAYS)))
    (n_NoLevel : PySem.W.nsIn K mainGlobals "NoLevel" = some (some (.ref C_NoLevel)))
    (n_NoWays : PySem.W.nsIn K mainGlobals "NoWays" = some (some (.ref C_NoWays)))
    (n_ReelError : PySem.W.nsIn K mainGlobals "ReelError" = some (some (.ref C_ReelError)))
    (n_TooFew : PySem.W.nsIn K mainGlobals "TooFew" = some (some (.ref C_TooFew)))
    (n_TooMany : PySem.W.nsIn K mainGlobals "TooMany" = some (some (.ref C_TooMany)))
    (rk_NoWays : PySem.W.keepIn K (.ref C_NoWays) = true)
    (re_NoWays : PySem.W.excIn K C_NoWays [.type "ValueError", .type "Exception", .type "BaseException", .type "object"] "ValueError.__new__" = true)
    (rb_NoWays : PySem.W.subIn K (.ref C_NoWays) (.type "BaseException") = some true)
    (rt_NoWays : PySem.W.typeIn K (.ref C_NoWays) = some (.type "type"))
    (hg_NoWays : PySem.W.findIn K (.ref C_NoWays) "__getattribute__" = some (some (.builtin "BaseException.__getattribute__")))
    (hk_NoWays : PySem.W.findIn K (.ref C_NoWays) "__getattr__" = some none)
    (hs_NoWays : PySem.W.subIn K (.ref C_NoWays) (.type "BaseException") = some true)
    (hd_NoWays : PySem.W.hasDictIn K C_NoWays = true)
    (ha_NoWays : PySem.W.findIn K (.ref C_NoWays) "__class__" = some (some (.builtin "object.__class__")))
    (hn_NoWays : PySem.W.specialIn K (.builtin "object.__class__") "__get__" = some (some (.builtin "getset_descriptor.__get__")))
    (ht_NoWays : PySem.W.takesIn K (.builtin "object.__class__") = some true)
    (hm_NoWays : PySem.W.mroIn K C_NoWays (.type "object") = some true)
    (ot_NoWays_NoLevel : PySem.W.kitOne K (.ref C_NoWays) (.ref C_NoLevel) = some false)
    (ot_NoWays_NoWays : PySem.W.kitOne K (.ref C_NoWays) (.ref C_NoWays) = some true)
    (ot_NoWays_TooFew : PySem.W.kitOne K (.ref C_NoWays) (.ref C_TooFew) = some false)
    (ot_NoWays_TooMany : PySem.W.kitOne K (.ref C_NoWays) (.ref C_TooMany) = some false)
    (mb_m_NoWays_ReelError : PySem.W.subIn K (.ref C_ReelError) (.type "BaseException") = some true)
    (md_m_NoWays_ReelError : PySem.W.hasDictIn K C_ReelError = true)
    (mt_m_NoWays_ReelError : PySem.W.typeIn K (.ref C_ReelError) = some (.type "type"))
    (ms_m_NoWays_ReelError : PySem.W.subIn K (.ref C_NoWays) (.ref C_ReelError) = some true) :
    ∃ fd : FuncData, (∀ (s : Shared) (v : Value), BindsTo s fd ⟨[v], []⟩ [("script", v)]) ∧ ∀ base : Heap, K.In base → base.Ns mainGlobals mg → FnOk l.prog w K mg base CX0 5 fa fd ["script"] (sp_law K) := by
  have e := hfa.symm.trans (PySem.W.mg_of X G a_law)
  cases e
  have F__law_mixed := fun_mk (st := st__law_mixed) l__law_mixed c__law_mixed k__law_mixed
  have F__law_draws := fun_mk (st := st__law_draws) l__law_draws c__law_draws k__law_draws
  have F__law_greedy := fun_mk (st := st__law_greedy) l__law_greedy c__law_greedy k__law_greedy
  have F__law_whole := fun_mk (st := st__law_whole) l__law_whole c__law_whole k__law_whole
  have F__law_kinds := fun_mk (st := st__law_kinds) l__law_kinds c__law_kinds k__law_kinds
  have F__law_lengths := fun_mk (st := st__law_lengths) l__law_lengths c__law_lengths k__law_lengths
  have F__law_often := fun_mk (st := st__law_often) l__law_often c__law_often k__law_often
  have F_is_whole := fun_mk (st := st_is_whole) l_is_whole c_is_whole k_is_whole
  have F_look_at_ways := fun_mk (st := st_look_at_ways) l_look_at_ways c_look_at_ways k_look_at_ways
  have F_join_numbers := fun_mk (st := st_join_numbers) l_join_numbers c_join_numbers k_join_numbers
  have F_are_there := fun_mk (st := st_are_there) l_are_there c_are_there k_are_there
  have F_first_many := fun_mk (st := st_first_many) l_first_many c_first_many k_first_many
  have F_join_right := fun_mk (st := st_join_right) l_join_right c_join_right k_join_right
  have F_least_join := fun_mk (st := st_least_join) l_least_join c_least_join k_least_join
  have F_joined_once := fun_mk (st := st_joined_once) l_joined_once c_joined_once k_joined_once
  have F_numbers_join := fun_mk (st := st_numbers_join) l_numbers_join c_numbers_join k_numbers_join
  have F__law_refused := fun_mk (st := st__law_refused) l__law_refused c__law_refused k__law_refused
  have F_law := fun_mk (st := st_law) l_law c_law k_law
  refine ⟨PySem.W.fnOf "law" "law" (defArgs st_law) (defBody st_law) (defScope st_law) .none kV_law dc_law pm_law an_law cd_law ct_law, fun s v => .of_eq rfl, fun base _ _ => ?_⟩
  have b_all := PySem.W.mg_none_of X G z_all
  have b_bool := PySem.W.mg_none_of X G z_bool
  have b_dict := PySem.W.mg_none_of X G z_dict
  have b_enumerate := PySem.W.mg_none_of X G z_enumerate
  have b_int := PySem.W.mg_none_of X G z_int
  have b_isinstance := PySem.W.mg_none_of X G z_isinstance
  have b_len := PySem.W.mg_none_of X G z_len
  have b_list := PySem.W.mg_none_of X G z_list
  have b_range := PySem.W.mg_none_of X G z_range
  have b_sorted := PySem.W.mg_none_of X G z_sorted
  have b_sum := PySem.W.mg_none_of X G z_sum
  have b_tuple := PySem.W.mg_none_of X G z_tuple
  have b_zip := PySem.W.mg_none_of X G z_zip
  have m_LEAST_WAYS := PySem.W.mg_of X G g_LEAST_WAYS
  have m_MOST_WAYS := PySem.W.mg_of X G g_MOST_WAYS
  have k_NoLevel : ClC K mg "NoLevel" C_NoLevel := ⟨n_NoLevel, PySem.W.mg_of X G n_NoLevel⟩
  have k_NoWays : ClC K mg "NoWays" C_NoWays := ⟨n_NoWays, PySem.W.mg_of X G n_NoWays⟩
  have k_ReelError : ClC K mg "ReelError" C_ReelError := ⟨n_ReelError, PySem.W.mg_of X G n_ReelError⟩
  have k_TooFew : ClC K mg "TooFew" C_TooFew := ⟨n_TooFew, PySem.W.mg_of X G n_TooFew⟩
  have k_TooMany : ClC K mg "TooMany" C_TooMany := ⟨n_TooMany, PySem.W.mg_of X G n_TooMany⟩
  have R_NoWays : RzC K C_NoWays := ⟨rk_NoWays, re_NoWays, rb_NoWays, rt_NoWays⟩
  have x_NoWays : ExC K C_NoWays := ⟨⟨hg_NoWays, hk_NoWays, hs_NoWays, hd_NoWays, ha_NoWays, hn_NoWays, ht_NoWays, hm_NoWays⟩⟩
  have t_NoWays_NoLevel : KtO K C_NoWays (.ref C_NoLevel) false := KtO.own ot_NoWays_NoLevel
  have t_NoWays_NoWays : KtO K C_NoWays (.ref C_NoWays) true := KtO.own ot_NoWays_NoWays
  have t_NoWays_TooFew : KtO K C_NoWays (.ref C_TooFew) false := KtO.own ot_NoWays_TooFew
  have t_NoWays_TooMany : KtO K C_NoWays (.ref C_TooMany) false := KtO.own ot_NoWays_TooMany
  have m_NoWays_ReelError : PySem.W.exmOne K (.ref C_NoWays) (.ref C_ReelError) = some true := PySem.W.exm_ref mb_m_NoWays_ReelError md_m_NoWays_ReelError mt_m_NoWays_ReelError ms_m_NoWays_ReelError
  have C__law_mixed : Cl l.prog w K mg base CX0 1 "_law_mixed" ["cell", "k"] (sp__law_mixed K) := Cl.mk' F__law_mixed (ok__law_mixed F__law_mixed) (PySem.W.mg_of X G a__law_mixed) (F__law_mixed.binds (ps := ["cell", "k"]) fun _ _ _ _ _ _ us hl => match us, hl with | [_, _], _ => rfl)
  have C__law_draws : Cl l.prog w K mg base CX0 2 "_law_draws" ["cell", "many", "base"] (sp__law_draws K) := Cl.mk' F__law_draws (ok__law_draws F__law_draws b_range C__law_mixed) (PySem.W.mg_of X G a__law_draws) (F__law_draws.binds (ps := ["cell", "many", "base"]) fun _ _ _ _ _ _ us hl => match us, hl with | [_, _, _], _ => rfl)
  have C__law_greedy : Cl l.prog w K mg base CX0 1 "_law_greedy" ["p", "lengths"] (sp__law_greedy K) := Cl.mk' F__law_greedy (ok__law_greedy F__law_greedy b_enumerate b_len b_sorted b_sum b_tuple) (PySem.W.mg_of X G a__law_greedy) (F__law_greedy.binds (ps := ["p", "lengths"]) fun _ _ _ _ _ _ us hl => match us, hl with | [_, _], _ => rfl)
  have C__law_whole : Cl l.prog w K mg base CX0 1 "_law_whole" ["thing"] (sp__law_whole K) := Cl.mk' F__law_whole (ok__law_whole F__law_whole b_bool b_int b_isinstance) (PySem.W.mg_of X G a__law_whole) (F__law_whole.binds (ps := ["thing"]) fun _ _ _ _ _ _ us hl => match us, hl with | [_], _ => rfl)
  have C__law_kinds : Cl l.prog w K mg base CX0 2 "_law_kinds" ["told"] (sp__law_kinds K) := Cl.mk' F__law_kinds (ok__law_kinds F__law_kinds b_all b_isinstance b_len b_list b_tuple C__law_whole) (PySem.W.mg_of X G a__law_kinds) (F__law_kinds.binds (ps := ["told"]) fun _ _ _ _ _ _ us hl => match us, hl with | [_], _ => rfl)
  have C__law_lengths : Cl l.prog w K mg base CX0 1 "_law_lengths" ["draws", "most"] (sp__law_lengths K) := Cl.mk' F__law_lengths (ok__law_lengths F__law_lengths b_range) (PySem.W.mg_of X G a__law_lengths) (F__law_lengths.binds (ps := ["draws", "most"]) fun _ _ _ _ _ _ us hl => match us, hl with | [_, _], _ => rfl)
  have C__law_often : Cl l.prog w K mg base CX0 1 "_law_often" ["rows", "log"] (sp__law_often K) := Cl.mk' F__law_often (ok__law_often F__law_often b_len b_list b_range) (PySem.W.mg_of X G a__law_often) (F__law_often.binds (ps := ["rows", "log"]) fun _ _ _ _ _ _ us hl => match us, hl with | [_, _], _ => rfl)
  have C_is_whole : Cl l.prog w K mg base CX0 1 "is_whole" ["thing"] (sp_is_whole K) := Cl.mk' F_is_whole (ok_is_whole F_is_whole b_bool b_int b_isinstance) (PySem.W.mg_of X G a_is_whole) (F_is_whole.binds (ps := ["thing"]) fun _ _ _ _ _ _ us hl => match us, hl with | [_], _ => rfl)
  have C_look_at_ways : Cl l.prog w K mg base CX0 2 "look_at_ways" ["p"] (sp_look_at_ways K) := Cl.mk' F_look_at_ways (ok_look_at_ways F_look_at_ways m_LEAST_WAYS m_MOST_WAYS C_is_whole) (PySem.W.mg_of X G a_look_at_ways) (F_look_at_ways.binds (ps := ["p"]) fun _ _ _ _ _ _ us hl => match us, hl with | [_], _ => rfl)
  have C_look_at_ways_x : Cl l.prog w K mg base (L2.CX l.prog w) 2 "look_at_ways" ["p"] (sp_look_at_ways_x K) := Cl.mk' F_look_at_ways (ok_look_at_ways_x F_look_at_ways m_LEAST_WAYS m_MOST_WAYS C_is_whole k_NoWays R_NoWays) (PySem.W.mg_of X G a_look_at_ways) (F_look_at_ways.binds (ps := ["p"]) fun _ _ _ _ _ _ us hl => match us, hl with | [_], _ => rfl)
  have C_join_numbers : Cl l.prog w K mg base CX0 3 "join_numbers" ["p", "rows", "log"] (sp_join_numbers K) := Cl.mk' F_join_numbers (ok_join_numbers F_join_numbers b_len b_range C_look_at_ways) (PySem.W.mg_of X G a_join_numbers) (F_join_numbers.binds (ps := ["p", "rows", "log"]) fun _ _ _ _ _ _ us hl => match us, hl with | [_, _, _], _ => rfl)
  have C_join_numbers_x : Cl l.prog w K mg base (L2.CX l.prog w) 3 "join_numbers" ["p", "rows", "log"] (sp_join_numbers_x K) := Cl.mk' F_join_numbers (ok_join_numbers_x F_join_numbers C_look_at_ways_x) (PySem.W.mg_of X G a_join_numbers) (F_join_numbers.binds (ps := ["p", "rows", "log"]) fun _ _ _ _ _ _ us hl => match us, hl with | [_, _, _], _ => rfl)
  have C_are_there : Cl l.prog w K mg base CX0 1 "are_there" ["there", "joining"] (sp_are_there K) := Cl.mk' F_are_there (ok_are_there F_are_there b_all b_len b_range) (PySem.W.mg_of X G a_are_there) (F_are_there.binds (ps := ["there", "joining"]) fun _ _ _ _ _ _ us hl => match us, hl with | [_, _], _ => rfl)
  have C_first_many : Cl l.prog w K mg base CX0 1 "first_many" ["p", "rows"] (sp_first_many K) := Cl.mk' F_first_many (ok_first_many F_first_many) (PySem.W.mg_of X G a_first_many) (F_first_many.binds (ps := ["p", "rows"]) fun _ _ _ _ _ _ us hl => match us, hl with | [_, _], _ => rfl)
  have C_join_right : Cl l.prog w K mg base CX0 3 "join_right" ["p", "lengths", "told"] (sp_join_right K) := Cl.mk' F_join_right (ok_join_right F_join_right b_dict b_enumerate b_len b_sorted b_sum C_are_there C_first_many C_look_at_ways) (PySem.W.mg_of X G a_join_right) (F_join_right.binds (ps := ["p", "lengths", "told"]) fun _ _ _ _ _ _ us hl => match us, hl with | [_, _, _], _ => rfl)
  have C_join_right_x : Cl l.prog w K mg base (L2.CX l.prog w) 3 "join_right" ["p", "lengths", "told"] (sp_join_right_x K) := Cl.mk' F_join_right (ok_join_right_x F_join_right C_look_at_ways_x) (PySem.W.mg_of X G a_join_right) (F_join_right.binds (ps := ["p", "lengths", "told"]) fun _ _ _ _ _ _ us hl => match us, hl with | [_, _, _], _ => rfl)
  have C_least_join : Cl l.prog w K mg base CX0 3 "least_join" ["p", "lengths"] (sp_least_join K) := Cl.mk' F_least_join (ok_least_join F_least_join b_enumerate b_len b_sorted b_sum b_tuple C_first_many C_look_at_ways) (PySem.W.mg_of X G a_least_join) (F_least_join.binds (ps := ["p", "lengths"]) fun _ _ _ _ _ _ us hl => match us, hl with | [_, _], _ => rfl)
  have C_least_join_x : Cl l.prog w K mg base (L2.CX l.prog w) 3 "least_join" ["p", "lengths"] (sp_least_join_x K) := Cl.mk' F_least_join (ok_least_join_x F_least_join C_look_at_ways_x) (PySem.W.mg_of X G a_least_join) (F_least_join.binds (ps := ["p", "lengths"]) fun _ _ _ _ _ _ us hl => match us, hl with | [_, _], _ => rfl)
  have C_joined_once : Cl l.prog w K mg base CX0 1 "joined_once" ["p", "there", "fresh", "log"] (sp_joined_once K) := Cl.mk' F_joined_once (ok_joined_once F_joined_once b_len b_range b_sorted b_tuple) (PySem.W.mg_of X G a_joined_once) (F_joined_once.binds (ps := ["p", "there", "fresh", "log"]) fun _ _ _ _ _ _ us hl => match us, hl with | [_, _, _, _], _ => rfl)
  have C_numbers_join : Cl l.prog w K mg base CX0 3 "numbers_join" ["p", "numbers"] (sp_numbers_join K) := Cl.mk' F_numbers_join (ok_numbers_join F_numbers_join b_enumerate b_len b_sorted C_joined_once C_look_at_ways) (PySem.W.mg_of X G a_numbers_join) (F_numbers_join.binds (ps := ["p", "numbers"]) fun _ _ _ _ _ _ us hl => match us, hl with | [_, _], _ => rfl)
  have C_numbers_join_x : Cl l.prog w K mg base (L2.CX l.prog w) 3 "numbers_join" ["p", "numbers"] (sp_numbers_join_x K) := Cl.mk' F_numbers_join (ok_numbers_join_x F_numbers_join C_look_at_ways_x) (PySem.W.mg_of X G a_numbers_join) (F_numbers_join.binds (ps := ["p", "numbers"]) fun _ _ _ _ _ _ us hl => match us, hl with | [_, _], _ => rfl)
  have C__law_refused : Cl l.prog w K mg base CX0 4 "_law_refused" ["which", "p", "lengths"] (sp__law_refused K) := Cl.mk' F__law_refused (ok__law_refused F__law_refused b_isinstance k_NoLevel k_NoWays k_ReelError k_TooFew k_TooMany x_NoWays t_NoWays_NoLevel t_NoWays_NoWays t_NoWays_TooFew t_NoWays_TooMany m_NoWays_ReelError C_join_numbers_x C_join_right_x C_least_join_x C_numbers_join_x) (PySem.W.mg_of X G a__law_refused) (F__law_refused.binds (ps := ["which", "p", "lengths"]) fun _ _ _ _ _ _ us hl => match us, hl with | [_, _, _], _ => rfl)
  exact ok_law F_law b_all b_int b_isinstance b_len b_list b_range b_sum b_tuple b_zip C__law_draws C__law_greedy C__law_kinds C__law_lengths C__law_often C__law_refused C_join_numbers C_join_right C_least_join
end Fk
open PySem PySem.W PyProof.Rows
set_option maxHeartbeats 0 in
theorem PySem.Challenge.cw_fewreels_k67_least_logs_told_holds : PySem.Challenge.rw_fewreels_k67_least_logs_told.Holds := by
  w_on; o_law; k_head; (case hw => w_witness2)
  k_fill
  refine L2.walk_of (l := PySem.Challenge.rw_fewreels_k67_least_logs_told) (n := 63) (k := 5) (x := "script") (CX := fun _ => L2.CX0) (sp := fun w => Fk.sp_law _) rfl (by decide) rfl ⟨rfl, by decide, by decide⟩ (fun w h Y => PySem.W.kIn_of Y) ?F (fun _ _ a ns hl _ hS => ⟨a, ns, rfl, ⟨hS⟩, hl, fun _ => rfl⟩) (fun _ _ _ _ _ h => h)
  case F =>
    intro w mg fa h KX G hmg
    refine' Fk.all_mk KX G hmg ?a__law_mixed ?l__law_mixed ?c__law_mixed ?k__law_mixed ?a__law_draws ?l__law_draws ?c__law_draws ?k__law_draws ?a__law_greedy ?l__law_greedy ?c__law_greedy ?k__law_greedy ?a__law_whole ?l__law_whole ?c__law_whole ?k__law_whole ?a__law_kinds ?l__law_kinds ?c__law_kinds ?k__law_kinds ?a__law_lengths ?l__law_lengths ?c__law_lengths ?k__law_lengths ?a__law_often ?l__law_often ?c__law_often ?k__law_often ?a_is_whole ?l_is_whole ?c_is_whole ?k_is_whole ?a_look_at_ways ?l_look_at_ways ?c_look_at_ways ?k_look_at_ways ?a_join_numbers ?l_join_numbers ?c_join_numbers ?k_join_numbers ?a_are_there ?l_are_there ?c_are_there ?k_are_there ?a_first_many ?l_first_many ?c_first_many ?k_first_many ?a_join_right ?l_join_right ?c_join_right ?k_join_right ?a_least_join ?l_least_join ?c_least_join ?k_least_join ?a_joined_once ?l_joined_once ?c_joined_once ?k_joined_once ?a_numbers_join ?l_numbers_join ?c_numbers_join ?k_numbers_join ?a__law_refused ?l__law_refused ?c__law_refused ?k__law_refused ?a_law ?l_law ?c_law ?k_law ?z_all ?z_bool ?z_dict ?z_enumerate ?z_int ?z_isinstance ?z_len ?z_list ?z_range ?z_sorted ?z_sum ?z_tuple ?z_zip ?g_LEAST_WAYS ?g_MOST_WAYS ?n_NoLevel ?n_NoWays ?n_ReelError ?n_TooFew ?n_TooMany ?rk_NoWays ?re_NoWays ?rb_NoWays ?rt_NoWays ?hg_NoWays ?hk_NoWays ?hs_NoWays ?hd_NoWays ?ha_NoWays ?hn_NoWays ?ht_NoWays ?hm_NoWays ?ot_NoWays_NoLevel ?ot_NoWays_NoWays ?ot_NoWays_TooFew ?ot_NoWays_TooMany ?mb_m_NoWays_ReelError ?md_m_NoWays_ReelError ?mt_m_NoWays_ReelError ?ms_m_NoWays_ReelError
    (case a__law_mixed => k_is); (case l__law_mixed => k_is); (case c__law_mixed => k_is); (case k__law_mixed => k_is); (case a__law_draws => k_is); (case l__law_draws => k_is); (case c__law_draws => k_is); (case k__law_draws => k_is); (case a__law_greedy => k_is); (case l__law_greedy => k_is); (case c__law_greedy => k_is); (case k__law_greedy => k_is); (case a__law_whole => k_is); (case l__law_whole => k_is); (case c__law_whole => k_is); (case k__law_whole => k_is); (case a__law_kinds => k_is); (case l__law_kinds => k_is); (case c__law_kinds => k_is); (case k__law_kinds => k_is); (case a__law_lengths => k_is); (case l__law_lengths => k_is); (case c__law_lengths => k_is); (case k__law_lengths => k_is); (case a__law_often => k_is); (case l__law_often => k_is); (case c__law_often => k_is); (case k__law_often => k_is); (case a_is_whole => k_is); (case l_is_whole => k_is); (case c_is_whole => k_is); (case k_is_whole => k_is); (case a_look_at_ways => k_is); (case l_look_at_ways => k_is); (case c_look_at_ways => k_is); (case k_look_at_ways => k_is); (case a_join_numbers => k_is); (case l_join_numbers => k_is); (case c_join_numbers => k_is); (case k_join_numbers => k_is); (case a_are_there => k_is); (case l_are_there => k_is); (case c_are_there => k_is); (case k_are_there => k_is); (case a_first_many => k_is); (case l_first_many => k_is); (case c_first_many => k_is); (case k_first_many => k_is); (case a_join_right => k_is); (case l_join_right => k_is); (case c_join_right => k_is); (case k_join_right => k_is); (case a_least_join => k_is); (case l_least_join => k_is); (case c_least_join => k_is); (case k_least_join => k_is); (case a_joined_once => k_is); (case l_joined_once => k_is); (case c_joined_once => k_is); (case k_joined_once => k_is); (case a_numbers_join => k_is); (case l_numbers_join => k_is); (case c_numbers_join => k_is); (case k_numbers_join => k_is); (case a__law_refused => k_is); (case l__law_refused => k_is); (case c__law_refused => k_is); (case k__law_refused => k_is); (case a_law => k_is); (case l_law => k_is); (case c_law => k_is); (case k_law => k_is); (case z_all => k_is); (case z_bool => k_is); (case z_dict => k_is); (case z_enumerate => k_is); (case z_int => k_is); (case z_isinstance => k_is); (case z_len => k_is); (case z_list => k_is); (case z_range => k_is); (case z_sorted => k_is); (case z_sum => k_is); (case z_tuple => k_is); (case z_zip => k_is); (case g_LEAST_WAYS => k_is); (case g_MOST_WAYS => k_is); (case n_NoLevel => k_is); (case n_NoWays => k_is); (case n_ReelError => k_is); (case n_TooFew => k_is); (case n_TooMany => k_is); (case rk_NoWays => k_is); (case re_NoWays => first | k_exc | k_is); (case rb_NoWays => k_is); (case rt_NoWays => k_is); (case hg_NoWays => k_is); (case hk_NoWays => k_is); (case hs_NoWays => k_is); (case hd_NoWays => k_is); (case ha_NoWays => k_is); (case hn_NoWays => k_is); (case ht_NoWays => k_is); (case hm_NoWays => k_is); (case ot_NoWays_NoLevel => kit_is); (case ot_NoWays_NoWays => kit_is); (case ot_NoWays_TooFew => kit_is); (case ot_NoWays_TooMany => kit_is); (case mb_m_NoWays_ReelError => k_is); (case md_m_NoWays_ReelError => k_is); (case mt_m_NoWays_ReelError => k_is); (case ms_m_NoWays_ReelError => k_is)
