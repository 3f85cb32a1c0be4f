import PyProof.Rows.All
import Wide.All
import OpenK.AllK
import Wide.FinOn
import HandS.ForMost
import HandS.ForExc
import HandS.Sort
import HandS.SortInts
import HandS.Wide
import HandS.TupAny
import HandS.TupMul
import HandS.IsInst
import HandS.Style
import HandS.Conv
import HandS.DeepEq
import HandS.TupLe
import HandS.RevTup
import HandS.SetFor
import HandS.TupLen
import HandS.Zip
import HandS.Walk
import HandS.AnyAll
import HandS.Flow
import HandS.Deep
import HandS.Evl
import HandS.Steps
import HandS.SortKw
import KE.KTupSum
import HandS.More
import KE.GoesEnum
import HandS.WideBits
import HandS.EndBits
import KE.GoesZip
import HandS.WordsExc
import HandS.ExcIs
import HandS.TryOnly
import KE.KIsAll
import KE.RegKIsAll
import HandS.HotCalls
import PyProof.Rows.CountFlat
import KE.DataMinMax
import HandS.WordsDict
import KE.DataAny
import HandS.Rev
import KE.KIndexOf
import HandS.ReCall
import KE.KDictDisplayH
import HandS.SortRule
import HandS.DictTup
import PyProof.ReprRoads
import PyProof.ReprBulk
import PyProof.FitsInt
import PyProof.AutoSeq1
import HandS.ExcValue
import KE.KDictSum
import KE.KDictWalk
import HandS.ExcInit
import HandS.ClsMeth
import KE.KDictPairs
import KE.KDictKeyed
import HandS.ExcField
import KE.KExcIs
import HandS.Text
import HandS.Set
import KE.KDictZip
import PyProof.Rows.SeqMore
import PySem.Challenge.RW_fewreels_k55_turned_reels_refused
set_option Elab.async false
set_option linter.all false
set_option maxRecDepth 100000
set_option maxHeartbeats 4000000
namespace Fk
open PySem PySem.Spec PyProof.Rows L2

/-! ## a state: what is known for good (D), what may still change (L) -/
abbrev Own := List (Addr × HO)
class Sx (D : outParam Hp) (L : outParam Own) (H : Hp) : Prop where
  dH : Same D H
  ow : ∀ p ∈ L, H p.1 = some p.2 ∧ D p.1 = none
  nd : (L.map (·.1)).Nodup

/-- what was fixed stays fixed -/
class Sm (D : outParam Hp) (D' : Hp) : Prop where
  e : Same D D'
/-- a fixed thing -/
class Kn (D : Hp) (a : Addr) (o : outParam HO) : Prop where
  pf : D a = some o
instance knUp {D D' : Hp} {a : Addr} {o : HO} [s : Sm D D'] [k : Kn D a o] : Kn D' a o := ⟨s.e _ _ k.pf⟩
class Up (D D' : Hp) : Prop where
  e : Same D D'
instance upRefl {D : Hp} : Up D D := ⟨Same.refl D⟩
instance upStep {D D1 D' : Hp} [s : Sm D1 D'] [u : Up D D1] : Up D D' := ⟨u.e.trans s.e⟩
theorem up {D D' : Hp} [u : Up D D'] : Sm D D' := ⟨u.e⟩
theorem Sx.at {D : Hp} {L : Own} {H : Hp} (S : Sx D L H) {n : Nat} {a : Addr} {o : HO} (h : L[n]? = some (a, o)) : H a = some o :=
  (S.ow (a, o) (List.mem_of_getElem? h)).1
theorem Sx.off {D : Hp} {L : Own} {H : Hp} (S : Sx D L H) {n : Nat} {a : Addr} {o : HO} (h : L[n]? = some (a, o)) : D a = none :=
  (S.ow (a, o) (List.mem_of_getElem? h)).2
theorem same_upd {H : Hp} {p : Addr} {o : HO} (h : H p = none) : Same H (upd H p o) := fun b x e => by
  rw [upd_ne (ne_of_none e h)]
  exact e
/-- a new object that may change -/
theorem Sx.new {D : Hp} {L : Own} {H : Hp} (S : Sx D L H) {p : Addr} {o : HO} (h : H p = none) : Sx D ((p, o) :: L) (upd H p o) := by
  refine ⟨S.dH.trans (same_upd h), fun q hq => ?_, ?_⟩
  · rcases List.mem_cons.mp hq with rfl | hq
    · exact ⟨upd_same, S.dH.free h⟩
    · obtain ⟨e1, e2⟩ := S.ow q hq
      refine ⟨?_, e2⟩
      rw [upd_ne (ne_of_none e1 h)]
      exact e1
  · rw [List.map_cons, List.nodup_cons]
    refine ⟨fun hm => ?_, S.nd⟩
    obtain ⟨q, hq, e⟩ := List.mem_map.mp hm
    have e1 := (S.ow q hq).1
    rw [e] at e1
    rw [h] at e1
    cases e1
/-- a new object that never changes -/
theorem Sx.fix {D : Hp} {L : Own} {H : Hp} (S : Sx D L H) {p : Addr} {o : HO} (h : H p = none) : Sx (upd D p o) L (upd H p o) := by
  refine ⟨fun b x e => ?_, fun q hq => ?_, S.nd⟩
  · unfold upd at e ⊢
    split
    · rename_i c
      rw [if_pos c] at e
      exact e
    · rename_i c
      rw [if_neg c] at e
      exact S.dH b x e
  · obtain ⟨e1, e2⟩ := S.ow q hq
    have ne := ne_of_none e1 h
    rw [upd_ne ne, upd_ne ne]
    exact ⟨e1, e2⟩
/-- what may change, changed -/
theorem Sx.put {D : Hp} {L : Own} {H : Hp} (S : Sx D L H) {n : Nat} {a : Addr} {o : HO} (u : HO) (h : L[n]? = some (a, o)) : Sx D (L.set n (a, u)) (upd H a u) := by
  have hn : n < L.length := (List.getElem?_eq_some_iff.mp h).1
  have keys : (L.set n (a, u)).map (·.1) = L.map (·.1) := by
    rw [List.map_set]
    apply List.ext_getElem?
    intro i
    rw [List.getElem?_set]
    split
    · rename_i e
      subst e
      rw [if_pos (by rw [List.length_map]; exact hn), List.getElem?_map, h]
      rfl
    · rfl
  refine ⟨fun b x e => ?_, fun q hq => ?_, by rw [keys]; exact S.nd⟩
  · have : b ≠ a := by
      rintro rfl
      rw [S.off h] at e
      cases e
    rw [upd_ne this]
    exact S.dH b x e
  · obtain ⟨i, hi⟩ := List.getElem?_of_mem hq
    rw [List.getElem?_set] at hi
    by_cases c : n = i
    · subst c
      rw [if_pos rfl, if_pos hn] at hi
      cases hi
      exact ⟨upd_same, S.off h⟩
    · rw [if_neg c] at hi
      have hm := List.mem_of_getElem? hi
      obtain ⟨e1, e2⟩ := S.ow q hm
      refine ⟨?_, e2⟩
      have ne : q.1 ≠ a := by
        intro e
        apply c
        have k1 : (L.map (·.1))[i]? = some a := by rw [List.getElem?_map, hi]; exact congrArg some e
        have k2 : (L.map (·.1))[n]? = some a := by rw [List.getElem?_map, h]; rfl
        exact nd_ix S.nd k2 k1
      rw [upd_ne ne]
      exact e1
/-- what may change, fixed from now on -/
theorem Sx.frz {D : Hp} {L : Own} {H : Hp} (S : Sx D L H) {n : Nat} {a : Addr} {o : HO} (h : L[n]? = some (a, o)) : Sx (upd D a o) (L.eraseIdx n) H := by
  refine ⟨fun b x e => ?_, fun q hq => ?_, ?_⟩
  · by_cases c : b = a
    · subst c
      rw [upd_same] at e
      cases e
      exact S.at h
    · rw [upd_ne c] at e
      exact S.dH b x e
  · obtain ⟨e1, e2⟩ := S.ow q (List.mem_of_mem_eraseIdx hq)
    refine ⟨e1, ?_⟩
    have ne : q.1 ≠ a := by
      intro e
      obtain ⟨i, hi⟩ := List.getElem?_of_mem hq
      rw [List.getElem?_eraseIdx] at hi
      have k2 : (L.map (·.1))[n]? = some a := by rw [List.getElem?_map, h]; rfl
      split at hi
      · have k1 : (L.map (·.1))[i]? = some a := by rw [List.getElem?_map, hi]; exact congrArg some e
        have := nd_ix S.nd k2 k1
        omega
      · have k1 : (L.map (·.1))[i + 1]? = some a := by rw [List.getElem?_map, hi]; exact congrArg some e
        have := nd_ix S.nd k2 k1
        omega
    rw [upd_ne ne]
    exact e2
  · have : (L.eraseIdx n).map (·.1) = (L.map (·.1)).eraseIdx n := by
      apply List.ext_getElem?
      intro i
      rw [List.getElem?_map, List.getElem?_eraseIdx, List.getElem?_eraseIdx]
      split <;> rw [List.getElem?_map]
    rw [this]
    exact S.nd.sublist (List.eraseIdx_sublist _ _)
theorem Sx.drop {D : Hp} {L : Own} {H : Hp} (S : Sx D L H) (n : Nat) : Sx D (L.eraseIdx n) H :=
  ⟨S.dH, fun q hq => S.ow q (List.mem_of_mem_eraseIdx hq), by
    have : (L.eraseIdx n).map (·.1) = (L.map (·.1)).eraseIdx n := by
      apply List.ext_getElem?
      intro i
      rw [List.getElem?_map, List.getElem?_eraseIdx, List.getElem?_eraseIdx]
      split <;> rw [List.getElem?_map]
    rw [this]
    exact S.nd.sublist (List.eraseIdx_sublist _ _)⟩
theorem Sx.tail {D : Hp} {x : Addr × HO} {L : Own} {H : Hp} (S : Sx D (x :: L) H) : Sx D L H := S.drop 0
theorem Sx.perm {D : Hp} {L L' : Own} {H : Hp} (S : Sx D L H) (p : L.Perm L') : Sx D L' H :=
  ⟨S.dH, fun q hq => S.ow q (p.mem_iff.mpr hq), (p.map _).nodup_iff.mp S.nd⟩
theorem Sx.swap {D : Hp} {x y : Addr × HO} {L : Own} {H : Hp} (S : Sx D (x :: y :: L) H) : Sx D (y :: x :: L) H := S.perm (List.Perm.swap y x L)
theorem Sx.fz0 {D : Hp} {L : Own} {H : Hp} {a : Addr} {o : HO} (S : Sx D ((a, o) :: L) H) : ∃ D', Same D D' ∧ D' a = some o ∧ Sx D' L H :=
  ⟨_, same_upd (S.off (n := 0) rfl), upd_same, S.frz (n := 0) rfl⟩
theorem Sx.fz1 {D : Hp} {L : Own} {H : Hp} {x : Addr × HO} {a : Addr} {o : HO} (S : Sx D (x :: (a, o) :: L) H) : ∃ D', Same D D' ∧ D' a = some o ∧ Sx D' (x :: L) H :=
  ⟨_, same_upd (S.off (n := 1) rfl), upd_same, S.frz (n := 1) rfl⟩

/-! ## plain data at values -/
mutual
inductive Rp (D : Hp) : V → PyData → Prop
  | non : Rp D .non .none
  | bl (b : Bool) : Rp D (.bl b) (.bool b)
  | int (i : Int) : Rp D (.int i) (.int i)
  | str (x : Str) : Rp D (.str x) (.str x)
  | lst {a : Addr} {xs : List V} {ds : List PyData} : D a = some (.lst xs) → RpAll D xs ds → Rp D (.ref a) (.list ds)
  | tup {a : Addr} {xs : List V} {ds : List PyData} : D a = some (.tup xs) → RpAll D xs ds → Rp D (.ref a) (.tuple ds)
inductive RpAll (D : Hp) : List V → List PyData → Prop
  | nil : RpAll D [] []
  | cons {v : V} {vs : List V} {d : PyData} {ds : List PyData} : Rp D v d → RpAll D vs ds → RpAll D (v :: vs) (d :: ds)
end
mutual
theorem Rp.up {D D' : Hp} (e : Same D D') : ∀ {v : V} {d : PyData}, Rp D v d → Rp D' v d
  | _, _, .non => .non
  | _, _, .bl b => .bl b
  | _, _, .int i => .int i
  | _, _, .str x => .str x
  | _, _, .lst h r => .lst (e _ _ h) (RpAll.up e r)
  | _, _, .tup h r => .tup (e _ _ h) (RpAll.up e r)
theorem RpAll.up {D D' : Hp} (e : Same D D') : ∀ {vs : List V} {ds : List PyData}, RpAll D vs ds → RpAll D' vs ds
  | _, _, .nil => .nil
  | _, _, .cons h r => .cons (Rp.up e h) (RpAll.up e r)
end
mutual
theorem Rp.dp {D : Hp} {K : PySem.W.Frag} : ∀ {v : V} {d : PyData}, Rp D v d → Dp K D v d
  | _, _, .non => .non
  | _, _, .bl b => .bl b
  | _, _, .int i => .int i
  | _, _, .str x => .str x
  | _, _, .lst h r => .lst (.of h) (RpAll.dp r)
  | _, _, .tup h r => .tup (.of h) (RpAll.dp r)
theorem RpAll.dp {D : Hp} {K : PySem.W.Frag} : ∀ {vs : List V} {ds : List PyData}, RpAll D vs ds → DpAll K D vs ds
  | _, _, .nil => .nil
  | _, _, .cons h r => .cons (Rp.dp h) (RpAll.dp r)
end
theorem RpAll.ints {D : Hp} : ∀ (ns : List Int), RpAll D (ns.map V.int) (ns.map PyData.int)
  | [] => .nil
  | n :: r => .cons (.int n) (RpAll.ints r)
theorem RpAll.of_ints {D : Hp} : ∀ {ns : List Int} {vs : List V}, RpAll D vs (ns.map PyData.int) → vs = ns.map V.int
  | [], _, h => by cases h; rfl
  | n :: r, _, h => by
    cases h with
    | cons h1 h2 =>
      cases h1
      rw [RpAll.of_ints h2]
      rfl
theorem RpAll.length {D : Hp} : ∀ {vs : List V} {ds : List PyData}, RpAll D vs ds → vs.length = ds.length
  | _, _, .nil => rfl
  | _, _, .cons _ r => by rw [List.length_cons, List.length_cons, RpAll.length r]
theorem RpAll.get {D : Hp} : ∀ {vs : List V} {ds : List PyData} {i : Nat} {d : PyData}, RpAll D vs ds → ds[i]? = some d → ∃ v, vs[i]? = some v ∧ Rp D v d
  | _, _, _, _, .nil, e => by simp at e
  | _, _, 0, _, .cons h _, e => by simp at e; subst e; exact ⟨_, rfl, h⟩
  | _, _, i + 1, d, .cons _ t, e => by
    obtain ⟨v, h1, h2⟩ := RpAll.get (i := i) (d := d) t (by simpa using e)
    exact ⟨v, by simpa using h1, h2⟩
theorem RpAll.getV {D : Hp} : ∀ {vs : List V} {ds : List PyData} {i : Nat} {v : V}, RpAll D vs ds → vs[i]? = some v → ∃ d, ds[i]? = some d ∧ Rp D v d
  | _, _, _, _, .nil, e => by simp at e
  | _, _, 0, _, .cons h _, e => by simp at e; subst e; exact ⟨_, rfl, h⟩
  | _, _, i + 1, d, .cons _ t, e => by
    obtain ⟨v, h1, h2⟩ := RpAll.getV (i := i) (v := d) t (by simpa using e)
    exact ⟨v, by simpa using h1, h2⟩
theorem RpAll.app {D : Hp} : ∀ {vs ws : List V} {ds es : List PyData}, RpAll D vs ds → RpAll D ws es → RpAll D (vs ++ ws) (ds ++ es)
  | _, _, _, _, .nil, s => s
  | _, _, _, _, .cons h t, s => .cons h (RpAll.app t s)
/-- data of ints -/
abbrev dI (ns : List Int) : List PyData := ns.map PyData.int
theorem Rp.lstI {D : Hp} {a : Addr} {ns : List Int} (h : D a = some (.lst (ns.map V.int))) : Rp D (.ref a) (.list (dI ns)) := .lst h (.ints ns)
theorem Rp.tupI {D : Hp} {a : Addr} {ns : List Int} (h : D a = some (.tup (ns.map V.int))) : Rp D (.ref a) (.tuple (dI ns)) := .tup h (.ints ns)
theorem Rp.inv_lst {D : Hp} {v : V} {ds : List PyData} (h : Rp D v (.list ds)) : ∃ a xs, v = .ref a ∧ D a = some (.lst xs) ∧ RpAll D xs ds := by
  cases h with
  | lst h r => exact ⟨_, _, rfl, h, r⟩
theorem Rp.inv_tup {D : Hp} {v : V} {ds : List PyData} (h : Rp D v (.tuple ds)) : ∃ a xs, v = .ref a ∧ D a = some (.tup xs) ∧ RpAll D xs ds := by
  cases h with
  | tup h r => exact ⟨_, _, rfl, h, r⟩
theorem Rp.inv_tupI {D : Hp} {v : V} {ns : List Int} (h : Rp D v (.tuple (dI ns))) : ∃ a, v = .ref a ∧ D a = some (.tup (ns.map V.int)) := by
  obtain ⟨a, xs, e, h1, h2⟩ := h.inv_tup
  rw [RpAll.of_ints h2] at h1
  exact ⟨a, e, h1⟩
theorem Rp.inv_lstI {D : Hp} {v : V} {ns : List Int} (h : Rp D v (.list (dI ns))) : ∃ a, v = .ref a ∧ D a = some (.lst (ns.map V.int)) := by
  obtain ⟨a, xs, e, h1, h2⟩ := h.inv_lst
  rw [RpAll.of_ints h2] at h1
  exact ⟨a, e, h1⟩
end Fk

namespace Fk
open PySem PySem.Spec PyProof.Rows L2

/-! ## operators, whatever they are given -/
section
variable {X : Cx}
def rAddX (K : PySem.W.Frag) : R2 := fun x y H Q => rI0 (fun i j => .int (i + j)) x y H Q ∨ (rCat x y H Q ∨ rCatA K x y H Q)
theorem opAdd : OpR X (binaryOp .Add) (rAddX X.K) := OpR.or op_add (OpR.or op_cat op_catA)
def rMulX (K : PySem.W.Frag) : R2 := fun x y H Q => rI CMul (fun i j => .int (i * j)) x y H Q ∨ (rI CMulW (fun i j => .int (i * j)) x y H Q ∨ (rRep x y H Q ∨ rRepT K x y H Q))
theorem opMul : OpR X (binaryOp .Mult) (rMulX X.K) := OpR.or op_mul (OpR.or op_mulW (OpR.or op_rep op_repT))
def rEqX (K : PySem.W.Frag) : R2 := fun x y H Q => rEq x y H Q ∨ rEqD K x y H Q
def rNeX (K : PySem.W.Frag) : R2 := fun x y H Q => rNe x y H Q ∨ rNeD K x y H Q
theorem opEq (hu : X.A.units + 64 < cLine) : OpR X (compareOp .Eq) (rEqX X.K) := OpR.or op_eq (op_eqD hu)
theorem opNe (hu : X.A.units + 64 < cLine) : OpR X (compareOp .NotEq) (rNeX X.K) := OpR.or op_ne (op_neD hu)
def rSlX (K : PySem.W.Frag) : V → Option Int → Option Int → Hp → VK → Prop := fun x lo hi H Q => rSlL K x lo hi H Q ∨ rSlA K x lo hi H Q
theorem slX : SlR X (rSlX X.K) := SlR.or sl_list sl_tupA
def rDvX : R2 := fun x y H Q => rI CDiv (fun i j => .int (i / j)) x y H Q ∨ rI CDivW (fun i j => .int (i / j)) x y H Q
theorem opDiv : OpR X (binaryOp .FloorDiv) rDvX := OpR.or op_fdiv op_fdivW
end

/-! ## what is asked behind a part, by name -/
def NwL (xs : List V) (H : Hp) (Q : VK) : Prop := xs.length ≤ sizeLine ∧ ∀ p, H p = none → Q (.ref p) (upd H p (.lst xs))
def NwT (xs : List V) (H : Hp) (Q : VK) : Prop := xs.length ≤ sizeLine ∧ ∀ p, H p = none → Q (.ref p) (upd H p (.tup xs))
def IsI (x : V) (H : Hp) (q : Int → Hp → Prop) : Prop := ∃ i, x = .int i ∧ q i H
def IsB (x : V) (H : Hp) (q : Bool → Hp → Prop) : Prop := ∃ k, x = .bl k ∧ q k H
def Tru (K : PySem.W.Frag) (x : V) (H : Hp) (q : Bool → Hp → Prop) : Prop := ∃ k, TruV K x H k ∧ q k H
section
variable {X : Cx}
def rLen (K : PySem.W.Frag) : List V → Hp → VK → Prop := fun xs H Q => ∃ x n, xs = [x] ∧ LenV K x H n ∧ Q (.int n) H
theorem call_lenN : CallR X (.builtin "len") (rLen X.K) := call_len
def rTupOf (K : PySem.W.Frag) : List V → Hp → VK → Prop := fun xs H Q => ∃ p ys, xs = [.ref p] ∧ ((SqL K H p ys ∧ ∀ l, H l = none → Q (.ref l) (upd H l (.tup ys))) ∨ (SqT K H p ys ∧ Q (.ref p) H))
theorem call_tupN : CallR X (.type "tuple") (rTupOf X.K) := call_tuple_of
def rLstOf (K : PySem.W.Frag) : List V → Hp → VK → Prop := fun xs H Q => ∃ p ys, xs = [.ref p] ∧ (SqL K H p ys ∨ SqT K H p ys) ∧ ∀ l, H l = none → Q (.ref l) (upd H l (.lst ys))
theorem call_lstN : CallR X (.type "list") (rLstOf X.K) := call_list_of
def rInt1 : List V → Hp → VK → Prop := fun xs H Q => (∃ i, xs = [.int i] ∧ Q (.int i) H) ∨ ∃ k, xs = [.bl k] ∧ Q (.int (if k then 1 else 0)) H
theorem call_intN : CallR X (.type "int") rInt1 := call_int1
def rAbs : List V → Hp → VK → Prop := fun xs H Q => ∃ i, xs = [.int i] ∧ Q (.int (if i < 0 then -i else i)) H
theorem call_absN : CallR X (.builtin "abs") rAbs := call_abs
def rMax2 : List V → Hp → VK → Prop := fun xs H Q => ∃ i j, xs = [.int i, .int j] ∧ Q (.int (if j > i then j else i)) H
theorem call_max2N (hc : X.calm = true) : CallR X (.builtin "max") rMax2 := call_max2 hc
def rMin2 : List V → Hp → VK → Prop := fun xs H Q => ∃ i j, xs = [.int i, .int j] ∧ Q (.int (if j < i then j else i)) H
theorem call_min2N (hc : X.calm = true) : CallR X (.builtin "min") rMin2 := call_min2 hc
end

/-! ## the steps -/
section
variable {σ : L2.St} {D D' H : Hp} {L : Own} {Q : VK} {K : PySem.W.Frag} {E : Ends}
theorem s_seq {t u : TS} {nx : L2.St → Hp → Prop} {rt : VK} {bk ct : L2.St → Hp → Prop} (h : t ⟨u ⟨nx, rt, bk, ct⟩, rt, bk, ct⟩ σ H) : tSeq t u ⟨nx, rt, bk, ct⟩ σ H := h
theorem s_next {nx : L2.St → Hp → Prop} {rt : VK} {bk ct : L2.St → Hp → Prop} (h : nx σ H) : tNext ⟨nx, rt, bk, ct⟩ σ H := h
theorem s_brk {nx : L2.St → Hp → Prop} {rt : VK} {bk ct : L2.St → Hp → Prop} (h : bk σ H) : tBreak ⟨nx, rt, bk, ct⟩ σ H := h
theorem s_cnt {nx : L2.St → Hp → Prop} {rt : VK} {bk ct : L2.St → Hp → Prop} (h : ct σ H) : tCont ⟨nx, rt, bk, ct⟩ σ H := h
theorem s_asg {te : TE} {g : TG} {nx : L2.St → Hp → Prop} {rt : VK} {bk ct : L2.St → Hp → Prop} (h : te σ H fun x H1 => g x σ H1 nx) : tAsg te g ⟨nx, rt, bk, ct⟩ σ H := h
theorem s_drop {te : TE} {nx : L2.St → Hp → Prop} {rt : VK} {bk ct : L2.St → Hp → Prop} (h : te σ H fun _ H1 => nx σ H1) : tDrop te ⟨nx, rt, bk, ct⟩ σ H := h
theorem s_ret {te : TE} {nx : L2.St → Hp → Prop} {rt : VK} {bk ct : L2.St → Hp → Prop} (h : te σ H rt) : tRet te ⟨nx, rt, bk, ct⟩ σ H := h
theorem s_retN {nx : L2.St → Hp → Prop} {rt : VK} {bk ct : L2.St → Hp → Prop} (h : rt .non H) : tRetN ⟨nx, rt, bk, ct⟩ σ H := h
theorem s_if {c : TT} {t u : TS} (h : c σ H fun b H1 => if b = true then t E σ H1 else u E σ H1) : tIfS c t u E σ H := h

theorem e_var {i : Nat} {v : V} (h : σ[i]? = some (some v)) (k : Q v H) : tVar i σ H Q := ⟨v, h, k⟩
theorem e_c {v : V} (k : Q v H) : tC v σ H Q := k
theorem e_op {r : R2} {ta tb : TE} (h : ta σ H fun x H1 => tb σ H1 fun y H2 => r x y H2 Q) : tOp r ta tb σ H Q := h
theorem e_un {r : V → Hp → VK → Prop} {ta : TE} (h : ta σ H fun x H1 => r x H1 Q) : tUn r ta σ H Q := h
theorem e_if {c : TT} {ta tb : TE} (h : c σ H fun b H1 => if b = true then ta σ H1 Q else tb σ H1 Q) : tIf c ta tb σ H Q := h
theorem e_nil {q : List V → Hp → Prop} (h : q [] H) : tNil σ H q := h
theorem e_cons {ta : TE} {tr : TA} {q : List V → Hp → Prop} (h : ta σ H fun x H1 => tr σ H1 fun xs H2 => q (x :: xs) H2) : tCons ta tr σ H q := h
theorem e_cb {r : List V → Hp → VK → Prop} {t : TA} (h : t σ H fun vs H1 => r vs H1 Q) : tCB r t σ H Q := h
theorem e_call {sp : Sp} {dvs : List V} {Ex : XK} {t : TA} (h : t σ H fun vs H1 => sp (vs ++ dvs) H1 Q Ex) : tCall sp dvs Ex t σ H Q := h
theorem e_tup {t : TA} (h : t σ H fun xs H1 => NwT xs H1 Q) : tTup t σ H Q := h
theorem e_lst {t : TA} (h : t σ H fun xs H1 => NwL xs H1 Q) : tLst t σ H Q := h
theorem e_sl {r : V → Option Int → Option Int → Hp → VK → Prop} {te : TE} {tl th : L2.St → Hp → (Option Int → Hp → Prop) → Prop} (h : te σ H fun x H1 => tl σ H1 fun lo H2 => th σ H2 fun hi H3 => r x lo hi H3 Q) : tSl r te tl th σ H Q := h
theorem e_pt0 {q : Option Int → Hp → Prop} (h : q none H) : tNoPart σ H q := h
theorem e_pt {te : TE} {q : Option Int → Hp → Prop} (h : te σ H fun x H1 => IsI x H1 fun i H2 => q (some i) H2) : tPart te σ H q := h
theorem e_isint {i : Int} {q : Int → Hp → Prop} (h : q i H) : IsI (.int i) H q := ⟨i, rfl, h⟩
theorem e_isbl {b : Bool} {q : Bool → Hp → Prop} (h : q b H) : IsB (.bl b) H q := ⟨b, rfl, h⟩
theorem e_bm {T : String} {r : V → List V → Hp → VK → Prop} {to : TE} {t : TA} (h : to σ H fun x H1 => tyV K T x H1 ∧ t σ H1 fun xs H2 => r x xs H2 Q) : tBM K T r to t σ H Q := h
theorem e_bm0 {T : String} {r : V → List V → Hp → VK → Prop} {to : TE} (h : to σ H fun x H1 => tyV K T x H1 ∧ r x [] H1 Q) : tBM0 K T r to σ H Q := h
theorem t_test {t : TE} {q : Bool → Hp → Prop} (h : t σ H fun x H' => IsB x H' q) : tTest t σ H q := h
theorem t_b {t : TE} {q : Bool → Hp → Prop} (h : t σ H fun x H' => IsB x H' q) : tB t σ H q := h
theorem t_and {t u : TT} {q : Bool → Hp → Prop} (h : t σ H fun c H1 => if c = true then u σ H1 q else q false H1) : tAnd t u σ H q := h
theorem t_or {t u : TT} {q : Bool → Hp → Prop} (h : t σ H fun c H1 => if c = true then q true H1 else u σ H1 q) : tOr t u σ H q := h
theorem t_not {t : TT} {q : Bool → Hp → Prop} (h : t σ H fun c H1 => q (!c) H1) : tNot t σ H q := h
theorem e_notT {ta : TE} (h : ta σ H fun x H1 => Tru K x H1 fun k H2 => Q (.bl (!k)) H2) : tNotT K ta σ H Q := h
theorem e_andV {ta tb : TE} (h : ta σ H fun x H1 => IsB x H1 fun c H2 => if c = true then tb σ H2 Q else Q (.bl false) H2) : tAndV ta tb σ H Q := h
theorem e_orV {ta tb : TE} (h : ta σ H fun x H1 => IsB x H1 fun c H2 => if c = true then Q (.bl true) H2 else tb σ H2 Q) : tOrV ta tb σ H Q := h
theorem e_notV {ta : TE} (h : ta σ H fun x H1 => IsB x H1 fun c H2 => Q (.bl (!c)) H2) : tNotV ta σ H Q := h
theorem e_chain {r r' : R2} {ta tb tc : TE} (h : ta σ H fun x H1 => tb σ H1 fun y H2 => r x y H2 fun z H3 => IsB z H3 fun k H4 => if k = true then tc σ H4 fun w' H5 => r' y w' H5 Q else Q (.bl false) H4) : tChain r r' ta tb tc σ H Q := h
theorem tru_bl {b : Bool} {q : Bool → Hp → Prop} (h : q b H) : Tru K (.bl b) H q := ⟨b, rfl, h⟩
theorem tru_int {i : Int} {q : Bool → Hp → Prop} (h : q (i != 0) H) : Tru K (.int i) H q := ⟨_, rfl, h⟩

theorem if_t {A B : Prop} (h : A) : if true = true then A else B := by rw [if_pos rfl]; exact h
theorem if_f {A B : Prop} (h : B) : if false = true then A else B := by rw [if_neg (by decide)]; exact h
theorem if_d {p : Prop} [Decidable p] {A B : Prop} (h1 : p → A) (h2 : ¬p → B) : if decide p = true then A else B := by
  by_cases c : p
  · rw [if_pos (decide_eq_true c)]; exact h1 c
  · rw [if_neg (fun z => c (of_decide_eq_true z))]; exact h2 c
theorem if_nd {p : Prop} [Decidable p] {A B : Prop} (h1 : ¬p → A) (h2 : p → B) : if (!decide p) = true then A else B := by
  by_cases c : p
  · rw [decide_eq_true c]; exact h2 c
  · rw [decide_eq_false c]; exact h1 c
theorem if_nt {A B : Prop} (h : B) : if (!true) = true then A else B := h
theorem if_nf {A B : Prop} (h : A) : if (!false) = true then A else B := h
theorem if_b {b : Bool} {A B : Prop} (h1 : b = true → A) (h2 : b = false → B) : if b = true then A else B := by
  cases b
  · exact h2 rfl
  · exact h1 rfl
/-- a known answer -/
theorem if_dt {p : Prop} [Decidable p] {A B : Prop} (c : p) (h : A) : if decide p = true then A else B := by rw [if_pos (decide_eq_true c)]; exact h
theorem if_df {p : Prop} [Decidable p] {A B : Prop} (c : ¬p) (h : B) : if decide p = true then A else B := by rw [if_neg (fun z => c (of_decide_eq_true z))]; exact h
theorem if_ndt {p : Prop} [Decidable p] {A B : Prop} (c : ¬p) (h : A) : if (!decide p) = true then A else B := if_nd (fun _ => h) (fun z => absurd z c)
theorem if_ndf {p : Prop} [Decidable p] {A B : Prop} (c : p) (h : B) : if (!decide p) = true then A else B := if_nd (fun z => absurd c z) (fun _ => h)

/-! values -/
theorem r_i0 {g : Int → Int → V} {i j : Int} (k : Q (g i j) H) : rI0 g (.int i) (.int j) H Q := ⟨i, j, rfl, rfl, k⟩
theorem r_i {C : Int → Int → Prop} {g : Int → Int → V} {i j : Int} (c : C i j) (k : Q (g i j) H) : rI C g (.int i) (.int j) H Q := ⟨i, j, rfl, rfl, c, k⟩
theorem r_u {g : Int → V} {i : Int} (k : Q (g i) H) : rU g (.int i) H Q := ⟨i, rfl, k⟩
theorem r_addI {i j : Int} (k : Q (.int (i + j)) H) : rAddX K (.int i) (.int j) H Q := .inl ⟨i, j, rfl, rfl, k⟩
theorem r_mulL {i j : Int} (c : -(2 ^ 64) < i ∧ i < 2 ^ 64) (k : Q (.int (i * j)) H) : rMulX K (.int i) (.int j) H Q := .inl ⟨i, j, rfl, rfl, .inl c, k⟩
theorem r_mulR {i j : Int} (c : -(2 ^ 64) < j ∧ j < 2 ^ 64) (k : Q (.int (i * j)) H) : rMulX K (.int i) (.int j) H Q := .inl ⟨i, j, rfl, rfl, .inr c, k⟩
theorem r_mulW {i j : Int} (c : CMulW i j) (k : Q (.int (i * j)) H) : rMulX K (.int i) (.int j) H Q := .inr (.inl ⟨i, j, rfl, rfl, c, k⟩)
theorem r_div {i j : Int} (c : 0 < j ∧ j < 1073741824) (k : Q (.int (i / j)) H) : rDvX (.int i) (.int j) H Q := .inl ⟨i, j, rfl, rfl, c, k⟩
theorem r_divW {i j : Int} (c : CDivW i j) (k : Q (.int (i / j)) H) : rDvX (.int i) (.int j) H Q := .inr ⟨i, j, rfl, rfl, c, k⟩
theorem r_eqI {i j : Int} (k : Q (.bl (decide (i = j))) H) : rEqX K (.int i) (.int j) H Q := .inl ⟨rfl, by
  have e : decide (V.int i = V.int j) = decide (i = j) := by
    by_cases c : i = j
    · subst c; rw [decide_eq_true rfl, decide_eq_true rfl]
    · rw [decide_eq_false c, decide_eq_false (fun z => c (V.int.inj z))]
  rw [e]; exact k⟩
theorem r_neI {i j : Int} (k : Q (.bl (!decide (i = j))) H) : rNeX K (.int i) (.int j) H Q := .inl ⟨rfl, by
  have e : decide (V.int i = V.int j) = decide (i = j) := by
    by_cases c : i = j
    · subst c; rw [decide_eq_true rfl, decide_eq_true rfl]
    · rw [decide_eq_false c, decide_eq_false (fun z => c (V.int.inj z))]
  rw [e]; exact k⟩
theorem r_eqD {x y : V} {d e : PyData} (S : Sx D L H) (hx : Rp D x d) (hy : Rp D y e) (h1 : SeqAt.shaped d = true) (h2 : SeqAt.shaped e = true) (k : Q (.bl (d.eqv e)) H) : rEqX K x y H Q :=
  .inr ⟨d, e, (hx.up S.dH).dp, (hy.up S.dH).dp, h1, h2, k⟩
theorem r_neD {x y : V} {d e : PyData} (S : Sx D L H) (hx : Rp D x d) (hy : Rp D y e) (h1 : SeqAt.shaped d = true) (h2 : SeqAt.shaped e = true) (k : Q (.bl (!d.eqv e)) H) : rNeX K x y H Q :=
  .inr ⟨d, e, (hx.up S.dH).dp, (hy.up S.dH).dp, h1, h2, k⟩

/-! lists and tuples -/
theorem sqO {n : Nat} {a : Addr} {xs : List V} (S : Sx D L H) (h : L[n]? = some (a, .lst xs)) : SqL K H a xs := .of (S.at h)
theorem sqD {a : Addr} {xs : List V} (S : Sx D L H) (h : D a = some (.lst xs)) : SqL K H a xs := .of (S.dH _ _ h)
theorem sqT {a : Addr} {xs : List V} (S : Sx D L H) (h : D a = some (.tup xs)) : SqT K H a xs := .of (S.dH _ _ h)
theorem nw_lst {xs : List V} (S : Sx D L H) (hl : xs.length ≤ 16777216) (k : ∀ p H', Sx D ((p, .lst xs) :: L) H' → Q (.ref p) H') : NwL xs H Q :=
  ⟨hl, fun p hp => k p _ (S.new hp)⟩
theorem nw_lst1 {xs : List V} (S : Sx D L H) (k : ∀ p H', Sx D ((p, .lst xs) :: L) H' → Q (.ref p) H') : ∀ p, H p = none → Q (.ref p) (upd H p (.lst xs)) := fun p hp => k p _ (S.new hp)
theorem nw_tup {xs : List V} (S : Sx D L H) (hl : xs.length ≤ 16777216) (k : ∀ p D' H', Same D D' → D' p = some (.tup xs) → Sx D' L H' → Q (.ref p) H') : NwT xs H Q :=
  ⟨hl, fun p hp => k p _ _ (same_upd (S.dH.free hp)) upd_same (S.fix hp)⟩
theorem nw_tup1 {xs : List V} (S : Sx D L H) (k : ∀ p D' H', Same D D' → D' p = some (.tup xs) → Sx D' L H' → Q (.ref p) H') : ∀ p, H p = none → Q (.ref p) (upd H p (.tup xs)) :=
  fun p hp => k p _ _ (same_upd (S.dH.free hp)) upd_same (S.fix hp)
/-- a list that is read: mine, or fixed -/
def Rdl (D : Hp) (L : Own) (a : Addr) (xs : List V) : Prop := (∃ n : Nat, L[n]? = some (a, HO.lst xs)) ∨ D a = some (HO.lst xs)
theorem Rdl.at {a : Addr} {xs : List V} (S : Sx D L H) (r : Rdl D L a xs) : H a = some (.lst xs) := by
  rcases r with ⟨n, h⟩ | h
  · exact S.at h
  · exact S.dH _ _ h
theorem rl0 {a : Addr} {xs : List V} {L : Own} : Rdl D ((a, .lst xs) :: L) a xs := Or.inl ⟨0, rfl⟩
theorem rl1 {a : Addr} {xs : List V} {L : Own} {x1 : Addr × HO} : Rdl D (x1 :: (a, .lst xs) :: L) a xs := Or.inl ⟨1, rfl⟩
theorem rl2 {a : Addr} {xs : List V} {L : Own} {x1 x2 : Addr × HO} : Rdl D (x1 :: x2 :: (a, .lst xs) :: L) a xs := Or.inl ⟨2, rfl⟩
theorem rl3 {a : Addr} {xs : List V} {L : Own} {x1 x2 x3 : Addr × HO} : Rdl D (x1 :: x2 :: x3 :: (a, .lst xs) :: L) a xs := Or.inl ⟨3, rfl⟩
theorem rl4 {a : Addr} {xs : List V} {L : Own} {x1 x2 x3 x4 : Addr × HO} : Rdl D (x1 :: x2 :: x3 :: x4 :: (a, .lst xs) :: L) a xs := Or.inl ⟨4, rfl⟩
theorem rl5 {a : Addr} {xs : List V} {L : Own} {x1 x2 x3 x4 x5 : Addr × HO} : Rdl D (x1 :: x2 :: x3 :: x4 :: x5 :: (a, .lst xs) :: L) a xs := Or.inl ⟨5, rfl⟩
theorem rlD {a : Addr} {xs : List V} (h : D a = some (.lst xs)) : Rdl D L a xs := Or.inr h
theorem Rdl.sq {a : Addr} {xs : List V} (S : Sx D L H) (r : Rdl D L a xs) : SqL K H a xs := .of (r.at S)

/-- a list that is read only: the law's script, too -/
def Rds (K : PySem.W.Frag) (D : Hp) (L : Own) (a : Addr) (xs : List V) : Prop := (∃ n : Nat, L[n]? = some (a, HO.lst xs)) ∨ SqL K D a xs
theorem Rds.sq {a : Addr} {xs : List V} (S : Sx D L H) (r : Rds K D L a xs) : SqL K H a xs := by
  rcases r with ⟨n, h⟩ | h
  · exact .of (S.at h)
  · exact S.dH.seq h
theorem rs0 {a : Addr} {xs : List V} {L : Own} : Rds K D ((a, .lst xs) :: L) a xs := Or.inl ⟨0, rfl⟩
theorem rs1 {a : Addr} {xs : List V} {L : Own} {x1 : Addr × HO} : Rds K D (x1 :: (a, .lst xs) :: L) a xs := Or.inl ⟨1, rfl⟩
theorem rs2 {a : Addr} {xs : List V} {L : Own} {x1 : Addr × HO} {x2 : Addr × HO} : Rds K D (x1 :: x2 :: (a, .lst xs) :: L) a xs := Or.inl ⟨2, rfl⟩
theorem rs3 {a : Addr} {xs : List V} {L : Own} {x1 : Addr × HO} {x2 : Addr × HO} {x3 : Addr × HO} : Rds K D (x1 :: x2 :: x3 :: (a, .lst xs) :: L) a xs := Or.inl ⟨3, rfl⟩
theorem rs4 {a : Addr} {xs : List V} {L : Own} {x1 : Addr × HO} {x2 : Addr × HO} {x3 : Addr × HO} {x4 : Addr × HO} : Rds K D (x1 :: x2 :: x3 :: x4 :: (a, .lst xs) :: L) a xs := Or.inl ⟨4, rfl⟩
theorem rs5 {a : Addr} {xs : List V} {L : Own} {x1 : Addr × HO} {x2 : Addr × HO} {x3 : Addr × HO} {x4 : Addr × HO} {x5 : Addr × HO} : Rds K D (x1 :: x2 :: x3 :: x4 :: x5 :: (a, .lst xs) :: L) a xs := Or.inl ⟨5, rfl⟩
theorem rsD {a : Addr} {xs : List V} (h : D a = some (.lst xs)) : Rds K D L a xs := Or.inr (.of h)
theorem rsS {a : Addr} {xs : List V} (h : SqL K D a xs) : Rds K D L a xs := Or.inr h
theorem r_cat {a b : Addr} {xs ys : List V} (S : Sx D L H) (ha : Rdl D L a xs) (hb : Rdl D L b ys) (hl : xs.length + ys.length ≤ 16777216) (k : ∀ p H', Sx D ((p, .lst (xs ++ ys)) :: L) H' → Q (.ref p) H') : rAddX K (.ref a) (.ref b) H Q :=
  .inr (.inl ⟨a, b, xs, ys, rfl, rfl, ha.at S, hb.at S, hl, fun p hp => k p _ (S.new hp)⟩)
theorem r_catT {a b : Addr} {xs ys : List V} (S : Sx D L H) (ha : D a = some (.tup xs)) (hb : D b = some (.tup ys)) (hl : xs.length + ys.length ≤ 16777216) (k : ∀ p D' H', Same D D' → D' p = some (.tup (xs ++ ys)) → Sx D' L H' → Q (.ref p) H') : rAddX K (.ref a) (.ref b) H Q := by
  refine .inr (.inr ⟨a, b, xs, ys, rfl, rfl, sqT S ha, sqT S hb, hl, fun e => ?_, fun _ e => ?_, fun _ _ p hp => ?_⟩)
  · subst e; exact k b D H (Same.refl _) hb S
  · subst e; exact k a D H (Same.refl _) (by rw [List.append_nil]; exact ha) S
  · exact k p _ _ (same_upd (S.dH.free hp)) upd_same (S.fix hp)
theorem flat_rep {α : Type} (x : α) (n : Nat) : (List.replicate n [x]).flatten = List.replicate n x := by
  induction n with
  | zero => rfl
  | succ n ih => rw [List.replicate_succ, List.replicate_succ, List.flatten_cons, ih]; rfl
theorem r_rep1 {a : Addr} {x : V} {n : Int} (S : Sx D L H) (ha : Rdl D L a [x]) (h1 : -1000000 ≤ n) (h2 : n ≤ 1000000) (k : ∀ p H', Sx D ((p, .lst (List.replicate n.toNat x)) :: L) H' → Q (.ref p) H') : rMulX K (.ref a) (.int n) H Q := by
  refine .inr (.inr (.inl ⟨a, n, [x], rfl, rfl, ha.at S, by omega, by omega, ?_, fun p hp => ?_⟩))
  · show 1 * n.toNat ≤ 16777216
    omega
  · rw [flat_rep]
    exact k p _ (S.new hp)
theorem atN {xs : List V} {i : Int} {v : V} (h0 : 0 ≤ i) (h : xs[i.toNat]? = some v) : atI xs i = some v := by
  have := atI_nat h
  rwa [show ((i.toNat : Nat) : Int) = i from Int.toNat_of_nonneg h0] at this
theorem r_ixL {a : Addr} {xs : List V} {i : Int} {v : V} (S : Sx D L H) (ha : Rds K D L a xs) (h : atI xs i = some v) (k : Q v H) : rIx K (.ref a) (.int i) H Q := .inl ⟨a, xs, i, v, rfl, rfl, ha.sq S, h, k⟩
theorem r_ixT {a : Addr} {xs : List V} {i : Int} {v : V} (S : Sx D L H) (ha : D a = some (.tup xs)) (h : atI xs i = some v) (k : Q v H) : rIx K (.ref a) (.int i) H Q := .inr (.inl ⟨a, xs, i, v, rfl, rfl, sqT S ha, h, k⟩)
theorem r_slL {a : Addr} {xs : List V} {lo hi : Option Int} (S : Sx D L H) (ha : Rds K D L a xs) (k : ∀ p H', Sx D ((p, .lst (cutV xs lo hi)) :: L) H' → Q (.ref p) H') : rSlX K (.ref a) lo hi H Q :=
  .inl ⟨a, xs, rfl, ha.sq S, fun p hp => k p _ (S.new hp)⟩
theorem cut_all {xs : List V} {lo hi : Option Int} (e : HT.sIx xs.length 0 lo = 0 ∧ HT.sIx xs.length xs.length hi = xs.length) : cutV xs lo hi = xs := by
  unfold cutV
  rw [e.1, e.2]
  simp
theorem r_slT {a : Addr} {xs : List V} {lo hi : Option Int} (S : Sx D L H) (ha : D a = some (.tup xs)) (k : ∀ p D' H', Same D D' → D' p = some (.tup (cutV xs lo hi)) → Sx D' L H' → Q (.ref p) H') : rSlX K (.ref a) lo hi H Q :=
  .inr ⟨a, xs, rfl, sqT S ha, fun e => k a D H (Same.refl _) (by rw [cut_all e]; exact ha) S, fun _ p hp => k p _ _ (same_upd (S.dH.free hp)) upd_same (S.fix hp)⟩
theorem cut_from (xs : List V) (k : Nat) : cutV xs (some (k : Int)) none = xs.drop k := by
  unfold cutV
  rw [HT.sIx_nat, HT.sIx_none, List.take_of_length_le (by rw [List.length_drop]; omega)]
  by_cases c : k ≤ xs.length
  · rw [Nat.min_eq_left c]
  · rw [Nat.min_eq_right (by omega), List.drop_of_length_le (by omega), List.drop_of_length_le (by omega)]
theorem cut_to (xs : List V) (k : Nat) : cutV xs none (some (k : Int)) = xs.take k := by
  unfold cutV
  rw [HT.sIx_nat, HT.sIx_none, List.drop_zero, Nat.sub_zero]
  by_cases c : k ≤ xs.length
  · rw [Nat.min_eq_left c]
  · rw [Nat.min_eq_right (by omega), List.take_of_length_le (by omega), List.take_of_length_le (by omega)]
/-- calls -/
theorem c_lenL {a : Addr} {xs : List V} (S : Sx D L H) (ha : Rds K D L a xs) (k : Q (.int xs.length) H) : rLen K [.ref a] H Q := ⟨.ref a, xs.length, rfl, .inl ⟨xs, ha.sq S, rfl⟩, k⟩
theorem c_lenT {a : Addr} {xs : List V} (S : Sx D L H) (ha : D a = some (.tup xs)) (k : Q (.int xs.length) H) : rLen K [.ref a] H Q := ⟨.ref a, xs.length, rfl, .inr ⟨xs, sqT S ha, rfl⟩, k⟩
theorem c_tupL {a : Addr} {xs : List V} (S : Sx D L H) (ha : Rds K D L a xs) (k : ∀ p D' H', Same D D' → D' p = some (.tup xs) → Sx D' L H' → Q (.ref p) H') : rTupOf K [.ref a] H Q :=
  ⟨a, xs, rfl, .inl ⟨ha.sq S, fun p hp => k p _ _ (same_upd (S.dH.free hp)) upd_same (S.fix hp)⟩⟩
theorem c_tupT {a : Addr} {xs : List V} (S : Sx D L H) (ha : D a = some (.tup xs)) (k : Q (.ref a) H) : rTupOf K [.ref a] H Q := ⟨a, xs, rfl, .inr ⟨sqT S ha, k⟩⟩
theorem c_lstL {a : Addr} {xs : List V} (S : Sx D L H) (ha : Rds K D L a xs) (k : ∀ p H', Sx D ((p, .lst xs) :: L) H' → Q (.ref p) H') : rLstOf K [.ref a] H Q := ⟨a, xs, rfl, .inl (ha.sq S), fun p hp => k p _ (S.new hp)⟩
theorem c_lstT {a : Addr} {xs : List V} (S : Sx D L H) (ha : D a = some (.tup xs)) (k : ∀ p H', Sx D ((p, .lst xs) :: L) H' → Q (.ref p) H') : rLstOf K [.ref a] H Q := ⟨a, xs, rfl, .inr (sqT S ha), fun p hp => k p _ (S.new hp)⟩
theorem c_sum {a : Addr} {ns : List Int} (S : Sx D L H) (ha : Rds K D L a (ns.map V.int)) (k : Q (.int ns.sum) H) : rSum K [.ref a] H Q := ⟨a, ns, rfl, ha.sq S, k⟩
theorem c_all {a : Addr} {bs : List Bool} (S : Sx D L H) (ha : Rds K D L a (bs.map V.bl)) (k : Q (.bl (bs.all id)) H) : rAll K [.ref a] H Q := ⟨a, bs, rfl, ha.sq S, k⟩
theorem c_any {a : Addr} {bs : List Bool} (S : Sx D L H) (ha : Rds K D L a (bs.map V.bl)) (k : Q (.bl (bs.any id)) H) : rAny K [.ref a] H Q := ⟨a, bs, rfl, ha.sq S, k⟩
theorem m_app {n : Nat} {a : Addr} {xs : List V} {y : V} {L' : Own} (S : Sx D L H) (h : L[n]? = some (a, .lst xs)) (hl : xs.length < 16777216) (e : L.set n (a, .lst (xs ++ [y])) = L') (k : ∀ H', Sx D L' H' → Q .non H') : rAppend (.ref a) [y] H Q :=
  ⟨a, xs, y, rfl, rfl, S.at h, hl, by subst e; exact k _ (S.put _ h)⟩
theorem m_ty {a : Addr} {xs : List V} (S : Sx D L H) (ha : Rdl D L a xs) : tyV K "list" (.ref a) H := .inl ⟨rfl, _, .inl (.inl (ha.at S))⟩
theorem c_intI {i : Int} (k : Q (.int i) H) : rInt1 [.int i] H Q := .inl ⟨i, rfl, k⟩
theorem c_intB {b : Bool} (k : Q (.int (if b then 1 else 0)) H) : rInt1 [.bl b] H Q := .inr ⟨b, rfl, k⟩
theorem c_abs {i : Int} (k : Q (.int (if i < 0 then -i else i)) H) : rAbs [.int i] H Q := ⟨i, rfl, k⟩
theorem c_max2 {i j : Int} (k : Q (.int (if j > i then j else i)) H) : rMax2 [.int i, .int j] H Q := ⟨i, j, rfl, k⟩
theorem c_min2 {i j : Int} (k : Q (.int (if j < i then j else i)) H) : rMin2 [.int i, .int j] H Q := ⟨i, j, rfl, k⟩
theorem mm_ty {a : Addr} {xs : List V} {p : Prop} (S : Sx D L H) (ha : Rdl D L a xs) (k : p) : tyV K "list" (.ref a) H ∧ p := ⟨m_ty S ha, k⟩
/-- a store xs[i] = v -/
theorem p_set {n : Nat} {a : Addr} {xs : List V} {i : Int} {v : V} {L' : Own} {q : Hp → Prop} (S : Sx D L H) (h : L[n]? = some (a, .lst xs)) (h0 : 0 ≤ i) (hj : i.toNat < xs.length) (e : L.set n (a, .lst (xs.set i.toNat v)) = L') (k : ∀ H', Sx D L' H' → q H') : rSetL (.ref a) (.int i) v H q := by
  refine ⟨a, xs, i, i.toNat, rfl, rfl, S.at h, ?_, by subst e; exact k _ (S.put _ h)⟩
  unfold ixN
  rw [if_pos h0, if_pos (by omega)]
theorem g_sub {to ti : TE} {t : TSet} {v : V} {q : L2.St → Hp → Prop} (h : to σ H fun o H1 => ti σ H1 fun i H2 => t o i v H2 fun H3 => q σ H3) : gSub to ti t v σ H q := h
theorem g_name {i : Nat} {v : V} {σ' : L2.St} {q : L2.St → Hp → Prop} (e : σ.set i (some v) = σ') (k : q σ' H) : gName i v σ H q := by subst e; exact k
end
theorem cut1 (xs : List V) : cutV xs (some 1) none = xs.drop 1 := cut_from xs 1
theorem getI {ns : List Int} {i : Nat} {v : V} (h : (ns.map V.int)[i]? = some v) : ∃ n, ns[i]? = some n ∧ v = .int n := by
  rw [List.getElem?_map] at h
  cases e : ns[i]? with
  | none => rw [e] at h; cases h
  | some n => rw [e] at h; exact ⟨n, rfl, (Option.some.inj h).symm⟩
theorem mapI {ns : List Int} {i : Nat} {n : Int} (h : ns[i]? = some n) : (ns.map V.int)[i]? = some (.int n) := by rw [List.getElem?_map, h]; rfl
theorem atI0 {xs : List V} {v : V} (h : xs[0]? = some v) : atI xs 0 = some v := atI_nat (j := 0) h
theorem atI1 {xs : List V} {v : V} (h : xs[1]? = some v) : atI xs 1 = some v := atI_nat (j := 1) h
theorem atI2 {xs : List V} {v : V} (h : xs[2]? = some v) : atI xs 2 = some v := atI_nat (j := 2) h
theorem dkUp {D D' : Hp} {a : Addr} {o : HO} (e : Same D D') (h : D a = some o) : D' a = some o := e _ _ h
theorem ox0 {x : Addr × HO} {L : Own} : (x :: L)[0]? = some x := rfl
theorem ox1 {x y : Addr × HO} {L : Own} : (x :: y :: L)[1]? = some y := rfl
theorem ox2 {x y z : Addr × HO} {L : Own} : (x :: y :: z :: L)[2]? = some z := rfl
theorem ox3 {x y z u : Addr × HO} {L : Own} : (x :: y :: z :: u :: L)[3]? = some u := rfl
theorem ox4 {x y z u t : Addr × HO} {L : Own} : (x :: y :: z :: u :: t :: L)[4]? = some t := rfl
end Fk

namespace Fk
open PySem PySem.Spec PyProof.Rows L2

/-! ## a def of the text, as its callers see it -/
structure Cl (P : Program) (w : World) (K : PySem.W.Frag) (mg : Str → Option Value) (base : Heap) (CX : CXT) (k : Nat) (x : Str) (ps : List Str) (sp : Sp) : Prop where
  ex : ∃ (f : Addr) (fd : FuncData), FnOk P w K mg base CX k f fd ps sp ∧ mg x = some (.ref f) ∧ PySem.W.keepIn K (.ref f) = true ∧ Binds K fd ps []
theorem pe_cl {X : Cx} {x : Str} {k j : Nat} {ps : List Str} {sp : Sp} {p pos : Pos} {e : Expr} {es : List Expr} {t : TA} (C : Cl X.prog X.w X.K X.mg X.base CX0 k x ps sp) (hr : Room j X.A) (hk : k ≤ j) (hg : Gl X x)
    (ha : PA X (e :: es) t) (hdb : (x == ("__debug__" : Str)) = false := by decide) (he : starEach (e :: es) X.env = (false, eval e X.env) :: starEach es X.env := by rfl) (hpl : (backTo pos (starEach es X.env)).any (·.1) = false := by rfl) :
    PE X (.Call (.Name x p) (e :: es) [] pos) (tCall sp [] E0 t) := by
  obtain ⟨f, fd, F, hm, kp, hb⟩ := C.ex
  exact pe_call F (hr.mono hk) hg hm kp hb .nil pass0 ha hdb he hpl
theorem pe_clX {X : Cx} {x : Str} {k j : Nat} {ps : List Str} {sp : Sp} {p pos : Pos} {e : Expr} {es : List Expr} {t : TA} (C : Cl X.prog X.w X.K X.mg X.base (L2.CX X.prog X.w) k x ps sp) (hr : Room j X.A) (hk : k ≤ j) (hg : Gl X x)
    (ha : PA X (e :: es) t) (hdb : (x == ("__debug__" : Str)) = false := by decide) (he : starEach (e :: es) X.env = (false, eval e X.env) :: starEach es X.env := by rfl) (hpl : (backTo pos (starEach es X.env)).any (·.1) = false := by rfl) :
    PE X (.Call (.Name x p) (e :: es) [] pos) (tCall sp [] E0 t) := by
  obtain ⟨f, fd, F, hm, kp, hb⟩ := C.ex
  exact pe_call F (hr.mono hk) hg hm kp hb .nil passL ha hdb he hpl
theorem Cl.mk' {P : Program} {w : World} {K : PySem.W.Frag} {mg : Str → Option Value} {base : Heap} {CX : CXT} {k : Nat} {x : Str} {ps : List Str} {sp : Sp} {f : Addr} {fd : FuncData} {st : Stmt}
    (F : Fun K x x st f fd) (o : FnOk P w K mg base CX k f fd ps sp) (g : mg x = some (.ref f)) (b : Binds K fd ps []) : Cl P w K mg base CX k x ps sp := ⟨f, fd, o, g, F.kp, b⟩

/-! ## the rules that name the written part, with it told -/
section
variable {X : Cx}
theorem pe_notK (K : PySem.W.Frag) {a : Expr} {pos : Pos} {ta : TE} (h : PE X a ta) (e : X.K = K := by rfl) : PE X (.UnaryOp .Not a pos) (tNotT K ta) := by subst e; exact pe_notT h
theorem pg_tupK (K : PySem.W.Frag) (n : Nat) {es : List Expr} {k : Nat} {pos : Pos} {t : TGs} (hc : X.calm = true) (h : PGs X es t) (e : X.K = K := by rfl)
    (hn : (assignEach es X.env).length = n := by rfl) (hst : (assignEach es X.env).findIdx? (·.1) = none := by rfl) : PG X (.Tuple es k pos) (gTup K n t) := by subst e; exact pg_tup hc h hn hst
end

/-! ## what a for walks: a list or a tuple -/
section
variable {X : Cx} {tg iter : Expr}
def IsSL (K : PySem.W.Frag) (x : V) (H : Hp) (R : It → Hp → Prop) : Prop := ∃ a, x = .ref a ∧ (∃ xs, SqL K H a xs) ∧ R (Itl K a) H
def IsST (K : PySem.W.Frag) (x : V) (H : Hp) (R : It → Hp → Prop) : Prop := ∃ a, x = .ref a ∧ (∃ xs, SqT K H a xs) ∧ R (Itt K a) H
def IsSq (K : PySem.W.Frag) (x : V) (H : Hp) (R : It → Hp → Prop) : Prop := IsSL K x H R ∨ IsST K x H R
def iSeq (K : PySem.W.Frag) (te : TE) : TI := fun σ H R => te σ H fun x H1 => IsSq K x H1 R
theorem pi_seq {te : TE} (he : PE X iter te) : PI X tg iter (iSeq X.K te) := by
  refine ⟨fun pins s σ H R I h => ?_⟩
  refine thn (he.run pins s σ H _ I h) fun v s1 ⟨x, H1, I1, r1, q1⟩ => ?_
  rcases q1 with ⟨a, rfl, ⟨xs, hq⟩, q⟩ | ⟨a, rfl, ⟨xs, hq⟩, q⟩
  · cases r1
    obtain ⟨its, _, p, _⟩ := I1.list hq
    refine wpAny_pyIter_list p.isList ⟨_, [s1.heap.objs.size], _, _, H1, rfl,
      I1.kept (t' := s1.toks) fun b o e => Heap.get?_push_of_some _ e, turn_list a _, ⟨_, Heap.get?_push_size _ rfl, rfl, rfl⟩, fun b hb => ?_, q⟩
    rw [show b = s1.heap.objs.size by simpa using hb]
    exact I1.fpOk (Nat.le_refl _) (I1.hok.fresh (Nat.le_refl _))
  · cases r1
    obtain ⟨its, _, p, _⟩ := I1.tuple hq
    refine wpAny_pyIter_tuple (show s1.heap.IsTuple a its.toArray from p) ⟨_, [s1.heap.objs.size], _, _, H1, rfl,
      I1.kept (t' := s1.toks) fun b o e => Heap.get?_push_of_some _ e, turn_tuple a _, ⟨_, Heap.get?_push_size _ rfl, rfl, rfl⟩, fun b hb => ?_, q⟩
    rw [show b = s1.heap.objs.size by simpa using hb]
    exact I1.fpOk (Nat.le_refl _) (I1.hok.fresh (Nat.le_refl _))
theorem pi_seqK (K : PySem.W.Frag) {te : TE} (he : PE X iter te) (e : X.K = K := by rfl) : PI X tg iter (iSeq K te) := by subst e; exact pi_seq he
end
section
variable {σ : L2.St} {D H : Hp} {L : Own} {K : PySem.W.Frag} {R : It → Hp → Prop}
/-- walked: a list (left) or a tuple (right); the list is an evaluated one -/
def IsR1 (vs : List V) (H : Hp) (R : It → Hp → Prop) : Prop := ∃ j : Int, vs = [.int j] ∧ -(2 ^ 62) ≤ j ∧ j < 2 ^ 62 ∧ R (Itr 0 j.toNat) H
def IsR2 (vs : List V) (H : Hp) (R : It → Hp → Prop) : Prop := ∃ i j : Int, vs = [.int i, .int j] ∧ (-(2 ^ 62) ≤ i ∧ i < 2 ^ 62 ∧ -(2 ^ 62) ≤ j ∧ j < 2 ^ 62) ∧ R (Itr i (j - i).toNat) H
theorem i_seq {te : TE} (h : te σ H fun x H1 => IsSq K x H1 R) : iSeq K te σ H R := h
theorem i_isL {a : Addr} {xs : List V} (S : Sx D L H) (ha : Rds K D L a xs) (k : R (Itl K a) H) : IsSq K (.ref a) H R := .inl ⟨a, rfl, ⟨xs, ha.sq S⟩, k⟩
theorem i_isT {a : Addr} {xs : List V} (S : Sx D L H) (ha : D a = some (.tup xs)) (k : R (Itt K a) H) : IsSq K (.ref a) H R := .inr ⟨a, rfl, ⟨xs, sqT S ha⟩, k⟩
def tLcJ (J : It) (g : TG) (tt : TT) (te : TE) (vs : List Nat) : TE := tLc (fun _ H R => R J H) g tt te vs
theorem e_lc {wi : TI} {g : TG} {tt : TT} {te : TE} {vs : List Nat} {Q : VK} (h : wi σ H fun J H1 => tLcJ J g tt te vs σ H1 Q) : tLc wi g tt te vs σ H Q := h
def tForJ (J : It) (g : TG) (tb : TS) : TS := fun E σ H => ∃ W : Nat → Nat → L2.St → Hp → Prop, (∃ m, W 0 m σ H) ∧ ∀ i m σ H, W i m σ H →
      (J.stop i H ∧ E.nx σ H) ∨ (J.go i H ∧ ∃ N : L2.St → Hp → Prop, (∀ σ' H', N σ' H' → ∃ m', m' < m ∧ W (i + 1) m' σ' H') ∧
        ∀ x H', J.yld i H x H' → g x σ H' fun σ2 H2 => tb { nx := N, rt := E.rt, bk := E.nx, ct := N } σ2 H2)
theorem s_forJ {wi : TI} {g : TG} {tb : TS} {E : Ends} (h : wi σ H fun J H1 => tForJ J g tb E σ H1) : tFor wi g tb E σ H := h
/-- a loop: Pv by the turn, the slots, the heap (no break) -/
theorem for_go {J : It} {n : Nat} {G : Hp → Prop} {Y : Nat → Hp → V → Hp → Prop} (w : Walk J n G Y) {g : TG} {tb : TS} {nx : L2.St → Hp → Prop} {rt : VK} {bk ct : L2.St → Hp → Prop} (Pv : Nat → L2.St → Hp → Prop) (h0 : Pv 0 σ H) (hG : ∀ i σ H, i ≤ n → Pv i σ H → G H)
    (hs : ∀ i x σ H H', i < n → Pv i σ H → Y i H x H' → ∀ (nx bk : L2.St → Hp → Prop), (∀ σ H, Pv (i + 1) σ H → nx σ H) → g x σ H' fun σ2 H2 => tb ⟨nx, rt, bk, nx⟩ σ2 H2) (hd : ∀ σ H, Pv n σ H → nx σ H) : tForJ J g tb ⟨nx, rt, bk, ct⟩ σ H :=
  L2.for_it w (D := ⟨nx, rt, bk, ct⟩) Pv h0 hG (fun i x σ H H' hi p y => hs i x σ H H' hi p y _ _ fun _ _ z => z) hd
/-- .. with break: Bk tells what holds there -/
theorem for_goB {J : It} {n : Nat} {G : Hp → Prop} {Y : Nat → Hp → V → Hp → Prop} (w : Walk J n G Y) {g : TG} {tb : TS} {nx : L2.St → Hp → Prop} {rt : VK} {bk ct : L2.St → Hp → Prop} (Pv : Nat → L2.St → Hp → Prop) (Bk : L2.St → Hp → Prop) (h0 : Pv 0 σ H) (hG : ∀ i σ H, i ≤ n → Pv i σ H → G H)
    (hs : ∀ i x σ H H', i < n → Pv i σ H → Y i H x H' → ∀ (nx bk : L2.St → Hp → Prop), (∀ σ H, Pv (i + 1) σ H → nx σ H) → (∀ σ H, Bk σ H → bk σ H) → g x σ H' fun σ2 H2 => tb ⟨nx, rt, bk, nx⟩ σ2 H2) (hd : ∀ σ H, (Pv n σ H ∨ Bk σ H) → nx σ H) : tForJ J g tb ⟨nx, rt, bk, ct⟩ σ H :=
  L2.for_it w (D := ⟨nx, rt, bk, ct⟩) Pv h0 hG (fun i x σ H H' hi p y => hs i x σ H H' hi p y _ _ (fun _ _ z => z) fun σ H z => hd σ H (.inr z)) fun σ H z => hd σ H (.inl z)
theorem i_rng1 {ta : TA} (h : ta σ H fun vs H1 => IsR1 vs H1 R) : iRng1 ta σ H R := h
theorem i_rng2 {ta : TA} (h : ta σ H fun vs H1 => IsR2 vs H1 R) : iRng2 ta σ H R := h
theorem i_r1 {j : Int} (h : -4611686018427387904 ≤ j ∧ j < 4611686018427387904) (k : R (Itr 0 j.toNat) H) : IsR1 [.int j] H R := ⟨j, rfl, by omega, by omega, k⟩
theorem i_r2 {i j : Int} (h : (-4611686018427387904 ≤ i ∧ i < 4611686018427387904) ∧ -4611686018427387904 ≤ j ∧ j < 4611686018427387904) (k : R (Itr i (j - i).toNat) H) : IsR2 [.int i, .int j] H R :=
  ⟨i, j, rfl, ⟨by omega, by omega, by omega, by omega⟩, k⟩
/-- two ways meet -/
theorem s_cut {t u : TS} {nx : L2.St → Hp → Prop} {rt : VK} {bk ct : L2.St → Hp → Prop} (M : L2.St → Hp → Prop) (h1 : ∀ nx, (∀ σ H, M σ H → nx σ H) → t ⟨nx, rt, bk, ct⟩ σ H) (h2 : ∀ σ' H', M σ' H' → u ⟨nx, rt, bk, ct⟩ σ' H') : Evl.tCut t u ⟨nx, rt, bk, ct⟩ σ H := ⟨M, h1 M fun _ _ z => z, h2⟩
theorem w_eq {p : Prop} {a b : L2.St} (e : a = b) (h : p) : a = b ∧ p := ⟨e, h⟩
theorem t_yes {q : Bool → Hp → Prop} (h : q true H) : tYes σ H q := h
theorem st_start {t : TS} {Q : VK} {σ' : L2.St} (e : σ = σ') (h : ∀ bk ct, t ⟨fun _ H' => Q .non H', Q, bk, ct⟩ σ' H) : t { nx := fun _ H' => Q .non H', rt := Q } σ H := by subst e; exact h _ _
theorem st_eq {q : L2.St → Prop} {σ' : L2.St} (e : σ = σ') (h : q σ') : q σ := by subst e; exact h
end
class StA (σ : L2.St) (i : Nat) (v : Option V) (σ' : outParam L2.St) : Prop where
  pf : σ.set i v = σ'
instance sta0 {v x : Option V} {σ : L2.St} : StA (x :: σ) 0 v (v :: σ) := ⟨rfl⟩
instance staS {v x : Option V} {σ σ' : L2.St} {i : Nat} [h : StA σ i v σ'] : StA (x :: σ) (i + 1) v (x :: σ') := ⟨by rw [List.set_cons_succ, h.pf]⟩
class Wip (σ : L2.St) (vs : List Nat) (σ' : outParam L2.St) : Prop where
  pf : wipe σ vs = σ'
instance wip0 {σ : L2.St} : Wip σ [] σ := ⟨rfl⟩
instance wipS {σ σ' σ'' : L2.St} {v : Nat} {vs : List Nat} [h : Wip σ vs σ'] [k : StA σ' v none σ''] : Wip σ (v :: vs) σ'' := ⟨by show (wipe σ vs).set v none = σ''; rw [h.pf, k.pf]⟩
/-- the comprehension's own names are forgotten alike -/
def WOk (σ2 : L2.St) (vs : List Nat) (σ : L2.St) (p : Prop) : Prop := wipe σ2 vs = σ ∧ p
section
variable {σ : L2.St} {D H : Hp} {L : Own} {K : PySem.W.Frag} {R : It → Hp → Prop}
/-! ## comprehensions, loops -/
/-- a comprehension: R tells the list made so far -/
theorem lc_go {J : It} {n : Nat} {G : Hp → Prop} {Y : Nat → Hp → V → Hp → Prop} (w : Walk J n G Y) {g : TG} {tt : TT} {te : TE} {vs : List Nat} {Q : VK} {σw : L2.St} [S : Sx D L H] [hw : Wip σ vs σw] (hn : n < 16777216)
    (R : Nat → List V → Hp → Prop) (h0 : R 0 [] D) (hG : ∀ D' p acc H', Sm D D' → Sx D' ((p, .lst acc) :: L) H' → G H')
    (hs : ∀ i x p acc D' H' H'', i < n → Sm D D' → Sx D' ((p, .lst acc) :: L) H' → R i acc D' → Y i H' x H'' → ∀ (Ad : V → Hp → Prop) (Sk : Hp → Prop),
      (∀ y D'' H4, Sm D' D'' → Sx D'' ((p, .lst acc) :: L) H4 → R (i + 1) (acc ++ [y]) D'' → Ad y H4) →
      (∀ D'' H4, Sm D' D'' → Sx D'' ((p, .lst acc) :: L) H4 → R (i + 1) acc D'' → Sk H4) →
      g x σw H'' fun σ2 H2 => WOk σ2 vs σw (tt σ2 H2 fun b H3 => if b = true then te σ2 H3 Ad else Sk H3))
    (k : ∀ p D' acc H', Sm D D' → Sx D' ((p, .lst acc) :: L) H' → R n acc D' → Q (.ref p) H') : tLcJ J g tt te vs σ H Q := by
  obtain rfl := hw.pf
  intro p hp
  refine lc_it w (fun i H' => ∃ D' acc, Sm D D' ∧ Sx D' ((p, .lst acc) :: L) H' ∧ R i acc D' ∧ acc.length ≤ i) ⟨D, [], ⟨Same.refl _⟩, S.new hp, h0, Nat.le_refl _⟩ (fun i H' _ ⟨D', acc, e, S', _, _⟩ => hG D' p acc H' e S') (fun i x H' H'' hi ⟨D', acc, e, S', r, hl⟩ y => ?_) (fun H' ⟨D', acc, e, S', r, _⟩ => k p D' acc H' e S' r)
  refine hs i x p acc D' H' H'' hi e S' r y _ _ (fun z D'' H4 e2 S2 r2 => ?_) (fun D'' H4 e2 S2 r2 => ?_)
  · refine ⟨acc, S2.at (n := 0) rfl, ?_, D'', acc ++ [z], ⟨e.e.trans e2.e⟩, ?_, r2, ?_⟩
    · show acc.length < 16777216
      omega
    · exact S2.put (n := 0) _ rfl
    · rw [List.length_append]
      show acc.length + 1 ≤ i + 1
      omega
  · exact ⟨D'', acc, ⟨e.e.trans e2.e⟩, S2, r2, by omega⟩
/-- each item gives one: the elements' values are told ahead (no test) -/
theorem lc_vals {J : It} {n : Nat} {G : Hp → Prop} {Y : Nat → Hp → V → Hp → Prop} (w : Walk J n G Y) {g : TG} {te : TE} {vs : List Nat} {Q : VK} {σw : L2.St} [S : Sx D L H] [hw : Wip σ vs σw] (hn : n < 16777216)
    (ys : List V) (hy : ys.length = n) (hG : ∀ p acc H', Sx D ((p, .lst acc) :: L) H' → G H')
    (hs : ∀ i x p acc H' H'', i < n → Sx D ((p, .lst acc) :: L) H' → Y i H' x H'' → ∀ (Ad : V → Hp → Prop),
      (∀ y H4, Sx D ((p, .lst acc) :: L) H4 → ys[i]? = some y → Ad y H4) →
      g x σw H'' fun σ2 H2 => WOk σ2 vs σw (te σ2 H2 Ad))
    (k : ∀ p H', Sx D ((p, .lst ys) :: L) H' → Q (.ref p) H') : tLcJ J g tYes te vs σ H Q := by
  obtain rfl := hw.pf
  intro p hp
  refine lc_it w (fun i H' => Sx D ((p, .lst (ys.take i)) :: L) H') (S.new hp) (fun i H' _ S' => hG p _ H' S') (fun i x H' H'' hi S' y => ?_) (fun H' S' => ?_)
  · have h := hs i x p _ H' H'' hi S' y (fun z H4 => ∃ acc, H4 p = some (.lst acc) ∧ acc.length < sizeLine ∧ Sx D ((p, .lst (ys.take (i + 1))) :: L) (upd H4 p (.lst (acc ++ [z])))) (fun z H4 S2 e => ?_)
    · have eq : (fun (σ2 : L2.St) (H2 : Hp) => wipe σ2 vs = wipe σ vs ∧ tYes σ2 H2 fun b H3 => if b = true then te σ2 H3 (fun z H4 => ∃ acc, H4 p = some (.lst acc) ∧ acc.length < sizeLine ∧ Sx D ((p, .lst (ys.take (i + 1))) :: L) (upd H4 p (.lst (acc ++ [z])))) else Sx D ((p, .lst (ys.take (i + 1))) :: L) H3)
          = (fun (σ2 : L2.St) (H2 : Hp) => wipe σ2 vs = wipe σ vs ∧ te σ2 H2 (fun z H4 => ∃ acc, H4 p = some (.lst acc) ∧ acc.length < sizeLine ∧ Sx D ((p, .lst (ys.take (i + 1))) :: L) (upd H4 p (.lst (acc ++ [z]))))) := by
        funext σ2 H2
        unfold tYes
        dsimp only
        rw [if_pos rfl]
      rw [eq]
      exact h
    · refine ⟨_, S2.at (n := 0) rfl, ?_, ?_⟩
      · rw [List.length_take]
        show min i ys.length < 16777216
        omega
      · rw [List.take_add_one, e]
        exact S2.put (n := 0) _ rfl
  · rw [List.take_of_length_le (by omega)] at S'
    exact k p H' S'
end
end Fk

namespace Fk
open PySem PySem.Spec PyProof.Rows L2

theorem bb_len : bootBuiltins "len" = some (.builtin "len") := by decide +kernel
theorem bb_isinstance : bootBuiltins "isinstance" = some (.builtin "isinstance") := by decide +kernel
theorem bb_abs : bootBuiltins "abs" = some (.builtin "abs") := by decide +kernel
theorem bb_sum : bootBuiltins "sum" = some (.builtin "sum") := by decide +kernel
theorem bb_all : bootBuiltins "all" = some (.builtin "all") := by decide +kernel
theorem bb_any : bootBuiltins "any" = some (.builtin "any") := by decide +kernel
theorem bb_sorted : bootBuiltins "sorted" = some (.builtin "sorted") := by decide +kernel
theorem bb_divmod : bootBuiltins "divmod" = some (.builtin "divmod") := by decide +kernel
theorem bb_min : bootBuiltins "min" = some (.builtin "min") := by decide +kernel
theorem bb_max : bootBuiltins "max" = some (.builtin "max") := by decide +kernel
theorem bb_tuple : bootBuiltins "tuple" = some (.type "tuple") := by decide +kernel
theorem bb_list : bootBuiltins "list" = some (.type "list") := by decide +kernel
theorem bb_int : bootBuiltins "int" = some (.type "int") := by decide +kernel
theorem bb_bool : bootBuiltins "bool" = some (.type "bool") := by decide +kernel
theorem bb_str : bootBuiltins "str" = some (.type "str") := by decide +kernel
theorem bb_dict : bootBuiltins "dict" = some (.type "dict") := by decide +kernel
theorem bb_set : bootBuiltins "set" = some (.type "set") := by decide +kernel
theorem bb_range : bootBuiltins "range" = some (.type "range") := by decide +kernel
theorem bb_enumerate : bootBuiltins "enumerate" = some (.type "enumerate") := by decide +kernel
theorem bb_zip : bootBuiltins "zip" = some (.type "zip") := by decide +kernel
theorem bb_reversed : bootBuiltins "reversed" = some (.type "reversed") := by decide +kernel
/-! ## a tuple once -/
theorem tupMul1 (l : Addr) (its : Array Value) (n : Nat) (dd : Option Addr) (sl : Array (Option Value)) (u : Tok) :
    Meets (Builtin.«tuple.__mul__» ⟨[.ref l, .int 1 u], []⟩) (fun _ R s => s.heap.get? l = some { cls := .type "tuple", dict := dd, data := .seq its n, slots := sl } ∧ R (.ok (.ret (Value.ref l))) s) :=
  .of_wp fun prog w A R s h => by
    obtain ⟨hp, g, d, tk, os⟩ := s
    obtain ⟨hl, h⟩ := h
    have f1 := AutoSeq1.idx_int
    have c1 : (its.isEmpty || (1 : Int) == 1) = true := by simp
    wp_walk using wpAny_loadPart' hl
    repeat (first
      | (refine wpAny_ite_true (decide_eq_true (by rw [c1])) ?_; wp_walk using wpAny_loadPart' hl)
      | (refine wpAny_ite_false (decide_eq_false (by decide)) ?_; wp_walk using wpAny_loadPart' hl))
    all_goals first | exact ⟨_, rfl, h⟩ | trace_state
def rRep1 (K : PySem.W.Frag) : R2 := fun x y H Q => ∃ l xs, x = .ref l ∧ y = .int 1 ∧ SqT K H l xs ∧ Q (.ref l) H
section
variable {X : Cx}
theorem op_rep1 : OpR X (binaryOp .Mult) (rRep1 X.K) := by
  intro pins s σ H x y v u Q I rx ry h
  obtain ⟨l, xs, rfl, rfl, hT, q⟩ := h
  cases rx
  obtain ⟨t, rfl⟩ := ry
  obtain ⟨its, r, ⟨⟨cls, dd, data, sl⟩, ho, hc, n, hd⟩, hs⟩ := I.tuple hT
  simp only at hc hd
  subst hc hd
  have K1 : (decide ((1 : Int) < -(2 ^ 63)) || decide ((1 : Int) ≥ 2 ^ 63)) = false := by decide
  have M := tupMul1 l its.toArray n dd sl t
  refine wpAny_binaryOp_repeat_ref (T := "tuple") (U := "int") (by decide) ⟨_, ho, rfl⟩ (fun s' => typeIs_int s' 1 t)
    noFill_tuple_mul F.fills_int_mul F.slot_int_rmul repeat_tuple F.slot_int_index.lookup ?_
  refine call_meets F.slot_int_rmul (typeIs_int s 1 t) F.entry_int_rmul (F.args_int_rmul_2 _ _)
    (int_rmul_tuple 1 t l its.toArray n dd sl) ⟨ho, rfl, ⟨_, ho, rfl⟩, ?_⟩
  exact call_meets F.slot_tuple_mul ⟨_, ho, rfl⟩ F.entry_tuple_mul (F.args_tuple_mul_2 _ _) M ⟨ho, ⟨.ref l, H, I, rfl, q⟩⟩
/-- every product -/
def rMulY (K : PySem.W.Frag) : R2 := fun x y H Q => rMulX K x y H Q ∨ rRep1 K x y H Q
theorem opMulY : OpR X (binaryOp .Mult) (rMulY X.K) := OpR.or opMul op_rep1

/-! ## sum of a tuple -/
def rSumT (K : PySem.W.Frag) : List V → Hp → VK → Prop := fun vs H Q => ∃ (a : Addr) (ns : List Int), vs = [V.ref a] ∧ SqT K H a (ns.map V.int) ∧ Q (.int ns.sum) H
theorem cr_sumT (hc : X.calm = true) : CallR X (.builtin "sum") (rSumT X.K) := by
  intro pins s σ H vs us Q I r h
  obtain ⟨a, ns, rfl, hT, q⟩ := h
  obtain ⟨its, rv, ho, hs⟩ := I.tuple hT
  rw [Vals.ref1 r]
  have hi : IntsAre its ns := rv.ints
  obtain ⟨xs, e⟩ := hi.allInts.items
  have hn : numsOf (intItems xs).toList = ns := by rw [← e]; exact hi.numsOf
  rw [nums_intItems] at hn
  rw [e] at ho
  refine PySem.W.ktm_sumG (I.ok.hd hc) ho fun h' tk t' hk => ⟨.int _, H, I.kept hk, ⟨t', ?_⟩, q⟩
  rw [preSum_eq, List.take_of_length_le (by simp), hn]
def rSumX (K : PySem.W.Frag) : List V → Hp → VK → Prop := fun vs H Q => rSum K vs H Q ∨ rSumT K vs H Q
theorem cr_sumX (hc : X.calm = true) : CallR X (.builtin "sum") (rSumX X.K) := CallR.or (cr_sum hc) (cr_sumT hc)
end
section
variable {σ : L2.St} {D D' H : Hp} {L : Own} {Q : VK} {K : PySem.W.Frag}
theorem c_sumL {a : Addr} {ns : List Int} (S : Sx D L H) (ha : Rds K D L a (ns.map V.int)) (k : Q (.int ns.sum) H) : rSumX K [.ref a] H Q := .inl ⟨a, ns, rfl, ha.sq S, k⟩
theorem c_sumT {a : Addr} {ns : List Int} (S : Sx D L H) (ha : D a = some (.tup (ns.map V.int))) (k : Q (.int ns.sum) H) : rSumX K [.ref a] H Q := .inr ⟨a, ns, rfl, sqT S ha, k⟩
theorem r_mul {x y : V} (h : rMulX K x y H Q) : rMulY K x y H Q := .inl h
/-- (x,) * n -/
theorem r_rep1T {a : Addr} {x : V} {n : Int} (S : Sx D L H) (ha : D a = some (.tup [x])) (h1 : 1 ≤ n) (h2 : n ≤ 1000) (k : ∀ p D' H', Same D D' → D' p = some (.tup (List.replicate n.toNat x)) → Sx D' L H' → Q (.ref p) H') : rMulY K (.ref a) (.int n) H Q := by
  by_cases c : n = 1
  · subst c
    exact .inr ⟨a, [x], rfl, rfl, sqT S ha, k a D H (Same.refl _) ha S⟩
  · refine .inl (.inr (.inr (.inr ⟨a, n, [x], rfl, rfl, sqT S ha, by simp, by omega, h2, by simp, fun p hp => ?_⟩)))
    rw [flat_rep]
    exact k p _ _ (same_upd (S.dH.free hp)) upd_same (S.fix hp)
end
end Fk

/-! ## sorted of a tuple -/
namespace FkS
open PySem PyProof.Rows Srt SrtO SrtR
section
variable {prog : Program} {w : World} {A : Around} {E : Value → Shared → Prop} {s : Shared}
/-- the heap in which the items were gathered -/
abbrev gath (s : Shared) (vs : List Value) : Heap := (s.heap.push (seqObj "list" #[] 0)).update s.heap.objs.size (Obj.mapSeq (· ++ vs.toArray))
theorem collectT {l : Addr} {vs : List Value} {Q : List Value → Shared → Prop} (ht : IsTup s.heap l vs.toArray) (hz : vs.length ≤ sizeLine) (h : Q vs { s with heap := gath s vs }) : wpAny (model prog w) A (collect (.ref l)) Q E s := by
  obtain ⟨ob, hob, hcl, m, hdt⟩ := id ht
  unfold collect
  refine wpAny_bind (wpAny_runValue (codeAny_builtin entry_proto_collect' ?_))
  show wpAny _ _ (do again (.builtin "list.__iadd__" ⟨[← newList [], .ref l], []⟩)) _ _ s
  refine wpAny_bind (wpAny_newList (wpAny_pure ⟨Code.quiet_builtin _ (by decide +kernel), codeAny_builtin entry_list_iadd' ?_⟩))
  show wpAny _ _ (Builtin.List.listExtendWith (.ref s.heap.objs.size) (.ref l) (.ref s.heap.objs.size)) _ _ { s with heap := s.heap.push (seqObj "list" #[] 0) }
  unfold Builtin.List.listExtendWith
  have hob' : (s.heap.push (seqObj "list" #[] 0)).get? l = some ob := Heap.get?_push_of_some _ hob
  refine wpAny_bind (wpAny_typeOf (T := "tuple") ⟨ob, hob', hcl⟩ ?_)
  have tt : (Value.type "tuple" == Value.type "tuple") = true := by rfl
  rw [if_pos (by rw [tt]; simp)]
  refine wpAny_bind (listItems_at hob' hdt ?_)
  refine wpAny_bind (listItems_at (xs := #[]) (n := 0) (Heap.get?_push_size _ rfl) rfl ?_)
  rw [if_neg (by simp)]
  have hz' : (#[] ++ vs.toArray).size ≤ sizeLine + 1 := by
    simp only [Array.size_append, List.size_toArray, List.length_nil]
    omega
  refine wpAny_bind (listUpdate_at (xs := #[]) (n := 0) (Heap.get?_push_size _ rfl) rfl ?_ (Nat.zero_le _) hz')
  refine wpAny_pure ?_
  show wpAny (model prog w) A (do
    let o ← load s.heap.objs.size
    match o.data with
    | .seq xs _ => pure xs.toList
    | _ => unsupported "internal:collect") Q E { s with heap := gath s vs }
  refine wpAny_bind (wpAny_load (get?_update_seq (Heap.get?_push_size _ rfl) _) ?_)
  show wpAny _ _ (pure ((#[] : Array Value) ++ vs.toArray).toList) Q E _
  have e0 : ((#[] : Array Value) ++ vs.toArray).toList = vs := by simp
  rw [e0]
  exact wpAny_pure h
theorem sortedT {l : Addr} {vs : List Value} {b : Bool} {ltv : Value → Value → Bool} {Q : Value → Shared → Prop} (O : Swo ltv) (ht : IsTup s.heap l vs.toArray) (hz : vs.length ≤ sizeLine)
    (hS : 2 ≤ vs.length → ∀ (h₁ : Heap) (a : Addr), SortableO prog w A.in1.in1 { s with heap := h₁ } a vs ltv)
    (h : ∀ out : List Value, Srtd ltv out → Stb ltv out (if b = true then vs.reverse else vs) → Q (.ref (s.heap.objs.size + 1)) { s with heap := sortedAll s.heap vs (if b = true then out.toArray.reverse else out.toArray) }) :
    wpAny (model prog w) A (call (.builtin "sorted") [.ref l] [(Str.ofString "reverse", .bool b)]) Q E s := by
  refine call_function_entry_kw kind_sorted plain_sorted entry_sorted (args_sorted_rev _ _) ?_
  unfold Builtin.«sorted»
  refine wpAny_bind (m := checkCount "sorted" 1 1 _) (wpAny_pure ?_)
  refine wpAny_bind (collectT ht hz ?_)
  refine wpAny_bind (wpAny_newList ?_ hz)
  have hsz : (gath s vs).objs.size = s.heap.objs.size + 1 := by
    rw [Heap.size_update, size_push']
  have hoL : ((gath s vs).push (seqObj "list" vs.toArray 0)).get? (s.heap.objs.size + 1) = some (seqObj "list" vs.toArray 0) := by
    rw [← hsz]
    exact Heap.get?_push_size _ rfl
  show wpAny _ _ _ _ _ { s with heap := (gath s vs).push (seqObj "list" vs.toArray 0) }
  rw [hsz]
  refine wpAny_bind (wpAny_holding (wpAny_call_entry_kw slot_list_sort ⟨_, hoL, rfl⟩ entry_list_sort ?_ (args_list_sort_rev _ _)))
  refine list_sort_ordR O hoL hz (fun h2 => hS h2 _ _) fun out k1 k2 => ⟨_, rfl, ?_⟩
  exact wpAny_pure ⟨_, rfl, h out k1 k2⟩
theorem sortedT0 {l : Addr} {vs : List Value} {ltv : Value → Value → Bool} {Q : Value → Shared → Prop} (O : Swo ltv) (ht : IsTup s.heap l vs.toArray) (hz : vs.length ≤ sizeLine)
    (hS : 2 ≤ vs.length → ∀ (h₁ : Heap) (a : Addr), SortableO prog w A.in1.in1 { s with heap := h₁ } a vs ltv)
    (h : ∀ out : List Value, Srtd ltv out → Stb ltv out vs → Q (.ref (s.heap.objs.size + 1)) { s with heap := sortedAll s.heap vs out.toArray }) :
    wpAny (model prog w) A (call (.builtin "sorted") [.ref l]) Q E s := by
  refine Calls.call_function_entry kind_sorted plain_sorted entry_sorted (args_sorted1 _) ?_
  unfold Builtin.«sorted»
  refine wpAny_bind (m := checkCount "sorted" 1 1 _) (wpAny_pure ?_)
  refine wpAny_bind (collectT ht hz ?_)
  refine wpAny_bind (wpAny_newList ?_ hz)
  have hsz : (gath s vs).objs.size = s.heap.objs.size + 1 := by
    rw [Heap.size_update, size_push']
  have hoL : ((gath s vs).push (seqObj "list" vs.toArray 0)).get? (s.heap.objs.size + 1) = some (seqObj "list" vs.toArray 0) := by
    rw [← hsz]
    exact Heap.get?_push_size _ rfl
  show wpAny _ _ _ _ _ { s with heap := (gath s vs).push (seqObj "list" vs.toArray 0) }
  rw [hsz]
  refine wpAny_bind (wpAny_holding (wpAny_call_entry slot_list_sort ⟨_, hoL, rfl⟩ entry_list_sort (list_sort_ord O hoL hz (fun h2 => hS h2 _ _) fun out k1 k2 => ⟨_, rfl, ?_⟩) (args_list_sort _)))
  exact wpAny_pure ⟨_, rfl, h out k1 k2⟩
end
end FkS
namespace Fk
open PySem PySem.Spec PyProof.Rows L2
/-- sorted(xs): a list, or a tuple, of ints -/
def rSortedX (K : PySem.W.Frag) : List V → Hp → VK → Prop := fun vs H Q => ∃ (a : Addr) (ns : List Int), vs = [V.ref a] ∧ (SqL K H a (ns.map V.int) ∨ SqT K H a (ns.map V.int)) ∧
  ∀ (ns' : List Int) (p : Addr), ns'.Perm ns → ns'.Pairwise (· ≤ ·) → H p = none → Q (.ref p) (upd H p (.lst (ns'.map V.int)))
/-- sorted(xs, reverse=True) -/
def rSortedR (K : PySem.W.Frag) : List V → List V → Hp → VK → Prop := fun vs zs H Q => ∃ (a : Addr) (ns : List Int), vs = [V.ref a] ∧ zs = [.bl true] ∧ (SqL K H a (ns.map V.int) ∨ SqT K H a (ns.map V.int)) ∧
  ∀ (ns' : List Int) (p : Addr), ns'.Perm ns → ns'.Pairwise (· ≥ ·) → H p = none → Q (.ref p) (upd H p (.lst (ns'.map V.int)))
section
variable {X : Cx}
theorem cr_sortedX : CallR X (.builtin "sorted") (rSortedX X.K) := by
  intro pins s σ H vs us Q I r h
  obtain ⟨a, ns, rfl, hs | hs, q⟩ := h
  · exact cr_sortedI pins s σ H _ us Q I r ⟨a, ns, rfl, hs, q⟩
  · obtain ⟨its, rv, ht, hz⟩ := I.tuple hs
    rw [Vals.ref1 r]
    have hi := rv.ints
    refine FkS.sortedT0 SrtO.swo_int ht (by rw [← rv.length]; exact hz) (fun h2 h₁ a' => SrtO.ints_sortable hi h2) fun out h1 h2 => ?_
    obtain ⟨k1, k2, k3⟩ := SrtO.ints_out hi h1 h2
    obtain ⟨ep, he'⟩ := PyProof.Rows.sortedAll_at s.heap its out.toArray
    have hlen : ((out.map SrtO.iv).map V.int).length ≤ sizeLine := by
      rw [List.length_map, k2.length_eq]
      rw [List.length_map] at hz
      exact hz
    exact ⟨.ref _, upd H (s.heap.objs.size + 1) (.lst ((out.map SrtO.iv).map V.int)), I.laid (t' := s.toks) (fun _ _ => PyProof.Rows.sortedAll_old) (Nat.le_succ _) ⟨hlen, _, ep, vals_of_ints k1, he'⟩, rfl, q _ _ k2 k3 (I.hok.fresh (Nat.le_succ _))⟩
theorem cr_sortedR : CallRK X (.builtin "sorted") [Str.ofString "reverse"] (rSortedR X.K) := by
  intro pins s σ H vs zs us ws Q I r rz h
  obtain ⟨a, ns, rfl, rfl, hs | hs, q⟩ := h
  · exact cr_sortedRev (b := true) pins s σ H _ _ us ws Q I r rz ⟨a, ns, rfl, rfl, hs, fun ns' p h1 h2 => q ns' p h1 h2⟩
  · obtain ⟨its, rv, ht, hz⟩ := I.tuple hs
    rw [Vals.ref1 r]
    obtain ⟨w1, rfl, e1⟩ := vals1 rz
    obtain rfl : w1 = Value.bool true := e1
    have hi := rv.ints
    refine FkS.sortedT (b := true) SrtO.swo_int ht (by rw [← rv.length]; exact hz) (fun h2 h₁ a' => SrtO.ints_sortable hi h2) fun out h1 h2 => ?_
    obtain ⟨ns', k1, k2, k3⟩ := SrtR.ints_outR (b := true) hi h1 h2
    obtain ⟨ep, he'⟩ := PyProof.Rows.sortedAll_at s.heap its (if true = true then out.toArray.reverse else out.toArray)
    have hlen : (ns'.map V.int).length ≤ sizeLine := by
      rw [List.length_map, k2.length_eq]
      rw [List.length_map] at hz
      exact hz
    have e0 : ((if true = true then out.toArray.reverse else out.toArray).toList).toArray = (if true = true then out.toArray.reverse else out.toArray) := by rw [Array.toArray_toList]
    exact ⟨.ref _, upd H (s.heap.objs.size + 1) (.lst (ns'.map V.int)), I.laid (t' := s.toks) (fun _ _ => PyProof.Rows.sortedAll_old) (Nat.le_succ _) ⟨hlen, _, ep, vals_of_ints k1, by rw [e0]; exact he'⟩, rfl, q _ _ k2 k3 (I.hok.fresh (Nat.le_succ _))⟩
end
section
variable {σ : L2.St} {D D' H : Hp} {L : Own} {Q : VK} {K : PySem.W.Frag}
theorem c_sortL {a : Addr} {ns : List Int} (S : Sx D L H) (ha : Rds K D L a (ns.map V.int)) (k : ∀ (ns' : List Int) p H', ns'.Perm ns → ns'.Pairwise (· ≤ ·) → Sx D ((p, .lst (ns'.map V.int)) :: L) H' → Q (.ref p) H') : rSortedX K [.ref a] H Q :=
  ⟨a, ns, rfl, .inl (ha.sq S), fun ns' p h1 h2 hp => k ns' p _ h1 h2 (S.new hp)⟩
theorem c_sortT {a : Addr} {ns : List Int} (S : Sx D L H) (ha : D a = some (.tup (ns.map V.int))) (k : ∀ (ns' : List Int) p H', ns'.Perm ns → ns'.Pairwise (· ≤ ·) → Sx D ((p, .lst (ns'.map V.int)) :: L) H' → Q (.ref p) H') : rSortedX K [.ref a] H Q :=
  ⟨a, ns, rfl, .inr (sqT S ha), fun ns' p h1 h2 hp => k ns' p _ h1 h2 (S.new hp)⟩
theorem c_sortRL {a : Addr} {ns : List Int} (S : Sx D L H) (ha : Rds K D L a (ns.map V.int)) (k : ∀ (ns' : List Int) p H', ns'.Perm ns → ns'.Pairwise (· ≥ ·) → Sx D ((p, .lst (ns'.map V.int)) :: L) H' → Q (.ref p) H') : rSortedR K [.ref a] [.bl true] H Q :=
  ⟨a, ns, rfl, rfl, .inl (ha.sq S), fun ns' p h1 h2 hp => k ns' p _ h1 h2 (S.new hp)⟩
theorem c_sortRT {a : Addr} {ns : List Int} (S : Sx D L H) (ha : D a = some (.tup (ns.map V.int))) (k : ∀ (ns' : List Int) p H', ns'.Perm ns → ns'.Pairwise (· ≥ ·) → Sx D ((p, .lst (ns'.map V.int)) :: L) H' → Q (.ref p) H') : rSortedR K [.ref a] [.bl true] H Q :=
  ⟨a, ns, rfl, rfl, .inr (sqT S ha), fun ns' p h1 h2 hp => k ns' p _ h1 h2 (S.new hp)⟩
theorem e_ckw {r : List V → List V → Hp → VK → Prop} {t tk : TA} (h : t σ H fun vs H1 => tk σ H1 fun zs H2 => r vs zs H2 Q) : tCKw r t tk σ H Q := h
end
end Fk

namespace Fk
open PySem PySem.Spec PyProof.Rows L2

/-! ## data of small depth -/
def Sh (n : Nat) (d : PyData) : Prop := d.canLay0 = true ∧ d.depth ≤ n
theorem Sh.int (n : Nat) (i : Int) : Sh n (.int i) := ⟨by simp [PyData.canLay0], by simp [PyData.depth]⟩
theorem Sh.bl (n : Nat) (b : Bool) : Sh n (.bool b) := ⟨by simp [PyData.canLay0], by simp [PyData.depth]⟩
theorem Sh.non (n : Nat) : Sh n .none := ⟨by simp [PyData.canLay0], by simp [PyData.depth]⟩
theorem sh_all {n : Nat} : ∀ {ds : List PyData}, (∀ d ∈ ds, Sh n d) → PyData.canLayAll0 ds = true ∧ PyData.depthAll ds ≤ n
  | [], _ => ⟨by simp [PyData.canLayAll0], by simp [PyData.depthAll]⟩
  | d :: ds, h => by
    obtain ⟨a1, a2⟩ := h d List.mem_cons_self
    obtain ⟨b1, b2⟩ := sh_all (ds := ds) fun e he => h e (List.mem_cons_of_mem _ he)
    refine ⟨?_, ?_⟩
    · simp only [PyData.canLayAll0, a1, b1, Bool.and_self]
    · simp only [PyData.depthAll]
      omega
theorem Sh.list {n : Nat} {ds : List PyData} (h : ∀ d ∈ ds, Sh n d) : Sh (n + 1) (.list ds) := by
  obtain ⟨a, b⟩ := sh_all h
  exact ⟨by simp only [PyData.canLay0, a], by simp only [PyData.depth]; omega⟩
theorem Sh.tup {n : Nat} {ds : List PyData} (h : ∀ d ∈ ds, Sh n d) : Sh (n + 1) (.tuple ds) := by
  obtain ⟨a, b⟩ := sh_all h
  exact ⟨by simp only [PyData.canLay0, a], by simp only [PyData.depth]; omega⟩
theorem Sh.ints {n : Nat} {ns : List Int} : ∀ d ∈ dI ns, Sh n d := fun d hd => by
  obtain ⟨i, _, rfl⟩ := List.mem_map.mp hd
  exact .int n i
theorem Sh.ok {n : Nat} {d : PyData} (h : Sh n d) (hn : n ≤ 64 := by decide) : SeqAt.shaped d = true := by
  unfold SeqAt.shaped
  rw [h.1, decide_eq_true (Nat.le_trans h.2 hn)]
  rfl
theorem sh_tupI (ns : List Int) : SeqAt.shaped (.tuple (dI ns)) = true := (Sh.tup (n := 0) Sh.ints).ok
theorem sh_lstI (ns : List Int) : SeqAt.shaped (.list (dI ns)) = true := (Sh.list (n := 0) Sh.ints).ok
theorem eqv_I : ∀ (xs ys : List Int), PyData.eqvAll (dI xs) (dI ys) = decide (xs = ys)
  | [], [] => by simp [PyData.eqvAll]
  | [], y :: ys => by simp [PyData.eqvAll]
  | x :: xs, [] => by simp [PyData.eqvAll]
  | x :: xs, y :: ys => by
    simp only [List.map_cons, PyData.eqvAll, PyData.eqv, eqv_I xs ys]
    by_cases h : x = y
    · subst h; simp
    · simp [h]
theorem eqv_tupI (xs ys : List Int) : PyData.eqv (.tuple (dI xs)) (.tuple (dI ys)) = decide (xs = ys) := by simp only [PyData.eqv, eqv_I]
theorem eqv_lstI (xs ys : List Int) : PyData.eqv (.list (dI xs)) (.list (dI ys)) = decide (xs = ys) := by simp only [PyData.eqv, eqv_I]

section
variable {σ : L2.St} {D D' H : Hp} {L : Own} {Q : VK} {K : PySem.W.Frag}
theorem r_eqTT {a b : Addr} {xs ys : List Int} (S : Sx D L H) (ha : D a = some (.tup (xs.map V.int))) (hb : D b = some (.tup (ys.map V.int))) (k : Q (.bl (decide (xs = ys))) H) : rEqX K (.ref a) (.ref b) H Q :=
  r_eqD S (.tupI ha) (.tupI hb) (sh_tupI xs) (sh_tupI ys) (by rw [eqv_tupI]; exact k)
theorem r_neTT {a b : Addr} {xs ys : List Int} (S : Sx D L H) (ha : D a = some (.tup (xs.map V.int))) (hb : D b = some (.tup (ys.map V.int))) (k : Q (.bl (!decide (xs = ys))) H) : rNeX K (.ref a) (.ref b) H Q :=
  r_neD S (.tupI ha) (.tupI hb) (sh_tupI xs) (sh_tupI ys) (by rw [eqv_tupI]; exact k)
/-- lists of ints, mine or fixed -/
theorem dpl {a : Addr} {xs : List Int} (S : Sx D L H) (ha : Rds K D L a (xs.map V.int)) : Dp K H (.ref a) (.list (dI xs)) := .lst (ha.sq S) (RpAll.dp (.ints xs))
theorem r_eqLL {a b : Addr} {xs ys : List Int} (S : Sx D L H) (ha : Rds K D L a (xs.map V.int)) (hb : Rds K D L b (ys.map V.int)) (k : Q (.bl (decide (xs = ys))) H) : rEqX K (.ref a) (.ref b) H Q :=
  .inr ⟨_, _, dpl S ha, dpl S hb, sh_lstI xs, sh_lstI ys, by rw [eqv_lstI]; exact k⟩
theorem r_neLL {a b : Addr} {xs ys : List Int} (S : Sx D L H) (ha : Rds K D L a (xs.map V.int)) (hb : Rds K D L b (ys.map V.int)) (k : Q (.bl (!decide (xs = ys))) H) : rNeX K (.ref a) (.ref b) H Q :=
  .inr ⟨_, _, dpl S ha, dpl S hb, sh_lstI xs, sh_lstI ys, by rw [eqv_lstI]; exact k⟩
/-! isinstance -/
theorem isi {x : V} {t n : String} {b : Bool} (ht : TyX K H x (.type t)) (h : kitB t n = some b) (k : Q (.bl b) H) : rIsi K [x, .ty n] H Q := ⟨x, .ty n, .type t, .type n, b, rfl, .ty n, ht, kit_ty h, k⟩
theorem isi_int {i : Int} {n : String} {b : Bool} (h : kitB "int" n = some b) (k : Q (.bl b) H) : rIsi K [.int i, .ty n] H Q := isi (.base (.int i)) h k
theorem isi_bl {c : Bool} {n : String} {b : Bool} (h : kitB "bool" n = some b) (k : Q (.bl b) H) : rIsi K [.bl c, .ty n] H Q := isi (.base (.bl c)) h k
theorem isi_non {n : String} {b : Bool} (h : kitB "NoneType" n = some b) (k : Q (.bl b) H) : rIsi K [.non, .ty n] H Q := isi (.base .non) h k
theorem isi_str {z : Str} {n : String} {b : Bool} (h : kitB "str" n = some b) (k : Q (.bl b) H) : rIsi K [.str z, .ty n] H Q := isi (.base (.str z)) h k
theorem isi_tup {a : Addr} {xs : List V} {n : String} {b : Bool} (S : Sx D L H) (ha : D a = some (.tup xs)) (h : kitB "tuple" n = some b) (k : Q (.bl b) H) : rIsi K [.ref a, .ty n] H Q := isi (.base (.tup (S.dH _ _ ha))) h k
theorem isi_lst {a : Addr} {xs : List V} {n : String} {b : Bool} (S : Sx D L H) (ha : Rdl D L a xs) (h : kitB "list" n = some b) (k : Q (.bl b) H) : rIsi K [.ref a, .ty n] H Q := isi (.base (.lst (ha.at S))) h k
/-! an item at a place that is not written -/
theorem atI_get {ns : List Int} {i : Int} (h0 : 0 ≤ i) (h1 : i < ns.length) : ∃ z ∈ ns, atI (ns.map V.int) i = some (.int z) := by
  have hi : i.toNat < ns.length := by omega
  exact ⟨ns[i.toNat], List.getElem_mem hi, atN h0 (mapI (List.getElem?_eq_getElem hi))⟩
theorem all_ids {n : Nat} : (List.replicate n true).all id = true := by
  induction n with
  | zero => rfl
  | succ n ih => rw [List.replicate_succ, List.all_cons, ih]; rfl
theorem map_reps {n : Nat} : (List.replicate n true).map V.bl = List.replicate n (V.bl true) := by rw [List.map_replicate]
theorem c_allT {a : Addr} {n : Nat} (S : Sx D L H) (ha : Rds K D L a (List.replicate n (V.bl true))) (k : Q (.bl true) H) : rAll K [.ref a] H Q :=
  c_all (bs := List.replicate n true) S (by rw [map_reps]; exact ha) (by rw [all_ids]; exact k)
end
section
variable {D H : Hp} {L : Own} {Q : VK} {K : PySem.W.Frag}
theorem isi_int_int {i : Int} (k : Q (.bl true) H) : rIsi K [.int i, .ty "int"] H Q := isi_int (by decide +kernel) k
theorem isi_int_bool {i : Int} (k : Q (.bl false) H) : rIsi K [.int i, .ty "bool"] H Q := isi_int (by decide +kernel) k
theorem isi_int_str {i : Int} (k : Q (.bl false) H) : rIsi K [.int i, .ty "str"] H Q := isi_int (by decide +kernel) k
theorem isi_int_list {i : Int} (k : Q (.bl false) H) : rIsi K [.int i, .ty "list"] H Q := isi_int (by decide +kernel) k
theorem isi_int_tuple {i : Int} (k : Q (.bl false) H) : rIsi K [.int i, .ty "tuple"] H Q := isi_int (by decide +kernel) k
theorem isi_int_dict {i : Int} (k : Q (.bl false) H) : rIsi K [.int i, .ty "dict"] H Q := isi_int (by decide +kernel) k
theorem isi_bl_int {c : Bool} (k : Q (.bl true) H) : rIsi K [.bl c, .ty "int"] H Q := isi_bl (by decide +kernel) k
theorem isi_bl_bool {c : Bool} (k : Q (.bl true) H) : rIsi K [.bl c, .ty "bool"] H Q := isi_bl (by decide +kernel) k
theorem isi_bl_str {c : Bool} (k : Q (.bl false) H) : rIsi K [.bl c, .ty "str"] H Q := isi_bl (by decide +kernel) k
theorem isi_bl_list {c : Bool} (k : Q (.bl false) H) : rIsi K [.bl c, .ty "list"] H Q := isi_bl (by decide +kernel) k
theorem isi_bl_tuple {c : Bool} (k : Q (.bl false) H) : rIsi K [.bl c, .ty "tuple"] H Q := isi_bl (by decide +kernel) k
theorem isi_bl_dict {c : Bool} (k : Q (.bl false) H) : rIsi K [.bl c, .ty "dict"] H Q := isi_bl (by decide +kernel) k
theorem isi_non_int  (k : Q (.bl false) H) : rIsi K [.non, .ty "int"] H Q := isi_non (by decide +kernel) k
theorem isi_non_bool  (k : Q (.bl false) H) : rIsi K [.non, .ty "bool"] H Q := isi_non (by decide +kernel) k
theorem isi_non_str  (k : Q (.bl false) H) : rIsi K [.non, .ty "str"] H Q := isi_non (by decide +kernel) k
theorem isi_non_list  (k : Q (.bl false) H) : rIsi K [.non, .ty "list"] H Q := isi_non (by decide +kernel) k
theorem isi_non_tuple  (k : Q (.bl false) H) : rIsi K [.non, .ty "tuple"] H Q := isi_non (by decide +kernel) k
theorem isi_non_dict  (k : Q (.bl false) H) : rIsi K [.non, .ty "dict"] H Q := isi_non (by decide +kernel) k
theorem isi_str_int {z : Str} (k : Q (.bl false) H) : rIsi K [.str z, .ty "int"] H Q := isi_str (by decide +kernel) k
theorem isi_str_bool {z : Str} (k : Q (.bl false) H) : rIsi K [.str z, .ty "bool"] H Q := isi_str (by decide +kernel) k
theorem isi_str_str {z : Str} (k : Q (.bl true) H) : rIsi K [.str z, .ty "str"] H Q := isi_str (by decide +kernel) k
theorem isi_str_list {z : Str} (k : Q (.bl false) H) : rIsi K [.str z, .ty "list"] H Q := isi_str (by decide +kernel) k
theorem isi_str_tuple {z : Str} (k : Q (.bl false) H) : rIsi K [.str z, .ty "tuple"] H Q := isi_str (by decide +kernel) k
theorem isi_str_dict {z : Str} (k : Q (.bl false) H) : rIsi K [.str z, .ty "dict"] H Q := isi_str (by decide +kernel) k
theorem isi_tup_int {a : Addr} {xs : List V} (S : Sx D L H) (ha : D a = some (.tup xs)) (k : Q (.bl false) H) : rIsi K [.ref a, .ty "int"] H Q := isi_tup S ha (by decide +kernel) k
theorem isi_tup_bool {a : Addr} {xs : List V} (S : Sx D L H) (ha : D a = some (.tup xs)) (k : Q (.bl false) H) : rIsi K [.ref a, .ty "bool"] H Q := isi_tup S ha (by decide +kernel) k
theorem isi_tup_str {a : Addr} {xs : List V} (S : Sx D L H) (ha : D a = some (.tup xs)) (k : Q (.bl false) H) : rIsi K [.ref a, .ty "str"] H Q := isi_tup S ha (by decide +kernel) k
theorem isi_tup_list {a : Addr} {xs : List V} (S : Sx D L H) (ha : D a = some (.tup xs)) (k : Q (.bl false) H) : rIsi K [.ref a, .ty "list"] H Q := isi_tup S ha (by decide +kernel) k
theorem isi_tup_tuple {a : Addr} {xs : List V} (S : Sx D L H) (ha : D a = some (.tup xs)) (k : Q (.bl true) H) : rIsi K [.ref a, .ty "tuple"] H Q := isi_tup S ha (by decide +kernel) k
theorem isi_tup_dict {a : Addr} {xs : List V} (S : Sx D L H) (ha : D a = some (.tup xs)) (k : Q (.bl false) H) : rIsi K [.ref a, .ty "dict"] H Q := isi_tup S ha (by decide +kernel) k
theorem isi_lst_int {a : Addr} {xs : List V} (S : Sx D L H) (ha : Rdl D L a xs) (k : Q (.bl false) H) : rIsi K [.ref a, .ty "int"] H Q := isi_lst S ha (by decide +kernel) k
theorem isi_lst_bool {a : Addr} {xs : List V} (S : Sx D L H) (ha : Rdl D L a xs) (k : Q (.bl false) H) : rIsi K [.ref a, .ty "bool"] H Q := isi_lst S ha (by decide +kernel) k
theorem isi_lst_str {a : Addr} {xs : List V} (S : Sx D L H) (ha : Rdl D L a xs) (k : Q (.bl false) H) : rIsi K [.ref a, .ty "str"] H Q := isi_lst S ha (by decide +kernel) k
theorem isi_lst_list {a : Addr} {xs : List V} (S : Sx D L H) (ha : Rdl D L a xs) (k : Q (.bl true) H) : rIsi K [.ref a, .ty "list"] H Q := isi_lst S ha (by decide +kernel) k
theorem isi_lst_tuple {a : Addr} {xs : List V} (S : Sx D L H) (ha : Rdl D L a xs) (k : Q (.bl false) H) : rIsi K [.ref a, .ty "tuple"] H Q := isi_lst S ha (by decide +kernel) k
theorem isi_lst_dict {a : Addr} {xs : List V} (S : Sx D L H) (ha : Rdl D L a xs) (k : Q (.bl false) H) : rIsi K [.ref a, .ty "dict"] H Q := isi_lst S ha (by decide +kernel) k
end
/-! lists by their length -/
theorem len1 {α : Type} {r : List α} (h : r.length = 1) : ∃ x0, r = [x0] := match r, h with
  | [x0], _ => ⟨x0, rfl⟩
theorem len2 {α : Type} {r : List α} (h : r.length = 2) : ∃ x0 x1, r = [x0, x1] := match r, h with
  | [x0, x1], _ => ⟨x0, x1, rfl⟩
theorem len3 {α : Type} {r : List α} (h : r.length = 3) : ∃ x0 x1 x2, r = [x0, x1, x2] := match r, h with
  | [x0, x1, x2], _ => ⟨x0, x1, x2, rfl⟩
theorem len4 {α : Type} {r : List α} (h : r.length = 4) : ∃ x0 x1 x2 x3, r = [x0, x1, x2, x3] := match r, h with
  | [x0, x1, x2, x3], _ => ⟨x0, x1, x2, x3, rfl⟩
theorem len5 {α : Type} {r : List α} (h : r.length = 5) : ∃ x0 x1 x2 x3 x4, r = [x0, x1, x2, x3, x4] := match r, h with
  | [x0, x1, x2, x3, x4], _ => ⟨x0, x1, x2, x3, x4, rfl⟩
theorem len6 {α : Type} {r : List α} (h : r.length = 6) : ∃ x0 x1 x2 x3 x4 x5, r = [x0, x1, x2, x3, x4, x5] := match r, h with
  | [x0, x1, x2, x3, x4, x5], _ => ⟨x0, x1, x2, x3, x4, x5, rfl⟩
theorem len7 {α : Type} {r : List α} (h : r.length = 7) : ∃ x0 x1 x2 x3 x4 x5 x6, r = [x0, x1, x2, x3, x4, x5, x6] := match r, h with
  | [x0, x1, x2, x3, x4, x5, x6], _ => ⟨x0, x1, x2, x3, x4, x5, x6, rfl⟩
theorem len8 {α : Type} {r : List α} (h : r.length = 8) : ∃ x0 x1 x2 x3 x4 x5 x6 x7, r = [x0, x1, x2, x3, x4, x5, x6, x7] := match r, h with
  | [x0, x1, x2, x3, x4, x5, x6, x7], _ => ⟨x0, x1, x2, x3, x4, x5, x6, x7, rfl⟩
theorem len9 {α : Type} {r : List α} (h : r.length = 9) : ∃ x0 x1 x2 x3 x4 x5 x6 x7 x8, r = [x0, x1, x2, x3, x4, x5, x6, x7, x8] := match r, h with
  | [x0, x1, x2, x3, x4, x5, x6, x7, x8], _ => ⟨x0, x1, x2, x3, x4, x5, x6, x7, x8, rfl⟩
theorem len10 {α : Type} {r : List α} (h : r.length = 10) : ∃ x0 x1 x2 x3 x4 x5 x6 x7 x8 x9, r = [x0, x1, x2, x3, x4, x5, x6, x7, x8, x9] := match r, h with
  | [x0, x1, x2, x3, x4, x5, x6, x7, x8, x9], _ => ⟨x0, x1, x2, x3, x4, x5, x6, x7, x8, x9, rfl⟩
theorem len11 {α : Type} {r : List α} (h : r.length = 11) : ∃ x0 x1 x2 x3 x4 x5 x6 x7 x8 x9 x10, r = [x0, x1, x2, x3, x4, x5, x6, x7, x8, x9, x10] := match r, h with
  | [x0, x1, x2, x3, x4, x5, x6, x7, x8, x9, x10], _ => ⟨x0, x1, x2, x3, x4, x5, x6, x7, x8, x9, x10, rfl⟩
theorem len12 {α : Type} {r : List α} (h : r.length = 12) : ∃ x0 x1 x2 x3 x4 x5 x6 x7 x8 x9 x10 x11, r = [x0, x1, x2, x3, x4, x5, x6, x7, x8, x9, x10, x11] := match r, h with
  | [x0, x1, x2, x3, x4, x5, x6, x7, x8, x9, x10, x11], _ => ⟨x0, x1, x2, x3, x4, x5, x6, x7, x8, x9, x10, x11, rfl⟩
theorem len13 {α : Type} {r : List α} (h : r.length = 13) : ∃ x0 x1 x2 x3 x4 x5 x6 x7 x8 x9 x10 x11 x12, r = [x0, x1, x2, x3, x4, x5, x6, x7, x8, x9, x10, x11, x12] := match r, h with
  | [x0, x1, x2, x3, x4, x5, x6, x7, x8, x9, x10, x11, x12], _ => ⟨x0, x1, x2, x3, x4, x5, x6, x7, x8, x9, x10, x11, x12, rfl⟩
theorem len14 {α : Type} {r : List α} (h : r.length = 14) : ∃ x0 x1 x2 x3 x4 x5 x6 x7 x8 x9 x10 x11 x12 x13, r = [x0, x1, x2, x3, x4, x5, x6, x7, x8, x9, x10, x11, x12, x13] := match r, h with
  | [x0, x1, x2, x3, x4, x5, x6, x7, x8, x9, x10, x11, x12, x13], _ => ⟨x0, x1, x2, x3, x4, x5, x6, x7, x8, x9, x10, x11, x12, x13, rfl⟩
theorem len15 {α : Type} {r : List α} (h : r.length = 15) : ∃ x0 x1 x2 x3 x4 x5 x6 x7 x8 x9 x10 x11 x12 x13 x14, r = [x0, x1, x2, x3, x4, x5, x6, x7, x8, x9, x10, x11, x12, x13, x14] := match r, h with
  | [x0, x1, x2, x3, x4, x5, x6, x7, x8, x9, x10, x11, x12, x13, x14], _ => ⟨x0, x1, x2, x3, x4, x5, x6, x7, x8, x9, x10, x11, x12, x13, x14, rfl⟩
theorem len16 {α : Type} {r : List α} (h : r.length = 16) : ∃ x0 x1 x2 x3 x4 x5 x6 x7 x8 x9 x10 x11 x12 x13 x14 x15, r = [x0, x1, x2, x3, x4, x5, x6, x7, x8, x9, x10, x11, x12, x13, x14, x15] := match r, h with
  | [x0, x1, x2, x3, x4, x5, x6, x7, x8, x9, x10, x11, x12, x13, x14, x15], _ => ⟨x0, x1, x2, x3, x4, x5, x6, x7, x8, x9, x10, x11, x12, x13, x14, x15, rfl⟩
theorem len17 {α : Type} {r : List α} (h : r.length = 17) : ∃ x0 x1 x2 x3 x4 x5 x6 x7 x8 x9 x10 x11 x12 x13 x14 x15 x16, r = [x0, x1, x2, x3, x4, x5, x6, x7, x8, x9, x10, x11, x12, x13, x14, x15, x16] := match r, h with
  | [x0, x1, x2, x3, x4, x5, x6, x7, x8, x9, x10, x11, x12, x13, x14, x15, x16], _ => ⟨x0, x1, x2, x3, x4, x5, x6, x7, x8, x9, x10, x11, x12, x13, x14, x15, x16, rfl⟩
theorem len18 {α : Type} {r : List α} (h : r.length = 18) : ∃ x0 x1 x2 x3 x4 x5 x6 x7 x8 x9 x10 x11 x12 x13 x14 x15 x16 x17, r = [x0, x1, x2, x3, x4, x5, x6, x7, x8, x9, x10, x11, x12, x13, x14, x15, x16, x17] := match r, h with
  | [x0, x1, x2, x3, x4, x5, x6, x7, x8, x9, x10, x11, x12, x13, x14, x15, x16, x17], _ => ⟨x0, x1, x2, x3, x4, x5, x6, x7, x8, x9, x10, x11, x12, x13, x14, x15, x16, x17, rfl⟩
theorem len19 {α : Type} {r : List α} (h : r.length = 19) : ∃ x0 x1 x2 x3 x4 x5 x6 x7 x8 x9 x10 x11 x12 x13 x14 x15 x16 x17 x18, r = [x0, x1, x2, x3, x4, x5, x6, x7, x8, x9, x10, x11, x12, x13, x14, x15, x16, x17, x18] := match r, h with
  | [x0, x1, x2, x3, x4, x5, x6, x7, x8, x9, x10, x11, x12, x13, x14, x15, x16, x17, x18], _ => ⟨x0, x1, x2, x3, x4, x5, x6, x7, x8, x9, x10, x11, x12, x13, x14, x15, x16, x17, x18, rfl⟩
theorem len20 {α : Type} {r : List α} (h : r.length = 20) : ∃ x0 x1 x2 x3 x4 x5 x6 x7 x8 x9 x10 x11 x12 x13 x14 x15 x16 x17 x18 x19, r = [x0, x1, x2, x3, x4, x5, x6, x7, x8, x9, x10, x11, x12, x13, x14, x15, x16, x17, x18, x19] := match r, h with
  | [x0, x1, x2, x3, x4, x5, x6, x7, x8, x9, x10, x11, x12, x13, x14, x15, x16, x17, x18, x19], _ => ⟨x0, x1, x2, x3, x4, x5, x6, x7, x8, x9, x10, x11, x12, x13, x14, x15, x16, x17, x18, x19, rfl⟩
theorem len21 {α : Type} {r : List α} (h : r.length = 21) : ∃ x0 x1 x2 x3 x4 x5 x6 x7 x8 x9 x10 x11 x12 x13 x14 x15 x16 x17 x18 x19 x20, r = [x0, x1, x2, x3, x4, x5, x6, x7, x8, x9, x10, x11, x12, x13, x14, x15, x16, x17, x18, x19, x20] := match r, h with
  | [x0, x1, x2, x3, x4, x5, x6, x7, x8, x9, x10, x11, x12, x13, x14, x15, x16, x17, x18, x19, x20], _ => ⟨x0, x1, x2, x3, x4, x5, x6, x7, x8, x9, x10, x11, x12, x13, x14, x15, x16, x17, x18, x19, x20, rfl⟩
theorem len22 {α : Type} {r : List α} (h : r.length = 22) : ∃ x0 x1 x2 x3 x4 x5 x6 x7 x8 x9 x10 x11 x12 x13 x14 x15 x16 x17 x18 x19 x20 x21, r = [x0, x1, x2, x3, x4, x5, x6, x7, x8, x9, x10, x11, x12, x13, x14, x15, x16, x17, x18, x19, x20, x21] := match r, h with
  | [x0, x1, x2, x3, x4, x5, x6, x7, x8, x9, x10, x11, x12, x13, x14, x15, x16, x17, x18, x19, x20, x21], _ => ⟨x0, x1, x2, x3, x4, x5, x6, x7, x8, x9, x10, x11, x12, x13, x14, x15, x16, x17, x18, x19, x20, x21, rfl⟩
theorem len23 {α : Type} {r : List α} (h : r.length = 23) : ∃ x0 x1 x2 x3 x4 x5 x6 x7 x8 x9 x10 x11 x12 x13 x14 x15 x16 x17 x18 x19 x20 x21 x22, r = [x0, x1, x2, x3, x4, x5, x6, x7, x8, x9, x10, x11, x12, x13, x14, x15, x16, x17, x18, x19, x20, x21, x22] := match r, h with
  | [x0, x1, x2, x3, x4, x5, x6, x7, x8, x9, x10, x11, x12, x13, x14, x15, x16, x17, x18, x19, x20, x21, x22], _ => ⟨x0, x1, x2, x3, x4, x5, x6, x7, x8, x9, x10, x11, x12, x13, x14, x15, x16, x17, x18, x19, x20, x21, x22, rfl⟩
theorem len24 {α : Type} {r : List α} (h : r.length = 24) : ∃ x0 x1 x2 x3 x4 x5 x6 x7 x8 x9 x10 x11 x12 x13 x14 x15 x16 x17 x18 x19 x20 x21 x22 x23, r = [x0, x1, x2, x3, x4, x5, x6, x7, x8, x9, x10, x11, x12, x13, x14, x15, x16, x17, x18, x19, x20, x21, x22, x23] := match r, h with
  | [x0, x1, x2, x3, x4, x5, x6, x7, x8, x9, x10, x11, x12, x13, x14, x15, x16, x17, x18, x19, x20, x21, x22, x23], _ => ⟨x0, x1, x2, x3, x4, x5, x6, x7, x8, x9, x10, x11, x12, x13, x14, x15, x16, x17, x18, x19, x20, x21, x22, x23, rfl⟩
theorem len25 {α : Type} {r : List α} (h : r.length = 25) : ∃ x0 x1 x2 x3 x4 x5 x6 x7 x8 x9 x10 x11 x12 x13 x14 x15 x16 x17 x18 x19 x20 x21 x22 x23 x24, r = [x0, x1, x2, x3, x4, x5, x6, x7, x8, x9, x10, x11, x12, x13, x14, x15, x16, x17, x18, x19, x20, x21, x22, x23, x24] := match r, h with
  | [x0, x1, x2, x3, x4, x5, x6, x7, x8, x9, x10, x11, x12, x13, x14, x15, x16, x17, x18, x19, x20, x21, x22, x23, x24], _ => ⟨x0, x1, x2, x3, x4, x5, x6, x7, x8, x9, x10, x11, x12, x13, x14, x15, x16, x17, x18, x19, x20, x21, x22, x23, x24, rfl⟩
theorem len26 {α : Type} {r : List α} (h : r.length = 26) : ∃ x0 x1 x2 x3 x4 x5 x6 x7 x8 x9 x10 x11 x12 x13 x14 x15 x16 x17 x18 x19 x20 x21 x22 x23 x24 x25, r = [x0, x1, x2, x3, x4, x5, x6, x7, x8, x9, x10, x11, x12, x13, x14, x15, x16, x17, x18, x19, x20, x21, x22, x23, x24, x25] := match r, h with
  | [x0, x1, x2, x3, x4, x5, x6, x7, x8, x9, x10, x11, x12, x13, x14, x15, x16, x17, x18, x19, x20, x21, x22, x23, x24, x25], _ => ⟨x0, x1, x2, x3, x4, x5, x6, x7, x8, x9, x10, x11, x12, x13, x14, x15, x16, x17, x18, x19, x20, x21, x22, x23, x24, x25, rfl⟩
theorem len27 {α : Type} {r : List α} (h : r.length = 27) : ∃ x0 x1 x2 x3 x4 x5 x6 x7 x8 x9 x10 x11 x12 x13 x14 x15 x16 x17 x18 x19 x20 x21 x22 x23 x24 x25 x26, r = [x0, x1, x2, x3, x4, x5, x6, x7, x8, x9, x10, x11, x12, x13, x14, x15, x16, x17, x18, x19, x20, x21, x22, x23, x24, x25, x26] := match r, h with
  | [x0, x1, x2, x3, x4, x5, x6, x7, x8, x9, x10, x11, x12, x13, x14, x15, x16, x17, x18, x19, x20, x21, x22, x23, x24, x25, x26], _ => ⟨x0, x1, x2, x3, x4, x5, x6, x7, x8, x9, x10, x11, x12, x13, x14, x15, x16, x17, x18, x19, x20, x21, x22, x23, x24, x25, x26, rfl⟩
theorem len28 {α : Type} {r : List α} (h : r.length = 28) : ∃ x0 x1 x2 x3 x4 x5 x6 x7 x8 x9 x10 x11 x12 x13 x14 x15 x16 x17 x18 x19 x20 x21 x22 x23 x24 x25 x26 x27, r = [x0, x1, x2, x3, x4, x5, x6, x7, x8, x9, x10, x11, x12, x13, x14, x15, x16, x17, x18, x19, x20, x21, x22, x23, x24, x25, x26, x27] := match r, h with
  | [x0, x1, x2, x3, x4, x5, x6, x7, x8, x9, x10, x11, x12, x13, x14, x15, x16, x17, x18, x19, x20, x21, x22, x23, x24, x25, x26, x27], _ => ⟨x0, x1, x2, x3, x4, x5, x6, x7, x8, x9, x10, x11, x12, x13, x14, x15, x16, x17, x18, x19, x20, x21, x22, x23, x24, x25, x26, x27, rfl⟩
theorem len29 {α : Type} {r : List α} (h : r.length = 29) : ∃ x0 x1 x2 x3 x4 x5 x6 x7 x8 x9 x10 x11 x12 x13 x14 x15 x16 x17 x18 x19 x20 x21 x22 x23 x24 x25 x26 x27 x28, r = [x0, x1, x2, x3, x4, x5, x6, x7, x8, x9, x10, x11, x12, x13, x14, x15, x16, x17, x18, x19, x20, x21, x22, x23, x24, x25, x26, x27, x28] := match r, h with
  | [x0, x1, x2, x3, x4, x5, x6, x7, x8, x9, x10, x11, x12, x13, x14, x15, x16, x17, x18, x19, x20, x21, x22, x23, x24, x25, x26, x27, x28], _ => ⟨x0, x1, x2, x3, x4, x5, x6, x7, x8, x9, x10, x11, x12, x13, x14, x15, x16, x17, x18, x19, x20, x21, x22, x23, x24, x25, x26, x27, x28, rfl⟩
theorem len30 {α : Type} {r : List α} (h : r.length = 30) : ∃ x0 x1 x2 x3 x4 x5 x6 x7 x8 x9 x10 x11 x12 x13 x14 x15 x16 x17 x18 x19 x20 x21 x22 x23 x24 x25 x26 x27 x28 x29, r = [x0, x1, x2, x3, x4, x5, x6, x7, x8, x9, x10, x11, x12, x13, x14, x15, x16, x17, x18, x19, x20, x21, x22, x23, x24, x25, x26, x27, x28, x29] := match r, h with
  | [x0, x1, x2, x3, x4, x5, x6, x7, x8, x9, x10, x11, x12, x13, x14, x15, x16, x17, x18, x19, x20, x21, x22, x23, x24, x25, x26, x27, x28, x29], _ => ⟨x0, x1, x2, x3, x4, x5, x6, x7, x8, x9, x10, x11, x12, x13, x14, x15, x16, x17, x18, x19, x20, x21, x22, x23, x24, x25, x26, x27, x28, x29, rfl⟩
theorem Sx.start (H : Hp) : Sx H [] H := ⟨Same.refl H, fun _ h => (by cases h), List.nodup_nil⟩
/-- one shape of ten slots -/
theorem slots {σ : L2.St} {x : Option V} {n : Nat} (h : σ.length = n + 1) (h0 : σ[0]? = some x) : ∃ r : List (Option V), r.length = n ∧ σ = x :: r := by
  cases σ with
  | nil => simp at h
  | cons y r =>
    simp at h h0
    exact ⟨r, h, by rw [h0]⟩
end Fk

namespace Fk
open PySem PySem.Spec PyProof.Rows L2
/-! ## one step, found by its head -/
class VC (g : Prop) (s : outParam Prop) : Prop where
  pf : s → g
class MpC (vs : List (Str × Nat)) (ns : outParam (List Nat)) : Prop where
  pf : vs.map (·.2) = ns
instance mp0 : MpC [] [] := ⟨rfl⟩
instance mpS {x : Str} {n : Nat} {vs : List (Str × Nat)} {ns : List Nat} [h : MpC vs ns] : MpC ((x, n) :: vs) (n :: ns) := ⟨by rw [List.map_cons, h.pf]⟩
class Nth (σ : L2.St) (i : Nat) (v : outParam V) : Prop where
  pf : σ[i]? = some (some v)
instance nth0 {v : V} {σ : L2.St} : Nth (some v :: σ) 0 v := ⟨rfl⟩
instance nthS {v : V} {x : Option V} {σ : L2.St} {i : Nat} [h : Nth σ i v] : Nth (x :: σ) (i + 1) v := ⟨by simpa using h.pf⟩
section
variable {σ σ' : L2.St} {D D' H : Hp} {L : Own} {Q : VK} {K : PySem.W.Frag} {E : Ends} {nx bk ct : L2.St → Hp → Prop} {rt : VK} {t u : TS} {te ta tb tc : TE} {tu tv : TT} {v : V} {q : Bool → Hp → Prop}
instance v_seq : VC (tSeq t u ⟨nx, rt, bk, ct⟩ σ H) (t ⟨u ⟨nx, rt, bk, ct⟩, rt, bk, ct⟩ σ H) := ⟨fun h => h⟩
instance v_next : VC (tNext ⟨nx, rt, bk, ct⟩ σ H) (nx σ H) := ⟨fun h => h⟩
instance v_brk : VC (tBreak ⟨nx, rt, bk, ct⟩ σ H) (bk σ H) := ⟨fun h => h⟩
instance v_asg {g : TG} : VC (tAsg te g ⟨nx, rt, bk, ct⟩ σ H) (te σ H fun x H1 => g x σ H1 nx) := ⟨fun h => h⟩
instance v_drop : VC (tDrop te ⟨nx, rt, bk, ct⟩ σ H) (te σ H fun _ H1 => nx σ H1) := ⟨fun h => h⟩
instance v_ret : VC (tRet te ⟨nx, rt, bk, ct⟩ σ H) (te σ H rt) := ⟨fun h => h⟩
instance v_retN : VC (tRetN ⟨nx, rt, bk, ct⟩ σ H) (rt .non H) := ⟨fun h => h⟩
instance v_if : VC (tIfS tu t u E σ H) (tu σ H fun b H1 => if b = true then t E σ H1 else u E σ H1) := ⟨fun h => h⟩
instance v_for {wi : TI} {g : TG} : VC (tFor wi g t E σ H) (wi σ H fun J H1 => tForJ J g t E σ H1) := ⟨fun h => h⟩
instance v_var {i : Nat} [h : Nth σ i v] : VC (tVar i σ H Q) (Q v H) := ⟨fun k => ⟨v, h.pf, k⟩⟩
instance v_c : VC (tC v σ H Q) (Q v H) := ⟨fun h => h⟩
instance v_op {r : R2} : VC (tOp r ta tb σ H Q) (ta σ H fun x H1 => tb σ H1 fun y H2 => r x y H2 Q) := ⟨fun h => h⟩
instance v_un {r : V → Hp → VK → Prop} : VC (tUn r ta σ H Q) (ta σ H fun x H1 => r x H1 Q) := ⟨fun h => h⟩
instance v_ife : VC (tIf tu ta tb σ H Q) (tu σ H fun b H1 => if b = true then ta σ H1 Q else tb σ H1 Q) := ⟨fun h => h⟩
instance v_nil {p : List V → Hp → Prop} : VC (tNil σ H p) (p [] H) := ⟨fun h => h⟩
instance v_cons {tr : TA} {p : List V → Hp → Prop} : VC (tCons ta tr σ H p) (ta σ H fun x H1 => tr σ H1 fun xs H2 => p (x :: xs) H2) := ⟨fun h => h⟩
instance v_cb {r : List V → Hp → VK → Prop} {tr : TA} : VC (tCB r tr σ H Q) (tr σ H fun vs H1 => r vs H1 Q) := ⟨fun h => h⟩
instance v_ckw {r : List V → List V → Hp → VK → Prop} {tr tk : TA} : VC (tCKw r tr tk σ H Q) (tr σ H fun vs H1 => tk σ H1 fun zs H2 => r vs zs H2 Q) := ⟨fun h => h⟩
instance v_call {sp : Sp} {Ex : XK} {tr : TA} : VC (tCall sp [] Ex tr σ H Q) (tr σ H fun vs H1 => sp vs H1 Q Ex) := ⟨fun h => by
  have e : (fun vs H1 => sp (vs ++ []) H1 Q Ex) = fun vs H1 => sp vs H1 Q Ex := by
    funext vs H1
    rw [List.append_nil]
  show tr σ H fun vs H1 => sp (vs ++ []) H1 Q Ex
  rw [e]
  exact h⟩
instance v_tup {tr : TA} : VC (tTup tr σ H Q) (tr σ H fun xs H1 => NwT xs H1 Q) := ⟨fun h => h⟩
instance v_lst {tr : TA} : VC (tLst tr σ H Q) (tr σ H fun xs H1 => NwL xs H1 Q) := ⟨fun h => h⟩
instance v_sl {r : V → Option Int → Option Int → Hp → VK → Prop} {tl th : L2.St → Hp → (Option Int → Hp → Prop) → Prop} : VC (tSl r te tl th σ H Q) (te σ H fun x H1 => tl σ H1 fun lo H2 => th σ H2 fun hi H3 => r x lo hi H3 Q) := ⟨fun h => h⟩
instance v_pt0 {p : Option Int → Hp → Prop} : VC (tNoPart σ H p) (p none H) := ⟨fun h => h⟩
instance v_pt {p : Option Int → Hp → Prop} : VC (tPart te σ H p) (te σ H fun x H1 => IsI x H1 fun i H2 => p (some i) H2) := ⟨fun h => h⟩
instance v_isint {i : Int} {p : Int → Hp → Prop} : VC (IsI (.int i) H p) (p i H) := ⟨fun h => ⟨i, rfl, h⟩⟩
instance v_isbl {b : Bool} : VC (IsB (.bl b) H q) (q b H) := ⟨fun h => ⟨b, rfl, h⟩⟩
instance v_bm {T : String} {r : V → List V → Hp → VK → Prop} {tr : TA} : VC (tBM K T r te tr σ H Q) (te σ H fun x H1 => tyV K T x H1 ∧ tr σ H1 fun xs H2 => r x xs H2 Q) := ⟨fun h => h⟩
instance v_bm0 {T : String} {r : V → List V → Hp → VK → Prop} : VC (tBM0 K T r te σ H Q) (te σ H fun x H1 => tyV K T x H1 ∧ r x [] H1 Q) := ⟨fun h => h⟩
instance v_test : VC (tTest te σ H q) (te σ H fun x H' => IsB x H' q) := ⟨fun h => h⟩
instance v_b : VC (tB te σ H q) (te σ H fun x H' => IsB x H' q) := ⟨fun h => h⟩
instance v_and : VC (tAnd tu tv σ H q) (tu σ H fun c H1 => if c = true then tv σ H1 q else q false H1) := ⟨fun h => h⟩
instance v_or : VC (tOr tu tv σ H q) (tu σ H fun c H1 => if c = true then q true H1 else tv σ H1 q) := ⟨fun h => h⟩
instance v_not : VC (tNot tu σ H q) (tu σ H fun c H1 => q (!c) H1) := ⟨fun h => h⟩
instance v_notT : VC (tNotT K ta σ H Q) (ta σ H fun x H1 => Tru K x H1 fun k H2 => Q (.bl (!k)) H2) := ⟨fun h => h⟩
instance v_andV : VC (tAndV ta tb σ H Q) (ta σ H fun x H1 => IsB x H1 fun c H2 => if c = true then tb σ H2 Q else Q (.bl false) H2) := ⟨fun h => h⟩
instance v_orV : VC (tOrV ta tb σ H Q) (ta σ H fun x H1 => IsB x H1 fun c H2 => if c = true then Q (.bl true) H2 else tb σ H2 Q) := ⟨fun h => h⟩
instance v_notV : VC (tNotV ta σ H Q) (ta σ H fun x H1 => IsB x H1 fun c H2 => Q (.bl (!c)) H2) := ⟨fun h => h⟩
instance v_chain {r r' : R2} : VC (tChain r r' ta tb tc σ H Q) (ta σ H fun x H1 => tb σ H1 fun y H2 => r x y H2 fun z H3 => IsB z H3 fun k H4 => if k = true then tc σ H4 fun w' H5 => r' y w' H5 Q else Q (.bl false) H4) := ⟨fun h => h⟩
instance v_trubl {b : Bool} : VC (Tru K (.bl b) H q) (q b H) := ⟨fun h => ⟨b, rfl, h⟩⟩
instance v_truint {i : Int} : VC (Tru K (.int i) H q) (q (i != 0) H) := ⟨fun h => ⟨_, rfl, h⟩⟩
instance v_trunon : VC (Tru K .non H q) (q false H) := ⟨fun h => ⟨_, rfl, h⟩⟩
instance v_yes : VC (tYes σ H q) (q true H) := ⟨fun h => h⟩
instance v_ift {A B : Prop} {i : Decidable (true = true)} : VC (@ite Prop (true = true) i A B) A := ⟨fun h => by rw [if_pos rfl]; exact h⟩
instance v_iff {A B : Prop} {i : Decidable (false = true)} : VC (@ite Prop (false = true) i A B) B := ⟨fun h => by rw [if_neg (fun z => nomatch z)]; exact h⟩
instance v_ifnt {A B : Prop} {i : Decidable ((!true) = true)} : VC (@ite Prop ((!true) = true) i A B) B := ⟨fun h => by rw [if_neg (fun z => nomatch z)]; exact h⟩
instance v_ifnf {A B : Prop} {i : Decidable ((!false) = true)} : VC (@ite Prop ((!false) = true) i A B) A := ⟨fun h => by rw [if_pos (show (!false) = true from rfl)]; exact h⟩
/-- a thing is itself -/
instance v_ifnr {α : Type} {a : α} [DecidableEq α] {A B : Prop} {i : Decidable ((!decide (a = a)) = true)} : VC (@ite Prop ((!decide (a = a)) = true) i A B) B := ⟨fun h => by rw [if_neg (by rw [decide_eq_true rfl]; exact fun z => nomatch z)]; exact h⟩
instance v_ifr {α : Type} {a : α} [DecidableEq α] {A B : Prop} {i : Decidable (decide (a = a) = true)} : VC (@ite Prop (decide (a = a) = true) i A B) A := ⟨fun h => by rw [if_pos (decide_eq_true rfl)]; exact h⟩
/-! values -/
instance v_i0 {g : Int → Int → V} {i j : Int} : VC (rI0 g (.int i) (.int j) H Q) (Q (g i j) H) := ⟨fun k => ⟨i, j, rfl, rfl, k⟩⟩
instance v_ri {C : Int → Int → Prop} {g : Int → Int → V} {i j : Int} : VC (rI C g (.int i) (.int j) H Q) (C i j ∧ Q (g i j) H) := ⟨fun k => ⟨i, j, rfl, rfl, k⟩⟩
instance v_pow_10_60 : VC (rI CPow (fun i j => .int (i ^ j.toNat)) (.int 10) (.int 60) H Q) (Q (.int 1000000000000000000000000000000000000000000000000000000000000) H) := ⟨fun k => ⟨10, 60, rfl, rfl, ⟨by decide, by decide, by decide⟩, k⟩⟩
instance v_pow_10_18 : VC (rI CPow (fun i j => .int (i ^ j.toNat)) (.int 10) (.int 18) H Q) (Q (.int 1000000000000000000) H) := ⟨fun k => ⟨10, 18, rfl, rfl, ⟨by decide, by decide, by decide⟩, k⟩⟩
instance v_pow_10_20 : VC (rI CPow (fun i j => .int (i ^ j.toNat)) (.int 10) (.int 20) H Q) (Q (.int 100000000000000000000) H) := ⟨fun k => ⟨10, 20, rfl, rfl, ⟨by decide, by decide, by decide⟩, k⟩⟩
instance v_pow_10_12 : VC (rI CPow (fun i j => .int (i ^ j.toNat)) (.int 10) (.int 12) H Q) (Q (.int 1000000000000) H) := ⟨fun k => ⟨10, 12, rfl, rfl, ⟨by decide, by decide, by decide⟩, k⟩⟩
instance v_pow_10_30 : VC (rI CPow (fun i j => .int (i ^ j.toNat)) (.int 10) (.int 30) H Q) (Q (.int 1000000000000000000000000000000) H) := ⟨fun k => ⟨10, 30, rfl, rfl, ⟨by decide, by decide, by decide⟩, k⟩⟩
instance v_pow_10_59 : VC (rI CPow (fun i j => .int (i ^ j.toNat)) (.int 10) (.int 59) H Q) (Q (.int 100000000000000000000000000000000000000000000000000000000000) H) := ⟨fun k => ⟨10, 59, rfl, rfl, ⟨by decide, by decide, by decide⟩, k⟩⟩
instance v_pow_10_10 : VC (rI CPow (fun i j => .int (i ^ j.toNat)) (.int 10) (.int 10) H Q) (Q (.int 10000000000) H) := ⟨fun k => ⟨10, 10, rfl, rfl, ⟨by decide, by decide, by decide⟩, k⟩⟩
instance v_pow_10_9 : VC (rI CPow (fun i j => .int (i ^ j.toNat)) (.int 10) (.int 9) H Q) (Q (.int 1000000000) H) := ⟨fun k => ⟨10, 9, rfl, rfl, ⟨by decide, by decide, by decide⟩, k⟩⟩
instance v_pow_10_6 : VC (rI CPow (fun i j => .int (i ^ j.toNat)) (.int 10) (.int 6) H Q) (Q (.int 1000000) H) := ⟨fun k => ⟨10, 6, rfl, rfl, ⟨by decide, by decide, by decide⟩, k⟩⟩
instance v_pow_2_31 : VC (rI CPow (fun i j => .int (i ^ j.toNat)) (.int 2) (.int 31) H Q) (Q (.int 2147483648) H) := ⟨fun k => ⟨2, 31, rfl, rfl, ⟨by decide, by decide, by decide⟩, k⟩⟩
instance v_u {g : Int → V} {i : Int} : VC (rU g (.int i) H Q) (Q (g i) H) := ⟨fun k => ⟨i, rfl, k⟩⟩
instance v_addI {i j : Int} : VC (rAddX K (.int i) (.int j) H Q) (Q (.int (i + j)) H) := ⟨r_addI⟩
def MulOk (i j : Int) : Prop := (-18446744073709551616 < i ∧ i < 18446744073709551616) ∨ (-18446744073709551616 < j ∧ j < 18446744073709551616) ∨ CMulW i j
instance v_mulI {i j : Int} : VC (rMulY K (.int i) (.int j) H Q) (MulOk i j ∧ Q (.int (i * j)) H) := ⟨fun ⟨c, k⟩ => by
  rcases c with c | c | c
  · exact r_mul (r_mulL c k)
  · exact r_mul (r_mulR c k)
  · exact r_mul (r_mulW c k)⟩
def DivOk (i j : Int) : Prop := (0 < j ∧ j < 1073741824) ∨ CDivW i j
instance v_divI {i j : Int} : VC (rDvX (.int i) (.int j) H Q) (DivOk i j ∧ Q (.int (i / j)) H) := ⟨fun ⟨c, k⟩ => by
  rcases c with c | c
  · exact r_div c k
  · exact r_divW c k⟩
instance v_eqI {i j : Int} : VC (rEqX K (.int i) (.int j) H Q) (Q (.bl (decide (i = j))) H) := ⟨r_eqI⟩
instance v_neI {i j : Int} : VC (rNeX K (.int i) (.int j) H Q) (Q (.bl (!decide (i = j))) H) := ⟨r_neI⟩
instance v_intI {i : Int} : VC (rInt1 [.int i] H Q) (Q (.int i) H) := ⟨c_intI⟩
instance v_intB {b : Bool} : VC (rInt1 [.bl b] H Q) (Q (.int (if b then 1 else 0)) H) := ⟨c_intB⟩
instance v_abs {i : Int} : VC (rAbs [.int i] H Q) (Q (.int (if i < 0 then -i else i)) H) := ⟨c_abs⟩
instance v_max2 {i j : Int} : VC (rMax2 [.int i, .int j] H Q) (Q (.int (max i j)) H) := ⟨fun h => c_max2 (by rw [show (if j > i then j else i) = max i j by omega]; exact h)⟩
instance v_min2 {i j : Int} : VC (rMin2 [.int i, .int j] H Q) (Q (.int (min i j)) H) := ⟨fun h => c_min2 (by rw [show (if j < i then j else i) = min i j by omega]; exact h)⟩
instance v_name {i : Nat} {p : L2.St → Hp → Prop} [h : StA σ i (some v) σ'] : VC (gName i v σ H p) (p σ' H) := ⟨fun k => by have := h.pf; subst this; exact k⟩
instance v_sub {to ti : TE} {ts : TSet} {p : L2.St → Hp → Prop} : VC (gSub to ti ts v σ H p) (to σ H fun o H1 => ti σ H1 fun i H2 => ts o i v H2 fun H3 => p σ H3) := ⟨fun h => h⟩
instance v_wok {σw : L2.St} {vs : List Nat} {p : Prop} [h : Wip σ vs σw] : VC (WOk σ vs σw p) p := ⟨fun k => ⟨h.pf, k⟩⟩
instance v_seqI {R : It → Hp → Prop} : VC (iSeq K te σ H R) (te σ H fun x H1 => IsSq K x H1 R) := ⟨fun h => h⟩
instance v_rng1 {tr : TA} {R : It → Hp → Prop} : VC (iRng1 tr σ H R) (tr σ H fun vs H1 => IsR1 vs H1 R) := ⟨fun h => h⟩
instance v_rng2 {tr : TA} {R : It → Hp → Prop} : VC (iRng2 tr σ H R) (tr σ H fun vs H1 => IsR2 vs H1 R) := ⟨fun h => h⟩
instance v_r1 {j : Int} {R : It → Hp → Prop} : VC (IsR1 [.int j] H R) ((-4611686018427387904 ≤ j ∧ j < 4611686018427387904) ∧ R (Itr 0 j.toNat) H) := ⟨fun h => i_r1 h.1 h.2⟩
instance v_r2 {i j : Int} {R : It → Hp → Prop} : VC (IsR2 [.int i, .int j] H R) (((-4611686018427387904 ≤ i ∧ i < 4611686018427387904) ∧ -4611686018427387904 ≤ j ∧ j < 4611686018427387904) ∧ R (Itr i (j - i).toNat) H) := ⟨fun h => i_r2 h.1 h.2⟩
instance v_lc {wi : TI} {g : TG} {tt : TT} {vs : List (Str × Nat)} {ns : List Nat} [m : MpC vs ns] : VC (tLc wi g tt te (vs.map (·.2)) σ H Q) (wi σ H fun J H1 => tLcJ J g tt te ns σ H1 Q) := ⟨fun h => by rw [m.pf]; exact h⟩
end
theorem divW {i m : Int} (h0 : 1 ≤ m) (h1 : m ≤ 1000000000000000000000000000000000000000000000000000000000000) : DivOk i m := by
  have h2 : m.natAbs ≤ 1000000000000000000000000000000000000000000000000000000000000 := by omega
  exact .inr (wide_div (b := 200) (by omega) (Nat.lt_of_le_of_lt h2 (by decide +kernel)) (by decide) (by decide))
/-! ## while -/
theorem while_go {σ : L2.St} {H : Hp} {c : TT} {tb : TS} {nx : L2.St → Hp → Prop} {rt : VK} {bk ct : L2.St → Hp → Prop} (Pv : Nat → L2.St → Hp → Prop) (m0 : Nat) (h0 : Pv m0 σ H)
    (hs : ∀ m σ H, Pv m σ H → c σ H fun b H1 => if b = true then ∃ N : L2.St → Hp → Prop, (∀ σ' H', N σ' H' → ∃ m', m' < m ∧ Pv m' σ' H') ∧ tb ⟨N, rt, nx, N⟩ σ H1 else nx σ H1) : tWhile c tb ⟨nx, rt, bk, ct⟩ σ H :=
  ⟨Pv, ⟨m0, h0⟩, hs⟩
theorem wh_body {σ : L2.St} {H : Hp} {tb : TS} {nx : L2.St → Hp → Prop} {rt : VK} {Pv : Nat → L2.St → Hp → Prop} {m : Nat} (h : ∀ N : L2.St → Hp → Prop, (∀ m' σ' H', m' < m → Pv m' σ' H' → N σ' H') → tb ⟨N, rt, nx, N⟩ σ H) :
    ∃ N : L2.St → Hp → Prop, (∀ σ' H', N σ' H' → ∃ m', m' < m ∧ Pv m' σ' H') ∧ tb ⟨N, rt, nx, N⟩ σ H := ⟨_, fun _ _ h => h, h _ fun m' _ _ a b => ⟨m', a, b⟩⟩
/-! ## lists and tuples that are read -/
class Fi (L : Own) (a : Addr) (o : outParam HO) (n : outParam Nat) : Prop where
  pf : L[n]? = some (a, o)
instance fi0 {a : Addr} {o : HO} {L : Own} : Fi ((a, o) :: L) a o 0 := ⟨rfl⟩
instance fiS {a : Addr} {x : Addr × HO} {o : HO} {L : Own} {n : Nat} [h : Fi L a o n] : Fi (x :: L) a o (n + 1) := ⟨by simpa using h.pf⟩
class Se (L : Own) (n : Nat) (x : Addr × HO) (L' : outParam Own) : Prop where
  pf : L.set n x = L'
instance se0 {x y : Addr × HO} {L : Own} : Se (y :: L) 0 x (x :: L) := ⟨rfl⟩
instance seS {x y : Addr × HO} {L L' : Own} {n : Nat} [h : Se L n x L'] : Se (y :: L) (n + 1) x (y :: L') := ⟨by rw [List.set_cons_succ, h.pf]⟩
/-- the law's script, or the like: read only -/
class Sq (K : PySem.W.Frag) (D : Hp) (a : Addr) (xs : outParam (List V)) : Prop where
  pf : SqL K D a xs
instance sqUp {K : PySem.W.Frag} {D D' : Hp} {a : Addr} {xs : List V} [s : Sm D D'] [k : Sq K D a xs] : Sq K D' a xs := ⟨s.e.seq k.pf⟩
class Ml (D : Hp) (L : Own) (a : Addr) (xs : outParam (List V)) : Prop where
  pf : Rdl D L a xs
instance mlF {D : Hp} {L : Own} {a : Addr} {xs : List V} {n : Nat} [h : Fi L a (.lst xs) n] : Ml D L a xs := ⟨.inl ⟨n, h.pf⟩⟩
instance mlK {D : Hp} {L : Own} {a : Addr} {xs : List V} [h : Kn D a (.lst xs)] : Ml D L a xs := ⟨.inr h.pf⟩
class Sl (K : PySem.W.Frag) (D : Hp) (L : Own) (a : Addr) (xs : outParam (List V)) : Prop where
  pf : Rds K D L a xs
instance slF {K : PySem.W.Frag} {D : Hp} {L : Own} {a : Addr} {xs : List V} {n : Nat} [h : Fi L a (.lst xs) n] : Sl K D L a xs := ⟨.inl ⟨n, h.pf⟩⟩
instance slK {K : PySem.W.Frag} {D : Hp} {L : Own} {a : Addr} {xs : List V} [h : Kn D a (.lst xs)] : Sl K D L a xs := ⟨rsD h.pf⟩
instance slS {K : PySem.W.Frag} {D : Hp} {L : Own} {a : Addr} {xs : List V} [h : Sq K D a xs] : Sl K D L a xs := ⟨rsS h.pf⟩
/-- an item at a place -/
class AtC (xs : List V) (i : Int) (v : outParam V) : Prop where
  pf : atI xs i = some v
instance at0 {x : V} {r : List V} : AtC (x :: r) 0 x := ⟨atI0 rfl⟩
instance at1 {x y : V} {r : List V} : AtC (x :: y :: r) 1 y := ⟨atI1 rfl⟩
instance at2 {x y z : V} {r : List V} : AtC (x :: y :: z :: r) 2 z := ⟨atI2 rfl⟩
instance atM {α : Type} {f : α → V} {x : α} {r : List α} : AtC (List.map f (x :: r)) 0 (f x) := ⟨atI0 rfl⟩
/-- ints, truths -/
class IsC (xs : List V) (ns : outParam (List Int)) : Prop where
  pf : xs = ns.map V.int
instance isMap {ns : List Int} : IsC (ns.map V.int) ns := ⟨rfl⟩
instance isNil : IsC [] [] := ⟨rfl⟩
instance isCons {n : Int} {r : List V} {ns : List Int} [h : IsC r ns] : IsC (.int n :: r) (n :: ns) := ⟨by rw [h.pf]; rfl⟩
instance isApp {r s : List V} {ns ms : List Int} [h : IsC r ns] [k : IsC s ms] : IsC (r ++ s) (ns ++ ms) := ⟨by rw [h.pf, k.pf, List.map_append]⟩
instance isRep {n : Nat} {i : Int} : IsC (List.replicate n (V.int i)) (List.replicate n i) := ⟨by rw [List.map_replicate]⟩
class BsC (xs : List V) (bs : outParam (List Bool)) : Prop where
  pf : xs = bs.map V.bl
instance bsMap {bs : List Bool} : BsC (bs.map V.bl) bs := ⟨rfl⟩
instance bsRep {n : Nat} {b : Bool} : BsC (List.replicate n (V.bl b)) (List.replicate n b) := ⟨by rw [List.map_replicate]⟩
class LnC (xs : List V) (n : outParam Nat) : Prop where
  pf : xs.length = n
instance (priority := low) lnAny {xs : List V} : LnC xs xs.length := ⟨rfl⟩
instance lnMap {α : Type} {f : α → V} {xs : List α} : LnC (xs.map f) xs.length := ⟨List.length_map _⟩
class CuC (xs : List V) (lo hi : Option Int) (ys : outParam (List V)) : Prop where
  pf : cutV xs lo hi = ys
instance (priority := low) cuAny {xs : List V} {lo hi : Option Int} : CuC xs lo hi (cutV xs lo hi) := ⟨rfl⟩
instance (priority := low + 1) cuFrom1 {xs : List V} : CuC xs (some 1) none (xs.drop 1) := ⟨cut1 xs⟩
instance cuM1 {α : Type} {f : α → V} {xs : List α} : CuC (xs.map f) (some 1) none ((xs.drop 1).map f) := ⟨by rw [cut1, List.map_drop]⟩
class SeC (xs : List V) (i : Int) (v : V) (ys : outParam (List V)) : Prop where
  pf : xs.set i.toNat v = ys
instance (priority := low) seAny {xs : List V} {i : Int} {v : V} : SeC xs i v (xs.set i.toNat v) := ⟨rfl⟩
instance seL0 {x v : V} {r : List V} : SeC (x :: r) 0 v (v :: r) := ⟨rfl⟩
instance seL1 {x y v : V} {r : List V} : SeC (x :: y :: r) 1 v (x :: v :: r) := ⟨rfl⟩
instance seL2 {x y z v : V} {r : List V} : SeC (x :: y :: z :: r) 2 v (x :: y :: v :: r) := ⟨rfl⟩
/-- kinds -/
class TyC (K : PySem.W.Frag) (H : Hp) (v : V) (t : outParam String) : Prop where
  pf : TyX K H v (.type t)
class KiC (t n : String) (b : outParam Bool) : Prop where
  pf : kitB t n = some b
section
variable {σ σ' : L2.St} {D D' H : Hp} {L : Own} {Q : VK} {K : PySem.W.Frag}
instance tyInt {i : Int} : TyC K H (.int i) "int" := ⟨.base (.int i)⟩
instance tyBl {b : Bool} : TyC K H (.bl b) "bool" := ⟨.base (.bl b)⟩
instance tyNon : TyC K H .non "NoneType" := ⟨.base .non⟩
instance tyStr {z : Str} : TyC K H (.str z) "str" := ⟨.base (.str z)⟩
instance tyTup {a : Addr} {xs : List V} [S : Sx D L H] [k : Kn D a (.tup xs)] : TyC K H (.ref a) "tuple" := ⟨.base (.tup (S.dH _ _ k.pf))⟩
instance tyLst {a : Addr} {xs : List V} [S : Sx D L H] [k : Ml D L a xs] : TyC K H (.ref a) "list" := ⟨.base (.lst (k.pf.at S))⟩
instance v_isi {x : V} {t n : String} {b : Bool} [h : TyC K H x t] [k : KiC t n b] : VC (rIsi K [x, .ty n] H Q) (Q (.bl b) H) := ⟨isi h.pf k.pf⟩
instance v_nwl {xs : List V} [S : Sx D L H] : VC (NwL xs H Q) (xs.length ≤ 16777216 ∧ ∀ p H', Sx D ((p, .lst xs) :: L) H' → Q (.ref p) H') := ⟨fun h => nw_lst S h.1 h.2⟩
instance v_nwt {xs : List V} [S : Sx D L H] : VC (NwT xs H Q) (xs.length ≤ 16777216 ∧ ∀ p D' H', Sx D' L H' → Sm D D' → Kn D' p (.tup xs) → Q (.ref p) H') := ⟨fun h => nw_tup S h.1 fun p D' H' e k S' => h.2 p D' H' S' ⟨e⟩ ⟨k⟩⟩
instance v_cat {a b : Addr} {xs ys : List V} [S : Sx D L H] [ha : Ml D L a xs] [hb : Ml D L b ys] : VC (rAddX K (.ref a) (.ref b) H Q) (xs.length + ys.length ≤ 16777216 ∧ ∀ p H', Sx D ((p, .lst (xs ++ ys)) :: L) H' → Q (.ref p) H') := ⟨fun h => r_cat S ha.pf hb.pf h.1 h.2⟩
instance v_catT {a b : Addr} {xs ys : List V} [S : Sx D L H] [ha : Kn D a (.tup xs)] [hb : Kn D b (.tup ys)] : VC (rAddX K (.ref a) (.ref b) H Q) (xs.length + ys.length ≤ 16777216 ∧ ∀ p D' H', Sx D' L H' → Sm D D' → Kn D' p (.tup (xs ++ ys)) → Q (.ref p) H') := ⟨fun h => r_catT S ha.pf hb.pf h.1 fun p D' H' e k S' => h.2 p D' H' S' ⟨e⟩ ⟨k⟩⟩
instance v_rep {a : Addr} {x : V} {n : Int} [S : Sx D L H] [ha : Ml D L a [x]] : VC (rMulY K (.ref a) (.int n) H Q) ((-1000000 ≤ n ∧ n ≤ 1000000) ∧ ∀ p H', Sx D ((p, .lst (List.replicate n.toNat x)) :: L) H' → Q (.ref p) H') := ⟨fun h => r_mul (r_rep1 S ha.pf h.1.1 h.1.2 h.2)⟩
instance v_repT {a : Addr} {x : V} {n : Int} [S : Sx D L H] [ha : Kn D a (.tup [x])] : VC (rMulY K (.ref a) (.int n) H Q) ((1 ≤ n ∧ n ≤ 1000) ∧ ∀ p D' H', Sx D' L H' → Sm D D' → Kn D' p (.tup (List.replicate n.toNat x)) → Q (.ref p) H') := ⟨fun h => r_rep1T S ha.pf h.1.1 h.1.2 fun p D' H' e k S' => h.2 p D' H' S' ⟨e⟩ ⟨k⟩⟩
instance v_ixL {a : Addr} {xs : List V} {i : Int} {v : V} [S : Sx D L H] [ha : Sl K D L a xs] [h : AtC xs i v] : VC (rIx K (.ref a) (.int i) H Q) (Q v H) := ⟨r_ixL S ha.pf h.pf⟩
instance v_ixT {a : Addr} {xs : List V} {i : Int} {v : V} [S : Sx D L H] [ha : Kn D a (.tup xs)] [h : AtC xs i v] : VC (rIx K (.ref a) (.int i) H Q) (Q v H) := ⟨r_ixT S ha.pf h.pf⟩
instance v_slL {a : Addr} {xs ys : List V} {lo hi : Option Int} [S : Sx D L H] [ha : Sl K D L a xs] [c : CuC xs lo hi ys] : VC (rSlX K (.ref a) lo hi H Q) (∀ p H', Sx D ((p, .lst ys) :: L) H' → Q (.ref p) H') := ⟨fun h => r_slL S ha.pf (by rw [c.pf]; exact h)⟩
instance v_slT {a : Addr} {xs ys : List V} {lo hi : Option Int} [S : Sx D L H] [ha : Kn D a (.tup xs)] [c : CuC xs lo hi ys] : VC (rSlX K (.ref a) lo hi H Q) (∀ p D' H', Sx D' L H' → Sm D D' → Kn D' p (.tup ys) → Q (.ref p) H') := ⟨fun h => r_slT S ha.pf fun p D' H' e k S' => h p D' H' S' ⟨e⟩ ⟨by rw [← c.pf]; exact k⟩⟩
instance v_lenL {a : Addr} {xs : List V} {n : Nat} [S : Sx D L H] [ha : Sl K D L a xs] [l : LnC xs n] : VC (rLen K [.ref a] H Q) (Q (.int n) H) := ⟨fun h => c_lenL S ha.pf (by rw [l.pf]; exact h)⟩
instance v_lenT {a : Addr} {xs : List V} {n : Nat} [S : Sx D L H] [ha : Kn D a (.tup xs)] [l : LnC xs n] : VC (rLen K [.ref a] H Q) (Q (.int n) H) := ⟨fun h => c_lenT S ha.pf (by rw [l.pf]; exact h)⟩
instance v_tupL {a : Addr} {xs : List V} [S : Sx D L H] [ha : Sl K D L a xs] : VC (rTupOf K [.ref a] H Q) (∀ p D' H', Sx D' L H' → Sm D D' → Kn D' p (.tup xs) → Q (.ref p) H') := ⟨fun h => c_tupL S ha.pf fun p D' H' e k S' => h p D' H' S' ⟨e⟩ ⟨k⟩⟩
instance v_tupT {a : Addr} {xs : List V} [S : Sx D L H] [ha : Kn D a (.tup xs)] : VC (rTupOf K [.ref a] H Q) (Q (.ref a) H) := ⟨c_tupT S ha.pf⟩
instance v_lstL {a : Addr} {xs : List V} [S : Sx D L H] [ha : Sl K D L a xs] : VC (rLstOf K [.ref a] H Q) (∀ p H', Sx D ((p, .lst xs) :: L) H' → Q (.ref p) H') := ⟨fun h => c_lstL S ha.pf h⟩
instance v_lstT {a : Addr} {xs : List V} [S : Sx D L H] [ha : Kn D a (.tup xs)] : VC (rLstOf K [.ref a] H Q) (∀ p H', Sx D ((p, .lst xs) :: L) H' → Q (.ref p) H') := ⟨fun h => c_lstT S ha.pf h⟩
instance v_sumL {a : Addr} {xs : List V} {ns : List Int} [S : Sx D L H] [ha : Sl K D L a xs] [c : IsC xs ns] : VC (rSumX K [.ref a] H Q) (Q (.int ns.sum) H) := ⟨fun h => c_sumL S (by rw [← c.pf]; exact ha.pf) h⟩
instance v_sumT {a : Addr} {xs : List V} {ns : List Int} [S : Sx D L H] [ha : Kn D a (.tup xs)] [c : IsC xs ns] : VC (rSumX K [.ref a] H Q) (Q (.int ns.sum) H) := ⟨fun h => c_sumT S (by rw [← c.pf]; exact ha.pf) h⟩
instance v_allL {a : Addr} {xs : List V} {bs : List Bool} [S : Sx D L H] [ha : Sl K D L a xs] [c : BsC xs bs] : VC (rAll K [.ref a] H Q) (Q (.bl (bs.all id)) H) := ⟨fun h => c_all S (by rw [← c.pf]; exact ha.pf) h⟩
instance v_anyL {a : Addr} {xs : List V} {bs : List Bool} [S : Sx D L H] [ha : Sl K D L a xs] [c : BsC xs bs] : VC (rAny K [.ref a] H Q) (Q (.bl (bs.any id)) H) := ⟨fun h => c_any S (by rw [← c.pf]; exact ha.pf) h⟩
/-- all true -/
instance v_allR {a : Addr} {n : Nat} [S : Sx D L H] [ha : Sl K D L a (List.replicate n (V.bl true))] : VC (rAll K [.ref a] H Q) (Q (.bl true) H) := ⟨fun h => c_allT S ha.pf h⟩
instance v_sortL {a : Addr} {xs : List V} {ns : List Int} [S : Sx D L H] [ha : Sl K D L a xs] [c : IsC xs ns] : VC (rSortedX K [.ref a] H Q) (∀ ns' : List Int, ns'.Perm ns → ns'.Pairwise (· ≤ ·) → ∀ p H', Sx D ((p, .lst (ns'.map V.int)) :: L) H' → Q (.ref p) H') := ⟨fun h => c_sortL S (by rw [← c.pf]; exact ha.pf) fun ns' p H' h1 h2 S' => h ns' h1 h2 p H' S'⟩
instance v_sortT {a : Addr} {xs : List V} {ns : List Int} [S : Sx D L H] [ha : Kn D a (.tup xs)] [c : IsC xs ns] : VC (rSortedX K [.ref a] H Q) (∀ ns' : List Int, ns'.Perm ns → ns'.Pairwise (· ≤ ·) → ∀ p H', Sx D ((p, .lst (ns'.map V.int)) :: L) H' → Q (.ref p) H') := ⟨fun h => c_sortT S (by rw [← c.pf]; exact ha.pf) fun ns' p H' h1 h2 S' => h ns' h1 h2 p H' S'⟩
instance v_sortRL {a : Addr} {xs : List V} {ns : List Int} [S : Sx D L H] [ha : Sl K D L a xs] [c : IsC xs ns] : VC (rSortedR K [.ref a] [.bl true] H Q) (∀ ns' : List Int, ns'.Perm ns → ns'.Pairwise (· ≥ ·) → ∀ p H', Sx D ((p, .lst (ns'.map V.int)) :: L) H' → Q (.ref p) H') := ⟨fun h => c_sortRL S (by rw [← c.pf]; exact ha.pf) fun ns' p H' h1 h2 S' => h ns' h1 h2 p H' S'⟩
instance v_sortRT {a : Addr} {xs : List V} {ns : List Int} [S : Sx D L H] [ha : Kn D a (.tup xs)] [c : IsC xs ns] : VC (rSortedR K [.ref a] [.bl true] H Q) (∀ ns' : List Int, ns'.Perm ns → ns'.Pairwise (· ≥ ·) → ∀ p H', Sx D ((p, .lst (ns'.map V.int)) :: L) H' → Q (.ref p) H') := ⟨fun h => c_sortRT S (by rw [← c.pf]; exact ha.pf) fun ns' p H' h1 h2 S' => h ns' h1 h2 p H' S'⟩
instance v_ty {a : Addr} {xs : List V} {p : Prop} [S : Sx D L H] [ha : Ml D L a xs] : VC (tyV K "list" (.ref a) H ∧ p) p := ⟨mm_ty S ha.pf⟩
instance v_app {a : Addr} {xs : List V} {n : Nat} {y : V} {L' : Own} [S : Sx D L H] [h : Fi L a (.lst xs) n] [e : Se L n (a, .lst (xs ++ [y])) L'] : VC (rAppend (.ref a) [y] H Q) (xs.length < 16777216 ∧ ∀ H', Sx D L' H' → Q .non H') := ⟨fun k => m_app S h.pf k.1 e.pf k.2⟩
instance v_set {a : Addr} {xs ys : List V} {i : Int} {n : Nat} {v : V} {L' : Own} {q : Hp → Prop} [S : Sx D L H] [h : Fi L a (.lst xs) n] [c : SeC xs i v ys] [e : Se L n (a, .lst ys) L'] : VC (rSetL (.ref a) (.int i) v H q) ((0 ≤ i ∧ i.toNat < xs.length) ∧ ∀ H', Sx D L' H' → q H') := ⟨fun k => p_set S h.pf k.1.1 k.1.2 (by rw [c.pf]; exact e.pf) k.2⟩
instance v_sqL {a : Addr} {xs : List V} {R : It → Hp → Prop} [S : Sx D L H] [ha : Sl K D L a xs] : VC (IsSq K (.ref a) H R) (R (Itl K a) H) := ⟨i_isL S ha.pf⟩
instance v_sqT {a : Addr} {xs : List V} {R : It → Hp → Prop} [S : Sx D L H] [ha : Kn D a (.tup xs)] : VC (IsSq K (.ref a) H R) (R (Itt K a) H) := ⟨i_isT S ha.pf⟩
instance v_eqTT {a b : Addr} {us ws : List V} {xs ys : List Int} [S : Sx D L H] [ha : Kn D a (.tup us)] [hb : Kn D b (.tup ws)] [c : IsC us xs] [d : IsC ws ys] : VC (rEqX K (.ref a) (.ref b) H Q) (Q (.bl (decide (xs = ys))) H) := ⟨r_eqTT S (by rw [← c.pf]; exact ha.pf) (by rw [← d.pf]; exact hb.pf)⟩
instance v_neTT {a b : Addr} {us ws : List V} {xs ys : List Int} [S : Sx D L H] [ha : Kn D a (.tup us)] [hb : Kn D b (.tup ws)] [c : IsC us xs] [d : IsC ws ys] : VC (rNeX K (.ref a) (.ref b) H Q) (Q (.bl (!decide (xs = ys))) H) := ⟨r_neTT S (by rw [← c.pf]; exact ha.pf) (by rw [← d.pf]; exact hb.pf)⟩
instance v_eqLL {a b : Addr} {us ws : List V} {xs ys : List Int} [S : Sx D L H] [ha : Sl K D L a us] [hb : Sl K D L b ws] [c : IsC us xs] [d : IsC ws ys] : VC (rEqX K (.ref a) (.ref b) H Q) (Q (.bl (decide (xs = ys))) H) := ⟨r_eqLL S (by rw [← c.pf]; exact ha.pf) (by rw [← d.pf]; exact hb.pf)⟩
instance v_neLL {a b : Addr} {us ws : List V} {xs ys : List Int} [S : Sx D L H] [ha : Sl K D L a us] [hb : Sl K D L b ws] [c : IsC us xs] [d : IsC ws ys] : VC (rNeX K (.ref a) (.ref b) H Q) (Q (.bl (!decide (xs = ys))) H) := ⟨r_neLL S (by rw [← c.pf]; exact ha.pf) (by rw [← d.pf]; exact hb.pf)⟩
/-- what is no more asked of is left -/
class Sub (L2 L1 : Own) : Prop where
  pf : L2.Sublist L1
instance subRefl {L : Own} : Sub L L := ⟨List.Sublist.refl _⟩
instance (priority := low) subDrop {x : Addr × HO} {L M : Own} [h : Sub M L] : Sub M (x :: L) := ⟨h.pf.cons x⟩
instance subKeep {x : Addr × HO} {L M : Own} [h : Sub M L] : Sub (x :: M) (x :: L) := ⟨h.pf.cons_cons x⟩
class Er (L : Own) (n : Nat) (L' : outParam Own) : Prop where
  pf : L.eraseIdx n = L'
instance er0 {x : Addr × HO} {L : Own} : Er (x :: L) 0 L := ⟨rfl⟩
instance erS {x : Addr × HO} {L L' : Own} {n : Nat} [h : Er L n L'] : Er (x :: L) (n + 1) (x :: L') := ⟨by rw [List.eraseIdx_cons_succ, h.pf]⟩
theorem perm_front {α : Type} : ∀ {L : List α} {n : Nat} {x : α}, L[n]? = some x → L.Perm (x :: L.eraseIdx n)
  | [], _, _, h => by simp at h
  | y :: L, 0, x, h => by
    simp at h
    subst h
    exact List.Perm.refl _
  | y :: L, n + 1, x, h => by
    have ih := perm_front (L := L) (n := n) (x := x) (by simpa using h)
    rw [List.eraseIdx_cons_succ]
    exact (ih.cons y).trans (List.Perm.swap x y _)
/-- one thing in front -/
theorem Sx.front {a : Addr} {o : HO} {L1 L' : Own} {n : Nat} [S : Sx D L1 H] [h : Fi L1 a o n] [e : Er L1 n L'] : Sx D ((a, o) :: L') H := S.perm (by rw [← e.pf]; exact perm_front h.pf)
/-- my list is fixed from now on -/
theorem Sx.fix1 {a : Addr} {o : HO} {L1 L' : Own} {n : Nat} [S : Sx D L1 H] [h : Fi L1 a o n] [e : Er L1 n L'] : ∃ D', Sm D D' ∧ Kn D' a o ∧ Sx D' L' H :=
  ⟨_, ⟨same_upd (S.off h.pf)⟩, ⟨upd_same⟩, by have := S.frz h.pf; rw [e.pf] at this; exact this⟩
theorem Sx.gc {L1 : Own} [S : Sx D L1 H] [s : Sub L L1] : Sx D L H := ⟨S.dH, fun q hq => S.ow q (s.pf.subset hq), S.nd.sublist (s.pf.map _)⟩
end
instance ki_int_int : KiC "int" "int" true := ⟨by decide +kernel⟩
instance ki_int_bool : KiC "int" "bool" false := ⟨by decide +kernel⟩
instance ki_int_str : KiC "int" "str" false := ⟨by decide +kernel⟩
instance ki_int_list : KiC "int" "list" false := ⟨by decide +kernel⟩
instance ki_int_tuple : KiC "int" "tuple" false := ⟨by decide +kernel⟩
instance ki_int_dict : KiC "int" "dict" false := ⟨by decide +kernel⟩
instance ki_bool_int : KiC "bool" "int" true := ⟨by decide +kernel⟩
instance ki_bool_bool : KiC "bool" "bool" true := ⟨by decide +kernel⟩
instance ki_bool_str : KiC "bool" "str" false := ⟨by decide +kernel⟩
instance ki_bool_list : KiC "bool" "list" false := ⟨by decide +kernel⟩
instance ki_bool_tuple : KiC "bool" "tuple" false := ⟨by decide +kernel⟩
instance ki_bool_dict : KiC "bool" "dict" false := ⟨by decide +kernel⟩
instance ki_str_int : KiC "str" "int" false := ⟨by decide +kernel⟩
instance ki_str_bool : KiC "str" "bool" false := ⟨by decide +kernel⟩
instance ki_str_str : KiC "str" "str" true := ⟨by decide +kernel⟩
instance ki_str_list : KiC "str" "list" false := ⟨by decide +kernel⟩
instance ki_str_tuple : KiC "str" "tuple" false := ⟨by decide +kernel⟩
instance ki_str_dict : KiC "str" "dict" false := ⟨by decide +kernel⟩
instance ki_list_int : KiC "list" "int" false := ⟨by decide +kernel⟩
instance ki_list_bool : KiC "list" "bool" false := ⟨by decide +kernel⟩
instance ki_list_str : KiC "list" "str" false := ⟨by decide +kernel⟩
instance ki_list_list : KiC "list" "list" true := ⟨by decide +kernel⟩
instance ki_list_tuple : KiC "list" "tuple" false := ⟨by decide +kernel⟩
instance ki_list_dict : KiC "list" "dict" false := ⟨by decide +kernel⟩
instance ki_tuple_int : KiC "tuple" "int" false := ⟨by decide +kernel⟩
instance ki_tuple_bool : KiC "tuple" "bool" false := ⟨by decide +kernel⟩
instance ki_tuple_str : KiC "tuple" "str" false := ⟨by decide +kernel⟩
instance ki_tuple_list : KiC "tuple" "list" false := ⟨by decide +kernel⟩
instance ki_tuple_tuple : KiC "tuple" "tuple" true := ⟨by decide +kernel⟩
instance ki_tuple_dict : KiC "tuple" "dict" false := ⟨by decide +kernel⟩
instance ki_dict_int : KiC "dict" "int" false := ⟨by decide +kernel⟩
instance ki_dict_bool : KiC "dict" "bool" false := ⟨by decide +kernel⟩
instance ki_dict_str : KiC "dict" "str" false := ⟨by decide +kernel⟩
instance ki_dict_list : KiC "dict" "list" false := ⟨by decide +kernel⟩
instance ki_dict_tuple : KiC "dict" "tuple" false := ⟨by decide +kernel⟩
instance ki_dict_dict : KiC "dict" "dict" true := ⟨by decide +kernel⟩
instance ki_NoneType_int : KiC "NoneType" "int" false := ⟨by decide +kernel⟩
instance ki_NoneType_bool : KiC "NoneType" "bool" false := ⟨by decide +kernel⟩
instance ki_NoneType_str : KiC "NoneType" "str" false := ⟨by decide +kernel⟩
instance ki_NoneType_list : KiC "NoneType" "list" false := ⟨by decide +kernel⟩
instance ki_NoneType_tuple : KiC "NoneType" "tuple" false := ⟨by decide +kernel⟩
instance ki_NoneType_dict : KiC "NoneType" "dict" false := ⟨by decide +kernel⟩
end Fk

namespace Fk
open PySem PySem.Spec PyProof.Rows L2
/-! ## zip, enumerate, pairs -/
section
variable {X : Cx}
theorem pi_zipK (K : PySem.W.Frag) {e e2 : Expr} {ta : TA} {p pos tpos : Pos} {elts : List Expr} {kk : Nat} (hg : Gl X "zip") (hm : X.mg "zip" = none) (ha : PA X [e, e2] ta) (hK : X.K = K := by rfl)
    (hs : starEach [e, e2] X.env = (false, eval e X.env) :: starEach [e2] X.env := by rfl) (hpl : (backTo pos (starEach [e2] X.env)).any (·.1) = false := by rfl) :
    PI X (.Tuple elts kk tpos) (.Call (.Name "zip" p) [e, e2] [] pos) (RZ.iZipA K ta) := by subst hK; exact RZ.pi_zipA hg hm ha hs hpl
theorem pi_enumK (K : PySem.W.Frag) {e : Expr} {ta : TA} {p pos tpos : Pos} {elts : List Expr} {kk : Nat} (hg : Gl X "enumerate") (hm : X.mg "enumerate" = none) (ha : PA X [e] ta) (hK : X.K = K := by rfl) (hs : starEach [e] X.env = [(false, eval e X.env)] := by rfl) :
    PI X (.Tuple elts kk tpos) (.Call (.Name "enumerate" p) [e] [] pos) (iEnum K ta) := by subst hK; exact pi_enum hg hm ha hs
end
def IsZ (K : PySem.W.Frag) (vs : List V) (H1 : Hp) (R : It → Hp → Prop) : Prop := ∃ a b xs ys, vs = [.ref a, .ref b] ∧ ((SqL K H1 a xs ∧ SqL K H1 b ys ∧ R (Itz K a b) H1) ∨ (SqT K H1 a xs ∧ SqT K H1 b ys ∧ R (RZ.ItzT K a b) H1))
def IsE (K : PySem.W.Frag) (vs : List V) (H1 : Hp) (R : It → Hp → Prop) : Prop := ∃ a xs, vs = [.ref a] ∧ SqL K H1 a xs ∧ R (Ite K a) H1
theorem Sx.weak {D D' : Hp} {L : Own} {H : Hp} (S : Sx D' L H) (e : Same D D') : Sx D L H := ⟨e.trans S.dH, fun p hp => ⟨(S.ow p hp).1, e.free (S.ow p hp).2⟩, S.nd⟩
/-- less is known, less is owned -/
theorem Sx.gw {D D1 : Hp} {L L1 : Own} {H : Hp} [S : Sx D1 L1 H] [u : Up D D1] [s : Sub L L1] : Sx D L H := Sx.weak (Sx.gc (L1 := L1)) u.e
section
variable {σ σ' : L2.St} {D D' H H' : Hp} {L : Own} {Q : VK} {K : PySem.W.Frag} {q : L2.St → Hp → Prop}
instance v_zip {tr : TA} {R : It → Hp → Prop} : VC (RZ.iZipA K tr σ H R) (tr σ H fun vs H1 => IsZ K vs H1 R) := ⟨fun h => h⟩
instance v_zipL {a b : Addr} {xs ys : List V} {R : It → Hp → Prop} [S : Sx D L H] [ha : Sl K D L a xs] [hb : Sl K D L b ys] : VC (IsZ K [.ref a, .ref b] H R) (R (Itz K a b) H) := ⟨fun h => ⟨a, b, xs, ys, rfl, .inl ⟨ha.pf.sq S, hb.pf.sq S, h⟩⟩⟩
instance v_zipT {a b : Addr} {xs ys : List V} {R : It → Hp → Prop} [S : Sx D L H] [ha : Kn D a (.tup xs)] [hb : Kn D b (.tup ys)] : VC (IsZ K [.ref a, .ref b] H R) (R (RZ.ItzT K a b) H) := ⟨fun h => ⟨a, b, xs, ys, rfl, .inr ⟨sqT S ha.pf, sqT S hb.pf, h⟩⟩⟩
instance v_enum {tr : TA} {R : It → Hp → Prop} : VC (iEnum K tr σ H R) (tr σ H fun vs H1 => IsE K vs H1 R) := ⟨fun h => h⟩
instance v_enumL {a : Addr} {xs : List V} {R : It → Hp → Prop} [S : Sx D L H] [ha : Sl K D L a xs] : VC (IsE K [.ref a] H R) (R (Ite K a) H) := ⟨fun h => ⟨a, xs, rfl, ha.pf.sq S, h⟩⟩
instance v_gtup {n : Nat} {t : TGs} {a : Addr} {xs : List V} [S : Sx D L H] [k : Kn D a (.tup xs)] : VC (gTup K n t (.ref a) σ H q) (xs.length = n ∧ t xs σ H q) := ⟨fun h => ⟨a, xs, rfl, sqT S k.pf, h.1, h.2⟩⟩
instance v_gcons {t : TG} {u : TGs} {v : V} {r : List V} : VC (gCons t u (v :: r) σ H q) (t v σ H fun σ' H' => u r σ' H' q) := ⟨fun h => ⟨v, r, rfl, h⟩⟩
instance v_gnil : VC (gNil [] σ H q) (q σ H) := ⟨fun h => ⟨rfl, h⟩⟩
/-- a pair, new at each turn -/
theorem pair_step {f g : Nat → Option V} {i : Nat} {v : V} [S : Sx D L H] (y : YPair f g i H v H') : ∃ T x z D', v = .ref T ∧ f i = some x ∧ g i = some z ∧ Sm D D' ∧ Kn D' T (.tup [x, z]) ∧ Sx D' L H' := by
  obtain ⟨T, x, z, rfl, hT, rfl, h1, h2⟩ := y
  exact ⟨T, x, z, _, rfl, h1, h2, ⟨same_upd (S.dH.free hT)⟩, ⟨upd_same⟩, S.fix hT⟩
theorem walk_zipT {a b : Addr} {xs ys : List V} {n : Nat} (hn : n = min xs.length ys.length) : Walk (RZ.ItzT K a b) n (fun H => SqT K H a xs ∧ SqT K H b ys) (YPair (fun i => xs[i]?) (fun i => ys[i]?)) := by
  subst hn
  refine ⟨fun i H hi q => ?_, fun H q => ⟨xs, ys, q.1, q.2, by omega⟩, fun i H v H' hi q y => ?_⟩
  · have k1 : i < xs.length := by omega
    have k2 : i < ys.length := by omega
    exact ⟨xs, ys, xs[i], ys[i], q.1, q.2, by simp [k1], by simp [k2]⟩
  · obtain ⟨T, x, z, e1, e2, e3, e4, e5⟩ := y
    exact ⟨T, x, z, e1, e2, e3, e4 xs q.1, e5 ys q.2⟩
/-- range, plainly -/
theorem walk_rng {lo : Int} {n : Nat} : Walk (Itr lo n) n (fun _ => True) (fun i H x H' => H' = H ∧ x = .int (lo + (i : Int))) := walk_range
end
end Fk

namespace Fk
open PySem PySem.Spec PyProof.Rows L2
/-! ## insert, pop, reverse, extend; cuts -/
def rIns : V → List V → Hp → VK → Prop := fun x vs H Q => ∃ (l : Addr) (xs : List V) (i : Int) (y : V), x = .ref l ∧ vs = [.int i, y] ∧ H l = some (.lst xs) ∧ xs.length < sizeLine ∧ 0 ≤ i ∧ i < 2 ^ 63 ∧ Q .non (upd H l (.lst (xs.take i.toNat ++ [y] ++ xs.drop i.toNat)))
theorem mt_insN {X : Cx} : MtR X "list.insert" rIns := mt_insert
/-- the last item, and the others -/
class LaC (xs : List V) (y : outParam V) (ys : outParam (List V)) : Prop where
  pf : xs = ys ++ [y]
instance laApp {ys : List V} {y : V} : LaC (ys ++ [y]) y ys := ⟨rfl⟩
instance laMap {α : Type} {f : α → V} {ys : List α} {y : α} : LaC (List.map f (ys ++ [y])) (f y) (List.map f ys) := ⟨by rw [List.map_append]; rfl⟩
instance atLast {xs ys : List V} {y : V} [h : LaC xs y ys] : AtC xs (-1) y := ⟨by rw [h.pf]; exact atI_last ys y⟩
section
variable {σ σ' : L2.St} {D D' H H' : Hp} {L : Own} {Q : VK} {K : PySem.W.Frag} {q : L2.St → Hp → Prop}
instance v_ins {a : Addr} {xs : List V} {n : Nat} {i : Int} {y : V} {L' : Own} [S : Sx D L H] [h : Fi L a (.lst xs) n] [e : Se L n (a, .lst (xs.take i.toNat ++ [y] ++ xs.drop i.toNat)) L'] : VC (rIns (.ref a) [.int i, y] H Q) ((xs.length < 16777216 ∧ 0 ≤ i ∧ i < 4611686018427387904) ∧ ∀ H', Sx D L' H' → Q .non H') :=
  ⟨fun k => ⟨a, xs, i, y, rfl, rfl, S.at h.pf, k.1.1, k.1.2.1, by have := k.1.2.2; omega, k.2 _ (by have := S.put (.lst (xs.take i.toNat ++ [y] ++ xs.drop i.toNat)) h.pf; rw [e.pf] at this; exact this)⟩⟩
instance v_ins0 {a : Addr} {xs : List V} {n : Nat} {y : V} {L' : Own} [S : Sx D L H] [h : Fi L a (.lst xs) n] [e : Se L n (a, .lst (y :: xs)) L'] : VC (rIns (.ref a) [.int 0, y] H Q) (xs.length < 16777216 ∧ ∀ H', Sx D L' H' → Q .non H') :=
  ⟨fun k => ⟨a, xs, 0, y, rfl, rfl, S.at h.pf, k.1, by decide, by decide, k.2 _ (by have := S.put (.lst (y :: xs)) h.pf; rw [e.pf] at this; exact this)⟩⟩
instance v_pop {a : Addr} {xs ys : List V} {n : Nat} {y : V} {L' : Own} [S : Sx D L H] [h : Fi L a (.lst xs) n] [l : LaC xs y ys] [e : Se L n (a, .lst ys) L'] : VC (rPop (.ref a) [] H Q) (∀ H', Sx D L' H' → Q y H') := ⟨fun k => by
  obtain rfl := l.pf
  refine ⟨a, ys ++ [y], y, rfl, rfl, S.at h.pf, ?_, ?_⟩
  · rw [List.length_append, show ys.length + [y].length - 1 = ys.length by simp, List.getElem?_append_right (Nat.le_refl _), Nat.sub_self]
    rfl
  · rw [List.dropLast_concat]
    exact k _ (by have := S.put (.lst ys) h.pf; rw [e.pf] at this; exact this)⟩
instance v_rev {a : Addr} {xs : List V} {n : Nat} {L' : Own} [S : Sx D L H] [h : Fi L a (.lst xs) n] [e : Se L n (a, .lst xs.reverse) L'] : VC (rReverse (.ref a) [] H Q) (∀ H', Sx D L' H' → Q .non H') :=
  ⟨fun k => ⟨a, xs, rfl, rfl, S.at h.pf, k _ (by have := S.put (.lst xs.reverse) h.pf; rw [e.pf] at this; exact this)⟩⟩
instance v_ext {a b : Addr} {xs zs : List V} {n : Nat} {L' : Own} [S : Sx D L H] [h : Fi L a (.lst xs) n] [hb : Ml D L b zs] [e : Se L n (a, .lst (xs ++ zs)) L'] : VC (rExtend (.ref a) [.ref b] H Q) (xs.length + zs.length ≤ 16777216 ∧ ∀ H', Sx D L' H' → Q .non H') :=
  ⟨fun k => ⟨a, b, xs, zs, rfl, rfl, S.at h.pf, hb.pf.at S, k.1, k.2 _ (by have := S.put (.lst (xs ++ zs)) h.pf; rw [e.pf] at this; exact this)⟩⟩
end
theorem cut_toI {xs : List V} {i : Int} (h : 0 ≤ i) : cutV xs none (some i) = xs.take i.toNat := by
  have := cut_to xs i.toNat
  rwa [show ((i.toNat : Nat) : Int) = i from Int.toNat_of_nonneg h] at this
theorem cut_fromI {xs : List V} {i : Int} (h : 0 ≤ i) : cutV xs (some i) none = xs.drop i.toNat := by
  have := cut_from xs i.toNat
  rwa [show ((i.toNat : Nat) : Int) = i from Int.toNat_of_nonneg h] at this
end Fk

namespace Fk
open PySem PySem.Spec PyProof.Rows L2
/-! ## rows of numbers, nested -/
abbrev tI (r : List Int) : PyData := .tuple (dI r)
abbrev lI (r : List Int) : PyData := .list (dI r)
/-- fixed things that stand for data -/
class Ra (D : Hp) (vs : List V) (ds : outParam (List PyData)) : Prop where
  pf : RpAll D vs ds
instance raUp {D D' : Hp} {vs : List V} {ds : List PyData} [s : Sm D D'] [k : Ra D vs ds] : Ra D' vs ds := ⟨RpAll.up s.e k.pf⟩
theorem ra_cons {D : Hp} {vs : List V} {d : PyData} {ds : List PyData} (h : RpAll D vs (d :: ds)) : ∃ v us, vs = v :: us ∧ Rp D v d ∧ RpAll D us ds := by
  cases h with
  | cons h t => exact ⟨_, _, rfl, h, t⟩
theorem ra_consT {D : Hp} {vs : List V} {r : List Int} {rs : List (List Int)} (h : RpAll D vs ((r :: rs).map tI)) : ∃ b us, vs = .ref b :: us ∧ Kn D b (.tup (r.map V.int)) ∧ RpAll D us (rs.map tI) := by
  obtain ⟨v, us, rfl, h1, h2⟩ := ra_cons h
  obtain ⟨b, rfl, h3⟩ := h1.inv_tupI
  exact ⟨b, us, rfl, ⟨h3⟩, h2⟩
theorem ra_consL {D : Hp} {vs : List V} {r : List Int} {rs : List (List Int)} (h : RpAll D vs ((r :: rs).map lI)) : ∃ b us, vs = .ref b :: us ∧ Kn D b (.lst (r.map V.int)) ∧ RpAll D us (rs.map lI) := by
  obtain ⟨v, us, rfl, h1, h2⟩ := ra_cons h
  obtain ⟨b, rfl, h3⟩ := h1.inv_lstI
  exact ⟨b, us, rfl, ⟨h3⟩, h2⟩
theorem ra_getT {D : Hp} {vs : List V} {rs : List (List Int)} {i : Nat} {v : V} (h : RpAll D vs (rs.map tI)) (hv : vs[i]? = some v) : ∃ b r, v = .ref b ∧ rs[i]? = some r ∧ Kn D b (.tup (r.map V.int)) := by
  obtain ⟨d, h1, h2⟩ := RpAll.getV h hv
  rw [List.getElem?_map] at h1
  cases e : rs[i]? with
  | none => rw [e] at h1; cases h1
  | some r =>
    rw [e] at h1
    cases h1
    obtain ⟨b, rfl, h3⟩ := h2.inv_tupI
    exact ⟨b, r, rfl, rfl, ⟨h3⟩⟩
theorem ra_getL {D : Hp} {vs : List V} {rs : List (List Int)} {i : Nat} {v : V} (h : RpAll D vs (rs.map lI)) (hv : vs[i]? = some v) : ∃ b r, v = .ref b ∧ rs[i]? = some r ∧ Kn D b (.lst (r.map V.int)) := by
  obtain ⟨d, h1, h2⟩ := RpAll.getV h hv
  rw [List.getElem?_map] at h1
  cases e : rs[i]? with
  | none => rw [e] at h1; cases h1
  | some r =>
    rw [e] at h1
    cases h1
    obtain ⟨b, rfl, h3⟩ := h2.inv_lstI
    exact ⟨b, r, rfl, rfl, ⟨h3⟩⟩
theorem ra_oneT {D : Hp} {b : Addr} {r : List Int} [k : Kn D b (.tup (r.map V.int))] : RpAll D [.ref b] ([r].map tI) := .cons (.tupI k.pf) .nil
theorem ra_oneL {D : Hp} {b : Addr} {r : List Int} [k : Kn D b (.lst (r.map V.int))] : RpAll D [.ref b] ([r].map lI) := .cons (.lstI k.pf) .nil
theorem ra_drop {D : Hp} : ∀ {vs : List V} {ds : List PyData} (n : Nat), RpAll D vs ds → RpAll D (vs.drop n) (ds.drop n)
  | _, _, 0, h => h
  | _, _, _ + 1, .nil => .nil
  | _, _, n + 1, .cons _ t => ra_drop n t
theorem ra_take {D : Hp} : ∀ {vs : List V} {ds : List PyData} (n : Nat), RpAll D vs ds → RpAll D (vs.take n) (ds.take n)
  | _, _, 0, _ => .nil
  | _, _, _ + 1, .nil => .nil
  | _, _, n + 1, .cons h t => .cons h (ra_take n t)
theorem ra_rep {D : Hp} {v : V} {d : PyData} (h : Rp D v d) : ∀ n : Nat, RpAll D (List.replicate n v) (List.replicate n d)
  | 0 => .nil
  | n + 1 => .cons h (ra_rep h n)
/-! equality -/
theorem sh_TT (xss : List (List Int)) : SeqAt.shaped (.tuple (xss.map tI)) = true := (Sh.tup (n := 1) fun d hd => by
  obtain ⟨r, _, rfl⟩ := List.mem_map.mp hd
  exact Sh.tup (n := 0) Sh.ints).ok
theorem sh_LL (xss : List (List Int)) : SeqAt.shaped (.list (xss.map lI)) = true := (Sh.list (n := 1) fun d hd => by
  obtain ⟨r, _, rfl⟩ := List.mem_map.mp hd
  exact Sh.list (n := 0) Sh.ints).ok
theorem eqv_mapT : ∀ (xs ys : List (List Int)), PyData.eqvAll (xs.map tI) (ys.map tI) = decide (xs = ys)
  | [], [] => by simp [PyData.eqvAll]
  | [], y :: ys => by simp [PyData.eqvAll]
  | x :: xs, [] => by simp [PyData.eqvAll]
  | x :: xs, y :: ys => by
    rw [List.map_cons, List.map_cons]
    simp only [PyData.eqvAll]
    rw [eqv_mapT xs ys, eqv_tupI]
    by_cases h : x = y
    · subst h; simp
    · simp [h]
theorem eqv_mapL : ∀ (xs ys : List (List Int)), PyData.eqvAll (xs.map lI) (ys.map lI) = decide (xs = ys)
  | [], [] => by simp [PyData.eqvAll]
  | [], y :: ys => by simp [PyData.eqvAll]
  | x :: xs, [] => by simp [PyData.eqvAll]
  | x :: xs, y :: ys => by
    rw [List.map_cons, List.map_cons]
    simp only [PyData.eqvAll]
    rw [eqv_mapL xs ys, eqv_lstI]
    by_cases h : x = y
    · subst h; simp
    · simp [h]
theorem eqv_TT (xs ys : List (List Int)) : PyData.eqv (.tuple (xs.map tI)) (.tuple (ys.map tI)) = decide (xs = ys) := by simp only [PyData.eqv, eqv_mapT]
theorem eqv_LL (xs ys : List (List Int)) : PyData.eqv (.list (xs.map lI)) (.list (ys.map lI)) = decide (xs = ys) := by simp only [PyData.eqv, eqv_mapL]
section
variable {D D' H : Hp} {L : Own} {Q : VK} {K : PySem.W.Frag}
theorem r_eqTT2 {a b : Addr} {us ws : List V} {xs ys : List (List Int)} (S : Sx D L H) (ha : Kn D a (.tup us)) (hb : Kn D b (.tup ws)) (ra : RpAll D us (xs.map tI)) (rb : RpAll D ws (ys.map tI)) (k : Q (.bl (decide (xs = ys))) H) : rEqX K (.ref a) (.ref b) H Q :=
  r_eqD S (.tup ha.pf ra) (.tup hb.pf rb) (sh_TT xs) (sh_TT ys) (by rw [eqv_TT]; exact k)
theorem r_neTT2 {a b : Addr} {us ws : List V} {xs ys : List (List Int)} (S : Sx D L H) (ha : Kn D a (.tup us)) (hb : Kn D b (.tup ws)) (ra : RpAll D us (xs.map tI)) (rb : RpAll D ws (ys.map tI)) (k : Q (.bl (!decide (xs = ys))) H) : rNeX K (.ref a) (.ref b) H Q :=
  r_neD S (.tup ha.pf ra) (.tup hb.pf rb) (sh_TT xs) (sh_TT ys) (by rw [eqv_TT]; exact k)
theorem rp_H {v : V} {d : PyData} (S : Sx D L H) (h : Rp D v d) : Rp H v d := Rp.up S.dH h
theorem dpLL {a : Addr} {us : List V} {xs : List (List Int)} (S : Sx D L H) (ha : Rds K D L a us) (ra : RpAll D us (xs.map lI)) : Dp K H (.ref a) (.list (xs.map lI)) := .lst (ha.sq S) (RpAll.dp (RpAll.up S.dH ra))
theorem r_eqLL2 {a b : Addr} {us ws : List V} {xs ys : List (List Int)} (S : Sx D L H) (ha : Rds K D L a us) (hb : Rds K D L b ws) (ra : RpAll D us (xs.map lI)) (rb : RpAll D ws (ys.map lI)) (k : Q (.bl (decide (xs = ys))) H) : rEqX K (.ref a) (.ref b) H Q :=
  .inr ⟨_, _, dpLL S ha ra, dpLL S hb rb, sh_LL xs, sh_LL ys, by rw [eqv_LL]; exact k⟩
theorem r_neLL2 {a b : Addr} {us ws : List V} {xs ys : List (List Int)} (S : Sx D L H) (ha : Rds K D L a us) (hb : Rds K D L b ws) (ra : RpAll D us (xs.map lI)) (rb : RpAll D ws (ys.map lI)) (k : Q (.bl (!decide (xs = ys))) H) : rNeX K (.ref a) (.ref b) H Q :=
  .inr ⟨_, _, dpLL S ha ra, dpLL S hb rb, sh_LL xs, sh_LL ys, by rw [eqv_LL]; exact k⟩
end
end Fk

namespace Fk
open PySem PySem.Spec PyProof.Rows L2
/-! ## enumerate of a tuple -/
set_option maxHeartbeats 1000000 in
theorem meets_enumT {v : Value} {o : Obj} {G : Heap → Prop} (B : Begins v o G) :
    Meets (Builtin.«enumerate.__new__» ⟨[.type "enumerate", v], []⟩) (fun _ R s => G s.heap ∧
      R (.ok (.ret (.ref (s.heap.push o).objs.size))) { s with heap := (s.heap.push o).push { cls := .type "enumerate", data := .fields #[.none, .bool false, .ref s.heap.objs.size, rawInt 0, .none, .none] } }) :=
  .of_wp fun prog w A R s h => by
    obtain ⟨hp, g, d, tk, os⟩ := s
    obtain ⟨h1, h⟩ := h
    have hsub := sub_enumerate
    have q1 : ∀ {A' : Around} {E : Value → Shared → Prop} {Q : Value → Shared → Prop}, Q (.ref hp.objs.size) ⟨hp.push o, g, d, tk, os⟩ → wpAny (model prog w) A' (pyIter v) Q E ⟨hp, g, d, tk, os⟩ :=
      fun q => B.iter prog w _ _ ⟨hp, g, d, tk, os⟩ _ h1 q
    wp_walk using q1
    refine wpAny_stack_any fun st => wpAny_pure ?_
    split
    · rename_i c _ _ _ _ _
      cases (c == Value.type "enumerate")
      · wp_walk using q1
        exact ⟨_, rfl, h⟩
      · wp_walk using q1
        exact ⟨_, rfl, h⟩
    · wp_walk using q1
      exact ⟨_, rfl, h⟩
section
variable {prog : Program} {w : World} {A : Around} {E : Value → Shared → Prop} {s : Shared}
theorem call_enumB {v : Value} {o : Obj} {G : Heap → Prop} {Q : Value → Shared → Prop} (B : Begins v o G) (h1 : G s.heap)
    (h : ∀ h', IsEnum h' (s.heap.objs.size + 1) s.heap.objs.size 0 .none → h'.get? s.heap.objs.size = some o →
      (∀ b o, s.heap.get? b = some o → h'.get? b = some o) → Q (.ref (s.heap.objs.size + 1)) { s with heap := h' }) :
    wpAny (model prog w) A (call (.type "enumerate") [v]) Q E s := by
  refine callType_new F.called_enumerate (by decide) (F.typeCall_enumerate_1 _) (F.newCall_enumerate_1 _) (fun obj => F.args_object_init_2 obj _) F.entry_enumerate_new
    (meets_enumT B) ⟨h1, ?_⟩
  have hz : (s.heap.push o).objs.size = s.heap.objs.size + 1 := Heap.size_push ..
  show _ ∧ _
  rw [hz]
  have he : IsEnum ((s.heap.push o).push { cls := .type "enumerate", data := .fields #[.none, .bool false, .ref s.heap.objs.size, rawInt 0, .none, .none] }) (s.heap.objs.size + 1) s.heap.objs.size 0 .none := by
    have := Heap.get?_push_size (s.heap.push o) (o := { cls := .type "enumerate", data := .fields #[.none, .bool false, .ref s.heap.objs.size, rawInt 0, .none, .none] }) rfl
    rw [hz] at this
    exact this
  exact ⟨⟨_, he, rfl⟩, h _ he (Heap.get?_push_of_some _ (Heap.get?_push_size _ B.free)) fun b o x => Heap.get?_push_of_some _ (Heap.get?_push_of_some _ x)⟩
end
section
variable {prog : Program} {w : World} {A : Around} {E : Value → Shared → Prop} {s : Shared}
theorem enumT_end {e it l : Addr} {i : Nat} {items : Array Value} {old : Value} {Q : Option Value → Shared → Prop} (hh : A.handled = none)
    (he : IsEnum s.heap e it i old) (hit : s.heap.IsTupleIter it l i) (hl : s.heap.IsTuple l items) (hx : items[i]? = none)
    (hQ : ∀ h', Heap.ExtBut it s.heap h' → Q none { s with heap := h' }) : wpAny (model prog w) A (pyNext (.ref e)) Q E s := by
  have hT : s.TypeIs (.ref e) "enumerate" := ⟨_, he, rfl⟩
  unfold pyNext
  refine wpAny_bind (wpAny_attempt (wpAny_callSpecial?_slot (name := Str.ofString "__next__") hT F.slot_enumerate_next
    (wpAny_call_entry F.slot_enumerate_next hT F.entry_enumerate_next ?_ (F.args_enumerate_next_1 _))))
  show wpAny _ _ (field (.ref e) 2 >>= _) _ _ _
  refine wpAny_bind (wpAny_field he rfl (x := .ref it) rfl ?_)
  refine wpAny_bind (wpAny_nextOf_tuple_end hh hit hl hx fun h' x he' hx' => ?_)
  obtain ⟨o, ho, hc⟩ := hx'
  refine wpAny_bind (wpAny_isInstance (T := "StopIteration") (b := true) ⟨o, ho, hc⟩ isSubtype_stop ?_)
  exact wpAny_pure (hQ _ he')
end
/-- the tuple at a, each item in a new pair -/
def Itet (K : PySem.W.Frag) (a : Addr) : It :=
  ⟨fun i H => ∃ (xs : List V) (x : V), SqT K H a xs ∧ xs[i]? = some x, fun i H v H' => ∃ T x, v = .ref T ∧ H T = none ∧ H' = upd H T (.tup [.int (i : Nat), x]) ∧ ∀ xs, SqT K H a xs → xs[i]? = some x, fun i H => ∃ xs : List V, SqT K H a xs ∧ xs.length ≤ i⟩
theorem turn_enumT {P : Program} {w : World} {K : PySem.W.Frag} {elts : List Expr} {kk : Nat} {tpos : Pos} (a e it : Addr) :
    Turn P w K (.Tuple elts kk tpos) (Itet K a) [e, it] e (fun i h => (∃ old, IsEnum h e it ((i : Nat) : Int) old) ∧ h.IsTupleIter it a i ∧ e ≠ it) where
  mem := by simp
  obj := fun i h st b hb => by
    obtain ⟨⟨old, he⟩, ⟨o, ho, hc, hd⟩, _⟩ := st
    have e' : b = e ∨ b = it := by simpa using hb
    rcases e' with z | z
    · rw [z]; exact ⟨_, he, fun v q => nomatch q⟩
    · rw [z]; exact ⟨o, ho, fun v q => by rw [hd] at q; cases q⟩
  keep := fun i h h' st k => let ⟨⟨old, he⟩, hi, hne⟩ := st; ⟨⟨old, k e (by simp) _ he⟩, hi.at fun o q => k it (by simp) o q, hne⟩
  item := by
    intro X hP hw hK hc i pins s σ H E I hf st hg
    subst hP hw hK
    obtain ⟨⟨old, he⟩, hit, hne⟩ := st
    obtain ⟨xs, x, hq, hx⟩ := hg
    obtain ⟨its, rv, p, hz⟩ := I.tuple hq
    obtain ⟨u, hu, ru⟩ := rv.get hx
    have p' : s.heap.IsTuple a its.toArray := p
    have hel : e < s.heap.objs.size := Heap.lt_size he
    have hil : it < s.heap.objs.size := by obtain ⟨_, q, _⟩ := hit; exact Heap.lt_size q
    have hai : a ≠ it := by
      rintro rfl
      obtain ⟨o1, q1, c1, _⟩ := id p'
      obtain ⟨o2, q2, c2, _⟩ := id hit
      rw [q1] at q2
      cases q2
      rw [c1] at c2
      exact absurd c2 (by decide)
    have hae : e ≠ a := by
      rintro rfl
      obtain ⟨o1, q1, c1, _⟩ := id p'
      have q2 := he
      unfold IsEnum at q2
      rw [q1] at q2
      cases q2
      exact absurd (show Value.type "enumerate" = Value.type "tuple" from c1) (by decide)
    have hin : i < its.toArray.size := by
      have := (List.getElem?_eq_some_iff.mp hu).1
      simpa using this
    refine wpAny_pyNext_enum_itemD (Draws.tuple (A := X.A.in1) (show X.A.in1.handled = none from I.ok.hd hc) it a hai its.toArray) he ⟨hit, p'⟩ hin hne (by simp [hne, hae]) fun u' h' tk hu' ho hit' hT hsz hk => ?_
    have eu : u' = u := by
      rw [List.getElem?_toArray, hu] at hu'
      exact (Option.some.inj hu').symm
    subst eu
    refine ⟨_, rfl, wpAny_letOwnedTupleGo_enum (s := { s with heap := h', toks := tk + 1 }) ho fun h'' he' sb => ?_⟩
    have hT2 : h''.get? s.heap.objs.size = some { cls := .type "tuple", data := .seq #[.int i tk, u'] } := (sb.2 _ (Nat.ne_of_gt hel)).trans hT
    have new : ObjOk X.prog X.w (upd H s.heap.objs.size (.tup [.int (i : Nat), x])) h'' s.heap.objs.size (.tup [.int (i : Nat), x]) :=
      ⟨by show 2 ≤ sizeLine; decide, [.int i tk, u'], .cons ⟨_, rfl⟩ (.cons ru .nil), ⟨_, hT2, rfl, _, rfl⟩⟩
    have I1 : Inv X pins σ (upd H s.heap.objs.size (.tup [.int (i : Nat), x])) { s with heap := h'', toks := tk + 1 } :=
      I.turnedNew (ch := [e, it]) (fun b ob hb q => (sb.2 b (fun z => hb (by simp [z]))).trans (hk b ob (fun z => hb (by simp [z])) (fun z => hb (by simp [z])) q)) hf (Nat.le_refl _) new
    refine ⟨.ref s.heap.objs.size, _, I1, rfl, ⟨_, x, rfl, I.hok.fresh (Nat.le_refl _), rfl, fun ys hy => by rw [I.tuple_inj hy hq]; exact hx⟩, ⟨⟨u', ?_⟩, hit'.1.at fun o q => (sb.2 it (Ne.symm hne)).trans q, hne⟩, fun b hb => ?_⟩
    · have e1 : ((i + 1 : Nat) : Int) = (i : Int) + 1 := by omega
      rw [e1]; exact he'
    · have hb' : b < s.heap.objs.size := by
        have e' : b = e ∨ b = it := by simpa using hb
        rcases e' with z | z
        · rw [z]; exact hel
        · rw [z]; exact hil
      rw [upd_ne (Nat.ne_of_lt hb')]
      exact (hf b hb).1
  done := by
    intro X hP hw hK hc i pins s σ H E I hf st hg
    subst hP hw hK
    obtain ⟨⟨old, he⟩, hit, hne⟩ := st
    obtain ⟨xs, hq, hx⟩ := hg
    obtain ⟨its, rv, p, hz⟩ := I.tuple hq
    have p' : s.heap.IsTuple a its.toArray := p
    have hai : a ≠ it := by
      rintro rfl
      obtain ⟨o1, q1, c1, _⟩ := id p'
      obtain ⟨o2, q2, c2, _⟩ := id hit
      rw [q1] at q2
      cases q2
      rw [c1] at c2
      exact absurd c2 (by decide)
    obtain ⟨f0, f1, f2, f3, f4, f5⟩ := hf it (by simp)
    have hl := rv.length
    exact enumT_end (I.ok.hd hc) he hit p' (by simp; omega) fun h' eb => ⟨rfl, I.turned (t' := s.toks) (fun b o hb q => eb b o hb q) f0 f1 f3 f4 f5⟩
  self := fun A i s Q E st h => let ⟨⟨_, he⟩, _⟩ := st; wpAny_pyIter_enum he h
section
variable {X : Cx} {e : Expr} {ta : TA} {p pos tpos : Pos} {elts : List Expr} {kk : Nat}
def iEnX (K : PySem.W.Frag) (ta : TA) : TI := fun σ H R => ta σ H fun vs H1 => IsE K vs H1 R ∨ ∃ a xs, vs = [.ref a] ∧ SqT K H1 a xs ∧ R (Itet K a) H1
theorem pi_enX (K : PySem.W.Frag) (hg : Gl X "enumerate") (hm : X.mg "enumerate" = none) (ha : PA X [e] ta) (hK : X.K = K := by rfl) (hs : starEach [e] X.env = [(false, eval e X.env)] := by rfl) :
    PI X (.Tuple elts kk tpos) (.Call (.Name "enumerate" p) [e] [] pos) (iEnX K ta) := by
  subst hK
  refine ⟨fun pins s σ H R I h => ?_⟩
  refine Call_ (ld_blt I hg hm boot_enumerate (PyProof.Rows.callWith_type1 (thn (ha.run pos pins s σ H _ I h) fun us s1 ⟨vs, H1, I1, r1, q1⟩ => ?_) hs rfl))
  have fp : ∀ b ∈ [s1.heap.objs.size + 1, s1.heap.objs.size], FpOk X pins H1 b := fun b hb => by
    have e' : b = s1.heap.objs.size + 1 ∨ b = s1.heap.objs.size := by simpa using hb
    have hle : s1.heap.objs.size ≤ b := by
      rcases e' with z | z
      · rw [z]; exact Nat.le_add_right _ _
      · rw [z]; exact Nat.le_refl _
    exact I1.fpOk hle (I1.hok.fresh hle)
  rcases q1 with ⟨a, xs, ex, hq, q⟩ | ⟨a, xs, ex, hq, q⟩
  · subst ex
    cases r1 with
    | cons r rr =>
      cases rr
      cases r
      obtain ⟨its, rv, p', hz⟩ := I1.list hq
      refine call_enumerate_list p'.isList fun h' he hit hsz hk => wpAny_pyIter_enum he ?_
      have I2 : Inv X pins σ H1 { s1 with heap := h' } := I1.kept (t' := s1.toks) hk
      exact ⟨s1.heap.objs.size + 1, [s1.heap.objs.size + 1, s1.heap.objs.size], _, _, H1, rfl, I2, turn_enum a (s1.heap.objs.size + 1) s1.heap.objs.size, ⟨⟨.none, he⟩, hit, Nat.succ_ne_self _⟩, fp, q⟩
  · subst ex
    cases r1 with
    | cons r rr =>
      cases rr
      cases r
      obtain ⟨its, rv, p', hz⟩ := I1.tuple hq
      refine call_enumB (begins_tuple a its.toArray) (show s1.heap.IsTuple a its.toArray from p') fun h' he hit hk => wpAny_pyIter_enum he ?_
      have I2 : Inv X pins σ H1 { s1 with heap := h' } := I1.kept (t' := s1.toks) hk
      exact ⟨s1.heap.objs.size + 1, [s1.heap.objs.size + 1, s1.heap.objs.size], _, _, H1, rfl, I2, turn_enumT a (s1.heap.objs.size + 1) s1.heap.objs.size, ⟨⟨.none, he⟩, ⟨_, hit, rfl, rfl⟩, Nat.succ_ne_self _⟩, fp, q⟩
end
theorem walk_enumT {K : PySem.W.Frag} {a : Addr} {xs : List V} : Walk (Itet K a) xs.length (fun H => SqT K H a xs) (YPair (fun i => some (.int (i : Nat))) (fun i => xs[i]?)) := by
  refine ⟨fun i _ hi q => ⟨xs, xs[i], q, by simp [hi]⟩, fun _ q => ⟨xs, q, Nat.le_refl _⟩, fun i H v H' _ q y => ?_⟩
  obtain ⟨T, x, h1, h2, h3, h4⟩ := y
  exact ⟨T, .int (i : Nat), x, h1, h2, h3, rfl, h4 xs q⟩
section
variable {σ : L2.St} {D H : Hp} {L : Own} {K : PySem.W.Frag} {Q : VK}
def IsEX (K : PySem.W.Frag) (vs : List V) (H1 : Hp) (R : It → Hp → Prop) : Prop := IsE K vs H1 R ∨ ∃ a xs, vs = [.ref a] ∧ SqT K H1 a xs ∧ R (Itet K a) H1
instance v_enX {tr : TA} {R : It → Hp → Prop} : VC (iEnX K tr σ H R) (tr σ H fun vs H1 => IsEX K vs H1 R) := ⟨fun h => h⟩
instance v_enXL {a : Addr} {xs : List V} {R : It → Hp → Prop} [S : Sx D L H] [ha : Sl K D L a xs] : VC (IsEX K [.ref a] H R) (R (Ite K a) H) := ⟨fun h => .inl ⟨a, xs, rfl, ha.pf.sq S, h⟩⟩
instance v_enXT {a : Addr} {xs : List V} {R : It → Hp → Prop} [S : Sx D L H] [k : Kn D a (.tup xs)] : VC (IsEX K [.ref a] H R) (R (Itet K a) H) := ⟨fun h => .inr ⟨a, xs, rfl, sqT S k.pf, h⟩⟩
end

/-! ## max of a list, list.index, isinstance of several classes, great products -/
section
variable {X : Cx}
def rMaxL (K : PySem.W.Frag) : List V → Hp → VK → Prop := rMax K
theorem cr_maxX (hc : X.calm = true) : CallR X (.builtin "max") (rMaxL X.K) := cr_max hc
def rIdx (K : PySem.W.Frag) : V → List V → Hp → VK → Prop := rIndex K
theorem mt_idx : MtR X "list.index" (rIdx X.K) := mt_index
def rIsiX (K : PySem.W.Frag) : List V → Hp → VK → Prop := fun xs H Q => rIsi K xs H Q ∨ rIsiT K xs H Q
theorem call_isiX : CallR X (.builtin "isinstance") (rIsiX X.K) := CallR.or call_isi call_isiT
def rMulZ (K : PySem.W.Frag) : R2 := fun x y H Q => rMulY K x y H Q ∨ rI CMulX (fun i j => .int (i * j)) x y H Q
theorem opMulZ : OpR X (binaryOp .Mult) (rMulZ X.K) := OpR.or opMulY op_mulX
end
section
variable {σ : L2.St} {D H : Hp} {L : Own} {K : PySem.W.Frag} {Q : VK}
/-- the greatest of some, the first place of it -/
def mxL : List Int → Int
  | [] => 0
  | [x] => x
  | x :: y :: r => max x (mxL (y :: r))
theorem mxL_mem : ∀ {ns : List Int}, ns ≠ [] → mxL ns ∈ ns
  | [], h => absurd rfl h
  | [x], _ => List.mem_singleton.mpr rfl
  | x :: y :: r, _ => by
    have ih := mxL_mem (ns := y :: r) (by simp)
    show max x (mxL (y :: r)) ∈ _
    rcases Int.le_total x (mxL (y :: r)) with h | h
    · rw [Int.max_eq_right h]
      exact List.mem_cons_of_mem _ ih
    · rw [Int.max_eq_left h]
      exact List.mem_cons_self
theorem mxL_ge : ∀ {ns : List Int} {x : Int}, x ∈ ns → x ≤ mxL ns
  | [x], z, h => by rw [List.mem_singleton.mp h]; exact Int.le_refl _
  | x :: y :: r, z, h => by
    show z ≤ max x (mxL (y :: r))
    rcases List.mem_cons.mp h with e | h
    · rw [e]
      exact Int.le_max_left _ _
    · exact Int.le_trans (mxL_ge h) (Int.le_max_right _ _)
theorem mxL_uniq {ns : List Int} {m : Int} (h1 : m ∈ ns) (h2 : ∀ y, y ∈ ns → y ≤ m) : m = mxL ns :=
  Int.le_antisymm (mxL_ge h1) (h2 _ (mxL_mem (by intro e; rw [e] at h1; cases h1)))
instance v_maxL {a : Addr} {xs : List V} {ns : List Int} [S : Sx D L H] [ha : Sl K D L a xs] [c : IsC xs ns] : VC (rMaxL K [.ref a] H Q) (0 < ns.length ∧ Q (.int (mxL ns)) H) :=
  ⟨fun h => ⟨a, ns, rfl, by rw [← c.pf]; exact ha.pf.sq S, h.1, fun m h1 h2 => by rw [mxL_uniq h1 h2]; exact h.2⟩⟩
/-- the first place -/
def ixL (z : Int) : List Int → Nat
  | [] => 0
  | x :: r => if x = z then 0 else ixL z r + 1
theorem ixL_get {z : Int} : ∀ {ns : List Int}, z ∈ ns → ns[ixL z ns]? = some z
  | x :: r, h => by
    show (x :: r)[if x = z then 0 else ixL z r + 1]? = some z
    by_cases e : x = z
    · rw [if_pos e, e]
      rfl
    · rw [if_neg e]
      rcases List.mem_cons.mp h with e2 | h
      · exact absurd e2.symm e
      · exact ixL_get h
theorem ixL_no {z : Int} : ∀ {ns : List Int} {m : Nat} {y : Int}, m < ixL z ns → ns[m]? = some y → y ≠ z
  | [], m, y, h, _ => by simp [ixL] at h
  | x :: r, m, y, h, e => by
    have h' : m < (if x = z then 0 else ixL z r + 1) := h
    by_cases c : x = z
    · rw [if_pos c] at h'
      exact absurd h' (Nat.not_lt_zero _)
    · rw [if_neg c] at h'
      cases m with
      | zero =>
        have e' : x = y := Option.some.inj e
        rw [← e']
        exact c
      | succ m => exact ixL_no (ns := r) (m := m) (by omega) (by simpa using e)
theorem ixL_lt {z : Int} {ns : List Int} (h : z ∈ ns) : ixL z ns < ns.length := (List.getElem?_eq_some_iff.mp (ixL_get h)).1
instance v_idx {a : Addr} {xs : List V} {ns : List Int} {z : Int} [S : Sx D L H] [ha : Sl K D L a xs] [c : IsC xs ns] : VC (rIdx K (.ref a) [.int z] H Q) (z ∈ ns ∧ Q (.int (ixL z ns)) H) :=
  ⟨fun h => by
    obtain ⟨hm, k⟩ := h
    refine ⟨a, ns.map V.int, .int z, ixL z ns, .int z, rfl, rfl, by rw [← c.pf]; exact ha.pf.sq S, rfl, ?_, mapI (ixL_get hm), ?_, fun m z' hm' hz' => ?_, k⟩
    · rw [List.all_map]
      exact List.all_eq_true.mpr fun _ _ => rfl
    · simp [eqV]
    · obtain ⟨y, hy, rfl⟩ := getI hz'
      have := ixL_no hm' hy
      simp [eqV, this]⟩
/-- several classes -/
class KsC (K : PySem.W.Frag) (t : String) (us : List V) (b : outParam Bool) : Prop where
  pf : ∃ ws : List Value, Paired ClsV us ws ∧ PySem.W.kitAny K (.type t) ws = some b
instance v_isiX1 {x : V} {t n : String} {b : Bool} [h : TyC K H x t] [k : KiC t n b] : VC (rIsiX K [x, .ty n] H Q) (Q (.bl b) H) := ⟨fun q => .inl (isi h.pf k.pf q)⟩
instance v_isiX2 {x : V} {t : String} {tp : Addr} {us : List V} {b : Bool} [S : Sx D L H] [kt : Kn D tp (.tup us)] [h : TyC K H x t] [k : KsC K t us b] : VC (rIsiX K [x, .ref tp] H Q) (Q (.bl b) H) :=
  ⟨fun q => by
    obtain ⟨ws, h1, h2⟩ := k.pf
    exact .inr ⟨x, tp, us, .type t, ws, b, rfl, S.dH _ _ kt.pf, h1, h.pf, h2, q⟩⟩
theorem ks2 {t n1 n2 : String} {b1 b2 : Bool} (h1 : kitB t n1 = some b1) (h2 : kitB t n2 = some b2) : PySem.W.kitAny K (.type t) [.type n1, .type n2] = some (b1 || b2) := by
  unfold PySem.W.kitAny
  rw [kit_ty h1]
  cases b1
  · unfold PySem.W.kitAny
    rw [kit_ty h2]
    cases b2
    · rfl
    · rfl
  · rfl
instance ks2ff {t n1 n2 : String} [h1 : KiC t n1 false] [h2 : KiC t n2 false] : KsC K t [.ty n1, .ty n2] false := ⟨[.type n1, .type n2], .cons (.ty _) (.cons (.ty _) .nil), ks2 h1.pf h2.pf⟩
instance ks2ft {t n1 n2 : String} [h1 : KiC t n1 false] [h2 : KiC t n2 true] : KsC K t [.ty n1, .ty n2] true := ⟨[.type n1, .type n2], .cons (.ty _) (.cons (.ty _) .nil), ks2 h1.pf h2.pf⟩
instance ks2tx {t n1 n2 : String} {b : Bool} [h1 : KiC t n1 true] [h2 : KiC t n2 b] : KsC K t [.ty n1, .ty n2] true := ⟨[.type n1, .type n2], .cons (.ty _) (.cons (.ty _) .nil), ks2 h1.pf h2.pf⟩
instance v_mulZ {i j : Int} : VC (rMulZ K (.int i) (.int j) H Q) (MulOk i j ∧ Q (.int (i * j)) H) := ⟨fun h => .inl (VC.pf h)⟩
end
end Fk

namespace Fk
open PySem PySem.Spec PyProof.Rows L2
/-! ## zip of a tuple and a list -/
def Itzm (K : PySem.W.Frag) (a b : Addr) : It :=
  ⟨fun i H => ∃ (xs ys : List V) (x y : V), SqT K H a xs ∧ SqL K H b ys ∧ xs[i]? = some x ∧ ys[i]? = some y,
    fun i H v H' => ∃ T x y, v = .ref T ∧ H T = none ∧ H' = upd H T (.tup [x, y]) ∧ (∀ xs, SqT K H a xs → xs[i]? = some x) ∧ ∀ ys, SqL K H b ys → ys[i]? = some y,
    fun i H => ∃ xs ys : List V, SqT K H a xs ∧ SqL K H b ys ∧ i ≤ xs.length ∧ i ≤ ys.length ∧ (i = xs.length ∨ i = ys.length)⟩
theorem turn_zipM {P : Program} {w : World} {K : PySem.W.Frag} {elts : List Expr} {kk : Nat} {tpos : Pos} {a b z TI TO i1 i2 : Addr} (hai : a ≠ i1) (hbi : b ≠ i2) (S : ZipSep2 z TI TO i1 i2 [i1, a] [i2, b]) :
    Turn P w K (.Tuple elts kk tpos) (Itzm K a b) [z, TI, TO, i1, i2] z (fun i h => IsZip h z TI TO .none ∧ IsTupOf2 h TI (.ref i1) (.ref i2) ∧ (∃ x y, IsTupOf2 h TO x y) ∧ h.IsTupleIter i1 a i ∧ h.IsListIter i2 b i) where
  mem := by simp
  obj := fun i h st c hc => by
    obtain ⟨hz, hTI, ⟨x, y, hTO⟩, ⟨o1, e1, _, d1⟩, ⟨o2, e2, _, d2⟩⟩ := st
    have e' : c = z ∨ c = TI ∨ c = TO ∨ c = i1 ∨ c = i2 := by simpa using hc
    rcases e' with q | q | q | q | q
    · rw [q]; exact ⟨_, hz, fun v q => nomatch q⟩
    · rw [q]; exact ⟨_, hTI, fun v q => nomatch q⟩
    · rw [q]; exact ⟨_, hTO, fun v q => nomatch q⟩
    · rw [q]; exact ⟨o1, e1, fun v q => by rw [d1] at q; cases q⟩
    · rw [q]; exact ⟨o2, e2, fun v q => by rw [d2] at q; cases q⟩
  keep := fun i h h' st k => by
    obtain ⟨hz, hTI, ⟨x, y, hTO⟩, h1, h2⟩ := st
    exact ⟨k z (by simp) _ hz, k TI (by simp) _ hTI, ⟨x, y, k TO (by simp) _ hTO⟩, h1.at fun o q => k i1 (by simp) o q, h2.at fun o q => k i2 (by simp) o q⟩
  item := by
    intro X hP hw hK hc i pins s σ H E I hf st hg
    subst hP hw hK
    obtain ⟨hz, hTI, ⟨x0, y0, hTO⟩, h1, h2⟩ := st
    obtain ⟨xs, ys, x, y, hqx, hqy, hx, hy⟩ := hg
    obtain ⟨its, rv, p, _⟩ := I.tuple hqx
    obtain ⟨its2, rv2, p2, _⟩ := I.list hqy
    obtain ⟨u, hu, ru⟩ := rv.get hx
    obtain ⟨u2, hu2, ru2⟩ := rv2.get hy
    have hzl : z < s.heap.objs.size := Heap.lt_size hz
    have n1 : i < its.toArray.size := by simpa using (List.getElem?_eq_some_iff.mp hu).1
    have n2 : i < its2.toArray.size := by simpa using (List.getElem?_eq_some_iff.mp hu2).1
    have hh := I.ok.hd hc
    refine wpAny_pyNext_zipD2_item S (Draws.tuple (A := X.A.in1) (show X.A.in1.handled = none from hh) i1 a hai its.toArray) (Draws.list (A := X.A.in1) (show X.A.in1.handled = none from hh) i2 b hbi its2.toArray) hz hTI hTO ⟨h1, p⟩ ⟨h2, p2.isList⟩ n1 n2
      fun v1 v2 h' tk hv1 hv2 z' TO' st1 st2 hT hsz hk => ?_
    have ev1 : v1 = u := by
      rw [List.getElem?_toArray, hu] at hv1
      exact (Option.some.inj hv1).symm
    have ev2 : v2 = u2 := by
      rw [List.getElem?_toArray, hu2] at hv2
      exact (Option.some.inj hv2).symm
    subst ev1 ev2
    refine ⟨_, rfl, wpAny_letOwnedTupleGo_zip (s := { s with heap := h', toks := tk }) z' fun h'' z'' sb => ?_⟩
    have hT2 : h''.get? s.heap.objs.size = some { cls := .type "tuple", data := .seq #[v1, v2] } := (sb.2 _ (Nat.ne_of_gt hzl)).trans hT
    have new : ObjOk X.prog X.w (upd H s.heap.objs.size (.tup [x, y])) h'' s.heap.objs.size (.tup [x, y]) :=
      ⟨by show 2 ≤ sizeLine; decide, [v1, v2], .cons ru (.cons ru2 .nil), ⟨_, hT2, rfl, _, rfl⟩⟩
    have I1 : Inv X pins σ (upd H s.heap.objs.size (.tup [x, y])) { s with heap := h'', toks := tk } :=
      I.turnedNew (t' := tk) (ch := [z, TI, TO, i1, i2]) (fun c o hb q => (sb.2 c (fun q' => hb (by simp [q']))).trans (hk c o (fun q' => hb (by simp [q'])) (fun q' => hb (by simp [q'])) (fun q' => hb (by simp [q'])) (fun q' => hb (by simp [q'])) q)) hf (Nat.le_refl _) new
    refine ⟨.ref s.heap.objs.size, _, I1, rfl, ⟨_, x, y, rfl, I.hok.fresh (Nat.le_refl _), rfl, fun l hl => by rw [I.tuple_inj hl hqx]; exact hx, fun l hl => by rw [I.list_inj hl hqy]; exact hy⟩, ⟨z'', ?_, ⟨v1, v2, ?_⟩, ?_, ?_⟩, fun c hcm => ?_⟩
    · exact (sb.2 _ S.TIz).trans (hk _ _ S.TIz S.TITO S.TIi1 S.TIi2 hTI)
    · exact (sb.2 _ S.TOz).trans TO'
    · exact st1.1.at fun o q => (sb.2 _ (Ne.symm S.zi1)).trans q
    · exact st2.1.at fun o q => (sb.2 _ (Ne.symm S.zi2)).trans q
    · have hlt : c < s.heap.objs.size := by
        have e' : c = z ∨ c = TI ∨ c = TO ∨ c = i1 ∨ c = i2 := by simpa using hcm
        rcases e' with q | q | q | q | q
        · rw [q]; exact hzl
        · rw [q]; exact Heap.lt_size hTI
        · rw [q]; exact Heap.lt_size hTO
        · rw [q]; obtain ⟨_, e1, _⟩ := h1; exact Heap.lt_size e1
        · rw [q]; obtain ⟨_, e2, _⟩ := h2; exact Heap.lt_size e2
      rw [upd_ne (Nat.ne_of_lt hlt)]
      exact (hf c hcm).1
  done := by
    intro X hP hw hK hc i pins s σ H E I hf st hg
    subst hP hw hK
    obtain ⟨hz, hTI, ⟨x0, y0, hTO⟩, h1, h2⟩ := st
    obtain ⟨xs, ys, hqx, hqy, l1, l2, hend⟩ := hg
    obtain ⟨its, rv, p, _⟩ := I.tuple hqx
    obtain ⟨its2, rv2, p2, _⟩ := I.list hqy
    have q1 := rv.length
    have q2 := rv2.length
    have z1 : its.toArray.size = xs.length := by simp [q1]
    have z2 : its2.toArray.size = ys.length := by simp [q2]
    have hh := I.ok.hd hc
    refine wpAny_pyNext_zipD2_end (i := i) S (Draws.tuple (A := X.A.in1) (show X.A.in1.handled = none from hh) i1 a hai its.toArray) (Draws.list (A := X.A.in1) (show X.A.in1.handled = none from hh) i2 b hbi its2.toArray) hz hTI hTO ⟨h1, p⟩ ⟨h2, p2.isList⟩ (by rw [z1]; exact l1) (by rw [z2]; exact l2) (by rw [z1, z2]; exact hend)
      fun h' tk hk => ⟨rfl, I.turnedL (t' := tk) (ch := [z, TI, TO, i1, i2]) (fun c o hb q =>
      hk c o (fun q' => hb (by simp [q'])) (fun q' => hb (by simp [q'])) (fun q' => hb (by simp [q'])) (fun q' => hb (by simp [q'])) q) hf⟩
  self := fun A i s Q E st h => wpAny_pyIter_zip st.1 h
def iZipM (K : PySem.W.Frag) (ta : TA) : TI := fun σ H R => ta σ H fun vs H1 => IsZ K vs H1 R ∨ ∃ a b xs ys, vs = [.ref a, .ref b] ∧ SqT K H1 a xs ∧ SqL K H1 b ys ∧ R (Itzm K a b) H1
theorem pi_zipM (K : PySem.W.Frag) {X : Cx} {e e2 : Expr} {ta : TA} {p pos tpos : Pos} {elts : List Expr} {kk : Nat} (hg : Gl X "zip") (hm : X.mg "zip" = none) (ha : PA X [e, e2] ta) (hK : X.K = K := by rfl)
    (hs : starEach [e, e2] X.env = (false, eval e X.env) :: starEach [e2] X.env := by rfl) (hpl : (backTo pos (starEach [e2] X.env)).any (·.1) = false := by rfl) :
    PI X (.Tuple elts kk tpos) (.Call (.Name "zip" p) [e, e2] [] pos) (iZipM K ta) := by
  subst hK
  refine ⟨fun pins s σ H R I h => ?_⟩
  refine Call_ (ld_blt I hg hm PyProof.Rows.boot_zip (PyProof.Rows.callWith_type1 (thn (ha.run pos pins s σ H _ I h) fun us s1 ⟨vs, H1, I1, r1, q1⟩ => ?_) hs hpl))
  have fresh5 : ∀ c, c ∈ [s1.heap.objs.size + 4, s1.heap.objs.size + 2, s1.heap.objs.size + 3, s1.heap.objs.size, s1.heap.objs.size + 1] → FpOk X pins H1 c := fun c hcm => by
    have e' : c = s1.heap.objs.size + 4 ∨ c = s1.heap.objs.size + 2 ∨ c = s1.heap.objs.size + 3 ∨ c = s1.heap.objs.size ∨ c = s1.heap.objs.size + 1 := by simpa using hcm
    have hle : s1.heap.objs.size ≤ c := by
      rcases e' with z | z | z | z | z
      · rw [z]; exact Nat.le_add_right _ _
      · rw [z]; exact Nat.le_add_right _ _
      · rw [z]; exact Nat.le_add_right _ _
      · rw [z]; exact Nat.le_refl _
      · rw [z]; exact Nat.le_add_right _ _
    exact I1.fpOk hle (I1.hok.fresh hle)
  rcases q1 with ⟨a, b, xs, ys, ex, q1⟩ | ⟨a, b, xs, ys, ex, hqx, hqy, q⟩
  · subst ex
    cases r1 with
    | cons r rr =>
      cases rr with
      | cons r' rr =>
        cases rr
        cases r
        cases r'
        rcases q1 with ⟨hqx, hqy, q⟩ | ⟨hqx, hqy, q⟩
        · obtain ⟨its, rv, p1, _⟩ := I1.list hqx
          obtain ⟨its2, rv2, p2, _⟩ := I1.list hqy
          refine call_zip_2 p1.isList p2.isList fun h' hz hTI hTO h1 h2 hsz hk => wpAny_pyIter_zip hz ?_
          have I2 : Inv X pins σ H1 { s1 with heap := h' } := I1.kept (t' := s1.toks) hk
          exact ⟨s1.heap.objs.size + 4, [s1.heap.objs.size + 4, s1.heap.objs.size + 2, s1.heap.objs.size + 3, s1.heap.objs.size, s1.heap.objs.size + 1], _, _, H1, rfl, I2, turn_zip (PySem.W.ktu_apart s1.heap.objs.size a b p1.lt p2.lt), ⟨hz, hTI, ⟨_, _, hTO⟩, h1, h2⟩, fresh5, q⟩
        · obtain ⟨its, rv, p1, _⟩ := I1.tuple hqx
          obtain ⟨its2, rv2, p2, _⟩ := I1.tuple hqy
          obtain ⟨o1, ho1, _⟩ := id p1
          obtain ⟨o2, ho2, _⟩ := id p2
          refine RZ.call_zipT (show s1.heap.IsTuple a its.toArray from p1) (show s1.heap.IsTuple b its2.toArray from p2) fun h' hz hTI hTO h1 h2 hsz hk => wpAny_pyIter_zip hz ?_
          have I2 : Inv X pins σ H1 { s1 with heap := h' } := I1.kept (t' := s1.toks) hk
          exact ⟨s1.heap.objs.size + 4, [s1.heap.objs.size + 4, s1.heap.objs.size + 2, s1.heap.objs.size + 3, s1.heap.objs.size, s1.heap.objs.size + 1], _, _, H1, rfl, I2, RZ.turn_zipT (PySem.W.ktu_apart s1.heap.objs.size a b (Heap.lt_size ho1) (Heap.lt_size ho2)), ⟨hz, hTI, ⟨_, _, hTO⟩, h1, h2⟩, fresh5, q⟩
  · subst ex
    cases r1 with
    | cons r rr =>
      cases rr with
      | cons r' rr =>
        cases rr
        cases r
        cases r'
        obtain ⟨its, rv, p1, _⟩ := I1.tuple hqx
        obtain ⟨its2, rv2, p2, _⟩ := I1.list hqy
        obtain ⟨o1, ho1, _⟩ := id p1
        have la : a < s1.heap.objs.size := Heap.lt_size ho1
        have lb : b < s1.heap.objs.size := p2.lt
        refine zip_begins2 (begins_tuple a its.toArray) (begins_list b its2.toArray) (show s1.heap.IsTuple a its.toArray from p1) p2.isList fun h' hz hTI hTO h1 h2 hsz hk => wpAny_pyIter_zip hz ?_
        have I2 : Inv X pins σ H1 { s1 with heap := h' } := I1.kept (t' := s1.toks) hk
        exact ⟨s1.heap.objs.size + 4, [s1.heap.objs.size + 4, s1.heap.objs.size + 2, s1.heap.objs.size + 3, s1.heap.objs.size, s1.heap.objs.size + 1], _, _, H1, rfl, I2,
          turn_zipM (Nat.ne_of_lt la) (Nat.ne_of_lt (Nat.lt_succ_of_lt lb)) (zip_sep2 (N := s1.heap.objs.size) (fp1 := [a]) (fp2 := [b]) (fun c hc => by rw [List.mem_singleton.mp hc]; exact la) (fun c hc => by rw [List.mem_singleton.mp hc]; exact lb)),
          ⟨hz, hTI, ⟨_, _, hTO⟩, ⟨_, h1, rfl, rfl⟩, ⟨_, h2, rfl, rfl⟩⟩, fresh5, q⟩
theorem walk_zipM {K : PySem.W.Frag} {a b : Addr} {xs ys : List V} {n : Nat} (hn : n = min xs.length ys.length) : Walk (Itzm K a b) n (fun H => SqT K H a xs ∧ SqL K H b ys) (YPair (fun i => xs[i]?) (fun i => ys[i]?)) := by
  subst hn
  refine ⟨fun i H hi q => ?_, fun H q => ⟨xs, ys, q.1, q.2, by omega, by omega, by omega⟩, fun i H v H' hi q y => ?_⟩
  · have k1 : i < xs.length := by omega
    have k2 : i < ys.length := by omega
    exact ⟨xs, ys, xs[i], ys[i], q.1, q.2, by simp [k1], by simp [k2]⟩
  · obtain ⟨T, x, z, e1, e2, e3, e4, e5⟩ := y
    exact ⟨T, x, z, e1, e2, e3, e4 xs q.1, e5 ys q.2⟩
section
variable {σ : L2.St} {D H : Hp} {L : Own} {K : PySem.W.Frag} {Q : VK}
def IsZM (K : PySem.W.Frag) (vs : List V) (H1 : Hp) (R : It → Hp → Prop) : Prop := IsZ K vs H1 R ∨ ∃ a b xs ys, vs = [.ref a, .ref b] ∧ SqT K H1 a xs ∧ SqL K H1 b ys ∧ R (Itzm K a b) H1
instance v_zipM {tr : TA} {R : It → Hp → Prop} : VC (iZipM K tr σ H R) (tr σ H fun vs H1 => IsZM K vs H1 R) := ⟨fun h => h⟩
instance v_zipMLL {a b : Addr} {xs ys : List V} {R : It → Hp → Prop} [S : Sx D L H] [ha : Sl K D L a xs] [hb : Sl K D L b ys] : VC (IsZM K [.ref a, .ref b] H R) (R (Itz K a b) H) := ⟨fun h => .inl (VC.pf h)⟩
instance v_zipMTT {a b : Addr} {xs ys : List V} {R : It → Hp → Prop} [S : Sx D L H] [ha : Kn D a (.tup xs)] [hb : Kn D b (.tup ys)] : VC (IsZM K [.ref a, .ref b] H R) (R (RZ.ItzT K a b) H) := ⟨fun h => .inl (VC.pf h)⟩
instance v_zipMTL {a b : Addr} {xs ys : List V} {R : It → Hp → Prop} [S : Sx D L H] [ha : Kn D a (.tup xs)] [hb : Sl K D L b ys] : VC (IsZM K [.ref a, .ref b] H R) (R (Itzm K a b) H) := ⟨fun h => .inr ⟨a, b, xs, ys, rfl, sqT S ha.pf, hb.pf.sq S, h⟩⟩
end
section
variable {H : Hp} {Q : VK}
instance v_isNn : VC (rIsN .non .non H Q) (Q (.bl true) H) := ⟨fun h => ⟨rfl, h⟩⟩
instance v_isNi {i : Int} : VC (rIsN (.int i) .non H Q) (Q (.bl false) H) := ⟨fun h => ⟨rfl, h⟩⟩
instance v_isNr {a : Addr} : VC (rIsN (.ref a) .non H Q) (Q (.bl false) H) := ⟨fun h => ⟨rfl, h⟩⟩
instance v_isNb {b : Bool} : VC (rIsN (.bl b) .non H Q) (Q (.bl false) H) := ⟨fun h => ⟨rfl, h⟩⟩
instance v_notNn : VC (rNotN .non .non H Q) (Q (.bl false) H) := ⟨fun h => ⟨rfl, h⟩⟩
instance v_notNi {i : Int} : VC (rNotN (.int i) .non H Q) (Q (.bl true) H) := ⟨fun h => ⟨rfl, h⟩⟩
instance v_notNr {a : Addr} : VC (rNotN (.ref a) .non H Q) (Q (.bl true) H) := ⟨fun h => ⟨rfl, h⟩⟩
instance v_notNb {b : Bool} : VC (rNotN (.bl b) .non H Q) (Q (.bl true) H) := ⟨fun h => ⟨rfl, h⟩⟩
instance v_mulXI {i j : Int} : VC (rI CMulX (fun i j => .int (i * j)) (.int i) (.int j) H Q) (CMulX i j ∧ Q (.int (i * j)) H) := ⟨fun k => ⟨i, j, rfl, rfl, k⟩⟩
end
theorem Rds.push {K : PySem.W.Frag} {D : Hp} {L : Own} {a : Addr} {xs : List V} {x : Addr × HO} (h : Rds K D L a xs) : Rds K D (x :: L) a xs := by
  rcases h with ⟨n, h⟩ | h
  · exact .inl ⟨n + 1, by simpa using h⟩
  · exact .inr h
theorem Rds.upD {K : PySem.W.Frag} {D D' : Hp} {L : Own} {a : Addr} {xs : List V} {x : Addr × HO} (e : Sm D D') (h : Rds K D L a xs) : Rds K D' (x :: L) a xs := by
  rcases h with ⟨n, h⟩ | h
  · exact .inl ⟨n + 1, by simpa using h⟩
  · exact .inr (e.e.seq h)
/-- read lists stay so -/
instance (priority := low) slPush {K : PySem.W.Frag} {D : Hp} {L : Own} {a : Addr} {xs : List V} {x : Addr × HO} [h : Sl K D L a xs] : Sl K D (x :: L) a xs := ⟨h.pf.push⟩
section
variable {H : Hp} {Q : VK} {K : PySem.W.Frag} {D : Hp} {L : Own}
theorem r_eqB {b c : Bool} (k : Q (.bl (b == c)) H) : rEqX K (.bl b) (.bl c) H Q := .inl ⟨rfl, by
  have e : decide (V.bl b = V.bl c) = (b == c) := by cases b <;> cases c <;> decide
  rw [e]; exact k⟩
theorem r_neB {b c : Bool} (k : Q (.bl (b != c)) H) : rNeX K (.bl b) (.bl c) H Q := .inl ⟨rfl, by
  have e : (!decide (V.bl b = V.bl c)) = (b != c) := by cases b <;> cases c <;> decide
  rw [e]; exact k⟩
instance v_eqTt : VC (rEqX K (.bl true) (.bl true) H Q) (Q (.bl true) H) := ⟨fun h => r_eqB h⟩
instance v_eqFf : VC (rEqX K (.bl false) (.bl false) H Q) (Q (.bl true) H) := ⟨fun h => r_eqB h⟩
instance v_eqTf : VC (rEqX K (.bl true) (.bl false) H Q) (Q (.bl false) H) := ⟨fun h => r_eqB h⟩
instance v_eqFt : VC (rEqX K (.bl false) (.bl true) H Q) (Q (.bl false) H) := ⟨fun h => r_eqB h⟩
instance v_neTt : VC (rNeX K (.bl true) (.bl true) H Q) (Q (.bl false) H) := ⟨fun h => r_neB h⟩
instance v_neFf : VC (rNeX K (.bl false) (.bl false) H Q) (Q (.bl false) H) := ⟨fun h => r_neB h⟩
instance v_neTf : VC (rNeX K (.bl true) (.bl false) H Q) (Q (.bl true) H) := ⟨fun h => r_neB h⟩
instance v_neFt : VC (rNeX K (.bl false) (.bl true) H Q) (Q (.bl true) H) := ⟨fun h => r_neB h⟩
instance (priority := low) v_eqBr {b : Bool} : VC (rEqX K (.bl b) (.bl b) H Q) (Q (.bl true) H) := ⟨fun h => r_eqB (by rw [beq_self_eq_true]; exact h)⟩
end
theorem Rdl.rds {K : PySem.W.Frag} {D : Hp} {L : Own} {a : Addr} {xs : List V} (h : Rdl D L a xs) : Rds K D L a xs := by
  rcases h with h | h
  · exact .inl h
  · exact .inr (.of h)
theorem Rdl.push {D : Hp} {L : Own} {a : Addr} {xs : List V} {x : Addr × HO} (h : Rdl D L a xs) : Rdl D (x :: L) a xs := by
  rcases h with ⟨n, h⟩ | h
  · exact .inl ⟨n + 1, by simpa using h⟩
  · exact .inr h
instance (priority := low) mlPush {D : Hp} {L : Own} {a : Addr} {xs : List V} {x : Addr × HO} [h : Ml D L a xs] : Ml D (x :: L) a xs := ⟨h.pf.push⟩
theorem Rdl.up {D D' : Hp} {L : Own} {a : Addr} {xs : List V} (e : Sm D D') (h : Rdl D L a xs) : Rdl D' L a xs := by
  rcases h with h | h
  · exact .inl h
  · exact .inr (e.e _ _ h)
instance (priority := low) mlUp {D D' : Hp} {L : Own} {a : Addr} {xs : List V} [s : Sm D D'] [h : Ml D L a xs] : Ml D' L a xs := ⟨h.pf.up s⟩
/-- a read list is a list -/
instance (priority := low) slMl {K : PySem.W.Frag} {D : Hp} {L : Own} {a : Addr} {xs : List V} [h : Ml D L a xs] : Sl K D L a xs := ⟨h.pf.rds⟩
end Fk

namespace Fk
open PySem PySem.Spec PyProof.Rows L2
/-! ## a tuple not at all; rows of truths -/
theorem tupMul0 (l : Addr) (its : Array Value) (n : Nat) (dd : Option Addr) (sl : Array (Option Value)) (u : Tok) (hi : its.isEmpty = false) :
    Meets (Builtin.«tuple.__mul__» ⟨[.ref l, .int 0 u], []⟩) (fun _ R s => s.heap.get? l = some { cls := .type "tuple", dict := dd, data := .seq its n, slots := sl } ∧
      R (.ok (.ret (Value.ref s.heap.objs.size))) { s with heap := s.heap.push { cls := Value.type "tuple", data := Data.seq #[] }, toks := s.toks }) :=
  .of_wp fun prog w A R s h => by
    obtain ⟨hp, g, d, tk, os⟩ := s
    obtain ⟨hl, h⟩ := h
    have f1 := AutoSeq1.idx_int
    have c1 : (its.isEmpty || (0 : Int) == 1) = false := by rw [hi]; rfl
    have c2 : (decide ((0 : Int) ≤ 0) || its.isEmpty) = true := by simp
    wp_walk using wpAny_loadPart' hl
    repeat (first
      | (refine wpAny_ite_false (decide_eq_false (by rw [c1]; exact Bool.false_ne_true)) ?_; wp_walk using wpAny_loadPart' hl)
      | (refine wpAny_ite_true (decide_eq_true (by rw [c2])) ?_; wp_walk using wpAny_loadPart' hl)
      | (refine wpAny_ite_false (decide_eq_false (by decide)) ?_; wp_walk using wpAny_loadPart' hl))
    all_goals first | exact ⟨_, rfl, h⟩ | trace_state
def rRep0 (K : PySem.W.Frag) : R2 := fun x y H Q => ∃ l xs, x = .ref l ∧ y = .int 0 ∧ SqT K H l xs ∧ xs ≠ [] ∧ ∀ p, H p = none → Q (.ref p) (upd H p (.tup []))
section
variable {X : Cx}
theorem op_rep0 : OpR X (binaryOp .Mult) (rRep0 X.K) := by
  intro pins s σ H x y v u Q I rx ry h
  obtain ⟨l, xs, rfl, rfl, hT, hne, q⟩ := h
  cases rx
  obtain ⟨t, rfl⟩ := ry
  obtain ⟨its, r, ⟨⟨cls, dd, data, sl⟩, ho, hc, n, hd⟩, hs⟩ := I.tuple hT
  simp only at hc hd
  subst hc hd
  have hle : its.length = xs.length := r.length.symm
  have hi : its.toArray.isEmpty = false := by
    cases its with
    | nil => exact absurd (List.eq_nil_of_length_eq_zero hle.symm) hne
    | cons a b => rfl
  refine wpAny_binaryOp_repeat_ref (T := "tuple") (U := "int") (by decide) ⟨_, ho, rfl⟩ (fun s' => typeIs_int s' 0 t)
    noFill_tuple_mul F.fills_int_mul F.slot_int_rmul repeat_tuple F.slot_int_index.lookup ?_
  refine call_meets F.slot_int_rmul (typeIs_int s 0 t) F.entry_int_rmul (F.args_int_rmul_2 _ _)
    (int_rmul_tuple 0 t l its.toArray n dd sl) ⟨ho, rfl, ⟨_, ho, rfl⟩, ?_⟩
  refine call_meets F.slot_tuple_mul ⟨_, ho, rfl⟩ F.entry_tuple_mul (F.args_tuple_mul_2 _ _) (tupMul0 l its.toArray n dd sl t hi) ⟨ho, ?_⟩
  refine ⟨.ref s.heap.objs.size, _, I.laid (t' := s.toks) (o := .tup []) (fun b ob q => Heap.get?_push_of_some _ q) (Nat.le_refl _) ?_, rfl, q _ (I.hok.fresh (Nat.le_refl _))⟩
  exact ⟨Nat.zero_le _, [], .nil, IsTup.new _ _⟩
def rMulV (K : PySem.W.Frag) : R2 := fun x y H Q => rMulY K x y H Q ∨ rRep0 K x y H Q
theorem opMulV : OpR X (binaryOp .Mult) (rMulV X.K) := OpR.or opMulY op_rep0
end
section
variable {σ : L2.St} {D H : Hp} {L : Own} {K : PySem.W.Frag} {Q : VK}
instance v_mulVI {i j : Int} : VC (rMulV K (.int i) (.int j) H Q) (MulOk i j ∧ Q (.int (i * j)) H) := ⟨fun h => .inl (VC.pf h)⟩
instance v_mulVL {a : Addr} {x : V} {n : Int} [S : Sx D L H] [ha : Ml D L a [x]] : VC (rMulV K (.ref a) (.int n) H Q) ((-1000000 ≤ n ∧ n ≤ 1000000) ∧ ∀ p H', Sx D ((p, .lst (List.replicate n.toNat x)) :: L) H' → Q (.ref p) H') := ⟨fun h => .inl (VC.pf h)⟩
instance v_mulVT {a : Addr} {x : V} {n : Int} [S : Sx D L H] [ha : Kn D a (.tup [x])] : VC (rMulV K (.ref a) (.int n) H Q) ((0 ≤ n ∧ n ≤ 1000) ∧ ∀ p D' H', Sx D' L H' → Sm D D' → Kn D' p (.tup (List.replicate n.toNat x)) → Q (.ref p) H') := ⟨fun h => by
  by_cases c : n = 0
  · subst c
    exact .inr ⟨a, [x], rfl, rfl, sqT S ha.pf, by simp, fun p hp => h.2 p _ _ (S.fix hp) ⟨same_upd (S.dH.free hp)⟩ ⟨upd_same⟩⟩
  · exact .inl (VC.pf ⟨⟨by omega, h.1.2⟩, h.2⟩)⟩
end
/-- tuples of truths -/
def TbA (D : Hp) (us : List V) (bss : List (List Bool)) : Prop := us.length = bss.length ∧ ∀ (i : Nat) (u : V) (bs : List Bool), us[i]? = some u → bss[i]? = some bs → ∃ b, u = .ref b ∧ Kn D b (.tup (bs.map V.bl))
theorem TbA.nil {D : Hp} : TbA D [] [] := ⟨rfl, fun i u bs h => by simp at h⟩
theorem TbA.up {D D' : Hp} {us : List V} {bss : List (List Bool)} (e : Sm D D') (h : TbA D us bss) : TbA D' us bss := ⟨h.1, fun i u bs h1 h2 => by
  obtain ⟨b, e1, k⟩ := h.2 i u bs h1 h2
  exact ⟨b, e1, ⟨e.e _ _ k.pf⟩⟩⟩
theorem TbA.app {D : Hp} {us ws : List V} {bss css : List (List Bool)} (h : TbA D us bss) (k : TbA D ws css) : TbA D (us ++ ws) (bss ++ css) := by
  refine ⟨by rw [List.length_append, List.length_append, h.1, k.1], fun i u bs h1 h2 => ?_⟩
  by_cases c : i < us.length
  · rw [List.getElem?_append_left c] at h1
    rw [List.getElem?_append_left (by rw [← h.1]; exact c)] at h2
    exact h.2 i u bs h1 h2
  · rw [List.getElem?_append_right (by omega)] at h1
    rw [List.getElem?_append_right (by rw [← h.1]; omega)] at h2
    rw [← h.1] at h2
    exact k.2 _ u bs h1 h2
theorem TbA.one {D : Hp} {b : Addr} {bs : List Bool} (k : Kn D b (.tup (bs.map V.bl))) : TbA D [.ref b] [bs] := ⟨rfl, fun i u cs h1 h2 => by
  cases i with
  | zero =>
    simp at h1 h2
    subst h1 h2
    exact ⟨b, rfl, k⟩
  | succ i => simp at h1⟩
theorem TbA.rep {D : Hp} {b : Addr} {bs : List Bool} (k : Kn D b (.tup (bs.map V.bl))) (n : Nat) : TbA D (List.replicate n (.ref b)) (List.replicate n bs) := ⟨by rw [List.length_replicate, List.length_replicate], fun i u cs h1 h2 => by
  have e1 := (List.mem_replicate.mp (List.mem_of_getElem? h1)).2
  have e2 := (List.mem_replicate.mp (List.mem_of_getElem? h2)).2
  subst e1 e2
  exact ⟨b, rfl, k⟩⟩
end Fk

namespace Fk
open PySem PySem.Spec PyProof.Rows L2
/-! ## errors -/
/-- a class of the text as a value -/
structure ClC (K : PySem.W.Frag) (mg : Str → Option Value) (x : Str) (C : Addr) : Prop where
  ns : PySem.W.nsIn K mainGlobals x = some (some (.ref C))
  g : mg x = some (.ref C)
/-- .. an error of it can be made with a text, and raised -/
structure RzC (K : PySem.W.Frag) (C : Addr) : Prop where
  kp : PySem.W.keepIn K (.ref C) = true
  ex : PySem.W.excIn K C [.type "ValueError", .type "Exception", .type "BaseException", .type "object"] "ValueError.__new__" = true
  b : PySem.W.subIn K (.ref C) (.type "BaseException") = some true
  t : PySem.W.typeIn K (.ref C) = some (.type "type")
def tRz (W : WX) (C : Addr) : TS := fun _ σ H => W (.ref C) none σ H
theorem ps_rz {X : Cx} {W : WX} {C : Addr} {x m : Str} {j : Nat} {p p2 pos pos2 : Pos} (k : ClC X.K X.mg x C) (R : RzC X.K C) (hg : Gl X x) (tk : Takes X W) (hc : X.calm = true := by rfl) (hdb : (x == ("__debug__" : Str)) = false := by decide) :
    PS X (.Raise (some (.Call (.Name x p) [.Constant (.str m) j p2] [] pos)) none pos2) (tRz W C) :=
  ps_raise hc tk (pmk_own PySem.F.excBase_ValueError R.ex k.g R.kp (raises_own R.b R.t) hg hdb)
theorem pe_clS {X : Cx} {W : WX} {x : Str} {k j : Nat} {ps : List Str} {sp : Sp} {p pos : Pos} {e : Expr} {es : List Expr} {t : TA} (C : Cl X.prog X.w X.K X.mg X.base (L2.CX X.prog X.w) k x ps sp) (hr : Room j X.A) (hk : k ≤ j) (hg : Gl X x) (tk : Takes X W)
    (ha : PA X (e :: es) t) (hdb : (x == ("__debug__" : Str)) = false := by decide) (he : starEach (e :: es) X.env = (false, eval e X.env) :: starEach es X.env := by rfl) (hpl : (backTo pos (starEach es X.env)).any (·.1) = false := by rfl) :
    PE X (.Call (.Name x p) (e :: es) [] pos) (tCallS sp (WE W) t) := by
  obtain ⟨f, fd, F, hm, kp, hb⟩ := C.ex
  exact pe_callS F (hr.mono hk) hg hm kp hb (passAt tk) ha hdb he hpl
/-- a def that never raises, among those that may -/
theorem FnOk.toX {P : Program} {w : World} {K : PySem.W.Frag} {mg : Str → Option Value} {base : Heap} {k : Nat} {f : Addr} {fd : FuncData} {ps : List Str} {sp : Sp} (F : FnOk P w K mg base CX0 k f fd ps sp) :
    FnOk P w K mg base (L2.CX P w) k f fd ps (fun vs H Q _ => sp vs H Q E0) :=
  ⟨fun vs H Q E q => F.len vs H Q E0 q, fun A outer s H args us vs Q E hr he hb hv hs => codeAny_mono (F.run A outer s H args us vs Q E0 hr he hb hv hs) fun r s' h => by
    cases r with
    | error e => exact False.elim h
    | ok u => cases u <;> exact h⟩
theorem FnOk.join {P : Program} {w : World} {K : PySem.W.Frag} {mg : Str → Option Value} {base : Heap} {k j n : Nat} {f : Addr} {fd : FuncData} {ps : List Str} {sp sp2 : Sp} (F : FnOk P w K mg base CX0 k f fd ps sp) (G : FnOk P w K mg base (L2.CX P w) j f fd ps sp2) (hk : k ≤ n) (hj : j ≤ n) :
    FnOk P w K mg base (L2.CX P w) n f fd ps (fun vs H Q E => sp vs H Q E0 ∨ sp2 vs H Q E) :=
  ⟨fun vs H Q E q => by
    rcases q with q | q
    · exact F.len vs H Q E0 q
    · exact G.len vs H Q E q, fun A outer s H args us vs Q E hr he hb hv hs => by
    rcases hs with hs | hs
    · exact (FnOk.toX F).run A outer s H args us vs Q E (hr.mono hk) he hb hv hs
    · exact G.run A outer s H args us vs Q E (hr.mono hj) he hb hv hs⟩
section
variable {σ : L2.St} {D H : Hp} {L : Own} {K : PySem.W.Frag} {Q : VK}
instance v_rz {W : WX} {C : Addr} {Es : Ends} : VC (tRz W C Es σ H) (W (.ref C) none σ H) := ⟨fun h => h⟩
instance v_callS {sp : Sp} {E : L2.St → XK} {tr : TA} : VC (tCallS sp E tr σ H Q) (tr σ H fun vs H1 => sp vs H1 Q (E σ)) := ⟨fun h => h⟩
end
/-! isinstance of the caught error -/
def rIsES (K : PySem.W.Frag) (a : Addr) (cls : Value) (d : Option Addr) : List V → Hp → VK → Prop := fun xs H Q => ∃ (D : Addr), cls = .ref D ∧ d = none ∧ ExcC K D ∧
  ((∃ (c : V) (cv : Value) (b : Bool), xs = [.ref a, c] ∧ ClsV c cv ∧ PySem.W.kitOne K (.ref D) cv = some b ∧ Q (.bl b) H) ∨
   ∃ (tp : Addr) (cs : List V) (us : List Value) (b : Bool), xs = [.ref a, .ref tp] ∧ H tp = some (.tup cs) ∧ Paired ClsV cs us ∧ PySem.W.kitAny K (.ref D) us = some b ∧ Q (.bl b) H)
theorem call_isES {X : Cx} {a : Addr} {oe : Obj} {cls : Value} {d : Option Addr} {pn : List (Addr × Obj)} (hz : Zc cls d oe) (hf : ∃ vs, oe.data = .fields vs) : CallR (X.suite a ((a, oe) :: pn)) (.builtin "isinstance") (rIsES X.K a cls d) := by
  intro pins s σ H xs us Q I r h
  obtain ⟨D, rfl, rfl, C, h⟩ := h
  rcases h with ⟨c, cv, b, rfl, hcv, e, q⟩ | ⟨tp, cs, ws, b, rfl, hT, kp, e, q⟩
  · exact call_isE C hz hf pins s σ H _ us Q I r ⟨c, cv, b, rfl, fun u ru => hcv.eq ru, e, q⟩
  · obtain ⟨u1, u2, rfl, r1, r2⟩ := vals2 r
    cases (show u1 = Value.ref a from r1)
    cases (show u2 = Value.ref tp from r2)
    obtain ⟨hget, _⟩ := I.pin (a, oe) (List.mem_append.mpr (.inl List.mem_cons_self))
    obtain ⟨vs, hv⟩ := hf
    have J : PySem.W.InstAt s.heap a oe D none := by
      obtain ⟨oc, od, oda, osl⟩ := oe
      obtain ⟨h1, h2⟩ := hz
      dsimp only at h1 h2 hv
      subst h1 h2 hv
      exact ⟨hget, rfl, rfl, trivial⟩
    obtain ⟨_, its, rv, o, h1, h2, n, h3⟩ := (show ObjOk X.prog X.w H s.heap tp (.tup cs) from I.hok tp _ hT)
    have e3 := ClsV.all kp rv
    subst e3
    obtain ⟨oc, od, dt, sl⟩ := o
    simp only at h2 h3
    subst h2 h3
    exact PySem.W.kia_tup (PySem.W.handS_kitx_exc C.hg C.hk C.hs C.hd C.ha C.hn C.ht C.hm) I.kIn J h1 e (fun z => nomatch z) fun tk => ⟨.bl b, H, I.kept (t' := tk) fun _ _ z => z, rfl, q⟩
class ExC (K : PySem.W.Frag) (D : Addr) : Prop where
  pf : ExcC K D
class KtO (K : PySem.W.Frag) (D : Addr) (c : V) (b : outParam Bool) : Prop where
  pf : ∃ cv, ClsV c cv ∧ PySem.W.kitOne K (.ref D) cv = some b
class KtA (K : PySem.W.Frag) (D : Addr) (cs : List V) (b : outParam Bool) : Prop where
  pf : ∃ us, Paired ClsV cs us ∧ PySem.W.kitAny K (.ref D) us = some b
theorem KtO.own {K : PySem.W.Frag} {D C : Addr} {b : Bool} (h : PySem.W.kitOne K (.ref D) (.ref C) = some b) : KtO K D (.ref C) b := ⟨_, .own C, h⟩
theorem KtO.ty {K : PySem.W.Frag} {D : Addr} {n : String} {b : Bool} (h : PySem.W.kitOne K (.ref D) (.type n) = some b) : KtO K D (.ty n) b := ⟨_, .ty n, h⟩
instance kta0 {K : PySem.W.Frag} {D : Addr} : KtA K D [] false := ⟨[], .nil, rfl⟩
instance ktaF {K : PySem.W.Frag} {D : Addr} {c : V} {cs : List V} {b : Bool} [h : KtO K D c false] [t : KtA K D cs b] : KtA K D (c :: cs) b := by
  obtain ⟨cv, h1, h2⟩ := h.pf
  obtain ⟨us, t1, t2⟩ := t.pf
  refine ⟨cv :: us, .cons h1 t1, ?_⟩
  unfold PySem.W.kitAny
  rw [h2]
  exact t2
instance ktaT {K : PySem.W.Frag} {D : Addr} {c : V} {cs : List V} {b : Bool} [h : KtO K D c true] [t : KtA K D cs b] : KtA K D (c :: cs) true := by
  obtain ⟨cv, h1, h2⟩ := h.pf
  obtain ⟨us, t1, t2⟩ := t.pf
  refine ⟨cv :: us, .cons h1 t1, ?_⟩
  unfold PySem.W.kitAny
  rw [h2]
section
variable {σ : L2.St} {D0 H : Hp} {L : Own} {K : PySem.W.Frag} {Q : VK}
instance v_ise1 {a D : Addr} {c : V} {b : Bool} [x : ExC K D] [k : KtO K D c b] : VC (rIsES K a (.ref D) none [.ref a, c] H Q) (Q (.bl b) H) := ⟨fun q => by
  obtain ⟨cv, h1, h2⟩ := k.pf
  exact ⟨D, rfl, rfl, x.pf, .inl ⟨c, cv, b, rfl, h1, h2, q⟩⟩⟩
instance v_iseT {a D tp : Addr} {cs : List V} {b : Bool} [S : Sx D0 L H] [kt : Kn D0 tp (.tup cs)] [x : ExC K D] [k : KtA K D cs b] : VC (rIsES K a (.ref D) none [.ref a, .ref tp] H Q) (Q (.bl b) H) := ⟨fun q => by
  obtain ⟨us, h1, h2⟩ := k.pf
  exact ⟨D, rfl, rfl, x.pf, .inr ⟨tp, cs, us, b, rfl, S.dH _ _ kt.pf, h1, h2, q⟩⟩⟩
end
/-! kinds -/
class KnC (K : PySem.W.Frag) (H : Hp) (v : V) : Prop where
  pf : ∃ (t : String) (b1 b2 : Bool), TyX K H v (.type t) ∧ kitB t "int" = some b1 ∧ kitB t "bool" = some b2
/-- what is no whole number from lo to hi -/
inductive OddV (lo hi : Int) (D : Hp) : V → Prop
  | int (i : Int) (h : i < lo ∨ hi < i) : OddV lo hi D (.int i)
  | bl (b : Bool) : OddV lo hi D (.bl b)
  | non : OddV lo hi D .non
  | str (z : Str) : OddV lo hi D (.str z)
  | tup (a : Addr) (xs : List V) (h : D a = some (.tup xs)) : OddV lo hi D (.ref a)
  | lst (a : Addr) (xs : List V) (h : D a = some (.lst xs)) : OddV lo hi D (.ref a)
  | dic (a : Addr) (kvs : List (Key × V)) (h : D a = some (.dK kvs)) : OddV lo hi D (.ref a)
theorem OddV.up {lo hi : Int} {D D' : Hp} {v : V} (e : Same D D') (h : OddV lo hi D v) : OddV lo hi D' v := by
  cases h with
  | int i h => exact .int i h
  | bl b => exact .bl b
  | non => exact .non
  | str z => exact .str z
  | tup a xs h => exact .tup a xs (e _ _ h)
  | lst a xs h => exact .lst a xs (e _ _ h)
  | dic a kvs h => exact .dic a kvs (e _ _ h)
instance tyDk {K : PySem.W.Frag} {D H : Hp} {L : Own} {a : Addr} {kvs : List (Key × V)} [S : Sx D L H] [k : Kn D a (.dK kvs)] : TyC K H (.ref a) "dict" := ⟨.base (.dK (S.dH _ _ k.pf))⟩
/-- isinstance(v, int) and not isinstance(v, bool) -/
def whB (t : String) : Bool := (kitB t "int" == some true) && !(kitB t "bool" == some true)
/-! new dicts -/
section
variable {σ : L2.St} {D H : Hp} {L : Own} {K : PySem.W.Frag} {Q : VK}
instance v_dnew [S : Sx D L H] : VC (tDNewK σ H Q) (∀ p H', Sx D ((p, .dK []) :: L) H' → Q (.ref p) H') := ⟨fun h p hp => h p _ (S.new hp)⟩
end
theorem bb_ValueError : bootBuiltins "ValueError" = some (.type "ValueError") := by decide +kernel
/-! texts -/
section
variable {σ : L2.St} {D H : Hp} {L : Own} {K : PySem.W.Frag} {Q : VK}
instance v_eqSr {z : Str} : VC (rEqX K (.str z) (.str z) H Q) (Q (.bl true) H) := ⟨fun h => .inl ⟨rfl, by rw [decide_eq_true rfl]; exact h⟩⟩
instance v_neSr {z : Str} : VC (rNeX K (.str z) (.str z) H Q) (Q (.bl false) H) := ⟨fun h => .inl ⟨rfl, by rw [decide_eq_true rfl]; exact h⟩⟩
theorem ra_strs : ∀ zs : List Str, RpAll D (zs.map V.str) (zs.map PyData.str)
  | [] => .nil
  | z :: zs => .cons (.str z) (ra_strs zs)
theorem eqv_strs : ∀ zs : List Str, PyData.eqvAll (zs.map PyData.str) (zs.map PyData.str) = true
  | [] => by simp [PyData.eqvAll]
  | z :: zs => by
    rw [List.map_cons]
    simp only [PyData.eqvAll]
    rw [eqv_strs zs]
    simp [PyData.eqv]
end
end Fk

namespace Fk
open PySem PySem.Spec PyProof.Rows L2
/-! ## list.count -/
def rCnt (K : PySem.W.Frag) : V → List V → Hp → VK → Prop := fun x xs H Q => ∃ (a : Addr) (ys : List V) (y : V), x = V.ref a ∧ xs = [y] ∧ SqL K H a ys ∧ flatV y = true ∧ ys.all flatV = true ∧ Q (.int (ys.countP fun z => eqV z y : Nat)) H
theorem countP_eqU {y : V} : ∀ {ys : List V} {us : List Value}, Vals ys us → ys.all flatV = true → us.countP (eqU y) = ys.countP fun z => eqV z y
  | _, _, .nil, _ => rfl
  | z :: ys, u :: us, .cons r t, f => by
    rw [List.all_cons, Bool.and_eq_true] at f
    rw [List.countP_cons, List.countP_cons, countP_eqU t f.2, eqU_of r f.1]
section
variable {X : Cx}
theorem mt_cnt : MtR X "list.count" (rCnt X.K) := by
  intro pins s σ H x xs v us Q I rx rxs h
  obtain ⟨a, ys, y, rfl, rfl, hs, fy, fys, q⟩ := h
  cases rx
  cases rxs with
  | cons ry rt =>
    rename_i uy ut
    cases rt
    obtain ⟨its, rv, ⟨⟨cls, dd, data, sl⟩, n, ho, hc, hdn, hd⟩, hlen⟩ := I.list hs
    simp only at hc hd
    subst hc hd
    refine call_meets PySem.F.slot_list_count ⟨_, ho, rfl⟩ PySem.F.entry_list_count (PySem.F.args_list_count_2 _ _) (SeqAt.list_countAt a its.toArray n dd sl uy (eqU y)) ⟨ho, fun u' hu' => mem_eqAt ry fy rv fys u' (by simpa using hu'), ?_⟩
    refine ⟨.int (ys.countP fun z => eqV z y : Nat), H, I.tok _, ⟨s.toks, ?_⟩, q⟩
    rw [show its.toArray.toList = its from rfl, countP_eqU rv fys]
end
/-! ## defs that are handed the caught error -/
structure FnP (P : Program) (w : World) (K : PySem.W.Frag) (mg : Str → Option Value) (base : Heap) (CX : CXT) (k : Nat) (f : Addr) (fd : FuncData) (ps : List Str) (sp : Addr → Value → Option Addr → Sp) : Prop where
  len : ∀ a cls d vs H Q E, sp a cls d vs H Q E → vs.length = ps.length
  run : ∀ (A : Around) (outer : List Env) (s : Shared) (H : Hp) (args : Args) (us : List Value) (vs : List V) (Q : VK) (E : XK) (p : Addr × Obj) (cls : Value) (d : Option Addr), L2H.RoomH k A → L2H.PinOk outer H s p → Zc cls d p.2 → (∃ vs, p.2.data = .fields vs) → Env0 P w K mg base A outer s H → BindsTo s fd args (ps.zip us) → Vals vs us → sp p.1 cls d vs H Q E →
    codeAny (model P w) A (.call (.ref f) args) (CR CX outer P w H s Q E) s
theorem Fun.okP {P : Program} {w : World} {K : PySem.W.Frag} {mg : Str → Option Value} {base : Heap} {x qual : Str} {st : Stmt} {f : Addr} {fd : FuncData} {N ps : List Str} {k : Nat} {sp : Addr → Value → Option Addr → Sp} (F : Fun K x qual st f fd) (S : FnScope N ps (defScope st))
    (len : ∀ a cls d vs H Q E, sp a cls d vs H Q E → vs.length = ps.length)
    (hbody : ∀ (cdv : Value) (A : Around) (outer : List Env) (s : Shared) (H : Hp) (vs : List V) (Q : VK) (E : XK) (p : Addr × Obj) (cls : Value) (d : Option Addr), L2H.RoomH k (A.deeper (envOfC qual (defScope st) s.heap.objs.size f cdv)) → Zc cls d p.2 → (∃ vs, p.2.data = .fields vs) → sp p.1 cls d vs H Q E →
      ∃ t, PSs (L2H.cxH CX0 P w K mg base N qual (defScope st) f cdv A outer s H E p) (defBody st) t ∧ t { nx := fun _ H' => Q .non H', rt := Q } (start N vs) H) : FnP P w K mg base CX0 (k + 1) f fd ps sp := by
  obtain ⟨oc, od, kV, doc, pm, an, cdv, ct, osl, rfl, lk, hcd⟩ := F.ex
  refine ⟨len, fun A outer s H args us vs Q E p cls d hr hpin hz hf e0 hb r hsp => ?_⟩
  have hl := len _ _ _ _ _ _ _ hsp
  have KX : K.In s.heap := e0.mod.kin.keeps fun b o e => (e0.bs b o e).1
  have lim : s.heap.NoLimit := e0.mod.nolimit.keeps fun b o e => (e0.bs b o e).1
  have hkind : ∀ y ∈ ps.zip us, (defScope st).names.lookup y.1 = some .local ∨ ((defScope st).names.lookup y.1 = some .cell ∧ ((cellsFrom (s.heap.objs.size + 1) (defScope st).names []).lookup y.1).isSome = true) := fun ⟨n, v⟩ hy => by
    rcases S.par n (List.of_mem_zip hy).1 with q | q
    · exact .inl q
    · exact .inr ⟨q, PySem.W.cellsFrom_some _ _ _ (.inl q)⟩
  refine codeAny_call_function hr.depth (KX _ _ lk) rfl S.co S.gen rfl (PySem.W.codeRec_of KX hcd) (hb _ _ _ _ ?_)
  refine wpAny_newFunctionEnv_cells S.kind hkind fun env he s1 x => ?_
  subst he
  refine ⟨lim.keeps x.toInCall.keep, codeAny_func ?_⟩
  obtain ⟨t, ht, hq⟩ := hbody cdv A outer s H vs Q E p cls d (hr.deeper _) hz hf hsp
  have I : Inv (L2H.cxH CX0 P w K mg base N qual (defScope st) f cdv A outer s H E p) [] (start N vs) H s1 := L2H.inv_startH S hpin e0 hl r x
  refine wpAny_mono (ht.run [] s1 (start N vs) H _ I hq) (fun fl s' hs => ?_) fun e s' hs => hs
  have fin : ∀ {σ' : L2.St} {H' : Hp} {v : V} {u : Value}, Inv (L2H.cxH CX0 P w K mg base N qual (defScope st) f cdv A outer s H E p) [] σ' H' s' → RelV v u → Q v H' → CE outer P w H s Q u s' :=
    fun {σ' H' v u} J rv q => ⟨v, H', J.os, J.bare, J.base, J.hok, rv, q⟩
  cases fl with
  | ret u =>
    obtain ⟨v, σ', H', J, rv, q⟩ := hs
    exact fin J rv q
  | next =>
    obtain ⟨σ', H', J, q⟩ := hs
    exact fin (v := V.non) (u := Value.none) J rfl q
  | brk =>
    obtain ⟨_, _, _, q⟩ := hs
    exact False.elim q
  | cont =>
    obtain ⟨_, _, _, q⟩ := hs
    exact False.elim q
structure ClP (P : Program) (w : World) (K : PySem.W.Frag) (mg : Str → Option Value) (base : Heap) (CX : CXT) (k : Nat) (x : Str) (ps : List Str) (sp : Addr → Value → Option Addr → Sp) : Prop where
  ex : ∃ (f : Addr) (fd : FuncData), FnP P w K mg base CX k f fd ps sp ∧ mg x = some (.ref f) ∧ PySem.W.keepIn K (.ref f) = true ∧ Binds K fd ps []
theorem ClP.mk' {P : Program} {w : World} {K : PySem.W.Frag} {mg : Str → Option Value} {base : Heap} {CX : CXT} {k : Nat} {x : Str} {ps : List Str} {sp : Addr → Value → Option Addr → Sp} {f : Addr} {fd : FuncData} {st : Stmt}
    (F : Fun K x x st f fd) (o : FnP P w K mg base CX k f fd ps sp) (g : mg x = some (.ref f)) (b : Binds K fd ps []) : ClP P w K mg base CX k x ps sp := ⟨f, fd, o, g, F.kp, b⟩
def tCallP (sp : Addr → Value → Option Addr → Sp) (a : Addr) (cls : Value) (d : Option Addr) (t : TA) : TE := fun σ H Q => t σ H fun vs H1 => sp a cls d vs H1 Q E0
theorem pe_clP {X : Cx} {x : Str} {k j : Nat} {ps : List Str} {sp : Addr → Value → Option Addr → Sp} {q pos : Pos} {e : Expr} {es : List Expr} {t : TA} {a : Addr} {oe : Obj} {cls : Value} {d : Option Addr} (C : ClP X.prog X.w X.K X.mg X.base CX0 k x ps sp) (hr : L2H.RoomH j X.A) (hk : k ≤ j) (hp : (a, oe) ∈ X.pn) (hz : Zc cls d oe) (hf : ∃ vs, oe.data = .fields vs) (hg : Gl X x)
    (ha : PA X (e :: es) t) (hdb : (x == ("__debug__" : Str)) = false := by decide) (he : starEach (e :: es) X.env = (false, eval e X.env) :: starEach es X.env := by rfl) (hpl : (backTo pos (starEach es X.env)).any (·.1) = false := by rfl) :
    PE X (.Call (.Name x q) (e :: es) [] pos) (tCallP sp a cls d t) := by
  obtain ⟨f, fd, F, hm, kp, hb⟩ := C.ex
  refine ⟨fun pins s σ H Q I h => ?_⟩
  refine wpAny_Call_Name_kw (ld_glob I hg hm ?_ hdb)
  refine PySem.W.callWith_K (h₀ := X.base) I.ok.mod.kin kp (thn (ha.run pos pins s σ H _ I h) fun us s1 ⟨vs, H1, I1, r, q⟩ => ⟨I1.kIn, ?_⟩) he hpl
  have hl : us.length = ps.length := by rw [← r.length]; exact F.len _ _ _ _ _ _ _ q
  have b := hb s1 us I1.kIn (by rw [List.append_nil]; exact hl)
  rw [List.append_nil] at b
  have P1 := I1.pin (a, oe) (List.mem_append_left _ hp)
  have hpin : L2H.PinOk X.stack H1 s1 (a, oe) := ⟨P1.1, P1.2.1, fun hm => (List.mem_cons.mp (I1.stkSub a hm)).elim P1.2.2.1 P1.2.2.2.1, P1.2.2.2.2⟩
  refine wpAny_call (codeAny_mono (F.run X.A X.stack s1 H1 ⟨us, []⟩ us vs Q E0 (a, oe) cls d (hr.mono hk) hpin hz hf I1.env0 b r q) fun r s' hq => ?_)
  cases r with
  | error e => exact False.elim hq
  | ok fl =>
    cases fl with
    | ret u => exact I1.after hq
    | next => exact False.elim hq
    | brk => exact False.elim hq
    | cont => exact False.elim hq
/-- isinstance of an error that is pinned -/
theorem call_isEP {X : Cx} {p : Addr × Obj} {cls : Value} {d : Option Addr} (hp : p ∈ X.pn) (hz : Zc cls d p.2) (hf : ∃ vs, p.2.data = .fields vs) : CallR X (.builtin "isinstance") (rIsES X.K p.1 cls d) := by
  intro pins s σ H xs us Q I r h
  obtain ⟨D, rfl, rfl, C, h⟩ := h
  obtain ⟨hget, _⟩ := I.pin p (List.mem_append.mpr (.inl hp))
  obtain ⟨vs, hv⟩ := hf
  obtain ⟨a, oe⟩ := p
  have J : PySem.W.InstAt s.heap a oe D none := by
    obtain ⟨oc, od, oda, osl⟩ := oe
    obtain ⟨h1, h2⟩ := hz
    dsimp only at h1 h2 hv
    subst h1 h2 hv
    exact ⟨hget, rfl, rfl, trivial⟩
  rcases h with ⟨c, cv, b, rfl, hcv, e, q⟩ | ⟨tp, cs, ws, b, rfl, hT, kp, e, q⟩
  · obtain ⟨u1, u2, rfl, r1, r2⟩ := vals2 r
    cases (show u1 = Value.ref a from r1)
    have ec := hcv.eq r2
    subst ec
    exact PySem.W.kia_one (PySem.W.handS_kitx_exc C.hg C.hk C.hs C.hd C.ha C.hn C.ht C.hm) I.kIn J e (fun z => nomatch z) fun tk => ⟨.bl b, H, I.kept (t' := tk) fun _ _ z => z, rfl, q⟩
  · obtain ⟨u1, u2, rfl, r1, r2⟩ := vals2 r
    cases (show u1 = Value.ref a from r1)
    cases (show u2 = Value.ref tp from r2)
    obtain ⟨_, its, rv, o, h1, h2, n, h3⟩ := (show ObjOk X.prog X.w H s.heap tp (.tup cs) from I.hok tp _ hT)
    have e3 := ClsV.all kp rv
    subst e3
    obtain ⟨oc, od, dt, sl⟩ := o
    simp only at h2 h3
    subst h2 h3
    exact PySem.W.kia_tup (PySem.W.handS_kitx_exc C.hg C.hk C.hs C.hd C.ha C.hn C.ht C.hm) I.kIn J h1 e (fun z => nomatch z) fun tk => ⟨.bl b, H, I.kept (t' := tk) fun _ _ z => z, rfl, q⟩
theorem room_mark {j : Nat} {A : Around} (r : Room j A) (o : Option Value) : L2H.RoomH j (A.mark o) := ⟨r.dp, r.un⟩
section
variable {σ : L2.St} {D H : Hp} {L : Own} {K : PySem.W.Frag} {Q : VK}
instance v_callP {sp : Addr → Value → Option Addr → Sp} {a : Addr} {cls : Value} {d : Option Addr} {tr : TA} : VC (tCallP sp a cls d tr σ H Q) (tr σ H fun vs H1 => sp a cls d vs H1 Q E0) := ⟨fun h => h⟩
class EvC (z y : V) (b : outParam Bool) : Prop where
  pf : eqV z y = b
instance ev1 : EvC (.bl true) (.bl true) true := ⟨rfl⟩
instance ev2 : EvC (.bl false) (.bl true) false := ⟨rfl⟩
instance ev3 : EvC (.bl true) (.bl false) false := ⟨rfl⟩
instance ev4 : EvC (.bl false) (.bl false) true := ⟨rfl⟩
class CntC (bs : List V) (y : V) (n : outParam Nat) : Prop where
  pf : (bs.countP fun z => eqV z y) = n
  fl : bs.all flatV = true
instance cnt0 {y : V} : CntC [] y 0 := ⟨rfl, rfl⟩
instance cntT {b : Bool} {bs : List V} {y : V} {n : Nat} [h : EvC (.bl b) y true] [t : CntC bs y n] : CntC (.bl b :: bs) y (n + 1) := ⟨by rw [List.countP_cons, t.pf, h.pf]; rfl, by rw [List.all_cons, t.fl]; rfl⟩
instance cntF {b : Bool} {bs : List V} {y : V} {n : Nat} [h : EvC (.bl b) y false] [t : CntC bs y n] : CntC (.bl b :: bs) y n := ⟨by rw [List.countP_cons, t.pf, h.pf]; rfl, by rw [List.all_cons, t.fl]; rfl⟩
instance cntA {bs cs : List V} {y : V} {n m : Nat} [h : CntC bs y n] [t : CntC cs y m] : CntC (bs ++ cs) y (n + m) := ⟨by rw [List.countP_append, h.pf, t.pf], by rw [List.all_append, h.fl, t.fl]; rfl⟩
class IxC (bs : List V) (y : V) (j : outParam Nat) : Prop where
  pf : ∃ z, bs[j]? = some z ∧ eqV z y = true ∧ ∀ (m : Nat) (z' : V), m < j → bs[m]? = some z' → eqV z' y = false
instance ixT {b : Bool} {bs : List V} {y : V} [h : EvC (.bl b) y true] : IxC (.bl b :: bs) y 0 := ⟨.bl b, rfl, h.pf, fun m z' hm => absurd hm (Nat.not_lt_zero _)⟩
instance ixF {b : Bool} {bs : List V} {y : V} {j : Nat} [h : EvC (.bl b) y false] [t : IxC bs y j] : IxC (.bl b :: bs) y (j + 1) := by
  obtain ⟨z, h1, h2, h3⟩ := t.pf
  refine ⟨z, by simpa using h1, h2, fun m z' hm hz' => ?_⟩
  cases m with
  | zero =>
    simp at hz'
    rw [← hz']
    exact h.pf
  | succ m => exact h3 m z' (by omega) (by simpa using hz')
instance ixA {bs cs : List V} {y : V} {j : Nat} [h : IxC bs y j] : IxC (bs ++ cs) y j := by
  obtain ⟨z, h1, h2, h3⟩ := h.pf
  have hl := (List.getElem?_eq_some_iff.mp h1).1
  exact ⟨z, by rw [List.getElem?_append_left hl]; exact h1, h2, fun m z' hm hz' => h3 m z' hm (by rw [List.getElem?_append_left (by omega)] at hz'; exact hz')⟩
instance v_cnt {a : Addr} {bs : List V} {b : Bool} {n : Nat} [S : Sx D L H] [ha : Sl K D L a bs] [c : CntC bs (.bl b) n] : VC (rCnt K (.ref a) [.bl b] H Q) (Q (.int (n : Nat)) H) := ⟨fun h => ⟨a, bs, .bl b, rfl, rfl, ha.pf.sq S, rfl, c.fl, by rw [c.pf]; exact h⟩⟩
instance v_idxB {a : Addr} {bs : List V} {b : Bool} {n j : Nat} [S : Sx D L H] [ha : Sl K D L a bs] [c : CntC bs (.bl b) n] [x : IxC bs (.bl b) j] : VC (rIdx K (.ref a) [.bl b] H Q) (Q (.int (j : Nat)) H) := ⟨fun h => by
  obtain ⟨z, h1, h2, h3⟩ := x.pf
  exact ⟨a, bs, .bl b, j, z, rfl, rfl, ha.pf.sq S, rfl, c.fl, h1, h2, h3, h⟩⟩
instance v_disp1 {k v : Int} [S : Sx D L H] : VC (tDisp [(tC (.int k), tC (.int v))] σ H Q) (∀ p H', Sx D ((p, .dK [(Sum.inl k, .int v)]) :: L) H' → Q (.ref p) H') := ⟨fun h p hp => by
  show upd H p (.dK []) p = some (.dK []) ∧ _
  refine ⟨upd_same, [(Sum.inl k, .int v)], rfl, by show 1 ≤ 15; decide, ?_⟩
  have e : upd (upd H p (.dK [])) p (.dK (mergeK [] [((Sum.inl k : Key), V.int v)])) = upd H p (.dK [(Sum.inl k, .int v)]) := by
    funext b
    unfold upd
    by_cases c : b = p
    · rw [if_pos c, if_pos c]
      rfl
    · rw [if_neg c, if_neg c, if_neg c]
  rw [e]
  exact h p _ (S.new hp)⟩
instance v_pow_10_50 : VC (rI CPow (fun i j => .int (i ^ j.toNat)) (.int 10) (.int 50) H Q) (Q (.int 100000000000000000000000000000000000000000000000000) H) := ⟨fun k => ⟨10, 50, rfl, rfl, ⟨by decide, by decide, by decide⟩, k⟩⟩
end
end Fk

namespace Fk
open PySem PySem.Spec PyProof.Rows L2
/-! ## range downwards, min of a list, clear, lists of pairs -/
section
variable {X : Cx}
def rMinL (K : PySem.W.Frag) : List V → Hp → VK → Prop := rMin K
theorem cr_minX (hc : X.calm = true) : CallR X (.builtin "min") (rMinL X.K) := cr_min hc
end
def IsR3 (vs : List V) (H : Hp) (R : It → Hp → Prop) : Prop := ∃ (i j c : Int) (n : Nat), vs = [.int i, .int j, .int c] ∧ RgC i j c n ∧ R (Itc i c n) H
section
variable {σ : L2.St} {D H : Hp} {L : Own} {K : PySem.W.Frag} {Q : VK}
instance v_rng3 {tr : TA} {R : It → Hp → Prop} : VC (iRng3 tr σ H R) (tr σ H fun vs H1 => IsR3 vs H1 R) := ⟨fun h => h⟩
instance v_r3d {i j : Int} {R : It → Hp → Prop} : VC (IsR3 [.int i, .int j, .int (-1)] H R) (((-1000000000 ≤ i ∧ i ≤ 1000000000) ∧ -1000000000 ≤ j ∧ j ≤ 1000000000) ∧ R (Itc i (-1) (i - j).toNat) H) :=
  ⟨fun h => ⟨i, j, -1, _, rfl, RgC.neg (by omega) (by omega) (by omega) (by omega), h.2⟩⟩
instance v_minL {a : Addr} {xs : List V} {ns : List Int} [S : Sx D L H] [ha : Sl K D L a xs] [c : IsC xs ns] : VC (rMinL K [.ref a] H Q) (0 < ns.length ∧ ∀ m, m ∈ ns → (∀ y, y ∈ ns → m ≤ y) → Q (.int m) H) :=
  ⟨fun h => ⟨a, ns, rfl, by rw [← c.pf]; exact ha.pf.sq S, h.1, h.2⟩⟩
instance v_clear {a : Addr} {xs : List V} {n : Nat} {L' : Own} [S : Sx D L H] [h : Fi L a (.lst xs) n] [e : Se L n (a, .lst []) L'] : VC (rClear (.ref a) [] H Q) (∀ H', Sx D L' H' → Q .non H') :=
  ⟨fun k => ⟨a, xs, rfl, rfl, S.at h.pf, k _ (by have := S.put (.lst []) h.pf; rw [e.pf] at this; exact this)⟩⟩
theorem sh_LT (xss : List (List Int)) : SeqAt.shaped (.list (xss.map tI)) = true := (Sh.list (n := 1) fun d hd => by
  obtain ⟨r, _, rfl⟩ := List.mem_map.mp hd
  exact Sh.tup (n := 0) Sh.ints).ok
theorem eqv_LT (xs ys : List (List Int)) : PyData.eqv (.list (xs.map tI)) (.list (ys.map tI)) = decide (xs = ys) := by simp only [PyData.eqv, eqv_mapT]
theorem dpLT {a : Addr} {us : List V} {xs : List (List Int)} (S : Sx D L H) (ha : Rds K D L a us) (ra : RpAll D us (xs.map tI)) : Dp K H (.ref a) (.list (xs.map tI)) := .lst (ha.sq S) (RpAll.dp (RpAll.up S.dH ra))
theorem r_eqLT {a b : Addr} {us ws : List V} {xs ys : List (List Int)} (S : Sx D L H) (ha : Rds K D L a us) (hb : Rds K D L b ws) (ra : RpAll D us (xs.map tI)) (rb : RpAll D ws (ys.map tI)) (k : Q (.bl (decide (xs = ys))) H) : rEqX K (.ref a) (.ref b) H Q :=
  .inr ⟨_, _, dpLT S ha ra, dpLT S hb rb, sh_LT xs, sh_LT ys, by rw [eqv_LT]; exact k⟩
theorem r_neLT {a b : Addr} {us ws : List V} {xs ys : List (List Int)} (S : Sx D L H) (ha : Rds K D L a us) (hb : Rds K D L b ws) (ra : RpAll D us (xs.map tI)) (rb : RpAll D ws (ys.map tI)) (k : Q (.bl (!decide (xs = ys))) H) : rNeX K (.ref a) (.ref b) H Q :=
  .inr ⟨_, _, dpLT S ha ra, dpLT S hb rb, sh_LT xs, sh_LT ys, by rw [eqv_LT]; exact k⟩
end
theorem Sx.tail' {D : Hp} {L : Own} {H : Hp} (S : Sx D L H) : Sx D [] H := ⟨S.dH, fun q hq => (nomatch hq), List.nodup_nil⟩
theorem opNeS {X : Cx} {A : Around} (h : A.units + 64 < cLine) (e : X.A.units = A.units := by rfl) : OpR X (compareOp .NotEq) (rNeX X.K) := opNe (by rw [e]; exact h)
theorem opEqS {X : Cx} {A : Around} (h : A.units + 64 < cLine) (e : X.A.units = A.units := by rfl) : OpR X (compareOp .Eq) (rEqX X.K) := opEq (by rw [e]; exact h)
theorem pe_bmS (K : PySem.W.Frag) {X : Cx} {T id : String} {name : Str} {r : V → List V → Hp → VK → Prop} {o e : Expr} {es : List Expr} {to : TE} {t : TA} {apos cpos : Pos} (pa : PlainAttrs T) (slot : Slot T name id) (hty : typeOf (.builtin id) = pure (.type "method_descriptor")) (hm : MtR X id r) (ho : PE X o to) (ha : PA X (e :: es) t)
    (hK : X.K = K := by rfl)
    (hbase : attributeBase o name X.env (eval o X.env) = eval o X.env := by rfl)
    (hfew : ((backTo cpos (starEach (e :: es) X.env)).all (fun x => !x.1) && (backToKw cpos (keywordEach [] X.env)).all (fun x => x.1.isSome)
      && decide ((e :: es).length + ([] : List Keyword).length + (if ([] : List Keyword).isEmpty then 0 else 1) < 30)) = true := by rfl)
    (hline : (apos.endLine == cpos.line) = true := by rfl) (hs : starEach (e :: es) X.env = (false, eval e X.env) :: starEach es X.env := by rfl) (hplain : (backTo cpos (starEach es X.env)).any (·.1) = false := by rfl) :
    PE X (.Call (.Attribute o name apos) (e :: es) [] cpos) (tBM K T r to t) := by
  subst hK
  exact pe_bm pa slot hty hm ho ha hbase hfew hline hs hplain
end Fk

namespace Fk
open PySem PySem.Spec PyProof.Rows L2
/-! ## in, pop(i), list(range), lists or tuples -/
section
variable {X : Cx}
def rInX (K : PySem.W.Frag) : R2 := rIn K false
theorem opInX : OpR X (compareOp .In) (rInX X.K) := op_in_seq
theorem mt_popAtX : MtR X "list.pop" rPopAt := mt_popAt
end
theorem inV_int {x : Int} : ∀ {xs : List Int}, inV (.int x) (xs.map V.int) = decide (x ∈ xs)
  | [] => by simp [inV]
  | y :: xs => by
    have ih := inV_int (x := x) (xs := xs)
    unfold inV at ih ⊢
    rw [List.map_cons, List.any_cons, ih]
    by_cases h : y = x
    · subst h
      simp [eqV]
    · have h' : ¬ x = y := fun e => h e.symm
      simp [eqV, h, h']
theorem inV_bl {x : Bool} : ∀ {xs : List Bool}, inV (.bl x) (xs.map V.bl) = decide (x ∈ xs)
  | [] => by simp [inV]
  | y :: xs => by
    have ih := inV_bl (x := x) (xs := xs)
    unfold inV at ih ⊢
    rw [List.map_cons, List.any_cons, ih]
    cases x <;> cases y <;> simp [eqV]
theorem flat_ints {xs : List Int} : (xs.map V.int).all flatV = true := by
  rw [List.all_map]
  exact List.all_eq_true.mpr fun _ _ => rfl
theorem flat_bls {xs : List Bool} : (xs.map V.bl).all flatV = true := by
  rw [List.all_map]
  exact List.all_eq_true.mpr fun _ _ => rfl
/-- a list or a tuple -/
class Ks (D : Hp) (a : Addr) (xs : outParam (List V)) : Prop where
  pf : D a = some (.lst xs) ∨ D a = some (.tup xs)
instance ksUp {D D' : Hp} {a : Addr} {xs : List V} [s : Sm D D'] [k : Ks D a xs] : Ks D' a xs := ⟨k.pf.elim (fun h => .inl (s.e _ _ h)) fun h => .inr (s.e _ _ h)⟩
theorem Sm.rfl' {D : Hp} : Sm D D := ⟨Same.refl D⟩
section
variable {σ : L2.St} {D H : Hp} {L : Own} {K : PySem.W.Frag} {Q : VK}
instance v_inL {a : Addr} {us : List V} {xs : List Int} {x : Int} [S : Sx D L H] [ha : Sl K D L a us] [c : IsC us xs] : VC (rInX K (.int x) (.ref a) H Q) (Q (.bl (decide (x ∈ xs))) H) :=
  ⟨fun k => ⟨a, us, rfl, .inl (ha.pf.sq S), rfl, by rw [c.pf]; exact flat_ints, by rw [if_neg (fun z => nomatch z), c.pf, inV_int]; exact k⟩⟩
instance v_inT {a : Addr} {us : List V} {xs : List Int} {x : Int} [S : Sx D L H] [ha : Kn D a (.tup us)] [c : IsC us xs] : VC (rInX K (.int x) (.ref a) H Q) (Q (.bl (decide (x ∈ xs))) H) :=
  ⟨fun k => ⟨a, us, rfl, .inr (sqT S ha.pf), rfl, by rw [c.pf]; exact flat_ints, by rw [if_neg (fun z => nomatch z), c.pf, inV_int]; exact k⟩⟩
instance v_inBL {a : Addr} {us : List V} {xs : List Bool} {x : Bool} [S : Sx D L H] [ha : Sl K D L a us] [c : BsC us xs] : VC (rInX K (.bl x) (.ref a) H Q) (Q (.bl (decide (x ∈ xs))) H) :=
  ⟨fun k => ⟨a, us, rfl, .inl (ha.pf.sq S), rfl, by rw [c.pf]; exact flat_bls, by rw [if_neg (fun z => nomatch z), c.pf, inV_bl]; exact k⟩⟩
instance v_inBT {a : Addr} {us : List V} {xs : List Bool} {x : Bool} [S : Sx D L H] [ha : Kn D a (.tup us)] [c : BsC us xs] : VC (rInX K (.bl x) (.ref a) H Q) (Q (.bl (decide (x ∈ xs))) H) :=
  ⟨fun k => ⟨a, us, rfl, .inr (sqT S ha.pf), rfl, by rw [c.pf]; exact flat_bls, by rw [if_neg (fun z => nomatch z), c.pf, inV_bl]; exact k⟩⟩
instance v_popA {a : Addr} {xs : List V} {n : Nat} {i : Int} {y : V} {L' : Own} [S : Sx D L H] [h : Fi L a (.lst xs) n] [c : AtC xs i y] [e : Se L n (a, .lst (xs.eraseIdx i.toNat)) L'] : VC (rPopAt (.ref a) [.int i] H Q) ((0 ≤ i ∧ i < 4611686018427387904) ∧ ∀ H', Sx D L' H' → Q y H') :=
  ⟨fun k => by
    have hp := c.pf
    unfold atI at hp
    cases ej : ixN xs.length i with
    | none => rw [ej] at hp; cases hp
    | some j =>
      rw [ej] at hp
      have hy : xs[j]? = some y := hp
      have hs := ixN_seq ej
      have hj : j = i.toNat := by
        unfold ixN at ej
        rw [if_pos k.1.1, if_pos hs.2.2.2] at ej
        exact (Option.some.inj ej).symm
      subst hj
      exact ⟨a, xs, i, i.toNat, y, rfl, rfl, S.at h.pf, by omega, by omega, hs.1, hy, k.2 _ (by have := S.put (.lst (xs.eraseIdx i.toNat)) h.pf; rw [e.pf] at this; exact this)⟩⟩
instance v_lenK {a : Addr} {xs : List V} {n : Nat} [S : Sx D L H] [ha : Ks D a xs] [l : LnC xs n] : VC (rLen K [.ref a] H Q) (Q (.int n) H) := ⟨fun h => ha.pf.elim (fun e => c_lenL S (rsD e) (by rw [l.pf]; exact h)) fun e => c_lenT S e (by rw [l.pf]; exact h)⟩
instance v_ixK {a : Addr} {xs : List V} {i : Int} {v : V} [S : Sx D L H] [ha : Ks D a xs] [h : AtC xs i v] : VC (rIx K (.ref a) (.int i) H Q) (Q v H) := ⟨fun k => ha.pf.elim (fun e => r_ixL S (rsD e) h.pf k) fun e => r_ixT S e h.pf k⟩
instance v_tupK {a : Addr} {xs : List V} [S : Sx D L H] [ha : Ks D a xs] : VC (rTupOf K [.ref a] H Q) (∀ p D' H', Sx D' L H' → Sm D D' → Kn D' p (.tup xs) → Q (.ref p) H') := ⟨fun h => ha.pf.elim (fun e => c_tupL S (rsD e) fun p D' H' e k S' => h p D' H' S' ⟨e⟩ ⟨k⟩) fun e => c_tupT S e (h a D H S Sm.rfl' ⟨e⟩)⟩
instance v_sqK {a : Addr} {xs : List V} {R : It → Hp → Prop} [S : Sx D L H] [ha : Ks D a xs] : VC (IsSq K (.ref a) H R) (∀ (J : It) (G : Hp → Prop), Walk J xs.length G (fun i H v H' => H' = H ∧ xs[i]? = some v) → (∀ D' L' H', Sx D' L' H' → Sm D D' → G H') → R J H) := ⟨fun h => ha.pf.elim (fun e => i_isL S (rsD e) (h _ _ walk_list fun D' L' H' S' s => .of (S'.dH _ _ (s.e _ _ e)))) fun e => i_isT S e (h _ _ walk_tup fun D' L' H' S' s => .of (S'.dH _ _ (s.e _ _ e)))⟩
instance v_pow_10_15 : VC (rI CPow (fun i j => .int (i ^ j.toNat)) (.int 10) (.int 15) H Q) (Q (.int 1000000000000000) H) := ⟨fun k => ⟨10, 15, rfl, rfl, ⟨by decide, by decide, by decide⟩, k⟩⟩
instance v_lstRg {te : L2.St → Hp → (Int → Int → Hp → Prop) → Prop} : VC (tLstRg te σ H Q) (te σ H fun a b H1 => RgOk a b ∧ ∀ q, H1 q = none → Q (.ref q) (upd H1 q (.lst (rgV a b)))) := ⟨fun h => h⟩
instance v_rg1 {ta : TE} {R : Int → Int → Hp → Prop} : VC (tRg1 ta σ H R) (ta σ H fun x H1 => IsI x H1 fun n H2 => R 0 n H2) := ⟨fun h => by
  refine (show ta σ H _ from ?_)
  exact h⟩
end
end Fk

namespace Fk
open PySem PySem.Spec PyProof.Rows L2
/-! ## min, max of data; dicts by int keys; remove; bit_length -/
theorem hu1 {A : Around} (h : A.units + 64 < cLine) : A.units + 1 < cLine := by omega
section
variable {X : Cx}
def rMinD (K : PySem.W.Frag) : List V → Hp → VK → Prop := fun vs H Q => ∃ (a : Addr) (us : List V) (x : PyData) (xs : List PyData), vs = [.ref a] ∧ (SqL K H a us ∨ SqT K H a us) ∧ DpAll K H us (x :: xs) ∧ PySem.W.AlikeAll (x :: xs) ∧ PyData.canLayAll0 (x :: xs) = true ∧ PyData.depthAll (x :: xs) ≤ 60 ∧
  ∀ (i : Nat) (v : V), us[i]? = some v → (x :: xs)[i]? = some (PySem.W.minD x xs) → Q v H
def rMaxD (K : PySem.W.Frag) : List V → Hp → VK → Prop := fun vs H Q => ∃ (a : Addr) (us : List V) (x : PyData) (xs : List PyData), vs = [.ref a] ∧ (SqL K H a us ∨ SqT K H a us) ∧ DpAll K H us (x :: xs) ∧ PySem.W.AlikeAll (x :: xs) ∧ PyData.canLayAll0 (x :: xs) = true ∧ PyData.depthAll (x :: xs) ≤ 60 ∧
  ∀ (i : Nat) (v : V), us[i]? = some v → (x :: xs)[i]? = some (PySem.W.maxD x xs) → Q v H
theorem lay_of : ∀ {ds : List PyData} {z : PyData}, PyData.canLayAll0 ds = true → z ∈ ds → z.canLay0 = true
  | y :: ys, z, hc, hz => by
    rw [PyData.canLayAll0, Bool.and_eq_true] at hc
    rcases List.mem_cons.mp hz with rfl | hz
    · exact hc.1
    · exact lay_of hc.2 hz
theorem data_at {h h' : Heap} {ds : List PyData} {its : List Value} {as bs : List Addr} {i : Nat} {v : Value} {d : PyData} (hr : ReadsAll h its ds as) (hc : PyData.canLayAll0 ds = true) (hd : d ∈ ds) (hv : its.toArray[i]? = some v) (hk : ∀ b o, h.get? b = some o → h'.get? b = some o) (r : Reads h' v d bs) : ds[i]? = some d := by
  have hr2 := SeqAt.readsAll_map ds its as hc hr
  have hv' : its[i]? = some v := by simpa using hv
  obtain ⟨e, he, re, hm, _⟩ := PySem.W.readsAll_at hr i v hv'
  have e0 : ds[i]? = some (ds.getD i .none) := by
    rw [List.getD_eq_getElem?_getD, List.getElem?_eq_getElem re]
    rfl
  have e1 := SeqAt.readOf_eq (lay_of hc hm) (PySem.W.reads_keeps hk he)
  have e2 := SeqAt.readOf_eq (lay_of hc hd) r
  rw [e0, ← e1, e2]
theorem minD_mem (x : PyData) : ∀ (xs : List PyData), PySem.W.minD x xs ∈ x :: xs := by
  intro xs
  have key : ∀ (xs : List PyData) (a : PyData), xs.foldl (fun a y => if PySem.W.dataLt y a then y else a) a ∈ a :: xs := by
    intro xs
    induction xs with
    | nil => exact fun a => List.mem_cons_self
    | cons y ys ih =>
      intro a
      rw [List.foldl_cons]
      have := ih (if PySem.W.dataLt y a then y else a)
      rcases List.mem_cons.mp this with e | e
      · rw [e]
        by_cases c : PySem.W.dataLt y a = true
        · rw [if_pos c]
          exact List.mem_cons_of_mem _ List.mem_cons_self
        · rw [if_neg c]
          exact List.mem_cons_self
      · exact List.mem_cons_of_mem _ (List.mem_cons_of_mem _ e)
  exact key xs x
theorem maxD_mem (x : PyData) : ∀ (xs : List PyData), PySem.W.maxD x xs ∈ x :: xs := by
  intro xs
  have key : ∀ (xs : List PyData) (a : PyData), xs.foldl (fun a y => if PySem.W.dataLt a y then y else a) a ∈ a :: xs := by
    intro xs
    induction xs with
    | nil => exact fun a => List.mem_cons_self
    | cons y ys ih =>
      intro a
      rw [List.foldl_cons]
      have := ih (if PySem.W.dataLt a y then y else a)
      rcases List.mem_cons.mp this with e | e
      · rw [e]
        by_cases c : PySem.W.dataLt a y = true
        · rw [if_pos c]
          exact List.mem_cons_of_mem _ List.mem_cons_self
        · rw [if_neg c]
          exact List.mem_cons_self
      · exact List.mem_cons_of_mem _ (List.mem_cons_of_mem _ e)
  exact key xs x
theorem vals_back {us : List V} {its : List Value} {i : Nat} {v : Value} (rv : Vals us its) (hv : its.toArray[i]? = some v) : ∃ w, us[i]? = some w ∧ RelV w v := by
  have hv' : its[i]? = some v := by simpa using hv
  have hl := (List.getElem?_eq_some_iff.mp hv').1
  have hu : i < us.length := by rw [rv.length]; exact hl
  obtain ⟨u, h1, h2⟩ := rv.get (List.getElem?_eq_getElem hu)
  rw [hv'] at h1
  cases h1
  exact ⟨_, List.getElem?_eq_getElem hu, h2⟩
theorem cr_minD (hc : X.calm = true) (hu : X.A.units + 64 < cLine) : CallR X (.builtin "min") (rMinD X.K) := by
  intro pins s σ H vs us0 Q I r h
  obtain ⟨a, us, x, xs, rfl, hq, hd, ha, hcl, hdp, q⟩ := h
  rw [Vals.ref1 r]
  rcases hq with hq | hq
  · obtain ⟨its, rv, hl, _⟩ := I.list hq
    obtain ⟨as, hr⟩ := Dp.readsAll I (x :: xs) us its hd rv
    refine PySem.W.min_list_data (I.ok.hd hc) (vs := its.toArray) hl.isList (show ReadsAll s.heap its.toArray.toList _ as from hr) ha (by omega) fun i v h' tk bs hv hr2 hk => ?_
    obtain ⟨w, hw, rw'⟩ := vals_back rv hv
    exact ⟨w, H, I.kept hk, rw', q i w hw (data_at hr hcl (minD_mem x xs) hv hk hr2)⟩
  · obtain ⟨its, rv, hl, _⟩ := I.tuple hq
    obtain ⟨as, hr⟩ := Dp.readsAll I (x :: xs) us its hd rv
    refine PySem.W.min_tuple_data (I.ok.hd hc) (vs := its.toArray) hl (show ReadsAll s.heap its.toArray.toList _ as from hr) ha (by omega) fun i v h' tk bs hv hr2 hk => ?_
    obtain ⟨w, hw, rw'⟩ := vals_back rv hv
    exact ⟨w, H, I.kept hk, rw', q i w hw (data_at hr hcl (minD_mem x xs) hv hk hr2)⟩
theorem cr_maxD (hc : X.calm = true) (hu : X.A.units + 64 < cLine) : CallR X (.builtin "max") (rMaxD X.K) := by
  intro pins s σ H vs us0 Q I r h
  obtain ⟨a, us, x, xs, rfl, hq, hd, ha, hcl, hdp, q⟩ := h
  rw [Vals.ref1 r]
  rcases hq with hq | hq
  · obtain ⟨its, rv, hl, _⟩ := I.list hq
    obtain ⟨as, hr⟩ := Dp.readsAll I (x :: xs) us its hd rv
    refine PySem.W.max_list_data (I.ok.hd hc) (vs := its.toArray) hl.isList (show ReadsAll s.heap its.toArray.toList _ as from hr) ha (by omega) fun i v h' tk bs hv hr2 hk => ?_
    obtain ⟨w, hw, rw'⟩ := vals_back rv hv
    exact ⟨w, H, I.kept hk, rw', q i w hw (data_at hr hcl (maxD_mem x xs) hv hk hr2)⟩
  · obtain ⟨its, rv, hl, _⟩ := I.tuple hq
    obtain ⟨as, hr⟩ := Dp.readsAll I (x :: xs) us its hd rv
    refine PySem.W.max_tuple_data (I.ok.hd hc) (vs := its.toArray) hl (show ReadsAll s.heap its.toArray.toList _ as from hr) ha (by omega) fun i v h' tk bs hv hr2 hk => ?_
    obtain ⟨w, hw, rw'⟩ := vals_back rv hv
    exact ⟨w, H, I.kept hk, rw', q i w hw (data_at hr hcl (maxD_mem x xs) hv hk hr2)⟩
def rMinY (K : PySem.W.Frag) : List V → Hp → VK → Prop := fun xs H Q => rMinL K xs H Q ∨ rMinD K xs H Q
theorem cr_minY (hc : X.calm = true) (hu : X.A.units + 64 < cLine) : CallR X (.builtin "min") (rMinY X.K) := CallR.or (cr_minX hc) (cr_minD hc hu)
def rMaxY (K : PySem.W.Frag) : List V → Hp → VK → Prop := fun xs H Q => rMaxL K xs H Q ∨ rMaxD K xs H Q
theorem cr_maxY (hc : X.calm = true) (hu : X.A.units + 64 < cLine) : CallR X (.builtin "max") (rMaxY X.K) := CallR.or (cr_maxX hc) (cr_maxD hc hu)
def rDivM : List V → Hp → VK → Prop := fun xs H Q => ∃ i j, xs = [.int i, .int j] ∧ CDiv i j ∧ ∀ p, H p = none → Q (.ref p) (upd H p (.tup [.int (i / j), .int (i % j)]))
theorem call_dm : CallR X (.builtin "divmod") rDivM := call_divmod
def rRemX : V → List V → Hp → VK → Prop := rRemI
theorem mt_remX : MtR X "list.remove" rRemX := mt_remove
end
def IsDG (x y : V) (H : Hp) (q : Option V → Prop) : Prop := ∃ a o, x = .ref a ∧ DGet H a y o ∧ q o
def IsDP (x y v : V) (H : Hp) (q : Hp → Prop) : Prop := ∃ a H4, x = .ref a ∧ DPut H a y v H4 ∧ q H4
theorem alike_ints {ns : List Int} : PySem.W.AlikeAll (ns.map PyData.int) := by
  refine ⟨fun x hx y hy => ?_, fun x hx => ?_⟩
  · obtain ⟨a, _, rfl⟩ := List.mem_map.mp hx
    obtain ⟨b, _, rfl⟩ := List.mem_map.mp hy
    simp [PySem.W.alike]
  · obtain ⟨a, _, rfl⟩ := List.mem_map.mp hx
    exact fun e => nomatch e
theorem lay_ints : ∀ {ns : List Int}, PyData.canLayAll0 (ns.map PyData.int) = true
  | [] => by simp [PyData.canLayAll0]
  | n :: ns => by rw [List.map_cons, PyData.canLayAll0, lay_ints]; simp [PyData.canLay0]
theorem dep_ints : ∀ {ns : List Int}, PyData.depthAll (ns.map PyData.int) ≤ 1
  | [] => by simp [PyData.depthAll]
  | n :: ns => by
    have := dep_ints (ns := ns)
    rw [List.map_cons, PyData.depthAll]
    simp only [PyData.depth]
    omega
theorem dpa_ints {K : PySem.W.Frag} {H : Hp} : ∀ (ns : List Int), DpAll K H (ns.map V.int) (ns.map PyData.int)
  | [] => .nil
  | n :: ns => .cons (.int n) (dpa_ints ns)
section
variable {σ : L2.St} {D H : Hp} {L : Own} {K : PySem.W.Frag} {Q : VK} {nx : L2.St → Hp → Prop} {rt : VK} {bk ct : L2.St → Hp → Prop}
instance v_minY {a : Addr} {xs : List V} {ns : List Int} [S : Sx D L H] [ha : Sl K D L a xs] [c : IsC xs ns] : VC (rMinY K [.ref a] H Q) (0 < ns.length ∧ ∀ m, m ∈ ns → (∀ y, y ∈ ns → m ≤ y) → Q (.int m) H) := ⟨fun h => .inl (VC.pf h)⟩
instance v_maxY {a : Addr} {xs : List V} {ns : List Int} [S : Sx D L H] [ha : Sl K D L a xs] [c : IsC xs ns] : VC (rMaxY K [.ref a] H Q) (0 < ns.length ∧ Q (.int (mxL ns)) H) := ⟨fun h => .inl (VC.pf h)⟩
theorem c_minYS {a : Addr} {xs : List V} {ns : List Int} (hs : SqT K H a xs) [c : IsC xs ns] (h : 0 < ns.length ∧ ∀ m, m ∈ ns → (∀ y, y ∈ ns → m ≤ y) → Q (.int m) H) : rMinY K [.ref a] H Q := by
  obtain ⟨h0, k⟩ := h
  obtain ⟨n, ms, rfl⟩ : ∃ n ms, ns = n :: ms := by
    cases ns with
    | nil => simp at h0
    | cons n ms => exact ⟨n, ms, rfl⟩
  refine .inr ⟨a, xs, .int n, ms.map .int, rfl, .inr (hs), by rw [c.pf]; exact dpa_ints (n :: ms), alike_ints (ns := n :: ms), lay_ints (ns := n :: ms), by have := dep_ints (ns := n :: ms); rw [List.map_cons] at this; omega, fun i v hv hi => ?_⟩
  rw [c.pf] at hv
  obtain ⟨m, hm, rfl⟩ := getI hv
  rw [PySem.W.minD_ints, show (PyData.int n :: ms.map PyData.int) = (n :: ms).map PyData.int from rfl, List.getElem?_map, hm] at hi
  have em : m = ms.foldl min n := PyData.int.inj (Option.some.inj hi)
  have key : ∀ (ms : List Int) (n : Int), ms.foldl min n ≤ n ∧ ∀ y, y ∈ ms → ms.foldl min n ≤ y := by
    intro ms
    induction ms with
    | nil => exact fun n => ⟨Int.le_refl _, fun y hy => nomatch hy⟩
    | cons z ms ih =>
      intro n
      obtain ⟨i1, i2⟩ := ih (min n z)
      rw [List.foldl_cons]
      refine ⟨by omega, fun y hy => ?_⟩
      rcases List.mem_cons.mp hy with rfl | hy
      · omega
      · exact i2 y hy
  obtain ⟨i1, i2⟩ := key ms n
  refine k m (List.mem_of_getElem? hm) fun y hy => ?_
  rw [em]
  rcases List.mem_cons.mp hy with rfl | hy
  · exact i1
  · exact i2 y hy
instance v_minYT {a : Addr} {xs : List V} {ns : List Int} [S : Sx D L H] [ha : Kn D a (.tup xs)] [c : IsC xs ns] : VC (rMinY K [.ref a] H Q) (0 < ns.length ∧ ∀ m, m ∈ ns → (∀ y, y ∈ ns → m ≤ y) → Q (.int m) H) := ⟨fun h => c_minYS (sqT S ha.pf) h⟩
theorem c_maxYS {a : Addr} {xs : List V} {ns : List Int} (hs : SqT K H a xs) [c : IsC xs ns] (h : 0 < ns.length ∧ Q (.int (mxL ns)) H) : rMaxY K [.ref a] H Q := by
  obtain ⟨h0, k⟩ := h
  obtain ⟨n, ms, rfl⟩ : ∃ n ms, ns = n :: ms := by
    cases ns with
    | nil => simp at h0
    | cons n ms => exact ⟨n, ms, rfl⟩
  refine .inr ⟨a, xs, .int n, ms.map .int, rfl, .inr (hs), by rw [c.pf]; exact dpa_ints (n :: ms), alike_ints (ns := n :: ms), lay_ints (ns := n :: ms), by have := dep_ints (ns := n :: ms); rw [List.map_cons] at this; omega, fun i v hv hi => ?_⟩
  rw [c.pf] at hv
  obtain ⟨m, hm, rfl⟩ := getI hv
  rw [PySem.W.maxD_ints, show (PyData.int n :: ms.map PyData.int) = (n :: ms).map PyData.int from rfl, List.getElem?_map, hm] at hi
  have em : m = ms.foldl max n := PyData.int.inj (Option.some.inj hi)
  have key : ∀ (ms : List Int) (n : Int), n ≤ ms.foldl max n ∧ ∀ y, y ∈ ms → y ≤ ms.foldl max n := by
    intro ms
    induction ms with
    | nil => exact fun n => ⟨Int.le_refl _, fun y hy => nomatch hy⟩
    | cons z ms ih =>
      intro n
      obtain ⟨i1, i2⟩ := ih (max n z)
      rw [List.foldl_cons]
      refine ⟨by omega, fun y hy => ?_⟩
      rcases List.mem_cons.mp hy with rfl | hy
      · omega
      · exact i2 y hy
  obtain ⟨i1, i2⟩ := key ms n
  have : m = mxL (n :: ms) := mxL_uniq (List.mem_of_getElem? hm) fun y hy => by
    rw [em]
    rcases List.mem_cons.mp hy with rfl | hy
    · exact i1
    · exact i2 y hy
  rw [this]
  exact k
instance v_maxYT {a : Addr} {xs : List V} {ns : List Int} [S : Sx D L H] [ha : Kn D a (.tup xs)] [c : IsC xs ns] : VC (rMaxY K [.ref a] H Q) (0 < ns.length ∧ Q (.int (mxL ns)) H) := ⟨fun h => c_maxYS (sqT S ha.pf) h⟩
instance v_rem {a : Addr} {xs : List V} {ns : List Int} {n : Nat} {z : Int} {L' : Own} [S : Sx D L H] [h : Fi L a (.lst xs) n] [c : IsC xs ns] [e : Se L n (a, .lst ((ns.eraseIdx (ixL z ns)).map V.int)) L'] : VC (rRemX (.ref a) [.int z] H Q) (z ∈ ns ∧ ∀ H', Sx D L' H' → Q .non H') :=
  ⟨fun k => ⟨a, ns, z, ixL z ns, rfl, rfl, by rw [← c.pf]; exact S.at h.pf, ixL_get k.1, fun m hm hz => ixL_no hm hz rfl, k.2 _ (by have := S.put (.lst ((ns.eraseIdx (ixL z ns)).map V.int)) h.pf; rw [e.pf] at this; exact this)⟩⟩
instance v_bits {to : TE} : VC (tBits to σ H Q) (to σ H fun x H1 => IsI x H1 fun i H2 => Q (.int (Builtin.Int.intBits i : Nat)) H2) := ⟨fun h => h⟩
instance v_dnotin {ty td : TE} : VC (tDNotIn ty td σ H Q) (ty σ H fun y H1 => td σ H1 fun x H2 => IsDG x y H2 fun o => Q (.bl (!o.isSome)) H2) := ⟨fun h => h⟩
instance v_din {ty td : TE} : VC (tDIn ty td σ H Q) (ty σ H fun y H1 => td σ H1 fun x H2 => IsDG x y H2 fun o => Q (.bl o.isSome) H2) := ⟨fun h => h⟩
instance v_dg {a : Addr} {kvs : List (Key × V)} {n : Nat} {i : Int} {q : Option V → Prop} [S : Sx D L H] [h : Fi L a (.dK kvs) n] : VC (IsDG (.ref a) (.int i) H q) (q (valV kvs (Sum.inl i))) := ⟨fun k => ⟨a, _, rfl, DGet.k (k := Sum.inl i) (S.at h.pf), k⟩⟩
instance v_dput {td ty tv : TE} : VC (sDPut td ty tv ⟨nx, rt, bk, ct⟩ σ H) (tv σ H fun v H1 => td σ H1 fun x H2 => ty σ H2 fun y H3 => IsDP x y v H3 fun H4 => nx σ H4) := ⟨fun h => h⟩
instance v_dp {a : Addr} {kvs : List (Key × V)} {n : Nat} {i : Int} {v : V} {L' : Own} {q : Hp → Prop} [S : Sx D L H] [h : Fi L a (.dK kvs) n] [e : Se L n (a, .dK (putK kvs (Sum.inl i) v)) L'] : VC (IsDP (.ref a) (.int i) v H q) (kvs.length < 16777216 ∧ ∀ H', Sx D L' H' → q H') :=
  ⟨fun k => ⟨a, _, rfl, DPut.k (k := Sum.inl i) (S.at h.pf) k.1, k.2 _ (by have := S.put (.dK (putK kvs (Sum.inl i) v)) h.pf; rw [e.pf] at this; exact this)⟩⟩
instance v_dmod {i j : Int} [S : Sx D L H] : VC (rDivM [.int i, .int j] H Q) ((0 < j ∧ j < 1073741824) ∧ ∀ p D' H', Sx D' L H' → Sm D D' → Kn D' p (.tup [.int (i / j), .int (i % j)]) → Q (.ref p) H') := ⟨fun h => ⟨i, j, rfl, h.1, fun p hp => h.2 p _ _ (S.fix hp) ⟨same_upd (S.dH.free hp)⟩ ⟨upd_same⟩⟩⟩
instance v_lstK {a : Addr} {xs : List V} [S : Sx D L H] [ha : Ks D a xs] : VC (rLstOf K [.ref a] H Q) (∀ p H', Sx D ((p, .lst xs) :: L) H' → Q (.ref p) H') := ⟨fun h => ha.pf.elim (fun e => c_lstL S (rsD e) h) fun e => c_lstT S e h⟩
end
/-! pairs -/
theorem ltP (a b c d : Int) : PySem.W.dataLt (tI [a, b]) (tI [c, d]) = (decide (a < c) || (decide (a = c) && decide (b < d))) := by
  show PySem.W.dataLt (.tuple [.int a, .int b]) (.tuple [.int c, .int d]) = _
  rw [PySem.W.dataLt_tuple]
  by_cases e : a = c
  · subst e
    rw [PySem.W.dataLt_all_yes (by simp [PySem.W.alike]) (by simp [PyData.eqv])]
    by_cases e2 : b = d
    · subst e2
      rw [PySem.W.dataLt_all_yes (by simp [PySem.W.alike]) (by simp [PyData.eqv])]
      simp [PySem.W.keyToksAll]
      decide
    · rw [PySem.W.dataLt_all_no (by simp [PySem.W.alike]) (by simp [PyData.eqv, e2]), PySem.W.dataLt_int]
      simp
  · rw [PySem.W.dataLt_all_no (by simp [PySem.W.alike]) (by simp [PyData.eqv, e]), PySem.W.dataLt_int]
    simp [e]
/-- the least of pairs -/
def lessP (x y : Int × Int) : Bool := decide (x.1 < y.1) || (decide (x.1 = y.1) && decide (x.2 < y.2))
def minP (x : Int × Int) (xs : List (Int × Int)) : Int × Int := xs.foldl (fun a y => if lessP y a then y else a) x
abbrev pI (x : Int × Int) : PyData := tI [x.1, x.2]
theorem minP_D : ∀ (xs : List (Int × Int)) (x : Int × Int), PySem.W.minD (pI x) (xs.map pI) = pI (minP x xs)
  | [], x => rfl
  | y :: xs, x => by
    have ih := minP_D xs (if lessP y x then y else x)
    unfold PySem.W.minD minP at ih ⊢
    rw [List.map_cons, List.foldl_cons, List.foldl_cons, ← ih, ltP]
    congr 1
    show (if lessP y x = true then pI y else pI x) = _
    split <;> rfl
section
variable {D H : Hp} {L : Own} {K : PySem.W.Frag} {Q : VK}
theorem dep_pairs : ∀ {xs : List (Int × Int)}, PyData.depthAll (xs.map pI) ≤ 3
  | [] => by simp [PyData.depthAll]
  | x :: xs => by
    have := dep_pairs (xs := xs)
    rw [List.map_cons, PyData.depthAll]
    simp only [PyData.depth, PyData.depthAll, List.map_cons, List.map_nil]
    omega
theorem lay_pairs : ∀ {xs : List (Int × Int)}, PyData.canLayAll0 (xs.map pI) = true
  | [] => by simp [PyData.canLayAll0]
  | x :: xs => by rw [List.map_cons, PyData.canLayAll0, lay_pairs]; simp [PyData.canLay0, PyData.canLayAll0]
theorem c_minP {a : Addr} {us : List V} {x : Int × Int} {xs : List (Int × Int)} (S : Sx D L H) (ha : Rds K D L a us) (hr : RpAll D us ((x :: xs).map pI)) (k : ∀ b, Kn D b (.tup [.int (minP x xs).1, .int (minP x xs).2]) → Q (.ref b) H) : rMinY K [.ref a] H Q := by
  refine .inr ⟨a, us, pI x, xs.map pI, rfl, .inl (ha.sq S), RpAll.dp (RpAll.up S.dH hr), ⟨fun y hy z hz => ?_, fun y hy => ?_⟩, lay_pairs (xs := x :: xs), by have := dep_pairs (xs := x :: xs); rw [List.map_cons] at this; omega, fun i v hv hi => ?_⟩
  · obtain ⟨y, _, rfl⟩ := List.mem_map.mp (show y ∈ (x :: xs).map pI from hy)
    obtain ⟨z, _, rfl⟩ := List.mem_map.mp (show z ∈ (x :: xs).map pI from hz)
    simp [PySem.W.alike, PySem.W.alikeAll]
  · obtain ⟨y, _, rfl⟩ := List.mem_map.mp (show y ∈ (x :: xs).map pI from hy)
    exact fun e => nomatch e
  · obtain ⟨d, h1, h2⟩ := RpAll.getV hr hv
    rw [minP_D] at hi
    rw [show (x :: xs).map pI = pI x :: xs.map pI from rfl, hi] at h1
    cases h1
    obtain ⟨b, rfl, h3⟩ := h2.inv_tupI
    exact k b ⟨h3⟩
end
end Fk

namespace Fk
open PySem PySem.Spec PyProof.Rows L2
/-! ## comprehensions that own more and more; sorted pairs; len of a dict; lists or tuples -/
section
variable {σ : L2.St} {D H : Hp} {L : Own} {K : PySem.W.Frag}
theorem lc_goL {J : It} {n : Nat} {G : Hp → Prop} {Y : Nat → Hp → V → Hp → Prop} (w : Walk J n G Y) {g : TG} {tt : TT} {te : TE} {vs : List Nat} {Q : VK} {σw : L2.St} [S : Sx D L H] [hw : Wip σ vs σw] (hn : n < 16777216)
    (R : Nat → List V → Hp → Own → Prop) (h0 : R 0 [] D L) (hG : ∀ D' L' p acc H', Sm D D' → Sx D' ((p, .lst acc) :: L') H' → G H')
    (hs : ∀ i x p acc D' L' H' H'', i < n → Sm D D' → Sx D' ((p, .lst acc) :: L') H' → R i acc D' L' → Y i H' x H'' → ∀ (Ad : V → Hp → Prop) (Sk : Hp → Prop),
      (∀ y D'' L'' H4, Sm D' D'' → Sx D'' ((p, .lst acc) :: L'') H4 → R (i + 1) (acc ++ [y]) D'' L'' → Ad y H4) →
      (∀ D'' L'' H4, Sm D' D'' → Sx D'' ((p, .lst acc) :: L'') H4 → R (i + 1) acc D'' L'' → Sk H4) →
      g x σw H'' fun σ2 H2 => WOk σ2 vs σw (tt σ2 H2 fun b H3 => if b = true then te σ2 H3 Ad else Sk H3))
    (k : ∀ p D' L' acc H', Sm D D' → Sx D' ((p, .lst acc) :: L') H' → R n acc D' L' → Q (.ref p) H') : tLcJ J g tt te vs σ H Q := by
  obtain rfl := hw.pf
  intro p hp
  refine lc_it w (fun i H' => ∃ D' L' acc, Sm D D' ∧ Sx D' ((p, .lst acc) :: L') H' ∧ R i acc D' L' ∧ acc.length ≤ i) ⟨D, L, [], ⟨Same.refl _⟩, S.new hp, h0, Nat.le_refl _⟩ (fun i H' _ ⟨D', L', acc, e, S', _, _⟩ => hG D' L' p acc H' e S') (fun i x H' H'' hi ⟨D', L', acc, e, S', r, hl⟩ y => ?_) (fun H' ⟨D', L', acc, e, S', r, _⟩ => k p D' L' acc H' e S' r)
  refine hs i x p acc D' L' H' H'' hi e S' r y _ _ (fun z D'' L'' H4 e2 S2 r2 => ?_) (fun D'' L'' H4 e2 S2 r2 => ?_)
  · refine ⟨acc, S2.at (n := 0) rfl, ?_, D'', L'', acc ++ [z], ⟨e.e.trans e2.e⟩, ?_, r2, ?_⟩
    · show acc.length < 16777216
      omega
    · exact S2.put (n := 0) _ rfl
    · rw [List.length_append]
      show acc.length + 1 ≤ i + 1
      omega
  · exact ⟨D'', L'', acc, ⟨e.e.trans e2.e⟩, S2, r2, by omega⟩
end
section
variable {X : Cx}
def rSortedW (K : PySem.W.Frag) : List V → Hp → VK → Prop := fun xs H Q => rSortedX K xs H Q ∨ rSortedP K xs H Q
theorem cr_sortedW : CallR X (.builtin "sorted") (rSortedW X.K) := CallR.or cr_sortedX cr_sortedP
def rLenD : List V → Hp → VK → Prop := fun xs H Q => ∃ a kvs, xs = [V.ref a] ∧ H a = some (.dK kvs) ∧ Q (.int (kvs.length : Nat)) H
theorem call_lenDD : CallR X (.builtin "len") rLenD := call_lenD
end
section
variable {σ : L2.St} {D H : Hp} {L : Own} {K : PySem.W.Frag} {Q : VK}
instance v_sortWL {a : Addr} {xs : List V} {ns : List Int} [S : Sx D L H] [ha : Sl K D L a xs] [c : IsC xs ns] : VC (rSortedW K [.ref a] H Q) (∀ ns' : List Int, ns'.Perm ns → ns'.Pairwise (· ≤ ·) → ∀ p H', Sx D ((p, .lst (ns'.map V.int)) :: L) H' → Q (.ref p) H') := ⟨fun h => .inl (VC.pf h)⟩
instance v_sortWT {a : Addr} {xs : List V} {ns : List Int} [S : Sx D L H] [ha : Kn D a (.tup xs)] [c : IsC xs ns] : VC (rSortedW K [.ref a] H Q) (∀ ns' : List Int, ns'.Perm ns → ns'.Pairwise (· ≤ ·) → ∀ p H', Sx D ((p, .lst (ns'.map V.int)) :: L) H' → Q (.ref p) H') := ⟨fun h => .inl (VC.pf h)⟩
instance v_sortWK {a : Addr} {xs : List V} {ns : List Int} [S : Sx D L H] [ha : Ks D a xs] [c : IsC xs ns] : VC (rSortedW K [.ref a] H Q) (∀ ns' : List Int, ns'.Perm ns → ns'.Pairwise (· ≤ ·) → ∀ p H', Sx D ((p, .lst (ns'.map V.int)) :: L) H' → Q (.ref p) H') := ⟨fun h => .inl (ha.pf.elim
  (fun e => c_sortL S (by rw [← c.pf]; exact rsD e) fun ns' p H' h1 h2 S' => h ns' h1 h2 p H' S')
  (fun e => c_sortT S (by rw [← c.pf]; exact e) fun ns' p H' h1 h2 S' => h ns' h1 h2 p H' S'))⟩
theorem c_sortP {a : Addr} {us : List V} {xs : List (Int × Int)} (S : Sx D L H) (ha : Rds K D L a us) (hr : RpAll D us (xs.map pI)) (k : ∀ ys p H', ys.Perm us → Sx D ((p, .lst ys) :: L) H' → Q (.ref p) H') : rSortedW K [.ref a] H Q := by
  refine .inr ⟨a, us, rfl, ha.sq S, fun v hv => ?_, fun ys p hp hn => k ys p _ hp (S.new hn)⟩
  obtain ⟨i, hi⟩ := List.getElem?_of_mem hv
  obtain ⟨d, h1, h2⟩ := RpAll.getV hr hi
  rw [List.getElem?_map] at h1
  cases e : xs[i]? with
  | none => rw [e] at h1; cases h1
  | some x =>
    rw [e] at h1
    cases h1
    obtain ⟨b, rfl, h3⟩ := h2.inv_tupI
    exact ⟨b, x.1, x.2, rfl, S.dH _ _ h3⟩
theorem ra_memP {us : List V} {xs : List (Int × Int)} {v : V} (hr : RpAll D us (xs.map pI)) (hv : v ∈ us) : ∃ b x, x ∈ xs ∧ v = .ref b ∧ Kn D b (.tup [.int x.1, .int x.2]) := by
  obtain ⟨i, hi⟩ := List.getElem?_of_mem hv
  obtain ⟨d, h1, h2⟩ := RpAll.getV hr hi
  rw [List.getElem?_map] at h1
  cases e : xs[i]? with
  | none => rw [e] at h1; cases h1
  | some x =>
    rw [e] at h1
    cases h1
    obtain ⟨b, rfl, h3⟩ := h2.inv_tupI
    exact ⟨b, x, List.mem_of_getElem? e, rfl, ⟨h3⟩⟩
instance v_lenD {a : Addr} {kvs : List (Key × V)} {n : Nat} [S : Sx D L H] [h : Fi L a (.dK kvs) n] : VC (rLenD [.ref a] H Q) (Q (.int (kvs.length : Nat)) H) := ⟨fun k => ⟨a, kvs, rfl, S.at h.pf, k⟩⟩
instance v_enXK {a : Addr} {xs : List V} {R : It → Hp → Prop} [S : Sx D L H] [ha : Ks D a xs] : VC (IsEX K [.ref a] H R) (∀ (J : It) (G : Hp → Prop), Walk J xs.length G (YPair (fun i => some (.int (i : Nat))) (fun i => xs[i]?)) → (∀ D' L' H', Sx D' L' H' → Sm D D' → G H') → R J H) :=
  ⟨fun h => ha.pf.elim
    (fun e => .inl ⟨a, xs, rfl, .of (S.dH _ _ e), h _ _ walk_enum fun D' L' H' S' s => .of (S'.dH _ _ (s.e _ _ e))⟩)
    (fun e => .inr ⟨a, xs, rfl, sqT S e, h _ _ walk_enumT fun D' L' H' S' s => .of (S'.dH _ _ (s.e _ _ e))⟩)⟩
end
/-- some lists of three numbers -/
abbrev P3 := Addr × Int × Int × Int
def ownP (ps : List P3) : Own := ps.map fun q => (q.1, .lst [.int q.2.1, .int q.2.2.1, .int q.2.2.2])
theorem ownP_front {ps : List P3} {i : Nat} {q : P3} {x : Addr × HO} {L : Own} (h : ps[i]? = some q) : (x :: (ownP ps ++ L)).Perm ((q.1, .lst [.int q.2.1, .int q.2.2.1, .int q.2.2.2]) :: x :: (ownP (ps.eraseIdx i) ++ L)) := by
  have h1 := (perm_front h).map (fun q : P3 => ((q.1, HO.lst [V.int q.2.1, V.int q.2.2.1, V.int q.2.2.2]) : Addr × HO))
  have h2 : (ownP ps ++ L).Perm ((q.1, .lst [.int q.2.1, .int q.2.2.1, .int q.2.2.2]) :: (ownP (ps.eraseIdx i) ++ L)) := List.Perm.append_right L h1
  exact (h2.cons x).trans (List.Perm.swap _ _ _)
theorem ownP_back {ps : List P3} {i : Nat} {q r : P3} {x : Addr × HO} {L : Own} (h : ps[i]? = some q) : ((r.1, .lst [.int r.2.1, .int r.2.2.1, .int r.2.2.2]) :: x :: (ownP (ps.eraseIdx i) ++ L)).Perm (x :: (ownP (ps.set i r) ++ L)) := by
  have hi := (List.getElem?_eq_some_iff.mp h).1
  have hs : (ps.set i r)[i]? = some r := by rw [List.getElem?_set, if_pos rfl, if_pos hi]
  have he : (ps.set i r).eraseIdx i = ps.eraseIdx i := by
    clear h hs
    induction ps generalizing i with
    | nil => simp at hi
    | cons y ys ih =>
      cases i with
      | zero => rfl
      | succ i =>
        rw [List.set_cons_succ, List.eraseIdx_cons_succ, List.eraseIdx_cons_succ, ih (by simpa using hi)]
  have := ownP_front (x := x) (L := L) hs
  rw [he] at this
  exact this.symm
end Fk

namespace Fk
open PySem PySem.Spec PyProof.Rows L2
/-! ## insert at any place -/
def insP (i : Int) (n : Nat) : Nat := if i < 0 then (i + (n : Int)).toNat else min i.toNat n
def rInsG : V → List V → Hp → VK → Prop := fun x vs H Q => ∃ (l : Addr) (xs : List V) (i : Int) (y : V), x = .ref l ∧ vs = [.int i, y] ∧ H l = some (.lst xs) ∧ xs.length < sizeLine ∧ -(2 ^ 63) ≤ i ∧ i < 2 ^ 63 ∧ Q .non (upd H l (.lst (xs.take (insP i xs.length) ++ [y] ++ xs.drop (insP i xs.length))))
theorem mt_insG {X : Cx} : MtR X "list.insert" rInsG := by
  intro pins s σ H x xs v us Q I rx rv h
  obtain ⟨l, xs, i, y, rfl, rfl, hH, hz, h0, h1, q⟩ := h
  cases rx
  obtain ⟨u1, u2, rfl, r1, r2⟩ := rv.two
  obtain ⟨t, rfl⟩ := r1
  obtain ⟨z, its, n, r, hl, e⟩ := I.lstM hH
  have hfit : Builtin.List.listFitsIndex i = true := fitsIndex_both h0 h1
  have hk : (if i < 0 then (i + (its.toArray.size : Int)).toNat else min i.toNat its.toArray.size) = insP i xs.length := by
    unfold insP
    rw [List.size_toArray, hl]
  refine call_meets PySem.F.slot_list_insert ⟨_, e, rfl⟩ PySem.F.entry_list_insert (PySem.F.args_list_insert_3 _ _ _) (AutoSeq1.list_insert_list_int_val_1 l its.toArray n i t u2 (by simp [hfit]) (by rw [List.size_toArray]; omega)) ⟨e, ?_⟩
  refine ⟨.non, _, I.lset (its' := its.take (insP i xs.length) ++ [u2] ++ its.drop (insP i xs.length)) hH e ?_ (((r.take (insP i xs.length)).append (.cons r2 .nil)).append (r.drop (insP i xs.length))) ?_, rfl, q⟩
  · show (its.toArray.extract 0 (if i < 0 then (i + (its.toArray.size : Int)).toNat else min i.toNat its.toArray.size)).push u2 ++ its.toArray.extract (if i < 0 then (i + (its.toArray.size : Int)).toNat else min i.toNat its.toArray.size) =
      (its.take (insP i xs.length) ++ [u2] ++ its.drop (insP i xs.length)).toArray
    rw [hk, PySem.W.kl_ins_eq, List.append_assoc]
    rfl
  · rw [List.length_append, List.length_append, List.length_take, List.length_drop, List.length_singleton]
    omega
theorem ins_len {α : Type} {xs : List α} {y : α} {k : Nat} : (xs.take k ++ [y] ++ xs.drop k).length = xs.length + 1 := by
  rw [List.length_append, List.length_append, List.length_take, List.length_drop, List.length_singleton]
  omega
section
variable {σ : L2.St} {D H : Hp} {L : Own} {K : PySem.W.Frag} {Q : VK}
instance v_insG {a : Addr} {xs : List V} {n : Nat} {i : Int} {y : V} {L' : Own} [S : Sx D L H] [h : Fi L a (.lst xs) n] [e : Se L n (a, .lst (xs.take (insP i xs.length) ++ [y] ++ xs.drop (insP i xs.length))) L'] : VC (rInsG (.ref a) [.int i, y] H Q) ((xs.length < 16777216 ∧ -4611686018427387904 ≤ i ∧ i < 4611686018427387904) ∧ ∀ H', Sx D L' H' → Q .non H') :=
  ⟨fun k => ⟨a, xs, i, y, rfl, rfl, S.at h.pf, k.1.1, by have := k.1.2.1; omega, by have := k.1.2.2; omega, k.2 _ (by have := S.put (.lst (xs.take (insP i xs.length) ++ [y] ++ xs.drop (insP i xs.length))) h.pf; rw [e.pf] at this; exact this)⟩⟩
/-- a number and a list of numbers -/
abbrev nlI (c : Int) (xs : List Int) : PyData := .tuple [.int c, lI xs]
theorem sh_nl (c : Int) (xs : List Int) : SeqAt.shaped (nlI c xs) = true := (Sh.tup (n := 1) fun d hd => by
  rcases List.mem_cons.mp hd with rfl | hd
  · exact Sh.int 1 c
  · rw [List.mem_singleton.mp hd]
    exact Sh.list (n := 0) Sh.ints).ok
theorem eqv_nl (c d : Int) (xs ys : List Int) : PyData.eqv (nlI c xs) (nlI d ys) = decide (c = d ∧ xs = ys) := by
  simp only [PyData.eqv, PyData.eqvAll]
  rw [eqv_I]
  by_cases h : c = d <;> by_cases h2 : xs = ys <;> simp [h, h2]
theorem dp_nl {t g : Addr} {c : Int} {xs : List Int} (S : Sx D L H) (kt : Kn D t (.tup [.int c, .ref g])) (hg : Rds K D L g (xs.map V.int)) : Dp K H (.ref t) (nlI c xs) :=
  .tup (sqT S kt.pf) (.cons (.int c) (.cons (.lst (hg.sq S) (dpa_ints xs)) .nil))
theorem r_neNL {t t2 g g2 : Addr} {c d : Int} {xs ys : List Int} (S : Sx D L H) (kt : Kn D t (.tup [.int c, .ref g])) (hg : Rds K D L g (xs.map V.int)) (kt2 : Kn D t2 (.tup [.int d, .ref g2])) (hg2 : Rds K D L g2 (ys.map V.int)) (k : Q (.bl (!decide (c = d ∧ xs = ys))) H) : rNeX K (.ref t) (.ref t2) H Q :=
  .inr ⟨_, _, dp_nl S kt hg, dp_nl S kt2 hg2, sh_nl c xs, sh_nl d ys, by rw [eqv_nl]; exact k⟩
end
end Fk

namespace Fk
open PySem PySem.Spec PyProof.Rows L2
/-! ## any of a tuple; dicts by tuples of ints; tuples of truths -/
theorem dpa_bls {K : PySem.W.Frag} {H : Hp} : ∀ (bs : List Bool), DpAll K H (bs.map V.bl) (bs.map PyData.bool)
  | [] => .nil
  | b :: bs => .cons (.bl b) (dpa_bls bs)
theorem plain_bls : ∀ (bs : List Bool), PyData.plainAll (bs.map PyData.bool) = true
  | [] => by simp [PyData.plainAll]
  | b :: bs => by rw [List.map_cons, PyData.plainAll, plain_bls bs]; simp [PyData.plain]
section
variable {X : Cx}
def rAnyT (K : PySem.W.Frag) : List V → Hp → VK → Prop := fun vs H Q => ∃ (a : Addr) (bs : List Bool), vs = [V.ref a] ∧ SqT K H a (bs.map V.bl) ∧ Q (.bl (bs.any id)) H
theorem cr_anyT (hc : X.calm = true) : CallR X (.builtin "any") (rAnyT X.K) := by
  intro pins s σ H vs us Q I r h
  obtain ⟨a, bs, rfl, hs, q⟩ := h
  obtain ⟨its, rv, hl, _⟩ := I.tuple hs
  rw [Vals.ref1 r]
  obtain ⟨as, hr⟩ := Dp.readsAll I (bs.map PyData.bool) _ its (dpa_bls bs) rv
  refine PySem.W.any_tuple_data (I.ok.hd hc) (vs := its.toArray) hl (show ReadsAll s.heap its.toArray.toList _ as from hr) (plain_bls bs) (fun x hx => ?_) fun h' tk hk => ?_
  · obtain ⟨b, _, rfl⟩ := List.mem_map.mp hx
    simp [PyData.fits63]
  · have e : (bs.map PyData.bool).any PyData.truthy = bs.any id := by
      rw [List.any_map]
      rfl
    rw [e]
    exact ⟨.bl _, H, I.kept hk, rfl, q⟩
def rAnyX (K : PySem.W.Frag) : List V → Hp → VK → Prop := fun xs H Q => rAny K xs H Q ∨ rAnyT K xs H Q
theorem cr_anyX (hc : X.calm = true) : CallR X (.builtin "any") (rAnyX X.K) := CallR.or (cr_any hc) (cr_anyT hc)
end
class KeC (us : List V) (k : outParam (List Key)) : Prop where
  pf : us = k.map kV
instance ke0 : KeC [] [] := ⟨rfl⟩
instance keI {i : Int} {us : List V} {k : List Key} [h : KeC us k] : KeC (.int i :: us) (Sum.inl i :: k) := ⟨by rw [h.pf]; rfl⟩
theorem putK_len {κ : Type} [DecidableEq κ] (kvs : List (κ × V)) (k : κ) (v : V) : (putK kvs k v).length ≤ kvs.length + 1 := by
  unfold putK
  split
  · rw [List.length_map]
    omega
  · rw [List.length_append]
    exact Nat.le_refl _
section
variable {σ : L2.St} {D H : Hp} {L : Own} {K : PySem.W.Frag} {Q : VK}
instance v_anyXL {a : Addr} {xs : List V} {bs : List Bool} [S : Sx D L H] [ha : Sl K D L a xs] [c : BsC xs bs] : VC (rAnyX K [.ref a] H Q) (Q (.bl (bs.any id)) H) := ⟨fun h => .inl (VC.pf h)⟩
instance v_anyXT {a : Addr} {xs : List V} {bs : List Bool} [S : Sx D L H] [ha : Kn D a (.tup xs)] [c : BsC xs bs] : VC (rAnyX K [.ref a] H Q) (Q (.bl (bs.any id)) H) := ⟨fun h => .inr ⟨a, bs, rfl, by rw [← c.pf]; exact sqT S ha.pf, h⟩⟩
instance v_dgT {a b : Addr} {kvs : List (List Key × V)} {n : Nat} {us : List V} {k : List Key} {q : Option V → Prop} [S : Sx D L H] [h : Fi L a (.dT kvs) n] [kb : Kn D b (.tup us)] [c : KeC us k] : VC (IsDG (.ref a) (.ref b) H q) (q (valV kvs k)) := ⟨fun z => ⟨a, _, rfl, DGet.t (S.at h.pf) (by rw [← c.pf]; exact S.dH _ _ kb.pf), z⟩⟩
instance v_dpT {a b : Addr} {kvs : List (List Key × V)} {n : Nat} {us : List V} {k : List Key} {v : V} {L' : Own} {q : Hp → Prop} [S : Sx D L H] [h : Fi L a (.dT kvs) n] [kb : Kn D b (.tup us)] [c : KeC us k] [e : Se L n (a, .dT (putK kvs k v)) L'] : VC (IsDP (.ref a) (.ref b) v H q) (kvs.length < 16777216 ∧ ∀ H', Sx D L' H' → q H') :=
  ⟨fun z => ⟨a, _, rfl, DPut.t (S.at h.pf) (by rw [← c.pf]; exact S.dH _ _ kb.pf) z.1, z.2 _ (by have := S.put (.dT (putK kvs k v)) h.pf; rw [e.pf] at this; exact this)⟩⟩
instance v_dnewT [S : Sx D L H] : VC (tDNewT σ H Q) (∀ p H', Sx D ((p, .dT []) :: L) H' → Q (.ref p) H') := ⟨fun h p hp => h p _ (S.new hp)⟩
end
theorem ra_ers {D : Hp} : ∀ {vs : List V} {ds : List PyData} (n : Nat), RpAll D vs ds → RpAll D (vs.eraseIdx n) (ds.eraseIdx n)
  | _, _, _, .nil => .nil
  | _, _, 0, .cons _ t => t
  | _, _, n + 1, .cons h t => .cons h (ra_ers n t)
/-! (x,) * n, n to a million -/
def rRep1U (K : PySem.W.Frag) : R2 := fun x y H Q => ∃ l k v, x = .ref l ∧ y = .int k ∧ SqT K H l [v] ∧ 2 ≤ k ∧ k ≤ 1000000 ∧ ∀ p, H p = none → Q (.ref p) (upd H p (.tup (List.replicate k.toNat [v]).flatten))
theorem rep_size (w : Value) (k : Nat) : (List.replicate k [w]).flatten = List.replicate k w := by
  induction k with
  | zero => rfl
  | succ k ih => rw [List.replicate_succ, List.flatten_cons, ih]; rfl
theorem op_rep1U {X : Cx} : OpR X (binaryOp .Mult) (rRep1U X.K) := by
  intro pins s σ H x y v u Q I rx ry h
  obtain ⟨l, k, z, ex, ey, hT, k2, km, q⟩ := h
  subst ex ey
  cases rx
  obtain ⟨tk, rfl⟩ := ry
  obtain ⟨us, rs, tup, _⟩ := I.tuple hT
  obtain ⟨w, eu, rw1⟩ := vals1 rs
  subst eu
  obtain ⟨ob, at_l, cls_l, m, dat_l⟩ := id tup
  have eo : ob = { cls := .type "tuple", dict := ob.dict, data := .seq [w].toArray m, slots := ob.slots } := by
    obtain ⟨a1, a2, a3, a4⟩ := ob
    simp only at cls_l dat_l
    rw [cls_l, dat_l]
  rw [eo] at at_l
  have big : (List.replicate k.toNat [w]).flatten.length ≤ 1000000 := by rw [rep_size, List.length_replicate]; omega
  have line : 1000000 ≤ sizeLine := by rw [sizeLine_eq]; decide
  have made := tuple_mulW l [w].toArray m ob.dict ob.slots k tk (by simp; omega) (by simp; omega) (by simp; omega) (by simp; omega)
    (by unfold Builtin.Tuple.tupleTooMany; rw [sizeLine_eq]; simp; omega) (by rw [size_rep]; exact Nat.le_trans big line)
  have isT : ∀ s' : Shared, s'.heap = s.heap → s'.TypeIs (.ref l) "tuple" := fun s' e => ⟨_, by rw [e]; exact at_l, rfl⟩
  have fin : ObjOk X.prog X.w (upd H s.heap.objs.size (.tup (List.replicate k.toNat [z]).flatten)) (s.heap.push { cls := Value.type "tuple", data := Data.seq (List.replicate k.toNat [w]).flatten.toArray }) s.heap.objs.size (.tup (List.replicate k.toNat [z]).flatten) := by
    refine ⟨?_, _, rs.rep k.toNat, IsTup.new _ _⟩
    have : (List.replicate k.toNat [z]).flatten.length = (List.replicate k.toNat [w]).flatten.length := (rs.rep k.toNat).length
    omega
  refine wpAny_binaryOp_repeat_ref (T := "tuple") (U := "int") (by decide) (isT s rfl) (fun s' => typeIs_int s' k tk) noFill_tuple_mul PySem.F.fills_int_mul PySem.F.slot_int_rmul repeat_tuple PySem.F.slot_int_index.lookup ?_
  refine call_meets PySem.F.slot_int_rmul (typeIs_int s k tk) PySem.F.entry_int_rmul (PySem.F.args_int_rmul_2 _ _) (int_rmul_tuple k tk l [w].toArray m ob.dict ob.slots) ⟨at_l, rfl, isT s rfl, ?_⟩
  refine call_meets PySem.F.slot_tuple_mul (isT s rfl) PySem.F.entry_tuple_mul (PySem.F.args_tuple_mul_2 _ _) made ⟨at_l, ?_⟩
  rw [size_rep]
  exact ⟨.ref s.heap.objs.size, _, I.laid (t' := s.toks) (fun b o e => Heap.get?_push_of_some _ e) (Nat.le_refl _) fin, rfl, q _ (I.hok.fresh (Nat.le_refl _))⟩
def rMulU (K : PySem.W.Frag) : R2 := fun x y H Q => rMulV K x y H Q ∨ rRep1U K x y H Q
theorem opMulU {X : Cx} : OpR X (binaryOp .Mult) (rMulU X.K) := OpR.or opMulV op_rep1U
section
variable {D H : Hp} {L : Own} {K : PySem.W.Frag} {Q : VK}
instance v_mulUI {i j : Int} : VC (rMulU K (.int i) (.int j) H Q) (MulOk i j ∧ Q (.int (i * j)) H) := ⟨fun h => .inl (VC.pf h)⟩
instance v_mulUL {a : Addr} {x : V} {n : Int} [S : Sx D L H] [ha : Ml D L a [x]] : VC (rMulU K (.ref a) (.int n) H Q) ((-1000000 ≤ n ∧ n ≤ 1000000) ∧ ∀ p H', Sx D ((p, .lst (List.replicate n.toNat x)) :: L) H' → Q (.ref p) H') := ⟨fun h => .inl (VC.pf h)⟩
instance v_mulUT {a : Addr} {x : V} {n : Int} [S : Sx D L H] [ha : Kn D a (.tup [x])] : VC (rMulU K (.ref a) (.int n) H Q) ((0 ≤ n ∧ n ≤ 1000000) ∧ ∀ p D' H', Sx D' L H' → Sm D D' → Kn D' p (.tup (List.replicate n.toNat x)) → Q (.ref p) H') := ⟨fun h => by
  by_cases c : n ≤ 1
  · exact .inl (VC.pf ⟨⟨h.1.1, by omega⟩, h.2⟩)
  · refine .inr ⟨a, n, x, rfl, rfl, sqT S ha.pf, by omega, h.1.2, fun p hp => ?_⟩
    rw [flat_rep]
    exact h.2 p _ _ (S.fix hp) ⟨same_upd (S.dH.free hp)⟩ ⟨upd_same⟩⟩
end
section
variable {σ : L2.St} {D H : Hp} {L : Own} {K : PySem.W.Frag} {Q : VK}
def IsRv (K : PySem.W.Frag) (x : V) (H1 : Hp) (Q : VK) : Prop := ∃ a xs, x = .ref a ∧ SqL K H1 a xs ∧ ∀ p, H1 p = none → Q (.ref p) (upd H1 p (.lst xs.reverse))
instance v_rv0 {te : TE} : VC (tRevL K te σ H Q) (te σ H fun x H1 => IsRv K x H1 Q) := ⟨fun h => h⟩
instance v_rv1 {a : Addr} {xs : List V} [S : Sx D L H] [ha : Sl K D L a xs] : VC (IsRv K (.ref a) H Q) (∀ p H', Sx D ((p, .lst xs.reverse) :: L) H' → Q (.ref p) H') := ⟨fun h => ⟨a, xs, rfl, ha.pf.sq S, fun p hp => h p _ (S.new hp)⟩⟩
end
/-! tuples of truths, list by list -/
theorem TbA.get {D : Hp} {us : List V} {bss : List (List Bool)} (h : TbA D us bss) {i : Nat} {u : V} (hu : us[i]? = some u) : ∃ b bs, u = .ref b ∧ bss[i]? = some bs ∧ Kn D b (.tup (bs.map V.bl)) := by
  have hi := (List.getElem?_eq_some_iff.mp hu).1
  obtain ⟨bs0, hb⟩ : ∃ bs0, bss[i]? = some bs0 := ⟨_, List.getElem?_eq_getElem (by rw [← h.1]; exact hi)⟩
  obtain ⟨b, e, k⟩ := h.2 i u _ hu hb
  exact ⟨b, _, e, hb, k⟩
theorem TbA.take {D : Hp} {us : List V} {bss : List (List Bool)} (h : TbA D us bss) (n : Nat) : TbA D (us.take n) (bss.take n) := ⟨by rw [List.length_take, List.length_take, h.1], fun i u bs h1 h2 => by
  have hi := (List.getElem?_eq_some_iff.mp h1).1
  rw [List.length_take] at hi
  rw [List.getElem?_take_of_lt (by omega)] at h1 h2
  exact h.2 i u bs h1 h2⟩
theorem TbA.drop {D : Hp} {us : List V} {bss : List (List Bool)} (h : TbA D us bss) (n : Nat) : TbA D (us.drop n) (bss.drop n) := ⟨by rw [List.length_drop, List.length_drop, h.1], fun i u bs h1 h2 => by
  rw [List.getElem?_drop] at h1 h2
  exact h.2 _ u bs h1 h2⟩
theorem TbA.set {D : Hp} {us : List V} {bss : List (List Bool)} (h : TbA D us bss) (n : Nat) {b : Addr} {bs : List Bool} (k : Kn D b (.tup (bs.map V.bl))) : TbA D (us.set n (.ref b)) (bss.set n bs) := ⟨by rw [List.length_set, List.length_set, h.1], fun i u cs h1 h2 => by
  rw [List.getElem?_set] at h1 h2
  by_cases c : n = i
  · subst c
    rw [if_pos rfl] at h1 h2
    split at h1
    · split at h2
      · cases h1
        cases h2
        exact ⟨b, rfl, k⟩
      · cases h2
    · cases h1
  · rw [if_neg c] at h1 h2
    exact h.2 i u cs h1 h2⟩
theorem TbA.ers {D : Hp} {us : List V} {bss : List (List Bool)} (h : TbA D us bss) (n : Nat) : TbA D (us.eraseIdx n) (bss.eraseIdx n) := by
  rw [List.eraseIdx_eq_take_drop_succ, List.eraseIdx_eq_take_drop_succ]
  exact (h.take n).app (h.drop (n + 1))
theorem TbA.rev {D : Hp} {us : List V} {bss : List (List Bool)} (h : TbA D us bss) : TbA D us.reverse bss.reverse := ⟨by rw [List.length_reverse, List.length_reverse, h.1], fun i u cs h1 h2 => by
  have hi := (List.getElem?_eq_some_iff.mp h1).1
  rw [List.length_reverse] at hi
  rw [List.getElem?_reverse hi] at h1
  rw [List.getElem?_reverse (by rw [← h.1]; exact hi), ← h.1] at h2
  exact h.2 _ u cs h1 h2⟩
end Fk

namespace Fk
open PySem PySem.Spec PyProof.Rows L2
theorem divW1 {i m : Int} (h0 : 1 ≤ m) (h1 : m ≤ 1000000000000000000000000000000000000000000000000000000000001) : DivOk i m := by
  have h2 : m.natAbs ≤ 1000000000000000000000000000000000000000000000000000000000001 := by omega
  exact .inr (wide_div (b := 200) (by omega) (Nat.lt_of_le_of_lt h2 (by decide +kernel)) (by decide) (by decide))
/-! ## reversed(xs) -/
theorem walk_rev {K : PySem.W.Frag} {a : Addr} {xs : List V} : Walk (Itv K a xs.length) xs.length (fun H => SqL K H a xs) (fun i H v H' => H' = H ∧ xs[xs.length - 1 - i]? = some v) :=
  ⟨fun i _ hi q => ⟨hi, xs, xs[xs.length - 1 - i], q, List.getElem?_eq_getElem _⟩, fun _ q => Nat.le_refl _, fun i H v H' _ q y => ⟨y.1, y.2 xs q⟩⟩
section
variable {σ : L2.St} {D H : Hp} {L : Own} {K : PySem.W.Frag} {Q : VK}
def IsRvd (K : PySem.W.Frag) (v : V) (H1 : Hp) (R : It → Hp → Prop) : Prop := ∃ (a : Addr) (xs : List V), v = .ref a ∧ ((SqL K H1 a xs ∧ R (Itv K a xs.length) H1) ∨ (SqT K H1 a xs ∧ R (RT.ItvT K a xs.length) H1))
instance v_rv {te : TE} {R : It → Hp → Prop} : VC (RT.iRevA K te σ H R) (te σ H fun v H1 => IsRvd K v H1 R) := ⟨fun h => h⟩
instance v_rvL {a : Addr} {xs : List V} {R : It → Hp → Prop} [S : Sx D L H] [ha : Sl K D L a xs] : VC (IsRvd K (.ref a) H R) (R (Itv K a xs.length) H) := ⟨fun h => ⟨a, xs, rfl, .inl ⟨ha.pf.sq S, h⟩⟩⟩
/-! ## t.index(x), t a tuple of numbers -/
def rIdxT (K : PySem.W.Frag) : V → List V → Hp → VK → Prop := fun x xs H Q => ∃ (p : Addr) (ns : List Int) (z : Int), x = .ref p ∧ xs = [.int z] ∧ SqT K H p (ns.map V.int) ∧ z ∈ ns ∧ Q (.int (ns.idxOf z : Nat)) H
theorem mt_idxT {X : Cx} : MtR X "tuple.index" (rIdxT X.K) := by
  intro pins s σ H x xs v us Q I rx rs h
  obtain ⟨p, ns, z, rfl, rfl, hq, hz, q⟩ := h
  cases rx
  obtain ⟨u, rfl, t, rfl⟩ := vals1 rs
  obtain ⟨its, r, pl, _⟩ := I.tuple hq
  exact SeqAt.call_tuple_index pl (SeqAt.ItemsEq.ints r.ints) hz ⟨.int (ns.idxOf z : Nat), H, I.tok _, ⟨_, rfl⟩, q⟩
end
/-! ## tuples whose object is known: their methods can be called -/
class Kz (D : Hp) (a : Addr) (xs : outParam (List V)) : Prop where
  pf : ∃ o : Obj, D a = some (.frz o (.tup xs)) ∧ o.cls = .type "tuple" ∧ o.dict = none
instance kzUp {D D' : Hp} {a : Addr} {xs : List V} [s : Sm D D'] [k : Kz D a xs] : Kz D' a xs := ⟨let ⟨o, e, r⟩ := k.pf; ⟨o, s.e _ _ e, r⟩⟩
def rTupZ (K : PySem.W.Frag) : List V → Hp → VK → Prop := fun xs H Q => ∃ p ys, xs = [.ref p] ∧ SqL K H p ys ∧ ∀ (l : Addr) (o : Obj), H l = none → o.cls = .type "tuple" → o.dict = none → Q (.ref l) (upd H l (.frz o (.tup ys)))
theorem call_tupZ {X : Cx} : CallR X (.type "tuple") (rTupZ X.K) := by
  intro pins s σ H xs us Q I r h
  obtain ⟨p, ys, rfl, hq, q⟩ := h
  obtain ⟨u, rfl, rx⟩ := vals1 r
  cases rx
  obtain ⟨its, rv, pl, hz⟩ := I.list hq
  have hl := rv.length
  refine call_tuple_list pl.isList (fun h' kp => ?_) (by simp only [List.size_toArray] <;> omega)
  have I1 : Inv X pins σ H { s with heap := h' } := I.kept (t' := s.toks) kp
  refine ⟨.ref h'.objs.size, _, I1.laid (t' := s.toks) (o := .frz { cls := .type "tuple", data := .seq its.toArray } (.tup ys)) (fun b o e => Heap.get?_push_of_some _ e) (Nat.le_refl _) ⟨Heap.get?_push_size _ rfl, hz, its, rv, IsTup.new _ _⟩, rfl, q _ _ (I1.hok.fresh (Nat.le_refl _)) rfl rfl⟩
def tyZ : V → Hp → Prop := fun x H => ∃ (a : Addr) (o : Obj) (xs : List V), x = .ref a ∧ H a = some (.frz o (.tup xs)) ∧ o.cls = .type "tuple" ∧ o.dict = none
theorem ty_tupZ {X : Cx} : TyOk X "tuple" tyZ := by
  intro pins σ H s x v I r ty
  obtain ⟨a, o, xs, rfl, e, hc, hd⟩ := ty
  cases r
  obtain ⟨ho, _⟩ := (show ObjOk X.prog X.w H s.heap a (.frz o (.tup xs)) from I.hok a _ e)
  refine ⟨⟨o, ho, hc⟩, fun b hb => ?_⟩
  cases hb
  exact ⟨o, ho, hd⟩
section
variable {σ : L2.St} {D H : Hp} {L : Own} {K : PySem.W.Frag} {Q : VK}
theorem sqZ {a : Addr} {xs : List V} (S : Sx D L H) (h : Kz D a xs) : SqT K H a xs := let ⟨o, e, _⟩ := h.pf; .inl (.inr ⟨o, S.dH _ _ e⟩)
instance v_idxZ {a : Addr} {xs : List V} {ns : List Int} {z : Int} [S : Sx D L H] [ha : Kz D a xs] [c : IsC xs ns] : VC (rIdxT K (.ref a) [.int z] H Q) (z ∈ ns ∧ Q (.int (ns.idxOf z : Nat)) H) :=
  ⟨fun h => ⟨a, ns, z, rfl, rfl, by rw [← c.pf]; exact sqZ S ha, h.1, h.2⟩⟩
instance v_mG {to : TE} {t : TA} {ty : V → Hp → Prop} {r : V → List V → Hp → VK → Prop} : VC (tMG ty r to t σ H Q) (to σ H fun x H1 => ty x H1 ∧ t σ H1 fun xs H2 => r x xs H2 Q) := ⟨fun h => h⟩
instance v_tyZ {a : Addr} {xs : List V} {p : Prop} [S : Sx D L H] [ha : Kz D a xs] : VC (tyZ (.ref a) H ∧ p) p := ⟨fun h => ⟨let ⟨o, e, r1, r2⟩ := ha.pf; ⟨a, o, xs, rfl, S.dH _ _ e, r1, r2⟩, h⟩⟩
instance v_tupZ {a : Addr} {xs : List V} [S : Sx D L H] [ha : Sl K D L a xs] : VC (rTupZ K [.ref a] H Q) (∀ p D' H', Sx D' L H' → Sm D D' → Kz D' p xs → Q (.ref p) H') :=
  ⟨fun h => ⟨a, xs, rfl, ha.pf.sq S, fun p o hp h1 h2 => h p _ _ (S.fix hp) ⟨same_upd (S.dH.free hp)⟩ ⟨o, upd_same, h1, h2⟩⟩⟩
instance tyTupZ {a : Addr} {xs : List V} [S : Sx D L H] [k : Kz D a xs] : TyC K H (.ref a) "tuple" := ⟨let ⟨o, e, _⟩ := k.pf; .fTuple (S.dH _ _ e)⟩
instance v_lenZ {a : Addr} {xs : List V} {n : Nat} [S : Sx D L H] [ha : Kz D a xs] [l : LnC xs n] : VC (rLen K [.ref a] H Q) (Q (.int n) H) := ⟨fun h => ⟨.ref a, xs.length, rfl, .inr ⟨xs, sqZ S ha, rfl⟩, by rw [l.pf]; exact h⟩⟩
instance v_sqZ {a : Addr} {xs : List V} {R : It → Hp → Prop} [S : Sx D L H] [ha : Kz D a xs] : VC (IsSq K (.ref a) H R) (R (Itt K a) H) := ⟨fun h => .inr ⟨a, rfl, ⟨xs, sqZ S ha⟩, h⟩⟩
instance v_ixZ {a : Addr} {xs : List V} {i : Int} {v : V} [S : Sx D L H] [ha : Kz D a xs] [h : AtC xs i v] : VC (rIx K (.ref a) (.int i) H Q) (Q v H) := ⟨fun k => .inr (.inl ⟨a, xs, i, v, rfl, rfl, sqZ S ha, h.pf, k⟩)⟩
instance v_sumZ {a : Addr} {xs : List V} {ns : List Int} [S : Sx D L H] [ha : Kz D a xs] [c : IsC xs ns] : VC (rSumX K [.ref a] H Q) (Q (.int ns.sum) H) := ⟨fun h => .inr ⟨a, ns, rfl, by rw [← c.pf]; exact sqZ S ha, h⟩⟩
instance v_sortRZ {a : Addr} {xs : List V} {ns : List Int} [S : Sx D L H] [ha : Kz D a xs] [c : IsC xs ns] : VC (rSortedR K [.ref a] [.bl true] H Q) (∀ ns' : List Int, ns'.Perm ns → ns'.Pairwise (· ≥ ·) → ∀ p H', Sx D ((p, .lst (ns'.map V.int)) :: L) H' → Q (.ref p) H') :=
  ⟨fun h => ⟨a, ns, rfl, rfl, .inr (by rw [← c.pf]; exact sqZ S ha), fun ns' p h1 h2 hp => h ns' h1 h2 p _ (S.new hp)⟩⟩
instance v_minZ {a : Addr} {xs : List V} {ns : List Int} [S : Sx D L H] [ha : Kz D a xs] [c : IsC xs ns] : VC (rMinY K [.ref a] H Q) (0 < ns.length ∧ ∀ m, m ∈ ns → (∀ y, y ∈ ns → m ≤ y) → Q (.int m) H) := ⟨fun h => c_minYS (sqZ S ha) h⟩
instance v_maxZ {a : Addr} {xs : List V} {ns : List Int} [S : Sx D L H] [ha : Kz D a xs] [c : IsC xs ns] : VC (rMaxY K [.ref a] H Q) (0 < ns.length ∧ Q (.int (mxL ns)) H) := ⟨fun h => c_maxYS (sqZ S ha) h⟩
/-! ## the same data on both sides -/
theorem r_neSame {x y : V} {d : PyData} {n : Nat} (hx : Dp K H x d) (hy : Dp K H y d) (sh : Sh n d) (k : Q (.bl false) H) (hn : n ≤ 64 := by decide) : rNeX K x y H Q :=
  .inr ⟨d, d, hx, hy, sh.ok hn, sh.ok hn, by rw [SeqAt.eqv_refl d sh.1]; exact k⟩
theorem r_eqSame {x y : V} {d : PyData} {n : Nat} (hx : Dp K H x d) (hy : Dp K H y d) (sh : Sh n d) (k : Q (.bl true) H) (hn : n ≤ 64 := by decide) : rEqX K x y H Q :=
  .inr ⟨d, d, hx, hy, sh.ok hn, sh.ok hn, by rw [SeqAt.eqv_refl d sh.1]; exact k⟩
/-- a number, a list of pairs, one thing more -/
abbrev nplD (c : Int) (ps : List (Int × Int)) (d : PyData) : PyData := .tuple [.int c, .list (ps.map pI), d]
theorem sh_npl {c : Int} {ps : List (Int × Int)} {d : PyData} (h : Sh 2 d) : Sh 3 (nplD c ps d) := Sh.tup (n := 2) fun e he => by
  rcases List.mem_cons.mp he with rfl | he
  · exact Sh.int 2 c
  · rcases List.mem_cons.mp he with rfl | he
    · exact Sh.list (n := 1) fun z hz => by
        obtain ⟨p, _, rfl⟩ := List.mem_map.mp hz
        exact Sh.tup (n := 0) Sh.ints
    · rw [List.mem_singleton.mp he]
      exact h
theorem dp_npl {t g : Addr} {c : Int} {us : List V} {ps : List (Int × Int)} {v : V} {d : PyData} (S : Sx D L H) (kt : Kn D t (.tup [.int c, .ref g, v])) (hg : Rds K D L g us) (hr : RpAll D us (ps.map pI)) (hd : Dp K H v d) : Dp K H (.ref t) (nplD c ps d) :=
  .tup (sqT S kt.pf) (.cons (.int c) (.cons (.lst (hg.sq S) (RpAll.dp (RpAll.up S.dH hr))) (.cons hd .nil)))
end
/-! ## t + u, the object known -/
def rCatZ (K : PySem.W.Frag) : R2 := fun x y H Q => ∃ (a b : Addr) (xs ys : List V), x = .ref a ∧ y = .ref b ∧ SqT K H a xs ∧ SqT K H b ys ∧ xs ≠ [] ∧ ys ≠ [] ∧ xs.length + ys.length ≤ sizeLine ∧
  ∀ (p : Addr) (o : Obj), H p = none → o.cls = .type "tuple" → o.dict = none → Q (.ref p) (upd H p (.frz o (.tup (xs ++ ys))))
theorem opCatZ {X : Cx} : OpR X (binaryOp .Add) (rCatZ X.K) := by
  intro pins s σ H x y v u Q I rx ry h
  obtain ⟨a, b, xs, ys, rfl, rfl, ha, hb, hx, hy, hz, q⟩ := h
  cases rx
  cases ry
  obtain ⟨its, r1, p1, _⟩ := I.tuple ha
  obtain ⟨its2, r2, p2, _⟩ := I.tuple hb
  refine HT.cat_tup p1 p2 (fun z => hx (r1.nil_iff.mp z)) (fun z => absurd (r2.nil_iff.mp z) hy) (fun z => ?_) (by rw [← r1.length, ← r2.length]; exact hz)
  exact ⟨.ref s.heap.objs.size, _, I.laid (t' := s.toks) (o := .frz { cls := .type "tuple", data := .seq (its ++ its2).toArray } (.tup (xs ++ ys))) (fun b ob q => Heap.get?_push_of_some _ q) (Nat.le_refl _) ⟨Heap.get?_push_size _ rfl, by rw [List.length_append]; exact hz, _, r1.append r2, IsTup.new _ _⟩, rfl, q _ _ (I.hok.fresh (Nat.le_refl _)) rfl rfl⟩
section
variable {σ : L2.St} {D H : Hp} {L : Own} {K : PySem.W.Frag} {Q : VK}
instance v_catZ {a b : Addr} {xs ys : List V} [S : Sx D L H] [ha : Kz D a xs] [hb : Kn D b (.tup ys)] : VC (rCatZ K (.ref a) (.ref b) H Q) ((xs ≠ [] ∧ ys ≠ [] ∧ xs.length + ys.length ≤ 16777216) ∧ ∀ p D' H', Sx D' L H' → Sm D D' → Kz D' p (xs ++ ys) → Q (.ref p) H') :=
  ⟨fun h => ⟨a, b, xs, ys, rfl, rfl, sqZ S ha, sqT S hb.pf, h.1.1, h.1.2.1, h.1.2.2, fun p o hp h1 h2 => h.2 p _ _ (S.fix hp) ⟨same_upd (S.dH.free hp)⟩ ⟨o, upd_same, h1, h2⟩⟩⟩
end
end Fk

namespace Fk
open PySem PySem.Spec PyProof.Rows L2
/-! ## zip of a list and a tuple -/
def Itzl (K : PySem.W.Frag) (a b : Addr) : It :=
  ⟨fun i H => ∃ (xs ys : List V) (x y : V), SqL K H a xs ∧ SqT K H b ys ∧ xs[i]? = some x ∧ ys[i]? = some y,
    fun i H v H' => ∃ T x y, v = .ref T ∧ H T = none ∧ H' = upd H T (.tup [x, y]) ∧ (∀ xs, SqL K H a xs → xs[i]? = some x) ∧ ∀ ys, SqT K H b ys → ys[i]? = some y,
    fun i H => ∃ xs ys : List V, SqL K H a xs ∧ SqT K H b ys ∧ i ≤ xs.length ∧ i ≤ ys.length ∧ (i = xs.length ∨ i = ys.length)⟩
theorem turn_zipL {P : Program} {w : World} {K : PySem.W.Frag} {elts : List Expr} {kk : Nat} {tpos : Pos} {a b z TI TO i1 i2 : Addr} (hai : a ≠ i1) (hbi : b ≠ i2) (S : ZipSep2 z TI TO i1 i2 [i1, a] [i2, b]) :
    Turn P w K (.Tuple elts kk tpos) (Itzl K a b) [z, TI, TO, i1, i2] z (fun i h => IsZip h z TI TO .none ∧ IsTupOf2 h TI (.ref i1) (.ref i2) ∧ (∃ x y, IsTupOf2 h TO x y) ∧ h.IsListIter i1 a i ∧ h.IsTupleIter i2 b i) where
  mem := by simp
  obj := fun i h st c hc => by
    obtain ⟨hz, hTI, ⟨x, y, hTO⟩, ⟨o1, e1, _, d1⟩, ⟨o2, e2, _, d2⟩⟩ := st
    have e' : c = z ∨ c = TI ∨ c = TO ∨ c = i1 ∨ c = i2 := by simpa using hc
    rcases e' with q | q | q | q | q
    · rw [q]; exact ⟨_, hz, fun v q => nomatch q⟩
    · rw [q]; exact ⟨_, hTI, fun v q => nomatch q⟩
    · rw [q]; exact ⟨_, hTO, fun v q => nomatch q⟩
    · rw [q]; exact ⟨o1, e1, fun v q => by rw [d1] at q; cases q⟩
    · rw [q]; exact ⟨o2, e2, fun v q => by rw [d2] at q; cases q⟩
  keep := fun i h h' st k => by
    obtain ⟨hz, hTI, ⟨x, y, hTO⟩, h1, h2⟩ := st
    exact ⟨k z (by simp) _ hz, k TI (by simp) _ hTI, ⟨x, y, k TO (by simp) _ hTO⟩, h1.at fun o q => k i1 (by simp) o q, h2.at fun o q => k i2 (by simp) o q⟩
  item := by
    intro X hP hw hK hc i pins s σ H E I hf st hg
    subst hP hw hK
    obtain ⟨hz, hTI, ⟨x0, y0, hTO⟩, h1, h2⟩ := st
    obtain ⟨xs, ys, x, y, hqx, hqy, hx, hy⟩ := hg
    obtain ⟨its, rv, p, _⟩ := I.list hqx
    obtain ⟨its2, rv2, p2, _⟩ := I.tuple hqy
    obtain ⟨u, hu, ru⟩ := rv.get hx
    obtain ⟨u2, hu2, ru2⟩ := rv2.get hy
    have hzl : z < s.heap.objs.size := Heap.lt_size hz
    have n1 : i < its.toArray.size := by simpa using (List.getElem?_eq_some_iff.mp hu).1
    have n2 : i < its2.toArray.size := by simpa using (List.getElem?_eq_some_iff.mp hu2).1
    have hh := I.ok.hd hc
    refine wpAny_pyNext_zipD2_item S (Draws.list (A := X.A.in1) (show X.A.in1.handled = none from hh) i1 a hai its.toArray) (Draws.tuple (A := X.A.in1) (show X.A.in1.handled = none from hh) i2 b hbi its2.toArray) hz hTI hTO ⟨h1, p.isList⟩ ⟨h2, p2⟩ n1 n2
      fun v1 v2 h' tk hv1 hv2 z' TO' st1 st2 hT hsz hk => ?_
    have ev1 : v1 = u := by
      rw [List.getElem?_toArray, hu] at hv1
      exact (Option.some.inj hv1).symm
    have ev2 : v2 = u2 := by
      rw [List.getElem?_toArray, hu2] at hv2
      exact (Option.some.inj hv2).symm
    subst ev1 ev2
    refine ⟨_, rfl, wpAny_letOwnedTupleGo_zip (s := { s with heap := h', toks := tk }) z' fun h'' z'' sb => ?_⟩
    have hT2 : h''.get? s.heap.objs.size = some { cls := .type "tuple", data := .seq #[v1, v2] } := (sb.2 _ (Nat.ne_of_gt hzl)).trans hT
    have new : ObjOk X.prog X.w (upd H s.heap.objs.size (.tup [x, y])) h'' s.heap.objs.size (.tup [x, y]) :=
      ⟨by show 2 ≤ sizeLine; decide, [v1, v2], .cons ru (.cons ru2 .nil), ⟨_, hT2, rfl, _, rfl⟩⟩
    have I1 : Inv X pins σ (upd H s.heap.objs.size (.tup [x, y])) { s with heap := h'', toks := tk } :=
      I.turnedNew (t' := tk) (ch := [z, TI, TO, i1, i2]) (fun c o hb q => (sb.2 c (fun q' => hb (by simp [q']))).trans (hk c o (fun q' => hb (by simp [q'])) (fun q' => hb (by simp [q'])) (fun q' => hb (by simp [q'])) (fun q' => hb (by simp [q'])) q)) hf (Nat.le_refl _) new
    refine ⟨.ref s.heap.objs.size, _, I1, rfl, ⟨_, x, y, rfl, I.hok.fresh (Nat.le_refl _), rfl, fun l hl => by rw [I.list_inj hl hqx]; exact hx, fun l hl => by rw [I.tuple_inj hl hqy]; exact hy⟩, ⟨z'', ?_, ⟨v1, v2, ?_⟩, ?_, ?_⟩, fun c hcm => ?_⟩
    · exact (sb.2 _ S.TIz).trans (hk _ _ S.TIz S.TITO S.TIi1 S.TIi2 hTI)
    · exact (sb.2 _ S.TOz).trans TO'
    · exact st1.1.at fun o q => (sb.2 _ (Ne.symm S.zi1)).trans q
    · exact st2.1.at fun o q => (sb.2 _ (Ne.symm S.zi2)).trans q
    · have hlt : c < s.heap.objs.size := by
        have e' : c = z ∨ c = TI ∨ c = TO ∨ c = i1 ∨ c = i2 := by simpa using hcm
        rcases e' with q | q | q | q | q
        · rw [q]; exact hzl
        · rw [q]; exact Heap.lt_size hTI
        · rw [q]; exact Heap.lt_size hTO
        · rw [q]; obtain ⟨_, e1, _⟩ := h1; exact Heap.lt_size e1
        · rw [q]; obtain ⟨_, e2, _⟩ := h2; exact Heap.lt_size e2
      rw [upd_ne (Nat.ne_of_lt hlt)]
      exact (hf c hcm).1
  done := by
    intro X hP hw hK hc i pins s σ H E I hf st hg
    subst hP hw hK
    obtain ⟨hz, hTI, ⟨x0, y0, hTO⟩, h1, h2⟩ := st
    obtain ⟨xs, ys, hqx, hqy, l1, l2, hend⟩ := hg
    obtain ⟨its, rv, p, _⟩ := I.list hqx
    obtain ⟨its2, rv2, p2, _⟩ := I.tuple hqy
    have q1 := rv.length
    have q2 := rv2.length
    have z1 : its.toArray.size = xs.length := by simp [q1]
    have z2 : its2.toArray.size = ys.length := by simp [q2]
    have hh := I.ok.hd hc
    refine wpAny_pyNext_zipD2_end (i := i) S (Draws.list (A := X.A.in1) (show X.A.in1.handled = none from hh) i1 a hai its.toArray) (Draws.tuple (A := X.A.in1) (show X.A.in1.handled = none from hh) i2 b hbi its2.toArray) hz hTI hTO ⟨h1, p.isList⟩ ⟨h2, p2⟩ (by rw [z1]; exact l1) (by rw [z2]; exact l2) (by rw [z1, z2]; exact hend)
      fun h' tk hk => ⟨rfl, I.turnedL (t' := tk) (ch := [z, TI, TO, i1, i2]) (fun c o hb q =>
      hk c o (fun q' => hb (by simp [q'])) (fun q' => hb (by simp [q'])) (fun q' => hb (by simp [q'])) (fun q' => hb (by simp [q'])) q) hf⟩
  self := fun A i s Q E st h => wpAny_pyIter_zip st.1 h
def iZipL (K : PySem.W.Frag) (ta : TA) : TI := fun σ H R => ta σ H fun vs H1 => ∃ a b xs ys, vs = [.ref a, .ref b] ∧ SqL K H1 a xs ∧ SqT K H1 b ys ∧ R (Itzl K a b) H1
theorem pi_zipL (K : PySem.W.Frag) {X : Cx} {e e2 : Expr} {ta : TA} {p pos tpos : Pos} {elts : List Expr} {kk : Nat} (hg : Gl X "zip") (hm : X.mg "zip" = none) (ha : PA X [e, e2] ta) (hK : X.K = K := by rfl)
    (hs : starEach [e, e2] X.env = (false, eval e X.env) :: starEach [e2] X.env := by rfl) (hpl : (backTo pos (starEach [e2] X.env)).any (·.1) = false := by rfl) :
    PI X (.Tuple elts kk tpos) (.Call (.Name "zip" p) [e, e2] [] pos) (iZipL K ta) := by
  subst hK
  refine ⟨fun pins s σ H R I h => ?_⟩
  refine Call_ (ld_blt I hg hm PyProof.Rows.boot_zip (PyProof.Rows.callWith_type1 (thn (ha.run pos pins s σ H _ I h) fun us s1 ⟨vs, H1, I1, r1, q1⟩ => ?_) hs hpl))
  have fresh5 : ∀ c, c ∈ [s1.heap.objs.size + 4, s1.heap.objs.size + 2, s1.heap.objs.size + 3, s1.heap.objs.size, s1.heap.objs.size + 1] → FpOk X pins H1 c := fun c hcm => by
    have e' : c = s1.heap.objs.size + 4 ∨ c = s1.heap.objs.size + 2 ∨ c = s1.heap.objs.size + 3 ∨ c = s1.heap.objs.size ∨ c = s1.heap.objs.size + 1 := by simpa using hcm
    have hle : s1.heap.objs.size ≤ c := by
      rcases e' with z | z | z | z | z
      · rw [z]; exact Nat.le_add_right _ _
      · rw [z]; exact Nat.le_add_right _ _
      · rw [z]; exact Nat.le_add_right _ _
      · rw [z]; exact Nat.le_refl _
      · rw [z]; exact Nat.le_add_right _ _
    exact I1.fpOk hle (I1.hok.fresh hle)
  obtain ⟨a, b, xs, ys, ex, hqx, hqy, q⟩ := q1
  subst ex
  cases r1 with
  | cons r rr =>
    cases rr with
    | cons r' rr =>
      cases rr
      cases r
      cases r'
      obtain ⟨its, rv, p1, _⟩ := I1.list hqx
      obtain ⟨its2, rv2, p2, _⟩ := I1.tuple hqy
      obtain ⟨o2, ho2, _⟩ := id p2
      have la : a < s1.heap.objs.size := p1.lt
      have lb : b < s1.heap.objs.size := Heap.lt_size ho2
      refine zip_begins2 (begins_list a its.toArray) (begins_tuple b its2.toArray) p1.isList (show s1.heap.IsTuple b its2.toArray from p2) fun h' hz hTI hTO h1 h2 hsz hk => wpAny_pyIter_zip hz ?_
      have I2 : Inv X pins σ H1 { s1 with heap := h' } := I1.kept (t' := s1.toks) hk
      exact ⟨s1.heap.objs.size + 4, [s1.heap.objs.size + 4, s1.heap.objs.size + 2, s1.heap.objs.size + 3, s1.heap.objs.size, s1.heap.objs.size + 1], _, _, H1, rfl, I2,
        turn_zipL (Nat.ne_of_lt la) (Nat.ne_of_lt (Nat.lt_succ_of_lt lb)) (zip_sep2 (N := s1.heap.objs.size) (fp1 := [a]) (fp2 := [b]) (fun c hc => by rw [List.mem_singleton.mp hc]; exact la) (fun c hc => by rw [List.mem_singleton.mp hc]; exact lb)),
        ⟨hz, hTI, ⟨_, _, hTO⟩, ⟨_, h1, rfl, rfl⟩, ⟨_, h2, rfl, rfl⟩⟩, fresh5, q⟩
theorem walk_zipL {K : PySem.W.Frag} {a b : Addr} {xs ys : List V} {n : Nat} (hn : n = min xs.length ys.length) : Walk (Itzl K a b) n (fun H => SqL K H a xs ∧ SqT K H b ys) (YPair (fun i => xs[i]?) (fun i => ys[i]?)) := by
  subst hn
  refine ⟨fun i H hi q => ?_, fun H q => ⟨xs, ys, q.1, q.2, by omega, by omega, by omega⟩, fun i H v H' hi q y => ?_⟩
  · have k1 : i < xs.length := by omega
    have k2 : i < ys.length := by omega
    exact ⟨xs, ys, xs[i], ys[i], q.1, q.2, by simp [k1], by simp [k2]⟩
  · obtain ⟨T, x, z, e1, e2, e3, e4, e5⟩ := y
    exact ⟨T, x, z, e1, e2, e3, e4 xs q.1, e5 ys q.2⟩
section
variable {σ : L2.St} {D H : Hp} {L : Own} {K : PySem.W.Frag} {Q : VK}
def IsZL (K : PySem.W.Frag) (vs : List V) (H1 : Hp) (R : It → Hp → Prop) : Prop := ∃ a b xs ys, vs = [.ref a, .ref b] ∧ SqL K H1 a xs ∧ SqT K H1 b ys ∧ R (Itzl K a b) H1
instance v_zipLw {tr : TA} {R : It → Hp → Prop} : VC (iZipL K tr σ H R) (tr σ H fun vs H1 => IsZL K vs H1 R) := ⟨fun h => h⟩
instance v_zipLLT {a b : Addr} {xs ys : List V} {R : It → Hp → Prop} [S : Sx D L H] [ha : Sl K D L a xs] [hb : Kn D b (.tup ys)] : VC (IsZL K [.ref a, .ref b] H R) (R (Itzl K a b) H) := ⟨fun h => ⟨a, b, xs, ys, rfl, ha.pf.sq S, sqT S hb.pf, h⟩⟩
end
end Fk

namespace Fk
open PySem PySem.Spec PyProof.Rows L2
/-! ## {t: v}, t a tuple -/
def tDisp1T (tk tv : TE) : TE := fun σ H Q => ∀ p, H p = none → tk σ (upd H p (.dT [])) fun x H1 => tv σ H1 fun y H2 => H2 p = some (.dT []) ∧ ∃ (k : List Key) (b : Addr), x = .ref b ∧ H2 b = some (.tup (k.map kV)) ∧ Q (.ref p) (upd H2 p (.dT [(k, y)]))
theorem pe_disp1T {X : Cx} {pos : Pos} {ek ev : Expr} {tk tv : TE} (hu : X.A.units + 1 < cLine) (hk : PE X ek tk) (hv : PE X ev tv) : PE X (.Dict [some ek] [ev] pos) (tDisp1T tk tv) := by
  refine ⟨fun pins s σ H Q I q => ?_⟩
  have hn := I.hok.fresh (Nat.le_refl s.heap.objs.size)
  have I1 := I.laid (a := s.heap.objs.size) (o := .dT []) (h' := s.heap.push { cls := .type "dict", data := .dict #[] }) (t' := s.toks) (fun _ _ q => Heap.get?_push_of_some _ q) (Nat.le_refl _) (dt_empty s.heap I.big)
  have hlen := pairTrees_length [some ek] [ev] X.env pos rfl rfl
  rw [arm_eval_Dict, zip_pairTrees [some ek] [ev] X.env pos rfl rfl, dictDisplay_pairs (pairTrees [some ek] [ev] X.env pos) (fun e => by rw [e] at hlen; simp at hlen) (by rw [hlen]; show 1 < 17; decide)]
  refine wpAny_bind (wpAny_standAt (wpAny_bind (wpAny_subDictH (knd := tupleKind (mixKind X.prog X.w)) (Q := fun d s' => wpAny (model X.prog X.w) X.A (pure (Value.ref d)) (EP X pins σ Q) X.xe s') (Nat.lt_of_le_of_lt (Nat.le_succ _) hu) (by rw [hlen]; show 1 ≤ 15; decide) ?_)))
  refine thn ((pps_cons hk hv pps_nil).run pins _ σ _ (fun ps H2 => match ps with | [(x, y)] => H2 s.heap.objs.size = some (.dT []) ∧ ∃ (k : List Key) (b : Addr), x = .ref b ∧ H2 b = some (.tup (k.map kV)) ∧ Q (.ref s.heap.objs.size) (upd H2 s.heap.objs.size (.dT [(k, y)])) | _ => False) I1 (q _ hn)) fun ws s2 ⟨ps, H2, I2, rel, q2⟩ => ?_
  cases rel with
  | nil => exact q2.elim
  | @cons a b as bs h t =>
    cases t with
    | cons h' t' => exact q2.elim
    | nil =>
      obtain ⟨x, y⟩ := a
      obtain ⟨u, r⟩ := b
      obtain ⟨e, k, b, rfl, eb, q3⟩ := q2
      obtain ⟨h1, h2⟩ := h
      cases (show u = Value.ref b from h1)
      obtain ⟨z, hd, xs, rel0, dd⟩ := dt_of I2.hok e
      cases rel0
      refine ⟨[(k, b, r)], ⟨rfl, rfl, key_of I2.hok eb, True.intro⟩, dd, fun h' tk hm hs => wpAny_pure ⟨.ref s.heap.objs.size, _, ?_, rfl, q3⟩⟩
      obtain ⟨o, es, ep, hq, g2, g3, g4, _, g5⟩ := hm
      refine d_write I2 (by rw [e]; exact True.intro) hs ⟨o, hq⟩ ⟨by show 1 ≤ sizeLine; decide, hd, [(k, b, r)], .cons ⟨rfl, ?_, h2⟩ .nil, o, es, ep, hq, g2, g3, g4, g5⟩
      rw [upd_ne (ne_of eb e (fun z => nomatch z))]
      exact eb
instance keM {ns : List Int} : KeC (ns.map V.int) (ns.map Sum.inl) := ⟨by rw [List.map_map]; rfl⟩
section
variable {σ : L2.St} {D H : Hp} {L : Own} {K : PySem.W.Frag} {Q : VK}
instance v_sortWZ {a : Addr} {xs : List V} {ns : List Int} [S : Sx D L H] [ha : Kz D a xs] [c : IsC xs ns] : VC (rSortedW K [.ref a] H Q) (∀ ns' : List Int, ns'.Perm ns → ns'.Pairwise (· ≤ ·) → ∀ p H', Sx D ((p, .lst (ns'.map V.int)) :: L) H' → Q (.ref p) H') :=
  ⟨fun h => .inl ⟨a, ns, rfl, .inr (by rw [← c.pf]; exact sqZ S ha), fun ns' p h1 h2 hp => h ns' h1 h2 p _ (S.new hp)⟩⟩
def NwD1 (p : Addr) (x y : V) (H2 : Hp) (Q : VK) : Prop := H2 p = some (.dT []) ∧ ∃ (k : List Key) (b : Addr), x = .ref b ∧ H2 b = some (.tup (k.map kV)) ∧ Q (.ref p) (upd H2 p (.dT [(k, y)]))
instance v_disp1T {tk tv : TE} [S : Sx D L H] : VC (tDisp1T tk tv σ H Q) (∀ p H', Sx D ((p, .dT []) :: L) H' → tk σ H' fun x H1 => tv σ H1 fun y H2 => NwD1 p x y H2 Q) := ⟨fun h p hp => h p _ (S.new hp)⟩
instance v_nwD1 {p b : Addr} {y : V} {us : List V} {k : List Key} {n : Nat} {L' : Own} [S : Sx D L H] [h : Fi L p (.dT []) n] [kb : Kn D b (.tup us)] [c : KeC us k] [e : Se L n (p, .dT [(k, y)]) L'] : VC (NwD1 p (.ref b) y H Q) (∀ H', Sx D L' H' → Q (.ref p) H') :=
  ⟨fun z => ⟨S.at h.pf, k, b, rfl, by rw [← c.pf]; exact S.dH _ _ kb.pf, z _ (by have := S.put (.dT [(k, y)]) h.pf; rw [e.pf] at this; exact this)⟩⟩
end
end Fk

namespace Fk
open PySem PySem.Spec PyProof.Rows L2
/-! ## sorted pairs, in their order -/
def leP (a b : Int × Int) : Prop := a.1 < b.1 ∨ (a.1 = b.1 ∧ a.2 ≤ b.2)
/-- the two numbers of the tuple that stands there -/
def keyD (D : Hp) : V → Int × Int
  | .ref t => match D t with
    | some (.tup [.int i, .int j]) => (i, j)
    | _ => (0, 0)
  | _ => (0, 0)
theorem keyD_at {D : Hp} {b : Addr} {i j : Int} (e : D b = some (.tup [.int i, .int j])) : keyD D (.ref b) = (i, j) := by
  show (match D b with
    | some (.tup [.int i, .int j]) => (i, j)
    | _ => (0, 0)) = (i, j)
  rw [e]
theorem keyD_map {D : Hp} : ∀ {us : List V} {xs : List (Int × Int)}, RpAll D us (xs.map pI) → us.map (keyD D) = xs
  | [], [], _ => rfl
  | [], _ :: _, h => nomatch h
  | _ :: _, [], h => nomatch h
  | u :: us, x :: xs, .cons h t => by
    obtain ⟨b, rfl, e⟩ := h.inv_tupI
    have e1 : keyD D (.ref b) = x := keyD_at e
    rw [List.map_cons, e1, keyD_map t]
theorem rp_keys {D : Hp} {us : List V} {xs : List (Int × Int)} (h : RpAll D us (xs.map pI)) : ∀ {ys : List V}, (∀ y, y ∈ ys → y ∈ us) → RpAll D ys ((ys.map (keyD D)).map pI)
  | [], _ => .nil
  | y :: ys, hy => by
    obtain ⟨b, x, _, rfl, kb⟩ := ra_memP h (hy y List.mem_cons_self)
    have e1 : keyD D (.ref b) = x := keyD_at kb.pf
    rw [List.map_cons, List.map_cons, e1]
    exact .cons (.tupI (ns := [x.1, x.2]) kb.pf) (rp_keys h fun z hz => hy z (List.mem_cons_of_mem _ hz))
section
variable {σ : L2.St} {D H : Hp} {L : Own} {K : PySem.W.Frag} {Q : VK}
theorem c_sortPO {a : Addr} {us : List V} {xs : List (Int × Int)} (S : Sx D L H) (ha : Rds K D L a us) (hr : RpAll D us (xs.map pI)) (k : ∀ (ys : List V) (P : List (Int × Int)) p H', P.Perm xs → P.Pairwise leP → RpAll D ys (P.map pI) → Sx D ((p, .lst ys) :: L) H' → Q (.ref p) H') : rSortedPO K [.ref a] H Q := by
  refine ⟨a, us, keyD D, rfl, ha.sq S, fun v hv => ?_, fun ys p h1 h2 hn => k ys (ys.map (keyD D)) p _ ?_ ?_ (rp_keys hr fun y hy => h2.perm.mem_iff.mp hy) (S.new hn)⟩
  · obtain ⟨b, x, _, rfl, kb⟩ := ra_memP hr hv
    have e1 : keyD D (.ref b) = x := keyD_at kb.pf
    rw [e1]
    exact ⟨b, rfl, S.dH _ _ kb.pf⟩
  · have := h2.perm.map (keyD D)
    rw [keyD_map hr] at this
    exact this
  · refine List.Pairwise.map _ (fun x y h => ?_) h1
    have := SrtO.lexB_no.mp h
    show (keyD D x).1 < (keyD D y).1 ∨ ((keyD D x).1 = (keyD D y).1 ∧ (keyD D x).2 ≤ (keyD D y).2)
    omega
end
end Fk

namespace Fk
open PySem PySem.Spec PyProof.Rows L2
/-! ## sorted(d.items()), keys and values numbers -/
abbrev entI (e : Int × Int) : Key × V := (Sum.inl e.1, V.int e.2)
def rItemsK : V → List V → Hp → VK → Prop := fun x xs H Q => ∃ (a : Addr) (kvs : List (Key × V)), x = .ref a ∧ xs = [] ∧ H a = some (.dK kvs) ∧ ∀ p, H p = none → Q (.ref p) (upd H p (DX.itemsO p a))
theorem mt_itemsK {X : Cx} : MtR X "dict.items" rItemsK := by
  intro pins s σ H x xs v us Q I rx rxs h
  obtain ⟨a, kvs, rfl, rfl, ha, q⟩ := h
  cases rx
  cases rxs
  obtain ⟨z, hd, vs, rel, o, es, ep, ho, hx, hdat, _⟩ := dk_of I.hok ha
  refine DT.callItems (es := es) (ep := ep) hd ⟨o, ho, hx, hdat⟩ ?_
  have hf : H s.heap.objs.size = none := I.hok.fresh (Nat.le_refl _)
  exact ⟨.ref s.heap.objs.size, _, I.laid (t' := s.toks) (fun b u e => Heap.get?_push_of_some _ e) (Nat.le_refl _) (DX.itemsO_ok (Heap.get?_push_size _ rfl)), rfl, q _ hf⟩
/-- one call deeper -/
abbrev inX (X : Cx) : Cx := { X with A := X.A.in1 }
theorem inv_in {X : Cx} {pins : List (Addr × Obj)} {σ : L2.St} {H : Hp} {s : Shared} (I : Inv X pins σ H s) : Inv (inX X) pins σ H s :=
  ⟨⟨I.ok.mod, I.ok.kind, I.ok.glob, I.ok.blt, I.ok.above, I.ok.inj, I.ok.has, I.ok.cab, I.ok.hd, I.ok.frames, I.ok.stk, I.ok.exf, I.ok.bs, I.ok.bsz, I.ok.noex, I.ok.exfs, I.ok.funs, I.ok.frf⟩, I.os, I.bare, I.base, I.loc, I.cell, I.free, I.freeC, I.pin, I.hok, I.len⟩
theorem inv_out {X : Cx} {pins : List (Addr × Obj)} {σ : L2.St} {H : Hp} {s : Shared} (ok : X.Ok) (I : Inv (inX X) pins σ H s) : Inv X pins σ H s :=
  ⟨ok, I.os, I.bare, I.base, I.loc, I.cell, I.free, I.freeC, I.pin, I.hok, I.len⟩
theorem pairs_at {prog : Program} {w : World} {KK : Type} [DecidableEq KK] {knd : PySem.KeyKind prog w KK} : ∀ {es : List DictEntry} {kvs : List (KK × Value)} {j : Nat} {e : DictEntry}, Pairs knd es kvs → es[j]? = some e → ∃ kv, kvs[j]? = some kv ∧ knd.is kv.1 e.key = true ∧ e.val = kv.2
  | _, _, j, _, .nil, h => by simp at h
  | _, _, 0, _, .cons h1 h2 _, h => by
    simp only [List.getElem?_cons_zero] at h
    cases h
    exact ⟨_, rfl, h1, h2⟩
  | _, _, j + 1, _, .cons _ _ t, h => by
    simp only [List.getElem?_cons_succ] at h
    obtain ⟨kv, h1, h2⟩ := pairs_at t h
    exact ⟨kv, by rw [List.getElem?_cons_succ]; exact h1, h2⟩
theorem pairs_len {prog : Program} {w : World} {KK : Type} [DecidableEq KK] {knd : PySem.KeyKind prog w KK} : ∀ {es : List DictEntry} {kvs : List (KK × Value)}, Pairs knd es kvs → es.length = kvs.length
  | _, _, .nil => rfl
  | _, _, .cons _ _ t => by rw [List.length_cons, List.length_cons, pairs_len t]
def rSortItK : List V → Hp → VK → Prop := fun vs H Q => ∃ (p a : Addr) (kvs : List (Int × Int)), vs = [.ref p] ∧ H p = some (DX.itemsO p a) ∧ H a = some (.dK (kvs.map entI)) ∧
  ∀ (H3 : Hp) (l : Addr) (ts : List (Addr × Int × Int)), (∀ b o, H b = some o → H3 b = some o) → H l = none → (∀ z, z ∈ ts → H z.1 = none ∧ z.1 ≠ l ∧ H3 z.1 = some (.tup [.int z.2.1, .int z.2.2])) → (ts.map (·.2)).Perm kvs → (ts.map (·.2)).Pairwise leP → H3 l = some (.lst (ts.map fun z => V.ref z.1)) → Q (.ref l) H3
theorem cr_sortItK {X : Cx} (hc : X.calm = true) : CallR X (.builtin "sorted") rSortItK := by
  intro pins s σ H xs us Q I r h
  obtain ⟨p, a, kvs, rfl, hp, ha, q⟩ := h
  obtain rfl := Vals.ref1 r
  have view : s.heap.IsItemsView p a := (show ObjOk X.prog X.w H s.heap p (DX.itemsO p a) from I.hok p _ hp).1
  obtain ⟨z, hd, vs, rel, o, es, ep, ho, hx, hdat, _, hes, _⟩ := dk_of I.hok ha
  have l1 : kvs.length = vs.length := by
    have := Paired.length rel
    rw [List.length_map] at this
    exact this
  have l2 : es.size = vs.length := by rw [← Array.length_toList]; exact pairs_len hes
  rw [List.length_map] at z
  refine DT.sortedI (es := es) (ep := ep) (I.ok.hd hc) view ⟨o, ho, hx, hdat⟩ (by omega) fun h' tk as hk hlt hl hG => ?_
  have lak : as.length = kvs.length := by omega
  have nd : as.Nodup := List.Pairwise.imp (fun h => Nat.ne_of_lt h) hG.rise
  have pr : ∀ (j : Nat) (b : Addr), as[j]? = some b → ∃ e : Int × Int, kvs[j]? = some e ∧ ∃ t u, h'.get? b = some { cls := .type "tuple", data := .seq #[Value.int e.1 t, Value.int e.2 u] } := by
    intro j b hj
    obtain ⟨en, he, hg⟩ := hG.pairs j b hj
    rw [← Array.getElem?_toList] at he
    obtain ⟨kv, h1, h2, h3⟩ := pairs_at hes he
    obtain ⟨e0, he0, r1, r2⟩ := DX.pget rel h1
    rw [List.getElem?_map] at he0
    cases hkj : kvs[j]? with
    | none => rw [hkj] at he0; exact nomatch he0
    | some e =>
      rw [hkj] at he0
      have ee : entI e = e0 := Option.some.inj he0
      rw [← ee] at r1 r2
      rw [← show Sum.inl e.1 = kv.1 from r1] at h2
      obtain ⟨t, ht⟩ : ∃ t, en.key = Value.int e.1 t := by
        rcases keyIs_shape (show keyIs (Sum.inl e.1) en.key = true from h2) with ⟨i, t, ei, et⟩ | ⟨x, t, ei, _⟩
        · exact ⟨t, by rw [et, Sum.inl.inj ei]⟩
        · exact nomatch ei
      obtain ⟨u, hu⟩ : ∃ u, kv.2 = Value.int e.2 u := r2
      refine ⟨e, rfl, t, u, ?_⟩
      rw [hg, ht, h3, hu]
  have I1 : Inv X pins σ H { s with heap := h', toks := tk } := I.kept (t' := tk) hk
  have hn0 : H h'.objs.size = none := I1.hok.fresh (Nat.le_refl _)
  have hlen : (as.map V.ref).length ≤ sizeLine := by rw [List.length_map]; omega
  have I2 := I1.laid (a := h'.objs.size) (o := .lst (as.map V.ref)) (h' := h'.push { cls := .type "list", data := .seq (as.map Value.ref).toArray }) (t' := tk) (fun _ _ q => Heap.get?_push_of_some _ q) (Nat.le_refl _)
    ⟨hlen, as.map Value.ref, 0, vals_maps V.ref Value.ref as fun _ _ => rfl, Heap.get?_push_size _ rfl⟩
  obtain ⟨H2, I3, g, qt⟩ := DX.takeT (P := fun b ws => ∃ (j : Nat) (e : Int × Int), as[j]? = some b ∧ kvs[j]? = some e ∧ ws = [.int e.1, .int e.2]) I as _ I2 nd fun b hb => by
    obtain ⟨j, hj⟩ := List.mem_iff_getElem?.mp hb
    obtain ⟨e, he, t, u, hg⟩ := pr j b hj
    have hbl : s.heap.objs.size ≤ b := Nat.le_of_lt (hG.above b hb)
    refine ⟨hbl, ?_, [.int e.1, .int e.2], ⟨j, e, hj, he, rfl⟩, fun H3 => ⟨(by rw [sizeLine_eq]; show 2 ≤ 16777216; omega), [Value.int e.1 t, Value.int e.2 u], .cons ⟨t, rfl⟩ (.cons ⟨u, rfl⟩ .nil), ⟨_, Heap.get?_push_of_some _ hg, rfl, 0, rfl⟩⟩⟩
    rw [upd_ne (Nat.ne_of_lt (Heap.lt_size hg))]
    exact I.hok.fresh hbl
  have hne : ∀ b, b ∈ as → H b = none ∧ b ≠ h'.objs.size := fun b hb => by
    obtain ⟨j, hj⟩ := List.mem_iff_getElem?.mp hb
    obtain ⟨e, he, t, u, hg⟩ := pr j b hj
    exact ⟨I.hok.fresh (Nat.le_of_lt (hG.above b hb)), Nat.ne_of_lt (Heap.lt_size hg)⟩
  have gr : ∀ b o, H b = some o → H2 b = some o := fun b o e => g b o (by rw [upd_ne (ne_of_none e hn0)]; exact e)
  have hkey : ∀ (j : Nat) (b : Addr) (e : Int × Int), as[j]? = some b → kvs[j]? = some e → H2 b = some (.tup [.int e.1, .int e.2]) := fun j b e hj he => by
    obtain ⟨ws, ⟨j2, e2, a1, a2, a3⟩, hH⟩ := qt b (List.mem_of_getElem? hj)
    have eij : j2 = j := (List.getElem?_inj (List.getElem?_eq_some_iff.mp a1).1 nd).mp (a1.trans hj.symm)
    subst eij
    rw [he] at a2
    cases a2
    rw [hH, a3]
  have hmap : (as.map V.ref).map (keyD H2) = kvs := by
    refine List.ext_getElem? fun j => ?_
    rw [List.getElem?_map, List.getElem?_map]
    by_cases c : j < as.length
    · have hj := List.getElem?_eq_getElem c
      have he : kvs[j]? = some kvs[j] := List.getElem?_eq_getElem (by omega)
      rw [hj, he]
      show some (keyD H2 (.ref as[j])) = _
      rw [keyD_at (hkey j _ _ hj he)]
    · rw [List.getElem?_eq_none (by omega), List.getElem?_eq_none (by omega)]
      rfl
  refine wpAny_mono (mt_sortPO (X := inX X) pins { s with heap := h'.push { cls := .type "list", data := .seq (as.map Value.ref).toArray }, toks := tk } σ H2 (.ref h'.objs.size) [] (.ref h'.objs.size) [] (fun _ H3 => Q (.ref h'.objs.size) H3) (inv_in I3) rfl .nil
    ⟨h'.objs.size, as.map V.ref, keyD H2, rfl, rfl, g _ _ upd_same, fun y hy => ?_, fun zs h1 h2 => ?_⟩) (fun u s' hu => ?_) (fun _ _ e => e)
  · obtain ⟨b, hb, rfl⟩ := List.mem_map.mp hy
    obtain ⟨j, hj⟩ := List.mem_iff_getElem?.mp hb
    obtain ⟨e, he, _⟩ := pr j b hj
    have := hkey j b e hj he
    exact ⟨b, rfl, by rw [keyD_at this]; exact this⟩
  · have hz : ∀ y, y ∈ zs → ∃ b, b ∈ as ∧ y = .ref b ∧ H2 b = some (.tup [.int (keyD H2 y).1, .int (keyD H2 y).2]) := fun y hy => by
      obtain ⟨b, hb, rfl⟩ := List.mem_map.mp (h2.perm.mem_iff.mp hy)
      obtain ⟨j, hj⟩ := List.mem_iff_getElem?.mp hb
      obtain ⟨e, he, _⟩ := pr j b hj
      have := hkey j b e hj he
      exact ⟨b, hb, rfl, by rw [keyD_at this]; exact this⟩
    have hts : (zs.map fun y => ((match y with | .ref b => b | _ => 0 : Addr), keyD H2 y)).map (fun z => V.ref z.1) = zs := by
      rw [List.map_map]
      refine (List.map_congr_left fun y hy => ?_).trans (List.map_id zs)
      obtain ⟨b, _, rfl, _⟩ := hz y hy
      rfl
    have ht2 : (zs.map fun y => ((match y with | .ref b => b | _ => 0 : Addr), keyD H2 y)).map (·.2) = zs.map (keyD H2) := by
      rw [List.map_map]
      rfl
    refine q _ h'.objs.size (zs.map fun y => ((match y with | .ref b => b | _ => 0 : Addr), keyD H2 y)) (fun b o e => ?_) hn0 (fun w hw => ?_) ?_ ?_ ?_
    · rw [upd_ne (ne_of_none e hn0)]
      exact gr b o e
    · obtain ⟨y, hy, rfl⟩ := List.mem_map.mp hw
      obtain ⟨b, hb, rfl, hH⟩ := hz y hy
      obtain ⟨f1, f2⟩ := hne b hb
      refine ⟨f1, f2, ?_⟩
      show upd H2 h'.objs.size _ b = _
      rw [upd_ne f2]
      exact hH
    · rw [ht2, ← hmap]
      exact h2.perm.map _
    · rw [ht2]
      refine List.Pairwise.map _ (fun x y h => ?_) h1
      have := SrtO.lexB_no.mp h
      show (keyD H2 x).1 < (keyD H2 y).1 ∨ ((keyD H2 x).1 = (keyD H2 y).1 ∧ (keyD H2 x).2 ≤ (keyD H2 y).2)
      omega
    · rw [hts]
      exact upd_same
  · obtain ⟨v, H4, J, _, qq⟩ := hu
    exact ⟨.ref h'.objs.size, H4, inv_out I.ok J, rfl, qq⟩
section
variable {σ : L2.St} {D H : Hp} {L : Own} {K : PySem.W.Frag} {Q : VK}
instance v_itemsK {a : Addr} {kvs : List (Key × V)} {n : Nat} [S : Sx D L H] [h : Fi L a (.dK kvs) n] : VC (rItemsK (.ref a) [] H Q) (∀ p D' H', Sx D' L H' → Sm D D' → Kn D' p (DX.itemsO p a) → Q (.ref p) H') :=
  ⟨fun k => ⟨a, kvs, rfl, rfl, S.at h.pf, fun p hp => k p _ _ (S.fix hp) ⟨same_upd (S.dH.free hp)⟩ ⟨upd_same⟩⟩⟩
instance v_tyD {a : Addr} {kvs : List (Key × V)} {n : Nat} {p : Prop} [S : Sx D L H] [h : Fi L a (.dK kvs) n] : VC (tyV K "dict" (.ref a) H ∧ p) p := ⟨fun k => ⟨.inr (.inr (.inl ⟨rfl, .inl ⟨kvs, S.at h.pf⟩⟩)), k⟩⟩
def DGo (a : Addr) (y z : V) (H3 : Hp) (Q : VK) : Prop := ∃ o, DGet H3 a y o ∧ Q (o.getD z) H3
def DG2 (ty tx : TE) (σ : L2.St) (x : V) (H1 : Hp) (Q : VK) : Prop := ∃ a, x = .ref a ∧ IsD H1 a ∧ ty σ H1 fun y H2 => tx σ H2 fun z H3 => DGo a y z H3 Q
instance v_dget2 {td ty tx : TE} : VC (tDGet2 td ty tx σ H Q) (td σ H fun x H1 => DG2 ty tx σ x H1 Q) := ⟨fun h => h⟩
instance v_dg2 {a : Addr} {kvs : List (Key × V)} {n : Nat} {ty tx : TE} [S : Sx D L H] [h : Fi L a (.dK kvs) n] : VC (DG2 ty tx σ (.ref a) H Q) (ty σ H fun y H2 => tx σ H2 fun z H3 => DGo a y z H3 Q) := ⟨fun k => ⟨a, rfl, .inl ⟨kvs, .inl (S.at h.pf)⟩, k⟩⟩
instance v_dgo {a : Addr} {kvs : List (Key × V)} {n : Nat} {i : Int} {z : V} [S : Sx D L H] [h : Fi L a (.dK kvs) n] : VC (DGo a (.int i) z H Q) (Q ((valV kvs (Sum.inl i)).getD z) H) := ⟨fun k => ⟨_, DGet.k (k := Sum.inl i) (S.at h.pf), k⟩⟩
theorem c_sortItK {p a : Addr} {kvs : List (Int × Int)} {n : Nat} (S : Sx D L H) (hp : Kn D p (DX.itemsO p a)) (h : L[n]? = some (a, .dK (kvs.map entI))) (k : ∀ (ys : List V) (P : List (Int × Int)) l D' H', P.Perm kvs → P.Pairwise leP → RpAll D' ys (P.map pI) → Sm D D' → Sx D' ((l, .lst ys) :: L) H' → Q (.ref l) H') : rSortItK [.ref p] H Q := by
  refine ⟨p, a, kvs, rfl, S.dH _ _ hp.pf, S.at h, fun H3 l ts g hl ht hP hs hH => ?_⟩
  obtain ⟨D', hD'⟩ : ∃ D' : Hp, D' = fun b => if ts.any (fun z => z.1 == b) = true then H3 b else D b := ⟨_, rfl⟩
  have hin : ∀ z, z ∈ ts → D' z.1 = some (.tup [.int z.2.1, .int z.2.2]) := fun z hz => by
    rw [hD']
    show (if ts.any (fun w => w.1 == z.1) = true then H3 z.1 else D z.1) = _
    have hc : (ts.any fun w => w.1 == z.1) = true := List.any_eq_true.mpr ⟨z, hz, beq_self_eq_true z.1⟩
    rw [if_pos hc]
    exact (ht z hz).2.2
  have hout : ∀ b, H b ≠ none → D' b = D b := fun b hb => by
    rw [hD']
    show (if ts.any (fun w => w.1 == b) = true then H3 b else D b) = _
    rw [if_neg]
    intro e
    obtain ⟨z, hz, ez⟩ := List.any_eq_true.mp e
    have ez2 : z.1 = b := by simpa using ez
    exact hb (ez2 ▸ (ht z hz).1)
  have hDs : Same D D' := fun b o e => by
    rw [hout b (by rw [S.dH b o e]; exact fun z => nomatch z)]
    exact e
  have hDH : Same D' H3 := fun b o e => by
    rw [hD'] at e
    have e' : (if ts.any (fun w => w.1 == b) = true then H3 b else D b) = some o := e
    by_cases c : ts.any (fun w => w.1 == b) = true
    · rw [if_pos c] at e'
      exact e'
    · rw [if_neg c] at e'
      exact g b o (S.dH b o e')
  refine k (ts.map fun z => V.ref z.1) (ts.map (·.2)) l D' H3 hP hs ?_ ⟨hDs⟩ ⟨hDH, fun q hq => ?_, ?_⟩
  · have : ∀ {us : List (Addr × Int × Int)}, (∀ z, z ∈ us → z ∈ ts) → RpAll D' (us.map fun z => V.ref z.1) ((us.map (·.2)).map pI) := by
      intro us
      induction us with
      | nil => exact fun _ => .nil
      | cons z us ih => exact fun hz => .cons (.tupI (ns := [z.2.1, z.2.2]) (hin z (hz z List.mem_cons_self))) (ih fun w hw => hz w (List.mem_cons_of_mem _ hw))
    exact this fun _ h => h
  · rcases List.mem_cons.mp hq with rfl | hq
    · refine ⟨hH, ?_⟩
      cases e : D' l with
      | none => rfl
      | some o =>
        exfalso
        rw [hD'] at e
        have e' : (if ts.any (fun w => w.1 == l) = true then H3 l else D l) = some o := e
        by_cases c : ts.any (fun w => w.1 == l) = true
        · obtain ⟨z, hz, ez⟩ := List.any_eq_true.mp c
          have ez2 : z.1 = l := by simpa using ez
          exact (ht z hz).2.1 ez2
        · rw [if_neg c] at e'
          rw [S.dH l o e'] at hl
          exact nomatch hl
    · obtain ⟨q1, q2⟩ := S.ow q hq
      exact ⟨g _ _ q1, by rw [hout q.1 (by rw [q1]; exact fun z => nomatch z)]; exact q2⟩
  · rw [List.map_cons]
    refine List.nodup_cons.mpr ⟨fun hm => ?_, S.nd⟩
    obtain ⟨q, hq, eq⟩ := List.mem_map.mp hm
    have := (S.ow q hq).1
    rw [eq, hl] at this
    exact nomatch this
end
end Fk

namespace Fk
open PySem PySem.Spec PyProof.Rows L2
/-! ## list(range(a, b)), a = list.index, more -/
def IsII (x y : V) (H : Hp) (R : Int → Int → Hp → Prop) : Prop := ∃ i j, x = .int i ∧ y = .int j ∧ R i j H
theorem ra_getP {D : Hp} {vs : List V} {xs : List (Int × Int)} {i : Nat} {v : V} (h : RpAll D vs (xs.map pI)) (hv : vs[i]? = some v) : ∃ b x, v = .ref b ∧ xs[i]? = some x ∧ Kn D b (.tup [.int x.1, .int x.2]) := by
  have e : xs.map pI = (xs.map fun x => [x.1, x.2]).map tI := by rw [List.map_map]; rfl
  rw [e] at h
  obtain ⟨b, r, h1, h2, h3⟩ := ra_getT h hv
  rw [List.getElem?_map] at h2
  cases c : xs[i]? with
  | none => rw [c] at h2; exact nomatch h2
  | some x =>
    rw [c] at h2
    have h2' : [x.1, x.2] = r := Option.some.inj h2
    subst h2'
    exact ⟨b, x, h1, rfl, h3⟩
section
variable {σ : L2.St} {D H : Hp} {L : Own} {K : PySem.W.Frag} {Q : VK}
instance v_rg2 {ta tb : TE} {R : Int → Int → Hp → Prop} : VC (tRg2 ta tb σ H R) (ta σ H fun x H1 => tb σ H1 fun y H2 => IsII x y H2 R) := ⟨fun h => by
  refine (show ta σ H _ from ?_)
  exact h⟩
instance v_isII {i j : Int} {R : Int → Int → Hp → Prop} : VC (IsII (.int i) (.int j) H R) (R i j H) := ⟨fun h => ⟨i, j, rfl, rfl, h⟩⟩
end
end Fk

namespace Fk
open PySem PySem.Spec PyProof.Rows L2
/-! ## a law that is run where no guard is set: str of lists and tuples -/
structure FnG (P : Program) (w : World) (K : PySem.W.Frag) (mg : Str → Option Value) (base : Heap) (CX : CXT) (k : Nat) (f : Addr) (fd : FuncData) (ps : List Str) (sp : Sp) : Prop where
  len : ∀ vs H Q E, sp vs H Q E → vs.length = ps.length
  run : ∀ (A : Around) (outer : List Env) (s : Shared) (H : Hp) (args : Args) (us : List Value) (vs : List V) (Q : VK) (E : XK), Room k A → A.guards = some [] → Env0 P w K mg base A outer s H → BindsTo s fd args (ps.zip us) → Vals vs us → sp vs H Q E → codeAny (model P w) A (.call (.ref f) args) (CR CX outer P w H s Q E) s
theorem Fun.okG {P : Program} {w : World} {K : PySem.W.Frag} {mg : Str → Option Value} {base : Heap} {x qual : Str} {st : Stmt} {f : Addr} {fd : FuncData} {N ps : List Str} {k : Nat} {sp : Sp} (F : Fun K x qual st f fd) (S : FnScope N ps (defScope st))
    (len : ∀ vs H Q E, sp vs H Q E → vs.length = ps.length)
    (hb : ∀ (cdv : Value) (A : Around) (outer : List Env) (s : Shared) (H : Hp) (vs : List V) (Q : VK) (E : XK), Room k (A.deeper (envOfC qual (defScope st) s.heap.objs.size f cdv)) → (A.deeper (envOfC qual (defScope st) s.heap.objs.size f cdv)).guards = some [] → sp vs H Q E →
      ∃ t, PSs (cxOf CX0 P w K mg base N qual (defScope st) f cdv A outer s H E).nox (defBody st) t ∧ t { nx := fun _ H' => Q .non H', rt := Q } (start N vs) H) : FnG P w K mg base CX0 (k + 1) f fd ps sp := by
  obtain ⟨oc, od, kV, doc, pm, an, cdv, ct, osl, rfl, lk, hcd⟩ := F.ex
  refine ⟨len, fun A outer s H args us vs Q E hr hg e0 bd r hsp => ?_⟩
  have hl := len _ _ _ _ hsp
  have grow : ∀ b o, base.get? b = some o → s.heap.get? b = some o := fun b o e => (e0.bs b o e).1
  have KX := e0.mod.kin.keeps grow
  have lim := e0.mod.nolimit.keeps grow
  refine codeAny_call_function hr.depth (KX _ _ lk) rfl S.co S.gen rfl (PySem.W.codeRec_of KX hcd) (bd _ _ _ _ ?_)
  refine wpAny_newFunctionEnv_cells S.kind (fun z hz => ?_) fun env he s1 y => ?_
  · rcases S.par z.1 (List.of_mem_zip (show (z.1, z.2) ∈ _ from hz)).1 with q | q
    · exact .inl q
    · exact .inr ⟨q, PySem.W.cellsFrom_some _ _ _ (.inl q)⟩
  subst he
  obtain ⟨t, ht, hq⟩ := hb cdv A outer s H vs Q E (hr.deeper _) hg hsp
  refine ⟨lim.keeps y.toInCall.keep, codeAny_func (wpAny_mono (ht.nox.run [] s1 (start N vs) H _ (inv_start S hr.hd e0 hl r y) hq) (fun fl s' hs => ?_) fun _ _ hs => hs)⟩
  cases fl with
  | ret u =>
    obtain ⟨v, _, H', J, rv, q⟩ := hs
    exact ⟨v, H', J.os, J.bare, J.base, J.hok, rv, q⟩
  | next =>
    obtain ⟨_, H', J, q⟩ := hs
    exact ⟨V.non, H', J.os, J.bare, J.base, J.hok, rfl, q⟩
  | brk => exact hs.elim fun _ h => h.elim fun _ h => h.2.elim
  | cont => exact hs.elim fun _ h => h.elim fun _ h => h.2.elim
/-- the head, for such a law -/
theorem head_G {P : Program} {w : World} {K : PySem.W.Frag} {mg mb : Str → Option Value} {k : Nat} {fa a : Addr} {fd : FuncData} {x : Str} {sp : Sp} {S : Shared} {vs : List Value} {H : Hp}
    (KX : K.In S.heap) (gm : S.heap.Ns mainGlobals mg) (gb : S.heap.Ns builtinsNs mb) (hbb : ∀ x : Str, x ≠ "__name__" → mb x = bootBuiltins x) (lim : S.heap.NoLimit) (hg : S.gens = #[])
    (ha : S.heap.get? a = some { cls := .type "list", data := .seq vs.toArray }) (hr : Room k callerA)
    (F : ∀ base : Heap, K.In base → base.Ns mainGlobals mg → FnG P w K mg base CX0 k fa fd [x] sp) (bd : ∀ (s : Shared) (u : Value), BindsTo s fd ⟨[u], []⟩ [(x, u)])
    (q : sp [.ref a] H (fun v _ => v = .bl true) fun _ _ _ => False) (hok : HOk P w H S.heap) (only : ∀ b u, H b = some u → b = a ∧ ∃ o xs, u = .frz o (.lst xs)) (hK : H a ≠ none → K.lookup a = none) :
    codeAny (model P w) callerA (.call (.ref fa) ⟨[.ref a], []⟩) (fun r s' => r = .ok (.ret (.bool true)) ∧ OldK S.heap s'.heap ∧ s'.os = S.os ∧ AllBare s'.gens) S := by
  have off : ∀ {b : Addr} {o : Obj}, S.heap.get? b = some o → (b = a → H a = none) → (hidT S.heap H).get? b = some o := fun {b o} e h => hidT_get e (by
    cases c : H b with
    | none => rfl
    | some u =>
      obtain ⟨e1, _⟩ := only b u c
      rw [e1, h e1] at c
      exact nomatch c)
  have nsH : ∀ {b : Addr} {m : Str → Option Value}, S.heap.Ns b m → (hidT S.heap H).Ns b m := fun {b m} ⟨o, es, ep, e, d, r⟩ => ⟨o, es, ep, off e (fun eb => by
    subst eb
    rw [ha] at e
    cases e
    exact nomatch d), d, r⟩
  have KH : K.In (hidT S.heap H) := fun b o e => off (KX b o e) fun eb => by
    cases c : H a with
    | none => rfl
    | some u =>
      have := hK (by rw [c]; simp)
      rw [← eb, e] at this
      exact nomatch this
  have M : Mod K mg (hidT S.heap H) := ⟨KH, nsH gm, ⟨mb, nsH gb, hbb⟩, lim.elim fun mc h => ⟨mc, nsH h.1, h.2⟩⟩
  have nofs : ∀ b : Addr, b ∉ ([] : List Addr) := fun _ => List.not_mem_nil
  refine codeAny_mono ((F _ KH (nsH gm)).run callerA [] S H ⟨[.ref a], []⟩ [.ref a] [.ref a] _ _ hr rfl ⟨rfl, M, fun b o e => of_hidT e, Nat.le_of_eq (hidT_size _ _), trivial, fun b hb => absurd hb (nofs b), hok, .of_eq hg⟩ (bd S (.ref a)) (.cons rfl .nil) q) fun r s' h => ?_
  cases r with
  | error e => exact False.elim h
  | ok fl =>
    cases fl with
    | ret u =>
      obtain ⟨v, H2, os, bare, un, ok2, rv, qv⟩ := h
      have qv : v = .bl true := qv
      subst qv
      have eu : u = Value.bool true := rv
      subst eu
      refine ⟨rfl, OldK.of_keep fun b o e => ?_, os, bare⟩
      cases c : H b with
      | none => exact un.keep b o e c (nofs b) (nofs b)
      | some u =>
        obtain ⟨_, ob, xs, eu⟩ := only b u c
        rw [eu] at c
        have f1 := (hok b _ c).1
        rw [e] at f1
        cases f1
        exact (ok2 b _ (un.frzs b _ _ c)).1
    | next => exact False.elim h
    | brk => exact False.elim h
    | cont => exact False.elim h
theorem walk_ofG {l : PySem.W.OpenLaw} {n k : Nat} {q : Program} {loose : List Str} {XP : (Str → Option Value) → Heap → Prop} {YP : World → Heap → Prop} {d : DefRec} {K : Params → PySem.W.Frag} {sp : World → Sp} {x : Str}
    (hn : l.most = some n) (hn2 : n ≤ sizeLine) (hdf : d.params.defaults = []) (hr : Room k callerA) (hY : ∀ (w : World) (h : Heap), YP w h → (K w.params).In h)
    (F : ∀ (w : World) (mg : Str → Option Value) (fa : Addr) (h : Heap), (K w.params).In h → h.Ns mainGlobals mg → mg d.name = some (.ref fa) →
      ∃ fd : FuncData, (∀ (s : Shared) (u : Value), BindsTo s fd ⟨[u], []⟩ [(x, u)]) ∧ ∀ base : Heap, (K w.params).In base → base.Ns mainGlobals mg → FnG l.prog w (K w.params) mg base CX0 k fa fd [x] (sp w))
    (hsp : ∀ (w : World) (H : Hp) (a : Addr) (ns : List Int), ns.length ≤ n → (∀ z ∈ ns, Builtin.Int.intBits z ≤ 1048576) → Only H → SqL (K w.params) H a (ns.map V.int) → sp w [.ref a] H (fun v _ => v = .bl true) fun _ _ _ => False) :
    PySem.W.WalkO q loose XP YP l.row.toRowW d [] (fun f vs => PySem.call f vs) := by
  refine Att.attach_callB hn hdf fun w _ S mg mb fa _ _ _ _ a vs ns G Y _ _ _ hmg ha hi hl hbt hg => ?_
  obtain ⟨fd, bd, hF⟩ := F w mg fa _ (hY w _ Y) G.T.g hmg
  have lens : (ns.map V.int).length ≤ sizeLine := by rw [List.length_map]; exact Nat.le_trans hl hn2
  have go := fun H => head_G (H := H) (hY w _ Y) G.T.g G.T.b G.T.builtins G.T.nolimit hg ha hr hF bd
  cases ek : (K w.params).lookup a with
  | some o =>
    have e := hY w _ Y a o ek
    rw [ha] at e
    cases e
    refine go (fun _ => none) (hsp w _ a ns hl hbt (fun _ => .inl rfl) (.inr ⟨_, vs.toArray, _, ek, rfl, rfl, rfl, ?_, by simpa using vals_ints hi⟩)) (fun b u z => nomatch (show (none : Option HO) = some u from z)) (fun b u z => nomatch (show (none : Option HO) = some u from z)) fun z => absurd rfl z
    rw [List.size_toArray, hi.length]
    exact Nat.le_trans hl hn2
  | none =>
    have at' : ∀ b u, (if b = a then some (HO.frz { cls := .type "list", data := .seq vs.toArray } (.lst (ns.map V.int))) else none) = some u → b = a ∧ u = .frz { cls := .type "list", data := .seq vs.toArray } (.lst (ns.map V.int)) := fun b u z => by
      by_cases c : b = a
      · rw [if_pos c] at z
        exact ⟨c, (Option.some.inj z).symm⟩
      · rw [if_neg c] at z
        exact nomatch z
    refine go (fun b => if b = a then some (.frz { cls := .type "list", data := .seq vs.toArray } (.lst (ns.map V.int))) else none) (hsp w _ a ns hl hbt (fun b => ?_) (.inl (.inr ⟨_, if_pos rfl⟩))) (fun b u z => ?_) (fun b u z => ?_) fun _ => ek
    · by_cases c : b = a
      · exact .inr ⟨_, _, if_pos c⟩
      · exact .inl (if_neg c)
    · obtain ⟨rfl, rfl⟩ := at' b u z
      exact ⟨ha, lens, vs, _, vals_ints hi, ha⟩
    · obtain ⟨e1, e2⟩ := at' b u z
      exact ⟨e1, _, _, e2⟩
/-- data whose text is no longer than a text may be -/
def Pr (n m : Nat) (d : PyData) : Prop := d.showable = true ∧ d.hasDict = false ∧ d.leavesShort 700 = true ∧ d.bulk ≤ n ∧ d.depth ≤ m
def PrAll (n m : Nat) (ds : List PyData) : Prop := PyData.showableAll ds = true ∧ PyData.hasDictAll ds = false ∧ PyData.leavesShortAll 700 ds = true ∧ PyData.bulkAll ds ≤ n ∧ PyData.depthAll ds ≤ m
theorem pr_nil (n m : Nat) : PrAll n m [] := ⟨rfl, rfl, rfl, Nat.zero_le _, Nat.zero_le _⟩
theorem pr_cons {n n1 n2 m : Nat} {d : PyData} {ds : List PyData} (h : Pr n1 m d) (t : PrAll n2 m ds) (e : n1 + 1 + n2 ≤ n) : PrAll n m (d :: ds) := by
  obtain ⟨a1, a2, a3, a4, a5⟩ := h
  obtain ⟨b1, b2, b3, b4, b5⟩ := t
  refine ⟨?_, ?_, ?_, ?_, ?_⟩
  · simp [PyData.showableAll, a1, b1]
  · simp [PyData.hasDictAll, a2, b2]
  · simp [PyData.leavesShortAll, a3, b3]
  · simp only [PyData.bulkAll]; omega
  · simp only [PyData.depthAll]; omega
theorem pr_lst {n m : Nat} {ds : List PyData} (h : PrAll n m ds) : Pr n (m + 1) (.list ds) := by
  obtain ⟨b1, b2, b3, b4, b5⟩ := h
  exact ⟨by simp [PyData.showable, b1], by simp [PyData.hasDict, b2], by simp [PyData.leavesShort, b3], by simp only [PyData.bulk]; omega, by simp only [PyData.depth]; omega⟩
theorem pr_tup {n m : Nat} {ds : List PyData} (h : PrAll n m ds) : Pr n (m + 1) (.tuple ds) := by
  obtain ⟨b1, b2, b3, b4, b5⟩ := h
  exact ⟨by simp [PyData.showable, b1], by simp [PyData.hasDict, b2], by simp [PyData.leavesShort, b3], by simp only [PyData.bulk]; omega, by simp only [PyData.depth]; omega⟩
theorem pr_all {n m c : Nat} {ds : List PyData} (h : ∀ d, d ∈ ds → Pr n m d) (e : (n + 1) * ds.length ≤ c) : PrAll c m ds := by
  induction ds generalizing c with
  | nil => exact pr_nil _ _
  | cons d ds ih =>
    rw [List.length_cons, Nat.mul_add] at e
    exact pr_cons (h d List.mem_cons_self) (ih (fun d hd => h d (List.mem_cons_of_mem _ hd)) (Nat.le_refl _)) (by omega)
theorem pr_int {i : Int} (h : i.natAbs.log2 < 600) : Pr 0 0 (.int i) := by
  refine ⟨by simp only [PyData.showable]; exact decide_eq_true (by omega), rfl, ?_, Nat.le_refl _, Nat.le_refl _⟩
  simp only [PyData.leavesShort]
  refine decide_eq_true ?_
  have := int_text_length_le (a := i) (k := 600) (by decide) h
  show (Str.ofString (toString i)).length ≤ 700
  rw [PySem.ofString_length]
  omega
theorem pr_non : Pr 0 0 .none := ⟨rfl, rfl, rfl, Nat.le_refl _, Nat.le_refl _⟩
theorem pr_bl (b : Bool) : Pr 0 0 (.bool b) := ⟨rfl, rfl, rfl, Nat.le_refl _, Nat.le_refl _⟩
theorem Pr.mono {n n' m m' : Nat} {d : PyData} (h : Pr n m d) (h1 : n ≤ n') (h2 : m ≤ m') : Pr n' m' d := ⟨h.1, h.2.1, h.2.2.1, Nat.le_trans h.2.2.2.1 h1, Nat.le_trans h.2.2.2.2 h2⟩
def rStrD (K : PySem.W.Frag) : List V → Hp → VK → Prop := fun xs H Q => ∃ (a : Addr) (d : PyData), xs = [.ref a] ∧ Dp K H (.ref a) d ∧ Pr 23000 50 d ∧ Q (.str d.shown) H
theorem call_strD {X : Cx} (hg : X.A.guards = some []) (hu : X.A.units + 64 < cLine) : CallR X (.type "str") (rStrD X.K) := by
  intro pins s σ H xs us Q I r h
  obtain ⟨a, d, rfl, hd, hp, q⟩ := h
  obtain ⟨u, rfl, rx⟩ := vals1 r
  obtain ⟨as, hr⟩ := Dp.reads I d _ _ hd rx
  cases (show u = Value.ref a from rx)
  obtain ⟨h1, h2, h3, h4, h5⟩ := hp
  refine str_of_reads hr h1 (fun z => by rw [h2] at z; exact nomatch z) hg (by omega) (fun _ _ e => e) (fun h' u tk hk => ⟨V.str d.shown, H, I.kept (t' := tk) hk, ⟨u, rfl⟩, q⟩) ?_
  have := PyData.shown_le_bulk 700 (by decide) d h3
  rw [sizeLine_eq]
  omega
section
variable {σ : L2.St} {D H : Hp} {L : Own} {K : PySem.W.Frag} {Q : VK}
theorem c_strD {a : Addr} {d : PyData} (h : Dp K H (.ref a) d) (p : Pr 23000 50 d) (k : Q (.str d.shown) H) : rStrD K [.ref a] H Q := ⟨a, d, rfl, h, p, k⟩
instance v_neStr {t : Str} : VC (rNeX K (.str t) (.str t) H Q) (Q (.bl false) H) := ⟨fun h => .inl ⟨rfl, by
  have e : (!decide (V.str t = V.str t)) = false := by rw [decide_eq_true rfl]; rfl
  rw [e]; exact h⟩⟩
instance v_eqStr {t : Str} : VC (rEqX K (.str t) (.str t) H Q) (Q (.bl true) H) := ⟨fun h => .inl ⟨rfl, by
  have e : decide (V.str t = V.str t) = true := decide_eq_true rfl
  rw [e]; exact h⟩⟩
theorem dpLLH {a : Addr} {us : List V} {xs : List (List Int)} (ha : SqL K H a us) (ra : RpAll H us (xs.map lI)) : Dp K H (.ref a) (.list (xs.map lI)) := .lst ha ra.dp
theorem r_eqLLH {a b : Addr} {us ws : List V} {xs ys : List (List Int)} (ha : SqL K H a us) (hb : SqL K H b ws) (ra : RpAll H us (xs.map lI)) (rb : RpAll H ws (ys.map lI)) (k : Q (.bl (decide (xs = ys))) H) : rEqX K (.ref a) (.ref b) H Q :=
  .inr ⟨_, _, dpLLH ha ra, dpLLH hb rb, sh_LL xs, sh_LL ys, by rw [eqv_LL]; exact k⟩
theorem r_neLLH {a b : Addr} {us ws : List V} {xs ys : List (List Int)} (ha : SqL K H a us) (hb : SqL K H b ws) (ra : RpAll H us (xs.map lI)) (rb : RpAll H ws (ys.map lI)) (k : Q (.bl (!decide (xs = ys))) H) : rNeX K (.ref a) (.ref b) H Q :=
  .inr ⟨_, _, dpLLH ha ra, dpLLH hb rb, sh_LL xs, sh_LL ys, by rw [eqv_LL]; exact k⟩
end
end Fk

namespace Fk
open PySem PySem.Spec PyProof.Rows L2
/-! ## a list extended by a tuple -/
open Builtin in
theorem ext_tup (l : Addr) (items : Array Value) (n : Nat) (b : Addr) (items2 : Array Value) (n2 : Nat) (dd : Option Addr) (sl : Array (Option Value)) (h0 : ¬(!items.isEmpty && Builtin.List.listTooLong (items.size + items2.size)) = true) (h1 : items.size ≤ sizeLine) (h2 : items.size + items2.size ≤ sizeLine + 1) :
    Meets (Builtin.«list.extend» ⟨[.ref l, .ref b], []⟩) (fun _ R s => s.heap.get? l = some { cls := .type "list", dict := none, data := .seq items n, slots := #[] } ∧ s.heap.get? b = some { cls := .type "tuple", dict := dd, data := .seq items2 n2, slots := sl } ∧ R (.ok (.ret Value.none)) { s with heap := s.heap.update l (Obj.mapSeq fun x => x ++ items2), toks := s.toks }) :=
  .of_wp fun prog w A R s h => by
    obtain ⟨hq, gg, dw, tk, oz⟩ := s
    obtain ⟨hl, hb, h⟩ := h
    have f2 := sub_tuple_tuple
    have f3 := sub_list_list
    have f4 := sub_tuple_list
    have f5 := sub_list_tuple
    have hz' : (items ++ items2).size ≤ sizeLine + 1 := by rw [Array.size_append]; exact h2
    wp_walk using (wpAny_updateSeq hl rfl (hz := h1) (_hz' := hz')), wpAny_loadPart' hl, wpAny_loadPart' hb
    exact ⟨_, rfl, h⟩
def rExtK (K : PySem.W.Frag) : V → List V → Hp → VK → Prop := fun x vs H Q => rExtend x vs H Q ∨ ∃ l b xs zs, x = .ref l ∧ vs = [.ref b] ∧ H l = some (.lst xs) ∧ SqT K H b zs ∧ xs.length + zs.length ≤ sizeLine ∧ Q .non (upd H l (.lst (xs ++ zs)))
theorem mt_extK {X : Cx} : MtM X "list.extend" (rExtK X.K) := by
  intro pins s σ H x vs v us Q I rx rv h
  rcases h with h | ⟨l, b, xs, zs, rfl, rfl, hH, hB, hz, q⟩
  · exact mt_extend pins s σ H x vs v us Q I rx rv h
  cases rx
  obtain ⟨u, rfl, ru⟩ := rv.one
  cases ru
  obtain ⟨z, its, n, r, hl, e⟩ := I.lstM hH
  obtain ⟨its2, r2, ⟨⟨oc, od, da, sl⟩, e2, ec, n2, ed⟩, hl2⟩ := I.tuple hB
  dsimp only at ec ed
  subst ec ed
  have hl3 := r2.length
  have hsz : its.toArray.size + its2.toArray.size ≤ sizeLine := by
    rw [List.size_toArray, List.size_toArray]
    omega
  refine call_meets PySem.F.slot_list_extend ⟨_, e, rfl⟩ PySem.F.entry_list_extend (PySem.F.args_list_extend_2 _ _) (ext_tup l its.toArray n b its2.toArray n2 od sl (by rw [notLongL hsz, Bool.and_false]; exact Bool.false_ne_true) (by rw [List.size_toArray]; omega) (by omega)) ⟨e, e2, .non, _, I.lset (its' := its ++ its2) hH e (by simp) (r.append r2) ?_, rfl, q⟩
  rw [List.length_append]
  omega
section
variable {σ : L2.St} {D H : Hp} {L : Own} {K : PySem.W.Frag} {Q : VK}
instance v_extK {a b : Addr} {xs zs : List V} {n : Nat} {L' : Own} [S : Sx D L H] [h : Fi L a (.lst xs) n] [hb : Ks D b zs] [e : Se L n (a, .lst (xs ++ zs)) L'] : VC (rExtK K (.ref a) [.ref b] H Q) (xs.length + zs.length ≤ 16777216 ∧ ∀ H', Sx D L' H' → Q .non H') :=
  ⟨fun k => by
    have k2 := k.2 _ (by have := S.put (.lst (xs ++ zs)) h.pf; rw [e.pf] at this; exact this)
    rcases hb.pf with g | g
    · exact .inl ⟨a, b, xs, zs, rfl, rfl, S.at h.pf, S.dH _ _ g, k.1, k2⟩
    · exact .inr ⟨a, b, xs, zs, rfl, rfl, S.at h.pf, sqT S g, k.1, k2⟩⟩
end
/-- rows that are lists or tuples -/
def RKs (D : Hp) (us : List V) (rs : List (List Int)) : Prop := us.length = rs.length ∧ ∀ (i : Nat) (v : V), us[i]? = some v → ∃ g r, v = .ref g ∧ rs[i]? = some r ∧ Ks D g (r.map V.int)
theorem rks_up {D D' : Hp} {us : List V} {rs : List (List Int)} (h : RKs D us rs) (s : Sm D D') : RKs D' us rs := ⟨h.1, fun i v hv => by
  obtain ⟨g, r, e, hr, k⟩ := h.2 i v hv
  exact ⟨g, r, e, hr, k.pf.elim (fun z => ⟨.inl (s.e _ _ z)⟩) fun z => ⟨.inr (s.e _ _ z)⟩⟩⟩
theorem rks_L {D : Hp} {us : List V} {rs : List (List Int)} (h : RpAll D us (rs.map lI)) : RKs D us rs := ⟨by have := RpAll.length h; rw [List.length_map] at this; exact this, fun i v hv => by
  obtain ⟨g, r, e, hr, k⟩ := ra_getL h hv
  exact ⟨g, r, e, hr, ⟨.inl k.pf⟩⟩⟩
theorem rks_T {D : Hp} {us : List V} {rs : List (List Int)} (h : RpAll D us (rs.map tI)) : RKs D us rs := ⟨by have := RpAll.length h; rw [List.length_map] at this; exact this, fun i v hv => by
  obtain ⟨g, r, e, hr, k⟩ := ra_getT h hv
  exact ⟨g, r, e, hr, ⟨.inr k.pf⟩⟩⟩
end Fk

namespace Fk
open PySem PySem.Spec PyProof.Rows L2
/-! ## a caught error that is kept behind its suite -/
/-- an error at a, of this class -/
def ErO (a : Addr) (cls : Value) (d : Option Addr) : HO := .ext fun h => ∃ oe, h.get? a = some oe ∧ Zc cls d oe ∧ ∃ vs, oe.data = .fields vs
theorem erO_ok {P : Program} {w : World} {H : Hp} {h : Heap} {a : Addr} {oe : Obj} {cls : Value} {d : Option Addr} (e : h.get? a = some oe) (z : Zc cls d oe) (f : ∃ vs, oe.data = .fields vs) : ObjOk P w H h a (ErO a cls d) :=
  ⟨⟨oe, e, z, f⟩, ⟨oe, e⟩, fun _ _ ⟨o, e1, z1⟩ k => ⟨o, k o e1, z1⟩⟩
section
variable {X : Cx} {pins : List (Addr × Obj)} {σ : L2.St} {H : Hp} {s : Shared} {a : Addr} {oe : Obj} {cls : Value} {d : Option Addr}
/-- the suite's end: its error is a thing of the heap from now on -/
theorem adopt (S : Inv (X.suite a ((a, oe) :: (X.pn ++ pins))) [] σ H s) (ok : X.Ok) (z : Zc cls d oe) (f : ∃ vs, oe.data = .fields vs) (n0 : X.s_0.heap.get? a = none) (np : ∀ p, p ∈ X.pn ++ pins → p.1 ≠ a) : Inv X pins σ (upd H a (ErO a cls d)) s := by
  obtain ⟨ga, na, nl, nf, nc⟩ := S.pin (a, oe) (by rw [List.append_nil]; exact List.mem_cons_self)
  have old : ∀ {b : Addr} {o : Obj}, X.s_0.heap.get? b = some o → b ≠ a := fun e q => by rw [q, n0] at e; exact nomatch e
  have tr : ∀ {b : Addr} {o : HO}, H b = some o → upd H a (ErO a cls d) b = some o := fun {b o} e => by rw [upd_ne (ne_of_none e na)]; exact e
  have U := S.base
  refine ⟨ok, S.os, S.bare, ⟨U.keep, U.slot, fun b o e h hx => ?_, U.there, fun b xs e => tr (U.tups b xs e), fun b o u e => tr (U.frzs b o u e), fun b ps e => ?_⟩, S.loc, S.cell, ?_, fun x c e => ?_, fun p hp => ?_, ?_, S.len⟩
  · rw [upd_ne (old e)]
    exact U.free b o e h hx
  · obtain ⟨m, hm⟩ := U.tbls b ps e
    exact ⟨m, tr hm⟩
  · rw [upd_ne (fun q => nl q.symm)]
    exact S.free
  · rw [upd_ne]
    · exact S.freeC x c e
    · intro q
      obtain ⟨v, oc, ho, hv⟩ := S.cell x c e
      rw [q, ga] at ho
      cases ho
      exact nc v hv
  · obtain ⟨q1, q2, q3⟩ := S.pin p (by rw [List.append_nil]; exact List.mem_cons_of_mem _ hp)
    exact ⟨q1, by rw [upd_ne (np p hp)]; exact q2, q3⟩
  · exact HOk.laidN S.hok (fun _ _ e => e) na (erO_ok ga z f)
end
def wKeep (K : PySem.W.Frag) (c : Value) (i : Nat) (ts : Addr → Value → Option Addr → TS) (Wout : WX) (D : Ends) : WX := fun cls d σ H =>
  ∃ yes, PySem.W.exmOne K cls c = some yes ∧ (yes = true → ∀ a, H a = none → ts a cls d { nx := fun σ2 H2 => D.nx (σ2.set i none) (upd H2 a (ErO a cls d)), rt := D.rt, bk := fun σ2 H2 => D.bk (σ2.set i none) H2, ct := fun σ2 H2 => D.ct (σ2.set i none) H2 } (σ.set i (some (.ref a))) H) ∧ (yes = false → Wout cls d σ H)
section
variable {X : Cx} {x n : Str} {c : Value} {i : Nat} {body rest : List Stmt} {s0 : Stmt} {p1 p2 p3 : Pos} {tb : WX → TS} {ts : Addr → Value → Option Addr → TS} {Wout : WX}
theorem ps_try_keep (hs : X.stack = X.env :: X.outer) (hf : X.env.frame = some X.env.locals) (hN : X.N.Nodup) (hi : X.N[i]? = some n) (hl : X.env.kindOf n = some .local) (hx : X.ex = []) (hc : Names X x c) (tk : Takes X Wout)
    (hb : ∀ (W : WX) (pn : List (Addr × Obj)) (xe : Value → Shared → Prop), Takes (X.tr pn xe) W → PassesOwn (model X.prog X.w) X.A X.env xe → PSs (X.tr pn xe) body (tb W))
    (ht : ∀ (a : Addr) (oe : Obj) (cls : Value) (d : Option Addr) (pn : List (Addr × Obj)), Zc cls d oe → (∃ vs, oe.data = .fields vs) → PSs (X.suite a ((a, oe) :: pn)) (s0 :: rest) (ts a cls d)) :
    PS X (.Try body [.ExceptHandler (some (.Name x p1)) (some n) (s0 :: rest) p2] [] [] p3) (fun D σ H => tb (wKeep X.K c i ts Wout D) D σ H) := by
  refine ⟨fun pins s σ H D I h => ?_⟩
  have okX := I.ok
  have hfs : X.A.frames = some (X.env :: X.outer) := by rw [okX.frames, hs]
  obtain ⟨hd9, hh9⟩ : ∃ hd, hd = Stmt.Try body [.ExceptHandler (some (.Name x p1)) (some n) (s0 :: rest) p2] [] [] p3 := ⟨_, rfl⟩
  refine wpAny_Try_except (wpAny_mono ((hb (wKeep X.K c i ts Wout D) (X.pn ++ pins) _ (fun u t hX => ?_) PassesOwn.looking).run [] s σ H D (I.toTry _) h) (fun f t hf9 => ?_) fun _ _ z => z)
  rotate_left
  · cases f with
    | next => exact hf9.elim fun σ2 z => z.elim fun H2 z => wpAny_execs_nil ⟨σ2, H2, z.1.ofTry okX, z.2⟩
    | brk => exact hf9.elim fun σ2 z => z.elim fun H2 z => ⟨σ2, H2, z.1.ofTry okX, z.2⟩
    | cont => exact hf9.elim fun σ2 z => z.elim fun H2 z => ⟨σ2, H2, z.1.ofTry okX, z.2⟩
    | ret u =>
      obtain ⟨v, σ2, H2, J, z⟩ := hf9
      exact ⟨v, σ2, H2, J.ofTry okX, z⟩
  obtain ⟨a, G, sJ, q, σ2, H2, cls, d, rfl, J0, keepG, upS, sk, fr, osE, gs, yes, hyes, wY, wN⟩ := hX
  rw [show (X.tr (X.pn ++ pins) _).stack = X.env :: X.outer from hs] at sk keepG
  have J := J0.ofTry okX
  show wpAny (model X.prog X.w) X.A (noteFrame (.ref a) X.env) _ _ _
  refine Sky.land Zc.steady hfs hf sk fun g1 F1 up1 => ?_
  obtain ⟨o1, v1, e1, zc1, f1⟩ := F1.there
  have notF : a ∉ frs (X.env :: X.outer) := fun hm => by
    obtain ⟨_, o2, e2, bad⟩ := F1.2.2.1.mem hm
    rw [e1] at e2
    exact bad v1 (Option.some.inj e2 ▸ f1)
  have notL : a ≠ X.env.locals := fun z => notF (List.mem_filterMap.mpr ⟨X.env, List.mem_cons_self, by rw [hf, z]⟩)
  have notO : a ∉ X.fs := fun hm => by
    obtain ⟨e, he, z⟩ := List.mem_filterMap.mp hm
    exact notF (List.mem_filterMap.mpr ⟨e, List.mem_cons_of_mem _ he, z⟩)
  have newJ : ∀ o, sJ.heap.get? a = some o → False := fun o e => by
    have := keepG a o e notF
    rw [F1.2.1] at this
    exact nomatch this
  have new0 : X.s_0.heap.get? a = none := by
    cases e : X.s_0.heap.get? a with
    | none => rfl
    | some o =>
      obtain ⟨o2, e2⟩ := J.base.there a o e (by rw [hx]; exact List.not_mem_nil)
      exact (newJ o2 e2).elim
  have newP : ∀ p, p ∈ X.pn ++ pins → p.1 ≠ a := fun p hp z => newJ p.2 (by rw [← z]; exact (J.pin p hp).1)
  have J1 : Inv X pins σ2 H2 { t with heap := g1 } := J.landed (by rw [hs]; exact keepG) F1.1 (upS.trans up1) osE gs
  have T1 := J1.suite e1 f1 fr notL notO
  have ask := PySem.W.exm_one (M := model X.prog X.w) J1.kIn (show PySem.W.Looks (model X.prog X.w) g1 (typeOf (.ref a)) cls from fun A Q E s9 k z => wpAny_typeOf_ref (k _ _ e1) (by rw [zc1.1]; exact z)) hyes
  have look : ∀ {Q E : Value → Shared → Prop}, Q c { t with heap := g1 } → wpAny (model X.prog X.w) (X.A.mark (some (.ref a))) (eval (.Name x p1) X.env) Q E { t with heap := g1 } := fun {Q E} z => by
    rcases hc with ⟨hg, hdb, hm | ⟨hm, hv, hnn⟩⟩
    · exact ld_glob (X := X.suite a ((a, o1) :: (X.pn ++ pins))) T1 hg hm z hdb
    · exact ld_blt (X := X.suite a ((a, o1) :: (X.pn ++ pins))) T1 hg hm hv z hnn hdb
  refine wpAny_handleBy_cons (codeAny_handlers_test (look (ask.here ?_))) (by intro z; cases z)
  cases yes with
  | true =>
    refine codeAny_handlers_suite_as (HandSPX.lands_againZ F1 fun g2 F2 up2 => ?_)
    obtain ⟨o2, v2, e2, zc2, f2⟩ := F2.there
    have T2 := (J.landed (s' := { t with heap := g2 }) (by rw [hs]; exact keepG) F2.1 ((upS.trans up1).trans up2) osE gs).suite e2 f2 fr notL notO
    refine store_ok (X := X.suite a ((a, o2) :: (X.pn ++ pins))) (v := .ref a) T2 hN hi (.inl hl) rfl (fun t3 T3 => ?_) (.inr hl)
    refine wpAny_mono ((ht a o2 cls d (X.pn ++ pins) zc2 ⟨_, f2⟩).run [] t3 _ H2 _ T3 (wY rfl a fr)) (fun f t4 r4 => ?_) fun _ _ z => z.elim
    cases f with
    | next =>
      obtain ⟨σ4, H4, T4, z4⟩ := r4
      exact gone_ok (X := X.suite a ((a, o2) :: (X.pn ++ pins))) T4 hN hi hl fun t5 T5 => ⟨_, _, adopt T5 okX zc2 ⟨_, f2⟩ new0 newP, z4⟩
    | brk =>
      obtain ⟨σ4, H4, T4, z4⟩ := r4
      exact gone_ok (X := X.suite a ((a, o2) :: (X.pn ++ pins))) T4 hN hi hl fun t5 T5 => ⟨_, _, T5.unsuite okX, z4⟩
    | cont =>
      obtain ⟨σ4, H4, T4, z4⟩ := r4
      exact gone_ok (X := X.suite a ((a, o2) :: (X.pn ++ pins))) T4 hN hi hl fun t5 T5 => ⟨_, _, T5.unsuite okX, z4⟩
    | ret u =>
      obtain ⟨v4, σ4, H4, T4, r4, z4⟩ := r4
      exact gone_ok (X := X.suite a ((a, o2) :: (X.pn ++ pins))) T4 hN hi hl fun t5 T5 => ⟨_, _, _, T5.unsuite okX, r4, z4⟩
  | false =>
    show wpAny _ X.A (handleBy (.ref a) X.env []) _ _ _
    refine wpAny_handleBy_nil ?_
    have F1' := F1
    obtain ⟨_, _, _, o3, v3, T, oT, ts3, e3, zc3, f3, i3, _⟩ := F1'
    have on : wpAny (model X.prog X.w) X.A (setFlight (.ref a) X.env.frame) (fun _ s9 => wpAny (model X.prog X.w) X.A (throw (.ref a) : Sem Flow) (SP X pins D) X.xe s9) X.xe { t with heap := g1 } := by
      rw [hf]
      exact HandSPX.setFlight_upZ F1 fun g2 F2 up2 => wpAny_throw (tk _ _ ⟨a, G, sJ, pins, σ2, H2, cls, d, rfl, J, by rw [hs]; exact keepG, (upS.trans up1).trans up2, .inr (.inr (by rw [hs]; exact F2)), fr, osE, gs, wN rfl⟩)
    unfold PySem.passOn
    refine wpAny_bind (wpAny_field e3 f3 i3 ?_)
    rw [if_neg (show ¬ ((Value.ref T == Value.none) = true) from by simp)]
    first
      | exact wpAny_bind (wpAny_pure (wpAny_bind on))
      | exact wpAny_bind on
end
/-! isinstance of a kept error -/
def rIsEK (K : PySem.W.Frag) : List V → Hp → VK → Prop := fun xs H Q => (∃ (a : Addr) (cls : Value) (d : Option Addr), H a = some (ErO a cls d) ∧ rIsES K a cls d xs H Q) ∨ rIsiX K xs H Q
theorem call_isEK {X : Cx} : CallR X (.builtin "isinstance") (rIsEK X.K) := by
  intro pins s σ H xs us Q I r h
  rcases h with ⟨a, cls, d, hE, C, rfl, rfl, x, h⟩ | h
  rotate_left
  · exact call_isiX pins s σ H xs us Q I r h
  obtain ⟨⟨oe, hget, ⟨z1, z2⟩, vs, hv⟩, _⟩ := (show ObjOk X.prog X.w H s.heap a (ErO a (.ref C) none) from I.hok a _ hE)
  have J : PySem.W.InstAt s.heap a oe C none := by
    cases oe
    dsimp only at z1 z2 hv
    subst z1 z2 hv
    exact ⟨hget, rfl, rfl, trivial⟩
  rcases h with ⟨c, cv, b, rfl, hcv, e, q⟩ | ⟨tp, cs, ws, b, rfl, hT, kp, e, q⟩
  · obtain ⟨u1, u2, rfl, r1, r2⟩ := vals2 r
    cases (show u1 = Value.ref a from r1)
    have ec := hcv.eq r2
    subst ec
    exact PySem.W.kia_one (PySem.W.handS_kitx_exc x.hg x.hk x.hs x.hd x.ha x.hn x.ht x.hm) I.kIn J e (fun z => nomatch z) fun tk => ⟨.bl b, H, I.kept (t' := tk) fun _ _ z => z, rfl, q⟩
  · obtain ⟨u1, u2, rfl, r1, r2⟩ := vals2 r
    cases (show u1 = Value.ref a from r1)
    cases (show u2 = Value.ref tp from r2)
    obtain ⟨_, its, rv, ot, g1, g2, n, g3⟩ := (show ObjOk X.prog X.w H s.heap tp (.tup cs) from I.hok tp _ hT)
    have ew := ClsV.all kp rv
    subst ew
    cases ot
    simp only at g2 g3
    subst g2 g3
    exact PySem.W.kia_tup (PySem.W.handS_kitx_exc x.hg x.hk x.hs x.hd x.ha x.hn x.ht x.hm) I.kIn J g1 e (fun z => nomatch z) fun tk => ⟨.bl b, H, I.kept (t' := tk) fun _ _ z => z, rfl, q⟩
class Kx (D : Hp) (a : Addr) (C : outParam Addr) : Prop where
  pf : D a = some (ErO a (.ref C) none)
instance kxUp {D D' : Hp} {a C : Addr} [s : Sm D D'] [k : Kx D a C] : Kx D' a C := ⟨s.e _ _ k.pf⟩
section
variable {σ : L2.St} {D H : Hp} {L : Own} {K : PySem.W.Frag} {Q : VK}
instance (priority := 2000) v_isEK1 {a C : Addr} {c : V} {b : Bool} [S : Sx D L H] [e : Kx D a C] [x : ExC K C] [k : KtO K C c b] : VC (rIsEK K [.ref a, c] H Q) (Q (.bl b) H) := ⟨fun q => by
  obtain ⟨cv, h1, h2⟩ := k.pf
  exact .inl ⟨a, _, _, S.dH _ _ e.pf, C, rfl, rfl, x.pf, .inl ⟨c, cv, b, rfl, h1, h2, q⟩⟩⟩
instance (priority := 2000) v_isEKT {a C tp : Addr} {cs : List V} {b : Bool} [S : Sx D L H] [kt : Kn D tp (.tup cs)] [e : Kx D a C] [x : ExC K C] [k : KtA K C cs b] : VC (rIsEK K [.ref a, .ref tp] H Q) (Q (.bl b) H) := ⟨fun q => by
  obtain ⟨us, h1, h2⟩ := k.pf
  exact .inl ⟨a, _, _, S.dH _ _ e.pf, C, rfl, rfl, x.pf, .inr ⟨tp, cs, us, b, rfl, S.dH _ _ kt.pf, h1, h2, q⟩⟩⟩
instance (priority := 100) v_isEKx {xs : List V} : VC (rIsEK K xs H Q) (rIsiX K xs H Q) := ⟨fun q => .inr q⟩
/-- the error is adopted -/
theorem Sx.err {a C : Addr} (S : Sx D L H) (h : H a = none) : Sx (upd D a (ErO a (.ref C) none)) L (upd H a (ErO a (.ref C) none)) ∧ Sm D (upd D a (ErO a (.ref C) none)) ∧ Kx (upd D a (ErO a (.ref C) none)) a C := ⟨S.fix h, ⟨same_upd (S.dH.free h)⟩, ⟨upd_same⟩⟩
end
end Fk

namespace Fk
open PySem PySem.Spec PyProof.Rows L2
/-! ## dicts that are written no more: walks, sorted(d) -/
class Kf (D : Hp) (a : Addr) (u : outParam HO) : Prop where
  pf : ∃ o, D a = some (.frz o u)
instance kfUp {D D' : Hp} {a : Addr} {u : HO} [s : Sm D D'] [k : Kf D a u] : Kf D' a u := ⟨let ⟨o, e⟩ := k.pf; ⟨o, s.e _ _ e⟩⟩
def tFrz (t : TS) : TS := fun E σ H => ∃ d u, H d = some u ∧ Mut (some u) ∧ ∀ od, t E σ (upd H d (.frz od u))
theorem ps_frz {X : Cx} {st : Stmt} {t : TS} (h : PS X st t) : PS X st (tFrz t) := by
  refine ⟨fun pins s σ H E I hw => ?_⟩
  obtain ⟨d, u, hd, mu, hw⟩ := hw
  obtain ⟨od, I1⟩ := I.lock hd mu
  exact h.run pins s σ _ _ I1 (hw od)
/-- sorted(d), the keys numbers, any number of them -/
def rSortDK : List V → Hp → VK → Prop := fun vs H Q => ∃ (a : Addr) (kvs : List (Int × Int)), vs = [.ref a] ∧ Rd H a (.dK (kvs.map entI)) ∧
  ∀ (ys : List Int) (p : Addr), ys.Perm (kvs.map (·.1)) → ys.Pairwise (· ≤ ·) → H p = none → Q (.ref p) (upd H p (.lst (ys.map V.int)))
theorem cr_sortDK {X : Cx} (hcalm : X.calm = true) : CallR X (.builtin "sorted") rSortDK := by
  intro pins s σ H xs us Q I r q
  obtain ⟨a, kvs, ex, hd, q⟩ := q
  subst ex
  obtain ⟨u, eu, rx⟩ := vals1 r
  subst eu
  cases rx
  obtain ⟨z, lo, vs, rel, dd⟩ := dk_rd I.hok hd
  obtain ⟨ep, hat⟩ := dd.dictAt
  have hkeys : vs.map (·.1) = (kvs.map (·.1)).map Sum.inl := by
    rw [← rel.keys, List.map_map, List.map_map]
    rfl
  have hl : vs.length = kvs.length := by
    have e := congrArg List.length hkeys
    rw [List.length_map, List.length_map, List.length_map] at e
    exact e
  rw [List.length_map] at z
  have h16 : vs.length ≤ sizeLine := by rw [hl]; exact z
  refine Calls.call_function_entry PyProof.Rows.kind_sorted PyProof.Rows.plain_sorted PyProof.Rows.entry_sorted (PyProof.Rows.args_sorted1 _) ?_
  unfold Builtin.«sorted»
  refine wpAny_bind (m := checkCount "sorted" 1 1 _) (wpAny_pure ?_)
  refine wpAny_bind (PySem.W.kdu_collect (A := X.A.in1) (PySem.W.kdl_dict (knd := mixKind X.prog X.w) (kvs := vs) (ep := ep) lo) (I.ok.hd hcalm) hat h16 fun h' tk acc hk hacc => ?_)
  have hal : acc.toList.length = (kvs.map (·.1)).length := by rw [Array.length_toList, hacc.1, hl, List.length_map]
  have hS : IntsAre acc.toList (kvs.map (·.1)) := ints_each hal fun j v e => by
    obtain ⟨k, x, e1, e2⟩ := hacc.2 j v (by rw [← Array.getElem?_toList]; exact e)
    have e3 : (vs.map (·.1))[j]? = some k := by rw [List.getElem?_map, e1]; rfl
    rw [hkeys, List.getElem?_map] at e3
    cases e4 : (kvs.map (·.1))[j]? with
    | none => rw [e4] at e3; cases e3
    | some y =>
      rw [e4] at e3
      have e5 : Sum.inl y = k := Option.some.inj e3
      subst e5
      rcases keyIs_shape (show keyIs (Sum.inl y) v = true from e2) with ⟨i, t, ek, ev⟩ | ⟨z, t, ek, ev⟩
      · cases ek
        exact ⟨y, t, rfl, ev⟩
      · cases ek
  have I1 : Inv X pins σ H { s with heap := h', toks := tk } := I.kept hk
  have hz2 : acc.toList.length ≤ sizeLine := by rw [hal, List.length_map]; exact z
  refine wpAny_bind (wpAny_newList ?_ hz2)
  have hoL : (h'.push (seqObj "list" acc.toList.toArray 0)).get? h'.objs.size = some (seqObj "list" acc.toList.toArray 0) := Heap.get?_push_size _ rfl
  show wpAny _ _ _ _ _ { s with heap := h'.push (seqObj "list" acc.toList.toArray 0), toks := tk }
  have hn0 : H h'.objs.size = none := I1.hok.fresh (Nat.le_refl _)
  have hlen : ((kvs.map (·.1)).map V.int).length ≤ sizeLine := by rw [List.length_map, List.length_map]; exact z
  have I2 := I1.laid (a := h'.objs.size) (o := .lst ((kvs.map (·.1)).map V.int)) (h' := h'.push (seqObj "list" acc.toList.toArray 0)) (t' := tk) (fun _ _ q => Heap.get?_push_of_some _ q) (Nat.le_refl _)
    ⟨hlen, acc.toList, 0, vals_of_ints hS, Heap.get?_push_size _ rfl⟩
  refine wpAny_bind (wpAny_holding (wpAny_mono (mt_sortI (X := inX X) pins { s with heap := h'.push (seqObj "list" acc.toList.toArray 0), toks := tk } σ (upd H h'.objs.size (.lst ((kvs.map (·.1)).map V.int))) (.ref h'.objs.size) [] (.ref h'.objs.size) [] (fun _ H3 => Q (.ref h'.objs.size) H3) (inv_in I2) rfl .nil
    ⟨h'.objs.size, kvs.map (·.1), rfl, rfl, upd_same, fun ns' h1 h2 => ?_⟩) (fun u s' hu => ?_) (fun _ _ e => e)))
  · have e : upd (upd H h'.objs.size (.lst ((kvs.map (·.1)).map V.int))) h'.objs.size (.lst (ns'.map V.int)) = upd H h'.objs.size (.lst (ns'.map V.int)) := funext fun b => by
      by_cases c : b = h'.objs.size
      · rw [c, upd_same, upd_same]
      · rw [upd_ne c, upd_ne c, upd_ne c]
    rw [e]
    exact q ns' _ h1 h2 hn0
  · obtain ⟨v, H4, J, _, qq⟩ := hu
    exact wpAny_pure ⟨_, rfl, .ref h'.objs.size, H4, inv_out I.ok J, rfl, qq⟩
section
variable {σ : L2.St} {D H : Hp} {L : Own} {K : PySem.W.Frag} {Q : VK} {nx : L2.St → Hp → Prop} {rt : VK} {bk ct : L2.St → Hp → Prop}
/-- my dict is frozen from now on -/
theorem Sx.frzK {a : Addr} {u : HO} {L1 L' : Own} {n : Nat} (od : Obj) [S : Sx D L1 H] [h : Fi L1 a u n] [e : Er L1 n L'] : Sm D (upd D a (.frz od u)) ∧ Kf (upd D a (.frz od u)) a u ∧ Sx (upd D a (.frz od u)) L' (upd H a (.frz od u)) := by
  have hDa : D a = none := S.off h.pf
  have hF := Sx.front (S := S) (h := h) (e := e)
  have hnd : a ∉ L'.map (·.1) := by have := hF.nd; rw [List.map_cons] at this; exact (List.nodup_cons.mp this).1
  refine ⟨⟨same_upd hDa⟩, ⟨⟨od, upd_same⟩⟩, ⟨fun b o hb => ?_, fun q hq => ?_, ?_⟩⟩
  · by_cases c : b = a
    · rw [c, upd_same] at hb ⊢
      exact hb
    · rw [upd_ne c] at hb ⊢
      exact S.dH b o hb
  · obtain ⟨q1, q2⟩ := hF.ow q (List.mem_cons_of_mem _ hq)
    have c : q.1 ≠ a := fun z => hnd (z ▸ List.mem_map.mpr ⟨q, hq, rfl⟩)
    rw [upd_ne c, upd_ne c]
    exact ⟨q1, q2⟩
  · have := hF.nd
    rw [List.map_cons] at this
    exact (List.nodup_cons.mp this).2
def IsKy (x : V) (H : Hp) (R : It → Hp → Prop) : Prop := ∃ d o, x = .ref d ∧ ((∃ kvs, H d = some (.frz o (.dK kvs)) ∧ R (Itk d o kvs) H) ∨ ∃ kvs, H d = some (.frz o (.dT kvs)) ∧ R (Itkt d o kvs) H)
instance v_keys {td : TE} {R : It → Hp → Prop} : VC (iKeys td σ H R) (td σ H fun x H1 => IsKy x H1 R) := ⟨fun h => h⟩
instance v_ky {a : Addr} {kvs : List (Key × V)} {R : It → Hp → Prop} [S : Sx D L H] [h : Kf D a (.dK kvs)] : VC (IsKy (.ref a) H R) (∀ o, D a = some (.frz o (.dK kvs)) → R (Itk a o kvs) H) :=
  ⟨fun k => let ⟨o, e⟩ := h.pf; ⟨a, o, rfl, .inl ⟨kvs, S.dH _ _ e, k o e⟩⟩⟩
theorem rdF {a : Addr} {u : HO} (S : Sx D L H) (h : Kf D a u) : Rd H a u := let ⟨o, e⟩ := h.pf; .inr ⟨o, S.dH _ _ e⟩
instance v_dgF {a : Addr} {kvs : List (Key × V)} {i : Int} {q : Option V → Prop} [S : Sx D L H] [h : Kf D a (.dK kvs)] : VC (IsDG (.ref a) (.int i) H q) (q (valV kvs (Sum.inl i))) := ⟨fun k => ⟨a, _, rfl, .inl ⟨kvs, Sum.inl i, rdF S h, rfl, rfl⟩, k⟩⟩
instance v_dg2F {a : Addr} {kvs : List (Key × V)} {ty tx : TE} [S : Sx D L H] [h : Kf D a (.dK kvs)] : VC (DG2 ty tx σ (.ref a) H Q) (ty σ H fun y H2 => tx σ H2 fun z H3 => DGo a y z H3 Q) := ⟨fun k => ⟨a, rfl, .inl ⟨kvs, rdF S h⟩, k⟩⟩
instance v_dgoF {a : Addr} {kvs : List (Key × V)} {i : Int} {z : V} [S : Sx D L H] [h : Kf D a (.dK kvs)] : VC (DGo a (.int i) z H Q) (Q ((valV kvs (Sum.inl i)).getD z) H) := ⟨fun k => ⟨_, .inl ⟨kvs, Sum.inl i, rdF S h, rfl, rfl⟩, k⟩⟩
/-- d[k], the key there -/
def DGe (x y : V) (H : Hp) (Q : VK) : Prop := ∃ a v, x = .ref a ∧ DGet H a y (some v) ∧ Q v H
instance v_dget {td ty : TE} : VC (tDGet td ty σ H Q) (td σ H fun x H1 => ty σ H1 fun y H2 => DGe x y H2 Q) := ⟨fun h => h⟩
class DvC (kvs : List (Key × V)) (i : Int) (v : outParam V) : Prop where
  pf : valV kvs (Sum.inl i) = some v
instance v_dge {a : Addr} {kvs : List (Key × V)} {n : Nat} {i : Int} {v : V} [S : Sx D L H] [h : Fi L a (.dK kvs) n] [c : DvC kvs i v] : VC (DGe (.ref a) (.int i) H Q) (Q v H) := ⟨fun k => ⟨a, v, rfl, .inl ⟨kvs, Sum.inl i, .inl (S.at h.pf), rfl, c.pf.symm⟩, k⟩⟩
instance v_dgeF {a : Addr} {kvs : List (Key × V)} {i : Int} {v : V} [S : Sx D L H] [h : Kf D a (.dK kvs)] [c : DvC kvs i v] : VC (DGe (.ref a) (.int i) H Q) (Q v H) := ⟨fun k => ⟨a, v, rfl, .inl ⟨kvs, Sum.inl i, rdF S h, rfl, c.pf.symm⟩, k⟩⟩
theorem c_sortDK {a : Addr} {kvs : List (Int × Int)} (S : Sx D L H) (hR : Rd H a (.dK (kvs.map entI))) (k : ∀ (ys : List Int), ys.Perm (kvs.map (·.1)) → ys.Pairwise (· ≤ ·) → ∀ p H', Sx D ((p, .lst (ys.map V.int)) :: L) H' → Q (.ref p) H') : rSortDK [.ref a] H Q :=
  ⟨a, kvs, rfl, hR, fun ys p h1 h2 hp => k ys h1 h2 p _ (S.new hp)⟩
end
end Fk

namespace Fk
open PySem PySem.Spec PyProof.Rows L2 SrtO
/-! ## sorted(xs), xs triples of numbers, any number of them -/
abbrev T3 := Int × Int × Int
def lexT (p q : T3) : Bool := if p.1 = q.1 then lexB p.2 q.2 else decide (p.1 < q.1)
theorem lexT_iff {p q : T3} : lexT p q = true ↔ p.1 < q.1 ∨ (p.1 = q.1 ∧ (p.2.1 < q.2.1 ∨ (p.2.1 = q.2.1 ∧ p.2.2 < q.2.2))) := by
  unfold lexT
  by_cases e : p.1 = q.1
  · rw [if_pos e, lexB_iff]
    omega
  · rw [if_neg e, decide_eq_true_eq]
    omega
theorem lexT_no {p q : T3} : lexT p q = false ↔ ¬ (p.1 < q.1 ∨ (p.1 = q.1 ∧ (p.2.1 < q.2.1 ∨ (p.2.1 = q.2.1 ∧ p.2.2 < q.2.2)))) := by
  rw [← lexT_iff]
  cases lexT p q <;> simp
theorem swo_lexT {α : Type} (k : α → T3) : Swo fun v u => lexT (k v) (k u) := by
  refine ⟨fun x y h => ?_, fun x y z h1 h2 => ?_⟩
  · have a := lexT_iff.mp h
    refine lexT_no.mpr ?_
    omega
  · have a := lexT_no.mp h1
    have b := lexT_no.mp h2
    refine lexT_no.mpr ?_
    omega
def IsTrip (h : Heap) (v : Value) (p : T3) : Prop := ∃ a o t u w n, v = .ref a ∧ h.get? a = some o ∧ o.cls = .type "tuple" ∧ o.data = .seq #[.int p.1 t, .int p.2.1 u, .int p.2.2 w] n
theorem IsTrip.keeps {h h' : Heap} {v : Value} {x : T3} (p : IsTrip h v x) (k : ∀ b o, h.get? b = some o → o.cls = .type "tuple" → h'.get? b = some o) : IsTrip h' v x := by
  obtain ⟨a, o, t, u, w, n, e, ho, hc, hd⟩ := p
  exact ⟨a, o, t, u, w, n, e, k _ _ ho hc, hc, hd⟩
section
variable {prog : Program} {w : World} {A : Around} {E : Value → Shared → Prop} {s : Shared}
theorem trip_firsts {h : Heap} {k : Value → T3} : ∀ {vs : List Value}, (∀ v ∈ vs, IsTrip h v (k v)) → ∃ fs : List Value, PySem.W.KatTups h vs fs ∧ fs.length = vs.length ∧ ∀ f ∈ fs, ∃ x t, f = Value.int x t
  | [], _ => ⟨[], PySem.W.KatTups.nil, rfl, fun _ hm => by simp at hm⟩
  | v :: vs, hp => by
    obtain ⟨fs, h1, h2, h3⟩ := trip_firsts (vs := vs) fun v' hm => hp v' (List.mem_cons_of_mem _ hm)
    obtain ⟨a, o, t, u, ww, n, e, ho, hc, hd⟩ := hp v (List.mem_cons_self ..)
    refine ⟨.int (k v).1 t :: fs, by rw [e]; rw [e] at hd; exact PySem.W.KatTups.cons ho hc hd rfl h1, by rw [List.length_cons, List.length_cons, h2], fun f hm => ?_⟩
    rcases List.mem_cons.mp hm with rfl | hm
    · exact ⟨_, t, rfl⟩
    · exact h3 f hm
theorem trip_cmp {vs : List Value} {k : Value → T3} (hp : ∀ v ∈ vs, IsTrip s.heap v (k v)) : Cmp prog w A s (tuples' true) (fun p => p.1 ∈ vs) (lt2 fun v u => lexT (k v) (k u)) := by
  intro p q hm hm'
  have h1 := hp _ hm
  have h2 := hp _ hm'
  show wpAny (model prog w) A (keyLt' (tuples' true) p.1 q.1) (fun r s' => s' = s ∧ r = lexT (k p.1) (k q.1)) (fun _ _ => False) s
  unfold lexT lexB
  generalize (k p.1) = kp at h1 ⊢
  generalize (k q.1) = kq at h2 ⊢
  obtain ⟨x, y, z⟩ := kp
  obtain ⟨x', y', z'⟩ := kq
  obtain ⟨a, o, t, u, c, n, e, ho, hc, hd⟩ := h1
  obtain ⟨a', o', t', u', c', n', e', ho', hc', hd'⟩ := h2
  rw [e, e']
  refine PySem.W.kat_lt ho hd ho' hd' ?_
  show PySem.W.KatLex prog w A true (decide (3 < 3)) _ [(.int x t, .int x' t'), (.int y u, .int y' u'), (.int z c, .int z' c')] 0 s
  show PySem.W.KatLex prog w A true (decide (3 < 3)) (fun r s' => s' = s ∧ r = (if x = x' then (if y = y' then decide (z < z') else decide (y < y')) else decide (x < x'))) _ 0 s
  refine PySem.W.kat_cons (SeqAt.EqAt.int_int x t x' t' prog w _ _ ?_)
  refine PySem.W.kat_go (fun e1 => ?_) (fun e1 => ?_)
  · have ex : x = x' := by simpa using e1
    refine PySem.W.kat_yes (PySem.W.kat_cons (SeqAt.EqAt.int_int y u y' u' prog w _ _ ?_))
    refine PySem.W.kat_go (fun e2 => ?_) (fun e2 => ?_)
    · have ey : y = y' := by simpa using e2
      refine PySem.W.kat_yes (PySem.W.kat_cons (SeqAt.EqAt.int_int z c z' c' prog w _ _ ?_))
      refine PySem.W.kat_go (fun e3 => ?_) (fun e3 => ?_)
      · have ez : z = z' := by simpa using e3
        have e4 : (if x = x' then (if y = y' then decide (z < z') else decide (y < y')) else decide (x < x')) = false := by
          rw [if_pos ex, if_pos ey, ez]
          exact decide_eq_false (Int.lt_irrefl _)
        exact PySem.W.kat_yes (PySem.W.kat_nil ⟨rfl, e4.symm⟩)
      · have e4 : (if x = x' then (if y = y' then decide (z < z') else decide (y < y')) else decide (x < x')) = decide (z < z') := by rw [if_pos ex, if_pos ey]
        refine PySem.W.kat_no (PySem.W.kat_one _ _ (PyProof.Rows.lt_int ?_))
        exact ⟨rfl, e4.symm⟩
    · have e4 : (if x = x' then (if y = y' then decide (z < z') else decide (y < y')) else decide (x < x')) = decide (y < y') := by rw [if_pos ex, if_neg (by simpa using e2)]
      refine PySem.W.kat_no (PySem.W.kat_one _ _ (PyProof.Rows.lt_int ?_))
      exact ⟨rfl, e4.symm⟩
  · have ex : ¬ x = x' := by simpa using e1
    have e3 : (if x = x' then (if y = y' then decide (z < z') else decide (y < y')) else decide (x < x')) = decide (x < x') := if_neg ex
    exact PySem.W.kat_no (oneLt_int ⟨rfl, e3.symm⟩)
theorem trip_sortableO {a : Addr} {vs : List Value} {k : Value → T3} (h0 : 0 < vs.length) (hp : ∀ v ∈ vs, IsTrip s.heap v (k v)) (ha : ∀ o, s.heap.get? a = some o → o.cls ≠ .type "tuple") : SortableO prog w A s a vs fun v u => lexT (k v) (k u) := by
  intro h' keep
  have hp' : ∀ v ∈ vs, IsTrip h' v (k v) := fun v hm => (hp v hm).keeps fun b o e c => keep b o (fun z => by subst z; exact ha o e c) e
  obtain ⟨fs, h1, h2, h3⟩ := trip_firsts hp'
  refine ⟨tuples' true, fun Q E hq => ?_, trip_cmp hp'⟩
  refine PySem.W.kat_kind (T := .type "int") h1 (by omega) (fun f hm => ?_) (by rfl) ?_
  · obtain ⟨x, t, rfl⟩ := h3 f hm
    exact PySem.W.Looks.now
  · have e : (Value.type "int" != Value.type "tuple") = true := by first | decide +kernel | rfl | decide
    rw [e]
    exact hq
theorem sorted_tripO {l : Addr} {vs : List Value} {k : Value → T3} {Q : Value → Shared → Prop} (hl : s.heap.IsList l vs.toArray) (hz : vs.length ≤ sizeLine) (hp : ∀ v ∈ vs, IsTrip s.heap v (k v))
    (h : ∀ (h' : Heap) (d : Addr) (out : List Value), Srtd (fun v u => lexT (k v) (k u)) out → Stb (fun v u => lexT (k v) (k u)) out vs → (∀ b o, s.heap.get? b = some o → h'.get? b = some o) → s.heap.objs.size ≤ d → (∃ n, h'.get? d = some (seqObj "list" out.toArray n)) → Q (.ref d) { s with heap := h' }) :
    wpAny (model prog w) A (call (.builtin "sorted") [.ref l]) Q E s := by
  refine sorted_ord (swo_lexT k) hl hz (fun h2 h₁ a ha kk => ?_) fun out hs hb => ?_
  · refine trip_sortableO (s := { s with heap := h₁ }) (by omega) (fun v hm => (hp v hm).keeps fun b o e _ => (kk b o e).2) fun o e => ?_
    have e' : some o = some (seqObj "list" vs.toArray 0) := e.symm.trans ha
    cases e'
    intro c
    exact absurd (Value.type.inj c) (by decide)
  · exact h _ _ out hs hb (fun b o e => sortedAll_old e) (Nat.le_succ _) (sortedAll_at s.heap vs out.toArray)
end
abbrev ltT (k : V → T3) (x y : V) : Bool := lexT (k x) (k y)
/-- sorted(xs), xs a list of triples of numbers (k says which) -/
def rSortedT3 (K : PySem.W.Frag) : List V → Hp → VK → Prop := fun vs H Q => ∃ (a : Addr) (xs : List V) (k : V → T3), vs = [V.ref a] ∧ SqL K H a xs ∧ (∀ x ∈ xs, ∃ t, x = V.ref t ∧ H t = some (.tup [.int (k x).1, .int (k x).2.1, .int (k x).2.2])) ∧
  ∀ ys p, Srtd (ltT k) ys → Stb (ltT k) ys xs → H p = none → Q (.ref p) (upd H p (.lst ys))
theorem cr_sortedT3 {X : Cx} : CallR X (.builtin "sorted") (rSortedT3 X.K) := by
  intro pins s σ H vs us Q I r h
  obtain ⟨a, xs, k, rfl, hs, hx, q⟩ := h
  obtain ⟨its, rv, hl, hz⟩ := I.list hs
  obtain ⟨u, rfl, ru⟩ := vals1 r
  obtain rfl : u = Value.ref a := ru
  obtain ⟨e1, e2⟩ := refs_back rv fun x m => by
    obtain ⟨t, e, _⟩ := hx x m
    exact ⟨t, e⟩
  refine sorted_tripO (k := fun u => k (backV u)) hl.isList (by rw [← rv.length]; exact hz) (fun v hv => ?_) fun h' d out h1 h2 kp hd hn => ?_
  · obtain ⟨t, rfl⟩ := e2 v hv
    have hm : V.ref t ∈ xs := by rw [e1]; exact List.mem_map.mpr ⟨_, hv, rfl⟩
    obtain ⟨t', e, ht⟩ := hx _ hm
    cases e
    obtain ⟨_, its2, r2, o, ho, hc, n, hd⟩ := I.hok _ _ ht
    cases r2 with
    | cons r1 r2 =>
      obtain ⟨u2, u3, rfl, ri, rj⟩ := vals2 r2
      obtain ⟨t1, rfl⟩ := r1
      obtain ⟨t2, rfl⟩ := ri
      obtain ⟨t3, rfl⟩ := rj
      exact ⟨t, o, t1, t2, t3, n, rfl, ho, hc, hd⟩
  · have h3 : ∀ u ∈ out, ∃ a, u = Value.ref a := fun u hu => e2 u (h2.perm.mem_iff.mp hu)
    obtain ⟨n, hn⟩ := hn
    have hb : Stb (ltT k) (out.map backV) xs := by
      rw [e1]
      exact Stb.map (swo_lexT k) backV h2
    refine ⟨.ref d, upd H d (.lst (out.map backV)), I.laid (t' := s.toks) kp hd ⟨?_, out, n, L2.vals_back h3, hn⟩, rfl, q _ d (srtd_map h1) hb (I.hok.fresh hd)⟩
    rw [hb.len]
    exact hz
def leT (a b : T3) : Prop := a.1 < b.1 ∨ (a.1 = b.1 ∧ (a.2.1 < b.2.1 ∨ (a.2.1 = b.2.1 ∧ a.2.2 ≤ b.2.2)))
def keyT (D : Hp) : V → T3
  | .ref t => match D t with
    | some (.tup [.int i, .int j, .int l]) => (i, j, l)
    | _ => (0, 0, 0)
  | _ => (0, 0, 0)
theorem keyT_at {D : Hp} {b : Addr} {i j l : Int} (e : D b = some (.tup [.int i, .int j, .int l])) : keyT D (.ref b) = (i, j, l) := by
  show (match D b with
    | some (.tup [.int i, .int j, .int l]) => (i, j, l)
    | _ => (0, 0, 0)) = (i, j, l)
  rw [e]
/-- triples that stand there -/
def T3A (D : Hp) (us : List V) (xs : List T3) : Prop := us.length = xs.length ∧ ∀ (i : Nat) (v : V), us[i]? = some v → ∃ b x, v = .ref b ∧ xs[i]? = some x ∧ Kn D b (.tup [.int x.1, .int x.2.1, .int x.2.2])
theorem T3A.nil {D : Hp} : T3A D [] [] := ⟨rfl, fun i v h => by simp at h⟩
theorem T3A.up {D D' : Hp} {us : List V} {xs : List T3} (h : T3A D us xs) (s : Sm D D') : T3A D' us xs := ⟨h.1, fun i v hv => by
  obtain ⟨b, x, e, hx, k⟩ := h.2 i v hv
  exact ⟨b, x, e, hx, inferInstance⟩⟩
theorem T3A.snoc {D : Hp} {us : List V} {xs : List T3} (h : T3A D us xs) {b : Addr} {x : T3} (k : Kn D b (.tup [.int x.1, .int x.2.1, .int x.2.2])) : T3A D (us ++ [.ref b]) (xs ++ [x]) := ⟨by rw [List.length_append, List.length_append, h.1]; rfl, fun i v hv => by
  by_cases c : i < us.length
  · rw [List.getElem?_append_left c] at hv
    obtain ⟨b, x, e, hx, k⟩ := h.2 i v hv
    exact ⟨b, x, e, by rw [List.getElem?_append_left (by rw [← h.1]; exact c)]; exact hx, k⟩
  · rw [List.getElem?_append_right (by omega)] at hv
    have hi : i - us.length = 0 := by
      have := (List.getElem?_eq_some_iff.mp hv).1
      rw [List.length_singleton] at this
      omega
    rw [hi] at hv
    exact ⟨b, x, (Option.some.inj hv).symm, by rw [List.getElem?_append_right (by rw [← h.1]; omega), ← h.1, hi]; rfl, k⟩⟩
theorem T3A.app {D : Hp} {us ws : List V} {xs ys : List T3} (h : T3A D us xs) (k : T3A D ws ys) : T3A D (us ++ ws) (xs ++ ys) := ⟨by rw [List.length_append, List.length_append, h.1, k.1], fun i v hv => by
  by_cases c : i < us.length
  · rw [List.getElem?_append_left c] at hv
    obtain ⟨b, x, e, hx, kk⟩ := h.2 i v hv
    exact ⟨b, x, e, by rw [List.getElem?_append_left (by rw [← h.1]; exact c)]; exact hx, kk⟩
  · rw [List.getElem?_append_right (by omega)] at hv
    obtain ⟨b, x, e, hx, kk⟩ := k.2 _ v hv
    exact ⟨b, x, e, by rw [List.getElem?_append_right (by rw [← h.1]; omega), ← h.1]; exact hx, kk⟩⟩
theorem T3A.map {D : Hp} {us : List V} {xs : List T3} (h : T3A D us xs) : us.map (keyT D) = xs := by
  refine List.ext_getElem? fun i => ?_
  rw [List.getElem?_map]
  cases e : us[i]? with
  | none =>
    have := List.getElem?_eq_none_iff.mp e
    rw [List.getElem?_eq_none (by rw [← h.1]; exact this)]
    rfl
  | some v =>
    obtain ⟨b, x, rfl, hx, k⟩ := h.2 i v e
    rw [hx]
    show some (keyT D (.ref b)) = _
    rw [keyT_at k.pf]
section
variable {σ : L2.St} {D H : Hp} {L : Own} {K : PySem.W.Frag} {Q : VK}
theorem T3A.mem {us : List V} {xs : List T3} (h : T3A D us xs) {v : V} (hv : v ∈ us) : ∃ b, v = .ref b ∧ Kn D b (.tup [.int (keyT D v).1, .int (keyT D v).2.1, .int (keyT D v).2.2]) := by
  obtain ⟨i, hi⟩ := List.getElem?_of_mem hv
  obtain ⟨b, x, rfl, hx, k⟩ := h.2 i v hi
  exact ⟨b, rfl, by rw [keyT_at k.pf]; exact k⟩
theorem c_sortT3 {a : Addr} {us : List V} {xs : List T3} (S : Sx D L H) (ha : Rds K D L a us) (hr : T3A D us xs) (k : ∀ (ys : List V) (P : List T3) p H', P.Perm xs → P.Pairwise leT → T3A D ys P → Sx D ((p, .lst ys) :: L) H' → Q (.ref p) H') : rSortedT3 K [.ref a] H Q := by
  refine ⟨a, us, keyT D, rfl, ha.sq S, fun v hv => ?_, fun ys p h1 h2 hn => k ys (ys.map (keyT D)) p _ ?_ ?_ ⟨by rw [List.length_map], fun i v hv => ?_⟩ (S.new hn)⟩
  · obtain ⟨b, rfl, kb⟩ := hr.mem hv
    exact ⟨b, rfl, S.dH _ _ kb.pf⟩
  · have := h2.perm.map (keyT D)
    rw [hr.map] at this
    exact this
  · refine List.Pairwise.map _ (fun x y h => ?_) h1
    have := lexT_no.mp h
    show (keyT D x).1 < (keyT D y).1 ∨ ((keyT D x).1 = (keyT D y).1 ∧ ((keyT D x).2.1 < (keyT D y).2.1 ∨ ((keyT D x).2.1 = (keyT D y).2.1 ∧ (keyT D x).2.2 ≤ (keyT D y).2.2)))
    omega
  · obtain ⟨b, e, kb⟩ := hr.mem (h2.perm.mem_iff.mp (List.mem_of_getElem? hv))
    exact ⟨b, keyT D v, e, by rw [List.getElem?_map, hv]; rfl, kb⟩
end
end Fk

namespace Fk
open PySem PySem.Spec PyProof.Rows L2
/-! ## all(t), t a tuple of truths -/
section
variable {X : Cx}
def rAllT (K : PySem.W.Frag) : List V → Hp → VK → Prop := fun vs H Q => ∃ (a : Addr) (bs : List Bool), vs = [V.ref a] ∧ SqT K H a (bs.map V.bl) ∧ Q (.bl (bs.all id)) H
theorem cr_allT (hc : X.calm = true) : CallR X (.builtin "all") (rAllT X.K) := by
  intro pins s σ H vs us Q I r h
  obtain ⟨a, bs, rfl, hs, q⟩ := h
  obtain ⟨its, rv, hl, _⟩ := I.tuple hs
  rw [Vals.ref1 r]
  obtain ⟨as, hr⟩ := Dp.readsAll I (bs.map PyData.bool) _ its (dpa_bls bs) rv
  refine PySem.W.all_tuple_data (I.ok.hd hc) (vs := its.toArray) hl (show ReadsAll s.heap its.toArray.toList _ as from hr) (plain_bls bs) (fun x hx => ?_) fun h' tk hk => ?_
  · obtain ⟨b, _, rfl⟩ := List.mem_map.mp hx
    simp [PyData.fits63]
  · have e : (bs.map PyData.bool).all PyData.truthy = bs.all id := by
      rw [List.all_map]
      rfl
    rw [e]
    exact ⟨.bl (bs.all id), H, I.kept (t' := tk) hk, rfl, q⟩
def rAllX (K : PySem.W.Frag) : List V → Hp → VK → Prop := fun xs H Q => rAll K xs H Q ∨ rAllT K xs H Q
theorem cr_allX (hc : X.calm = true) : CallR X (.builtin "all") (rAllX X.K) := CallR.or (cr_all hc) (cr_allT hc)
end
section
variable {σ : L2.St} {D H : Hp} {L : Own} {K : PySem.W.Frag} {Q : VK}
instance (priority := 2000) v_allXT {a : Addr} {bs : List Bool} {xs : List V} [S : Sx D L H] [ha : Kn D a (.tup xs)] [c : BsC xs bs] : VC (rAllX K [.ref a] H Q) (Q (.bl (bs.all id)) H) := ⟨fun h => .inr ⟨a, bs, rfl, by rw [← c.pf]; exact sqT S ha.pf, h⟩⟩
instance (priority := 2100) v_allXR {a : Addr} {n : Nat} [S : Sx D L H] [ha : Kn D a (.tup (List.replicate n (V.bl true)))] : VC (rAllX K [.ref a] H Q) (Q (.bl true) H) := ⟨fun h => .inr ⟨a, List.replicate n true, rfl, by rw [List.map_replicate]; exact sqT S ha.pf, by
  have e : (List.replicate n true).all id = true := List.all_eq_true.mpr fun x hx => (List.eq_of_mem_replicate hx)
  rw [e]; exact h⟩⟩
instance (priority := 100) v_allXx {xs : List V} : VC (rAllX K xs H Q) (rAll K xs H Q) := ⟨fun h => .inl h⟩
end
end Fk

namespace Fk
open PySem PySem.Spec PyProof.Rows L2
/-! ## many things frozen at once -/
def tFz : Nat → TS → TS
  | 0, t => t
  | n + 1, t => fun E σ H => ∃ d u, H d = some u ∧ Mut (some u) ∧ ∀ od, tFz n t E σ (upd H d (.frz od u))
def tFzS (t : TS) : TS := fun E σ H => ∃ n, tFz n t E σ H
theorem ps_frzS {X : Cx} {st : Stmt} {t : TS} (h : PS X st t) : PS X st (tFzS t) := by
  refine ⟨fun pins s σ H E I hw => ?_⟩
  obtain ⟨n, hw⟩ := hw
  have key : ∀ n H, Inv X pins σ H s → tFz n t E σ H → _ := fun n => by
    induction n with
    | zero => exact fun H I hw => h.run pins s σ H E I hw
    | succ n ih =>
      intro H I hw
      obtain ⟨d, u, hd, mu, hw⟩ := hw
      obtain ⟨od, I1⟩ := I.lock hd mu
      exact ih _ I1 (hw od)
  exact key n H I hw
theorem frzS_go {t : TS} {E : Ends} {σ : L2.St} {L : Own} : ∀ (ds : List (Addr × HO)) {D H : Hp}, (∀ x, x ∈ ds → Mut (some x.2)) → Sx D (ds ++ L) H →
    (∀ D' H', Sx D' L H' → Sm D D' → (∀ x, x ∈ ds → Kf D' x.1 x.2) → t E σ H') → tFzS t E σ H
  | [], D, H, _, S, k => ⟨0, k D H S Sm.rfl' fun _ h => nomatch h⟩
  | x :: ds, D, H, hm, S, k => by
    obtain ⟨a, u⟩ := x
    have S1 : Sx D ((a, u) :: (ds ++ L)) H := S
    have hH : H a = some u := (S1.ow (a, u) List.mem_cons_self).1
    have hD : D a = none := (S1.ow (a, u) List.mem_cons_self).2
    have hnd : a ∉ (ds ++ L).map (·.1) := by have := S1.nd; rw [List.map_cons] at this; exact (List.nodup_cons.mp this).1
    have S2 : ∀ od, Sx (upd D a (.frz od u)) (ds ++ L) (upd H a (.frz od u)) := fun od => by
      refine ⟨fun b o hb => ?_, fun q hq => ?_, ?_⟩
      · by_cases c : b = a
        · rw [c, upd_same] at hb ⊢
          exact hb
        · rw [upd_ne c] at hb ⊢
          exact S1.dH b o hb
      · obtain ⟨q1, q2⟩ := S1.ow q (List.mem_cons_of_mem _ hq)
        have c : q.1 ≠ a := fun z => hnd (z ▸ List.mem_map.mpr ⟨q, hq, rfl⟩)
        rw [upd_ne c, upd_ne c]
        exact ⟨q1, q2⟩
      · have := S1.nd
        rw [List.map_cons] at this
        exact (List.nodup_cons.mp this).2
    have key : ∀ od, tFzS t E σ (upd H a (.frz od u)) := fun od => frzS_go ds (fun y hy => hm y (List.mem_cons_of_mem _ hy)) (S2 od) fun D' H' S' e' hk => k D' H' S' ⟨fun b o hb => by
      have c : b ≠ a := fun z => by rw [z, hD] at hb; exact nomatch hb
      exact e'.e b o (by rw [upd_ne c]; exact hb)⟩ fun y hy => by
        rcases List.mem_cons.mp hy with rfl | hy
        · exact ⟨od, e'.e _ _ upd_same⟩
        · exact hk y hy
    -- the same number of steps whatever the object
    have len : ∀ (ds : List (Addr × HO)) {D H : Hp}, (∀ x, x ∈ ds → Mut (some x.2)) → Sx D (ds ++ L) H → (∀ D' H', Sx D' L H' → Sm D D' → (∀ x, x ∈ ds → Kf D' x.1 x.2) → t E σ H') → tFz ds.length t E σ H := by
      intro ds
      induction ds with
      | nil => exact fun _ S k => k _ _ S Sm.rfl' fun _ h => nomatch h
      | cons x ds ih =>
        intro D H hm S k
        obtain ⟨a, u⟩ := x
        have S1 : Sx D ((a, u) :: (ds ++ L)) H := S
        have hH : H a = some u := (S1.ow (a, u) List.mem_cons_self).1
        have hD : D a = none := (S1.ow (a, u) List.mem_cons_self).2
        have hnd : a ∉ (ds ++ L).map (·.1) := by have := S1.nd; rw [List.map_cons] at this; exact (List.nodup_cons.mp this).1
        refine ⟨a, u, hH, hm (a, u) List.mem_cons_self, fun od => ih (fun y hy => hm y (List.mem_cons_of_mem _ hy)) (D := upd D a (.frz od u)) ⟨fun b o hb => ?_, fun q hq => ?_, ?_⟩ fun D' H' S' e' hk => k D' H' S' ⟨fun b o hb => ?_⟩ fun y hy => ?_⟩
        · by_cases c : b = a
          · rw [c, upd_same] at hb ⊢
            exact hb
          · rw [upd_ne c] at hb ⊢
            exact S1.dH b o hb
        · obtain ⟨q1, q2⟩ := S1.ow q (List.mem_cons_of_mem _ hq)
          have c : q.1 ≠ a := fun z => hnd (z ▸ List.mem_map.mpr ⟨q, hq, rfl⟩)
          rw [upd_ne c, upd_ne c]
          exact ⟨q1, q2⟩
        · have := S1.nd
          rw [List.map_cons] at this
          exact (List.nodup_cons.mp this).2
        · have c : b ≠ a := fun z => by rw [z, hD] at hb; exact nomatch hb
          exact e'.e b o (by rw [upd_ne c]; exact hb)
        · rcases List.mem_cons.mp hy with rfl | hy
          · exact ⟨od, e'.e _ _ upd_same⟩
          · exact hk y hy
    exact ⟨_, len ((a, u) :: ds) hm S k⟩
end Fk

namespace Fk
open PySem PySem.Spec PyProof.Rows L2 PySem.Calls PyProof.V
/-! ## sum(d.values()), keys and values numbers -/
def valsO (p d : Addr) : HO := .ext fun h => h.IsValuesView p d
theorem valsO_ok {P : Program} {w : World} {H : Hp} {h : Heap} {p d : Addr} (e : h.get? p = some { cls := .type "dict_values", data := .fields #[.ref d] }) : ObjOk P w H h p (valsO p d) :=
  ⟨⟨_, e, rfl, rfl⟩, ⟨_, e⟩, fun h1 h2 x k => let ⟨o, ho, r⟩ := x; ⟨o, k o ho, r⟩⟩
def rValsK : V → List V → Hp → VK → Prop := fun x xs H Q => ∃ (a : Addr) (kvs : List (Key × V)), x = .ref a ∧ xs = [] ∧ Rd H a (.dK kvs) ∧ ∀ p, H p = none → Q (.ref p) (upd H p (valsO p a))
theorem mt_valsK {X : Cx} : MtR X "dict.values" rValsK := by
  intro pins s σ H x xs v us Q I rx rxs h
  obtain ⟨a, kvs, rfl, rfl, ha, q⟩ := h
  cases rx
  cases rxs
  obtain ⟨z, lo, vs, rel, dd⟩ := dk_rd I.hok ha
  have hf : H s.heap.objs.size = none := I.hok.fresh (Nat.le_refl _)
  refine call_meetsIn PySem.F.slot_dict_values dd.typeIs PySem.F.entry_dict_values (PySem.F.args_dict_values_1 _) (PySem.meets_dict_values_raw a lo) ⟨let ⟨es, ep, h, _⟩ := dd.raw; ⟨es, ep, h⟩, ?_⟩
  exact ⟨.ref s.heap.objs.size, _, I.laid (t' := s.toks) (fun b u e => Heap.get?_push_of_some _ e) (Nat.le_refl _) (valsO_ok (Heap.get?_push_size _ rfl)), rfl, q _ hf⟩
def tyKF : V → Hp → Prop := fun x H => ∃ (a : Addr) (kvs : List (Key × V)), x = .ref a ∧ Rd H a (.dK kvs)
theorem ty_dKF {X : Cx} : TyOk X "dict" tyKF := by
  intro pins σ H s x v I r ty
  obtain ⟨a, kvs, rfl, e⟩ := ty
  cases r
  obtain ⟨h1, h2, _⟩ := isD_at I (.inl ⟨kvs, e⟩)
  exact ⟨h1, h2⟩
theorem pre_sum (f : Nat → Int) : ∀ (kvs : List (Int × Int)) (k : Nat), (∀ i e, kvs[i]? = some e → f (k + i) = e.2) → preSum (fun i => f (k + i)) kvs.length = (kvs.map (·.2)).sum
  | [], _, _ => rfl
  | e :: kvs, k, h => by
    have ih := pre_sum f kvs (k + 1) fun i x hx => by rw [show k + 1 + i = k + (i + 1) by omega]; exact h (i + 1) x (by simpa using hx)
    rw [List.length_cons, PySem.W.kdu_shift, List.map_cons, List.sum_cons, ← ih, h 0 e rfl]
    congr 1
    congr 1
    funext i
    congr 1
    omega
def rSumV : List V → Hp → VK → Prop := fun vs H Q => ∃ (p a : Addr) (kvs : List (Int × Int)), vs = [.ref p] ∧ H p = some (valsO p a) ∧ Rd H a (.dK (kvs.map entI)) ∧ Q (.int (kvs.map (·.2)).sum) H
theorem cr_sumV {X : Cx} (hc : X.calm = true) : CallR X (.builtin "sum") rSumV := by
  intro pins s σ H xs us Q I r h
  obtain ⟨p, a, kvs, rfl, hp, ha, q⟩ := h
  obtain rfl := Vals.ref1 r
  have view : s.heap.IsValuesView p a := (show ObjOk X.prog X.w H s.heap p (valsO p a) from I.hok p _ hp).1
  obtain ⟨z, lo, vs, rel, dd⟩ := dk_rd I.hok ha
  obtain ⟨ep, hat⟩ := dd.dictAt
  have hlen : kvs.length = vs.length := by have := Paired.length rel; rw [List.length_map] at this; exact this
  have Ks := PySem.W.kdl_values (prog := X.prog) (w := X.w) (knd := mixKind X.prog X.w) (r := p) (d := a) (kvs := vs) (ep := ep)
  obtain ⟨f, hf⟩ : ∃ f : Nat → Int, f = fun i => (kvs.getD i (0, 0)).2 := ⟨_, rfl⟩
  refine call_sum_walkAnyS ?_
  obtain ⟨oI, St, hit, W, st⟩ := Ks.iter X.A.in1 s (I.ok.hd hc) ⟨view, hat⟩
  refine hit _ _ ⟨s.heap.objs.size, _, _, _, vs.length, _, _, f, rfl, W.toS, st, fun b hb => ?_, fun i v hv => ?_, fun s' t' hm => ?_⟩
  · show b < (s.heap.push oI).objs.size
    rw [size_push']
    rcases List.mem_cons.mp hb with e | hb
    · rw [e]; exact Nat.lt_succ_self _
    · rw [List.mem_singleton.mp hb]; exact Nat.lt_succ_of_lt (Ks.there _ ⟨view, hat⟩).2
  · obtain ⟨k, hk⟩ := hv
    obtain ⟨e0, he0, r1, r2⟩ := DX.pget rel hk
    rw [List.getElem?_map] at he0
    cases g : kvs[i]? with
    | none => rw [g] at he0; exact nomatch he0
    | some e =>
      rw [g] at he0
      have ee : entI e = e0 := Option.some.inj he0
      rw [← ee] at r2
      obtain ⟨t, ht⟩ := (show ∃ t, v = Value.int e.2 t from r2)
      exact ⟨t, by rw [hf]; show v = Value.int (kvs.getD i (0, 0)).2 t; rw [List.getD_eq_getElem?_getD, g]; exact ht⟩
  · have hk : ∀ b o, s.heap.get? b = some o → s'.heap.get? b = some o := fun b o e =>
      hm.heap b o (fun hI => absurd (Heap.lt_size e) (by rw [List.mem_singleton.mp hI]; exact Nat.lt_irrefl _)) (Heap.get?_push_of_some _ e)
    rw [Moved.eq_with hm]
    have es : preSum f vs.length = (kvs.map (·.2)).sum := by
      rw [← hlen]
      have := pre_sum f kvs 0 fun i e he => by rw [hf, Nat.zero_add]; show (kvs.getD i (0, 0)).2 = e.2; rw [List.getD_eq_getElem?_getD, he]; rfl
      simp only [Nat.zero_add] at this
      exact this
    exact ⟨.int (kvs.map (·.2)).sum, H, I.kept (t' := s'.toks) hk, ⟨t', by rw [es]⟩, q⟩
section
variable {σ : L2.St} {D H : Hp} {L : Own} {K : PySem.W.Frag} {Q : VK}
instance v_valsF {a : Addr} {kvs : List (Key × V)} [S : Sx D L H] [h : Kf D a (.dK kvs)] : VC (rValsK (.ref a) [] H Q) (∀ p D' H', Sx D' L H' → Sm D D' → Kn D' p (valsO p a) → Q (.ref p) H') :=
  ⟨fun k => ⟨a, kvs, rfl, rfl, rdF S h, fun p hp => k p _ _ (S.fix hp) ⟨same_upd (S.dH.free hp)⟩ ⟨upd_same⟩⟩⟩
instance v_mG0 {to : TE} {ty : V → Hp → Prop} {r : V → List V → Hp → VK → Prop} : VC (tMG0 ty r to σ H Q) (to σ H fun x H1 => ty x H1 ∧ r x [] H1 Q) := ⟨fun h => h⟩
instance v_tyKF {a : Addr} {kvs : List (Key × V)} {p : Prop} [S : Sx D L H] [h : Kf D a (.dK kvs)] : VC (tyKF (.ref a) H ∧ p) p := ⟨fun k => ⟨⟨a, kvs, rfl, rdF S h⟩, k⟩⟩
instance v_sumV {p a : Addr} {kvs : List (Int × Int)} [S : Sx D L H] [hp : Kn D p (valsO p a)] [h : Kf D a (.dK (kvs.map entI))] : VC (rSumV [.ref p] H Q) (Q (.int (kvs.map (·.2)).sum) H) := ⟨fun k => ⟨p, a, kvs, rfl, S.dH _ _ hp.pf, rdF S h, k⟩⟩
theorem c_sumV {p a : Addr} {kvs : List (Int × Int)} (S : Sx D L H) (hp : Kn D p (valsO p a)) (h : Kf D a (.dK (kvs.map entI))) (k : Q (.int (kvs.map (·.2)).sum) H) : rSumV [.ref p] H Q := ⟨p, a, kvs, rfl, S.dH _ _ hp.pf, rdF S h, k⟩
end
end Fk

namespace Fk
open PySem PySem.Spec PyProof.Rows L2 ClX
/-! ## B.__init__(self, ..), B an exception class of the program's own that has no __init__ -/
theorem pe_ceinit {X : Cx} {o e : Expr} {es : List Expr} {ta : TA} {B : Addr} {mc : Value} {pos p2 : Pos} {pl : Sem Bool} (ho : PE X o (tC (.ref B))) (r : CRead X.K B mc)
    (vV : PySem.W.findCls X.K (.ref B) mc "__init__" = some (.val (.builtin "ValueError.__init__"))) (ha : PA X (e :: es) ta)
    (hc : eval (.Call (.Attribute o "__init__" p2) (e :: es) [] pos) X.env = (do
      let ov ← eval o X.env
      standAt p2.atName
      let (f, first) ← holding [ov] (getMethod ov "__init__" pl)
      callWith pos f first (backTo pos (starEach (e :: es) X.env)) (backToKw pos (keywordEach [] X.env))) := by rfl)
    (he : starEach (e :: es) X.env = (false, eval e X.env) :: starEach es X.env := by rfl) (hpl : (backTo pos (starEach es X.env)).any (·.1) = false := by rfl) :
    PE X (.Call (.Attribute o "__init__" p2) (e :: es) [] pos) (tVeI X.K ta) := by
  refine ⟨fun pins s σ H Q I h => ?_⟩
  have h0 : tC (.ref B) σ H (fun x H1 => x = .ref B ∧ tVeI X.K ta σ H1 Q) := ⟨rfl, h⟩
  refine PySem.W.methodCall_KW (pl := pl) (thn (ho.run pins s σ H _ I h0) fun u s1 ⟨x, H1, I1, rx, ex, q⟩ => ?_) hc
  subst ex
  obtain rfl : u = Value.ref B := rx
  refine PySem.W.method_cls I1.kIn r.ga (PySem.W.cls_value I1.kIn r.rd vV rfl ?_)
  show wpAny _ _ (callWith pos (Value.builtin "ValueError.__init__") [] (backTo pos (starEach (e :: es) X.env)) []) _ _ _
  refine PyProof.Rows.callWith_method1 (thn (ha.run pos pins _ σ H1 _ (I1.tok _) q) fun us s1 ⟨vs, H2, I2, r1, a, C, ws, ev, hl, T, ea, q⟩ => ?_) he hpl
  subst ev
  cases r1 with
  | @cons _ u0 _ ur ra rw' =>
    obtain rfl : u0 = Value.ref a := ra
    have hlen : ur.length ≤ sizeLine := by
      rw [← Paired.length rw', sizeLine_eq]
      omega
    exact oinit_ok T I2 ea hlen fun s' J => ⟨.non, H2, J, rfl, q⟩
end Fk

namespace Fk
open PySem PySem.Spec PyProof.Rows L2
/-! ## dict(xs), xs a list of pairs (tuple, value) -/
def mergeT (kvs more : List (List Key × V)) : List (List Key × V) := more.foldl (fun acc kv => putK acc kv.1 kv.2) kvs
def rDictPT (K : PySem.W.Frag) : List V → Hp → VK → Prop := fun xs H Q => ∃ (a : Addr) (ps : List Addr) (kvs : List (List Key × V)), xs = [.ref a] ∧ SqL K H a (ps.map V.ref) ∧
  Paired (fun p kv => ∃ b, SqT K H p [.ref b, kv.2] ∧ H b = some (.tup (kv.1.map kV))) ps kvs ∧ ∀ p, H p = none → Q (.ref p) (upd H p (.dT (mergeT [] kvs)))
theorem kt_mergeT {H : Hp} {more : List (List Key × V)} {rs : List (List Key × Addr × Value)} (r : KT H more rs) : ∀ {kvs : List (List Key × V)} {xs : List (List Key × Addr × Value)}, KT H kvs xs → KT H (mergeT kvs more) (storedAllH xs rs) := by
  induction r with
  | nil => exact fun h => h
  | @cons p q ps qs hq t ih =>
    intro kvs xs h
    obtain ⟨e1, e2, e3⟩ := hq
    show KT H (mergeT (putK kvs p.1 p.2) ps) (storedAllH (storedH xs q.1 q.2.1 q.2.2) qs)
    refine ih ?_
    rw [← e1]
    exact KT.put h p.1 e2 e3
theorem mergeT_len (more : List (List Key × V)) : ∀ kvs, (mergeT kvs more).length ≤ kvs.length + more.length := by
  induction more with
  | nil => exact fun kvs => Nat.le_refl _
  | cons p ps ih =>
    intro kvs
    have h1 := ih (putK kvs p.1 p.2)
    have h2 : (putK kvs p.1 p.2).length ≤ kvs.length + 1 := by
      unfold putK
      split
      · rw [List.length_map]; omega
      · rw [List.length_append]; exact Nat.le_refl _
    show (mergeT (putK kvs p.1 p.2) ps).length ≤ _
    rw [List.length_cons]
    omega
theorem pairsT_of {X : Cx} {pins : List (Addr × Obj)} {σ : L2.St} {H : Hp} {s : Shared} (I : L2.Inv X pins σ H s) : ∀ {ps : List Addr} {kvs : List (List Key × V)}, Paired (fun p kv => ∃ b, SqT X.K H p [.ref b, kv.2] ∧ H b = some (.tup (kv.1.map kV))) ps kvs →
    ∃ prs : List (List Key × Addr × Value), KT H kvs prs ∧ prs.length = ps.length ∧ ∀ (j : Nat) (q : List Key × Addr × Value), prs[j]? = some q → ∃ b : Addr, ps[j]? = some b ∧ IsTup s.heap b #[.ref q.2.1, q.2.2]
  | _, _, .nil => ⟨[], .nil, rfl, fun j q e => by simp at e⟩
  | _, _, .cons (a := p) (b := kv) h t => by
    obtain ⟨b, h, hb⟩ := h
    obtain ⟨prs, r, hl, hp⟩ := pairsT_of I t
    obtain ⟨its, rv, ht, _⟩ := I.tuple h
    obtain ⟨u, y, ei, ru, ry⟩ := vals2 rv
    subst ei
    obtain rfl : u = .ref b := ru
    refine ⟨(kv.1, b, y) :: prs, .cons ⟨rfl, hb, ry⟩ r, by simp [hl], fun j q e => ?_⟩
    cases j with
    | zero =>
      cases e
      exact ⟨p, rfl, ht⟩
    | succ j => exact hp j q e
theorem call_dictPT {X : Cx} (hcalm : X.calm = true) (hu : X.A.units + 64 < cLine) : CallR X (.type "dict") (rDictPT X.K) := by
  intro pins s σ H xs us Q I r q
  obtain ⟨a, ps, kvs, ex, hq, hp, q⟩ := q
  subst ex
  obtain ⟨u, eu, rx⟩ := vals1 r
  subst eu
  cases rx
  obtain ⟨its, rv, pl, hz⟩ := I.list hq
  have ei := refs_at rv
  subst ei
  rw [List.length_map] at hz
  obtain ⟨prs, rel, hl, hpr⟩ := pairsT_of I hp
  have hks : ∀ {kv : List (List Key × V)} {l : List (List Key × Addr × Value)}, KT H kv l → ∀ x, x ∈ l → (tupleKind (mixKind X.prog X.w)).is s.heap x.1 x.2.1 := by
    intro kv l r
    induction r with
    | nil => intro x hx; exact nomatch hx
    | @cons p q ps qs hq t ih =>
      intro x hx
      rcases List.mem_cons.mp hx with e | hx
      · subst e
        exact key_of I.hok (by rw [← hq.1]; exact hq.2.1)
      · exact ih x hx
  have hm : (s.heap.objs.size == sysModules) = false := beq_eq_false_iff_ne.mpr (Nat.ne_of_gt I.big)
  have hlen : (mergeT [] kvs).length ≤ sizeLine := by
    refine Nat.le_trans (mergeT_len kvs []) ?_
    rw [List.length_nil, Nat.zero_add, rel.length, hl]
    exact hz
  have hkt : KT H (mergeT [] kvs) (storedAllH [] prs) := kt_mergeT rel .nil
  refine PySem.call_dict_pairsH (K := List Key) (knd := tupleKind (mixKind X.prog X.w)) (ps := prs) (PairArg.list a (ps.map Value.ref).toArray (fun j => ps.getD j 0) (prs.map fun q => (Value.ref q.2.1, q.2.2))) (I.ok.hd hcalm) ?_ ⟨pl, ?_, fun j k v e => ?_⟩ ⟨by simp, fun i key v e => ?_⟩ (fun h' hk x hx => ?_) ?_ fun h' tk hd' k => ?_
  · exact tupleKind_room_in1 (A := X.A.in1) (by first | (show X.A.units + 1 + 1 < cLine; omega) | (show X.A.units + 1 < cLine; omega))
  · simp [hl]
  · rw [List.getElem?_map] at e
    cases e1 : prs[j]? with
    | none => rw [e1] at e; exact nomatch e
    | some q0 =>
      rw [e1] at e
      cases e
      obtain ⟨b, h1, h2⟩ := hpr j q0 e1
      refine ⟨by simp [List.getD_eq_getElem?_getD, h1], ?_⟩
      show PairAt s.heap (ps.getD j 0) _ _
      rw [List.getD_eq_getElem?_getD, h1]
      exact .inl h2
  · have e : (prs.map fun q => (Value.ref q.2.1, q.2.2))[i]? = some (key, v) := e
    rw [List.getElem?_map] at e
    cases e1 : prs[i]? with
    | none => rw [e1] at e; exact nomatch e
    | some q0 =>
      rw [e1] at e
      cases e
      exact ⟨q0.1, q0.2.1, rfl, rfl⟩
  · exact tupleKind_stays.stays (fun b o _ _ eb _ => hk b o (Nat.ne_of_lt (Heap.lt_size eb)) (fun z => nomatch z) eb) (hks rel x hx)
  · rw [List.length_map, hl]
    exact hz
  · have kk : ∀ b o, s.heap.get? b = some o → h'.get? b = some o := fun b o e => k b o (fun z => nomatch z) e
    obtain ⟨o, es, ep, h1, h2, h3, h4, _, h5⟩ := hd'
    refine ⟨.ref s.heap.objs.size, upd H s.heap.objs.size (.dT (mergeT [] kvs)), I.laid (t' := tk) kk (Nat.le_refl _) (show ObjOk X.prog X.w _ _ _ (.dT (mergeT [] kvs)) from ⟨hlen, hm, storedAllH [] prs, ?_, o, es, ep, h1, h2, h3, h4, h5⟩), rfl, q _ (I.hok.fresh (Nat.le_refl _))⟩
    exact KT.keeps hkt fun b ys hb => (upd_ne (fun z => by rw [z, I.hok.fresh (Nat.le_refl _)] at hb; exact nomatch hb)).trans hb
section
variable {K : PySem.W.Frag} {D H : Hp} {L : Own} {Q : VK}
theorem c_dictPT {a : Addr} {ps : List Addr} {kvs : List (List Key × V)} (S : Sx D L H) (ha : Rds K D L a (ps.map V.ref)) (hp : Paired (fun p kv => ∃ b, Kn D p (.tup [.ref b, kv.2]) ∧ Kn D b (.tup (kv.1.map kV))) ps kvs)
    (k : ∀ p H', Sx D ((p, .dT (mergeT [] kvs)) :: L) H' → Q (.ref p) H') : rDictPT K [.ref a] H Q := by
  refine ⟨a, ps, kvs, rfl, ha.sq S, ?_, fun p hp => k p _ (S.new hp)⟩
  clear ha k
  induction hp with
  | nil => exact .nil
  | cons h t ih =>
    obtain ⟨b, h1, h2⟩ := h
    exact .cons ⟨b, sqT S h1.pf, S.dH _ _ h2.pf⟩ ih
/-- keys that are all different: in their order -/
theorem mergeT_new : ∀ (more kvs : List (List Key × V)), (more.map (·.1)).Nodup → (∀ m, m ∈ more → ∀ k, k ∈ kvs → k.1 ≠ m.1) → mergeT kvs more = kvs ++ more
  | [], kvs, _, _ => (List.append_nil kvs).symm
  | m :: more, kvs, hn, hd => by
    have e1 : putK kvs m.1 m.2 = kvs ++ [m] := by
      unfold putK
      rw [if_neg]
      rw [List.any_eq_true]
      rintro ⟨k, hk, e⟩
      exact hd m List.mem_cons_self k hk (of_decide_eq_true e)
    rw [List.map_cons, List.nodup_cons] at hn
    show mergeT (putK kvs m.1 m.2) more = _
    rw [e1, mergeT_new more (kvs ++ [m]) hn.2 (fun m' hm' k hk => ?_), List.append_assoc, List.singleton_append]
    rcases List.mem_append.mp hk with hk | hk
    · exact hd m' (List.mem_cons_of_mem _ hm') k hk
    · rw [List.mem_singleton.mp hk]
      exact fun e => hn.1 (by rw [e]; exact List.mem_map_of_mem hm')
end
end Fk

namespace Fk
open PySem PySem.Spec PyProof.Rows L2
/-! ## t.count(x), t a tuple whose object is known -/
def rCntT (K : PySem.W.Frag) : V → List V → Hp → VK → Prop := fun x xs H Q => ∃ (a : Addr) (ys : List V) (y : V), x = V.ref a ∧ xs = [y] ∧ SqT K H a ys ∧ flatV y = true ∧ ys.all flatV = true ∧ Q (.int (ys.countP fun z => eqV z y : Nat)) H
theorem mt_cntT {X : Cx} : MtR X "tuple.count" (rCntT X.K) := by
  intro pins s σ H x xs v us Q I rx rxs h
  obtain ⟨a, ys, y, rfl, rfl, hs, fy, fys, q⟩ := h
  cases rx
  cases rxs with
  | cons ry rt =>
    rename_i uy ut
    cases rt
    obtain ⟨its, rv, ⟨⟨cls, dd, data, sl⟩, ho, hc, n, hd⟩, hlen⟩ := I.tuple hs
    simp only at hc hd
    subst hc hd
    refine call_meets PySem.F.slot_tuple_count ⟨_, ho, rfl⟩ PySem.F.entry_tuple_count (PySem.F.args_tuple_count_2 _ _) (SeqAt.tuple_countAt a its.toArray n dd sl uy (eqU y)) ⟨ho, fun u' hu' => mem_eqAt ry fy rv fys u' (by simpa using hu'), ?_⟩
    refine ⟨.int (ys.countP fun z => eqV z y : Nat), H, I.tok _, ⟨s.toks, ?_⟩, q⟩
    rw [show its.toArray.toList = its from rfl, countP_eqU rv fys]
section
variable {σ : L2.St} {D D' H : Hp} {L : Own} {K : PySem.W.Frag} {Q : VK}
instance v_cntZ {a : Addr} {bs : List V} {b : Bool} {n : Nat} [S : Sx D L H] [ha : Kz D a bs] [c : CntC bs (.bl b) n] : VC (rCntT K (.ref a) [.bl b] H Q) (Q (.int (n : Nat)) H) := ⟨fun h => ⟨a, bs, .bl b, rfl, rfl, sqZ S ha, rfl, c.fl, by rw [c.pf]; exact h⟩⟩
instance v_zipLLZ {a b : Addr} {xs ys : List V} {R : It → Hp → Prop} [S : Sx D L H] [ha : Sl K D L a xs] [hb : Kz D b ys] : VC (IsZL K [.ref a, .ref b] H R) (R (Itzl K a b) H) := ⟨fun h => ⟨a, b, xs, ys, rfl, ha.pf.sq S, sqZ S hb, h⟩⟩
theorem cntB (b : Bool) : ∀ bs : List Bool, ((bs.map V.bl).countP fun z => eqV z (.bl b)) = bs.count b ∧ (bs.map V.bl).all flatV = true
  | [] => ⟨rfl, rfl⟩
  | x :: bs => by
    obtain ⟨h1, h2⟩ := cntB b bs
    refine ⟨?_, by rw [List.map_cons, List.all_cons, h2]; rfl⟩
    rw [List.map_cons, List.countP_cons, h1, List.count_cons]
    cases x <;> cases b <;> rfl
instance (priority := low) cntMap {b : Bool} {bs : List Bool} : CntC (bs.map V.bl) (.bl b) (bs.count b) := ⟨(cntB b bs).1, (cntB b bs).2⟩
end
/-! ## tuples of truths, their objects known -/
def TbZ (D : Hp) (us : List V) (bss : List (List Bool)) : Prop := us.length = bss.length ∧ ∀ (i : Nat) (u : V) (bs : List Bool), us[i]? = some u → bss[i]? = some bs → ∃ b, u = .ref b ∧ Kz D b (bs.map V.bl)
theorem TbZ.up {D D' : Hp} {us : List V} {bss : List (List Bool)} (h : TbZ D us bss) (s : Sm D D') : TbZ D' us bss := ⟨h.1, fun i u bs h1 h2 => let ⟨b, e, k⟩ := h.2 i u bs h1 h2; ⟨b, e, inferInstance⟩⟩
theorem TbZ.nil {D : Hp} : TbZ D [] [] := ⟨rfl, fun i u bs h _ => by simp at h⟩
theorem TbZ.put {D : Hp} {us : List V} {bss : List (List Bool)} (h : TbZ D us bss) {b : Addr} {bs : List Bool} (k : Kz D b (bs.map V.bl)) : TbZ D (us ++ [.ref b]) (bss ++ [bs]) := by
  refine ⟨by rw [List.length_append, List.length_append, h.1]; rfl, fun i u cs h1 h2 => ?_⟩
  rcases Nat.lt_or_ge i us.length with c | c
  · rw [List.getElem?_append_left c] at h1
    rw [List.getElem?_append_left (by rw [← h.1]; exact c)] at h2
    exact h.2 i u cs h1 h2
  · rw [List.getElem?_append_right c] at h1
    rw [List.getElem?_append_right (by rw [← h.1]; exact c), ← h.1] at h2
    cases e : i - us.length with
    | zero =>
      rw [e] at h1 h2
      cases h1
      cases h2
      exact ⟨b, rfl, k⟩
    | succ j =>
      rw [e] at h1
      simp at h1
theorem TbZ.get {D : Hp} {us : List V} {bss : List (List Bool)} (h : TbZ D us bss) {i : Nat} {u : V} (hu : us[i]? = some u) : ∃ b bs, u = .ref b ∧ bss[i]? = some bs ∧ Kz D b (bs.map V.bl) := by
  have hi : i < bss.length := by rw [← h.1]; exact (List.getElem?_eq_some_iff.mp hu).1
  obtain ⟨b, e, k⟩ := h.2 i u bss[i] hu (List.getElem?_eq_getElem hi)
  exact ⟨b, bss[i], e, List.getElem?_eq_getElem hi, k⟩
end Fk

namespace Fk
open PySem PySem.Spec PyProof.Rows L2
/-! ## dict(t), t a tuple of pairs whose object is known -/
def rDictZ (K : PySem.W.Frag) : List V → Hp → VK → Prop := fun xs H Q => ∃ (a : Addr) (o : Obj) (ps : List Addr) (kvs : List (Key × V)), xs = [.ref a] ∧ H a = some (.frz o (.tup (ps.map V.ref))) ∧ o.cls = .type "tuple" ∧ o.dict = none ∧
  Paired (fun p kv => SqT K H p [kV kv.1, kv.2]) ps kvs ∧ ∀ p, H p = none → Q (.ref p) (upd H p (.dK (mergeK [] kvs)))
theorem pairsK_of {X : Cx} {pins : List (Addr × Obj)} {σ : L2.St} {H : Hp} {s : Shared} (I : L2.Inv X pins σ H s) : ∀ {ps : List Addr} {kvs : List (Key × V)}, Paired (fun p kv => SqT X.K H p [kV kv.1, kv.2]) ps kvs →
    ∃ prs : List (Key × Value × Value), KV kvs (prs.map fun q => (q.1, q.2.2)) ∧ prs.length = ps.length ∧ ∀ (j : Nat) (q : Key × Value × Value), prs[j]? = some q → ∃ b : Addr, ps[j]? = some b ∧ IsTup s.heap b #[q.2.1, q.2.2] ∧ keyIs q.1 q.2.1 = true
  | _, _, .nil => ⟨[], .nil, rfl, fun j q e => by simp at e⟩
  | _, _, .cons (a := p) (b := kv) h t => by
    obtain ⟨prs, r, hl, hp⟩ := pairsK_of I t
    obtain ⟨its, rv, ht, _⟩ := I.tuple h
    obtain ⟨u, y, ei, ru, ry⟩ := vals2 rv
    subst ei
    refine ⟨(kv.1, u, y) :: prs, .cons ⟨rfl, ry⟩ r, by rw [List.length_cons, List.length_cons, hl], fun j q e => ?_⟩
    cases j with
    | zero =>
      cases e
      exact ⟨p, rfl, ht, kV_is (P := X.prog) (w := X.w) ru⟩
    | succ j => exact hp j q e
theorem call_dictZ {X : Cx} (hcalm : X.calm = true) : CallR X (.type "dict") (rDictZ X.K) := by
  intro pins s σ H xs us Q I r q
  obtain ⟨a, o, ps, kvs, ex, hq, hc, hd, hp, q⟩ := q
  subst ex
  obtain ⟨u, eu, rx⟩ := vals1 r
  subst eu
  cases rx
  obtain ⟨its, rv, pl, hz⟩ := I.tuple (X := X) (.inl (.inr ⟨o, hq⟩))
  obtain ⟨ho, _⟩ := (show ObjOk X.prog X.w H s.heap a (.frz o (.tup (ps.map V.ref))) from I.hok a _ hq)
  obtain ⟨o', ho', hc', n, hdat⟩ := pl
  have eo : o' = o := Option.some.inj (ho'.symm.trans ho)
  subst eo
  have ei := refs_at rv
  subst ei
  rw [List.length_map] at hz
  obtain ⟨prs, rel, hl, hpr⟩ := pairsK_of I hp
  refine PySem.call_dict_pairs (K := Key) (knd := mixKind X.prog X.w) (kvs := prs.map fun q => (q.1, q.2.2)) (PairArg.tuple a (ps.map Value.ref).toArray (fun j => ps.getD j 0) (prs.map fun q => (q.2.1, q.2.2))) (I.ok.hd hcalm) ⟨⟨o', n, ho, hc, hd, hdat⟩, ?_, fun j k v e => ?_⟩ ⟨by simp, fun i key v e => ?_⟩ ?_ fun h' tk hd' k => ?_
  · simp [hl]
  · rw [List.getElem?_map] at e
    cases e1 : prs[j]? with
    | none => rw [e1] at e; exact nomatch e
    | some q0 =>
      rw [e1] at e
      cases e
      obtain ⟨b, h1, h2, h3⟩ := hpr j q0 e1
      refine ⟨by simp [List.getD_eq_getElem?_getD, h1], ?_⟩
      show PairAt s.heap (ps.getD j 0) _ _
      rw [List.getD_eq_getElem?_getD, h1]
      exact .inl h2
  · have e : (prs.map fun q => (q.2.1, q.2.2))[i]? = some (key, v) := e
    rw [List.getElem?_map] at e
    cases e1 : prs[i]? with
    | none => rw [e1] at e; exact nomatch e
    | some q0 =>
      rw [e1] at e
      cases e
      obtain ⟨b, h1, h2, h3⟩ := hpr i q0 e1
      exact ⟨q0.1, by rw [List.getElem?_map, e1]; rfl, h3⟩
  · rw [List.length_map, hl]
    exact hz
  · have hm : (s.heap.objs.size == sysModules) = false := beq_eq_false_iff_ne.mpr (Nat.ne_of_gt I.big)
    have hlen : (mergeK [] kvs).length ≤ sizeLine := by
      refine Nat.le_trans (length_mergeK kvs []) ?_
      rw [List.length_nil, Nat.zero_add, rel.length, List.length_map, hl]
      exact hz
    exact ⟨.ref s.heap.objs.size, upd H s.heap.objs.size (.dK (mergeK [] kvs)), I.laid (t' := tk) (fun b o e => k b o (fun z => nomatch z) e) (Nat.le_refl _) (show ObjOk X.prog X.w _ _ _ (.dK (mergeK [] kvs)) from ⟨hlen, hm, merged [] (prs.map fun q => (q.1, q.2.2)), KV.merge rel .nil, hd'⟩), rfl, q _ (I.hok.fresh (Nat.le_refl _))⟩
section
variable {K : PySem.W.Frag} {D H : Hp} {L : Own} {Q : VK}
/-- pairs of numbers, as a tuple's things -/
theorem c_dictZ {a : Addr} {us : List V} {es : List (Int × Int)} (S : Sx D L H) (ha : Kz D a us) (hr : RpAll D us (es.map pI)) (k : ∀ p H', Sx D ((p, .dK (mergeK [] (es.map fun e => ((Sum.inl e.1 : Key), V.int e.2)))) :: L) H' → Q (.ref p) H') : rDictZ K [.ref a] H Q := by
  obtain ⟨o, e, hc, hd⟩ := ha.pf
  obtain ⟨ps, hps, hp⟩ : ∃ ps : List Addr, us = ps.map V.ref ∧ Paired (fun p kv => SqT K H p [kV kv.1, kv.2]) ps (es.map fun e => ((Sum.inl e.1 : Key), V.int e.2)) := by
    clear ha e k
    induction es generalizing us with
    | nil => cases hr; exact ⟨[], rfl, .nil⟩
    | cons x es ih =>
      cases hr with
      | cons h t =>
        obtain ⟨ps, e1, e2⟩ := ih t
        obtain ⟨b, e3, e4⟩ := Rp.inv_tupI (ns := [x.1, x.2]) h
        subst e1 e3
        exact ⟨b :: ps, rfl, .cons (sqT S e4) e2⟩
  subst hps
  exact ⟨a, o, ps, _, rfl, S.dH _ _ e, hc, hd, hp, fun p hp => k p _ (S.new hp)⟩
end
end Fk

namespace Fk
open PySem PySem.Spec PyProof.Rows L2
/-! ## errors of a class with an __init__ of its own, that keep one field -/
class RzO (K : PySem.W.Frag) (C : Addr) (f : outParam Str) : Prop where
  T : OexC K C
  no : PySem.W.findIn K (.ref C) f = some none
/-- what the __init__ does: the field is set -/
def spI (K : PySem.W.Frag) (f : Str) : Sp := fun vs H Q _ => ∃ (a C : Addr) (v : V), vs = [.ref a, v] ∧ RzO K C f ∧ H a = some (exo a C none) ∧
  ∀ dx, H dx = none → dx ≠ a → Q .non (upd (upd H dx (exd dx [(f, v)])) a (exo a C (some dx)))
structure RzI (P : Program) (w : World) (K : PySem.W.Frag) (mg : Str → Option Value) (base : Heap) (C : Addr) (f : Str) (k : Nat) : Prop where
  o : RzO K C f
  ex : ∃ (fI : Addr) (fd : FuncData) (ps : List Str), PySem.W.findIn K (.ref C) "__init__" = some (some (.ref fI)) ∧ PySem.W.typeIn K (.ref fI) = some (.type "function") ∧ FnOk P w K mg base CX0 k fI fd ps (spI K f) ∧ Binds K fd ps []
def tRzI (K : PySem.W.Frag) (W : WX) (C : Addr) (f : Str) (te : TE) : TS := fun _ σ H => tMkO C (spI K f) [] (tCons te tNil) σ H (fun cls d H' => W cls d σ H')
theorem ps_rzI (K : PySem.W.Frag) {X : Cx} {W : WX} {C : Addr} {x f : Str} {k j : Nat} {p pos pos2 : Pos} {e : Expr} {te : TE} (kc : ClC X.K X.mg x C) (R : RzI X.prog X.w X.K X.mg X.base C f k) (hr : Room j X.A) (hk : k + 1 ≤ j) (hg : Gl X x) (tk : Takes X W) (ha : PA X [e] (tCons te tNil)) (eK : X.K = K := by rfl)
    (hc : X.calm = true := by rfl) (hdb : (x == ("__debug__" : Str)) = false := by decide) (hs : starEach [e] X.env = (false, eval e X.env) :: starEach [] X.env := by rfl) :
    PS X (.Raise (some (.Call (.Name x p) [e] [] pos)) none pos2) (tRzI K W C f te) := by
  subst eK
  obtain ⟨fI, fd, ps, iC, tI, F1, hb⟩ := R.ex
  exact ps_raise hc tk (pmk_oex R.o.T iC tI F1 (hr.mono hk) hb .nil pass0 hg kc.g ha hdb hs rfl)
def RzA (K : PySem.W.Frag) (W : WX) (C : Addr) (f : Str) (σ : L2.St) (x : V) (H1 : Hp) : Prop := [x].length ≤ 1000 ∧ ∀ a, H1 a = none → spI K f (.ref a :: ([x] ++ [])) (upd H1 a (exo a C none))
  (fun v H2 => v = .non ∧ ∃ (d : Addr) (fs : List (Str × V)), H2 a = some (exo a C (some d)) ∧ H2 d = some (exd d fs) ∧ H1 d = none ∧ W (.ref C) (some d) σ (upd (del H2 a) d (.xd fs))) (fun _ _ _ => False)
section
variable {σ : L2.St} {D H : Hp} {L : Own} {K : PySem.W.Frag} {Q : VK}
def VeA (K : PySem.W.Frag) (vs : List V) (H1 : Hp) (Q : VK) : Prop := ∃ (a C : Addr) (ws : List V), vs = .ref a :: ws ∧ ws.length ≤ 1000 ∧ OexC K C ∧ H1 a = some (exo a C none) ∧ Q .non H1
instance v_veI {ta : TA} : VC (tVeI K ta σ H Q) (ta σ H fun vs H1 => VeA K vs H1 Q) := ⟨fun h => h⟩
instance v_rzI {W : WX} {C : Addr} {f : Str} {te : TE} {Es : Ends} : VC (tRzI K W C f te Es σ H) (te σ H fun x H1 => RzA K W C f σ x H1) := ⟨fun h => h⟩
instance v_rzA {W : WX} {C : Addr} {f : Str} {x : V} [S : Sx D L H] [r : RzO K C f] : VC (RzA K W C f σ x H) (∀ d D' H', Sx D' L H' → Sm D D' → Kn D' d (.xd [(f, x)]) → W (.ref C) (some d) σ H') := ⟨fun h => by
  refine ⟨by show 1 ≤ 1000; decide, fun a ha => ⟨a, C, x, rfl, r, upd_same, fun dx hdx hne => ⟨rfl, dx, [(f, x)], upd_same, ?_, ?_, ?_⟩⟩⟩
  · rw [upd_ne hne, upd_same]
  · rw [upd_ne hne] at hdx
    exact hdx
  · rw [upd_ne hne] at hdx
    have e : upd (del (upd (upd (upd H a (exo a C none)) dx (exd dx [(f, x)])) a (exo a C (some dx))) a) dx (.xd [(f, x)]) = upd H dx (.xd [(f, x)]) := by
      funext b
      by_cases hb : b = dx
      · rw [hb, upd_same, upd_same]
      · rw [upd_ne hb, upd_ne hb]
        by_cases hba : b = a
        · rw [hba, del_same, ha]
        · rw [del_ne hba, upd_ne hba, upd_ne hb, upd_ne hba]
    rw [e]
    exact h dx _ _ (S.fix hdx) ⟨same_upd (S.dH.free hdx)⟩ ⟨upd_same⟩⟩
end
/-- the shape of such a class -/
def oexB (C : Addr) : Obj → Bool
  | ⟨.type "type", _, .cls cd, sl⟩ => (match cd.mro, sl.toList with
    | .ref C' :: bm, [_, _, _, _, some (.builtin n), _] => C' == C && n == "ValueError.__new__" && !cd.hasDel && cd.hasDict && PySem.HandSPX.refsVE bm
    | _, _ => false)
  | _ => false
theorem oexB_ok {K : PySem.W.Frag} {C : Addr} {o : Obj} (l : K.lookup C = some o) (h : oexB C o = true) : ∃ nm q N bs bm sn sub ab col dd k0 k1 k2 k3 k5, K.lookup C = some (excClassObj nm q C N bs bm true sn sub ab col dd k0 k1 k2 k3 k5 "ValueError.__new__") ∧ PySem.HandSPX.refsVE bm = true := by
  unfold oexB at h
  split at h
  · rename_i dd cd sl
    split at h
    · rename_i C' bm k0 k1 k2 k3 n k5 hm hs
      simp only [Bool.and_eq_true, beq_iff_eq, Bool.not_eq_true'] at h
      obtain ⟨⟨⟨⟨rfl, rfl⟩, hdel⟩, hd1⟩, hr⟩ := h
      obtain ⟨nm, bs, mro, ns, qn, hd, sn, sub, ab, col, del⟩ := cd
      dsimp only at hm hdel hd1
      subst hm hdel hd1
      have hsl : sl = #[k0, k1, k2, k3, some (.builtin "ValueError.__new__"), k5] := by
        obtain ⟨l⟩ := sl
        simp only at hs
        rw [hs]
      subst hsl
      exact ⟨nm, qn, ns, bs, bm, sn, sub, ab, col, dd, k0, k1, k2, k3, k5, l, hr⟩
    · cases h
  · cases h
/-! ## e.f of the caught error; isinstance(e, ..) -/
theorem XfC.of {K : PySem.W.Frag} {C : Addr} (h : ExC K C) : XfC K C := ⟨h.pf.hg, h.pf.hk, h.pf.hs, h.pf.hd⟩
def XfA (a dd : Addr) (f : Str) (x : V) (H1 : Hp) (Q : VK) : Prop := x = .ref a ∧ ∃ (fs : List (Str × V)) (v : V), H1 dd = some (.xd fs) ∧ fs.lookup f = some v ∧ Q v H1
def rIsEI (K : PySem.W.Frag) (a : Addr) (cls : Value) (d : Option Addr) : List V → Hp → VK → Prop := fun xs H Q => ∃ (D dd : Addr) (fs : List (Str × V)), cls = .ref D ∧ d = some dd ∧ H dd = some (.xd fs) ∧ ExcC K D ∧
  ((∃ (c : V) (cv : Value) (b : Bool), xs = [.ref a, c] ∧ ClsV c cv ∧ PySem.W.kitOne K (.ref D) cv = some b ∧ Q (.bl b) H) ∨
   ∃ (tp : Addr) (cs : List V) (us : List Value) (b : Bool), xs = [.ref a, .ref tp] ∧ H tp = some (.tup cs) ∧ Paired ClsV cs us ∧ PySem.W.kitAny K (.ref D) us = some b ∧ Q (.bl b) H)
theorem call_isEI {X : Cx} {a : Addr} {oe : Obj} {cls : Value} {d : Option Addr} {pn : List (Addr × Obj)} (hz : Zc cls d oe) (hf : ∃ vs, oe.data = .fields vs) : CallR (X.suite a ((a, oe) :: pn)) (.builtin "isinstance") (rIsEI X.K a cls d) := by
  intro pins s σ H xs us Q I r h
  obtain ⟨D, dd, fs, rfl, rfl, hx, C, h⟩ := h
  obtain ⟨hget, _⟩ := I.pin (a, oe) (List.mem_append.mpr (.inl List.mem_cons_self))
  obtain ⟨vs, hv⟩ := hf
  obtain ⟨_, ⟨od, _, _, hod, _⟩, _⟩ := (show ObjOk X.prog X.w H s.heap dd (.xd fs) from I.hok dd _ hx)
  have J : PySem.W.InstAt s.heap a oe D (some od) := by
    obtain ⟨oc, odd, oda, osl⟩ := oe
    obtain ⟨h1, h2⟩ := hz
    dsimp only at h1 h2 hv
    subst h1 h2 hv
    exact ⟨hget, rfl, rfl, hod⟩
  have hcl : (PySem.W.clsIn X.K D).isSome = true := by
    have h := C.hd
    unfold PySem.W.hasDictIn at h
    cases e : PySem.W.clsIn X.K D with
    | none => rw [e] at h; cases h
    | some c => rfl
  have Z := PySem.W.kitx_exc (x := a) (ox := oe) (od := some od) hcl C.hg C.hk C.hs C.ha C.hn C.ht C.hm
  rcases h with ⟨c, cv, b, rfl, hcv, e, q⟩ | ⟨tp, cs, ws, b, rfl, hT, kp, e, q⟩
  · obtain ⟨u1, u2, rfl, r1, r2⟩ := vals2 r
    cases (show u1 = Value.ref a from r1)
    have ec := hcv.eq r2
    subst ec
    exact PySem.W.kia_one Z I.kIn J e (fun z => nomatch z) fun tk => ⟨.bl b, H, I.kept (t' := tk) fun _ _ z => z, rfl, q⟩
  · obtain ⟨u1, u2, rfl, r1, r2⟩ := vals2 r
    cases (show u1 = Value.ref a from r1)
    cases (show u2 = Value.ref tp from r2)
    obtain ⟨_, its, rv, o, h1, h2, n, h3⟩ := (show ObjOk X.prog X.w H s.heap tp (.tup cs) from I.hok tp _ hT)
    have e3 := ClsV.all kp rv
    subst e3
    obtain ⟨oc, od2, dt, sl⟩ := o
    simp only at h2 h3
    subst h2 h3
    exact PySem.W.kia_tup Z I.kIn J h1 e (fun z => nomatch z) fun tk => ⟨.bl b, H, I.kept (t' := tk) fun _ _ z => z, rfl, q⟩
section
variable {σ : L2.St} {D0 H : Hp} {L : Own} {K : PySem.W.Frag} {Q : VK}
instance v_xf {a C dd : Addr} {n : Str} {i : Nat} [h : Nth σ i (.ref a)] : VC (tXf a (.ref C) (some dd) C n (tVar i) σ H Q) (XfA a dd n (.ref a) H Q) := ⟨fun ⟨_, fs, v, h1, h2, h3⟩ => ⟨.ref a, h.pf, rfl, rfl, dd, fs, v, rfl, h1, h2, h3⟩⟩
instance v_xfA {a dd : Addr} {n : Str} {v : V} [S : Sx D0 L H] [k : Kn D0 dd (.xd [(n, v)])] : VC (XfA a dd n (.ref a) H Q) (Q v H) := ⟨fun h => ⟨rfl, [(n, v)], v, S.dH _ _ k.pf, by simp [List.lookup], h⟩⟩
instance v_isi1 {a D dd : Addr} {fs : List (Str × V)} {c : V} {b : Bool} [S : Sx D0 L H] [k0 : Kn D0 dd (.xd fs)] [x : ExC K D] [k : KtO K D c b] : VC (rIsEI K a (.ref D) (some dd) [.ref a, c] H Q) (Q (.bl b) H) := ⟨fun q => by
  obtain ⟨cv, h1, h2⟩ := k.pf
  exact ⟨D, dd, fs, rfl, rfl, S.dH _ _ k0.pf, x.pf, .inl ⟨c, cv, b, rfl, h1, h2, q⟩⟩⟩
instance v_isiT {a D tp dd : Addr} {fs : List (Str × V)} {cs : List V} {b : Bool} [S : Sx D0 L H] [k0 : Kn D0 dd (.xd fs)] [kt : Kn D0 tp (.tup cs)] [x : ExC K D] [k : KtA K D cs b] : VC (rIsEI K a (.ref D) (some dd) [.ref a, .ref tp] H Q) (Q (.bl b) H) := ⟨fun q => by
  obtain ⟨us, h1, h2⟩ := k.pf
  exact ⟨D, dd, fs, rfl, rfl, S.dH _ _ k0.pf, x.pf, .inr ⟨tp, cs, us, b, rfl, S.dH _ _ kt.pf, h1, h2, q⟩⟩⟩
end
end Fk

namespace Fk
open PySem PySem.Spec PyProof.Rows L2
/-! ## t < u of two tuples of ints -/
def rLtT (K : PySem.W.Frag) : R2 := fun x y H Q => ∃ (a b : Addr) (ns ms : List Int), x = .ref a ∧ y = .ref b ∧ SqT K H a (ns.map V.int) ∧ SqT K H b (ms.map V.int) ∧
  Q (.bl (Ob.lexAt (fun j => decide (ns.getD j 0 = ms.getD j 0)) (fun j => decide (ns.getD j 0 < ms.getD j 0)) (decide (ns.length < ms.length)) 0 (min ns.length ms.length))) H
theorem op_ltT {X : Cx} (hu : X.A.units + 64 < cLine) : OpR X (compareOp .Lt) (rLtT X.K) := by
  intro pins s σ H x y v u Q I rx ry h
  obtain ⟨a, b, ns, ms, rfl, rfl, ha, hb, q⟩ := h
  cases rx
  cases ry
  obtain ⟨its, r1, p1, _⟩ := I.tuple ha
  obtain ⟨its2, r2, p2, _⟩ := I.tuple hb
  have i1 : IntsAre its ns := Vals.ints r1
  have i2 : IntsAre its2 ms := Vals.ints r2
  have sz1 : its.toArray.size = ns.length := by rw [List.size_toArray]; exact i1.length
  have sz2 : its2.toArray.size = ms.length := by rw [List.size_toArray]; exact i2.length
  have g1 : ∀ j, j < its.toArray.size → ∃ t, its[j]? = some (.int (ns.getD j 0) t) := fun j hj => by
    have hj2 : j < its.length := by rwa [List.size_toArray] at hj
    obtain ⟨t, e⟩ := PyProof.Rows.IntsAre.int_at i1 j _ (List.getElem?_eq_getElem hj2)
    exact ⟨t, by rw [List.getElem?_eq_getElem hj2, e]⟩
  have g2 : ∀ j, j < its2.toArray.size → ∃ t, its2[j]? = some (.int (ms.getD j 0) t) := fun j hj => by
    have hj2 : j < its2.length := by rwa [List.size_toArray] at hj
    obtain ⟨t, e⟩ := PyProof.Rows.IntsAre.int_at i2 j _ (List.getElem?_eq_getElem hj2)
    exact ⟨t, by rw [List.getElem?_eq_getElem hj2, e]⟩
  have val1 : ∀ j (h1 : j < its.toArray.size), ∃ t, its.toArray[j] = .int (ns.getD j 0) t := fun j h1 => by
    obtain ⟨t, e⟩ := g1 j h1
    obtain ⟨_, e2⟩ := List.getElem?_eq_some_iff.mp e
    exact ⟨t, by simpa using e2⟩
  have val2 : ∀ j (h1 : j < its2.toArray.size), ∃ t, its2.toArray[j] = .int (ms.getD j 0) t := fun j h1 => by
    obtain ⟨t, e⟩ := g2 j h1
    obtain ⟨_, e2⟩ := List.getElem?_eq_some_iff.mp e
    exact ⟨t, by simpa using e2⟩
  have key := Ob.RcOp.tuples_lt (A := X.A) (s := s) (e := fun j => decide (ns.getD j 0 = ms.getD j 0)) (r := fun j => decide (ns.getD j 0 < ms.getD j 0)) p1 p2 (by omega)
    (fun j h1 h2 => by
      obtain ⟨t, et⟩ := val1 j h1
      obtain ⟨t', et'⟩ := val2 j h2
      rw [et, et']
      have z : (ns.getD j 0 == ms.getD j 0) = decide (ns.getD j 0 = ms.getD j 0) := by
        by_cases c : ns.getD j 0 = ms.getD j 0
        · rw [decide_eq_true c]; exact beq_iff_eq.mpr c
        · rw [decide_eq_false c]; exact beq_eq_false_iff_ne.mpr c
      rw [← z]
      exact SeqAt.EqAt.int_int _ _ _ _)
    (fun j h1 h2 _ => by
      obtain ⟨t, et⟩ := val1 j h1
      obtain ⟨t', et'⟩ := val2 j h2
      rw [et, et']
      exact Ob.RcOp.lt_int _ _ _ _)
  rw [sz1, sz2] at key
  exact key X.prog X.w X.xe (EP X pins σ Q) ⟨.bl _, H, I, rfl, q⟩
def lsQ (p q : Int × Int) : Bool := decide (p.1 < q.1 ∨ (p.1 = q.1 ∧ p.2 < q.2))
theorem lsQ_lex (a b c d : Int) : Ob.lexAt (fun j => decide (([a, b] : List Int).getD j 0 = ([c, d] : List Int).getD j 0)) (fun j => decide (([a, b] : List Int).getD j 0 < ([c, d] : List Int).getD j 0)) (decide (2 < 2)) 0 2 = lsQ (a, b) (c, d) := by
  show (if decide (a = c) = true then (if decide (b = d) = true then false else decide (b < d)) else decide (a < c)) = decide (a < c ∨ (a = c ∧ b < d))
  by_cases h1 : a = c
  · subst h1
    by_cases h2 : b = d
    · subst h2; simp
    · simp [h2]
  · simp [h1]
def rLtX (K : PySem.W.Frag) : R2 := fun x y H Q => rI0 (fun i j => .bl (decide (i < j))) x y H Q ∨ rLtT K x y H Q
theorem opLtX {X : Cx} (hu : X.A.units + 64 < cLine) : OpR X (compareOp .Lt) (rLtX X.K) := OpR.or op_lt (op_ltT hu)
/-! ## x not in xs -/
def rNotInX (K : PySem.W.Frag) : R2 := rIn K true
theorem opNotInX {X : Cx} : OpR X (compareOp .NotIn) (rNotInX X.K) := op_notIn_seq
section
variable {D H : Hp} {L : Own} {K : PySem.W.Frag} {Q : VK}
instance v_ninL {a : Addr} {us : List V} {xs : List Int} {x : Int} [S : Sx D L H] [ha : Sl K D L a us] [c : IsC us xs] : VC (rNotInX K (.int x) (.ref a) H Q) (Q (.bl (!decide (x ∈ xs))) H) :=
  ⟨fun k => ⟨a, us, rfl, .inl (ha.pf.sq S), rfl, by rw [c.pf]; exact flat_ints, by rw [if_pos rfl, c.pf, inV_int]; exact k⟩⟩
instance v_ninT {a : Addr} {us : List V} {xs : List Int} {x : Int} [S : Sx D L H] [ha : Kn D a (.tup us)] [c : IsC us xs] : VC (rNotInX K (.int x) (.ref a) H Q) (Q (.bl (!decide (x ∈ xs))) H) :=
  ⟨fun k => ⟨a, us, rfl, .inr (sqT S ha.pf), rfl, by rw [c.pf]; exact flat_ints, by rw [if_pos rfl, c.pf, inV_int]; exact k⟩⟩
instance v_ltXI {i j : Int} : VC (rLtX K (.int i) (.int j) H Q) (Q (.bl (decide (i < j))) H) := ⟨fun h => .inl ⟨i, j, rfl, rfl, h⟩⟩
instance v_ltXT {a b : Addr} {x y z u : Int} [S : Sx D L H] [ha : Kn D a (.tup [.int x, .int y])] [hb : Kn D b (.tup [.int z, .int u])] : VC (rLtX K (.ref a) (.ref b) H Q) (Q (.bl (lsQ (x, y) (z, u))) H) :=
  ⟨fun h => .inr ⟨a, b, [x, y], [z, u], rfl, rfl, sqT S ha.pf, sqT S hb.pf, by
    show Q (.bl (Ob.lexAt (fun j => decide (([x, y] : List Int).getD j 0 = ([z, u] : List Int).getD j 0)) (fun j => decide (([x, y] : List Int).getD j 0 < ([z, u] : List Int).getD j 0)) (decide (2 < 2)) 0 2)) H
    rw [lsQ_lex]
    exact h⟩⟩
end
end Fk

namespace Fk
open PySem PySem.Spec PyProof.Rows L2
/-! ## texts -/
section
variable {X : Cx}
def rJoin (K : PySem.W.Frag) : V → List V → Hp → VK → Prop := fun x xs H Q => ∃ a p, ∃ ys : List Str, x = .str a ∧ xs = [.ref p] ∧ (SqL K H p (ys.map V.str) ∨ SqT K H p (ys.map V.str)) ∧
    (ys.map (·.length)).sum + ys.length * a.length ≤ 16777216 ∧ Q (.str (Txt.join a ys)) H
theorem pe_joinN (K : PySem.W.Frag) {o e : Expr} {to te : TE} {apos pos : Pos} (ho : PE X o to) (he : PE X e te) (hK : X.K = K := by rfl) (hs : starEach [e] X.env = [(false, eval e X.env)] := by rfl) (hbase : attributeBase o "join" X.env (eval o X.env) = eval o X.env := by rfl) (hline : (apos.endLine == pos.line) = true := by rfl) :
    PE X (.Call (.Attribute o "join" apos) [e] [] pos) (tM1 (rJoin K) to te) := by
  subst hK
  exact pe_m1 PySem.F.slot_str_join PySem.F.type_str_join mt_join ho he hs hbase hline
def rSplit : V → List V → Hp → VK → Prop := fun x xs H Q => ∃ a b, x = .str a ∧ xs = [.str b] ∧ (b.length == 0) = false ∧ a.length + 2 ≤ sizeLine ∧ rNewStrs (Txt.split a b) H Q
theorem pe_splitN {o e : Expr} {to te : TE} {apos pos : Pos} (ho : PE X o to) (he : PE X e te) (hs : starEach [e] X.env = [(false, eval e X.env)] := by rfl) (hbase : attributeBase o "split" X.env (eval o X.env) = eval o X.env := by rfl) (hline : (apos.endLine == pos.line) = true := by rfl) :
    PE X (.Call (.Attribute o "split" apos) [e] [] pos) (tM1 rSplit to te) := pe_m1 PySem.F.slot_str_split PySem.F.type_str_split mt_split ho he hs hbase hline
def rAddS : R2 := fun x y H Q => ∃ i j, x = .str i ∧ y = .str j ∧ i.length + j.length ≤ sizeLine ∧ Q (.str (i ++ j)) H
theorem opAddS : OpR X (binaryOp .Add) rAddS := op_add_str
def rStrI : List V → Hp → VK → Prop := fun xs H Q => ∃ i, xs = [.int i] ∧ i.natAbs.log2 < 1920 ∧ Q (.str (toString i)) H
theorem call_strI : CallR X (.type "str") rStrI := call_str_int
def rIntT : List V → Hp → VK → Prop := fun xs H Q => ∃ a n, xs = [.str a] ∧ PySem.intText? a = some n ∧ a.length ≤ 640 ∧ Q (.int n) H
theorem call_intT : CallR X (.type "int") rIntT := call_int_str
def rInSg : R2 := fun x y H Q => ∃ (c : Nat) (z : Str), x = .str ⟨#[c]⟩ ∧ y = .str z ∧ Q (.bl (decide (c ∈ z.cps.toList))) H
theorem opInSg : OpR X (compareOp .In) rInSg := op_in_sign
end
theorem eqvS : ∀ (xs ys : List Str), PyData.eqvAll (xs.map PyData.str) (ys.map PyData.str) = decide (xs = ys)
  | [], [] => by simp [PyData.eqvAll]
  | [], y :: ys => by simp [PyData.eqvAll]
  | x :: xs, [] => by simp [PyData.eqvAll]
  | x :: xs, y :: ys => by
    simp only [List.map_cons, PyData.eqvAll, PyData.eqv, eqvS xs ys]
    by_cases h : x = y
    · subst h; simp
    · simp [h]
theorem eqv_lstS (xs ys : List Str) : PyData.eqv (.list (xs.map PyData.str)) (.list (ys.map PyData.str)) = decide (xs = ys) := by simp only [PyData.eqv, eqvS]
def Sk (x : Str) : Prop := PyData.strOk x = true
theorem Sh.str (n : Nat) {x : Str} (h : Sk x) : Sh n (.str x) := ⟨by unfold Sk at h; simp [PyData.canLay0, h], by simp [PyData.depth]⟩
theorem sh_lstS {xs : List Str} (h : ∀ x, x ∈ xs → Sk x) : SeqAt.shaped (.list (xs.map PyData.str)) = true := (Sh.list (n := 0) fun d hd => by
  obtain ⟨x, hx, rfl⟩ := List.mem_map.mp hd
  exact Sh.str 0 (h x hx)).ok
theorem sk_of (s : String) : Sk (Str.ofString s) := by
  rw [PySem.Str.ofString_eq_toList]
  unfold Sk PyData.strOk
  rw [Array.all_eq_true']
  intro c hc
  have hc2 : c ∈ s.toList.map Char.toNat := by simpa using hc
  obtain ⟨d, _, rfl⟩ := List.mem_map.mp hc2
  refine decide_eq_true ?_
  have := d.valid
  unfold UInt32.isValidChar Nat.isValidChar at this
  show d.val.toNat < _
  omega
theorem sk_app {x y : Str} (hx : Sk x) (hy : Sk y) : Sk (x ++ y) := by
  unfold Sk PyData.strOk at *
  rw [Str.cps_append, Array.all_append, hx, hy]
  rfl
theorem sk_join {a : Str} (ha : Sk a) : ∀ {ys : List Str}, (∀ y, y ∈ ys → Sk y) → Sk (Txt.join a ys) := by
  have key : ∀ (ys : List Str), (∀ y, y ∈ ys → Sk y) → Sk (Str.join a ys) := by
    intro ys
    induction ys with
    | nil => exact fun _ => (by unfold Sk PyData.strOk Str.empty; simp : Sk Str.empty)
    | cons x r ih =>
      intro h
      cases r with
      | nil => exact h x List.mem_cons_self
      | cons y r => exact sk_app (sk_app (h x List.mem_cons_self) ha) (ih fun z hz => h z (List.mem_cons_of_mem _ hz))
  intro ys h
  rw [TL.join_eq]
  exact key ys h
class StC (xs : List V) (ys : outParam (List Str)) : Prop where
  pf : xs = ys.map V.str
instance stMap {ys : List Str} : StC (ys.map V.str) ys := ⟨rfl⟩
instance stNil : StC [] [] := ⟨rfl⟩
instance stCons {y : Str} {r : List V} {ys : List Str} [h : StC r ys] : StC (.str y :: r) (y :: ys) := ⟨by rw [h.pf]; rfl⟩
instance stApp {r s : List V} {ns ms : List Str} [h : StC r ns] [k : StC s ms] : StC (r ++ s) (ns ++ ms) := ⟨by rw [h.pf, k.pf, List.map_append]⟩
theorem rp_strs {D : Hp} : ∀ ys : List Str, RpAll D (ys.map V.str) (ys.map PyData.str)
  | [] => .nil
  | y :: r => .cons (.str y) (rp_strs r)
section
variable {σ : L2.St} {D H : Hp} {L : Own} {K : PySem.W.Frag} {Q : VK}
instance v_tM1 {r : V → List V → Hp → VK → Prop} {to te : TE} : VC (tM1 r to te σ H Q) (to σ H fun x H1 => (∃ a, x = .str a) ∧ te σ H1 fun y H2 => r x [y] H2 Q) := ⟨fun h => h⟩
instance v_exS {a : Str} {p : Prop} : VC ((∃ b, V.str a = .str b) ∧ p) p := ⟨fun h => ⟨⟨a, rfl⟩, h⟩⟩
instance v_joinL {a : Str} {p : Addr} {us : List V} {ys : List Str} [S : Sx D L H] [ha : Sl K D L p us] [c : StC us ys] : VC (rJoin K (.str a) [.ref p] H Q) ((ys.map (·.length)).sum + ys.length * a.length ≤ 16777216 ∧ Q (.str (Txt.join a ys)) H) :=
  ⟨fun h => ⟨a, p, ys, rfl, rfl, .inl (by rw [← c.pf]; exact ha.pf.sq S), h.1, h.2⟩⟩
instance v_split {a b : Str} [S : Sx D L H] : VC (rSplit (.str a) [.str b] H Q) ((b.length == 0) = false ∧ a.length + 2 ≤ 16777216 ∧ ∀ p H', Sx D ((p, .lst ((Txt.split a b).map V.str)) :: L) H' → Q (.ref p) H') :=
  ⟨fun h => ⟨a, b, rfl, rfl, h.1, h.2.1, fun p hp => h.2.2 p _ (S.new hp)⟩⟩
instance v_addS {i j : Str} : VC (rAddS (.str i) (.str j) H Q) (i.length + j.length ≤ 16777216 ∧ Q (.str (i ++ j)) H) := ⟨fun h => ⟨i, j, rfl, rfl, h.1, h.2⟩⟩
instance v_strI {i : Int} : VC (rStrI [.int i] H Q) (i.natAbs.log2 < 1920 ∧ Q (.str (toString i)) H) := ⟨fun h => ⟨i, rfl, h.1, h.2⟩⟩
instance v_eqS {a b : Str} : VC (rEqX K (.str a) (.str b) H Q) (Q (.bl (decide (a = b))) H) := ⟨fun k => .inl ⟨rfl, by
  have e : decide (V.str a = V.str b) = decide (a = b) := by
    by_cases c : a = b
    · subst c; rw [decide_eq_true rfl, decide_eq_true rfl]
    · rw [decide_eq_false c, decide_eq_false (fun z => c (V.str.inj z))]
  rw [e]; exact k⟩⟩
instance v_neS {a b : Str} : VC (rNeX K (.str a) (.str b) H Q) (Q (.bl (!decide (a = b))) H) := ⟨fun k => .inl ⟨rfl, by
  have e : decide (V.str a = V.str b) = decide (a = b) := by
    by_cases c : a = b
    · subst c; rw [decide_eq_true rfl, decide_eq_true rfl]
    · rw [decide_eq_false c, decide_eq_false (fun z => c (V.str.inj z))]
  rw [e]; exact k⟩⟩
theorem dplS {a : Addr} {us : List V} {xs : List Str} (S : Sx D L H) (ha : Rds K D L a us) (e : us = xs.map V.str) : Dp K H (.ref a) (.list (xs.map PyData.str)) := .lst (ha.sq S) (by rw [e]; exact RpAll.dp (rp_strs xs))
instance v_eqSS {a b : Addr} {us ws : List V} {xs ys : List Str} [S : Sx D L H] [ha : Sl K D L a us] [hb : Sl K D L b ws] [c : StC us xs] [d : StC ws ys] : VC (rEqX K (.ref a) (.ref b) H Q) (((∀ x, x ∈ xs → Sk x) ∧ ∀ y, y ∈ ys → Sk y) ∧ Q (.bl (decide (xs = ys))) H) :=
  ⟨fun k => .inr ⟨_, _, dplS S ha.pf c.pf, dplS S hb.pf d.pf, sh_lstS k.1.1, sh_lstS k.1.2, by rw [eqv_lstS]; exact k.2⟩⟩
instance v_neSS {a b : Addr} {us ws : List V} {xs ys : List Str} [S : Sx D L H] [ha : Sl K D L a us] [hb : Sl K D L b ws] [c : StC us xs] [d : StC ws ys] : VC (rNeX K (.ref a) (.ref b) H Q) (((∀ x, x ∈ xs → Sk x) ∧ ∀ y, y ∈ ys → Sk y) ∧ Q (.bl (!decide (xs = ys))) H) :=
  ⟨fun k => .inr ⟨_, _, dplS S ha.pf c.pf, dplS S hb.pf d.pf, sh_lstS k.1.1, sh_lstS k.1.2, by rw [eqv_lstS]; exact k.2⟩⟩
/-- a sign of a text -/
class AtS (z : Str) (i : Int) (c : outParam Nat) : Prop where
  pf : z.length ≤ sizeLine ∧ atI z.cps.toList i = some c
instance v_ixS {z : Str} {i : Int} {c : Nat} [h : AtS z i c] : VC (rIx K (.str z) (.int i) H Q) (Q (.str ⟨#[c]⟩) H) := ⟨fun k => .inr (.inr ⟨z, i, c, rfl, rfl, h.pf.1, h.pf.2, k⟩)⟩
instance v_inSg {c : Nat} {z : Str} : VC (rInSg (.str ⟨#[c]⟩) (.str z) H Q) (Q (.bl (decide (c ∈ z.cps.toList))) H) := ⟨fun k => ⟨c, z, rfl, rfl, k⟩⟩
end
/-! lengths of texts -/
theorem len_sjoin (a : Str) : ∀ ys : List Str, (Str.join a ys).length ≤ (ys.map (·.length)).sum + ys.length * a.length
  | [] => Nat.zero_le _
  | [x] => by
    show x.length ≤ _
    simp
  | x :: y :: r => by
    have ih := len_sjoin a (y :: r)
    show (x ++ a ++ Str.join a (y :: r)).length ≤ _
    rw [PySem.Str.length_append, PySem.Str.length_append, List.map_cons, List.sum_cons, List.length_cons (as := y :: r), Nat.succ_mul]
    omega
theorem len_join (a : Str) (ys : List Str) : (Txt.join a ys).length ≤ (ys.map (·.length)).sum + ys.length * a.length := by
  rw [TL.join_eq]
  exact len_sjoin a ys
theorem len_str {i : Int} (h : i.natAbs < 10000000000000000000000000000000000000000) : (Str.ofString (toString i)).length ≤ 41 := by
  rw [PySem.ofString_length]
  exact int_text_length_le10 (k := 40) (by decide) (Nat.lt_of_lt_of_le h (by decide))
theorem log_str {i : Int} (h : i.natAbs < 10000000000000000000000000000000000000000) : i.natAbs.log2 < 1920 := by
  rcases Nat.eq_zero_or_pos i.natAbs with e | e
  · rw [e]; decide
  · refine (Nat.log2_lt (by omega)).mpr (Nat.lt_trans h ?_)
    decide +kernel
theorem sum_len {B : Nat} {ys : List Str} (h : ∀ y, y ∈ ys → y.length ≤ B) : (ys.map (·.length)).sum ≤ ys.length * B := PySem.StrLaws.sumLen_le ys h
end Fk

namespace Fk
open PySem PySem.Spec PyProof.Rows L2
/-! ## texts that are read -/
def IsStr (v : V) (H : Hp) (R : It → Hp → Prop) : Prop := ∃ x, v = .str x ∧ R (Its x) H
def oN : Option Int → V
  | none => .non
  | some i => .int i
theorem inV_oN : ∀ {xs : List (Option Int)}, inV .non (xs.map oN) = xs.any (·.isNone)
  | [] => by simp [inV]
  | y :: xs => by
    have ih := inV_oN (xs := xs)
    unfold inV at ih ⊢
    rw [List.map_cons, List.any_cons, List.any_cons, ih]
    cases y <;> rfl
theorem flat_oN {xs : List (Option Int)} : (xs.map oN).all flatV = true := by
  rw [List.all_map]
  exact List.all_eq_true.mpr fun x _ => by cases x <;> rfl
section
variable {σ : L2.St} {D H : Hp} {L : Own} {K : PySem.W.Frag} {Q : VK}
instance v_iStr {te : TE} {R : It → Hp → Prop} : VC (iStr te σ H R) (te σ H fun v H1 => IsStr v H1 R) := ⟨fun h => h⟩
instance v_isStr {z : Str} {R : It → Hp → Prop} : VC (IsStr (.str z) H R) (R (Its z) H) := ⟨fun h => ⟨z, rfl, h⟩⟩
instance v_lenS {z : Str} : VC (rLen K [.str z] H Q) (z.length ≤ 16777216 ∧ Q (.int z.length) H) := ⟨fun h => ⟨.str z, z.length, rfl, ⟨h.1, rfl⟩, h.2⟩⟩
instance v_inNL {a : Addr} {xs : List (Option Int)} [S : Sx D L H] [ha : Sl K D L a (xs.map oN)] : VC (rInX K .non (.ref a) H Q) (Q (.bl (xs.any (·.isNone))) H) :=
  ⟨fun k => ⟨a, xs.map oN, rfl, .inl (ha.pf.sq S), rfl, flat_oN, by rw [if_neg (fun z => nomatch z), inV_oN]; exact k⟩⟩
instance v_inNT {a : Addr} {xs : List (Option Int)} [S : Sx D L H] [ha : Kn D a (.tup (xs.map oN))] : VC (rInX K .non (.ref a) H Q) (Q (.bl (xs.any (·.isNone))) H) :=
  ⟨fun k => ⟨a, xs.map oN, rfl, .inr (sqT S ha.pf), rfl, flat_oN, by rw [if_neg (fun z => nomatch z), inV_oN]; exact k⟩⟩
end
theorem op_inDS {X : Cx} {A : Around} (h : A.units + 80 < cLine) (e : X.A.units = A.units := by rfl) : OpR X (compareOp .In) (rInD X.K) := op_inD (by rw [e]; omega)
/-! words and texts -/
def spT (z : Str) : List Str := Txt.split z (Str.ofString " ")
def clT (z : Str) : List Str := Txt.split z (Str.ofString ":")
theorem sp_join {ws : List Str} (hne : ws ≠ []) (h : ∀ w, w ∈ ws → 32 ∉ TL.tl w) : spT (Txt.join (Str.ofString " ") ws) = ws := TL.split_join (s := 32) (S := []) (by decide +kernel) (by decide +kernel) hne h
theorem cl_join {ws : List Str} (hne : ws ≠ []) (h : ∀ w, w ∈ ws → 58 ∉ TL.tl w) : clT (Txt.join (Str.ofString ":") ws) = ws := TL.split_join (s := 58) (S := []) (by decide +kernel) (by decide +kernel) hne h
def digB (c : Nat) : Bool := decide (c ∈ (Str.ofString "0123456789").cps.toList)
theorem figs_eq : (Str.ofString "0123456789").cps.toList = [48, 49, 50, 51, 52, 53, 54, 55, 56, 57] := by decide +kernel
theorem digB_iff {c : Nat} : digB c = true ↔ 48 ≤ c ∧ c ≤ 57 := by
  unfold digB
  rw [figs_eq, decide_eq_true_iff]
  simp only [List.mem_cons, List.not_mem_nil, or_false]
  omega
theorem all_dig {w : Str} : (TL.tl w).all digB = true ↔ NumText.AllDigits (TL.tl w) := by
  rw [List.all_eq_true]
  exact ⟨fun h c hc => digB_iff.mp (h c hc), fun h c hc => digB_iff.mpr (h c hc)⟩
open Classical in
/-- the number that a word writes -/
noncomputable def numR (w : Str) : Option Int :=
  if (1 ≤ w.length ∧ w.length ≤ 20) ∧ (TL.tl w).all digB = true ∧ ¬ ((TL.tl w).head? = some 48 ∧ w ≠ Str.ofString "0") then some ((NumText.digitsVal (TL.tl w) : Nat) : Int) else none
theorem numL_head : ∀ (n : Nat), 1 ≤ n → (TL.numL n).head? ≠ some 48 := by
  intro n
  induction n using Nat.strongRecOn with
  | _ n ih =>
    intro h1
    by_cases h : n < 10
    · rw [TL.numL_lt h]
      simp only [List.head?_cons]
      intro e
      have := Option.some.inj e
      omega
    · rw [TL.numL_step (by omega)]
      have h2 := ih (n / 10) (by omega) (by omega)
      have h3 := TL.numL_ne (n / 10)
      cases e : TL.numL (n / 10) with
      | nil => exact absurd e h3
      | cons c r =>
        rw [e] at h2
        exact h2
end Fk

namespace Fk
open PySem PySem.Spec PyProof.Rows L2
/-! ## sets of ints: set(t), sorted(set) -/
def SetIO (w : World) (a : Addr) (S : Int → Bool) (n : Nat) : HO := .ext fun h => SetR w h a S n
theorem setIO_new {P : Program} {w : World} {H : Hp} {h : Heap} {a : Addr} {S : Int → Bool} {n : Nat} (R : SetR w h a S n) : ObjOk P w H h a (SetIO w a S n) := by
  have R2 := R
  obtain ⟨o, es, ep, t, ho, r⟩ := R2
  exact ⟨R, ⟨o, ho⟩, fun h1 h2 p k => p.at k⟩
def rSetI (K : PySem.W.Frag) (w : World) : List V → Hp → VK → Prop := fun xs H Q => ∃ (l : Addr) (ns : List Int), xs = [.ref l] ∧ SqT K H l (ns.map V.int) ∧ ns.length ≤ 63 ∧
  ∀ a c, H a = none → c ≤ ns.length → Q (.ref a) (upd H a (SetIO w a (fun j => decide (j ∈ ns)) c))
theorem cr_setI {X : Cx} (hc : X.calm = true) : CallR X (.type "set") (rSetI X.K X.w) := by
  intro pins s σ H xs us Q I r h
  obtain ⟨l, ns, rfl, hl, hf, q⟩ := h
  rw [Vals.ref1 r]
  obtain ⟨its, rv, pt, hz⟩ := I.tuple hl
  have hi : IntsAre its.toArray.toList ns := ints_of_vals rv
  have hn : H s.heap.objs.size = none := I.hok.fresh (Nat.le_refl _)
  refine call_set_tupI ns (I.ok.hd hc) (show s.heap.IsTuple l its.toArray from pt) hi (by unfold scanBound; omega) fun h' tk c R1 hcn k => ?_
  exact ⟨.ref s.heap.objs.size, upd H s.heap.objs.size (SetIO X.w s.heap.objs.size (fun j => decide (j ∈ ns)) c), I.laid (t' := tk) k (Nat.le_refl _) (setIO_new R1), rfl, q _ c hn hcn⟩
def rSortedSI (w : World) : List V → Hp → VK → Prop := fun xs H Q => ∃ (a : Addr) (S : Int → Bool) (n : Nat), xs = [.ref a] ∧ H a = some (SetIO w a S n) ∧ n ≤ 63 ∧
  ∀ (p : Addr) (ns : List Int), H p = none → ns.Pairwise (· < ·) → (∀ k, k ∈ ns ↔ S k = true) → Q (.ref p) (upd H p (.lst (ns.map V.int)))
theorem cr_sortedSI {X : Cx} (hc : X.calm = true) : CallR X (.builtin "sorted") (rSortedSI X.w) := by
  intro pins s σ H xs us Q I r h
  obtain ⟨a, S, n, rfl, ha, h63, q⟩ := h
  have R0 : SetR X.w s.heap a S n := (I.hok a _ ha).1
  rw [Vals.ref1 r]
  refine sorted_set R0 (I.ok.hd hc) (by omega) fun s' p out c ns k g o hp hg hI hw hm hl => ?_
  have hn : H p = none := I.hok.fresh hp
  have hlen : (ns.map V.int).length ≤ sizeLine := by rw [List.length_map, sizeLine_eq]; omega
  have J : Inv X pins σ (upd H p (.lst (ns.map V.int))) { s with heap := s'.heap, gens := s'.gens, drawn := s'.drawn, toks := s'.toks } :=
    I.call (ch := []) (Un.laid k hp hn) (I.hok.laid k hp ⟨hlen, out.toList, c, vals_ints hI, hg⟩) (by rw [g]; exact I.bare) (fun _ z => nomatch z)
  have e : s' = { s with heap := s'.heap, gens := s'.gens, drawn := s'.drawn, toks := s'.toks } := by
    cases s'
    cases s
    cases o
    rfl
  rw [e]
  exact ⟨.ref p, _, J, rfl, q p ns hn hw hm⟩
section
variable {D H : Hp} {L : Own} {K : PySem.W.Frag} {Q : VK}
instance v_setI {w : World} {a : Addr} {xs : List V} {ns : List Int} [S : Sx D L H] [ha : Kn D a (.tup xs)] [c : IsC xs ns] : VC (rSetI K w [.ref a] H Q) (ns.length ≤ 63 ∧ ∀ p D' H' n, Sx D' L H' → Sm D D' → Kn D' p (SetIO w p (fun j => decide (j ∈ ns)) n) → n ≤ ns.length → Q (.ref p) H') :=
  ⟨fun h => ⟨a, ns, rfl, sqT S (by rw [← c.pf]; exact ha.pf), h.1, fun p n hp hn => h.2 p _ _ n (S.fix hp) ⟨same_upd (S.dH.free hp)⟩ ⟨upd_same⟩ hn⟩⟩
instance v_sortSI {w : World} {a : Addr} {F : Int → Bool} {n : Nat} [S : Sx D L H] [ha : Kn D a (SetIO w a F n)] : VC (rSortedSI w [.ref a] H Q) (n ≤ 63 ∧ ∀ ns : List Int, ns.Pairwise (· < ·) → (∀ k, k ∈ ns ↔ F k = true) → ∀ p H', Sx D ((p, .lst (ns.map V.int)) :: L) H' → Q (.ref p) H') :=
  ⟨fun h => ⟨a, F, n, rfl, S.dH _ _ ha.pf, h.1, fun p ns hp h1 h2 => h.2 ns h1 h2 p _ (S.new hp)⟩⟩
end
end Fk

namespace Fk
open PySem PySem.Spec PyProof.Rows L2
/-! ## zip of lists and tuples, whichever -/
def iZipX (K : PySem.W.Frag) (ta : TA) : TI := fun σ H R => ta σ H fun vs H1 => (IsZ K vs H1 R ∨ ∃ a b xs ys, vs = [.ref a, .ref b] ∧ SqT K H1 a xs ∧ SqL K H1 b ys ∧ R (Itzm K a b) H1) ∨ IsZL K vs H1 R
def IsZX (K : PySem.W.Frag) (vs : List V) (H1 : Hp) (R : It → Hp → Prop) : Prop := IsZM K vs H1 R ∨ IsZL K vs H1 R
theorem pi_zipX (K : PySem.W.Frag) {X : Cx} {e e2 : Expr} {ta : TA} {p pos tpos : Pos} {elts : List Expr} {kk : Nat} (hg : Gl X "zip") (hm : X.mg "zip" = none) (ha : PA X [e, e2] ta) (hK : X.K = K := by rfl)
    (hs : starEach [e, e2] X.env = (false, eval e X.env) :: starEach [e2] X.env := by rfl) (hpl : (backTo pos (starEach [e2] X.env)).any (·.1) = false := by rfl) :
    PI X (.Tuple elts kk tpos) (.Call (.Name "zip" p) [e, e2] [] pos) (iZipX K ta) := by
  subst hK
  refine ⟨fun pins s σ H R I h => ?_⟩
  refine Call_ (ld_blt I hg hm PyProof.Rows.boot_zip (PyProof.Rows.callWith_type1 (thn (ha.run pos pins s σ H _ I h) fun us s1 ⟨vs, H1, I1, r1, q1⟩ => ?_) hs hpl))
  have fresh5 : ∀ c, c ∈ [s1.heap.objs.size + 4, s1.heap.objs.size + 2, s1.heap.objs.size + 3, s1.heap.objs.size, s1.heap.objs.size + 1] → FpOk X pins H1 c := fun c hcm => by
    have e' : c = s1.heap.objs.size + 4 ∨ c = s1.heap.objs.size + 2 ∨ c = s1.heap.objs.size + 3 ∨ c = s1.heap.objs.size ∨ c = s1.heap.objs.size + 1 := by simpa using hcm
    have hle : s1.heap.objs.size ≤ c := by
      rcases e' with z | z | z | z | z
      · rw [z]; exact Nat.le_add_right _ _
      · rw [z]; exact Nat.le_add_right _ _
      · rw [z]; exact Nat.le_add_right _ _
      · rw [z]; exact Nat.le_refl _
      · rw [z]; exact Nat.le_add_right _ _
    exact I1.fpOk hle (I1.hok.fresh hle)
  rcases q1 with (⟨a, b, xs, ys, ex, q1⟩ | ⟨a, b, xs, ys, ex, hqx, hqy, q⟩) | ⟨a, b, xs, ys, ex, hqx, hqy, q⟩
  · subst ex
    cases r1 with
    | cons r rr =>
      cases rr with
      | cons r' rr =>
        cases rr
        cases r
        cases r'
        rcases q1 with ⟨hqx, hqy, q⟩ | ⟨hqx, hqy, q⟩
        · obtain ⟨its, rv, p1, _⟩ := I1.list hqx
          obtain ⟨its2, rv2, p2, _⟩ := I1.list hqy
          refine call_zip_2 p1.isList p2.isList fun h' hz hTI hTO h1 h2 hsz hk => wpAny_pyIter_zip hz ?_
          have I2 : Inv X pins σ H1 { s1 with heap := h' } := I1.kept (t' := s1.toks) hk
          exact ⟨s1.heap.objs.size + 4, [s1.heap.objs.size + 4, s1.heap.objs.size + 2, s1.heap.objs.size + 3, s1.heap.objs.size, s1.heap.objs.size + 1], _, _, H1, rfl, I2, turn_zip (PySem.W.ktu_apart s1.heap.objs.size a b p1.lt p2.lt), ⟨hz, hTI, ⟨_, _, hTO⟩, h1, h2⟩, fresh5, q⟩
        · obtain ⟨its, rv, p1, _⟩ := I1.tuple hqx
          obtain ⟨its2, rv2, p2, _⟩ := I1.tuple hqy
          obtain ⟨o1, ho1, _⟩ := id p1
          obtain ⟨o2, ho2, _⟩ := id p2
          refine RZ.call_zipT (show s1.heap.IsTuple a its.toArray from p1) (show s1.heap.IsTuple b its2.toArray from p2) fun h' hz hTI hTO h1 h2 hsz hk => wpAny_pyIter_zip hz ?_
          have I2 : Inv X pins σ H1 { s1 with heap := h' } := I1.kept (t' := s1.toks) hk
          exact ⟨s1.heap.objs.size + 4, [s1.heap.objs.size + 4, s1.heap.objs.size + 2, s1.heap.objs.size + 3, s1.heap.objs.size, s1.heap.objs.size + 1], _, _, H1, rfl, I2, RZ.turn_zipT (PySem.W.ktu_apart s1.heap.objs.size a b (Heap.lt_size ho1) (Heap.lt_size ho2)), ⟨hz, hTI, ⟨_, _, hTO⟩, h1, h2⟩, fresh5, q⟩
  · subst ex
    cases r1 with
    | cons r rr =>
      cases rr with
      | cons r' rr =>
        cases rr
        cases r
        cases r'
        obtain ⟨its, rv, p1, _⟩ := I1.tuple hqx
        obtain ⟨its2, rv2, p2, _⟩ := I1.list hqy
        obtain ⟨o1, ho1, _⟩ := id p1
        have la : a < s1.heap.objs.size := Heap.lt_size ho1
        have lb : b < s1.heap.objs.size := p2.lt
        refine zip_begins2 (begins_tuple a its.toArray) (begins_list b its2.toArray) (show s1.heap.IsTuple a its.toArray from p1) p2.isList fun h' hz hTI hTO h1 h2 hsz hk => wpAny_pyIter_zip hz ?_
        have I2 : Inv X pins σ H1 { s1 with heap := h' } := I1.kept (t' := s1.toks) hk
        exact ⟨s1.heap.objs.size + 4, [s1.heap.objs.size + 4, s1.heap.objs.size + 2, s1.heap.objs.size + 3, s1.heap.objs.size, s1.heap.objs.size + 1], _, _, H1, rfl, I2,
          turn_zipM (Nat.ne_of_lt la) (Nat.ne_of_lt (Nat.lt_succ_of_lt lb)) (zip_sep2 (N := s1.heap.objs.size) (fp1 := [a]) (fp2 := [b]) (fun c hc => by rw [List.mem_singleton.mp hc]; exact la) (fun c hc => by rw [List.mem_singleton.mp hc]; exact lb)),
          ⟨hz, hTI, ⟨_, _, hTO⟩, ⟨_, h1, rfl, rfl⟩, ⟨_, h2, rfl, rfl⟩⟩, fresh5, q⟩
  · subst ex
    cases r1 with
    | cons r rr =>
      cases rr with
      | cons r' rr =>
        cases rr
        cases r
        cases r'
        obtain ⟨its, rv, p1, _⟩ := I1.list hqx
        obtain ⟨its2, rv2, p2, _⟩ := I1.tuple hqy
        obtain ⟨o2, ho2, _⟩ := id p2
        have la : a < s1.heap.objs.size := p1.lt
        have lb : b < s1.heap.objs.size := Heap.lt_size ho2
        refine zip_begins2 (begins_list a its.toArray) (begins_tuple b its2.toArray) p1.isList (show s1.heap.IsTuple b its2.toArray from p2) fun h' hz hTI hTO h1 h2 hsz hk => wpAny_pyIter_zip hz ?_
        have I2 : Inv X pins σ H1 { s1 with heap := h' } := I1.kept (t' := s1.toks) hk
        exact ⟨s1.heap.objs.size + 4, [s1.heap.objs.size + 4, s1.heap.objs.size + 2, s1.heap.objs.size + 3, s1.heap.objs.size, s1.heap.objs.size + 1], _, _, H1, rfl, I2,
          turn_zipL (Nat.ne_of_lt la) (Nat.ne_of_lt (Nat.lt_succ_of_lt lb)) (zip_sep2 (N := s1.heap.objs.size) (fp1 := [a]) (fp2 := [b]) (fun c hc => by rw [List.mem_singleton.mp hc]; exact la) (fun c hc => by rw [List.mem_singleton.mp hc]; exact lb)),
          ⟨hz, hTI, ⟨_, _, hTO⟩, ⟨_, h1, rfl, rfl⟩, ⟨_, h2, rfl, rfl⟩⟩, fresh5, q⟩
section
variable {σ : L2.St} {D H : Hp} {L : Own} {K : PySem.W.Frag} {Q : VK}
instance v_zipX {tr : TA} {R : It → Hp → Prop} : VC (iZipX K tr σ H R) (tr σ H fun vs H1 => IsZX K vs H1 R) := ⟨fun h => h⟩
instance v_zipXLL {a b : Addr} {xs ys : List V} {R : It → Hp → Prop} [S : Sx D L H] [ha : Sl K D L a xs] [hb : Sl K D L b ys] : VC (IsZX K [.ref a, .ref b] H R) (R (Itz K a b) H) := ⟨fun h => .inl (VC.pf h)⟩
instance v_zipXTT {a b : Addr} {xs ys : List V} {R : It → Hp → Prop} [S : Sx D L H] [ha : Kn D a (.tup xs)] [hb : Kn D b (.tup ys)] : VC (IsZX K [.ref a, .ref b] H R) (R (RZ.ItzT K a b) H) := ⟨fun h => .inl (VC.pf h)⟩
instance v_zipXTL {a b : Addr} {xs ys : List V} {R : It → Hp → Prop} [S : Sx D L H] [ha : Kn D a (.tup xs)] [hb : Sl K D L b ys] : VC (IsZX K [.ref a, .ref b] H R) (R (Itzm K a b) H) := ⟨fun h => .inl (VC.pf h)⟩
instance v_zipXLT {a b : Addr} {xs ys : List V} {R : It → Hp → Prop} [S : Sx D L H] [ha : Sl K D L a xs] [hb : Kn D b (.tup ys)] : VC (IsZX K [.ref a, .ref b] H R) (R (Itzl K a b) H) := ⟨fun h => .inr (VC.pf h)⟩
/-! ## the least of what is a list or a tuple -/
instance v_minYK {a : Addr} {xs : List V} {ns : List Int} [S : Sx D L H] [ha : Ks D a xs] [c : IsC xs ns] : VC (rMinY K [.ref a] H Q) (0 < ns.length ∧ ∀ m, m ∈ ns → (∀ y, y ∈ ns → m ≤ y) → Q (.int m) H) := ⟨fun h => ha.pf.elim (fun k => have : Kn D a (.lst xs) := ⟨k⟩; VC.pf (g := rMinY K [.ref a] H Q) h) fun k => have : Kn D a (.tup xs) := ⟨k⟩; VC.pf (g := rMinY K [.ref a] H Q) h⟩
end
/-! ## a def as a thing: called where it was put -/
noncomputable def Cl.f {P : Program} {w : World} {K : PySem.W.Frag} {mg : Str → Option Value} {base : Heap} {CX : CXT} {k : Nat} {x : Str} {ps : List Str} {sp : Sp} (C : Cl P w K mg base CX k x ps sp) : Addr := C.ex.choose
theorem Cl.g {P : Program} {w : World} {K : PySem.W.Frag} {mg : Str → Option Value} {base : Heap} {CX : CXT} {k : Nat} {x : Str} {ps : List Str} {sp : Sp} (C : Cl P w K mg base CX k x ps sp) : mg x = some (.ref C.f) := let ⟨_, _, g, _⟩ := C.ex.choose_spec; g
def tCallE (f1 f2 : Addr) (s1 s2 : Sp) (tf : TE) (t : TA) : TE := fun σ H Q => tf σ H fun y H1 => (y = V.ref f1 ∧ t σ H1 fun vs H2 => s1 vs H2 Q E0) ∨ (y = V.ref f2 ∧ t σ H1 fun vs H2 => s2 vs H2 Q E0)
theorem pe_callE {X : Cx} {fe : Expr} {tf : TE} {x1 x2 : Str} {k1 k2 j : Nat} {p1 p2 : List Str} {s1 s2 : Sp} {e : Expr} {es : List Expr} {t : TA} {pos : Pos} (hf : PE X fe tf) (C1 : Cl X.prog X.w X.K X.mg X.base CX0 k1 x1 p1 s1) (C2 : Cl X.prog X.w X.K X.mg X.base CX0 k2 x2 p2 s2) (hr : Room j X.A) (hk1 : k1 ≤ j) (hk2 : k2 ≤ j) (ha : PA X (e :: es) t)
    (ht : eval (.Call fe (e :: es) [] pos) X.env = (do callWith pos (← eval fe X.env) [] (backTo pos (starEach (e :: es) X.env)) (backToKw pos (keywordEach [] X.env))) := by rfl)
    (he : starEach (e :: es) X.env = (false, eval e X.env) :: starEach es X.env := by rfl) (hpl : (backTo pos (starEach es X.env)).any (·.1) = false := by rfl) : PE X (.Call fe (e :: es) [] pos) (tCallE C1.f C2.f s1 s2 tf t) := by
  refine ⟨fun pins s σ H Q I h => ?_⟩
  refine Call_ (thn (hf.run pins s σ H _ I h) fun u sA ⟨y, H1, I1, ry, q⟩ => ?_) ht
  obtain ⟨fd1, F1, g1, kp1, hb1⟩ := C1.ex.choose_spec
  obtain ⟨fd2, F2, g2, kp2, hb2⟩ := C2.ex.choose_spec
  rcases q with ⟨ey, q⟩ | ⟨ey, q⟩
  · subst ey
    obtain rfl : u = Value.ref C1.f := ry
    refine PySem.W.callWith_K (h₀ := X.base) I1.ok.mod.kin kp1 (thn (ha.run pos pins sA σ _ _ I1 q) fun us s2 ⟨vs, H2, I2, r, q2⟩ => ⟨I2.kIn, ?_⟩) he hpl
    exact run_fn (dvs := []) F1 (hr.mono hk1) hb1 .nil pass0 I2 r (by rw [List.append_nil]; exact q2)
  · subst ey
    obtain rfl : u = Value.ref C2.f := ry
    refine PySem.W.callWith_K (h₀ := X.base) I1.ok.mod.kin kp2 (thn (ha.run pos pins sA σ _ _ I1 q) fun us s2 ⟨vs, H2, I2, r, q2⟩ => ⟨I2.kIn, ?_⟩) he hpl
    exact run_fn (dvs := []) F2 (hr.mono hk2) hb2 .nil pass0 I2 r (by rw [List.append_nil]; exact q2)
instance v_callE {σ : L2.St} {H : Hp} {Q : VK} {f1 f2 : Addr} {s1 s2 : Sp} {tf : TE} {t : TA} : VC (tCallE f1 f2 s1 s2 tf t σ H Q) (tf σ H fun y H1 => (y = V.ref f1 ∧ t σ H1 fun vs H2 => s1 vs H2 Q E0) ∨ (y = V.ref f2 ∧ t σ H1 fun vs H2 => s2 vs H2 Q E0)) := ⟨fun h => h⟩
end Fk

namespace Fk
open PySem PySem.Spec PyProof.Rows L2
/-! ## xs[i] += n, a list of mine, i no less than nought -/
def rIxA (K : PySem.W.Frag) : V → V → Hp → VK → Prop := fun x y H Q => ∃ p xs i v, x = .ref p ∧ y = .int i ∧ SqL K H p xs ∧ 0 ≤ i ∧ atI xs i = some v ∧ Q v H
theorem ix_aug {X : Cx} : PGet X (rIxA X.K) := by
  intro pins s σ H o i ov iv Q I ro ri h
  obtain ⟨p, xs, k, z, rfl, rfl, hq, h0, he, q⟩ := h
  cases ro
  obtain ⟨t, rfl⟩ := ri
  obtain ⟨its, r, pl, hz⟩ := I.list hq
  obtain ⟨j, h1, h2, h3, h4, h5⟩ := L2.atI_get he
  obtain ⟨w, ew, rw'⟩ := r.get h2
  have hl := r.length
  have hn := line63
  have hj : k.toNat = j := by
    rw [seqIndex_of h0 h5] at h1
    exact Option.some.inj h1
  exact wpAny_getItem_list pl.isList h0 (by omega) (by rw [hj]; simpa using ew) ⟨z, H, I, rw', q⟩
def IpI (f : Int → Int → Int) (x y : V) (H : Hp) (Q : VK) : Prop := ipI f x y H Q
section
variable {σ : L2.St} {D H : Hp} {L : Own} {K : PySem.W.Frag} {Q : VK} {nx bk ct : L2.St → Hp → Prop} {rt : VK}
instance v_augS {to ti te : TE} {tget : V → V → Hp → VK → Prop} {tip : TIp} {tset : TSet} : VC (tAugS to ti te tget tip tset ⟨nx, rt, bk, ct⟩ σ H) (to σ H fun o H1 => ti σ H1 fun i H2 => tget o i H2 fun x H3 => te σ H3 fun y H4 => tip x y H4 fun z H5 => tset o i z H5 fun H6 => nx σ H6) := ⟨fun h => h⟩
instance v_ipI {f : Int → Int → Int} {i j : Int} : VC (ipI f (.int i) (.int j) H Q) (Q (.int (f i j)) H) := ⟨fun h => ⟨i, j, rfl, rfl, h⟩⟩
instance v_ixA {a : Addr} {xs : List V} {i : Int} {v : V} [S : Sx D L H] [ha : Sl K D L a xs] [c : AtC xs i v] : VC (rIxA K (.ref a) (.int i) H Q) (0 ≤ i ∧ Q v H) := ⟨fun h => ⟨a, xs, i, v, rfl, rfl, ha.pf.sq S, h.1, c.pf, h.2⟩⟩
end
end Fk

namespace Fk
open PySem PySem.Spec PyProof.Rows L2 PySem.Calls PyProof.V
/-! ## dict(enumerate(xs)) of a list, d.pop(k), sorted(d.values()) -/
def enK : Nat → List V → List (Key × V)
  | _, [] => []
  | j, v :: vs => (Sum.inl (j : Int), v) :: enK (j + 1) vs
def enKV : Nat → List Value → List (Key × Value)
  | _, [] => []
  | j, v :: vs => (Sum.inl (j : Int), v) :: enKV (j + 1) vs
theorem enKV_rel : ∀ {vs : List V} {us : List Value} {j : Nat}, Vals vs us → KV (enK j vs) (enKV j us)
  | _, _, _, .nil => .nil
  | _, _, _, .cons r t => .cons ⟨rfl, r⟩ (enKV_rel t)
theorem enKV_get : ∀ {us : List Value} {j i : Nat} {u : Value}, us[i]? = some u → (enKV j us)[i]? = some (Sum.inl ((j + i : Nat) : Int), u)
  | y :: ys, j, 0, x, h => by cases h; rfl
  | y :: ys, j, i + 1, x, h => by
    have h : ys[i]? = some x := h
    show (enKV (j + 1) ys)[i]? = _
    rw [enKV_get h, show j + 1 + i = j + (i + 1) by omega]
theorem enKV_len : ∀ (us : List Value) (j : Nat), (enKV j us).length = us.length
  | [], _ => rfl
  | x :: xs, j => congrArg (· + 1) (enKV_len xs (j + 1))
theorem enK_len : ∀ (us : List V) (j : Nat), (enK j us).length = us.length
  | [], _ => rfl
  | x :: xs, j => congrArg (· + 1) (enK_len xs (j + 1))
theorem enK_key : ∀ {xs : List V} {j : Nat} {kv : Key × V}, kv ∈ enK j xs → ∃ i : Nat, j ≤ i ∧ kv.1 = Sum.inl (i : Int)
  | x :: xs, j, kv, h => by
    rcases List.mem_cons.mp h with h | h
    · exact ⟨j, Nat.le_refl _, by rw [h]⟩
    · obtain ⟨i, h1, h2⟩ := enK_key h
      exact ⟨i, by omega, h2⟩
theorem merge_en : ∀ (xs : List V) (j : Nat) (acc : List (Key × V)), (∀ kv, kv ∈ acc → ∃ i : Nat, i < j ∧ kv.1 = Sum.inl (i : Int)) → mergeK acc (enK j xs) = acc ++ enK j xs
  | [], j, acc, _ => by rw [show enK j [] = [] from rfl, List.append_nil]; rfl
  | x :: xs, j, acc, h => by
    have hn : (acc.any fun kv => decide (kv.1 = Sum.inl (j : Int))) = false := by
      rw [List.any_eq_false]
      intro kv hkv
      obtain ⟨i, h1, h2⟩ := h kv hkv
      rw [h2]
      simp only [decide_eq_true_eq, Sum.inl.injEq]
      omega
    have e : putK acc (Sum.inl (j : Int)) x = acc ++ [(Sum.inl (j : Int), x)] := by
      unfold putK
      rw [hn]
      rfl
    show mergeK (putK acc (Sum.inl (j : Int)) x) (enK (j + 1) xs) = _
    rw [e, merge_en xs (j + 1) _ (fun kv hkv => by
      rcases List.mem_append.mp hkv with g | g
      · obtain ⟨i, h1, h2⟩ := h kv g
        exact ⟨i, by omega, h2⟩
      · rw [List.mem_singleton.mp g]
        exact ⟨j, by omega, rfl⟩), List.append_assoc]
    rfl
def DEn (K : PySem.W.Frag) (vs : List V) (H1 : Hp) (Q : VK) : Prop := ∃ a xs, vs = [.ref a] ∧ SqL K H1 a xs ∧ ∀ d, H1 d = none → Q (.ref d) (upd H1 d (.dK (enK 0 xs)))
def tDictEn (K : PySem.W.Frag) (ta : TA) : TE := fun σ H Q => ta σ H fun vs H1 => DEn K vs H1 Q
theorem pe_dictEn (K : PySem.W.Frag) {X : Cx} {e : Expr} {ta : TA} {p p2 pos pos2 : Pos} (hc : X.calm = true) (hgd : Gl X "dict") (hmd : X.mg "dict" = none) (hge : Gl X "enumerate") (hme : X.mg "enumerate" = none) (ha : PA X [e] ta) (hK : X.K = K := by rfl)
    (hs1 : starEach [e] X.env = [(false, eval e X.env)] := by rfl) (hs2 : starEach [.Call (.Name "enumerate" p2) [e] [] pos2] X.env = [(false, eval (.Call (.Name "enumerate" p2) [e] [] pos2) X.env)] := by rfl) :
    PE X (.Call (.Name "dict" p) [.Call (.Name "enumerate" p2) [e] [] pos2] [] pos) (tDictEn K ta) := by
  subst hK
  refine ⟨fun pins s σ H Q I h => ?_⟩
  refine Call_ (ld_blt I hgd hmd PyProof.Rows.boot_dict (PyProof.Rows.callWith_type1 ?_ hs2 rfl))
  rw [hs2]
  show wpAny _ _ (spliced ((false, eval (.Call (.Name "enumerate" p2) [e] [] pos2) X.env) :: [])) _ _ s
  refine Calls.spliced_cons ?_
  refine Call_ (ld_blt I hge hme boot_enumerate (PyProof.Rows.callWith_type1 (thn (ha.run pos2 pins s σ H _ I h) fun us s1 ⟨vs, H1, I1, r1, a, xs, ex, hq, q⟩ => ?_) hs1 rfl))
  subst ex
  cases r1 with
  | cons r rr =>
    cases rr
    cases r
    obtain ⟨its, rv, p', hz⟩ := I1.list hq
    have la : a < s1.heap.objs.size := p'.lt
    refine call_enumerate_list p'.isList fun h' he hit hsz hk => ?_
    refine Calls.spliced_nil ?_
    have hl' : h'.IsList a its.toArray := p'.isList.at fun o x => hk a o x
    refine PySem.call_dict_pairs (K := Key) (knd := mixKind X.prog X.w) (kvs := enKV 0 its) (PairArg.enumerate (s1.heap.objs.size + 1) s1.heap.objs.size a (Nat.succ_ne_self _) (Nat.ne_of_lt (Nat.lt_succ_of_lt la)) (Nat.ne_of_lt la) its.toArray) (I1.ok.hd hc) ⟨⟨_, he⟩, hit, hl'⟩ ⟨by rw [enKV_len]; simp, fun i key v ⟨⟨t, ek⟩, ev⟩ => ?_⟩ ?_ fun h2 tk hd' k => ?_
    · refine ⟨Sum.inl (i : Int), ?_, ?_⟩
      · have := enKV_get (j := 0) (us := its) (i := i) (u := v) (by simpa using ev)
        rw [Nat.zero_add] at this
        exact this
      · rw [ek]
        exact kV_is (P := X.prog) (w := X.w) (k := Sum.inl (i : Int)) ⟨t, rfl⟩
    · have := rv.length
      simp only [List.size_toArray]
      omega
    · have hlv := rv.length
      have hm : (h'.objs.size == sysModules) = false := beq_eq_false_iff_ne.mpr (Nat.ne_of_gt (by rw [hsz]; exact Nat.lt_succ_of_lt (Nat.lt_succ_of_lt I1.big)))
      have e0 : mergeK [] (enK 0 xs) = enK 0 xs := by rw [merge_en xs 0 [] (fun kv h => nomatch h), List.nil_append]
      have hrel : KV (enK 0 xs) (merged [] (enKV 0 its)) := by
        have := KV.merge (enKV_rel (j := 0) rv) (.nil : KV [] [])
        rw [e0] at this
        exact this
      have hlen : (enK 0 xs).length ≤ sizeLine := by rw [enK_len]; exact hz
      refine ⟨.ref h'.objs.size, upd H1 h'.objs.size (.dK (enK 0 xs)), I1.laid (t' := tk) (h' := h2) (fun b o e => k b o (fun z => ?_) (hk b o e)) (by rw [hsz]; exact Nat.le_add_right _ _) (show ObjOk X.prog X.w _ _ _ (.dK (enK 0 xs)) from ⟨hlen, hm, merged [] (enKV 0 its), hrel, hd'⟩), rfl, q _ (I1.hok.fresh (by rw [hsz]; exact Nat.le_add_right _ _))⟩
      have hb := Heap.lt_size e
      have z2 : b = s1.heap.objs.size + 1 ∨ b = s1.heap.objs.size := by simpa using z
      rcases z2 with z | z
      · rw [z] at hb; exact absurd hb (Nat.not_lt.mpr (Nat.le_succ _))
      · rw [z] at hb; exact absurd hb (Nat.lt_irrefl _)
/-- sorted(d.values()), the values numbers -/
def rSortVs : List V → Hp → VK → Prop := fun xs H Q => ∃ (p a : Addr) (kvs : List (Int × Int)), xs = [.ref p] ∧ H p = some (valsO p a) ∧ Rd H a (.dK (kvs.map entI)) ∧
  ∀ (ys : List Int) (p : Addr), ys.Perm (kvs.map (·.2)) → ys.Pairwise (· ≤ ·) → H p = none → Q (.ref p) (upd H p (.lst (ys.map V.int)))
theorem cr_sortVs {X : Cx} (hcalm : X.calm = true) : CallR X (.builtin "sorted") rSortVs := by
  intro pins s σ H xs us Q I r q
  obtain ⟨p, a, kvs, ex, hp, hd, q⟩ := q
  subst ex
  obtain ⟨u, eu, rx⟩ := vals1 r
  subst eu
  cases rx
  have view : s.heap.IsValuesView p a := (show ObjOk X.prog X.w H s.heap p (valsO p a) from I.hok p _ hp).1
  obtain ⟨z, lo, vs, rel, dd⟩ := dk_rd I.hok hd
  obtain ⟨ep, hat⟩ := dd.dictAt
  have hl : vs.length = kvs.length := by have := Paired.length rel; rw [List.length_map] at this; exact this.symm
  rw [List.length_map] at z
  have h16 : vs.length ≤ sizeLine := by rw [hl]; exact z
  refine Calls.call_function_entry PyProof.Rows.kind_sorted PyProof.Rows.plain_sorted PyProof.Rows.entry_sorted (PyProof.Rows.args_sorted1 _) ?_
  unfold Builtin.«sorted»
  refine wpAny_bind (m := checkCount "sorted" 1 1 _) (wpAny_pure ?_)
  refine wpAny_bind (PySem.W.kdu_collect (A := X.A.in1) (PySem.W.kdl_values (prog := X.prog) (w := X.w) (knd := mixKind X.prog X.w) (r := p) (d := a) (kvs := vs) (ep := ep)) (I.ok.hd hcalm) ⟨view, hat⟩ h16 fun h' tk acc hk hacc => ?_)
  have hal : acc.toList.length = (kvs.map (·.2)).length := by rw [Array.length_toList, hacc.1, hl, List.length_map]
  have hS : IntsAre acc.toList (kvs.map (·.2)) := ints_each hal fun j v e => by
    obtain ⟨k, h1⟩ := hacc.2 j v (by rw [← Array.getElem?_toList]; exact e)
    obtain ⟨e0, he0, r1, r2⟩ := DX.pget rel h1
    rw [List.getElem?_map] at he0
    cases g : kvs[j]? with
    | none => rw [g] at he0; exact nomatch he0
    | some e =>
      rw [g] at he0
      have ee : entI e = e0 := Option.some.inj he0
      rw [← ee] at r2
      obtain ⟨t, ht⟩ := (show ∃ t, v = Value.int e.2 t from r2)
      exact ⟨e.2, t, by rw [List.getElem?_map, g]; rfl, ht⟩
  have I1 : Inv X pins σ H { s with heap := h', toks := tk } := I.kept hk
  have hz2 : acc.toList.length ≤ sizeLine := by rw [hal, List.length_map]; exact z
  refine wpAny_bind (wpAny_newList ?_ hz2)
  have hoL : (h'.push (seqObj "list" acc.toList.toArray 0)).get? h'.objs.size = some (seqObj "list" acc.toList.toArray 0) := Heap.get?_push_size _ rfl
  show wpAny _ _ _ _ _ { s with heap := h'.push (seqObj "list" acc.toList.toArray 0), toks := tk }
  have hn0 : H h'.objs.size = none := I1.hok.fresh (Nat.le_refl _)
  have hlen : ((kvs.map (·.2)).map V.int).length ≤ sizeLine := by rw [List.length_map, List.length_map]; exact z
  have I2 := I1.laid (a := h'.objs.size) (o := .lst ((kvs.map (·.2)).map V.int)) (h' := h'.push (seqObj "list" acc.toList.toArray 0)) (t' := tk) (fun _ _ q => Heap.get?_push_of_some _ q) (Nat.le_refl _)
    ⟨hlen, acc.toList, 0, vals_of_ints hS, Heap.get?_push_size _ rfl⟩
  refine wpAny_bind (wpAny_holding (wpAny_mono (mt_sortI (X := inX X) pins { s with heap := h'.push (seqObj "list" acc.toList.toArray 0), toks := tk } σ (upd H h'.objs.size (.lst ((kvs.map (·.2)).map V.int))) (.ref h'.objs.size) [] (.ref h'.objs.size) [] (fun _ H3 => Q (.ref h'.objs.size) H3) (inv_in I2) rfl .nil
    ⟨h'.objs.size, kvs.map (·.2), rfl, rfl, upd_same, fun ns' h1 h2 => ?_⟩) (fun u s' hu => ?_) (fun _ _ e => e)))
  · have e : upd (upd H h'.objs.size (.lst ((kvs.map (·.2)).map V.int))) h'.objs.size (.lst (ns'.map V.int)) = upd H h'.objs.size (.lst (ns'.map V.int)) := funext fun b => by
      by_cases c : b = h'.objs.size
      · rw [c, upd_same, upd_same]
      · rw [upd_ne c, upd_ne c, upd_ne c]
    rw [e]
    exact q ns' _ h1 h2 hn0
  · obtain ⟨v, H4, J, _, qq⟩ := hu
    exact wpAny_pure ⟨_, rfl, .ref h'.objs.size, H4, inv_out I.ok J, rfl, qq⟩
section
variable {σ : L2.St} {D H : Hp} {L : Own} {K : PySem.W.Frag} {Q : VK}
instance v_valsO {a : Addr} {kvs : List (Key × V)} {n : Nat} [S : Sx D L H] [h : Fi L a (.dK kvs) n] : VC (rValsK (.ref a) [] H Q) (∀ p D' H', Sx D' L H' → Sm D D' → Kn D' p (valsO p a) → Q (.ref p) H') :=
  ⟨fun k => ⟨a, kvs, rfl, rfl, .inl (S.at h.pf), fun p hp => k p _ _ (S.fix hp) ⟨same_upd (S.dH.free hp)⟩ ⟨upd_same⟩⟩⟩
instance v_tyKO {a : Addr} {kvs : List (Key × V)} {n : Nat} {p : Prop} [S : Sx D L H] [h : Fi L a (.dK kvs) n] : VC (tyKF (.ref a) H ∧ p) p := ⟨fun k => ⟨⟨a, kvs, rfl, .inl (S.at h.pf)⟩, k⟩⟩
instance v_sortVs {p a : Addr} {kvs : List (Int × Int)} {n : Nat} [S : Sx D L H] [hp : Kn D p (valsO p a)] [h : Fi L a (.dK (kvs.map entI)) n] : VC (rSortVs [.ref p] H Q) (∀ ys : List Int, ys.Perm (kvs.map (·.2)) → ys.Pairwise (· ≤ ·) → ∀ l H', Sx D ((l, .lst (ys.map V.int)) :: L) H' → Q (.ref l) H') :=
  ⟨fun k => ⟨p, a, kvs, rfl, S.dH _ _ hp.pf, .inl (S.at h.pf), fun ys l h1 h2 hl => k ys h1 h2 l _ (S.new hl)⟩⟩
def DPo (ty : TE) (σ : L2.St) (x : V) (H1 : Hp) (Q : VK) : Prop := ∃ a, x = .ref a ∧ IsD H1 a ∧ ty σ H1 fun y H2 => ∃ kvs k v, H2 a = some (.dK kvs) ∧ y = kV k ∧ valV kvs k = some v ∧ Q v (upd H2 a (.dK (dropK kvs k)))
def DPo2 (a : Addr) (y : V) (H2 : Hp) (Q : VK) : Prop := ∃ kvs k v, H2 a = some (.dK kvs) ∧ y = kV k ∧ valV kvs k = some v ∧ Q v (upd H2 a (.dK (dropK kvs k)))
instance v_dpop1 {td ty : TE} : VC (tDPop1 td ty σ H Q) (td σ H fun x H1 => DPo ty σ x H1 Q) := ⟨fun h => h⟩
instance v_dpo {a : Addr} {ty : TE} {kvs : List (Key × V)} {n : Nat} [S : Sx D L H] [h : Fi L a (.dK kvs) n] : VC (DPo ty σ (.ref a) H Q) (ty σ H fun y H2 => DPo2 a y H2 Q) := ⟨fun k => ⟨a, rfl, .inl ⟨kvs, .inl (S.at h.pf)⟩, k⟩⟩
instance v_dpo2 {a : Addr} {kvs : List (Key × V)} {n : Nat} {i : Int} {v : V} {L' : Own} [S : Sx D L H] [h : Fi L a (.dK kvs) n] [c : DvC kvs i v] [e : Se L n (a, .dK (dropK kvs (Sum.inl i))) L'] : VC (DPo2 a (.int i) H Q) (∀ H', Sx D L' H' → Q v H') :=
  ⟨fun k => ⟨kvs, Sum.inl i, v, S.at h.pf, rfl, c.pf, k _ (by rw [← e.pf]; exact S.put _ h.pf)⟩⟩
instance v_dictEn {ta : TA} : VC (tDictEn K ta σ H Q) (ta σ H fun vs H1 => DEn K vs H1 Q) := ⟨fun h => h⟩
instance v_dEn {a : Addr} {xs : List V} [S : Sx D L H] [ha : Sl K D L a xs] : VC (DEn K [.ref a] H Q) (∀ d H', Sx D ((d, .dK (enK 0 xs)) :: L) H' → Q (.ref d) H') := ⟨fun k => ⟨a, xs, rfl, ha.pf.sq S, fun d hd => k d _ (S.new hd)⟩⟩
end
end Fk

namespace Fk
open PySem PySem.Spec PyProof.Rows L2
/-! ## list + list, whichever lists (the law's script, too) -/
def rCatQ (K : PySem.W.Frag) : R2 := fun x y H Q => ∃ l b xs zs, x = .ref l ∧ y = .ref b ∧ SqL K H l xs ∧ SqL K H b zs ∧ xs.length + zs.length ≤ sizeLine ∧ ∀ p, H p = none → Q (.ref p) (upd H p (.lst (xs ++ zs)))
theorem op_catQ {X : Cx} : OpR X (binaryOp .Add) (rCatQ X.K) := by
  intro pins s σ H x y v u Q I rx ry h
  obtain ⟨l, b, xs, zs, rfl, rfl, hH, hB, hz, q⟩ := h
  cases rx
  cases ry
  obtain ⟨its, r, ⟨⟨cls, dd, data, sl⟩, n, ho, hc, hd0, hd⟩, hl⟩ := I.list hH
  obtain ⟨its2, r2, ⟨⟨cls2, dd2, data2, sl2⟩, n2, ho2, hc2, hd02, hd2⟩, hl2⟩ := I.list hB
  simp only at hc hd hc2 hd2
  subst hc hd hc2 hd2
  have e1 := r.length
  have e2 := r2.length
  have ea : its.toArray ++ its2.toArray = (its ++ its2).toArray := by simp
  refine concat_meets ⟨_, ho, rfl⟩ ⟨_, ho2, rfl⟩ noFill_list_add seq_list_add PySem.F.slot_list_add PySem.F.entry_list_add (PySem.F.args_list_add_2 _ _) (list_addW l b its.toArray its2.toArray n n2 dd dd2 sl sl2 (by rw [List.size_toArray, List.size_toArray]; omega)) ⟨ho, ho2, ?_⟩
  rw [ea]
  exact ⟨.ref _, _, I.lnew (t' := s.toks) (r.append r2) (by rw [List.length_append]; omega), rfl, q _ I.fresh⟩
instance v_catQ {D H : Hp} {L : Own} {K : PySem.W.Frag} {Q : VK} {a b : Addr} {xs ys : List V} [S : Sx D L H] [ha : Sl K D L a xs] [hb : Sl K D L b ys] : VC (rCatQ K (.ref a) (.ref b) H Q) (xs.length + ys.length ≤ 16777216 ∧ ∀ p H', Sx D ((p, .lst (xs ++ ys)) :: L) H' → Q (.ref p) H') :=
  ⟨fun h => ⟨a, b, xs, ys, rfl, rfl, ha.pf.sq S, hb.pf.sq S, h.1, fun p hp => h.2 p _ (S.new hp)⟩⟩
instance v_pow_10_11 {H : Hp} {Q : VK} : VC (rI CPow (fun i j => .int (i ^ j.toNat)) (.int 10) (.int 11) H Q) (Q (.int 100000000000) H) := ⟨fun k => ⟨10, 11, rfl, rfl, ⟨by decide, by decide, by decide⟩, k⟩⟩
/-- a, b = x + .., y + .. with plain local names: stored the other way about -/
theorem sw_two {x y u : Str} {px py pt pu pa pb : Pos} {v bl br : Expr} {o1 o2 : Operator} {kt k2 pt2} {env : Env} (hb : env.blockKind = .function) (hl : (py.line == px.line) = true) (hx : env.scope.names.lookup x = some .local) (hy : env.scope.names.lookup y = some .local) (hne : (x == y) = false)
    (hc : (u == Str.ofString "__debug__") = false) :
    swappedStores [.Tuple [.Name x px, .Name y py] kt pt] (.Tuple [.BinOp (.Name u pu) o1 v pa, .BinOp bl o2 br pb] k2 pt2) env = pure (some [x, y]) := by
  unfold swappedStores
  have e1 : (env.blockKind != .function) = false := by rw [hb]; rfl
  have kx : env.kindOf x = some .local := hx
  have ky : env.kindOf y = some .local := hy
  have e2 : (px.line == px.line) = true := by simp
  have hne' : (y == x) = false := by
    rw [beq_eq_false_iff_ne] at hne ⊢
    exact fun h => hne h.symm
  have e3 : ([.BinOp (.Name u pu) o1 v pa, .BinOp bl o2 br pb] : List Expr).all (constantsAlone 8) = false := by
    simp only [List.all_cons, constantsAlone]
    rw [show (u == ("__debug__" : Str)) = false from hc]
    rfl
  have e4 : List.filterMap (fun x_1 => match x_1 with | Expr.Name id pos => if (env.kindOf id == some NameKind.local && pos.line == px.line) = true then some id else none | x => none) [Expr.Name x px, Expr.Name y py] = [x, y] := by
    simp only [List.filterMap_cons, kx, ky, e2, hl]
    rfl
  have e5 : [x, y].eraseDups = [x, y] := by
    rw [List.eraseDups_cons, List.filter_cons, if_pos (by rw [hne']; rfl)]
    rfl
  simp only [e1, e3]
  show (if _ then _ else if _ then _ else if ((List.filterMap (fun x_1 => match x_1 with | Expr.Name id pos => if (env.kindOf id == some NameKind.local && pos.line == px.line) = true then some id else none | x => none) [Expr.Name x px, Expr.Name y py]).length != 2 || (List.filterMap (fun x_1 => match x_1 with | Expr.Name id pos => if (env.kindOf id == some NameKind.local && pos.line == px.line) = true then some id else none | x => none) [Expr.Name x px, Expr.Name y py]).eraseDups.length != (List.filterMap (fun x_1 => match x_1 with | Expr.Name id pos => if (env.kindOf id == some NameKind.local && pos.line == px.line) = true then some id else none | x => none) [Expr.Name x px, Expr.Name y py]).length) then _ else _) = _
  rw [e4, e5]
  exact congrArg (fun l => (pure (some l) : Sem (Option (List Str)))) e4
end Fk

namespace Fk
open PySem PySem.Spec PyProof.Rows L2 HT
section
variable {prog : Program} {w : World} {A : Around} {E : Value → Shared → Prop} {s : Shared}
theorem places_rev (n : Nat) : Builtin.Slice.slicePlaces ((n : Int) - 1) (-1) (-1) = n := by
  unfold Builtin.Slice.slicePlaces
  have h1 : ¬ ((-1 : Int) > 0) := by omega
  simp only [h1, if_false, Int.neg_neg, Int.ediv_one]
  split <;> omega
theorem sliceApplied_rev {sl : Addr} {vl vu vs : Value} {n : Nat} {Q : Int × Int × Nat → Shared → Prop} (hs : s.heap.IsSliceOf sl vl vu vs) (pl : IsPart vl none) (pu : IsPart vu none) (ps : IsPart vs (some (-1)))
    (h : Q ((n : Int) - 1, -1, n) s) : wpAny (model prog w) A (Builtin.Slice.sliceApplied (.ref sl) (pure (n : Int))) Q E s := by
  obtain ⟨os, hos, hcs, hds⟩ := id hs
  unfold Builtin.Slice.sliceApplied Builtin.Slice.sliceFields
  refine wpAny_bind (wpAny_bind (wpAny_field hos hds (x := vl) rfl (wpAny_bind (wpAny_field hos hds (x := vu) rfl (wpAny_bind (wpAny_field hos hds (x := vs) rfl (wpAny_pure ?_)))))))
  refine wpAny_bind (slicePart_ ps ?_)
  show wpAny _ _ (if ((-1 : Int) == 0) = true then _ else _) _ _ s
  rw [if_neg (by decide)]
  refine wpAny_bind (slicePart_ pl (wpAny_bind (slicePart_ pu (wpAny_bind (wpAny_pure ?_)))))
  show wpAny _ _ (match Builtin.Slice.sliceAdjust none none (-1) (n : Int) with | (lo, hi) => pure (lo, (-1 : Int), Builtin.Slice.slicePlaces lo hi (-1))) _ _ s
  have e : Builtin.Slice.sliceAdjust none none (-1) (n : Int) = ((n : Int) - 1, -1) := by
    unfold Builtin.Slice.sliceAdjust
    simp
  rw [e]
  show wpAny _ _ (pure ((n : Int) - 1, (-1 : Int), Builtin.Slice.slicePlaces ((n : Int) - 1) (-1) (-1))) _ _ s
  rw [places_rev]
  exact wpAny_pure h
theorem fm_congr {α β : Type} {f g : α → Option β} : ∀ {l : List α}, (∀ x, x ∈ l → f x = g x) → l.filterMap f = l.filterMap g
  | [], _ => rfl
  | x :: l, h => by
    rw [List.filterMap_cons, List.filterMap_cons, h x List.mem_cons_self, fm_congr fun y hy => h y (List.mem_cons_of_mem _ hy)]
theorem pick_rev (xs : Array Value) : ((List.range xs.size).filterMap fun (m : Nat) => xs[(((xs.size : Int) - 1) + (m : Int) * (-1)).toNat]?).toArray = xs.toList.reverse.toArray := by
  have := pick_gen xs.toList.reverse.toArray 0 xs.size
  rw [show ((xs.toList.reverse.toArray.toList.drop 0).take xs.size) = xs.toList.reverse by
    show (xs.toList.reverse).take xs.size = _
    rw [List.take_of_length_le (by rw [List.length_reverse, Array.length_toList]; exact Nat.le_refl _)]] at this
  rw [← this]
  refine congrArg List.toArray (fm_congr fun m hm => ?_)
  have hm := List.mem_range.mp hm
  rw [show (((xs.size : Int) - 1) + (m : Int) * (-1)).toNat = xs.size - 1 - m by omega, show (((0 : Nat) : Int) + (m : Int) * 1).toNat = m by omega]
  have e2 : xs.toList.reverse.toArray[m]? = xs.toList.reverse[m]? := by simp
  rw [e2, List.getElem?_reverse (by rw [Array.length_toList]; exact hm), Array.length_toList, Array.getElem?_toList]
theorem getItem_tuple_rev {t sl : Addr} {items : Array Value} {vl vu vs : Value} {Q : Value → Shared → Prop} (ht : IsTup s.heap t items) (hs : s.heap.IsSliceOf sl vl vu vs) (pl : IsPart vl none) (pu : IsPart vu none) (ps : IsPart vs (some (-1)))
    (h : Q (.ref s.heap.objs.size) { s with heap := s.heap.push { cls := .type "tuple", data := .seq items.toList.reverse.toArray } })
    (hsz : items.size ≤ sizeLine) : wpAny (model prog w) A (getItem (.ref t) (.ref sl)) Q E s := by
  have htake : sizeOk (.seq items.toList.reverse.toArray) := by
    show items.toList.reverse.toArray.size ≤ sizeLine
    rw [List.size_toArray, List.length_reverse, Array.length_toList]
    omega
  obtain ⟨os, hos, hcs, hds⟩ := id hs
  have hTs : s.TypeIs (.ref sl) "slice" := ⟨os, hos, hcs⟩
  unfold getItem
  try with_reducible refine wpAny_holding ?_
  first | refine wpAny_bind (wpAny_pure ?_) | skip
  refine wpAny_bind (wpAny_sequenceKey ht.typeIs (by decide) ?_)
  refine wpAny_bind (wpAny_callSpecial?_slot (name := Str.ofString "__getitem__") ht.typeIs PyProof.Rows.slot_tuple_getitem
    (wpAny_call_entry PyProof.Rows.slot_tuple_getitem ht.typeIs entry_tuple_getitem ?_ (args_tuple_getitem _ _)))
  show wpAny _ _ (Builtin.Tuple.tupleItemsOf (.ref t) >>= _) _ _ s
  refine wpAny_bind (tupleItemsOf_ ht ?_)
  refine wpAny_bind (wpAny_typeOf hTs ?_)
  rw [if_pos (by decide)]
  refine wpAny_bind (sliceApplied_rev hs pl pu ps ?_)
  have hno : ¬ ((((items.size : Int) - 1) == 0 && (-1 : Int) == 1 && items.size == items.size) = true) := by
    rw [show ((-1 : Int) == 1) = false from rfl, Bool.and_false, Bool.false_and]
    exact Bool.false_ne_true
  show wpAny _ _ (if (((items.size : Int) - 1) == 0 && (-1 : Int) == 1 && items.size == items.size) = true then _ else _) _ _ s
  rw [if_neg hno, pick_rev]
  first
    | exact wpAny_bind (m := Builtin.Tuple.tupleExact _) (wpAny_newObj_type (wpAny_pure ⟨_, rfl, wpAny_pure h⟩) htake)
    | exact wpAny_bind (m := Builtin.Tuple.tupleExact _) (wpAny_newObj_type (wpAny_bind (wpAny_pure (wpAny_pure ⟨_, rfl, wpAny_pure h⟩))) htake)
    | exact wpAny_bind (wpAny_bind (m := Builtin.Tuple.tupleExact _) (wpAny_newObj_type (wpAny_pure (wpAny_pure ⟨_, rfl, wpAny_pure h⟩)) htake))
    | exact wpAny_bind (wpAny_bind (m := Builtin.Tuple.tupleExact _) (wpAny_newObj_type (wpAny_pure ⟨_, rfl, wpAny_pure h⟩) htake))
end
/-! ### t[::-1] -/
section
variable {X : Cx}
def tRevT (K : PySem.W.Frag) (te : TE) : TE := fun σ H Q => te σ H fun x H1 => ∃ a xs, x = .ref a ∧ SqT K H1 a xs ∧ ∀ p, H1 p = none → Q (.ref p) (upd H1 p (.tup xs.reverse))
theorem pe_revT {e : Expr} {te : TE} {k : Nat} {p1 p2 p3 pos : Pos} (he : PE X e te) : PE X (.Subscript e (.Slice none none (some (.UnaryOp .USub (.Constant (.int 1) k p1) p2)) p3) pos) (tRevT X.K te) := by
  refine ⟨fun pins s σ H Q I h => ?_⟩
  refine Subscript_ (thn (he.run pins s σ H _ I h) fun v s1 ⟨x, H1, I1, r1, q1⟩ => ?_)
  obtain ⟨a, xs, ex, hx, q⟩ := q1
  subst ex
  cases r1
  have hst : PO X (some (.UnaryOp .USub (.Constant (.int 1) k p1) p2)) (tPart (tUn (rU fun i => .int (-i)) (tC (.int 1)))) := po_some (pe_un un_neg pe_int)
  refine wpAny_Slice (thn (po_none.run pins s1 σ H1 (fun o H2 => o = none ∧ H2 = H1) I1 ⟨rfl, rfl⟩) fun vl s2 ⟨l, H2, I2, pl, el, e2⟩ => ?_)
  subst el e2
  refine thn (po_none.run pins s2 σ H2 (fun o H3 => o = none ∧ H3 = H2) I2 ⟨rfl, rfl⟩) fun vu s3 ⟨u, H3, I3, pu, eu, e3⟩ => ?_
  subst eu e3
  refine thn (hst.run pins s3 σ H3 (fun o H4 => o = some (-1) ∧ H4 = H3) I3 ⟨1, rfl, -1, rfl, rfl, rfl⟩) fun vs s4 ⟨o, H4, I4, ps, eo, e4⟩ => ?_
  subst eo e4
  have I5 : Inv X pins σ H4 { s4 with heap := s4.heap.push { cls := .type "slice", data := .fields #[vl, vu, vs] } } := I4.kept (t' := s4.toks) fun b ob q => Heap.get?_push_of_some _ q
  obtain ⟨its, r, ht, hz⟩ := I5.tuple hx
  have hlen := r.length
  show wpAny (model X.prog X.w) X.A (subscriptTail e (.Slice none none (some (.UnaryOp .USub (.Constant (.int 1) k p1) p2)) p3) (.ref a) (.ref s4.heap.objs.size)) (EP X pins σ Q) X.xe { s4 with heap := s4.heap.push { cls := .type "slice", data := .fields #[vl, vu, vs] } }
  refine tail_any (ops := [.ref a, .ref s4.heap.objs.size]) ht.typeIs PyProof.Rows.slot_tuple_getitem.lookup ?_ (by with_unfolding_all rfl)
  refine getItem_tuple_rev ht (Heap.IsSliceOf.new _ vl vu vs) pl pu ps ?_ (by rw [List.size_toArray]; omega)
  refine ⟨.ref _, _, I5.laid (t' := s4.toks) (o := .tup xs.reverse) (fun b ob q => Heap.get?_push_of_some _ q) (Nat.le_refl _) ?_, rfl, q _ (I5.hok.fresh (Nat.le_refl _))⟩
  exact ⟨by rw [List.length_reverse]; exact hz, _, r.reverse, IsTup.new _ _⟩
end
section
variable {σ : L2.St} {D H : Hp} {L : Own} {K : PySem.W.Frag} {Q : VK}
def IsRvT (K : PySem.W.Frag) (x : V) (H1 : Hp) (Q : VK) : Prop := ∃ a xs, x = .ref a ∧ SqT K H1 a xs ∧ ∀ p, H1 p = none → Q (.ref p) (upd H1 p (.tup xs.reverse))
instance v_rvT0 {te : TE} : VC (tRevT K te σ H Q) (te σ H fun x H1 => IsRvT K x H1 Q) := ⟨fun h => h⟩
instance v_rvT1 {a : Addr} {xs : List V} [S : Sx D L H] [ha : Kn D a (.tup xs)] : VC (IsRvT K (.ref a) H Q) (∀ p D' H', Sx D' L H' → Sm D D' → Kn D' p (.tup xs.reverse) → Q (.ref p) H') := ⟨fun h => ⟨a, xs, rfl, sqT S ha.pf, fun p hp => h p _ _ (S.fix hp) ⟨same_upd (S.dH.free hp)⟩ ⟨upd_same⟩⟩⟩
end
end Fk

namespace Fk
open PySem PySem.Spec PyProof.Rows L2 PySem.Calls PyProof.V
/-! ## dict(enumerate(t)) of a tuple: the list's facts of the library turned to tuples -/
section
variable {prog : Program} {w : World} {A : Around} {E : Value → Shared → Prop} {s : Shared}
theorem enumT_next_held {e it l T : Addr} {i : Nat} {items : Array Value} {x old : Value} {f : Bool} {oT : Obj} {Q : Value → Shared → Prop}
    (he : IsEnumHeld s.heap e it i old T f) (hT : s.heap.get? T = some oT) (hTe : T ≠ e) (hTi : T ≠ it) (hit : s.heap.IsTupleIter it l i) (hl : s.heap.IsTuple l items) (hx : items[i]? = some x) (hne : e ≠ it)
    (hQ : ∀ h', IsEnumHeld h' e it ((i : Int) + 1) old T true → h'.IsTupleIter it l (i + 1) →
      h'.get? s.heap.objs.size = some { cls := .type "tuple", data := .seq #[.int i s.toks, x] } → h'.objs.size = s.heap.objs.size + 1 →
      (∀ b o, b ≠ e → b ≠ it → s.heap.get? b = some o → h'.get? b = some o) → Q (.ref s.heap.objs.size) { s with heap := h', toks := s.toks + 1 }) :
    wpAny (model prog w) A (Builtin.«enumerate.__next__» ⟨[.ref e], []⟩) (fun fin s' => ∃ v, fin = .done (.ret v) ∧ Q v s') E s := by
  obtain ⟨hp, g, d, tk, os⟩ := s
  show wpAny _ _ (field (.ref e) 2 >>= _) _ _ _
  refine wpAny_bind (wpAny_field he rfl (x := .ref it) rfl ?_)
  refine wpAny_bind (wpAny_nextOf_tuple_item hit hl hx fun h₁ hit₁ hs₁ => ?_)
  replace hs₁ : Heap.SameBut it hp h₁ := hs₁
  have he₁ : IsEnumHeld h₁ e it i old T f := (hs₁.2 e hne).trans he
  show wpAny _ _ (field (.ref e) 3 >>= _) _ _ ⟨h₁, g, d, tk, os⟩
  refine wpAny_bind (wpAny_field he₁ rfl (x := rawInt i) rfl ?_)
  show wpAny _ _ (field (.ref e) 4 >>= _) _ _ ⟨h₁, g, d, tk, os⟩
  refine wpAny_bind (wpAny_field he₁ rfl (x := .none) rfl ?_)
  show wpAny _ _ (mkInt i >>= _) _ _ ⟨h₁, g, d, tk, os⟩
  refine wpAny_bind (wpAny_mkInt ?_)
  show wpAny _ _ (setField (.ref e) 3 (rawInt ((i : Int) + 1)) >>= _) _ _ ⟨h₁, g, d, tk + 1, os⟩
  refine wpAny_bind (wpAny_setField_rec he₁ (by simp) fun h₂ he₂ hs₂ => ?_)
  replace hs₂ : Heap.SameBut e h₁ h₂ := hs₂
  replace he₂ : IsEnumHeld h₂ e it ((i : Int) + 1) old T f := he₂
  show wpAny _ _ (setField (.ref e) 4 .none >>= _) _ _ ⟨h₂, g, d, tk + 1, os⟩
  refine wpAny_bind (wpAny_setField_rec he₂ (by simp) fun h₃ he₃ hs₃ => ?_)
  replace hs₃ : Heap.SameBut e h₂ h₃ := hs₃
  replace he₃ : IsEnumHeld h₃ e it ((i : Int) + 1) old T f := he₃
  show wpAny _ _ (newTuple [.int i tk, x] >>= _) _ _ ⟨h₃, g, d, tk + 1, os⟩
  refine wpAny_bind (wpAny_newTuple ?_)
  have he₄ : IsEnumHeld (h₃.push { cls := .type "tuple", data := .seq #[.int i tk, x] }) e it ((i : Int) + 1) old T f := Heap.get?_push_of_some _ he₃
  generalize hh₄ : h₃.push { cls := .type "tuple", data := .seq #[.int i tk, x] } = h₄ at he₄
  have hsz : h₃.objs.size = hp.objs.size := by rw [hs₃.1, hs₂.1, hs₁.1]
  have hel : e < hp.objs.size := Heap.lt_size he
  have ht₄ : h₄.get? hp.objs.size = some { cls := .type "tuple", data := .seq #[.int i tk, x] } := by rw [← hh₄, ← hsz]; exact Heap.get?_push_size _ rfl
  have hz₄ : h₄.objs.size = hp.objs.size + 1 := by rw [← hh₄, Heap.size_push, hsz]
  have hk₄ : ∀ b o, b ≠ e → b ≠ it → hp.get? b = some o → h₄.get? b = some o := fun b o hbe hbi hb => by
    rw [← hh₄]; exact Heap.get?_push_of_some _ (hs₃.extBut b o hbe (hs₂.extBut b o hbe (hs₁.extBut b o hbi hb)))
  have hit₄ : h₄.IsTupleIter it l (i + 1) := by
    rw [← hh₄]; obtain ⟨o, ho, r⟩ := (hit₁.extBut hs₂.extBut (Ne.symm hne)).extBut hs₃.extBut (Ne.symm hne); exact ⟨o, Heap.get?_push_of_some _ ho, r⟩
  show wpAny _ _ (Builtin.SmallTypes.ownedTupleIsFree (.ref e) >>= _) _ _ ⟨h₄, g, d, tk + 1, os⟩
  rw [hsz]
  clear hh₄ he₃ hs₃ he₂ hs₂ he₁ hs₁ hit₁ hsz h₃ h₂ h₁
  refine wpAny_bind (wpAny_tupleHeld_enum (s := ⟨h₄, g, d, tk + 1, os⟩) he₄ (hk₄ T oT hTe hTi hT) fun h₅ he₅ hs₅ => ?_)
  replace hs₅ : Heap.SameBut e h₄ h₅ := hs₅
  simp only [Bool.false_eq_true, if_false]
  refine wpAny_pure ⟨_, rfl, hQ h₅ he₅ (hit₄.extBut hs₅.extBut (Ne.symm hne)) (hs₅.extBut _ _ (Nat.ne_of_gt hel) ht₄) ?_ fun b o hbe hbi hb => hs₅.extBut b o hbe (hk₄ b o hbe hbi hb)⟩
  show h₅.objs.size = hp.objs.size + 1
  rw [hs₅.1, hz₄]
theorem enumT_item_held {e it l T : Addr} {i : Nat} {items : Array Value} {x old : Value} {f : Bool} {oT : Obj} {Q : Option Value → Shared → Prop}
    (he : IsEnumHeld s.heap e it i old T f) (hT : s.heap.get? T = some oT) (hTe : T ≠ e) (hTi : T ≠ it) (hit : s.heap.IsTupleIter it l i) (hl : s.heap.IsTuple l items) (hx : items[i]? = some x) (hne : e ≠ it)
    (hQ : ∀ h', IsEnumHeld h' e it ((i : Int) + 1) old T true → h'.IsTupleIter it l (i + 1) →
      h'.get? s.heap.objs.size = some { cls := .type "tuple", data := .seq #[.int i s.toks, x] } → h'.objs.size = s.heap.objs.size + 1 →
      (∀ b o, b ≠ e → b ≠ it → s.heap.get? b = some o → h'.get? b = some o) → Q (some (.ref s.heap.objs.size)) { s with heap := h', toks := s.toks + 1 }) :
    wpAny (model prog w) A (pyNext (.ref e)) Q E s := by
  have hTy : s.TypeIs (.ref e) "enumerate" := ⟨_, he, rfl⟩
  unfold pyNext
  exact wpAny_bind (wpAny_attempt (wpAny_callSpecial?_slot (name := Str.ofString "__next__") hTy F.slot_enumerate_next
    (wpAny_call_entry F.slot_enumerate_next hTy F.entry_enumerate_next
      (enumT_next_held he hT hTe hTi hit hl hx hne fun h' a1 a2 a3 a4 a5 => wpAny_pure (hQ h' a1 a2 a3 a4 a5)) (F.args_enumerate_next_1 _))))
theorem enumT_end_held {e it l T : Addr} {i : Nat} {items : Array Value} {old : Value} {f : Bool} {Q : Option Value → Shared → Prop} (hh : A.handled = none)
    (he : IsEnumHeld s.heap e it i old T f) (hit : s.heap.IsTupleIter it l i) (hl : s.heap.IsTuple l items) (hx : items[i]? = none)
    (hQ : ∀ h', Heap.ExtBut it s.heap h' → Q none { s with heap := h' }) : wpAny (model prog w) A (pyNext (.ref e)) Q E s := by
  have hTy : s.TypeIs (.ref e) "enumerate" := ⟨_, he, rfl⟩
  unfold pyNext
  refine wpAny_bind (wpAny_attempt (wpAny_callSpecial?_slot (name := Str.ofString "__next__") hTy F.slot_enumerate_next
    (wpAny_call_entry F.slot_enumerate_next hTy F.entry_enumerate_next ?_ (F.args_enumerate_next_1 _))))
  show wpAny _ _ (field (.ref e) 2 >>= _) _ _ _
  refine wpAny_bind (wpAny_field he rfl (x := .ref it) rfl ?_)
  refine wpAny_bind (wpAny_nextOf_tuple_end hh hit hl hx fun h' x he' hx' => ?_)
  obtain ⟨o, ho, hc⟩ := hx'
  refine wpAny_bind (wpAny_isInstance (T := "StopIteration") (b := true) ⟨o, ho, hc⟩ isSubtype_stop ?_)
  exact wpAny_pure (hQ _ he')

theorem pairArg_enumT (e it l : Addr) (hei : e ≠ it) (hle : l ≠ e) (hli : l ≠ it) (items : Array Value) :
    PairArg prog w "enumerate" e [e, it, l] [e, it] items.size (fun i k v => (∃ t, k = .int i t) ∧ items[i]? = some v)
      (fun h => (∃ old, IsEnum h e it 0 old) ∧ h.IsTupleIter it l 0 ∧ h.IsTuple l items) where
  type := fun s ok => let ⟨⟨_, he⟩, _⟩ := ok; ⟨_, he, rfl⟩
  notDict := by decide
  keep := fun h h' ok hk => by
    obtain ⟨⟨old, he⟩, hit, hl⟩ := ok
    exact ⟨⟨old, hk _ _ he⟩, hit.at fun o x => hk _ o x, hl.at fun o x => hk _ o x⟩
  there := fun h ok b hb => by
    obtain ⟨⟨old, he⟩, ⟨o1, h1, _⟩, ⟨o2, h2, _⟩⟩ := ok
    simp only [List.mem_cons, List.not_mem_nil, or_false] at hb
    rcases hb with rfl | rfl | rfl
    all_goals first | exact ⟨_, he⟩ | exact ⟨_, h1⟩ | exact ⟨_, h2⟩
  sub := fun b hb => by simp at hb ⊢; rcases hb with rfl | rfl <;> simp
  noKeys := fun A s Q E hA ok h => let ⟨⟨_, he⟩, _⟩ := ok; getAttrOr_miss_enumerate he rfl rfl rfl enumerate_no_keys (by decide +kernel) hA h
  iter := fun A s d Q E hA ok hd hdf h => by
    obtain ⟨⟨old, he⟩, hit, hl⟩ := ok
    simp only [List.mem_cons, List.not_mem_nil, or_false, not_or] at hdf
    obtain ⟨de, dit, dl⟩ := hdf
    refine wpAny_pyIter_enum he (h e [e, it] (fun i h => h.IsTupleIter it l i ∧ h.IsTuple l items ∧ ((∃ old, IsEnum h e it i old) ∨ ∃ old T f oT, IsEnumHeld h e it i old T f ∧ h.get? T = some oT ∧ T ≠ e ∧ T ≠ it ∧ T ≠ d)) s.heap s.toks ?_
      ⟨hit, hl, .inl ⟨old, he⟩⟩ (fun _ _ e => e) fun b hb => .inl hb)
    exact {
      off := fun hm => by
        simp only [List.mem_cons, List.not_mem_nil, or_false] at hm
        rcases hm with x | x
        · exact de x
        · exact dit x
      frame := fun i h₁ h₂ st hk => by
        obtain ⟨hit, hl, he⟩ := st
        refine ⟨hit.at fun o x => hk _ o (Ne.symm dit) x, hl.at fun o x => hk _ o (Ne.symm dl) x, ?_⟩
        rcases he with ⟨old, he⟩ | ⟨old, T, f, oT, he, hT, r1, r2, r3⟩
        · exact .inl ⟨old, hk _ _ (Ne.symm de) he⟩
        · exact .inr ⟨old, T, f, oT, hk _ _ (Ne.symm de) he, hk _ _ r3 hT, r1, r2, r3⟩
      item := fun i s₁ Q₁ E₁ hi st hds hQ => by
        obtain ⟨hit, hl, he⟩ := st
        have ex := Array.getElem?_eq_getElem hi
        have ec : ((i + 1 : Nat) : Int) = (i : Int) + 1 := by omega
        have nit : s₁.heap.objs.size ≠ it := let ⟨_, x, _⟩ := hit; Nat.ne_of_gt (Heap.lt_size x)
        rcases he with ⟨old, he⟩ | ⟨old, T, f, oT, he, hT, r1, r2, r3⟩
        · refine wpAny_pyNext_enum_itemD (Draws.tuple (A := A.in1) (show A.in1.handled = none from hA) it l hli items) he ⟨hit, hl⟩ hi hei (by simp [hei, Ne.symm hle]) fun x h' tk hx ho hit' hT hsz hk => ?_
          exact hQ s₁.heap.objs.size _ _ h' (tk + 1) ⟨⟨_, rfl⟩, hx⟩ (.inl ⟨_, hT, rfl, _, rfl⟩)
            ⟨hit'.1, hit'.2, .inr ⟨_, s₁.heap.objs.size, false, _, (by rw [ec]; exact ho), hT, Nat.ne_of_gt (Heap.lt_size he), nit, Nat.ne_of_gt hds⟩⟩
            fun b o hb x => hk b o (fun y => hb (by simp [y])) (fun y => hb (by simp [y])) x
        · refine enumT_item_held he hT r1 r2 hit hl ex hei fun h' ho hit' hT' hsz hk => ?_
          exact hQ s₁.heap.objs.size _ _ h' (s₁.toks + 1) ⟨⟨_, rfl⟩, ex⟩ (.inl ⟨_, hT', rfl, _, rfl⟩)
            ⟨hit', hl.at fun o x => hk l o hle hli x, .inr ⟨old, T, true, oT, (by rw [ec]; exact ho), hk _ _ r1 r2 hT, r1, r2, r3⟩⟩
            fun b o hb x => hk b o (fun y => hb (by simp [y])) (fun y => hb (by simp [y])) x
      done := fun s₁ Q₁ E₁ st hQ => by
        obtain ⟨hit, hl, he⟩ := st
        have hx : items[items.size]? = none := Array.getElem?_eq_none (Nat.le_refl _)
        rcases he with ⟨old, he⟩ | ⟨old, T, f, oT, he, hT, r1, r2, r3⟩
        · exact enumT_end hA he hit hl hx fun h' hk => hQ h' s₁.toks fun b o hb x => hk b o (fun y => hb (by simp [y])) x
        · exact enumT_end_held hA he hit hl hx fun h' hk => hQ h' s₁.toks fun b o hb x => hk b o (fun y => hb (by simp [y])) x }
end

def DEnX (K : PySem.W.Frag) (vs : List V) (H1 : Hp) (Q : VK) : Prop := DEn K vs H1 Q ∨ ∃ a xs, vs = [.ref a] ∧ SqT K H1 a xs ∧ ∀ d, H1 d = none → Q (.ref d) (upd H1 d (.dK (enK 0 xs)))
def tDictEnX (K : PySem.W.Frag) (ta : TA) : TE := fun σ H Q => ta σ H fun vs H1 => DEnX K vs H1 Q
theorem pe_dictEnX (K : PySem.W.Frag) {X : Cx} {e : Expr} {ta : TA} {p p2 pos pos2 : Pos} (hc : X.calm = true) (hgd : Gl X "dict") (hmd : X.mg "dict" = none) (hge : Gl X "enumerate") (hme : X.mg "enumerate" = none) (ha : PA X [e] ta) (hK : X.K = K := by rfl)
    (hs1 : starEach [e] X.env = [(false, eval e X.env)] := by rfl) (hs2 : starEach [.Call (.Name "enumerate" p2) [e] [] pos2] X.env = [(false, eval (.Call (.Name "enumerate" p2) [e] [] pos2) X.env)] := by rfl) :
    PE X (.Call (.Name "dict" p) [.Call (.Name "enumerate" p2) [e] [] pos2] [] pos) (tDictEnX K ta) := by
  subst hK
  refine ⟨fun pins s σ H Q I h => ?_⟩
  refine Call_ (ld_blt I hgd hmd PyProof.Rows.boot_dict (PyProof.Rows.callWith_type1 ?_ hs2 rfl))
  rw [hs2]
  show wpAny _ _ (spliced ((false, eval (.Call (.Name "enumerate" p2) [e] [] pos2) X.env) :: [])) _ _ s
  refine Calls.spliced_cons ?_
  refine Call_ (ld_blt I hge hme boot_enumerate (PyProof.Rows.callWith_type1 (thn (ha.run pos2 pins s σ H _ I h) fun us s1 ⟨vs, H1, I1, r1, q1⟩ => ?_) hs1 rfl))
  rcases q1 with ⟨a, xs, ex, hq, q⟩ | ⟨a, xs, ex, hq, q⟩
  · subst ex
    cases r1 with
    | cons r rr =>
      cases rr
      cases r
      obtain ⟨its, rv, p', hz⟩ := I1.list hq
      have la : a < s1.heap.objs.size := p'.lt
      refine call_enumerate_list p'.isList fun h' he hit hsz hk => ?_
      refine Calls.spliced_nil ?_
      have hl' : h'.IsList a its.toArray := p'.isList.at fun o x => hk a o x
      refine PySem.call_dict_pairs (K := Key) (knd := mixKind X.prog X.w) (kvs := enKV 0 its) (PairArg.enumerate (s1.heap.objs.size + 1) s1.heap.objs.size a (Nat.succ_ne_self _) (Nat.ne_of_lt (Nat.lt_succ_of_lt la)) (Nat.ne_of_lt la) its.toArray) (I1.ok.hd hc) ⟨⟨_, he⟩, hit, hl'⟩ ⟨by rw [enKV_len]; simp, fun i key v ⟨⟨t, ek⟩, ev⟩ => ?_⟩ ?_ fun h2 tk hd' k => ?_
      · refine ⟨Sum.inl (i : Int), ?_, ?_⟩
        · have := enKV_get (j := 0) (us := its) (i := i) (u := v) (by simpa using ev)
          rw [Nat.zero_add] at this
          exact this
        · rw [ek]
          exact kV_is (P := X.prog) (w := X.w) (k := Sum.inl (i : Int)) ⟨t, rfl⟩
      · have := rv.length
        simp only [List.size_toArray]
        omega
      · have hlv := rv.length
        have hm : (h'.objs.size == sysModules) = false := beq_eq_false_iff_ne.mpr (Nat.ne_of_gt (by rw [hsz]; exact Nat.lt_succ_of_lt (Nat.lt_succ_of_lt I1.big)))
        have e0 : mergeK [] (enK 0 xs) = enK 0 xs := by rw [merge_en xs 0 [] (fun kv h => nomatch h), List.nil_append]
        have hrel : KV (enK 0 xs) (merged [] (enKV 0 its)) := by
          have := KV.merge (enKV_rel (j := 0) rv) (.nil : KV [] [])
          rw [e0] at this
          exact this
        have hlen : (enK 0 xs).length ≤ sizeLine := by rw [enK_len]; exact hz
        refine ⟨.ref h'.objs.size, upd H1 h'.objs.size (.dK (enK 0 xs)), I1.laid (t' := tk) (h' := h2) (fun b o e => k b o (fun z => ?_) (hk b o e)) (by rw [hsz]; exact Nat.le_add_right _ _) (show ObjOk X.prog X.w _ _ _ (.dK (enK 0 xs)) from ⟨hlen, hm, merged [] (enKV 0 its), hrel, hd'⟩), rfl, q _ (I1.hok.fresh (by rw [hsz]; exact Nat.le_add_right _ _))⟩
        have hb := Heap.lt_size e
        have z2 : b = s1.heap.objs.size + 1 ∨ b = s1.heap.objs.size := by simpa using z
        rcases z2 with z | z
        · rw [z] at hb; exact absurd hb (Nat.not_lt.mpr (Nat.le_succ _))
        · rw [z] at hb; exact absurd hb (Nat.lt_irrefl _)
  · subst ex
    cases r1 with
    | cons r rr =>
      cases rr
      cases r
      obtain ⟨its, rv, p', hz⟩ := I1.tuple hq
      have la : a < s1.heap.objs.size := p'.lt
      refine call_enumB (begins_tuple a its.toArray) (show s1.heap.IsTuple a its.toArray from p') fun h' he hit0 hk => ?_
      refine Calls.spliced_nil ?_
      have hsl : s1.heap.objs.size < h'.objs.size := Nat.lt_trans (Nat.lt_succ_self _) (Heap.lt_size he)
      have p2' : s1.heap.IsTuple a its.toArray := p'
      have hl' : h'.IsTuple a its.toArray := p2'.at fun o x => hk a o x
      have hit : h'.IsTupleIter s1.heap.objs.size a 0 := ⟨_, hit0, rfl, rfl⟩
      refine PySem.call_dict_pairs (K := Key) (knd := mixKind X.prog X.w) (kvs := enKV 0 its) (pairArg_enumT (s1.heap.objs.size + 1) s1.heap.objs.size a (Nat.succ_ne_self _) (Nat.ne_of_lt (Nat.lt_succ_of_lt la)) (Nat.ne_of_lt la) its.toArray) (I1.ok.hd hc) ⟨⟨_, he⟩, hit, hl'⟩ ⟨by rw [enKV_len]; simp, fun i key v ⟨⟨t, ek⟩, ev⟩ => ?_⟩ ?_ fun h2 tk hd' k => ?_
      · refine ⟨Sum.inl (i : Int), ?_, ?_⟩
        · have := enKV_get (j := 0) (us := its) (i := i) (u := v) (by simpa using ev)
          rw [Nat.zero_add] at this
          exact this
        · rw [ek]
          exact kV_is (P := X.prog) (w := X.w) (k := Sum.inl (i : Int)) ⟨t, rfl⟩
      · have := rv.length
        simp only [List.size_toArray]
        omega
      · have hlv := rv.length
        have hm : (h'.objs.size == sysModules) = false := beq_eq_false_iff_ne.mpr (Nat.ne_of_gt (Nat.lt_trans I1.big hsl))
        have e0 : mergeK [] (enK 0 xs) = enK 0 xs := by rw [merge_en xs 0 [] (fun kv h => nomatch h), List.nil_append]
        have hrel : KV (enK 0 xs) (merged [] (enKV 0 its)) := by
          have := KV.merge (enKV_rel (j := 0) rv) (.nil : KV [] [])
          rw [e0] at this
          exact this
        have hlen : (enK 0 xs).length ≤ sizeLine := by rw [enK_len]; exact hz
        refine ⟨.ref h'.objs.size, upd H1 h'.objs.size (.dK (enK 0 xs)), I1.laid (t' := tk) (h' := h2) (fun b o e => k b o (fun z => ?_) (hk b o e)) (Nat.le_of_lt hsl) (show ObjOk X.prog X.w _ _ _ (.dK (enK 0 xs)) from ⟨hlen, hm, merged [] (enKV 0 its), hrel, hd'⟩), rfl, q _ (I1.hok.fresh (Nat.le_of_lt hsl))⟩
        have hb := Heap.lt_size e
        have z2 : b = s1.heap.objs.size + 1 ∨ b = s1.heap.objs.size := by simpa using z
        rcases z2 with z | z
        · rw [z] at hb; exact absurd hb (Nat.not_lt.mpr (Nat.le_succ _))
        · rw [z] at hb; exact absurd hb (Nat.lt_irrefl _)
section
variable {σ : L2.St} {D H : Hp} {L : Own} {K : PySem.W.Frag} {Q : VK}
instance v_dictEnX0 {ta : TA} : VC (tDictEnX K ta σ H Q) (ta σ H fun vs H1 => DEnX K vs H1 Q) := ⟨fun h => h⟩
instance v_dictEnX1 {a : Addr} {xs : List V} [S : Sx D L H] [ha : Ks D a xs] : VC (DEnX K [.ref a] H Q) (∀ p H', Sx D ((p, .dK (enK 0 xs)) :: L) H' → Q (.ref p) H') := ⟨fun h => ha.pf.elim
  (fun e => .inl ⟨a, xs, rfl, (rsD (K := K) (L := L) e).sq S, fun p hp => h p _ (S.new hp)⟩)
  (fun e => .inr ⟨a, xs, rfl, sqT S e, fun p hp => h p _ (S.new hp)⟩)⟩
end
end Fk

set_option Elab.async false
set_option linter.all false
set_option maxRecDepth 100000
set_option maxHeartbeats 1000000
namespace Fk
open PySem PySem.Spec PyProof.Rows L2
local macro_rules | `(tactic| wtm_at "sz") => `(tactic| (simp only [List.length_map, List.length_cons, List.length_nil, List.length_append, List.length_replicate, List.length_take, List.length_drop, List.length_range, List.length_reverse]; omega))
local macro_rules | `(tactic| wtm_at "side") => `(tactic| first | omega | assumption | wtm_at "sz" | (simp only [List.length_cons, List.length_nil, Nat.reduceAdd, Nat.reduceLeDiff, Nat.reduceLT]; done) | exact Or.inl (by omega) | exact Or.inr (Or.inl (by omega)) | exact ⟨by decide, by decide, by decide⟩)
local macro_rules | `(tactic| wtm_at "v2") => `(tactic| first
  | refine And.intro (by wtm_at "side") ?_
  | with_reducible intro _
  | with_reducible refine if_dt (by first | assumption | omega) ?_ | with_reducible refine if_df (by first | assumption | omega) ?_
  | with_reducible refine if_ndt (by first | assumption | omega) ?_ | with_reducible refine if_ndf (by first | assumption | omega) ?_)
local macro_rules | `(tactic| wtm_at "vc") => `(tactic| repeat (first | refine VC.pf ?_ | wtm_at "v2"))
def clsBody : Stmt → List Stmt
  | .ClassDef (body := b) .. => b
  | _ => []
def topS (i : Nat) : Stmt := PySem.Challenge.pw_fewreels_k55_turned_reels_refused.main.body.getD i (.Pass ⟨0, 0, 0, 0⟩)
section
variable {P : Program} {w : World} {K : PySem.W.Frag} {mg : Str → Option Value} {base : Heap}
abbrev st__law_counts : Stmt := topS 35
theorem sc__law_counts : FnScope ["p", "n", "counts", "turn", "more"] ["p", "n"] (defScope st__law_counts) := ⟨rfl, rfl, rfl, by decide +kernel, rfl, by decide +kernel, by decide +kernel⟩
def firstC (p : Nat) : List Int := 1 :: List.replicate (p - 1) 0
def highC (ns : List Int) : List Int := (ns.drop 1).map (fun x => ns.headD 0 + x) ++ [ns.headD 0]
def lvlC (p : Nat) : Nat → List Int
  | 0 => firstC p
  | n + 1 => highC (lvlC p n)
theorem firstC_len {p : Nat} (h : 1 ≤ p) : (firstC p).length = p := by
  unfold firstC
  rw [List.length_cons, List.length_replicate]
  omega
theorem highC_len {ns : List Int} (h : 1 ≤ ns.length) : (highC ns).length = ns.length := by
  unfold highC
  rw [List.length_append, List.length_map, List.length_drop]
  show _ + 1 = _
  omega
theorem lvlC_len {p : Nat} (h : 1 ≤ p) (n : Nat) : (lvlC p n).length = p := by
  induction n with
  | zero => exact firstC_len h
  | succ n ih => show (highC (lvlC p n)).length = p; rw [highC_len (by omega), ih]
theorem lvlC_cons {p : Nat} (h : 1 ≤ p) (n : Nat) : ∃ y r, lvlC p n = y :: r ∧ r.length = p - 1 := by
  have hl := lvlC_len h n
  cases e : lvlC p n with
  | nil => rw [e] at hl; simp at hl; omega
  | cons y r => rw [e, List.length_cons] at hl; exact ⟨y, r, rfl, by omega⟩
theorem firstC_eq {p : Int} (h : 2 ≤ p) : firstC p.toNat = 1 :: List.replicate (p - 1).toNat 0 := by
  unfold firstC
  rw [show p.toNat - 1 = (p - 1).toNat by omega]

def sp__law_counts (K : PySem.W.Frag) : Sp := fun vs H Q _ => ∃ (D : Hp) (L : Own) (p n : Nat), vs = [.int (p : Int), .int (n : Int)] ∧ 2 ≤ p ∧ p ≤ 7 ∧ n ≤ 300 ∧ Sx D L H ∧
  ∀ (a : Addr) H', Sx D ((a, .lst ((lvlC p n).map V.int)) :: L) H' → Q (.ref a) H'
theorem ok__law_counts {fA : Addr} {fd : FuncData} (F : Fun K "_law_counts" "_law_counts" st__law_counts fA fd) (b_range : mg "range" = none) : FnOk P w K mg base CX0 1 fA fd ["p", "n"] (sp__law_counts K) := by
  refine F.ok sc__law_counts (fun vs H Q E h => ?_) (fun cdv A outer s H vs Q E hr h => ?_)
  · obtain ⟨D, L, p, n, rfl, h2, h7, hn, S, q⟩ := h
    rfl
  · obtain ⟨D, L, p, n, rfl, h2, h7, hn, S, q⟩ := h
    have hu : (A.deeper (envOfC "_law_counts" (defScope st__law_counts) s.heap.objs.size fA cdv)).units + 64 < cLine := by have := hr.un; omega
    refine ⟨_, (pss_cons (ps_set (i := 2) sc__law_counts.nd rfl (Or.inr rfl) (pe_op (r := rAddX K) opAdd (pe_lst (pa_cons pe_int pa_nil)) (pe_op (r := rMulU K) opMulU (pe_lst (pa_cons pe_int pa_nil)) (pe_op op_sub (pv 0) pe_int))))
      (pss_cons (ps_for PassesOwn.never rfl (pi_range1 (by rfl) b_range (pa_cons (pv 1) pa_nil)) (pg_name (i := 3) sc__law_counts.nd rfl (Or.inl rfl))
      (pss_one (ps_set (i := 2) sc__law_counts.nd rfl (Or.inr rfl) (pe_op (r := rAddX K) opAdd (pe_lc (own := [("more", 4)]) (tt := tYes) rfl sc__law_counts.nd (pi_seqK K (pe_slice (r := rSlX K) slX (pv 2) (po_some pe_int) po_none)) (blkOk_by (N := ["p", "n", "counts", "turn", "more"]) (sc := defScope st__law_counts) (by decide +kernel)) (fun _ _ _ _ _ => (pg_name (i := 4) sc__law_counts.nd rfl (Or.inl rfl))) (fun _ _ _ _ _ => pts_nil) (fun _ _ _ _ _ => (pe_op (r := rAddX K) opAdd (pe_ix (r := rIx K) ix_seq (pv 2) pe_int (fun _ _ => rfl)) (pv 4)))) (pe_lst (pa_cons (pe_ix (r := rIx K) ix_seq (pv 2) pe_int (fun _ _ => rfl)) pa_nil))))))
      (pss_one (ps_ret (pv 2))))), ?_⟩
    refine st_start (σ' := [some _, some _, none, none, none]) rfl (fun bk ct => ?_)
    wtm_at "vc"
    rename_i q1 H1 S1 q2 H2 S2 q3 H3 S3 b4 H4 S4
    have e0 : [V.int 1] ++ List.replicate ((p : Int) - 1).toNat (V.int 0) = (lvlC p 0).map V.int := by
      show _ = (firstC p).map V.int
      have := firstC_eq (p := (p : Int)) (by omega)
      rw [Int.toNat_natCast] at this
      rw [this, List.map_cons, List.map_replicate]
      rfl
    rw [e0] at S4
    rw [Int.toNat_natCast]
    refine for_go (walk_rng (lo := 0) (n := n)) (fun i σ H => ∃ x b, σ = [some (.int (p : Int)), some (.int (n : Int)), some (.ref b), x, none] ∧ Sx D ((b, .lst ((lvlC p i).map V.int)) :: L) H)
      ⟨_, b4, rfl, Sx.gc (S := S4)⟩ (fun _ _ _ _ _ => trivial) (fun i v σ H2 H3 hi ⟨x, b, es, S2⟩ hy nx bk hN => ?_) (fun σ H2 ⟨x, b, es, S2⟩ => ?_)
    · obtain ⟨rfl, rfl⟩ := hy
      subst es
      obtain ⟨y, r, hr2, hl⟩ := lvlC_cons (p := p) (by omega) i
      have hx : lvlC p (i + 1) = (r.map fun z => y + z) ++ [y] := by
        show highC (lvlC p i) = _
        rw [hr2]
        rfl
      rw [hr2] at S2
      wtm_at "vc"
      rename_i b5 H5 S5
      refine lc_vals (S := S5) (walk_list (xs := r.map V.int)) (by rw [List.length_map]; omega) (r.map fun z => V.int (y + z)) (by rw [List.length_map, List.length_map]) (fun p acc H' S' => Rds.sq S' (Sl.pf (a := b5))) (fun j v q2 acc H4 H5 hj S5 hy Ad hA => ?_) (fun b5 H5 S5 => ?_)
      · obtain ⟨rfl, hv⟩ := hy
        obtain ⟨z, hz, rfl⟩ := getI hv
        wtm_at "vc"
        exact hA _ _ S5 (by rw [List.getElem?_map, hz]; rfl)
      · wtm_at "vc"
        rename_i b7 H7 S7 b6 H6 S6
        have hx' : (lvlC p (i + 1)).map V.int = (r.map fun z => V.int (y + z)) ++ [V.int y] := by
          rw [hx, List.map_append, List.map_map]
          rfl
        rw [← hx'] at S6
        exact hN _ _ ⟨_, _, rfl, Sx.gc (S := S6)⟩
    · subst es
      wtm_at "vc"
      exact q b _ S2
abbrev st__law_is : Stmt := topS 39
theorem sc__law_is : FnScope ["thing", "first", "last"] ["thing", "first", "last"] (defScope st__law_is) := ⟨rfl, rfl, rfl, by decide +kernel, rfl, by decide +kernel, by decide +kernel⟩
def sp__law_is (K : PySem.W.Frag) : Sp := fun vs H Q _ => ∃ (D : Hp) (L : Own) (v : V) (lo hi : Int), vs = [v, .int lo, .int hi] ∧ Sx D L H ∧ ((OddV lo hi D v ∧ Q (.bl false) H) ∨ (∃ i, v = .int i ∧ lo ≤ i ∧ i ≤ hi ∧ Q (.bl true) H))
theorem ok__law_is {fA : Addr} {fd : FuncData} (F : Fun K "_law_is" "_law_is" st__law_is fA fd) (b_bool : mg "bool" = none) (b_int : mg "int" = none) (b_isinstance : mg "isinstance" = none) : FnOk P w K mg base CX0 1 fA fd ["thing", "first", "last"] (sp__law_is K) := by
  refine F.ok sc__law_is (fun vs H Q E h => ?_) (fun cdv A outer s H vs Q E hr h => ?_)
  · obtain ⟨D, L, v, lo, hi, rfl, S, q⟩ := h
    rfl
  · obtain ⟨D, L, v, lo, hi, rfl, S, q⟩ := h
    have hu : (A.deeper (envOfC "_law_is" (defScope st__law_is) s.heap.objs.size fA cdv)).units + 64 < cLine := by have := hr.un; omega
    refine ⟨_, (pss_one (ps_ret (pe_and (pe_callB (r := rIsiX K) call_isiX (by rfl) b_isinstance bb_isinstance (pa_cons (pv 0) (pa_cons (pe_bltn (v := .ty "int") (u := .type "int") (by rfl) b_int bb_int rfl) pa_nil))) (pe_and (pe_notK K (pe_callB (r := rIsiX K) call_isiX (by rfl) b_isinstance bb_isinstance (pa_cons (pv 0) (pa_cons (pe_bltn (v := .ty "bool") (u := .type "bool") (by rfl) b_bool bb_bool rfl) pa_nil)))) (pe_one (pe_chain op_le op_le (pv 1) (pv 0) (pv 2))))))), ?_⟩
    refine st_start (σ' := [some _, some _, some _]) rfl (fun bk ct => ?_)
    rcases q with ⟨ho, q⟩ | ⟨i, rfl, h1, h2, q⟩
    · cases ho with
      | int i h =>
        wtm_at "vc"
        by_cases c : lo ≤ i
        · rw [if_pos (decide_eq_true c)]
          wtm_at "vc"
          rw [decide_eq_false (by omega)]
          exact q
        · rw [if_neg (by rw [decide_eq_false c]; decide)]
          exact q
      | bl b => wtm_at "vc"; exact q
      | non => wtm_at "vc"; exact q
      | str z => wtm_at "vc"; exact q
      | tup b xs h =>
        have : Kn D b (.tup xs) := ⟨h⟩
        wtm_at "vc"
        exact q
      | lst b xs h =>
        have : Kn D b (.lst xs) := ⟨h⟩
        wtm_at "vc"
        exact q
      | dic b kvs h =>
        have : Kn D b (.dK kvs) := ⟨h⟩
        wtm_at "vc"
        exact q
    · wtm_at "vc"
      rw [decide_eq_true h2]
      exact q
abbrev st__law_due : Stmt := topS 40
theorem sc__law_due : FnScope ["p", "n"] ["p", "n"] (defScope st__law_due) := ⟨rfl, rfl, rfl, by decide +kernel, rfl, by decide +kernel, by decide +kernel⟩
def sp__law_due (K : PySem.W.Frag) : Sp := fun vs H Q _ => ∃ (D : Hp) (L : Own) (v n : V), vs = [v, n] ∧ Sx D L H ∧ ((OddV 2 7 D v ∧ ∀ D' H', Sx D' L H' → Sm D D' → Q (.str "ways") H') ∨ (∃ p : Nat, v = .int (p : Int) ∧ 2 ≤ p ∧ p ≤ 7 ∧ ((OddV 0 300 D n ∧ ∀ D' H', Sx D' L H' → Sm D D' → Q (.str "level") H') ∨ ∃ m : Nat, n = .int (m : Int) ∧ m ≤ 300 ∧ ∀ D' H', Sx D' L H' → Sm D D' → Q (.str (if (lvlC p m).sum ≤ 4000 then "" else "many")) H')))
theorem ok__law_due {fA : Addr} {fd : FuncData} (F : Fun K "_law_due" "_law_due" st__law_due fA fd) (b_int : mg "int" = none) (b_sum : mg "sum" = none)
    (C__law_counts : Cl P w K mg base CX0 1 "_law_counts" ["p", "n"] (sp__law_counts K))
    (C__law_is : Cl P w K mg base CX0 1 "_law_is" ["thing", "first", "last"] (sp__law_is K)) : FnOk P w K mg base CX0 2 fA fd ["p", "n"] (sp__law_due K) := by
  refine F.ok sc__law_due (fun vs H Q E h => ?_) (fun cdv A outer s H vs Q E hr h => ?_)
  · obtain ⟨D, L, v, n, rfl, S, hk⟩ := h
    rfl
  · obtain ⟨D, L, v, n, rfl, S, hk⟩ := h
    have hu : (A.deeper (envOfC "_law_due" (defScope st__law_due) s.heap.objs.size fA cdv)).units + 64 < cLine := by have := hr.un; omega
    refine ⟨_, (pss_cons (ps_if (pt_not (pt_val (pe_cl C__law_is hr (by decide) (by rfl) (pa_cons (pv 0) (pa_cons pe_int (pa_cons pe_int pa_nil)))))) (pss_one (ps_ret pe_str)) pss_nil)
      (pss_cons (ps_if (pt_not (pt_val (pe_cl C__law_is hr (by decide) (by rfl) (pa_cons (pv 1) (pa_cons pe_int (pa_cons pe_int pa_nil)))))) (pss_one (ps_ret pe_str)) pss_nil)
      (pss_one (ps_ret (pe_ix (r := rIx K) ix_seq (pe_lst (pa_cons pe_str (pa_cons pe_str pa_nil))) (pe_callTy call_intN (by rfl) b_int bb_int (pa_cons (pe_cmpR op_gt (pe_callB (r := rSumX K) (cr_sumX rfl) (by rfl) b_sum bb_sum (pa_cons (pe_cl C__law_counts hr (by decide) (by rfl) (pa_cons (pv 0) (pa_cons (pv 1) pa_nil))) pa_nil)) pe_int (nomark _)) pa_nil)) (fun _ _ => rfl)))))), ?_⟩
    refine st_start (σ' := [some _, some _]) rfl (fun bk ct => ?_)
    wtm_at "vc"
    rcases hk with ⟨ho, q⟩ | ⟨p, rfl, h2, h7, hk⟩
    · refine ⟨D, L, v, 2, 7, rfl, S, .inl ⟨ho, ?_⟩⟩
      wtm_at "vc"
      exact q D _ S Sm.rfl'
    refine ⟨D, L, _, 2, 7, rfl, S, .inr ⟨(p : Int), rfl, by omega, by omega, ?_⟩⟩
    wtm_at "vc"
    rcases hk with ⟨ho, q⟩ | ⟨m, rfl, hm, q⟩
    · refine ⟨D, L, n, 0, 300, rfl, S, .inl ⟨ho, ?_⟩⟩
      wtm_at "vc"
      exact q D _ S Sm.rfl'
    refine ⟨D, L, _, 0, 300, rfl, S, .inr ⟨(m : Int), rfl, by omega, by omega, ?_⟩⟩
    wtm_at "vc"
    rename_i l1 H5 S5
    refine ⟨D, _, p, m, rfl, h2, h7, hm, S5, fun ca H6 S6 => ?_⟩
    wtm_at "vc"
    by_cases c : 4000 < (lvlC p m).sum
    · rw [decide_eq_true c]
      rw [if_neg (by omega)] at q
      have hA9 : AtC [V.str "", V.str "many"] (if true = true then 1 else 0) (V.str "many") := ⟨rfl⟩
      wtm_at "vc"
      exact q D _ (Sx.gc (S := S6)) Sm.rfl'
    · rw [decide_eq_false c]
      rw [if_pos (by omega)] at q
      have hA9 : AtC [V.str "", V.str "many"] (if false = true then 1 else 0) (V.str "") := ⟨rfl⟩
      wtm_at "vc"
      exact q D _ (Sx.gc (S := S6)) Sm.rfl'
abbrev st__law_take : Stmt := topS 34
theorem sc__law_take : FnScope ["pot", "many", "found"] ["pot", "many"] (defScope st__law_take) := ⟨rfl, rfl, rfl, by decide +kernel, rfl, by decide +kernel, by decide +kernel⟩
def sp__law_take (K : PySem.W.Frag) : Sp := fun vs H Q _ => ∃ (D : Hp) (L : Own) (a : Addr) (x y m : Int), vs = [.ref a, .int m] ∧ Sx D ((a, .lst [.int x, .int y]) :: L) H ∧ 0 ≤ x ∧ 0 ≤ y ∧ y < 2147483647 ∧ 1 ≤ m ∧ m ≤ 1000000000000000000000000000000000000000000000000000000000000 ∧
  ∀ r x' y' H', Sx D ((a, .lst [.int x', .int y']) :: L) H' → 0 ≤ r → r < m → 0 ≤ x' → 0 ≤ y' → y' < 2147483647 → Q (.int r) H'
theorem ok__law_take {fA : Addr} {fd : FuncData} (F : Fun K "_law_take" "_law_take" st__law_take fA fd) : FnOk P w K mg base CX0 1 fA fd ["pot", "many"] (sp__law_take K) := by
  refine F.ok sc__law_take (fun vs H Q E h => ?_) (fun cdv A outer s H vs Q E hr h => ?_)
  · obtain ⟨D, L, a, x, y, m, rfl, S, x0, y0, y1, m1, m2, q⟩ := h
    rfl
  · obtain ⟨D, L, a, x, y, m, rfl, S, x0, y0, y1, m1, m2, q⟩ := h
    have hu : (A.deeper (envOfC "_law_take" (defScope st__law_take) s.heap.objs.size fA cdv)).units + 64 < cLine := by have := hr.un; omega
    refine ⟨_, (pss_cons (ps_if (pt_cmpR op_gt (pe_ix (r := rIx K) ix_seq (pv 0) pe_int (fun _ _ => rfl)) pe_int (nomark _)) (pss_cons (ps_set (i := 2) sc__law_take.nd rfl (Or.inl rfl) (pe_op op_mod (pe_ix (r := rIx K) ix_seq (pv 0) pe_int (fun _ _ => rfl)) (pv 1)))
      (pss_cons (ps_asg (pe_op opDiv (pe_ix (r := rIx K) ix_seq (pv 0) pe_int (fun _ _ => rfl)) (pv 1)) (pg_sub (pv 0) pe_int set_list))
      (pss_one (ps_ret (pv 2))))) pss_nil)
      (pss_cons (ps_asg (pe_op op_mod (pe_op (r := rAddX K) opAdd (pe_op (r := rMulU K) opMulU (pe_ix (r := rIx K) ix_seq (pv 0) pe_int (fun _ _ => rfl)) pe_int) pe_int) pe_int) (pg_sub (pv 0) pe_int set_list))
      (pss_one (ps_ret (pe_op op_mod (pe_op opDiv (pe_op op_mod (pe_op op_pow (pe_ix (r := rIx K) ix_seq (pv 0) pe_int (fun _ _ => rfl)) pe_int) pe_int) pe_int) (pv 1)))))), ?_⟩
    refine st_start (σ' := [some _, some _, none]) rfl (fun bk ct => ?_)
    have hd1 : DivOk x m := divW m1 m2
    wtm_at "vc"
    refine if_d (fun hx => ?_) (fun hx => ?_)
    · wtm_at "vc"
      exact q _ (x / m) y _ inferInstance (Int.emod_nonneg _ (by omega)) (Int.emod_lt_of_pos _ (by omega)) (Int.ediv_nonneg x0 (by omega)) y0 y1
    wtm_at "vc"
    have z0 := Int.emod_nonneg (y * 48271 + 12820163) (show (2147483647 : Int) ≠ 0 by decide)
    have z1 := Int.emod_lt_of_pos (y * 48271 + 12820163) (show (0 : Int) < 2147483647 by decide)
    refine ⟨⟨by decide, by decide, by omega⟩, ?_⟩
    wtm_at "vc"
    refine q _ x _ _ Sx.gc (Int.emod_nonneg _ (by omega)) (Int.emod_lt_of_pos _ (by omega)) x0 z0 z1
abbrev st__law_odd : Stmt := topS 37
theorem sc__law_odd : FnScope ["pot"] ["pot"] (defScope st__law_odd) := ⟨rfl, rfl, rfl, by decide +kernel, rfl, by decide +kernel, by decide +kernel⟩
def sp__law_odd (K : PySem.W.Frag) : Sp := fun vs H Q _ => ∃ (D : Hp) (L : Own) (a : Addr) (x y : Int), vs = [.ref a] ∧ Sx D ((a, .lst [.int x, .int y]) :: L) H ∧ 0 ≤ x ∧ 0 ≤ y ∧ y < 2147483647 ∧
  ∀ (v : V) x' y' D' H', Sx D' ((a, .lst [.int x', .int y']) :: L) H' → Sm D D' → OddV 2 7 D' v → OddV 0 300 D' v → 0 ≤ x' → 0 ≤ y' → y' < 2147483647 → Q v H'
theorem ok__law_odd {fA : Addr} {fd : FuncData} (F : Fun K "_law_odd" "_law_odd" st__law_odd fA fd)
    (C__law_take : Cl P w K mg base CX0 1 "_law_take" ["pot", "many"] (sp__law_take K)) : FnOk P w K mg base CX0 2 fA fd ["pot"] (sp__law_odd K) := by
  refine F.ok sc__law_odd (fun vs H Q E h => ?_) (fun cdv A outer s H vs Q E hr h => ?_)
  · obtain ⟨D, L, pot, x, y, rfl, S, x0, y0, y1, q⟩ := h
    rfl
  · obtain ⟨D, L, pot, x, y, rfl, S, x0, y0, y1, q⟩ := h
    have hu : (A.deeper (envOfC "_law_odd" (defScope st__law_odd) s.heap.objs.size fA cdv)).units + 64 < cLine := by have := hr.un; omega
    refine ⟨_, (pss_one (ps_ret (pe_ix (r := rIx K) ix_seq (pe_lst (pa_cons pe_non (pa_cons pe_bl (pa_cons pe_str (pa_cons (pe_tup (pa_cons pe_int pa_nil)) (pa_cons (pe_lst (pa_cons pe_int pa_nil)) (pa_cons (pe_un un_neg pe_int) (pa_cons pe_int (pa_cons (pe_op (r := rAddX K) opAdd (pe_op op_pow pe_int pe_int) (pe_cl C__law_take hr (by decide) (by rfl) (pa_cons (pv 0) (pa_cons (pe_op op_pow pe_int pe_int) pa_nil)))) (pa_cons pe_dnewK pa_nil)))))))))) (pe_cl C__law_take hr (by decide) (by rfl) (pa_cons (pv 0) (pa_cons pe_int pa_nil))) (fun _ _ => rfl)))), ?_⟩
    refine st_start (σ' := [some _]) rfl (fun bk ct => ?_)
    wtm_at "vc"
    rename_i t1 D1 Ha Sa ea ka l1 Hb Sb
    refine ⟨_, _, pot, x, y, 100000000000000000000000000000000000000000000000000000000000, rfl, Sx.front (a := pot) (S := Sb), x0, y0, y1, by decide, by decide, fun r9 x y H2 S2 r90 r91 x0 y0 y1 => ?_⟩
    wtm_at "vc"
    rename_i d0 Hc Sc lo9 Hd Sd
    refine ⟨_, _, pot, x, y, 9, rfl, Sx.front (a := pot) (S := Sd), x0, y0, y1, by decide, by decide, fun r x y H3 S3 r0 r1 x0 y0 y1 => ?_⟩
    obtain ⟨D2, e2, k2, S4⟩ := Sx.fix1 (a := l1) (S := S3)
    obtain ⟨D3, e3, k3, S5⟩ := Sx.fix1 (a := d0) (S := S4)
    have g1 : Kn D3 l1 (.lst [V.int 2]) := inferInstance
    have g2 : Kn D3 t1 (.tup [V.int 3]) := inferInstance
    have g3 : Kn D3 d0 (.dK []) := inferInstance
    obtain ⟨v, hv, ho, ho2⟩ : ∃ v, AtC [V.non, V.bl true, V.str "3", V.ref t1, V.ref l1, V.int (-1), V.int 301, V.int (100000000000000000000000000000000000000000000000000000000000 + r9), V.ref d0] r v ∧ OddV 2 7 D3 v ∧ OddV 0 300 D3 v := by
      rcases (by omega : r = 0 ∨ r = 1 ∨ r = 2 ∨ r = 3 ∨ r = 4 ∨ r = 5 ∨ r = 6 ∨ r = 7 ∨ r = 8) with e | e | e | e | e | e | e | e | e <;> subst e
      · exact ⟨_, ⟨atN (by decide) rfl⟩, .non, .non⟩
      · exact ⟨_, ⟨atN (by decide) rfl⟩, .bl _, .bl _⟩
      · exact ⟨_, ⟨atN (by decide) rfl⟩, .str _, .str _⟩
      · exact ⟨_, ⟨atN (by decide) rfl⟩, .tup _ _ g2.pf, .tup _ _ g2.pf⟩
      · exact ⟨_, ⟨atN (by decide) rfl⟩, .lst _ _ g1.pf, .lst _ _ g1.pf⟩
      · exact ⟨_, ⟨atN (by decide) rfl⟩, .int _ (by omega), .int _ (by omega)⟩
      · exact ⟨_, ⟨atN (by decide) rfl⟩, .int _ (by omega), .int _ (by omega)⟩
      · exact ⟨_, ⟨atN (by decide) rfl⟩, .int _ (by omega), .int _ (by omega)⟩
      · exact ⟨_, ⟨atN (by decide) rfl⟩, .dic _ _ g3.pf, .dic _ _ g3.pf⟩
    clear S3 S4
    wtm_at "vc"
    exact q v x y D3 _ (Sx.gc (S := S5)) up ho ho2 x0 y0 y1
abbrev st__law_other_counts : Stmt := topS 41
theorem sc__law_other_counts : FnScope ["pot", "counts", "way", "at", "other", "found"] ["pot", "counts"] (defScope st__law_other_counts) := ⟨rfl, rfl, rfl, by decide +kernel, rfl, by decide +kernel, by decide +kernel⟩
theorem sum_setO : ∀ (rd : List Int) (i : Nat) (v : Int), i < rd.length → (rd.set i v).sum = rd.sum + (v - rd.getD i 0)
  | [], i, _, h => absurd h (Nat.not_lt_zero _)
  | x :: rd, 0, v, _ => by
    show v + rd.sum = x + rd.sum + (v - x)
    omega
  | x :: rd, i + 1, v, h => by
    show x + (rd.set i v).sum = x + rd.sum + (v - rd.getD i 0)
    rw [sum_setO rd i v (Nat.lt_of_succ_lt_succ h)]
    omega
def OtG (cs cs' : List Int) : Prop := cs'.length = cs.length ∧ (∀ z, z ∈ cs' → 0 ≤ z ∧ z ≤ 4001) ∧ cs'.sum ≤ cs.sum + 1
theorem ot_at {cs : List Int} {i : Nat} (h : i < cs.length) : cs.getD i 0 ∈ cs := by
  rw [List.getD_eq_getElem?_getD, List.getElem?_eq_getElem h]
  exact List.getElem_mem h
theorem ot_set {cs : List Int} {i : Nat} {v : Int} (hc : ∀ z, z ∈ cs → 0 ≤ z ∧ z ≤ 4000) (h : i < cs.length) (h0 : 0 ≤ v) (h1 : v ≤ cs.getD i 0 + 1) : OtG cs (cs.set i v) := by
  have h2 := hc _ (ot_at h)
  refine ⟨List.length_set, fun z hz => ?_, by rw [sum_setO cs i v h]; omega⟩
  rcases List.mem_or_eq_of_mem_set hz with hz | rfl
  · have := hc z hz; omega
  · omega
theorem ot_set1 {cs c1 : List Int} {i : Nat} (hl : c1.length = cs.length) (hc : ∀ z, z ∈ c1 → 0 ≤ z ∧ z ≤ 4000) (hs : c1.sum ≤ cs.sum) (h : i < c1.length) : OtG cs (c1.set i (c1.getD i 0 + 1)) := by
  have h2 := hc _ (ot_at h)
  refine ⟨by rw [List.length_set]; exact hl, fun z hz => ?_, by rw [sum_setO c1 i _ h]; omega⟩
  rcases List.mem_or_eq_of_mem_set hz with hz | rfl
  · have := hc z hz; omega
  · omega
theorem ot_swap {cs : List Int} {i j : Nat} (hc : ∀ z, z ∈ cs → 0 ≤ z ∧ z ≤ 4000) (h : i < cs.length) (h2 : j < cs.length) : OtG cs ((cs.set i (cs.getD j 0)).set j (cs.getD i 0)) := by
  have hi := hc _ (ot_at h)
  have hj := hc _ (ot_at h2)
  refine ⟨by rw [List.length_set, List.length_set], fun z hz => ?_, ?_⟩
  · rcases List.mem_or_eq_of_mem_set hz with hz | rfl
    · rcases List.mem_or_eq_of_mem_set hz with hz | rfl
      · have := hc z hz; omega
      · omega
    · omega
  · rw [sum_setO _ j _ (by rw [List.length_set]; exact h2), sum_setO cs i _ h]
    have e : (cs.set i (cs.getD j 0)).getD j 0 = cs.getD j 0 := by
      rw [List.getD_eq_getElem?_getD, List.getElem?_set]
      by_cases c : i = j
      · subst c
        rw [if_pos rfl, if_pos h]
        rfl
      · rw [if_neg c, ← List.getD_eq_getElem?_getD]
    rw [e]
    omega
theorem ot_zero (cs : List Int) (hc : ∀ z, z ∈ cs → 0 ≤ z ∧ z ≤ 4000) : OtG cs (List.replicate cs.length 0) := by
  have h0 : ∀ k : Nat, (List.replicate k (0 : Int)).sum = 0 := fun k => by induction k with | zero => rfl | succ k ih => rw [List.replicate_succ, List.sum_cons, ih]; rfl
  have h1 : ∀ xs : List Int, (∀ z, z ∈ xs → 0 ≤ z ∧ z ≤ 4000) → 0 ≤ xs.sum := fun xs => by
    induction xs with
    | nil => intro _; exact Int.le_refl _
    | cons x xs ih =>
      intro h
      rw [List.sum_cons]
      have := h x List.mem_cons_self
      have := ih fun z hz => h z (List.mem_cons_of_mem _ hz)
      omega
  refine ⟨List.length_replicate, fun z hz => by rw [List.eq_of_mem_replicate hz]; decide, ?_⟩
  rw [h0]
  have := h1 cs hc
  omega
theorem ot_get {xs : List Int} {i : Nat} (h : i < xs.length) : xs[i]? = some (xs.getD i 0) := by
  rw [List.getD_eq_getElem?_getD, List.getElem?_eq_getElem h]
  rfl

def sp__law_other_counts (K : PySem.W.Frag) : Sp := fun vs H Q _ => ∃ (D : Hp) (L : Own) (pot c : Addr) (x y : Int) (cs : List Int), vs = [.ref pot, .ref c] ∧ Sx D ((pot, .lst [.int x, .int y]) :: L) H ∧ Kn D c (.lst (cs.map V.int)) ∧ 1 ≤ cs.length ∧ cs.length ≤ 7 ∧ (∀ z, z ∈ cs → 0 ≤ z ∧ z ≤ 4000) ∧ 0 ≤ x ∧ 0 ≤ y ∧ y < 2147483647 ∧
  ∀ (f : Addr) (cs' : List Int) x' y' D' H', Sx D' ((f, .lst (cs'.map V.int)) :: (pot, .lst [.int x', .int y']) :: L) H' → Sm D D' → 0 ≤ x' → 0 ≤ y' → y' < 2147483647 → cs'.length = cs.length → (∀ z, z ∈ cs' → 0 ≤ z ∧ z ≤ 4001) → cs'.sum ≤ cs.sum + 1 → Q (.ref f) H'
theorem ok__law_other_counts {fA : Addr} {fd : FuncData} (F : Fun K "_law_other_counts" "_law_other_counts" st__law_other_counts fA fd) (b_len : mg "len" = none) (b_list : mg "list" = none) (b_max : mg "max" = none)
    (C__law_take : Cl P w K mg base CX0 1 "_law_take" ["pot", "many"] (sp__law_take K)) : FnOk P w K mg base CX0 2 fA fd ["pot", "counts"] (sp__law_other_counts K) := by
  refine F.ok sc__law_other_counts (fun vs H Q E h => ?_) (fun cdv A outer s H vs Q E hr h => ?_)
  · obtain ⟨D, L, pot, c, x, y, cs, rfl, S, kc, hl1, hl7, hcs, x0, y0, y1, q⟩ := h
    rfl
  · obtain ⟨D, L, pot, c, x, y, cs, rfl, S, kc, hl1, hl7, hcs, x0, y0, y1, q⟩ := h
    have hu : (A.deeper (envOfC "_law_other_counts" (defScope st__law_other_counts) s.heap.objs.size fA cdv)).units + 64 < cLine := by have := hr.un; omega
    refine ⟨_, (pss_cons (ps_set (i := 2) sc__law_other_counts.nd rfl (Or.inl rfl) (pe_cl C__law_take hr (by decide) (by rfl) (pa_cons (pv 0) (pa_cons pe_int pa_nil))))
      (pss_cons (ps_set (i := 3) sc__law_other_counts.nd rfl (Or.inl rfl) (pe_cl C__law_take hr (by decide) (by rfl) (pa_cons (pv 0) (pa_cons (pe_callB (r := rLen K) call_lenN (by rfl) b_len bb_len (pa_cons (pv 1) pa_nil)) pa_nil))))
      (pss_cons (ps_set (i := 4) sc__law_other_counts.nd rfl (Or.inl rfl) (pe_cl C__law_take hr (by decide) (by rfl) (pa_cons (pv 0) (pa_cons (pe_callB (r := rLen K) call_lenN (by rfl) b_len bb_len (pa_cons (pv 1) pa_nil)) pa_nil))))
      (pss_cons (ps_set (i := 5) sc__law_other_counts.nd rfl (Or.inl rfl) (pe_callTy (r := rLstOf K) call_lstN (by rfl) b_list bb_list (pa_cons (pv 1) pa_nil)))
      (Evl.pss_cut (ps_if (pt_cmpR (r := rEqX K) (opEq hu) (pv 2) pe_int (nomark _)) (pss_one (ps_asg (pe_op (r := rAddX K) opAdd (pe_ix (r := rIx K) ix_seq (pv 5) (pv 3) (fun _ _ => rfl)) pe_int) (pg_sub (pv 5) (pv 3) set_list))) pss_nil)
      (Evl.pss_cut (ps_if (pt_cmpR (r := rEqX K) (opEq hu) (pv 2) pe_int (nomark _)) (pss_one (ps_asg (pe_callB (call_max2N rfl) (by rfl) b_max bb_max (pa_cons pe_int (pa_cons (pe_op op_sub (pe_ix (r := rIx K) ix_seq (pv 5) (pv 3) (fun _ _ => rfl)) pe_int) pa_nil))) (pg_sub (pv 5) (pv 3) set_list))) pss_nil)
      (Evl.pss_cut (ps_if (pt_cmpR (r := rEqX K) (opEq hu) (pv 2) pe_int (nomark _)) (pss_one (ps_asg (pe_tup (pa_cons (pe_ix (r := rIx K) ix_seq (pv 5) (pv 4) (fun _ _ => rfl)) (pa_cons (pe_ix (r := rIx K) ix_seq (pv 5) (pv 3) (fun _ _ => rfl)) pa_nil))) (pg_tupK K 2 rfl (pgs_cons (pg_sub (pv 5) (pv 3) set_list) (pgs_cons (pg_sub (pv 5) (pv 4) set_list) pgs_nil))))) pss_nil)
      (Evl.pss_cut (ps_if (PW.pt (pw_and (pt_cmpR (r := rEqX K) (opEq hu) (pv 2) pe_int (nomark _)) (pw_and1 (pt_cmpR op_gt (pe_ix (r := rIx K) ix_seq (pv 5) (pv 3) (fun _ _ => rfl)) pe_int (nomark _))))) (pss_cons (ps_asg (pe_op op_sub (pe_ix (r := rIx K) ix_seq (pv 5) (pv 3) (fun _ _ => rfl)) pe_int) (pg_sub (pv 5) (pv 3) set_list))
      (pss_one (ps_asg (pe_op (r := rAddX K) opAdd (pe_ix (r := rIx K) ix_seq (pv 5) (pv 4) (fun _ _ => rfl)) pe_int) (pg_sub (pv 5) (pv 4) set_list)))) pss_nil)
      (Evl.pss_cut (ps_if (pt_cmpR (r := rEqX K) (opEq hu) (pv 2) pe_int (nomark _)) (pss_one (ps_set (i := 5) sc__law_other_counts.nd rfl (Or.inl rfl) (pe_op (r := rMulU K) opMulU (pe_lst (pa_cons pe_int pa_nil)) (pe_callB (r := rLen K) call_lenN (by rfl) b_len bb_len (pa_cons (pv 1) pa_nil))))) pss_nil)
      (pss_one (ps_ret (pv 5)))))))))))), ?_⟩
    refine st_start (σ' := [some _, some _, none, none, none, none]) rfl (fun bk ct => ?_)
    wtm_at "vc"
    refine ⟨D, _, pot, x, y, 6, rfl, S, x0, y0, y1, by decide, by decide, fun w x y H1 S1 w0 w1 x0 y0 y1 => ?_⟩
    wtm_at "vc"
    refine ⟨D, _, pot, x, y, _, rfl, S1, x0, y0, y1, by omega, by omega, fun a x y H2 S2 a0 a1 x0 y0 y1 => ?_⟩
    wtm_at "vc"
    refine ⟨D, _, pot, x, y, _, rfl, S2, x0, y0, y1, by omega, by omega, fun o x y H3 S3 o0 o1 x0 y0 y1 => ?_⟩
    have hAa : AtC (cs.map V.int) a (.int (cs.getD a.toNat 0)) := ⟨atN a0 (mapI (by rw [List.getD_eq_getElem?_getD, List.getElem?_eq_getElem (by omega)]; rfl))⟩
    have hAo : AtC (cs.map V.int) o (.int (cs.getD o.toNat 0)) := ⟨atN o0 (mapI (by rw [List.getD_eq_getElem?_getD, List.getElem?_eq_getElem (by omega)]; rfl))⟩
    have hga := hcs _ (ot_at (cs := cs) (i := a.toNat) (by omega))
    have hgo := hcs _ (ot_at (cs := cs) (i := o.toNat) (by omega))
    wtm_at "vc"
    rename_i fo H4 S4
    have hG : OtG cs cs := ⟨rfl, fun z hz => by have := hcs z hz; omega, by omega⟩
    obtain ⟨cs', hcs'⟩ : ∃ cs', cs' = cs := ⟨_, rfl⟩
    have hc : -1 < w → cs' = cs := fun _ => hcs'
    rw [← hcs'] at S4
    have hG : OtG cs cs' := by rw [hcs']; exact hG
    clear hcs' S S1 S2 S3
    have e3 : Sm D D := Sm.rfl'
    refine s_cut (fun σ H => ∃ (D3 : Hp) (fo : Addr) (cs' : List Int), Sm D D3 ∧ σ = [some (.ref pot), some (.ref c), some (.int w), some (.int a), some (.int o), some (.ref fo)] ∧ Sx D3 ((fo, .lst (cs'.map V.int)) :: (pot, .lst [.int x, .int y]) :: L) H ∧ OtG cs cs' ∧ (0 < w → cs' = cs)) (fun nx hN => ?_) (fun σ H4 ⟨D3, fo, cs', e3, es, S4, hG, hc⟩ => ?_)
    · wtm_at "vc"
      refine if_d (fun h => ?_) (fun h => ?_)
      · have hcc := hc (by omega)
        subst hcc
        wtm_at "vc"
        rename_i H5 S5
        exact hN _ _ ⟨_, fo, cs'.set a.toNat (cs'.getD a.toNat 0 + 1), up, rfl, by rw [List.map_set]; exact S5, ot_set hcs (by omega) (by omega) (by omega), fun h9 => absurd h9 (by omega)⟩
      · wtm_at "vc"
        exact hN _ _ ⟨_, fo, cs', up, rfl, S4, hG, fun h9 => hc (by omega)⟩
    subst es
    refine s_cut (fun σ H => ∃ (D3 : Hp) (fo : Addr) (cs' : List Int), Sm D D3 ∧ σ = [some (.ref pot), some (.ref c), some (.int w), some (.int a), some (.int o), some (.ref fo)] ∧ Sx D3 ((fo, .lst (cs'.map V.int)) :: (pot, .lst [.int x, .int y]) :: L) H ∧ OtG cs cs' ∧ (1 < w → cs' = cs)) (fun nx hN => ?_) (fun σ H4 ⟨D3, fo, cs', e3, es, S4, hG, hc⟩ => ?_)
    · wtm_at "vc"
      refine if_d (fun h => ?_) (fun h => ?_)
      · have hcc := hc (by omega)
        subst hcc
        wtm_at "vc"
        rename_i H5 S5
        exact hN _ _ ⟨_, fo, cs'.set a.toNat (max 0 (cs'.getD a.toNat 0 - 1)), up, rfl, by rw [List.map_set]; exact S5, ot_set hcs (by omega) (by omega) (by omega), fun h9 => absurd h9 (by omega)⟩
      · wtm_at "vc"
        exact hN _ _ ⟨_, fo, cs', up, rfl, S4, hG, fun h9 => hc (by omega)⟩
    subst es
    refine s_cut (fun σ H => ∃ (D3 : Hp) (fo : Addr) (cs' : List Int), Sm D D3 ∧ σ = [some (.ref pot), some (.ref c), some (.int w), some (.int a), some (.int o), some (.ref fo)] ∧ Sx D3 ((fo, .lst (cs'.map V.int)) :: (pot, .lst [.int x, .int y]) :: L) H ∧ OtG cs cs' ∧ (2 < w → cs' = cs)) (fun nx hN => ?_) (fun σ H4 ⟨D3, fo, cs', e3, es, S4, hG, hc⟩ => ?_)
    · wtm_at "vc"
      refine if_d (fun h => ?_) (fun h => ?_)
      · have hcc := hc (by omega)
        subst hcc
        wtm_at "vc"
        refine ⟨⟨o0, by rw [List.length_set, List.length_map]; omega⟩, fun H5 S5 => ?_⟩
        wtm_at "vc"
        exact hN _ _ ⟨_, fo, (cs'.set a.toNat (cs'.getD o.toNat 0)).set o.toNat (cs'.getD a.toNat 0), up, rfl, by rw [List.map_set, List.map_set]; exact S5, ot_swap hcs (by omega) (by omega), fun h9 => absurd h9 (by omega)⟩
      · wtm_at "vc"
        exact hN _ _ ⟨_, fo, cs', up, rfl, S4, hG, fun h9 => hc (by omega)⟩
    subst es
    refine s_cut (fun σ H => ∃ (D3 : Hp) (fo : Addr) (cs' : List Int), Sm D D3 ∧ σ = [some (.ref pot), some (.ref c), some (.int w), some (.int a), some (.int o), some (.ref fo)] ∧ Sx D3 ((fo, .lst (cs'.map V.int)) :: (pot, .lst [.int x, .int y]) :: L) H ∧ OtG cs cs' ∧ (3 < w → cs' = cs)) (fun nx hN => ?_) (fun σ H4 ⟨D3, fo, cs', e3, es, S4, hG, hc⟩ => ?_)
    · wtm_at "vc"
      refine if_d (fun h => ?_) (fun h => ?_)
      · have hcc := hc (by omega)
        subst hcc
        wtm_at "vc"
        by_cases c9 : 0 < cs'.getD a.toNat 0
        · have hm : ∀ z, z ∈ cs'.set a.toNat (cs'.getD a.toNat 0 - 1) → 0 ≤ z ∧ z ≤ 4000 := fun z hz => by
            rcases List.mem_or_eq_of_mem_set hz with hz | rfl
            · exact hcs z hz
            · omega
          have hAo2 : AtC ((cs'.map V.int).set a.toNat (V.int (cs'.getD a.toNat 0 - 1))) o (.int ((cs'.set a.toNat (cs'.getD a.toNat 0 - 1)).getD o.toNat 0)) := ⟨atN o0 (by rw [← List.map_set]; exact mapI (ot_get (by rw [List.length_set]; omega)))⟩
          rw [if_pos (decide_eq_true c9)]
          wtm_at "vc"
          refine ⟨⟨o0, by rw [List.length_set, List.length_map]; omega⟩, fun H5 S5 => ?_⟩
          exact hN _ _ ⟨_, fo, (cs'.set a.toNat (cs'.getD a.toNat 0 - 1)).set o.toNat ((cs'.set a.toNat (cs'.getD a.toNat 0 - 1)).getD o.toNat 0 + 1), up, rfl, by rw [List.map_set, List.map_set]; exact S5, ot_set1 (by rw [List.length_set]) hm (by rw [sum_setO cs' a.toNat _ (by omega)]; omega) (by rw [List.length_set]; omega), fun h9 => absurd h9 (by omega)⟩
        · rw [if_neg (by rw [decide_eq_false c9]; decide)]
          wtm_at "vc"
          exact hN _ _ ⟨_, fo, cs', up, rfl, S4, hG, fun h9 => rfl⟩
      · wtm_at "vc"
        exact hN _ _ ⟨_, fo, cs', up, rfl, S4, hG, fun h9 => hc (by omega)⟩
    subst es
    refine s_cut (fun σ H => ∃ (D3 : Hp) (fo : Addr) (cs' : List Int), Sm D D3 ∧ σ = [some (.ref pot), some (.ref c), some (.int w), some (.int a), some (.int o), some (.ref fo)] ∧ Sx D3 ((fo, .lst (cs'.map V.int)) :: (pot, .lst [.int x, .int y]) :: L) H ∧ OtG cs cs' ∧ (4 < w → cs' = cs)) (fun nx hN => ?_) (fun σ H4 ⟨D3, fo, cs', e3, es, S4, hG, hc⟩ => ?_)
    · wtm_at "vc"
      refine if_d (fun h => ?_) (fun h => ?_)
      · have hcc := hc (by omega)
        subst hcc
        wtm_at "vc"
        rename_i l8 H5 S5 l9 H6 S6
        rw [Int.toNat_natCast] at S6
        exact hN _ _ ⟨_, l9, List.replicate cs'.length 0, up, rfl, by rw [List.map_replicate]; exact Sx.gc (S := S6), ot_zero cs' hcs, fun h9 => absurd h9 (by omega)⟩
      · wtm_at "vc"
        exact hN _ _ ⟨_, fo, cs', up, rfl, S4, hG, fun h9 => hc (by omega)⟩
    subst es
    wtm_at "vc"
    exact q fo cs' x y D3 _ S4 e3 x0 y0 y1 hG.1 hG.2.1 hG.2.2
abbrev st__law_alone : Stmt := topS 36
theorem sc__law_alone : FnScope ["e", "name", "some", "odd"] ["e", "name"] (defScope st__law_alone) := ⟨rfl, rfl, rfl, by decide +kernel, rfl, by decide +kernel, by decide +kernel⟩
def sp__law_alone (K : PySem.W.Frag) : Sp := fun vs H Q _ => ∃ (D : Hp) (L : Own) (e : Addr) (z nm : Str), vs = [.ref e, .str nm] ∧ Sx D L H ∧ ((∃ C, PySem.W.nsIn K mainGlobals "NoWays" = some (some (.ref C)) ∧ Kx D e C ∧ z = "ways") ∨ (∃ C, PySem.W.nsIn K mainGlobals "NoLevel" = some (some (.ref C)) ∧ Kx D e C ∧ z = "level") ∨ (∃ C, PySem.W.nsIn K mainGlobals "TooMany" = some (some (.ref C)) ∧ Kx D e C ∧ z = "many")) ∧ (nm = "ways" ∨ nm = "level" ∨ nm = "many" ∨ nm = "clash") ∧ ∀ D' H', Sx D' L H' → Sm D D' → Q (.bl (decide (nm = z))) H'
theorem ok__law_alone {fA : Addr} {fd : FuncData} (F : Fun K "_law_alone" "_law_alone" st__law_alone fA fd) (b_ValueError : mg "ValueError" = none) (b_isinstance : mg "isinstance" = none)
    {C_Clash : Addr} (k_Clash : ClC K mg "Clash" C_Clash)
    {C_NoBack : Addr} (k_NoBack : ClC K mg "NoBack" C_NoBack)
    {C_NoLevel : Addr} (k_NoLevel : ClC K mg "NoLevel" C_NoLevel)
    {C_NoLine : Addr} (k_NoLine : ClC K mg "NoLine" C_NoLine)
    {C_NoPhase : Addr} (k_NoPhase : ClC K mg "NoPhase" C_NoPhase)
    {C_NoPlace : Addr} (k_NoPlace : ClC K mg "NoPlace" C_NoPlace)
    {C_NoRoom : Addr} (k_NoRoom : ClC K mg "NoRoom" C_NoRoom)
    {C_NoStanding : Addr} (k_NoStanding : ClC K mg "NoStanding" C_NoStanding)
    {C_NoText : Addr} (k_NoText : ClC K mg "NoText" C_NoText)
    {C_NoWays : Addr} (k_NoWays : ClC K mg "NoWays" C_NoWays)
    {C_ReelError : Addr} (k_ReelError : ClC K mg "ReelError" C_ReelError)
    {C_TooFew : Addr} (k_TooFew : ClC K mg "TooFew" C_TooFew)
    {C_TooMany : Addr} (k_TooMany : ClC K mg "TooMany" C_TooMany) (x_NoWays : ExC K C_NoWays) (t_NoWays_ReelError : KtO K C_NoWays (.ref C_ReelError) true) (t_NoWays_Clash : KtO K C_NoWays (.ref C_Clash) false) (t_NoWays_NoBack : KtO K C_NoWays (.ref C_NoBack) false) (t_NoWays_NoLevel : KtO K C_NoWays (.ref C_NoLevel) false) (t_NoWays_NoLine : KtO K C_NoWays (.ref C_NoLine) false) (t_NoWays_NoPhase : KtO K C_NoWays (.ref C_NoPhase) false) (t_NoWays_NoPlace : KtO K C_NoWays (.ref C_NoPlace) false) (t_NoWays_NoRoom : KtO K C_NoWays (.ref C_NoRoom) false) (t_NoWays_NoStanding : KtO K C_NoWays (.ref C_NoStanding) false) (t_NoWays_NoText : KtO K C_NoWays (.ref C_NoText) false) (t_NoWays_NoWays : KtO K C_NoWays (.ref C_NoWays) true) (t_NoWays_TooFew : KtO K C_NoWays (.ref C_TooFew) false) (t_NoWays_TooMany : KtO K C_NoWays (.ref C_TooMany) false) (t_NoWays_ValueError : KtO K C_NoWays (.ty "ValueError") true) (x_NoLevel : ExC K C_NoLevel) (t_NoLevel_ReelError : KtO K C_NoLevel (.ref C_ReelError) true) (t_NoLevel_Clash : KtO K C_NoLevel (.ref C_Clash) false) (t_NoLevel_NoBack : KtO K C_NoLevel (.ref C_NoBack) false) (t_NoLevel_NoLevel : KtO K C_NoLevel (.ref C_NoLevel) true) (t_NoLevel_NoLine : KtO K C_NoLevel (.ref C_NoLine) false) (t_NoLevel_NoPhase : KtO K C_NoLevel (.ref C_NoPhase) false) (t_NoLevel_NoPlace : KtO K C_NoLevel (.ref C_NoPlace) false) (t_NoLevel_NoRoom : KtO K C_NoLevel (.ref C_NoRoom) false) (t_NoLevel_NoStanding : KtO K C_NoLevel (.ref C_NoStanding) false) (t_NoLevel_NoText : KtO K C_NoLevel (.ref C_NoText) false) (t_NoLevel_NoWays : KtO K C_NoLevel (.ref C_NoWays) false) (t_NoLevel_TooFew : KtO K C_NoLevel (.ref C_TooFew) false) (t_NoLevel_TooMany : KtO K C_NoLevel (.ref C_TooMany) false) (t_NoLevel_ValueError : KtO K C_NoLevel (.ty "ValueError") true) (x_TooMany : ExC K C_TooMany) (t_TooMany_ReelError : KtO K C_TooMany (.ref C_ReelError) true) (t_TooMany_Clash : KtO K C_TooMany (.ref C_Clash) false) (t_TooMany_NoBack : KtO K C_TooMany (.ref C_NoBack) false) (t_TooMany_NoLevel : KtO K C_TooMany (.ref C_NoLevel) false) (t_TooMany_NoLine : KtO K C_TooMany (.ref C_NoLine) false) (t_TooMany_NoPhase : KtO K C_TooMany (.ref C_NoPhase) false) (t_TooMany_NoPlace : KtO K C_TooMany (.ref C_NoPlace) false) (t_TooMany_NoRoom : KtO K C_TooMany (.ref C_NoRoom) false) (t_TooMany_NoStanding : KtO K C_TooMany (.ref C_NoStanding) false) (t_TooMany_NoText : KtO K C_TooMany (.ref C_NoText) false) (t_TooMany_NoWays : KtO K C_TooMany (.ref C_NoWays) false) (t_TooMany_TooFew : KtO K C_TooMany (.ref C_TooFew) false) (t_TooMany_TooMany : KtO K C_TooMany (.ref C_TooMany) true) (t_TooMany_ValueError : KtO K C_TooMany (.ty "ValueError") true) : FnOk P w K mg base CX0 1 fA fd ["e", "name"] (sp__law_alone K) := by
  refine F.ok sc__law_alone (fun vs H Q E h => ?_) (fun cdv A outer s H vs Q E hr h => ?_)
  · obtain ⟨D, L, e, z, nm, rfl, S, hk, hn, q⟩ := h
    rfl
  · obtain ⟨D, L, e, z, nm, rfl, S, hk, hn, q⟩ := h
    have hu : (A.deeper (envOfC "_law_alone" (defScope st__law_alone) s.heap.objs.size fA cdv)).units + 64 < cLine := by have := hr.un; omega
    refine ⟨_, (pss_cons (ps_set (i := 2) sc__law_alone.nd rfl (Or.inl rfl) (pe_lst (pa_cons (pe_callB (r := rIsEK K) call_isEK (by rfl) b_isinstance bb_isinstance (pa_cons (pv 0) (pa_cons (pe_glob (v := .ref C_NoWays) (by rfl) k_NoWays.g rfl) pa_nil))) (pa_cons (pe_callB (r := rIsEK K) call_isEK (by rfl) b_isinstance bb_isinstance (pa_cons (pv 0) (pa_cons (pe_glob (v := .ref C_NoLevel) (by rfl) k_NoLevel.g rfl) pa_nil))) (pa_cons (pe_callB (r := rIsEK K) call_isEK (by rfl) b_isinstance bb_isinstance (pa_cons (pv 0) (pa_cons (pe_glob (v := .ref C_TooMany) (by rfl) k_TooMany.g rfl) pa_nil))) (pa_cons (pe_callB (r := rIsEK K) call_isEK (by rfl) b_isinstance bb_isinstance (pa_cons (pv 0) (pa_cons (pe_glob (v := .ref C_Clash) (by rfl) k_Clash.g rfl) pa_nil))) pa_nil))))))
      (pss_cons (ps_set (i := 3) sc__law_alone.nd rfl (Or.inl rfl) (pe_callB (r := rIsEK K) call_isEK (by rfl) b_isinstance bb_isinstance (pa_cons (pv 0) (pa_cons (pe_tup (pa_cons (pe_glob (v := .ref C_NoRoom) (by rfl) k_NoRoom.g rfl) (pa_cons (pe_glob (v := .ref C_NoStanding) (by rfl) k_NoStanding.g rfl) (pa_cons (pe_glob (v := .ref C_TooFew) (by rfl) k_TooFew.g rfl) (pa_cons (pe_glob (v := .ref C_NoPlace) (by rfl) k_NoPlace.g rfl) (pa_cons (pe_glob (v := .ref C_NoText) (by rfl) k_NoText.g rfl) (pa_cons (pe_glob (v := .ref C_NoLine) (by rfl) k_NoLine.g rfl) (pa_cons (pe_glob (v := .ref C_NoBack) (by rfl) k_NoBack.g rfl) (pa_cons (pe_glob (v := .ref C_NoPhase) (by rfl) k_NoPhase.g rfl) pa_nil))))))))) pa_nil))))
      (pss_cons (ps_if (PW.pt (pw_or (pt_val (pv 3)) (pw_or (pt_not (pt_val (pe_callB (r := rIsEK K) call_isEK (by rfl) b_isinstance bb_isinstance (pa_cons (pv 0) (pa_cons (pe_glob (v := .ref C_ReelError) (by rfl) k_ReelError.g rfl) pa_nil))))) (pw_or (pt_not (pt_val (pe_callB (r := rIsEK K) call_isEK (by rfl) b_isinstance bb_isinstance (pa_cons (pv 0) (pa_cons (pe_bltn (v := .ty "ValueError") (u := .type "ValueError") (by rfl) b_ValueError bb_ValueError rfl) pa_nil))))) (pw_or1 (pt_cmpR (r := rNeX K) (opNe hu) (pe_bm (r := rCnt K) PySem.F.plainAttrs_list PySem.F.slot_list_count PySem.F.type_list_count mt_cnt (pv 2) (pa_cons pe_bl pa_nil)) pe_int (nomark _))))))) (pss_one (ps_ret pe_bl)) pss_nil)
      (pss_one (ps_ret (pe_ix (r := rIx K) ix_seq (pv 2) (pe_bm (r := rIdx K) PySem.F.plainAttrs_list PySem.F.slot_list_index PySem.F.type_list_index mt_idx (pe_lst (pa_cons pe_str (pa_cons pe_str (pa_cons pe_str (pa_cons pe_str pa_nil))))) (pa_cons (pv 1) pa_nil)) (fun _ _ => rfl))))))), ?_⟩
    refine st_start (σ' := [some _, some _, none, none]) rfl (fun bk ct => ?_)
    rcases hk with ⟨C, hC, ke, rfl⟩ | ⟨C, hC, ke, rfl⟩ | ⟨C, hC, ke, rfl⟩
    · obtain rfl : C_NoWays = C := by
        have e := k_NoWays.ns.symm.trans hC
        cases e
        rfl
      wtm_at "vc"
      rename_i l9 H9 S9
      have hfl : ([V.str "ways", V.str "level", V.str "many", V.str "clash"] : List V).all flatV = true := by decide +kernel
      rcases hn with rfl | rfl | rfl | rfl
      · refine ⟨l9, [V.str "ways", V.str "level", V.str "many", V.str "clash"], _, 0, _, rfl, rfl, Rds.sq S9 rs0, by decide +kernel, hfl, rfl, by decide +kernel, fun m z' hm hz' => ?_, ?_⟩
        · exact absurd hm (Nat.not_lt_zero _)
        · have hA9 : AtC [V.bl true, V.bl false, V.bl false, V.bl false] ((0 : Nat) : Int) (V.bl true) := ⟨rfl⟩
          have q2 : ∀ D' H', Sx D' L H' → Sm D D' → Q (.bl true) H' := fun D' H' s e => by
            have h9 := q D' H' s e
            rw [show decide ((Str.ofString "ways") = (Str.ofString "ways")) = true from by decide +kernel] at h9
            exact h9
          wtm_at "vc"
          exact q2 _ _ (Sx.gc (S := S9)) up
      · refine ⟨l9, [V.str "ways", V.str "level", V.str "many", V.str "clash"], _, 1, _, rfl, rfl, Rds.sq S9 rs0, by decide +kernel, hfl, rfl, by decide +kernel, fun m z' hm hz' => ?_, ?_⟩
        · match m, hm, hz' with
          | 0, _, hz' => cases hz'; decide +kernel
        · have hA9 : AtC [V.bl true, V.bl false, V.bl false, V.bl false] ((1 : Nat) : Int) (V.bl false) := ⟨rfl⟩
          have q2 : ∀ D' H', Sx D' L H' → Sm D D' → Q (.bl false) H' := fun D' H' s e => by
            have h9 := q D' H' s e
            rw [show decide ((Str.ofString "level") = (Str.ofString "ways")) = false from by decide +kernel] at h9
            exact h9
          wtm_at "vc"
          exact q2 _ _ (Sx.gc (S := S9)) up
      · refine ⟨l9, [V.str "ways", V.str "level", V.str "many", V.str "clash"], _, 2, _, rfl, rfl, Rds.sq S9 rs0, by decide +kernel, hfl, rfl, by decide +kernel, fun m z' hm hz' => ?_, ?_⟩
        · match m, hm, hz' with
          | 0, _, hz' => cases hz'; decide +kernel
          | 1, _, hz' => cases hz'; decide +kernel
        · have hA9 : AtC [V.bl true, V.bl false, V.bl false, V.bl false] ((2 : Nat) : Int) (V.bl false) := ⟨rfl⟩
          have q2 : ∀ D' H', Sx D' L H' → Sm D D' → Q (.bl false) H' := fun D' H' s e => by
            have h9 := q D' H' s e
            rw [show decide ((Str.ofString "many") = (Str.ofString "ways")) = false from by decide +kernel] at h9
            exact h9
          wtm_at "vc"
          exact q2 _ _ (Sx.gc (S := S9)) up
      · refine ⟨l9, [V.str "ways", V.str "level", V.str "many", V.str "clash"], _, 3, _, rfl, rfl, Rds.sq S9 rs0, by decide +kernel, hfl, rfl, by decide +kernel, fun m z' hm hz' => ?_, ?_⟩
        · match m, hm, hz' with
          | 0, _, hz' => cases hz'; decide +kernel
          | 1, _, hz' => cases hz'; decide +kernel
          | 2, _, hz' => cases hz'; decide +kernel
        · have hA9 : AtC [V.bl true, V.bl false, V.bl false, V.bl false] ((3 : Nat) : Int) (V.bl false) := ⟨rfl⟩
          have q2 : ∀ D' H', Sx D' L H' → Sm D D' → Q (.bl false) H' := fun D' H' s e => by
            have h9 := q D' H' s e
            rw [show decide ((Str.ofString "clash") = (Str.ofString "ways")) = false from by decide +kernel] at h9
            exact h9
          wtm_at "vc"
          exact q2 _ _ (Sx.gc (S := S9)) up
    · obtain rfl : C_NoLevel = C := by
        have e := k_NoLevel.ns.symm.trans hC
        cases e
        rfl
      wtm_at "vc"
      rename_i l9 H9 S9
      have hfl : ([V.str "ways", V.str "level", V.str "many", V.str "clash"] : List V).all flatV = true := by decide +kernel
      rcases hn with rfl | rfl | rfl | rfl
      · refine ⟨l9, [V.str "ways", V.str "level", V.str "many", V.str "clash"], _, 0, _, rfl, rfl, Rds.sq S9 rs0, by decide +kernel, hfl, rfl, by decide +kernel, fun m z' hm hz' => ?_, ?_⟩
        · exact absurd hm (Nat.not_lt_zero _)
        · have hA9 : AtC [V.bl false, V.bl true, V.bl false, V.bl false] ((0 : Nat) : Int) (V.bl false) := ⟨rfl⟩
          have q2 : ∀ D' H', Sx D' L H' → Sm D D' → Q (.bl false) H' := fun D' H' s e => by
            have h9 := q D' H' s e
            rw [show decide ((Str.ofString "ways") = (Str.ofString "level")) = false from by decide +kernel] at h9
            exact h9
          wtm_at "vc"
          exact q2 _ _ (Sx.gc (S := S9)) up
      · refine ⟨l9, [V.str "ways", V.str "level", V.str "many", V.str "clash"], _, 1, _, rfl, rfl, Rds.sq S9 rs0, by decide +kernel, hfl, rfl, by decide +kernel, fun m z' hm hz' => ?_, ?_⟩
        · match m, hm, hz' with
          | 0, _, hz' => cases hz'; decide +kernel
        · have hA9 : AtC [V.bl false, V.bl true, V.bl false, V.bl false] ((1 : Nat) : Int) (V.bl true) := ⟨rfl⟩
          have q2 : ∀ D' H', Sx D' L H' → Sm D D' → Q (.bl true) H' := fun D' H' s e => by
            have h9 := q D' H' s e
            rw [show decide ((Str.ofString "level") = (Str.ofString "level")) = true from by decide +kernel] at h9
            exact h9
          wtm_at "vc"
          exact q2 _ _ (Sx.gc (S := S9)) up
      · refine ⟨l9, [V.str "ways", V.str "level", V.str "many", V.str "clash"], _, 2, _, rfl, rfl, Rds.sq S9 rs0, by decide +kernel, hfl, rfl, by decide +kernel, fun m z' hm hz' => ?_, ?_⟩
        · match m, hm, hz' with
          | 0, _, hz' => cases hz'; decide +kernel
          | 1, _, hz' => cases hz'; decide +kernel
        · have hA9 : AtC [V.bl false, V.bl true, V.bl false, V.bl false] ((2 : Nat) : Int) (V.bl false) := ⟨rfl⟩
          have q2 : ∀ D' H', Sx D' L H' → Sm D D' → Q (.bl false) H' := fun D' H' s e => by
            have h9 := q D' H' s e
            rw [show decide ((Str.ofString "many") = (Str.ofString "level")) = false from by decide +kernel] at h9
            exact h9
          wtm_at "vc"
          exact q2 _ _ (Sx.gc (S := S9)) up
      · refine ⟨l9, [V.str "ways", V.str "level", V.str "many", V.str "clash"], _, 3, _, rfl, rfl, Rds.sq S9 rs0, by decide +kernel, hfl, rfl, by decide +kernel, fun m z' hm hz' => ?_, ?_⟩
        · match m, hm, hz' with
          | 0, _, hz' => cases hz'; decide +kernel
          | 1, _, hz' => cases hz'; decide +kernel
          | 2, _, hz' => cases hz'; decide +kernel
        · have hA9 : AtC [V.bl false, V.bl true, V.bl false, V.bl false] ((3 : Nat) : Int) (V.bl false) := ⟨rfl⟩
          have q2 : ∀ D' H', Sx D' L H' → Sm D D' → Q (.bl false) H' := fun D' H' s e => by
            have h9 := q D' H' s e
            rw [show decide ((Str.ofString "clash") = (Str.ofString "level")) = false from by decide +kernel] at h9
            exact h9
          wtm_at "vc"
          exact q2 _ _ (Sx.gc (S := S9)) up
    · obtain rfl : C_TooMany = C := by
        have e := k_TooMany.ns.symm.trans hC
        cases e
        rfl
      wtm_at "vc"
      rename_i l9 H9 S9
      have hfl : ([V.str "ways", V.str "level", V.str "many", V.str "clash"] : List V).all flatV = true := by decide +kernel
      rcases hn with rfl | rfl | rfl | rfl
      · refine ⟨l9, [V.str "ways", V.str "level", V.str "many", V.str "clash"], _, 0, _, rfl, rfl, Rds.sq S9 rs0, by decide +kernel, hfl, rfl, by decide +kernel, fun m z' hm hz' => ?_, ?_⟩
        · exact absurd hm (Nat.not_lt_zero _)
        · have hA9 : AtC [V.bl false, V.bl false, V.bl true, V.bl false] ((0 : Nat) : Int) (V.bl false) := ⟨rfl⟩
          have q2 : ∀ D' H', Sx D' L H' → Sm D D' → Q (.bl false) H' := fun D' H' s e => by
            have h9 := q D' H' s e
            rw [show decide ((Str.ofString "ways") = (Str.ofString "many")) = false from by decide +kernel] at h9
            exact h9
          wtm_at "vc"
          exact q2 _ _ (Sx.gc (S := S9)) up
      · refine ⟨l9, [V.str "ways", V.str "level", V.str "many", V.str "clash"], _, 1, _, rfl, rfl, Rds.sq S9 rs0, by decide +kernel, hfl, rfl, by decide +kernel, fun m z' hm hz' => ?_, ?_⟩
        · match m, hm, hz' with
          | 0, _, hz' => cases hz'; decide +kernel
        · have hA9 : AtC [V.bl false, V.bl false, V.bl true, V.bl false] ((1 : Nat) : Int) (V.bl false) := ⟨rfl⟩
          have q2 : ∀ D' H', Sx D' L H' → Sm D D' → Q (.bl false) H' := fun D' H' s e => by
            have h9 := q D' H' s e
            rw [show decide ((Str.ofString "level") = (Str.ofString "many")) = false from by decide +kernel] at h9
            exact h9
          wtm_at "vc"
          exact q2 _ _ (Sx.gc (S := S9)) up
      · refine ⟨l9, [V.str "ways", V.str "level", V.str "many", V.str "clash"], _, 2, _, rfl, rfl, Rds.sq S9 rs0, by decide +kernel, hfl, rfl, by decide +kernel, fun m z' hm hz' => ?_, ?_⟩
        · match m, hm, hz' with
          | 0, _, hz' => cases hz'; decide +kernel
          | 1, _, hz' => cases hz'; decide +kernel
        · have hA9 : AtC [V.bl false, V.bl false, V.bl true, V.bl false] ((2 : Nat) : Int) (V.bl true) := ⟨rfl⟩
          have q2 : ∀ D' H', Sx D' L H' → Sm D D' → Q (.bl true) H' := fun D' H' s e => by
            have h9 := q D' H' s e
            rw [show decide ((Str.ofString "many") = (Str.ofString "many")) = true from by decide +kernel] at h9
            exact h9
          wtm_at "vc"
          exact q2 _ _ (Sx.gc (S := S9)) up
      · refine ⟨l9, [V.str "ways", V.str "level", V.str "many", V.str "clash"], _, 3, _, rfl, rfl, Rds.sq S9 rs0, by decide +kernel, hfl, rfl, by decide +kernel, fun m z' hm hz' => ?_, ?_⟩
        · match m, hm, hz' with
          | 0, _, hz' => cases hz'; decide +kernel
          | 1, _, hz' => cases hz'; decide +kernel
          | 2, _, hz' => cases hz'; decide +kernel
        · have hA9 : AtC [V.bl false, V.bl false, V.bl true, V.bl false] ((3 : Nat) : Int) (V.bl false) := ⟨rfl⟩
          have q2 : ∀ D' H', Sx D' L H' → Sm D D' → Q (.bl false) H' := fun D' H' s e => by
            have h9 := q D' H' s e
            rw [show decide ((Str.ofString "clash") = (Str.ofString "many")) = false from by decide +kernel] at h9
            exact h9
          wtm_at "vc"
          exact q2 _ _ (Sx.gc (S := S9)) up
abbrev st_first_counts : Stmt := topS 22
theorem sc_first_counts : FnScope ["p"] ["p"] (defScope st_first_counts) := ⟨rfl, rfl, rfl, by decide +kernel, rfl, by decide +kernel, by decide +kernel⟩
def sp_first_counts (K : PySem.W.Frag) : Sp := fun vs H Q _ => ∃ D L p, vs = [.int p] ∧ 2 ≤ p ∧ p ≤ 7 ∧ Sx D L H ∧
  ∀ a D' H', Sx D' L H' → Sm D D' → Kn D' a (.tup ((firstC p.toNat).map V.int)) → Q (.ref a) H'
theorem ok_first_counts {fA : Addr} {fd : FuncData} (F : Fun K "first_counts" "first_counts" st_first_counts fA fd) : FnOk P w K mg base CX0 1 fA fd ["p"] (sp_first_counts K) := by
  refine F.ok sc_first_counts (fun vs H Q E h => ?_) (fun cdv A outer s H vs Q E hr h => ?_)
  · obtain ⟨D, L, p, rfl, h2, h7, S, q⟩ := h
    rfl
  · obtain ⟨D, L, p, rfl, h2, h7, S, q⟩ := h
    have hu : (A.deeper (envOfC "first_counts" (defScope st_first_counts) s.heap.objs.size fA cdv)).units + 64 < cLine := by have := hr.un; omega
    refine ⟨_, (pss_one (ps_ret (pe_op (r := rAddX K) opAdd (pe_tup (pa_cons pe_int pa_nil)) (pe_op (r := rMulU K) opMulU (pe_tup (pa_cons pe_int pa_nil)) (pe_op op_sub (pv 0) pe_int))))), ?_⟩
    refine st_start (σ' := [some _]) rfl (fun bk ct => ?_)
    wtm_at "vc"
    
    rw [firstC_eq h2] at q
    exact q _ _ _ inferInstance up (by rw [List.map_cons, List.map_replicate]; infer_instance)
abbrev st_higher_counts : Stmt := topS 23
theorem sc_higher_counts : FnScope ["counts", "count"] ["counts"] (defScope st_higher_counts) := ⟨rfl, rfl, rfl, by decide +kernel, rfl, by decide +kernel, by decide +kernel⟩
def sp_higher_counts (K : PySem.W.Frag) : Sp := fun vs H Q _ => ∃ (D : Hp) (L : Own) (a : Addr) (ns : List Int), vs = [.ref a] ∧ Sx D L H ∧ Kn D a (.tup (ns.map V.int)) ∧ 1 ≤ ns.length ∧ ns.length ≤ 1000 ∧
  ∀ a D' H', Sx D' L H' → Sm D D' → Kn D' a (.tup ((highC ns).map V.int)) → Q (.ref a) H'
theorem ok_higher_counts {fA : Addr} {fd : FuncData} (F : Fun K "higher_counts" "higher_counts" st_higher_counts fA fd) (b_tuple : mg "tuple" = none) : FnOk P w K mg base CX0 1 fA fd ["counts"] (sp_higher_counts K) := by
  refine F.ok sc_higher_counts (fun vs H Q E h => ?_) (fun cdv A outer s H vs Q E hr h => ?_)
  · obtain ⟨D, L, a, ns, rfl, S, ha, h1, h2, q⟩ := h
    rfl
  · obtain ⟨D, L, a, ns, rfl, S, ha, h1, h2, q⟩ := h
    have hu : (A.deeper (envOfC "higher_counts" (defScope st_higher_counts) s.heap.objs.size fA cdv)).units + 64 < cLine := by have := hr.un; omega
    refine ⟨_, (pss_one (ps_ret (pe_callTy (r := rTupOf K) call_tupN (by rfl) b_tuple bb_tuple (pa_cons (pe_op (r := rAddX K) opAdd (pe_lc (own := [("count", 1)]) (tt := tYes) rfl sc_higher_counts.nd (pi_seqK K (pe_slice (r := rSlX K) slX (pv 0) (po_some pe_int) po_none)) (blkOk_by (N := ["counts", "count"]) (sc := defScope st_higher_counts) (by decide +kernel)) (fun _ _ _ _ _ => (pg_name (i := 1) sc_higher_counts.nd rfl (Or.inl rfl))) (fun _ _ _ _ _ => pts_nil) (fun _ _ _ _ _ => (pe_op (r := rAddX K) opAdd (pe_ix (r := rIx K) ix_seq (pv 0) pe_int (fun _ _ => rfl)) (pv 1)))) (pe_lst (pa_cons (pe_ix (r := rIx K) ix_seq (pv 0) pe_int (fun _ _ => rfl)) pa_nil))) pa_nil)))), ?_⟩
    refine st_start (σ' := [some _, none]) rfl (fun bk ct => ?_)
    obtain ⟨x, r, rfl⟩ : ∃ x r, ns = x :: r := by
      cases ns with
      | nil => exact absurd h1 (by decide)
      | cons x r => exact ⟨x, r, rfl⟩
    have hl : r.length ≤ 1000 := by rw [List.length_cons] at h2; omega
    wtm_at "vc"
    rename_i b D1 H1 S1 e1 hb
    refine lc_vals (walk_tup (xs := r.map V.int)) (by rw [List.length_map]; omega) (r.map fun y => V.int (x + y)) (by rw [List.length_map, List.length_map]) (fun p acc H' S' => sqT S' hb.pf) (fun i v p acc H2 H3 hi S2 hy Ad hA => ?_) (fun p H2 S2 => ?_)
    · obtain ⟨rfl, hv⟩ := hy
      obtain ⟨y, hy, rfl⟩ := getI hv
      wtm_at "vc"
      exact hA _ _ S2 (by rw [List.getElem?_map, hy]; rfl)
    · wtm_at "vc"
      have e : (highC (x :: r)).map V.int = (r.map fun y => V.int (x + y)) ++ [V.int x] := by
        unfold highC
        rw [List.map_append, List.drop_succ_cons, List.drop_zero, List.map_map]
        rfl
      rw [e] at q
      exact q _ _ _ Sx.gc up inferInstance
abbrev st_is_whole : Stmt := topS 15
theorem sc_is_whole : FnScope ["thing"] ["thing"] (defScope st_is_whole) := ⟨rfl, rfl, rfl, by decide +kernel, rfl, by decide +kernel, by decide +kernel⟩
def sp_is_whole (K : PySem.W.Frag) : Sp := fun vs H Q _ => ∃ (v : V) (t : String) (b1 b2 b : Bool), vs = [v] ∧ TyX K H v (.type t) ∧ kitB t "int" = some b1 ∧ kitB t "bool" = some b2 ∧ (b1 && !b2) = b ∧ Q (.bl b) H
theorem ok_is_whole {fA : Addr} {fd : FuncData} (F : Fun K "is_whole" "is_whole" st_is_whole fA fd) (b_bool : mg "bool" = none) (b_int : mg "int" = none) (b_isinstance : mg "isinstance" = none) : FnOk P w K mg base CX0 1 fA fd ["thing"] (sp_is_whole K) := by
  refine F.ok sc_is_whole (fun vs H Q E h => ?_) (fun cdv A outer s H vs Q E hr h => ?_)
  · obtain ⟨v, t, b1, b2, b, rfl, h1, h2, h3, rfl, q⟩ := h
    rfl
  · obtain ⟨v, t, b1, b2, b, rfl, h1, h2, h3, rfl, q⟩ := h
    have hu : (A.deeper (envOfC "is_whole" (defScope st_is_whole) s.heap.objs.size fA cdv)).units + 64 < cLine := by have := hr.un; omega
    refine ⟨_, (pss_one (ps_ret (pe_and (pe_callB (r := rIsiX K) call_isiX (by rfl) b_isinstance bb_isinstance (pa_cons (pv 0) (pa_cons (pe_bltn (v := .ty "int") (u := .type "int") (by rfl) b_int bb_int rfl) pa_nil))) (pe_one (pe_notK K (pe_callB (r := rIsiX K) call_isiX (by rfl) b_isinstance bb_isinstance (pa_cons (pv 0) (pa_cons (pe_bltn (v := .ty "bool") (u := .type "bool") (by rfl) b_bool bb_bool rfl) pa_nil)))))))), ?_⟩
    refine st_start (σ' := [some _]) rfl (fun bk ct => ?_)
    have i1 : TyC K H v t := ⟨h1⟩
    have i2 : KiC t "int" b1 := ⟨h2⟩
    have i3 : KiC t "bool" b2 := ⟨h3⟩
    cases b1
    · wtm_at "vc"
      exact q
    · wtm_at "vc"
      exact q
abbrev st_look_at_level : Stmt := topS 21
theorem sc_look_at_level : FnScope ["n"] ["n"] (defScope st_look_at_level) := ⟨rfl, rfl, rfl, by decide +kernel, rfl, by decide +kernel, by decide +kernel⟩
def sp_look_at_level (K : PySem.W.Frag) : Sp := fun vs H Q _ => ∃ n, vs = [.int n] ∧ 0 ≤ n ∧ n ≤ 300 ∧ Q .non H
theorem ok_look_at_level {fA : Addr} {fd : FuncData} (F : Fun K "look_at_level" "look_at_level" st_look_at_level fA fd) {t_MOST_LEVEL : Tok} (c_MOST_LEVEL : mg "MOST_LEVEL" = some (.int (300) t_MOST_LEVEL))
    (C_is_whole : Cl P w K mg base CX0 1 "is_whole" ["thing"] (sp_is_whole K)) : FnOk P w K mg base CX0 2 fA fd ["n"] (sp_look_at_level K) := by
  refine F.ok sc_look_at_level (fun vs H Q E h => ?_) (fun cdv A outer s H vs Q E hr h => ?_)
  · obtain ⟨n, rfl, h2, h7, q⟩ := h
    rfl
  · obtain ⟨n, rfl, h2, h7, q⟩ := h
    have hu : (A.deeper (envOfC "look_at_level" (defScope st_look_at_level) s.heap.objs.size fA cdv)).units + 64 < cLine := by have := hr.un; omega
    refine ⟨_, (pss_one (ps_if (PW.pt (pw_or (pt_not (pt_val (pe_cl C_is_whole hr (by decide) (by rfl) (pa_cons (pv 0) pa_nil)))) (pw_or1 (pt_not (pt_chain op_le op_le pe_int (pv 0) (pe_glob (v := .int (300)) (by rfl) c_MOST_LEVEL ⟨_, rfl⟩)))))) pss_never pss_nil)), ?_⟩
    refine st_start (σ' := [some _]) rfl (fun bk ct => ?_)
    wtm_at "vc"
    refine ⟨.int n, "int", true, false, true, rfl, .base (.int n), KiC.pf, KiC.pf, rfl, ?_⟩
    wtm_at "vc"
    exact q
--@@
def sp_look_at_level_x (K : PySem.W.Frag) : Sp := fun vs H Q E => ∃ (D : Hp) (L : Own) (v : V), vs = [v] ∧ Sx D L H ∧ OddV 0 300 D v ∧ ∀ C, PySem.W.nsIn K mainGlobals "NoLevel" = some (some (.ref C)) → E (.ref C) none H
theorem ok_look_at_level_x {fA : Addr} {fd : FuncData} (F : Fun K "look_at_level" "look_at_level" st_look_at_level fA fd) {t_MOST_LEVEL : Tok} (c_MOST_LEVEL : mg "MOST_LEVEL" = some (.int (300) t_MOST_LEVEL))
    (C_is_whole : Cl P w K mg base CX0 1 "is_whole" ["thing"] (sp_is_whole K))
    {C_NoLevel : Addr} (k_NoLevel : ClC K mg "NoLevel" C_NoLevel) (R_NoLevel : RzC K C_NoLevel) : FnOk P w K mg base (L2.CX P w) 2 fA fd ["n"] (sp_look_at_level_x K) := by
  refine F.okX sc_look_at_level (fun vs H Q E h => ?_) (fun cdv A outer s H vs Q E hr h => ?_)
  · obtain ⟨D, L, v, rfl, S, ho, q⟩ := h
    rfl
  · obtain ⟨D, L, v, rfl, S, ho, q⟩ := h
    have hu : (A.deeper (envOfC "look_at_level" (defScope st_look_at_level) s.heap.objs.size fA cdv)).units + 64 < cLine := by have := hr.un; omega
    refine ⟨_, (pss_one (ps_if (PW.pt (pw_or (pt_not (pt_val (pe_cl C_is_whole hr (by decide) (by rfl) (pa_cons (pv 0) pa_nil)))) (pw_or1 (pt_not (pt_chain op_le op_le pe_int (pv 0) (pe_glob (v := .int (300)) (by rfl) c_MOST_LEVEL ⟨_, rfl⟩)))))) (pss_one (ps_rz k_NoLevel R_NoLevel (by rfl) (takes_of rfl rfl rfl rfl))) pss_nil)), ?_⟩
    refine st_start (σ' := [some _]) rfl (fun bk ct => ?_)
    wtm_at "vc"
    
    cases ho with
    | int i hi =>
      refine ⟨.int i, "int", true, false, true, rfl, .base (.int i), KiC.pf, KiC.pf, rfl, ?_⟩
      wtm_at "vc"
      rcases hi with hi | hi
      · wtm_at "vc"
        exact q _ k_NoLevel.ns
      · refine if_d (fun _ => ?_) (fun h => ?_)
        · wtm_at "vc"
          exact q _ k_NoLevel.ns
        · wtm_at "vc"
          exact q _ k_NoLevel.ns
    | bl b =>
      refine ⟨.bl b, "bool", true, true, false, rfl, .base (.bl b), KiC.pf, KiC.pf, rfl, ?_⟩
      wtm_at "vc"
      exact q _ k_NoLevel.ns
    | non =>
      refine ⟨.non, "NoneType", false, false, false, rfl, .base .non, KiC.pf, KiC.pf, rfl, ?_⟩
      wtm_at "vc"
      exact q _ k_NoLevel.ns
    | str z =>
      refine ⟨.str z, "str", false, false, false, rfl, .base (.str z), KiC.pf, KiC.pf, rfl, ?_⟩
      wtm_at "vc"
      exact q _ k_NoLevel.ns
    | tup a xs h =>
      have : Kn D a (.tup xs) := ⟨h⟩
      refine ⟨.ref a, "tuple", false, false, false, rfl, TyC.pf, KiC.pf, KiC.pf, rfl, ?_⟩
      wtm_at "vc"
      exact q _ k_NoLevel.ns
    | lst a xs h =>
      have : Kn D a (.lst xs) := ⟨h⟩
      refine ⟨.ref a, "list", false, false, false, rfl, TyC.pf, KiC.pf, KiC.pf, rfl, ?_⟩
      wtm_at "vc"
      exact q _ k_NoLevel.ns
    | dic a kvs h =>
      have : Kn D a (.dK kvs) := ⟨h⟩
      refine ⟨.ref a, "dict", false, false, false, rfl, TyC.pf, KiC.pf, KiC.pf, rfl, ?_⟩
      wtm_at "vc"
      exact q _ k_NoLevel.ns
abbrev st_look_at_ways : Stmt := topS 20
theorem sc_look_at_ways : FnScope ["p"] ["p"] (defScope st_look_at_ways) := ⟨rfl, rfl, rfl, by decide +kernel, rfl, by decide +kernel, by decide +kernel⟩
def sp_look_at_ways (K : PySem.W.Frag) : Sp := fun vs H Q _ => ∃ p, vs = [.int p] ∧ 2 ≤ p ∧ p ≤ 7 ∧ Q .non H
theorem ok_look_at_ways {fA : Addr} {fd : FuncData} (F : Fun K "look_at_ways" "look_at_ways" st_look_at_ways fA fd) {t_LEAST_WAYS : Tok} (c_LEAST_WAYS : mg "LEAST_WAYS" = some (.int (2) t_LEAST_WAYS)) {t_MOST_WAYS : Tok} (c_MOST_WAYS : mg "MOST_WAYS" = some (.int (7) t_MOST_WAYS))
    (C_is_whole : Cl P w K mg base CX0 1 "is_whole" ["thing"] (sp_is_whole K)) : FnOk P w K mg base CX0 2 fA fd ["p"] (sp_look_at_ways K) := by
  refine F.ok sc_look_at_ways (fun vs H Q E h => ?_) (fun cdv A outer s H vs Q E hr h => ?_)
  · obtain ⟨p, rfl, h2, h7, q⟩ := h
    rfl
  · obtain ⟨p, rfl, h2, h7, q⟩ := h
    have hu : (A.deeper (envOfC "look_at_ways" (defScope st_look_at_ways) s.heap.objs.size fA cdv)).units + 64 < cLine := by have := hr.un; omega
    refine ⟨_, (pss_one (ps_if (PW.pt (pw_or (pt_not (pt_val (pe_cl C_is_whole hr (by decide) (by rfl) (pa_cons (pv 0) pa_nil)))) (pw_or1 (pt_not (pt_chain op_le op_le (pe_glob (v := .int (2)) (by rfl) c_LEAST_WAYS ⟨_, rfl⟩) (pv 0) (pe_glob (v := .int (7)) (by rfl) c_MOST_WAYS ⟨_, rfl⟩)))))) pss_never pss_nil)), ?_⟩
    refine st_start (σ' := [some _]) rfl (fun bk ct => ?_)
    wtm_at "vc"
    refine ⟨.int p, "int", true, false, true, rfl, .base (.int p), KiC.pf, KiC.pf, rfl, ?_⟩
    wtm_at "vc"
    exact q
--@@
def sp_look_at_ways_x (K : PySem.W.Frag) : Sp := fun vs H Q E => ∃ (D : Hp) (L : Own) (v : V), vs = [v] ∧ Sx D L H ∧ OddV 2 7 D v ∧ ∀ C, PySem.W.nsIn K mainGlobals "NoWays" = some (some (.ref C)) → E (.ref C) none H
theorem ok_look_at_ways_x {fA : Addr} {fd : FuncData} (F : Fun K "look_at_ways" "look_at_ways" st_look_at_ways fA fd) {t_LEAST_WAYS : Tok} (c_LEAST_WAYS : mg "LEAST_WAYS" = some (.int (2) t_LEAST_WAYS)) {t_MOST_WAYS : Tok} (c_MOST_WAYS : mg "MOST_WAYS" = some (.int (7) t_MOST_WAYS))
    (C_is_whole : Cl P w K mg base CX0 1 "is_whole" ["thing"] (sp_is_whole K))
    {C_NoWays : Addr} (k_NoWays : ClC K mg "NoWays" C_NoWays) (R_NoWays : RzC K C_NoWays) : FnOk P w K mg base (L2.CX P w) 2 fA fd ["p"] (sp_look_at_ways_x K) := by
  refine F.okX sc_look_at_ways (fun vs H Q E h => ?_) (fun cdv A outer s H vs Q E hr h => ?_)
  · obtain ⟨D, L, v, rfl, S, ho, q⟩ := h
    rfl
  · obtain ⟨D, L, v, rfl, S, ho, q⟩ := h
    have hu : (A.deeper (envOfC "look_at_ways" (defScope st_look_at_ways) s.heap.objs.size fA cdv)).units + 64 < cLine := by have := hr.un; omega
    refine ⟨_, (pss_one (ps_if (PW.pt (pw_or (pt_not (pt_val (pe_cl C_is_whole hr (by decide) (by rfl) (pa_cons (pv 0) pa_nil)))) (pw_or1 (pt_not (pt_chain op_le op_le (pe_glob (v := .int (2)) (by rfl) c_LEAST_WAYS ⟨_, rfl⟩) (pv 0) (pe_glob (v := .int (7)) (by rfl) c_MOST_WAYS ⟨_, rfl⟩)))))) (pss_one (ps_rz k_NoWays R_NoWays (by rfl) (takes_of rfl rfl rfl rfl))) pss_nil)), ?_⟩
    refine st_start (σ' := [some _]) rfl (fun bk ct => ?_)
    wtm_at "vc"
    
    cases ho with
    | int i hi =>
      refine ⟨.int i, "int", true, false, true, rfl, .base (.int i), KiC.pf, KiC.pf, rfl, ?_⟩
      wtm_at "vc"
      rcases hi with hi | hi
      · wtm_at "vc"
        exact q _ k_NoWays.ns
      · refine if_d (fun _ => ?_) (fun h => ?_)
        · wtm_at "vc"
          exact q _ k_NoWays.ns
        · wtm_at "vc"
          exact q _ k_NoWays.ns
    | bl b =>
      refine ⟨.bl b, "bool", true, true, false, rfl, .base (.bl b), KiC.pf, KiC.pf, rfl, ?_⟩
      wtm_at "vc"
      exact q _ k_NoWays.ns
    | non =>
      refine ⟨.non, "NoneType", false, false, false, rfl, .base .non, KiC.pf, KiC.pf, rfl, ?_⟩
      wtm_at "vc"
      exact q _ k_NoWays.ns
    | str z =>
      refine ⟨.str z, "str", false, false, false, rfl, .base (.str z), KiC.pf, KiC.pf, rfl, ?_⟩
      wtm_at "vc"
      exact q _ k_NoWays.ns
    | tup a xs h =>
      have : Kn D a (.tup xs) := ⟨h⟩
      refine ⟨.ref a, "tuple", false, false, false, rfl, TyC.pf, KiC.pf, KiC.pf, rfl, ?_⟩
      wtm_at "vc"
      exact q _ k_NoWays.ns
    | lst a xs h =>
      have : Kn D a (.lst xs) := ⟨h⟩
      refine ⟨.ref a, "list", false, false, false, rfl, TyC.pf, KiC.pf, KiC.pf, rfl, ?_⟩
      wtm_at "vc"
      exact q _ k_NoWays.ns
    | dic a kvs h =>
      have : Kn D a (.dK kvs) := ⟨h⟩
      refine ⟨.ref a, "dict", false, false, false, rfl, TyC.pf, KiC.pf, KiC.pf, rfl, ?_⟩
      wtm_at "vc"
      exact q _ k_NoWays.ns
abbrev st_level_counts : Stmt := topS 24
theorem sc_level_counts : FnScope ["p", "n", "counts", "level"] ["p", "n"] (defScope st_level_counts) := ⟨rfl, rfl, rfl, by decide +kernel, rfl, by decide +kernel, by decide +kernel⟩
def sp_level_counts (K : PySem.W.Frag) : Sp := fun vs H Q _ => ∃ D L p n, vs = [.int p, .int n] ∧ 2 ≤ p ∧ p ≤ 7 ∧ 0 ≤ n ∧ n ≤ 300 ∧ Sx D L H ∧
  ∀ a D' H', Sx D' L H' → Sm D D' → Kn D' a (.tup ((lvlC p.toNat n.toNat).map V.int)) → Q (.ref a) H'
theorem ok_level_counts {fA : Addr} {fd : FuncData} (F : Fun K "level_counts" "level_counts" st_level_counts fA fd) (b_range : mg "range" = none)
    (C_first_counts : Cl P w K mg base CX0 1 "first_counts" ["p"] (sp_first_counts K))
    (C_higher_counts : Cl P w K mg base CX0 1 "higher_counts" ["counts"] (sp_higher_counts K))
    (C_look_at_level : Cl P w K mg base CX0 2 "look_at_level" ["n"] (sp_look_at_level K))
    (C_look_at_ways : Cl P w K mg base CX0 2 "look_at_ways" ["p"] (sp_look_at_ways K)) : FnOk P w K mg base CX0 3 fA fd ["p", "n"] (sp_level_counts K) := by
  refine F.ok sc_level_counts (fun vs H Q E h => ?_) (fun cdv A outer s H vs Q E hr h => ?_)
  · obtain ⟨D, L, p, n, rfl, h2, h7, n0, n3, S, q⟩ := h
    rfl
  · obtain ⟨D, L, p, n, rfl, h2, h7, n0, n3, S, q⟩ := h
    have hu : (A.deeper (envOfC "level_counts" (defScope st_level_counts) s.heap.objs.size fA cdv)).units + 64 < cLine := by have := hr.un; omega
    refine ⟨_, (pss_cons (ps_expr (pe_cl C_look_at_ways hr (by decide) (by rfl) (pa_cons (pv 0) pa_nil)))
      (pss_cons (ps_expr (pe_cl C_look_at_level hr (by decide) (by rfl) (pa_cons (pv 1) pa_nil)))
      (pss_cons (ps_set (i := 2) sc_level_counts.nd rfl (Or.inl rfl) (pe_cl C_first_counts hr (by decide) (by rfl) (pa_cons (pv 0) pa_nil)))
      (pss_cons (ps_for PassesOwn.never rfl (pi_range1 (by rfl) b_range (pa_cons (pv 1) pa_nil)) (pg_name (i := 3) sc_level_counts.nd rfl (Or.inl rfl))
      (pss_one (ps_set (i := 2) sc_level_counts.nd rfl (Or.inl rfl) (pe_cl C_higher_counts hr (by decide) (by rfl) (pa_cons (pv 2) pa_nil)))))
      (pss_one (ps_ret (pv 2))))))), ?_⟩
    refine st_start (σ' := [some _, some _, none, none]) rfl (fun bk ct => ?_)
    wtm_at "vc"
    refine ⟨p, rfl, h2, h7, ?_⟩
    wtm_at "vc"
    refine ⟨n, rfl, n0, n3, ?_⟩
    wtm_at "vc"
    refine ⟨D, L, p, rfl, h2, h7, S, fun a D1 H1 S1 e1 ha => ?_⟩
    wtm_at "vc"
    refine for_go walk_range (fun i σ H => ∃ x b D2, σ = [some (.int p), some (.int n), some (.ref b), x] ∧ Sm D D2 ∧ Kn D2 b (.tup ((lvlC p.toNat i).map V.int)) ∧ Sx D2 L H)
      ⟨_, a, D1, rfl, e1, ha, S1⟩ (fun _ _ _ _ _ => trivial) (fun i v σ H2 H3 hi ⟨x, b, D2, es, e2, hb, S2⟩ hy nx bk hN => ?_) (fun σ H2 ⟨x, b, D2, es, e2, hb, S2⟩ => ?_)
    · obtain ⟨rfl, rfl⟩ := hy
      subst es
      wtm_at "vc"
      have hl := lvlC_len (p := p.toNat) (by omega) i
      refine ⟨D2, L, b, lvlC p.toNat i, rfl, S2, hb, by omega, by omega, fun c D3 H4 S3 e3 hc => ?_⟩
      wtm_at "vc"
      exact hN _ _ ⟨_, c, D3, rfl, up, hc, S3⟩
    · subst es
      wtm_at "vc"
      exact q b D2 H2 S2 up hb
--@@
def sp_level_counts_x (K : PySem.W.Frag) : Sp := fun vs H Q E => ∃ (D : Hp) (L : Own) (v n : V), vs = [v, n] ∧ Sx D L H ∧ ((OddV 2 7 D v ∧ ∀ C, PySem.W.nsIn K mainGlobals "NoWays" = some (some (.ref C)) → E (.ref C) none H) ∨ (∃ p, v = .int p ∧ 2 ≤ p ∧ p ≤ 7 ∧ OddV 0 300 D n ∧ ∀ C, PySem.W.nsIn K mainGlobals "NoLevel" = some (some (.ref C)) → E (.ref C) none H))
theorem ok_level_counts_x {fA : Addr} {fd : FuncData} (F : Fun K "level_counts" "level_counts" st_level_counts fA fd)
    (C_look_at_level_x : Cl P w K mg base (L2.CX P w) 2 "look_at_level" ["n"] (sp_look_at_level_x K))
    (C_look_at_ways_o : Cl P w K mg base (L2.CX P w) 2 "look_at_ways" ["p"] (fun vs H Q E => sp_look_at_ways K vs H Q E0 ∨ sp_look_at_ways_x K vs H Q E)) : FnOk P w K mg base (L2.CX P w) 3 fA fd ["p", "n"] (sp_level_counts_x K) := by
  refine F.okX sc_level_counts (fun vs H Q E h => ?_) (fun cdv A outer s H vs Q E hr h => ?_)
  · obtain ⟨D, L, v, n, rfl, S, q⟩ := h
    rfl
  · obtain ⟨D, L, v, n, rfl, S, q⟩ := h
    have hu : (A.deeper (envOfC "level_counts" (defScope st_level_counts) s.heap.objs.size fA cdv)).units + 64 < cLine := by have := hr.un; omega
    refine ⟨_, (pss_cons (ps_expr (pe_clS C_look_at_ways_o hr (by decide) (by rfl) (takes_of rfl rfl rfl rfl) (pa_cons (pv 0) pa_nil)))
      (pss_cons (ps_expr (pe_clS C_look_at_level_x hr (by decide) (by rfl) (takes_of rfl rfl rfl rfl) (pa_cons (pv 1) pa_nil)))
      pss_never)), ?_⟩
    refine st_start (σ' := [some _, some _, none, none]) rfl (fun bk ct => ?_)
    wtm_at "vc"
    rcases q with ⟨ho, q⟩ | ⟨p, rfl, h2, h7, ho, q⟩
    · exact .inr ⟨D, L, v, rfl, S, ho, q⟩
    · refine .inl ⟨p, rfl, h2, h7, ?_⟩
      wtm_at "vc"
      exact ⟨D, L, n, rfl, S, ho, q⟩
abbrev st_turned_numbers : Stmt := topS 27
theorem sc_turned_numbers : FnScope ["p", "n", "reels", "turn", "first", "number", "reel"] ["p", "n"] (defScope st_turned_numbers) := ⟨rfl, rfl, rfl, by decide +kernel, rfl, by decide +kernel, by decide +kernel⟩
/-- how often each place is read when rows are played from the end -/
def trnN (p : Nat) : Nat → List (List Int)
  | 0 => [0] :: List.replicate (p - 1) []
  | n + 1 => ((trnN p n).drop 1).map (fun r => r ++ ((trnN p n).headD []).reverse.map (· + 1)) ++ [((trnN p n).headD []).reverse.map (· + 1)]
theorem trnN_lens {p : Nat} (h : 1 ≤ p) : ∀ n, (trnN p n).map (fun r : List Int => (r.length : Int)) = lvlC p n
  | 0 => by
    show ([0] :: List.replicate (p - 1) ([] : List Int)).map (fun r : List Int => (r.length : Int)) = firstC p
    unfold firstC
    rw [List.map_cons, List.map_replicate]
    rfl
  | n + 1 => by
    have ih := trnN_lens h n
    show (((trnN p n).drop 1).map (fun r => r ++ ((trnN p n).headD []).reverse.map (· + 1)) ++ [((trnN p n).headD []).reverse.map (· + 1)]).map (fun r : List Int => (r.length : Int)) = highC (lvlC p n)
    rw [← ih]
    unfold highC
    cases trnN p n with
    | nil => rfl
    | cons r rs =>
      show ((rs.map (fun x => x ++ r.reverse.map (· + 1))) ++ [r.reverse.map (· + 1)]).map (fun r : List Int => (r.length : Int)) = (rs.map fun r : List Int => (r.length : Int)).map (fun x => (r.length : Int) + x) ++ [(r.length : Int)]
      rw [List.map_append, List.map_map, List.map_map]
      congr 1
      · refine List.map_congr_left fun x _ => ?_
        show ((x ++ r.reverse.map (· + 1)).length : Int) = (r.length : Int) + (x.length : Int)
        rw [List.length_append, List.length_map, List.length_reverse]
        omega
      · show [((r.reverse.map (· + 1)).length : Int)] = _
        rw [List.length_map, List.length_reverse]
theorem trnN_len {p : Nat} (h : 1 ≤ p) (n : Nat) : (trnN p n).length = p := by
  have := congrArg List.length (trnN_lens h n)
  rw [List.length_map, lvlC_len h] at this
  exact this
theorem trnN_le {p n : Nat} (h : 1 ≤ p) {r : List Int} (hr : r ∈ trnN p n) : (r.length : Int) ≤ (lvlC p n).sum := by
  rw [← trnN_lens h]
  have key : ∀ rs : List (List Int), r ∈ rs → (r.length : Int) ≤ (rs.map fun r : List Int => (r.length : Int)).sum := fun rs => by
    induction rs with
    | nil => exact fun h => nomatch h
    | cons x rs ih =>
      intro h
      have h0 : ∀ xs : List (List Int), 0 ≤ (xs.map fun r : List Int => (r.length : Int)).sum := fun xs => by
        induction xs with
        | nil => exact Int.le_refl _
        | cons y ys ih => rw [List.map_cons, List.sum_cons]; omega
      rw [List.map_cons, List.sum_cons]
      have := h0 rs
      rcases List.mem_cons.mp h with rfl | h
      · omega
      · have := ih h
        omega
  exact key _ hr

/-- the pairs of a thing and its row's number, rows from n on -/
def prs : Nat → List (List Int) → List (Int × Int)
  | _, [] => []
  | n, r :: rs => r.map (fun t => (t, (n : Int))) ++ prs (n + 1) rs
theorem prs_bound : ∀ {n : Nat} {rs : List (List Int)} {q : Int × Int}, q ∈ prs n rs → (n : Int) ≤ q.2 ∧ q.2 < (n : Int) + rs.length
  | _, [], _, h => absurd h List.not_mem_nil
  | n, r :: rs, q, h => by
    rw [List.length_cons]
    rcases List.mem_append.mp h with h1 | h1
    · obtain ⟨t, _, rfl⟩ := List.mem_map.mp h1
      show (n : Int) ≤ (n : Int) ∧ (n : Int) < (n : Int) + ((rs.length + 1 : Nat) : Int)
      omega
    · have := prs_bound h1
      omega
theorem prs_filter : ∀ {n : Nat} {rs : List (List Int)} {k : Nat} {r : List Int}, rs[k]? = some r → (prs n rs).filter (fun q => decide (q.2 = ((n + k : Nat) : Int))) = r.map (fun t => (t, ((n + k : Nat) : Int)))
  | _, [], _, _, h => by simp at h
  | n, a :: rs, 0, r, h => by
    have e : a = r := by simpa using h
    subst e
    show (a.map (fun t => (t, (n : Int))) ++ prs (n + 1) rs).filter _ = _
    rw [List.filter_append, List.filter_eq_self.mpr, List.filter_eq_nil_iff.mpr, List.append_nil]
    · rfl
    · intro q hq hd
      have h1 := prs_bound hq
      have h2 : q.2 = ((n + 0 : Nat) : Int) := of_decide_eq_true hd
      omega
    · intro q hq
      obtain ⟨t, _, rfl⟩ := List.mem_map.mp hq
      exact decide_eq_true rfl
  | n, a :: rs, k + 1, r, h => by
    have h' : rs[k]? = some r := by simpa using h
    have ih := prs_filter (n := n + 1) h'
    show (a.map (fun t => (t, (n : Int))) ++ prs (n + 1) rs).filter _ = _
    rw [List.filter_append, List.filter_eq_nil_iff.mpr, List.nil_append, show n + (k + 1) = n + 1 + k by omega]
    · exact ih
    · intro q hq hd
      obtain ⟨t, _, rfl⟩ := List.mem_map.mp hq
      have h2 : (n : Int) = ((n + (k + 1) : Nat) : Int) := of_decide_eq_true hd
      omega
theorem prs_fst : ∀ (n : Nat) (rs : List (List Int)), (prs n rs).map (·.1) = rs.flatten
  | _, [] => rfl
  | n, r :: rs => by
    show (r.map (fun t => (t, (n : Int))) ++ prs (n + 1) rs).map (·.1) = _
    rw [List.map_append, prs_fst (n + 1) rs, List.map_map, List.flatten_cons]
    congr 1
    exact List.map_id _
/-- one thing taken of a row -/
def stepO (rs : List (List Int)) (tk : List Int) (x : Int) : Option (List Int × Int) :=
  if 0 ≤ x ∧ x < rs.length ∧ tk.getD x.toNat 0 < ((rs.getD x.toNat []).length : Int) then some (tk.set x.toNat (tk.getD x.toNat 0 + 1), (rs.getD x.toNat []).getD (tk.getD x.toNat 0).toNat 0) else none
def runO (rs : List (List Int)) : List Int → List Int → Option (List Int × List Int)
  | tk, [] => some (tk, [])
  | tk, x :: o => match stepO rs tk x with
    | none => none
    | some (tk', t) => (runO rs tk' o).map fun z => (z.1, t :: z.2)
def lensO (rs : List (List Int)) : List Int := rs.map fun r => (r.length : Int)
def zerosO (rs : List (List Int)) : List Int := rs.map fun _ => 0
def okOrd (rs : List (List Int)) (o : List Int) : Prop := ∃ ts, runO rs (zerosO rs) o = some (lensO rs, ts) ∧ ts.Pairwise (· ≤ ·)
def filO (P : List (Int × Int)) (k : Nat) : List (Int × Int) := P.filter fun q => decide (q.2 = (k : Int))
def cntO (rs : List (List Int)) (P : List (Int × Int)) : List Int := (List.range rs.length).map fun k => ((filO P k).length : Int)
theorem cntO_get {rs : List (List Int)} {P : List (Int × Int)} {k : Nat} (h : k < rs.length) : (cntO rs P)[k]? = some ((filO P k).length : Int) := by
  unfold cntO
  rw [List.getElem?_map, List.getElem?_range h]
  rfl
theorem cntO_len (rs : List (List Int)) (P : List (Int × Int)) : (cntO rs P).length = rs.length := by
  unfold cntO
  rw [List.length_map, List.length_range]
theorem filO_snoc (P : List (Int × Int)) (t : Int) (k j : Nat) : filO (P ++ [(t, (k : Int))]) j = filO P j ++ if j = k then [(t, (k : Int))] else [] := by
  unfold filO
  rw [List.filter_append]
  congr 1
  by_cases c : j = k
  · subst c
    rw [if_pos rfl, List.filter_cons_of_pos (p := fun q : Int × Int => decide (q.2 = (j : Int))) (a := (t, (j : Int))) (decide_eq_true rfl)]
    rfl
  · rw [if_neg c, List.filter_cons_of_neg (fun e => c (by have : (k : Int) = (j : Int) := of_decide_eq_true e; omega))]
    rfl
/-- P takes each row's things in their order -/
def Fair (rs : List (List Int)) (P : List (Int × Int)) : Prop := (∀ q, q ∈ P → 0 ≤ q.2 ∧ q.2 < rs.length) ∧ ∀ (k : Nat) (r : List Int), rs[k]? = some r → filO P k = r.map fun t => (t, (k : Int))
theorem run_fair {rs : List (List Int)} : ∀ (P2 P1 : List (Int × Int)), Fair rs (P1 ++ P2) → runO rs (cntO rs P1) (P2.map (·.2)) = some (lensO rs, P2.map (·.1))
  | [], P1, h => by
    rw [List.append_nil] at h
    have e : cntO rs P1 = lensO rs := by
      refine List.ext_getElem? fun k => ?_
      by_cases c : k < rs.length
      · rw [cntO_get c]
        unfold lensO
        rw [List.getElem?_map, List.getElem?_eq_getElem c, h.2 k _ (List.getElem?_eq_getElem c), List.length_map]
        rfl
      · rw [List.getElem?_eq_none (by rw [cntO_len]; omega), List.getElem?_eq_none (by unfold lensO; rw [List.length_map]; omega)]
    rw [List.map_nil, List.map_nil, e]
    rfl
  | (t, x) :: P2, P1, h => by
    obtain ⟨h1, h2⟩ := h
    have hx := h1 (t, x) (List.mem_append_right _ List.mem_cons_self)
    obtain ⟨k, rfl⟩ : ∃ k : Nat, x = (k : Int) := ⟨x.toNat, by have : 0 ≤ x := hx.1; omega⟩
    have hk : k < rs.length := by have : (k : Int) < rs.length := hx.2; omega
    have hr := List.getElem?_eq_getElem hk
    have hf := h2 k _ hr
    have hsp : filO (P1 ++ (t, (k : Int)) :: P2) k = filO P1 k ++ (t, (k : Int)) :: filO P2 k := by
      unfold filO
      rw [List.filter_append, List.filter_cons_of_pos (p := fun q : Int × Int => decide (q.2 = (k : Int))) (a := (t, (k : Int))) (decide_eq_true rfl)]
    rw [hsp] at hf
    have hc : rs[k][(filO P1 k).length]? = some t := by
      have e := congrArg (fun l => l[(filO P1 k).length]?) hf
      rw [List.getElem?_append_right (Nat.le_refl _), Nat.sub_self, List.getElem?_map] at e
      cases e2 : rs[k][(filO P1 k).length]? with
      | none => rw [e2] at e; exact nomatch e
      | some z =>
        rw [e2] at e
        have e3 : (t, (k : Int)) = (z, (k : Int)) := Option.some.inj e
        rw [(Prod.mk.inj e3).1]
    have hcl := (List.getElem?_eq_some_iff.mp hc).1
    have g1 : (cntO rs P1).getD k 0 = ((filO P1 k).length : Int) := by rw [List.getD_eq_getElem?_getD, cntO_get hk]; rfl
    have g2 : rs.getD k [] = rs[k] := by rw [List.getD_eq_getElem?_getD, hr]; rfl
    have hst : stepO rs (cntO rs P1) (k : Int) = some (cntO rs (P1 ++ [(t, (k : Int))]), t) := by
      unfold stepO
      rw [Int.toNat_natCast, g1, g2, if_pos ⟨by omega, by omega, by omega⟩, Int.toNat_natCast, List.getD_eq_getElem?_getD, hc]
      congr 2
      refine List.ext_getElem? fun j => ?_
      by_cases cj : j < rs.length
      · rw [cntO_get cj, filO_snoc]
        by_cases c : j = k
        · subst c
          rw [List.getElem?_set_self (by rw [cntO_len]; exact cj), if_pos rfl, List.length_append]
          rfl
        · rw [List.getElem?_set_ne (fun e => c e.symm), cntO_get cj, if_neg c, List.append_nil]
      · rw [List.getElem?_eq_none (by rw [List.length_set, cntO_len]; omega), List.getElem?_eq_none (by rw [cntO_len]; omega)]
    have ih := run_fair (rs := rs) P2 (P1 ++ [(t, (k : Int))]) (by rw [List.append_assoc]; exact ⟨h1, h2⟩)
    show runO rs (cntO rs P1) ((k : Int) :: P2.map (·.2)) = _
    unfold runO
    rw [hst]
    show (runO rs (cntO rs (P1 ++ [(t, (k : Int))])) (P2.map (·.2))).map _ = _
    rw [ih]
    rfl
theorem cntO_nil (rs : List (List Int)) : cntO rs [] = zerosO rs := by
  unfold cntO zerosO
  refine List.ext_getElem? fun k => ?_
  rw [List.getElem?_map, List.getElem?_map]
  by_cases c : k < rs.length
  · rw [List.getElem?_range c, List.getElem?_eq_getElem c]
    rfl
  · rw [List.getElem?_eq_none (by rw [List.length_range]; omega), List.getElem?_eq_none (by omega)]
    rfl
theorem eq_leP : ∀ {xs ys : List (Int × Int)}, xs.Perm ys → xs.Pairwise leP → ys.Pairwise leP → xs = ys
  | [], ys, p, _, _ => (List.nil_perm.mp p).symm
  | x :: xs, [], p, _, _ => by have := p.length_eq; simp at this
  | x :: xs, y :: ys, p, h1, h2 => by
    obtain ⟨a1, a2⟩ := List.pairwise_cons.mp h1
    obtain ⟨b1, b2⟩ := List.pairwise_cons.mp h2
    have e : x = y := by
      rcases List.mem_cons.mp (p.mem_iff.mp List.mem_cons_self) with e | hx
      · exact e
      · rcases List.mem_cons.mp (p.mem_iff.mpr List.mem_cons_self) with e | hy
        · exact e.symm
        · have q1 := b1 x hx
          have q2 := a1 y hy
          unfold leP at q1 q2
          exact Prod.ext (by omega) (by omega)
    subst e
    rw [eq_leP (List.perm_cons x |>.mp p) a2 b2]
/-- the told order: the pairs, sorted -/
theorem merge_ok {rs : List (List Int)} {P : List (Int × Int)} (hp : P.Perm (prs 0 rs)) (hs : P.Pairwise leP) (hr : ∀ r, r ∈ rs → r.Pairwise (· ≤ ·)) : okOrd rs (P.map (·.2)) ∧ runO rs (zerosO rs) (P.map (·.2)) = some (lensO rs, P.map (·.1)) ∧ (P.map (·.1)).Perm rs.flatten ∧ (P.map (·.1)).Pairwise (· ≤ ·) := by
  have hF : Fair rs P := by
    refine ⟨fun q hq => ?_, fun k r hk => ?_⟩
    · have := prs_bound (hp.mem_iff.mp hq)
      omega
    · have e := prs_filter (n := 0) hk
      rw [Nat.zero_add] at e
      refine eq_leP (by rw [← e]; exact hp.filter _) (hs.sublist List.filter_sublist) ?_
      exact List.Pairwise.map _ (fun a b (h : a ≤ b) => by
        show a < b ∨ (a = b ∧ (k : Int) ≤ (k : Int))
        omega) (hr r (List.mem_of_getElem? hk))
  have h1 := run_fair P [] hF
  rw [cntO_nil] at h1
  have h2 : (P.map (·.1)).Pairwise (· ≤ ·) := List.Pairwise.map _ (fun a b (h : leP a b) => by unfold leP at h; omega) hs
  exact ⟨⟨_, h1, h2⟩, h1, by rw [← prs_fst 0 rs]; exact hp.map _, h2⟩
def neverF (ns : List Int) : Bool := (List.zipWith (fun x y => decide (x ≤ y)) ns (ns.drop 1)).all id
theorem neverF_iff : ∀ {ns : List Int}, neverF ns = true ↔ ns.Pairwise (· ≤ ·)
  | [] => ⟨fun _ => .nil, fun _ => rfl⟩
  | [a] => ⟨fun _ => List.pairwise_singleton _ _, fun _ => rfl⟩
  | a :: b :: r => by
    have ih := neverF_iff (ns := b :: r)
    have e : neverF (a :: b :: r) = (decide (a ≤ b) && neverF (b :: r)) := rfl
    rw [e, Bool.and_eq_true, ih, decide_eq_true_eq]
    constructor
    · rintro ⟨h1, h2⟩
      refine List.pairwise_cons.mpr ⟨fun y hy => ?_, h2⟩
      rcases List.mem_cons.mp hy with e | e
      · rw [e]; exact h1
      · exact Int.le_trans h1 ((List.pairwise_cons.mp h2).1 y e)
    · intro h
      obtain ⟨h1, h2⟩ := List.pairwise_cons.mp h
      exact ⟨h1 b List.mem_cons_self, h2⟩
theorem neverF_T {ns : List Int} (h : ns.Pairwise (· ≤ ·)) : neverF ns = true := neverF_iff.mpr h
theorem flat_len : ∀ {rs : List (List Int)} {m : Nat}, (∀ r, r ∈ rs → r.length ≤ m) → rs.flatten.length ≤ rs.length * m
  | [], _, _ => Nat.zero_le _
  | r :: rs, m, h => by
    have ih := flat_len (rs := rs) (m := m) fun x hx => h x (List.mem_cons_of_mem _ hx)
    have h1 := h r List.mem_cons_self
    rw [List.flatten_cons, List.length_append, List.length_cons, Nat.succ_mul]
    omega
theorem prs_len : ∀ (n : Nat) (rs : List (List Int)), (prs n rs).length = rs.flatten.length := fun n rs => by
  rw [← prs_fst n rs, List.length_map]
theorem prs_snoc : ∀ (n : Nat) (rs : List (List Int)) (r : List Int), prs n (rs ++ [r]) = prs n rs ++ r.map (fun t => (t, ((n + rs.length : Nat) : Int)))
  | n, [], r => by
    show r.map _ ++ [] = [] ++ _
    rw [List.append_nil, List.nil_append]
    rfl
  | n, a :: rs, r => by
    show a.map _ ++ prs (n + 1) (rs ++ [r]) = (a.map _ ++ prs (n + 1) rs) ++ _
    rw [prs_snoc (n + 1) rs r, List.append_assoc, List.length_cons, show n + 1 + rs.length = n + (rs.length + 1) by omega]
theorem runO_cons {rs : List (List Int)} (tk : List Int) (x : Int) (o : List Int) : runO rs tk (x :: o) = (stepO rs tk x).bind fun (z : List Int × Int) => (runO rs z.1 o).map fun w => (w.1, z.2 :: w.2) := by
  show (match stepO rs tk x with
    | none => none
    | some (tk', t) => (runO rs tk' o).map fun (z : List Int × List Int) => (z.1, t :: z.2)) = _
  cases stepO rs tk x <;> rfl
theorem runO_app {rs : List (List Int)} : ∀ (o o' tk : List Int), runO rs tk (o ++ o') = (runO rs tk o).bind fun (z : List Int × List Int) => (runO rs z.1 o').map fun w => (w.1, z.2 ++ w.2)
  | [], o', tk => by
    show runO rs tk o' = (runO rs tk o').map fun w => (w.1, [] ++ w.2)
    cases runO rs tk o' <;> rfl
  | x :: o, o', tk => by
    rw [List.cons_append, runO_cons, runO_cons]
    cases stepO rs tk x with
    | none => rfl
    | some z =>
      show (runO rs z.1 (o ++ o')).map _ = ((runO rs z.1 o).map _).bind _
      rw [runO_app o o' z.1]
      cases runO rs z.1 o with
      | none => rfl
      | some y =>
        show ((runO rs y.1 o').map _).map _ = (runO rs y.1 o').map _
        cases runO rs y.1 o' <;> rfl
theorem runO_next {rs : List (List Int)} {os tks ts : List Int} {i : Nat} {x : Int} {z : List Int × Int} (h : runO rs (zerosO rs) (os.take i) = some (tks, ts)) (hx : os[i]? = some x) (hz : stepO rs tks x = some z) : runO rs (zerosO rs) (os.take (i + 1)) = some (z.1, ts ++ [z.2]) := by
  rw [List.take_add_one, hx]
  show runO rs (zerosO rs) (os.take i ++ [x]) = _
  rw [runO_app, h]
  show (runO rs tks [x]).map _ = _
  rw [runO_cons, hz]
  rfl
theorem runO_bad {rs : List (List Int)} {os tks ts : List Int} {i : Nat} {x : Int} (h : runO rs (zerosO rs) (os.take i) = some (tks, ts)) (hx : os[i]? = some x) (hz : stepO rs tks x = none) : ¬ okOrd rs os := by
  rintro ⟨ts2, h2, _⟩
  have hi := (List.getElem?_eq_some_iff.mp hx).1
  have e : os = os.take i ++ x :: os.drop (i + 1) := by
    rw [← (List.getElem?_eq_some_iff.mp hx).2, List.getElem_cons_drop, List.take_append_drop]
  rw [e, runO_app, h] at h2
  have h3 : (runO rs tks (x :: os.drop (i + 1))).map (fun w => (w.1, ts ++ w.2)) = some (lensO rs, ts2) := h2
  rw [runO_cons, hz] at h3
  exact nomatch h3
theorem lens_all : ∀ {tks : List Int} {rs : List (List Int)}, tks.length = rs.length → ((List.zipWith (fun (c : Int) (r : List Int) => decide (c = (r.length : Int))) tks rs).all id = true ↔ tks = lensO rs)
  | [], [], _ => ⟨fun _ => rfl, fun _ => rfl⟩
  | [], _ :: _, h => absurd h (by simp)
  | _ :: _, [], h => absurd h (by simp)
  | c :: tks, r :: rs, h => by
    have ih := lens_all (tks := tks) (rs := rs) (by simpa using h)
    have e1 : (List.zipWith (fun (c : Int) (r : List Int) => decide (c = (r.length : Int))) (c :: tks) (r :: rs)).all id = (decide (c = (r.length : Int)) && (List.zipWith (fun (c : Int) (r : List Int) => decide (c = (r.length : Int))) tks rs).all id) := rfl
    have e2 : lensO (r :: rs) = (r.length : Int) :: lensO rs := rfl
    rw [e1, e2, Bool.and_eq_true, ih, decide_eq_true_eq, List.cons.injEq]
theorem okOrd_iff {rs : List (List Int)} {os tks ts : List Int} (h : runO rs (zerosO rs) os = some (tks, ts)) (hl : tks.length = rs.length) : okOrd rs os ↔ neverF ts = true ∧ (List.zipWith (fun (c : Int) (r : List Int) => decide (c = (r.length : Int))) tks rs).all id = true := by
  rw [lens_all hl, neverF_iff]
  constructor
  · rintro ⟨ts2, h2, h3⟩
    rw [h] at h2
    have e := Option.some.inj h2
    exact ⟨(Prod.mk.inj e).2 ▸ h3, (Prod.mk.inj e).1⟩
  · rintro ⟨h1, h2⟩
    exact ⟨ts, by rw [h, h2], h1⟩
def lastV (ts : List Int) : V := match ts.getLast? with
  | none => .non
  | some t => .int t
theorem lastV_nil : lastV [] = .non := rfl
theorem lastV_snoc (ts : List Int) (t : Int) : lastV (ts ++ [t]) = .int t := by
  unfold lastV
  rw [List.getLast?_append]
  rfl
/-- the counts are no more than the rows have -/
def Few (rs : List (List Int)) (tks : List Int) : Prop := ∀ (k : Nat) (c : Int) (r : List Int), tks[k]? = some c → rs[k]? = some r → 0 ≤ c ∧ c ≤ r.length
theorem few0 (rs : List (List Int)) : Few rs (zerosO rs) := fun k c r h _ => by
  unfold zerosO at h
  obtain ⟨_, _, e⟩ := List.mem_map.mp (List.mem_of_getElem? h)
  omega
theorem okOrd_pre {rs : List (List Int)} {os tks ts : List Int} {i : Nat} (h : runO rs (zerosO rs) (os.take i) = some (tks, ts)) (hs : ¬ ts.Pairwise (· ≤ ·)) : ¬ okOrd rs os := by
  rintro ⟨ts2, h2, h3⟩
  rw [← List.take_append_drop i os, runO_app, h] at h2
  have h4 : (runO rs tks (os.drop i)).map (fun w => (w.1, ts ++ w.2)) = some (lensO rs, ts2) := h2
  cases e : runO rs tks (os.drop i) with
  | none => rw [e] at h4; exact nomatch h4
  | some w =>
    rw [e] at h4
    have e2 : (w.1, ts ++ w.2) = (lensO rs, ts2) := Option.some.inj h4
    rw [← (Prod.mk.inj e2).2] at h3
    exact hs (List.pairwise_append.mp h3).1
theorem sorted_snoc {ts : List Int} {l w : Int} (h : (ts ++ [l]).Pairwise (· ≤ ·)) (hw : l ≤ w) : ((ts ++ [l]) ++ [w]).Pairwise (· ≤ ·) := by
  refine List.pairwise_append.mpr ⟨h, List.pairwise_singleton _ _, fun a ha b hb => ?_⟩
  rw [List.mem_singleton.mp hb]
  rcases List.mem_append.mp ha with e | e
  · have := (List.pairwise_append.mp h).2.2 a e l (List.mem_singleton.mpr rfl)
    omega
  · rw [List.mem_singleton.mp e]
    exact hw
theorem not_sorted {ts : List Int} {l w : Int} (hw : w < l) : ¬ ((ts ++ [l]) ++ [w]).Pairwise (· ≤ ·) := fun h => by
  have := (List.pairwise_append.mp h).2.2 l (List.mem_append_right _ (List.mem_singleton.mpr rfl)) w (List.mem_singleton.mpr rfl)
  omega
theorem eqA : ∀ {xs ys : List Int}, xs.Perm ys → xs.Pairwise (· ≤ ·) → ys.Pairwise (· ≤ ·) → xs = ys
  | [], ys, p, _, _ => (List.nil_perm.mp p).symm
  | x :: xs, [], p, _, _ => by have := p.length_eq; simp at this
  | x :: xs, y :: ys, p, h1, h2 => by
    obtain ⟨a1, a2⟩ := List.pairwise_cons.mp h1
    obtain ⟨b1, b2⟩ := List.pairwise_cons.mp h2
    have e : x = y := by
      rcases List.mem_cons.mp (p.mem_iff.mp List.mem_cons_self) with e | hx
      · exact e
      · rcases List.mem_cons.mp (p.mem_iff.mpr List.mem_cons_self) with e | hy
        · exact e.symm
        · have q1 : y ≤ x := b1 x hx
          have q2 : x ≤ y := a1 y hy
          omega
    subst e
    rw [eqA (List.perm_cons x |>.mp p) a2 b2]

abbrev Rw := Option (List Int)
def rwD : Rw → PyData
  | none => .none
  | some r => .list (dI r)
def ownZ (ads : List Addr) (vss : List (List V)) : Own := List.zipWith (fun a v => (a, HO.lst v)) ads vss
theorem ownZ_get {ads : List Addr} {vss : List (List V)} {i : Nat} {a : Addr} {v : List V} (h1 : ads[i]? = some a) (h2 : vss[i]? = some v) : (ownZ ads vss)[i]? = some (a, .lst v) := by
  unfold ownZ
  rw [List.getElem?_zipWith, h1, h2]
theorem zipW_ers {α β γ : Type} (f : α → β → γ) : ∀ (xs : List α) (ys : List β) (i : Nat), (List.zipWith f xs ys).eraseIdx i = List.zipWith f (xs.eraseIdx i) (ys.eraseIdx i)
  | [], ys, i => by simp
  | x :: xs, [], i => by simp
  | x :: xs, y :: ys, 0 => by simp
  | x :: xs, y :: ys, i + 1 => by
    have ih := zipW_ers f xs ys i
    simp [ih]
theorem ownZ_front {ads : List Addr} {vss : List (List V)} {i : Nat} {a : Addr} {v : List V} {L : Own} (h1 : ads[i]? = some a) (h2 : vss[i]? = some v) : (ownZ ads vss ++ L).Perm ((a, .lst v) :: (ownZ (ads.eraseIdx i) (vss.eraseIdx i) ++ L)) := by
  have h := perm_front (ownZ_get h1 h2)
  have e : (ownZ ads vss).eraseIdx i = ownZ (ads.eraseIdx i) (vss.eraseIdx i) := zipW_ers _ _ _ _
  rw [e] at h
  exact h.append_right L
theorem ers_set {α : Type} : ∀ (xs : List α) (i : Nat) (x : α), (xs.set i x).eraseIdx i = xs.eraseIdx i
  | [], i, x => by simp
  | y :: xs, 0, x => by simp
  | y :: xs, i + 1, x => by simp [ers_set xs i x]
theorem ownZ_back {ads : List Addr} {vss : List (List V)} {i : Nat} {a : Addr} {w : List V} {L : Own} (h1 : ads[i]? = some a) (h2 : i < vss.length) : ((a, .lst w) :: (ownZ (ads.eraseIdx i) (vss.eraseIdx i) ++ L)).Perm (ownZ ads (vss.set i w) ++ L) := by
  have h := ownZ_front (ads := ads) (vss := vss.set i w) (v := w) (L := L) h1 (by rw [List.getElem?_set, if_pos rfl, if_pos h2])
  rw [ers_set] at h
  exact h.symm
/-- one merging: what is taken off, what stays -/
def tkN {α : Type} (out : Nat) (xs : List (List α)) : Nat → List (List α)
  | 0 => xs
  | i + 1 => if i = out then tkN out xs i else (tkN out xs i).set i ((tkN out xs i).getD i []).tail
def tfN {α : Type} (out : Nat) (xs : List (List α)) : Nat → List (Nat × α)
  | 0 => []
  | i + 1 => tfN out xs i ++ (if i = out then [] else match (tkN out xs i).getD i [] with
    | [] => []
    | v :: _ => [(i, v)])
theorem tkN_len {α : Type} (out : Nat) (xs : List (List α)) : ∀ i, (tkN out xs i).length = xs.length
  | 0 => rfl
  | i + 1 => by
    unfold tkN
    split
    · exact tkN_len out xs i
    · rw [List.length_set, tkN_len out xs i]
theorem tkN_late {α : Type} (out : Nat) (xs : List (List α)) : ∀ i j, i ≤ j → (tkN out xs i)[j]? = xs[j]?
  | 0, _, _ => rfl
  | i + 1, j, h => by
    unfold tkN
    split
    · exact tkN_late out xs i j (by omega)
    · rw [List.getElem?_set, if_neg (by omega)]
      exact tkN_late out xs i j (by omega)
/-- values and data of reels -/
inductive RsA (D : Hp) : List (List V) → List (List Rw) → Prop
  | nil : RsA D [] []
  | cons {us : List V} {vss : List (List V)} {R : List Rw} {Rs : List (List Rw)} : RpAll D us (R.map rwD) → RsA D vss Rs → RsA D (us :: vss) (R :: Rs)
theorem RsA.up {D D' : Hp} {vss : List (List V)} {Rs : List (List Rw)} (e : Same D D') (h : RsA D vss Rs) : RsA D' vss Rs := by
  induction h with
  | nil => exact .nil
  | cons h _ ih => exact .cons (h.up e) ih
theorem RsA.len {D : Hp} {vss : List (List V)} {Rs : List (List Rw)} (h : RsA D vss Rs) : vss.length = Rs.length := by
  induction h with
  | nil => rfl
  | cons _ _ ih => rw [List.length_cons, List.length_cons, ih]
theorem RsA.get {D : Hp} {vss : List (List V)} {Rs : List (List Rw)} (h : RsA D vss Rs) : ∀ {i : Nat} {us : List V}, vss[i]? = some us → ∃ R, Rs[i]? = some R ∧ RpAll D us (R.map rwD) := by
  induction h with
  | nil => intro i us e; simp at e
  | cons h t ih =>
    intro i us e
    cases i with
    | zero => cases e; exact ⟨_, rfl, h⟩
    | succ i => exact ih (by simpa using e)
theorem RsA.set {D : Hp} {vss : List (List V)} {Rs : List (List Rw)} (h : RsA D vss Rs) {us : List V} {R : List Rw} (k : RpAll D us (R.map rwD)) : ∀ i, RsA D (vss.set i us) (Rs.set i R) := by
  induction h with
  | nil => intro i; exact .nil
  | cons h t ih =>
    intro i
    cases i with
    | zero => exact .cons k t
    | succ i => exact .cons h (ih i)
theorem RsA.app {D : Hp} {vss wss : List (List V)} {Rs Ss : List (List Rw)} (h : RsA D vss Rs) (k : RsA D wss Ss) : RsA D (vss ++ wss) (Rs ++ Ss) := by
  induction h with
  | nil => exact k
  | cons h _ ih => exact .cons h ih
/-- what was taken, values and data -/
inductive TkA (D : Hp) : List V → List (Nat × Rw) → Prop
  | nil : TkA D [] []
  | cons {t : Addr} {n : Nat} {v : V} {r : Rw} {us : List V} {rs : List (Nat × Rw)} : Kn D t (.tup [.int (n : Int), v]) → Rp D v (rwD r) → TkA D us rs → TkA D (.ref t :: us) ((n, r) :: rs)
theorem TkA.up {D D' : Hp} {us : List V} {rs : List (Nat × Rw)} (e : Sm D D') (h : TkA D us rs) : TkA D' us rs := by
  induction h with
  | nil => exact .nil
  | cons k r _ ih => exact .cons inferInstance (r.up e.e) ih
theorem TkA.len {D : Hp} {us : List V} {rs : List (Nat × Rw)} (h : TkA D us rs) : us.length = rs.length := by
  induction h with
  | nil => rfl
  | cons _ _ _ ih => rw [List.length_cons, List.length_cons, ih]
theorem TkA.get {D : Hp} {us : List V} {rs : List (Nat × Rw)} (h : TkA D us rs) : ∀ {i : Nat} {u : V}, us[i]? = some u → ∃ t n v r, u = .ref t ∧ rs[i]? = some (n, r) ∧ Kn D t (.tup [.int (n : Int), v]) ∧ Rp D v (rwD r) := by
  induction h with
  | nil => intro i us e; simp at e
  | cons k r t ih =>
    intro i u e
    cases i with
    | zero => cases e; exact ⟨_, _, _, _, rfl, rfl, k, r⟩
    | succ i => exact ih (by simpa using e)
theorem TkA.app {D : Hp} {us ws : List V} {rs ss : List (Nat × Rw)} (h : TkA D us rs) (k : TkA D ws ss) : TkA D (us ++ ws) (rs ++ ss) := by
  induction h with
  | nil => exact k
  | cons k r _ ih => exact .cons k r ih
/-- addresses of rows -/
def adV : V → List Addr
  | .ref a => [a]
  | _ => []
def adR (us : List V) : List Addr := us.flatMap adV
def adS (vss : List (List V)) : List Addr := vss.flatMap adR
theorem adR_app (us ws : List V) : adR (us ++ ws) = adR us ++ adR ws := by unfold adR; rw [List.flatMap_append]
theorem adS_split {vss : List (List V)} {i : Nat} {us : List V} (h : vss[i]? = some us) (w : List V) : adS (vss.set i w) = adS (vss.take i) ++ (adR w ++ adS (vss.drop (i + 1))) := by
  have hi := (List.getElem?_eq_some_iff.mp h).1
  rw [List.set_eq_take_append_cons_drop, if_pos hi]
  unfold adS
  rw [List.flatMap_append, List.flatMap_cons]
theorem set_id {α : Type} {xs : List α} {i : Nat} {x : α} (h : xs[i]? = some x) : xs.set i x = xs := by
  apply List.ext_getElem?
  intro m
  rw [List.getElem?_set]
  by_cases c : i = m
  · subst c
    rw [if_pos rfl, if_pos (List.getElem?_eq_some_iff.mp h).1, h]
  · rw [if_neg c]
theorem adS_sub {vss : List (List V)} {i : Nat} {v : V} {us : List V} (h : vss[i]? = some (v :: us)) : (adS (vss.set i us)).Sublist (adS vss) := by
  have e := adS_split h (v :: us)
  rw [set_id h] at e
  rw [e, adS_split h us]
  refine List.Sublist.append (List.Sublist.refl _) (List.Sublist.append ?_ (List.Sublist.refl _))
  show (adR us).Sublist (adV v ++ adR us)
  exact List.sublist_append_right _ _
theorem adS_put {vss : List (List V)} {i : Nat} {us : List V} (h : vss[i]? = some us) (v : V) : (adS (vss.set i (us ++ [v]))).Perm (adV v ++ adS vss) := by
  have e := adS_split h us
  rw [set_id h] at e
  rw [e, adS_split h, adR_app]
  have e2 : adR [v] = adV v := by simp [adR]
  rw [e2]
  have p1 : (adS (vss.take i) ++ (adR us ++ adV v ++ adS (vss.drop (i + 1)))).Perm (adS (vss.take i) ++ (adV v ++ (adR us ++ adS (vss.drop (i + 1))))) := by
    refine List.Perm.append_left _ ?_
    rw [← List.append_assoc (adV v)]
    exact List.Perm.append_right _ List.perm_append_comm
  exact p1.trans (List.perm_append_comm_assoc _ _ _)
/-- rows that are new since D0, all unlike -/
structure Fq (D0 D : Hp) (vss : List (List V)) : Prop where
  nd : (adS vss).Nodup
  fr : ∀ a, a ∈ adS vss → D0 a = none ∧ ∃ o, D a = some o
theorem Fq.sub {D0 D D' : Hp} {vss wss : List (List V)} (h : Fq D0 D vss) (e : Same D D') (s : (adS wss).Sublist (adS vss)) : Fq D0 D' wss := ⟨h.nd.sublist s, fun a ha => by
  obtain ⟨h1, o, h2⟩ := h.fr a (s.subset ha)
  exact ⟨h1, o, e _ _ h2⟩⟩

theorem Fq.put {D0 D D' : Hp} {vss : List (List V)} (h : Fq D0 D vss) (e : Same D D') {i : Nat} {us : List V} (hi : vss[i]? = some us) {v : V} (hv : ∀ a, a ∈ adV v → D0 a = none ∧ a ∉ adS vss ∧ ∃ o, D' a = some o) : Fq D0 D' (vss.set i (us ++ [v])) := by
  have hp := adS_put hi v
  refine ⟨hp.nodup_iff.mpr (List.nodup_append.mpr ⟨?_, h.nd, fun x hx y hy e => (hv x hx).2.1 (e ▸ hy)⟩), fun a ha => ?_⟩
  · cases v <;> first | exact List.pairwise_singleton _ _ | exact List.nodup_nil
  · rcases List.mem_append.mp (hp.mem_iff.mp ha) with h1 | h1
    · obtain ⟨h2, _, h3⟩ := hv a h1
      exact ⟨h2, h3⟩
    · obtain ⟨h2, o, h3⟩ := h.fr a h1
      exact ⟨h2, o, e _ _ h3⟩
/-- reels that are handed in: lists or tuples of rows, lists or tuples or None -/
def InR (D : Hp) (v : V) : Rw → Prop
  | none => v = .non
  | some ns => ∃ a, v = .ref a ∧ Ks D a (ns.map V.int)
inductive InL (D : Hp) : List V → List Rw → Prop
  | nil : InL D [] []
  | cons {v : V} {vs : List V} {r : Rw} {rs : List Rw} : InR D v r → InL D vs rs → InL D (v :: vs) (r :: rs)
inductive InA (D : Hp) : List V → List (List Rw) → Prop
  | nil : InA D [] []
  | cons {a : Addr} {vs us : List V} {R : List Rw} {Rs : List (List Rw)} : Ks D a vs → InL D vs R → InA D us Rs → InA D (.ref a :: us) (R :: Rs)
theorem InR.up {D D' : Hp} (e : Sm D D') {v : V} {r : Rw} (h : InR D v r) : InR D' v r := by
  cases r with
  | none => exact h
  | some ns => obtain ⟨a, h1, h2⟩ := h; exact ⟨a, h1, inferInstance⟩
theorem InL.up {D D' : Hp} (e : Sm D D') {vs : List V} {rs : List Rw} (h : InL D vs rs) : InL D' vs rs := by
  induction h with
  | nil => exact .nil
  | cons h _ ih => exact .cons (h.up e) ih
theorem InL.len {D : Hp} {vs : List V} {rs : List Rw} (h : InL D vs rs) : vs.length = rs.length := by
  induction h with
  | nil => rfl
  | cons _ _ ih => rw [List.length_cons, List.length_cons, ih]
theorem InL.get {D : Hp} {vs : List V} {rs : List Rw} (h : InL D vs rs) : ∀ {i : Nat} {v : V}, vs[i]? = some v → ∃ r, rs[i]? = some r ∧ InR D v r := by
  induction h with
  | nil => intro i v e; simp at e
  | cons h _ ih =>
    intro i v e
    cases i with
    | zero => cases e; exact ⟨_, rfl, h⟩
    | succ i => exact ih (by simpa using e)
theorem InA.up {D D' : Hp} (e : Sm D D') {vs : List V} {rs : List (List Rw)} (h : InA D vs rs) : InA D' vs rs := by
  induction h with
  | nil => exact .nil
  | cons k h _ ih => exact .cons inferInstance (h.up e) ih
theorem InA.len {D : Hp} {vs : List V} {rs : List (List Rw)} (h : InA D vs rs) : vs.length = rs.length := by
  induction h with
  | nil => rfl
  | cons _ _ _ ih => rw [List.length_cons, List.length_cons, ih]
theorem InA.get {D : Hp} {vs : List V} {rs : List (List Rw)} (h : InA D vs rs) : ∀ {i : Nat} {v : V}, vs[i]? = some v → ∃ a us R, v = .ref a ∧ rs[i]? = some R ∧ Ks D a us ∧ InL D us R := by
  induction h with
  | nil => intro i v e; simp at e
  | cons k h _ ih =>
    intro i v e
    cases i with
    | zero => cases e; exact ⟨_, _, _, rfl, rfl, k, h⟩
    | succ i => exact ih (by simpa using e)
def insI (x : Int) : List Int → List Int
  | [] => [x]
  | y :: ys => if x ≤ y then x :: y :: ys else y :: insI x ys
def srtI : List Int → List Int
  | [] => []
  | x :: xs => insI x (srtI xs)
theorem insI_perm (x : Int) : ∀ ys, (insI x ys).Perm (x :: ys)
  | [] => List.Perm.refl _
  | y :: ys => by
    unfold insI
    split
    · exact List.Perm.refl _
    · exact ((insI_perm x ys).cons y).trans (List.Perm.swap _ _ _)
theorem srtI_perm : ∀ xs, (srtI xs).Perm xs
  | [] => List.Perm.refl _
  | x :: xs => (insI_perm x _).trans ((srtI_perm xs).cons x)
theorem insI_srt (x : Int) : ∀ {ys : List Int}, ys.Pairwise (· ≤ ·) → (insI x ys).Pairwise (· ≤ ·)
  | [], _ => List.pairwise_singleton _ _
  | y :: ys, h => by
    obtain ⟨h1, h2⟩ := List.pairwise_cons.mp h
    unfold insI
    split
    · rename_i c
      exact List.pairwise_cons.mpr ⟨fun z hz => by
        rcases List.mem_cons.mp hz with e | e
        · omega
        · have := h1 z e
          omega, h⟩
    · rename_i c
      refine List.pairwise_cons.mpr ⟨fun z hz => ?_, insI_srt x h2⟩
      rcases List.mem_cons.mp ((insI_perm x ys).mem_iff.mp hz) with e | e
      · omega
      · exact h1 z e
theorem srtI_srt : ∀ xs, (srtI xs).Pairwise (· ≤ ·)
  | [] => .nil
  | x :: xs => insI_srt x (srtI_srt xs)
theorem srtI_uniq {xs ys : List Int} (h : xs.Perm ys) (hx : xs.Pairwise (· ≤ ·)) : xs = srtI ys :=
  (h.trans (srtI_perm ys).symm).eq_of_pairwise (fun a b _ _ h1 h2 => Int.le_antisymm h1 h2) hx (srtI_srt ys)
theorem srtI_len (xs : List Int) : (srtI xs).length = xs.length := (srtI_perm xs).length_eq
def rwT (tk : List (Nat × Rw)) : List (List Int) := tk.filterMap (·.2)
def nwT (tk : List (Nat × Rw)) : Rw := if rwT tk = [] then none else some (srtI (rwT tk).flatten)
def rd1 (zs : List Int) (p : Nat × Rw) : List Int := match p.2 with
  | none => zs
  | some r => zs.set p.1 (zs.getD p.1 0 + r.length)
def rdT (tk : List (Nat × Rw)) (zs : List Int) : List Int := tk.foldl rd1 zs
theorem rd1_len (zs : List Int) (p : Nat × Rw) : (rd1 zs p).length = zs.length := by
  unfold rd1
  split
  · rfl
  · rw [List.length_set]
theorem rdT_len : ∀ (tk : List (Nat × Rw)) (zs : List Int), (rdT tk zs).length = zs.length
  | [], zs => rfl
  | p :: tk, zs => by
    show (rdT tk (rd1 zs p)).length = _
    rw [rdT_len tk, rd1_len]
def mgS (o : Nat) (s : List (List Rw) × List Int) : List (List Rw) × List Int :=
  ((tkN o s.1 s.1.length).set o ((tkN o s.1 s.1.length).getD o [] ++ [nwT (tfN o s.1 s.1.length)]), rdT (tfN o s.1 s.1.length) s.2)
def phZ (o : Nat) (s : List (List Rw) × List Int) : Nat → List (List Rw) × List Int
  | 0 => s
  | k + 1 => mgS o (phZ o s k)
theorem mgS_len (o : Nat) (s : List (List Rw) × List Int) : (mgS o s).1.length = s.1.length ∧ (mgS o s).2.length = s.2.length := by
  unfold mgS
  exact ⟨by rw [List.length_set, tkN_len], rdT_len _ _⟩
theorem phZ_len (o : Nat) (s : List (List Rw) × List Int) : ∀ k, (phZ o s k).1.length = s.1.length ∧ (phZ o s k).2.length = s.2.length
  | 0 => ⟨rfl, rfl⟩
  | k + 1 => by
    obtain ⟨h1, h2⟩ := mgS_len o (phZ o s k)
    obtain ⟨h3, h4⟩ := phZ_len o s k
    exact ⟨h1.trans h3, h2.trans h4⟩
def zerI (n : Nat) : List Int := List.replicate n 0
/-- a phase on reels: what is there behind it, what was read -/
def phQ (p : Int × Int) (Rs : List (List Rw)) : List (List Rw) × List Int := phZ p.1.toNat (Rs, zerI Rs.length) p.2.toNat
def plQ (Rs : List (List Rw)) : List (Int × Int) → List (List Rw) × List (List Int)
  | [] => (Rs, [])
  | p :: ps => ((plQ (phQ p Rs).1 ps).1, (phQ p Rs).2 :: (plQ (phQ p Rs).1 ps).2)
def isPh (cs : List Int) (p : Int × Int) : Prop := 0 ≤ p.1 ∧ p.1 < (cs.length : Int) ∧ cs.getD p.1.toNat 0 = 0 ∧ 1 ≤ p.2 ∧ ∃ c, c ∈ cs ∧ p.2 ≤ c
def cntI (Rs : List (List Rw)) : List Int := Rs.map fun r => (r.length : Int)
def okPl : List (List Rw) → List (Int × Int) → Prop
  | _, [] => True
  | Rs, p :: ps => isPh (cntI Rs) p ∧ okPl (phQ p Rs).1 ps
/-- all things on the reels -/
def allT (Rs : List (List Rw)) : List Int := (Rs.map fun R => (R.filterMap id).flatten).flatten

def thR (R : List Rw) : List Int := (R.filterMap id).flatten
theorem allT_eq (Rs : List (List Rw)) : allT Rs = (Rs.map thR).flatten := rfl
theorem thR_cons (r : Rw) (R : List Rw) : thR (r :: R) = r.getD [] ++ thR R := by
  unfold thR
  cases r <;> simp
theorem thR_app (R S : List Rw) : thR (R ++ S) = thR R ++ thR S := by
  unfold thR
  rw [List.filterMap_append, List.flatten_append]
theorem th_front {Rs : List (List Rw)} {i : Nat} {R : List Rw} (h : Rs[i]? = some R) : (allT Rs).Perm (thR R ++ allT (Rs.eraseIdx i)) := by
  have p := ((perm_front h).map thR).flatten
  rw [List.map_cons, List.flatten_cons] at p
  exact p
theorem th_set {Rs : List (List Rw)} {i : Nat} (h : i < Rs.length) (R : List Rw) : (allT (Rs.set i R)).Perm (thR R ++ allT (Rs.eraseIdx i)) := by
  have := th_front (Rs := Rs.set i R) (i := i) (R := R) (by rw [List.getElem?_set, if_pos rfl, if_pos h])
  rw [ers_set] at this
  exact this
theorem rwT_app (a b : List (Nat × Rw)) : rwT (a ++ b) = rwT a ++ rwT b := by unfold rwT; rw [List.filterMap_append]
theorem tk_perm (o : Nat) (Rs : List (List Rw)) : ∀ i, i ≤ Rs.length → (allT (tkN o Rs i) ++ (rwT (tfN o Rs i)).flatten).Perm (allT Rs)
  | 0, _ => by
    show (allT Rs ++ []).Perm _
    rw [List.append_nil]
  | i + 1, h => by
    have ih := tk_perm o Rs i (by omega)
    unfold tkN tfN
    by_cases c : i = o
    · rw [if_pos c, if_pos c, List.append_nil]
      exact ih
    · rw [if_neg c, if_neg c]
      have hi : (tkN o Rs i)[i]? = some ((tkN o Rs i).getD i []) := by
        have hl := tkN_len o Rs i
        rw [List.getD_eq_getElem?_getD, List.getElem?_eq_getElem (by omega)]
        rfl
      obtain ⟨X, hX⟩ : ∃ X, X = tkN o Rs i := ⟨_, rfl⟩
      obtain ⟨R, hR⟩ : ∃ R, R = X.getD i [] := ⟨_, rfl⟩
      rw [← hX] at hi ih ⊢
      rw [← hR] at hi ⊢
      have hil := (List.getElem?_eq_some_iff.mp hi).1
      cases R with
      | nil =>
        show (allT (X.set i []) ++ (rwT (tfN o Rs i ++ [])).flatten).Perm _
        rw [List.append_nil, set_id hi]
        exact ih
      | cons r R =>
        show (allT (X.set i R) ++ (rwT (tfN o Rs i ++ [(i, r)])).flatten).Perm _
        have p1 := th_set hil R
        have p2 := th_front hi
        rw [thR_cons] at p2
        rw [rwT_app, List.flatten_append]
        have e : (rwT [(i, r)]).flatten = r.getD [] := by
          unfold rwT
          cases r <;> simp
        rw [e]
        refine List.Perm.trans ?_ ih
        obtain ⟨x, hx⟩ : ∃ x : List Int, x = r.getD [] := ⟨_, rfl⟩
        rw [← hx] at p2 ⊢
        refine ((p1.append_right _).trans ?_).trans (p2.symm.append_right _)
        rw [List.append_assoc, List.append_assoc, List.append_assoc]
        have q1 : (thR R ++ (allT (X.eraseIdx i) ++ ((rwT (tfN o Rs i)).flatten ++ x))).Perm (x ++ (thR R ++ (allT (X.eraseIdx i) ++ (rwT (tfN o Rs i)).flatten))) := by
          rw [← List.append_assoc, ← List.append_assoc, ← List.append_assoc (thR R)]
          exact List.perm_append_comm
        exact q1
theorem nwT_th (tk : List (Nat × Rw)) : (thR [nwT tk]).Perm (rwT tk).flatten := by
  unfold nwT
  split
  · rename_i c
    rw [c]
    exact List.Perm.refl _
  · show (([srtI (rwT tk).flatten] : List (List Int)).flatten).Perm _
    rw [List.flatten_cons, List.flatten_nil, List.append_nil]
    exact srtI_perm _
theorem mg_perm {o : Nat} {s : List (List Rw) × List Int} (h : o < s.1.length) : (allT (mgS o s).1).Perm (allT s.1) := by
  have p := tk_perm o s.1 s.1.length (Nat.le_refl _)
  unfold mgS
  obtain ⟨X, hX⟩ : ∃ X, X = tkN o s.1 s.1.length := ⟨_, rfl⟩
  have hXl : X.length = s.1.length := by rw [hX]; exact tkN_len _ _ _
  rw [← hX] at p ⊢
  have hi : X[o]? = some (X.getD o []) := by rw [List.getD_eq_getElem?_getD, List.getElem?_eq_getElem (by omega)]; rfl
  refine List.Perm.trans ?_ p
  refine (th_set (by omega) _).trans ?_
  rw [thR_app]
  have p2 := th_front hi
  refine List.Perm.trans ?_ (p2.symm.append_right _)
  rw [List.append_assoc, List.append_assoc]
  refine List.Perm.append_left _ ?_
  exact List.perm_append_comm.trans (List.Perm.append_left _ (nwT_th _))
theorem ph_perm {o : Nat} {s : List (List Rw) × List Int} (h : o < s.1.length) : ∀ k, (allT (phZ o s k).1).Perm (allT s.1)
  | 0 => List.Perm.refl _
  | k + 1 => (mg_perm (by rw [(phZ_len o s k).1]; exact h)).trans (ph_perm h k)
theorem tfN_lt {α : Type} (o : Nat) (xs : List (List α)) : ∀ i p, p ∈ tfN o xs i → p.1 < i
  | 0, p, h => by cases h
  | i + 1, p, h => by
    unfold tfN at h
    rcases List.mem_append.mp h with h | h
    · have := tfN_lt o xs i p h
      omega
    · split at h
      · cases h
      · split at h
        · cases h
        · rw [List.mem_singleton.mp h]
          exact Nat.lt_succ_self _
theorem tfN_len {α : Type} (o : Nat) (xs : List (List α)) : ∀ i, (tfN o xs i).length ≤ i
  | 0 => Nat.le_refl _
  | i + 1 => by
    have ih := tfN_len o xs i
    unfold tfN
    rw [List.length_append]
    have : (if i = o then [] else match (tkN o xs i).getD i [] with | [] => [] | v :: _ => [(i, v)] : List (Nat × α)).length ≤ 1 := by
      split
      · exact Nat.zero_le _
      · split
        · exact Nat.zero_le _
        · exact Nat.le_refl _
    omega
theorem rwT_len {tk : List (Nat × Rw)} {r : List Int} (h : r ∈ rwT tk) : r.length ≤ (rwT tk).flatten.length := (List.sublist_flatten_of_mem h).length_le

theorem tkN_cnt {α : Type} (o : Nat) (Rs : List (List α)) : ∀ i (j : Nat) (R : List α), (tkN o Rs i)[j]? = some R → ∃ R0, Rs[j]? = some R0 ∧ R.length ≤ R0.length ∧ (j = o → R = R0)
  | 0, j, R, h => ⟨R, h, Nat.le_refl _, fun _ => rfl⟩
  | i + 1, j, R, h => by
    unfold tkN at h
    by_cases c : i = o
    · rw [if_pos c] at h
      exact tkN_cnt o Rs i j R h
    · rw [if_neg c, List.getElem?_set] at h
      by_cases c2 : i = j
      · subst c2
        rw [if_pos rfl] at h
        split at h
        · rename_i hl
          have hg : (tkN o Rs i)[i]? = some ((tkN o Rs i).getD i []) := by
            rw [List.getD_eq_getElem?_getD, List.getElem?_eq_getElem hl]
            rfl
          obtain ⟨R0, h1, h2, h3⟩ := tkN_cnt o Rs i i _ hg
          have e := Option.some.inj h
          refine ⟨R0, h1, ?_, fun e2 => absurd e2 c⟩
          rw [← e, List.length_tail]
          omega
        · cases h
      · rw [if_neg c2] at h
        exact tkN_cnt o Rs i j R h
theorem mg_cnt {o : Nat} {s : List (List Rw) × List Int} {j : Nat} {R : List Rw} (h : (mgS o s).1[j]? = some R) : ∃ R0, s.1[j]? = some R0 ∧ (if j = o then R.length = R0.length + 1 else R.length ≤ R0.length) := by
  unfold mgS at h
  have h' : ((tkN o s.1 s.1.length).set o ((tkN o s.1 s.1.length).getD o [] ++ [nwT (tfN o s.1 s.1.length)]))[j]? = some R := h
  rw [List.getElem?_set] at h'
  by_cases c : o = j
  · subst c
    rw [if_pos rfl] at h'
    split at h'
    · rename_i hl
      have hg : (tkN o s.1 s.1.length)[o]? = some ((tkN o s.1 s.1.length).getD o []) := by
        rw [List.getD_eq_getElem?_getD, List.getElem?_eq_getElem hl]
        rfl
      obtain ⟨R0, h1, h2, h3⟩ := tkN_cnt o s.1 _ o _ hg
      refine ⟨R0, h1, ?_⟩
      rw [if_pos rfl, ← Option.some.inj h', List.length_append, h3 rfl]
      rfl
    · cases h'
  · rw [if_neg c] at h'
    obtain ⟨R0, h1, h2, h3⟩ := tkN_cnt o s.1 _ j _ h'
    exact ⟨R0, h1, by rw [if_neg (fun e => c e.symm)]; exact h2⟩
theorem ph_cnt {o : Nat} {s : List (List Rw) × List Int} : ∀ (k j : Nat) (R : List Rw), (phZ o s k).1[j]? = some R → ∃ R0, s.1[j]? = some R0 ∧ (if j = o then R.length = R0.length + k else R.length ≤ R0.length)
  | 0, j, R, h => ⟨R, h, by split <;> simp⟩
  | k + 1, j, R, h => by
    obtain ⟨R1, h1, h2⟩ := mg_cnt (show (mgS o (phZ o s k)).1[j]? = some R from h)
    obtain ⟨R0, h3, h4⟩ := ph_cnt k j R1 h1
    refine ⟨R0, h3, ?_⟩
    by_cases c : j = o
    · rw [if_pos c] at h2 h4 ⊢
      omega
    · rw [if_neg c] at h2 h4 ⊢
      omega
theorem ph_bound {p : Int × Int} {Rs : List (List Rw)} {B : Nat} (hp : isPh (cntI Rs) p) (hB : ∀ R, R ∈ Rs → R.length ≤ B) : p.2 ≤ (B : Int) ∧ p.1.toNat < Rs.length ∧ ∀ R, R ∈ (phQ p Rs).1 → R.length ≤ B := by
  obtain ⟨h1, h2, h3, h4, c, hc, h5⟩ := hp
  unfold cntI at h2 h3 hc
  obtain ⟨R0, hR0, rfl⟩ := List.mem_map.mp hc
  have hb0 := hB R0 hR0
  rw [List.length_map] at h2
  have ho : p.1.toNat < Rs.length := by omega
  have hm : p.2 ≤ (B : Int) := by omega
  refine ⟨hm, ho, fun R hR => ?_⟩
  obtain ⟨j, hj⟩ := List.getElem?_of_mem hR
  obtain ⟨R1, h6, h7⟩ := ph_cnt p.2.toNat j R hj
  have h6' : Rs[j]? = some R1 := h6
  by_cases e : j = p.1.toNat
  · rw [if_pos e] at h7
    rw [List.getD_eq_getElem?_getD, List.getElem?_map, ← e, h6'] at h3
    have h3' : (R1.length : Int) = 0 := h3
    omega
  · rw [if_neg e] at h7
    have := hB R1 (List.mem_of_getElem? h6')
    omega
theorem plQ_snoc : ∀ (ps : List (Int × Int)) (Rs : List (List Rw)) (p : Int × Int), plQ Rs (ps ++ [p]) = ((phQ p (plQ Rs ps).1).1, (plQ Rs ps).2 ++ [(phQ p (plQ Rs ps).1).2])
  | [], Rs, p => rfl
  | x :: ps, Rs, p => by
    have ih := plQ_snoc ps (phQ x Rs).1 p
    show ((plQ (phQ x Rs).1 (ps ++ [p])).1, (phQ x Rs).2 :: (plQ (phQ x Rs).1 (ps ++ [p])).2) = _
    rw [ih]
    rfl
theorem okPl_app : ∀ (ps qs : List (Int × Int)) (Rs : List (List Rw)), okPl Rs (ps ++ qs) → okPl Rs ps ∧ okPl (plQ Rs ps).1 qs
  | [], qs, Rs, h => ⟨trivial, h⟩
  | p :: ps, qs, Rs, h => by
    obtain ⟨h1, h2⟩ := h
    obtain ⟨h3, h4⟩ := okPl_app ps qs (phQ p Rs).1 h2
    exact ⟨⟨h1, h3⟩, h4⟩
theorem phQ_len (p : Int × Int) (Rs : List (List Rw)) : (phQ p Rs).1.length = Rs.length ∧ (phQ p Rs).2.length = Rs.length := by
  obtain ⟨h1, h2⟩ := phZ_len p.1.toNat (Rs, zerI Rs.length) p.2.toNat
  exact ⟨h1, by unfold phQ; rw [h2]; exact List.length_replicate⟩
/-- what stays true along a play -/
theorem pl_inv {B : Nat} : ∀ (ps : List (Int × Int)) (Rs : List (List Rw)), okPl Rs ps → (∀ R, R ∈ Rs → R.length ≤ B) → (plQ Rs ps).1.length = Rs.length ∧ (∀ R, R ∈ (plQ Rs ps).1 → R.length ≤ B) ∧ (allT (plQ Rs ps).1).Perm (allT Rs)
  | [], Rs, _, hB => ⟨rfl, hB, List.Perm.refl _⟩
  | p :: ps, Rs, h, hB => by
    obtain ⟨h1, h2⟩ := h
    obtain ⟨_, ho, hB2⟩ := ph_bound h1 hB
    obtain ⟨i1, i2, i3⟩ := pl_inv ps (phQ p Rs).1 h2 hB2
    exact ⟨i1.trans (phQ_len p Rs).1, i2, i3.trans (ph_perm (s := (Rs, zerI Rs.length)) ho _)⟩
theorem zipW_snoc {α β γ : Type} (f : α → β → γ) {xs : List α} {ys : List β} (h : xs.length = ys.length) (x : α) (y : β) : List.zipWith f (xs ++ [x]) (ys ++ [y]) = List.zipWith f xs ys ++ [f x y] := by
  rw [List.zipWith_append (by exact h)]
  rfl
theorem adS_snoc (vss : List (List V)) (us : List V) : adS (vss ++ [us]) = adS vss ++ adR us := by
  unfold adS
  rw [List.flatMap_append]
  simp

theorem take_sn {α : Type} {xs : List α} {i : Nat} {x : α} (h : xs[i]? = some x) : xs.take (i + 1) = xs.take i ++ [x] := by rw [List.take_add_one, h]; rfl

--@need TSN
theorem ownZ_sn2 {ads : List Addr} {wss : List (List V)} (h : ads.length = wss.length) (a : Addr) (w : List V) : ownZ (ads ++ [a]) (wss ++ [w]) = ownZ ads wss ++ [(a, HO.lst w)] := by
  unfold ownZ
  rw [List.zipWith_append h]
  rfl
/-- a list of truths -/
abbrev lB (r : List Bool) : PyData := .list (r.map PyData.bool)
theorem rp_bl2 {D : Hp} : ∀ bs : List Bool, RpAll D (bs.map V.bl) (bs.map PyData.bool)
  | [] => .nil
  | b :: bs => .cons (.bl b) (rp_bl2 bs)
theorem Sx.fixZ2 {H : Hp} {L : Own} : ∀ (ads : List Addr) (wss : List (List V)) (D : Hp), ads.length = wss.length → Sx D (ownZ ads wss ++ L) H → ∃ D', Sm D D' ∧ Sx D' L H ∧ (∀ (i : Nat) (a : Addr) (ws : List V), ads[i]? = some a → wss[i]? = some ws → Kn D' a (.lst ws)) ∧ (∀ a, a ∈ ads → D a = none) ∧ ads.Nodup
  | [], [], D, _, S => ⟨D, Sm.rfl', S, fun i a ws h => by simp at h, fun a h => (nomatch h), List.nodup_nil⟩
  | [], _ :: _, _, h, _ => by simp at h
  | _ :: _, [], _, h, _ => by simp at h
  | a :: ads, w :: wss, D, h, S => by
    have S1 : Sx D ((a, .lst w) :: (ownZ ads wss ++ L)) H := S
    have h0 : D a = none := (S1.ow _ List.mem_cons_self).2
    obtain ⟨D1, e1, k1, S2⟩ := Sx.fix1 (a := a) (S := S1)
    obtain ⟨D2, e2, S3, h3, h4, h5⟩ := Sx.fixZ2 ads wss D1 (by simpa using h) S2
    have hn : a ∉ ads := fun hm => by
      have := h4 a hm
      rw [k1.pf] at this
      cases this
    refine ⟨D2, up, S3, fun i b ws q4 q5 => ?_, fun b hb => ?_, List.nodup_cons.mpr ⟨hn, h5⟩⟩
    · cases i with
      | zero => cases q4; cases q5; infer_instance
      | succ i => exact h3 i b ws q4 q5
    · rcases List.mem_cons.mp hb with rfl | hb
      · exact h0
      · cases e : D b with
        | none => rfl
        | some u =>
          have := h4 b hb
          rw [e1.e _ _ e] at this
          cases this
theorem ra_fixL {D : Hp} : ∀ {ads : List Addr} {nss : List (List Int)}, ads.length = nss.length → (∀ (i : Nat) (a : Addr) (ws : List V), ads[i]? = some a → (nss.map fun r => r.map V.int)[i]? = some ws → Kn D a (.lst ws)) → RpAll D (ads.map V.ref) (nss.map lI)
  | [], [], _, _ => .nil
  | [], _ :: _, h, _ => by simp at h
  | _ :: _, [], h, _ => by simp at h
  | a :: ads, ns :: nss, h, k => .cons (.lstI (k 0 a _ rfl rfl).pf) (ra_fixL (by simpa using h) fun i b ws h1 h2 => k (i + 1) b ws h1 h2)
theorem ra_fixB {D : Hp} : ∀ {ads : List Addr} {bss : List (List Bool)}, ads.length = bss.length → (∀ (i : Nat) (a : Addr) (ws : List V), ads[i]? = some a → (bss.map fun r => r.map V.bl)[i]? = some ws → Kn D a (.lst ws)) → RpAll D (ads.map V.ref) (bss.map lB)
  | [], [], _, _ => .nil
  | [], _ :: _, h, _ => by simp at h
  | _ :: _, [], h, _ => by simp at h
  | a :: ads, ns :: nss, h, k => .cons (.lst (k 0 a _ rfl rfl).pf (rp_bl2 ns)) (ra_fixB (by simpa using h) fun i b ws h1 h2 => k (i + 1) b ws h1 h2)
theorem sh_LB (bss : List (List Bool)) : Sh 2 (.list (bss.map lB)) := Sh.list (n := 1) fun d hd => by
  obtain ⟨r, _, rfl⟩ := List.mem_map.mp hd
  exact Sh.list (n := 0) fun e he => by
    obtain ⟨b, _, rfl⟩ := List.mem_map.mp he
    exact Sh.bl 0 b
theorem dpLB {D : Hp} {K : PySem.W.Frag} {L : Own} {H : Hp} {a : Addr} {us : List V} {xs : List (List Bool)} (S : Sx D L H) (ha : Rds K D L a us) (ra : RpAll D us (xs.map lB)) : Dp K H (.ref a) (.list (xs.map lB)) := .lst (ha.sq S) (RpAll.dp (RpAll.up S.dH ra))
theorem r_neSB {D : Hp} {K : PySem.W.Frag} {L : Own} {H : Hp} {Q : VK} {a b : Addr} {us ws : List V} {xs : List (List Bool)} (S : Sx D L H) (ha : Rds K D L a us) (hb : Rds K D L b ws) (ra : RpAll D us (xs.map lB)) (rb : RpAll D ws (xs.map lB)) (k : Q (.bl false) H) : rNeX K (.ref a) (.ref b) H Q := r_neSame (dpLB S ha ra) (dpLB S hb rb) (sh_LB xs) k

def sp_turned_numbers (K : PySem.W.Frag) : Sp := fun vs H Q _ => ∃ (D : Hp) (L : Own) (p n : Nat), vs = [.int (p : Int), .int (n : Int)] ∧ 2 ≤ p ∧ p ≤ 7 ∧ n ≤ 300 ∧ (∀ k, k ≤ n → (lvlC p k).sum ≤ 4000) ∧ Sx D L H ∧
  ∀ (fo : Addr) (ads : List Addr) D' H', Sx D' ((fo, .lst (ads.map V.ref)) :: (ownZ ads ((trnN p n).map fun r => r.map V.int) ++ L)) H' → Sm D D' → ads.length = p → Q (.ref fo) H'
theorem ok_turned_numbers {fA : Addr} {fd : FuncData} (F : Fun K "turned_numbers" "turned_numbers" st_turned_numbers fA fd) {t_MOST_PLACES : Tok} (c_MOST_PLACES : mg "MOST_PLACES" = some (.int (4000) t_MOST_PLACES)) (b_list : mg "list" = none) (b_range : mg "range" = none) (b_reversed : mg "reversed" = none) (b_sum : mg "sum" = none)
    (C_level_counts : Cl P w K mg base CX0 3 "level_counts" ["p", "n"] (sp_level_counts K)) : FnOk P w K mg base CX0 4 fA fd ["p", "n"] (sp_turned_numbers K) := by
  refine F.ok sc_turned_numbers (fun vs H Q E h => ?_) (fun cdv A outer s H vs Q E hr h => ?_)
  · obtain ⟨D, L, p, n, rfl, h2, h7, hn3, hs4, S, q⟩ := h
    rfl
  · obtain ⟨D, L, p, n, rfl, h2, h7, hn3, hs4, S, q⟩ := h
    have hu : (A.deeper (envOfC "turned_numbers" (defScope st_turned_numbers) s.heap.objs.size fA cdv)).units + 64 < cLine := by have := hr.un; omega
    refine ⟨_, (pss_cons (ps_if (pt_cmpR op_gt (pe_callB (r := rSumX K) (cr_sumX rfl) (by rfl) b_sum bb_sum (pa_cons (pe_cl C_level_counts hr (by decide) (by rfl) (pa_cons (pv 0) (pa_cons (pv 1) pa_nil))) pa_nil)) (pe_glob (v := .int (4000)) (by rfl) c_MOST_PLACES ⟨_, rfl⟩) (nomark _)) pss_never pss_nil)
      (pss_cons (ps_set (i := 2) sc_turned_numbers.nd rfl (Or.inl rfl) (pe_op (r := rAddX K) opAdd (pe_lst (pa_cons (pe_lst (pa_cons pe_int pa_nil)) pa_nil)) (pe_lc (own := [("turn", 3)]) (tt := tYes) rfl sc_turned_numbers.nd (pi_range1 (by rfl) b_range (pa_cons (pe_op op_sub (pv 0) pe_int) pa_nil)) (blkOk_by (N := ["p", "n", "reels", "turn", "first", "number", "reel"]) (sc := defScope st_turned_numbers) (by decide +kernel)) (fun _ _ _ _ _ => (pg_name (i := 3) sc_turned_numbers.nd rfl (Or.inl rfl))) (fun _ _ _ _ _ => pts_nil) (fun _ _ _ _ _ => (pe_lst pa_nil)))))
      (pss_cons (ps_for PassesOwn.never rfl (pi_range1 (by rfl) b_range (pa_cons (pv 1) pa_nil)) (pg_name (i := 3) sc_turned_numbers.nd rfl (Or.inl rfl))
      (pss_cons (ps_set (i := 4) sc_turned_numbers.nd rfl (Or.inr rfl) (pe_lc (own := [("number", 5)]) (tt := tYes) rfl sc_turned_numbers.nd (RT.pi_revA (by rfl) b_reversed (pe_ix (r := rIx K) ix_seq (pv 2) pe_int (fun _ _ => rfl))) (blkOk_by (N := ["p", "n", "reels", "turn", "first", "number", "reel"]) (sc := defScope st_turned_numbers) (by decide +kernel)) (fun _ _ _ _ _ => (pg_name (i := 5) sc_turned_numbers.nd rfl (Or.inl rfl))) (fun _ _ _ _ _ => pts_nil) (fun _ _ _ _ _ => (pe_op (r := rAddX K) opAdd (pv 5) pe_int))))
      (pss_one (ps_set (i := 2) sc_turned_numbers.nd rfl (Or.inl rfl) (pe_op (r := rAddX K) opAdd (pe_lc (own := [("reel", 6)]) (tt := tYes) rfl sc_turned_numbers.nd (pi_seqK K (pe_slice (r := rSlX K) slX (pv 2) (po_some pe_int) po_none)) (blkOk_by (N := ["p", "n", "reels", "turn", "first", "number", "reel"]) (sc := defScope st_turned_numbers) (by decide +kernel)) (fun _ _ _ _ _ => (pg_name (i := 6) sc_turned_numbers.nd rfl (Or.inl rfl))) (fun _ _ _ _ _ => pts_nil) (fun _ _ _ _ _ => (pe_op (r := rAddX K) opAdd (pv 6) (pv 4)))) (pe_lst (pa_cons (pv 4) pa_nil)))))))
      (pss_one (ps_ret (pe_lc (own := [("reel", 6)]) (tt := tYes) rfl sc_turned_numbers.nd (pi_seqK K (pv 2)) (blkOk_by (N := ["p", "n", "reels", "turn", "first", "number", "reel"]) (sc := defScope st_turned_numbers) (by decide +kernel)) (fun _ _ _ _ _ => (pg_name (i := 6) sc_turned_numbers.nd rfl (Or.inl rfl))) (fun _ _ _ _ _ => pts_nil) (fun _ _ _ _ _ => (pe_callTy (r := rLstOf K) call_lstN (by rfl) b_list bb_list (pa_cons (pv 6) pa_nil))))))))), ?_⟩
    refine st_start (σ' := [some _, some _, none, none, none, none, none]) rfl (fun bk ct => ?_)
    have ep : ((p : Nat) : Int).toNat = p := Int.toNat_natCast p
    have en : ((n : Nat) : Int).toNat = n := Int.toNat_natCast n
    wtm_at "vc"
    refine ⟨D, L, (p : Int), (n : Int), rfl, by omega, by omega, by omega, by omega, S, fun ca D1 H1 S1 e1 kca => ?_⟩
    rw [ep, en] at kca
    have hs0 := hs4 n (Nat.le_refl n)
    wtm_at "vc"
    rename_i b1 H2 S2 b2 H3 S3
    obtain ⟨Da, ea, k1, Sa⟩ := Sx.fix1 (a := b1) (S := Sx.front (a := b1) (S := S3))
    refine lc_go (S := Sa) (walk_rng (lo := 0) (n := ((p : Int) - 1).toNat)) (by omega) (fun k acc D' => RpAll D' acc (List.replicate k (lI []))) .nil (fun D' p acc H' e' S' => trivial) (fun k v q2 acc D5 H5 H6 hk e5 S5 hR hy Ad Sk hA hS => ?_) (fun mo D5 acc H5 e5 S5 hR => ?_)
    · obtain ⟨rfl, rfl⟩ := hy
      wtm_at "vc"
      rename_i p9 H9 S9
      obtain ⟨D9, e9, k9, S9⟩ := Sx.fix1 (a := p9) (S := S9)
      refine hA _ D9 _ e9 (Sx.gc (S := S9)) ?_
      rw [List.replicate_succ']
      exact RpAll.app (hR.up e9.e) (.cons (.lstI (ns := []) k9.pf) .nil)
    wtm_at "vc"
    have hal : acc.length = p - 1 := by have := hR.length; rw [List.length_replicate] at this; omega
    refine ⟨by rw [hal]; show 1 + (p - 1) ≤ _; omega, fun re H6 S6 => ?_⟩
    obtain ⟨D6, e6, k6, S7⟩ := Sx.fix1 (a := re) (S := S6)
    have hU : RpAll D6 ([V.ref b1] ++ acc) ((trnN p 0).map lI) := by
      show RpAll D6 _ (([0] :: List.replicate (p - 1) []).map lI)
      rw [List.map_cons, List.map_replicate]
      have := (hR.up e6.e)
      rw [show ((p : Int) - 1).toNat = p - 1 by omega] at this
      exact .cons (.lstI (ns := [0]) (e6.e _ _ (e5.e _ _ k1.pf))) this
    wtm_at "vc"
    rw [en]
    refine for_go (walk_rng (lo := 0) (n := n)) (fun i σ H => ∃ (D3 : Hp) (re : Addr) (us : List V) (x3 x4 x5 x6 : Option V), σ = [some (.int (p : Int)), some (.int (n : Int)), some (.ref re), x3, x4, x5, x6] ∧ Sm D6 D3 ∧ Sx D3 L H ∧ Kn D3 re (.lst us) ∧ RpAll D3 us ((trnN p i).map lI))
      ⟨D6, re, _, _, _, _, _, rfl, Sm.rfl', Sx.gc (S := S7), k6, hU⟩ (fun _ _ _ _ _ => trivial) (fun i v σ H7 H8 hi ⟨D3, re, us, x3, x4, x5, x6, es, e3, S8, kre, hU⟩ hy nx bk hN => ?_) (fun σ H7 ⟨D3, re, us, x3, x4, x5, x6, es, e3, S8, kre, hU⟩ => ?_)
    · obtain ⟨rfl, rfl⟩ := hy
      subst es
      have hp1 : 1 ≤ p := by omega
      have hul : us.length = p := by have := hU.length; rw [List.length_map, trnN_len hp1] at this; exact this
      have hrb : ∀ r, r ∈ trnN p i → r.length ≤ 4000 := fun r hr => by
        have h1 := trnN_le hp1 hr
        have h2 := hs4 i (by omega)
        omega
      obtain ⟨r0, rs, hrr⟩ : ∃ r0 rs, trnN p i = r0 :: rs := by
        cases e : trnN p i with
        | nil => have := trnN_len hp1 i; rw [e] at this; simp at this; omega
        | cons r rs => exact ⟨r, rs, rfl⟩
      have enx : trnN p (i + 1) = rs.map (fun r => r ++ r0.reverse.map (· + 1)) ++ [r0.reverse.map (· + 1)] := by
        show ((trnN p i).drop 1).map (fun r => r ++ ((trnN p i).headD []).reverse.map (· + 1)) ++ [((trnN p i).headD []).reverse.map (· + 1)] = _
        rw [hrr]
        rfl
      rw [hrr] at hU hrb
      obtain ⟨c0, us', rfl, kc0, hU'⟩ := ra_consL hU
      have hr0 := hrb r0 List.mem_cons_self
      wtm_at "vc"
      refine lc_vals (S := S8) (walk_rev (xs := r0.map V.int)) (by rw [List.length_map]; omega) (r0.reverse.map fun z => V.int (z + 1)) (by rw [List.length_map, List.length_map, List.length_reverse]) (fun p acc H' S' => (rsD (K := K) (L := []) kc0.pf).sq S'.tail') (fun j v q2 acc H9 H10 hj S9 hy Ad hA => ?_) (fun b5 H9 S9 => ?_)
      · obtain ⟨rfl, hv⟩ := hy
        rw [List.length_map] at hj hv
        obtain ⟨z, hz, rfl⟩ := getI hv
        wtm_at "vc"
        exact hA _ _ S9 (by rw [List.getElem?_map, List.getElem?_reverse hj, hz]; rfl)
      have hfe : (r0.reverse.map fun z => V.int (z + 1)) = (r0.reverse.map (· + 1)).map V.int := by rw [List.map_map]; rfl
      rw [hfe] at S9
      obtain ⟨D9, e9, k9, S10⟩ := Sx.fix1 (a := b5) (S := S9)
      wtm_at "vc"
      rename_i p8 H10 S11
      have hsl : Sx D9 ((p8, .lst us') :: L) H10 := S11
      obtain ⟨Db, eb, kb, S12⟩ := Sx.fix1 (a := p8) (S := hsl)
      have hfl : (r0.reverse.map (· + 1)).length ≤ 4000 := by rw [List.length_map, List.length_reverse]; exact hr0
      generalize hfg : r0.reverse.map (· + 1) = fr at *
      have hUl : us'.length ≤ 7 := by simp only [List.length_cons] at hul; omega
      refine lc_go (S := S12) (walk_list (xs := us')) (by omega) (fun k acc D' => RpAll D' acc (((rs.take k).map fun r => r ++ fr).map lI)) .nil (fun D' p acc H' e' S' => (rsD (K := K) (L := []) (e'.e _ _ kb.pf)).sq S'.tail') (fun k v q2 acc Dc Hc Hd hk ec Sc hR hy Ad Sk hA hS => ?_) (fun mo Dc acc Hc ec Sc hR => ?_)
      · obtain ⟨rfl, hv⟩ := hy
        obtain ⟨g, r, rfl, hr, kg⟩ := ra_getL (hU'.up (up : Sm D3 Dc).e) hv
        have hrl := hrb r (List.mem_cons_of_mem _ (List.mem_of_getElem? hr))
        wtm_at "vc"
        rename_i p7 H12 S13
        obtain ⟨De, ee, ke, S14⟩ := Sx.fix1 (a := p7) (S := S13)
        refine hA _ De _ ee (Sx.gc (S := S14)) ?_
        rw [List.take_add_one, hr, List.map_append, List.map_append]
        refine RpAll.app (hR.up ee.e) ?_
        rw [← List.map_append] at ke
        exact .cons (.lstI ke.pf) .nil
      have hrl : rs.length = us'.length := by have := hU'.length; rw [List.length_map] at this; exact this.symm
      rw [← hrl, List.take_length] at hR
      have hal : acc.length = rs.length := by have := hR.length; rw [List.length_map, List.length_map] at this; exact this
      wtm_at "vc"
      rename_i p7 H12 S13
      obtain ⟨De, ee, ke, S14⟩ := Sx.fix1 (a := p7) (S := S13)
      refine hN _ _ ⟨De, p7, acc ++ [.ref b5], _, _, _, _, rfl, up, Sx.gc (S := S14), ke, ?_⟩
      rw [enx, List.map_append]
      exact RpAll.app (hR.up (up : Sm Dc De).e) (.cons (.lstI ((up : Sm D9 De).e _ _ k9.pf)) .nil)
    subst es
    have hul : us.length = p := by have := hU.length; rw [List.length_map, trnN_len (by omega)] at this; exact this
    have hrb : ∀ r, r ∈ trnN p n → r.length ≤ 4000 := fun r hr => by
      have h1 := trnN_le (by omega) hr
      omega
    wtm_at "vc"
    refine lc_goL (S := S8) (walk_list (xs := us)) (by omega) (fun i acc D' L' => D' = D3 ∧ ∃ (ads : List Addr), acc = ads.map V.ref ∧ ads.length = i ∧ L' = ownZ ads (((trnN p n).take i).map fun r => r.map V.int) ++ L) ⟨rfl, [], rfl, rfl, rfl⟩ (fun D' L' p acc H' e' S' => (rsD (K := K) (L := []) (e'.e _ _ kre.pf)).sq S'.tail') (fun j v q2 acc D6 L6 H6 H7 hj e6 S6 hR6 hy Ad Sk hA hS => ?_) (fun c D6 L6 acc H7 e6 S6 hR6 => ?_)
    · obtain ⟨rfl, hv⟩ := hy
      obtain ⟨rfl, ads, rfl, hal, rfl⟩ := hR6
      obtain ⟨g, r, rfl, hr, kg⟩ := ra_getL hU hv
      have hrl := hrb r (List.mem_of_getElem? hr)
      have hjl := (List.getElem?_eq_some_iff.mp hr).1
      wtm_at "vc"
      rename_i l1 H8 S8
      refine hA _ D6 _ _ Sm.rfl' (Sx.perm S8 ((List.Perm.swap _ _ _).trans ((List.perm_middle.symm).cons _))) ⟨rfl, ads ++ [l1], by rw [List.map_append]; rfl, by rw [List.length_append, hal]; rfl, ?_⟩
      rw [take_sn hr, List.map_append, List.map_cons, List.map_nil, ownZ_sn2 (by rw [List.length_map, List.length_take]; omega), List.append_assoc]
      rfl
    obtain ⟨rfl, ads, rfl, hal, rfl⟩ := hR6
    have htl := trnN_len (p := p) (by omega) n
    rw [hul, List.take_of_length_le (by omega)] at S6
    exact q c ads D6 _ S6 up (by omega)
--@@
theorem lvlC_ge {p : Nat} (h : 1 ≤ p) (n : Nat) : (lvlC p n).Pairwise (· ≥ ·) ∧ ∀ x ∈ lvlC p n, 0 ≤ x := by
  induction n with
  | zero =>
    show (firstC p).Pairwise (· ≥ ·) ∧ ∀ x ∈ firstC p, 0 ≤ x
    unfold firstC
    refine ⟨List.pairwise_cons.mpr ⟨fun b hb => ?_, List.pairwise_replicate.mpr (.inr (Int.le_refl 0))⟩, fun x hx => ?_⟩
    · rw [List.mem_replicate] at hb
      omega
    · rcases List.mem_cons.mp hx with e | e
      · omega
      · rw [List.mem_replicate] at e
        omega
  | succ n ih =>
    obtain ⟨i1, i2⟩ := ih
    show (highC (lvlC p n)).Pairwise (· ≥ ·) ∧ ∀ x ∈ highC (lvlC p n), 0 ≤ x
    obtain ⟨y, r, e, _⟩ := lvlC_cons h n
    rw [e] at i1 i2
    rw [e]
    obtain ⟨j1, j2⟩ := List.pairwise_cons.mp i1
    have h0 := i2 y List.mem_cons_self
    have hh : highC (y :: r) = r.map (fun x => y + x) ++ [y] := rfl
    rw [hh]
    refine ⟨List.pairwise_append.mpr ⟨List.pairwise_map.mpr (j2.imp fun {a b} hab => ?_), List.pairwise_singleton _ _, fun a ha b hb => ?_⟩, fun x hx => ?_⟩
    · show y + a ≥ y + b
      have : a ≥ b := hab
      omega
    · obtain ⟨z, hz, rfl⟩ := List.mem_map.mp ha
      have := i2 z (List.mem_cons_of_mem _ hz)
      rw [List.mem_singleton] at hb
      show y + z ≥ b
      omega
    · rcases List.mem_append.mp hx with hx | hx
      · obtain ⟨z, hz, rfl⟩ := List.mem_map.mp hx
        have := i2 z (List.mem_cons_of_mem _ hz)
        omega
      · rw [List.mem_singleton] at hx
        omega

theorem lvlC_sum {p : Nat} (h : 2 ≤ p) (n : Nat) : (lvlC p n).sum < (lvlC p (n + 1)).sum ∧ 1 ≤ (lvlC p n).sum ∧ 1 ≤ (lvlC p n).headD 0 ∧ (lvlC p n).headD 0 ≤ 2 ^ n ∧ (lvlC p n).sum ≤ (p : Int) * (lvlC p n).headD 0 := by
  have key : ∀ n, ∃ y r, lvlC p n = y :: r ∧ r.length = p - 1 ∧ 1 ≤ y ∧ y ≤ 2 ^ n ∧ (∀ z ∈ r, 0 ≤ z ∧ z ≤ y) := by
    intro n
    induction n with
    | zero =>
      refine ⟨1, List.replicate (p - 1) 0, rfl, List.length_replicate, by decide, by decide, fun z hz => ?_⟩
      rw [List.mem_replicate] at hz
      omega
    | succ n ih =>
      obtain ⟨y, r, e, hl, h1, h2, h3⟩ := ih
      have ex : lvlC p (n + 1) = r.map (fun z => y + z) ++ [y] := by
        show highC (lvlC p n) = _
        rw [e]
        rfl
      cases r with
      | nil => simp at hl; omega
      | cons z r =>
        have hz := h3 z List.mem_cons_self
        have g := (lvlC_ge (p := p) (by omega) n).1
        rw [e] at g
        obtain ⟨_, g2⟩ := List.pairwise_cons.mp g
        obtain ⟨g3, _⟩ := List.pairwise_cons.mp g2
        refine ⟨y + z, r.map (fun z => y + z) ++ [y], by rw [ex]; rfl, ?_, by omega, ?_, fun w hw => ?_⟩
        · rw [List.length_append, List.length_map]
          rw [List.length_cons] at hl
          show r.length + 1 = p - 1
          omega
        · rw [Int.pow_succ]
          omega
        · rcases List.mem_append.mp hw with hw | hw
          · obtain ⟨v, hv, rfl⟩ := List.mem_map.mp hw
            have := h3 v (List.mem_cons_of_mem _ hv)
            have : z ≥ v := g3 v hv
            omega
          · rw [List.mem_singleton] at hw
            omega
  have sm : ∀ (y : Int) (r : List Int), (r.map fun z => y + z).sum = r.sum + y * r.length := by
    intro y r
    induction r with
    | nil => simp
    | cons z r ih =>
      rw [List.map_cons, List.sum_cons, List.sum_cons, ih, List.length_cons, Int.natCast_succ, Int.mul_add]
      omega
  have sl : ∀ (y : Int) (r : List Int), (∀ z ∈ r, 0 ≤ z ∧ z ≤ y) → 0 ≤ r.sum ∧ r.sum ≤ y * r.length := by
    intro y r
    induction r with
    | nil => intro _; simp
    | cons z r ih =>
      intro hh
      have h1 := hh z List.mem_cons_self
      have h2 := ih fun w hw => hh w (List.mem_cons_of_mem _ hw)
      rw [List.sum_cons, List.length_cons, Int.natCast_succ, Int.mul_add]
      omega
  obtain ⟨y, r, e, hl, h1, h2, h3⟩ := key n
  have hs := sl y r h3
  have ex : lvlC p (n + 1) = r.map (fun z => y + z) ++ [y] := by
    show highC (lvlC p n) = _
    rw [e]
    rfl
  have h4 : y * 1 ≤ y * (r.length : Int) := Int.mul_le_mul_of_nonneg_left (by omega) (by omega)
  have h5 : (p : Int) * y = y * r.length + y := by
    rw [show (p : Int) = (r.length : Int) + 1 by omega, Int.add_mul, Int.mul_comm]
    omega
  rw [ex, e, List.sum_append, sm, List.sum_cons, List.sum_singleton]
  show _ ∧ _ ∧ 1 ≤ y ∧ y ≤ 2 ^ n ∧ y + r.sum ≤ p * y
  omega
theorem lvlC_mono {p : Nat} (h : 2 ≤ p) {m n : Nat} (hmn : m ≤ n) : (lvlC p m).sum ≤ (lvlC p n).sum := by
  induction n with
  | zero => rw [show m = 0 by omega]; exact Int.le_refl _
  | succ n ih =>
    by_cases c : m = n + 1
    · rw [c]; exact Int.le_refl _
    · exact Int.le_trans (ih (by omega)) (Int.le_of_lt (lvlC_sum h n).1)
theorem lvlC_first {p : Nat} (h : 2 ≤ p) {rows : Int} {m n : Nat} (h1 : rows ≤ (lvlC p m).sum) (h2 : ∀ k < m, (lvlC p k).sum < rows) (h3 : rows ≤ (lvlC p n).sum) (h4 : ∀ k < n, (lvlC p k).sum < rows) : m = n := by
  rcases Nat.lt_trichotomy m n with c | c | c
  · have := h4 m c
    omega
  · exact c
  · have := h2 n c
    omega

/-- playing from the ends: the last ones of the reels, in their order -/
def topO {α : Type} (o : List Nat) (h : Nat → List α) : List (Nat × α) := o.filterMap fun r => ((h r).getLast?).map fun x => (r, x)
def popO {α : Type} (o : List Nat) (h : Nat → List α) : Nat → List α := fun r => if r ∈ o then (h r).dropLast else h r
def pshO {α : Type} (out : Nat) (w : α) (h : Nat → List α) : Nat → List α := fun r => if r = out then h r ++ [w] else h r
def mgT {α γ : Type} (fin : γ → List (Nat × α) → Except Int (γ × α)) (o : List Nat) (out : Nat) (s : (Nat → List α) × γ) : Except Int ((Nat → List α) × γ) :=
  match fin s.2 (topO o s.1) with
  | .error e => .error e
  | .ok (g, w) => .ok (pshO out w (popO o s.1), g)
def itT {α γ : Type} (fin : γ → List (Nat × α) → Except Int (γ × α)) (o : List Nat) (out : Nat) : Nat → (Nat → List α) × γ → Except Int ((Nat → List α) × γ)
  | 0, s => .ok s
  | j + 1, s => match itT fin o out j s with
    | .error e => .error e
    | .ok s' => mgT fin o out s'
abbrev TSt (α γ : Type) := (List Nat × Nat) × ((Nat → List α) × γ)
def tnT {α γ : Type} (fin : γ → List (Nat × α) → Except Int (γ × α)) : Nat → TSt α γ → Except Int (TSt α γ)
  | 0, s => .ok s
  | t + 1, s => match tnT fin t s with
    | .error e => .error e
    | .ok s' => match itT fin s'.1.1 s'.1.2 (s'.2.1 (s'.1.1.getLast?.getD 0)).length s'.2 with
      | .error e => .error e
      | .ok q => .ok ((s'.1.2 :: s'.1.1.dropLast, s'.1.1.getLast?.getD 0), q)
/-- the reels have so many rows as there are numbers -/
structure CfT {α : Type} (p : Nat) (N : List (List Int)) (M : List Int) (o : List Nat) (out : Nat) (h : Nat → List α) : Prop where
  nd : (out :: o).Nodup
  le : ∀ r, r ∈ out :: o → r ≤ p
  ol : o.length = p
  ls : o.map (fun r => (h r).length) = N.map List.length
  lo : (h out).length = M.length
def prsO {α : Type} (N : List (List Int)) (M : List Int) (o : List Nat) (out : Nat) (h : Nat → List α) : List (α × Int) := (List.zipWith (fun r ns => (h r).zip ns) o N).flatten ++ (h out).zip M
theorem topO_cons {α : Type} (r : Nat) (o : List Nat) (h : Nat → List α) {x : α} (hx : (h r).getLast? = some x) : topO (r :: o) h = (r, x) :: topO o h := by
  unfold topO
  rw [List.filterMap_cons, hx]
  rfl
theorem gl_snoc {α : Type} {A : List α} {x : α} (h : A.getLast? = some x) : A = A.dropLast ++ [x] := by
  obtain ⟨ys, rfl⟩ := List.getLast?_eq_some_iff.mp h
  rw [List.dropLast_concat]
theorem last_of {α : Type} {A : List α} {n : Nat} (h : A.length = n + 1) : ∃ x, A.getLast? = some x ∧ A = A.dropLast ++ [x] := by
  cases e : A.getLast? with
  | none => rw [List.getLast?_eq_none_iff.mp e] at h; simp at h
  | some x => exact ⟨x, rfl, gl_snoc e⟩
theorem zp_pop {α : Type} {h h' : Nat → List α} {k : Int} : ∀ (o : List Nat) (N : List (List Int)), (∀ r, r ∈ o → h' r = (h r).dropLast) → o.map (fun r => (h r).length) = (N.map (· ++ [k])).map List.length →
    ((List.zipWith (fun r ns => (h r).zip ns) o (N.map (· ++ [k]))).flatten.Perm ((topO o h).map (fun t => (t.2, k)) ++ (List.zipWith (fun r ns => (h' r).zip ns) o N).flatten) ∧ (topO o h).length = o.length ∧ o.map (fun r => (h' r).length) = N.map List.length ∧ (topO o h).map Prod.fst = o)
  | [], [], _, _ => ⟨.refl _, rfl, rfl, rfl⟩
  | [], _ :: _, _, hl => by simp at hl
  | _ :: _, [], _, hl => by simp at hl
  | r :: o, ns :: N, hh, hl => by
    rw [List.map_cons, List.map_cons, List.map_cons] at hl
    obtain ⟨h1, h2⟩ := List.cons.inj hl
    obtain ⟨p1, p2, p3, p4⟩ := zp_pop o N (fun r hr => hh r (List.mem_cons_of_mem _ hr)) h2
    rw [List.length_append] at h1
    obtain ⟨x, hx, hA⟩ := last_of (n := ns.length) h1
    have hd := hh r List.mem_cons_self
    have hdl : (h r).dropLast.length = ns.length := by rw [List.length_dropLast, h1]; rfl
    rw [topO_cons r o h hx, List.map_cons, List.map_cons, List.zipWith_cons_cons, List.zipWith_cons_cons, List.flatten_cons, List.flatten_cons, hd]
    refine ⟨?_, by simp [p2], by rw [List.map_cons, List.map_cons, p3, hd, hdl], by rw [List.map_cons, p4]⟩
    have hz : (h r).zip (ns ++ [k]) = (h r).dropLast.zip ns ++ [(x, k)] := by
      conv => lhs; rw [hA]
      rw [List.zip_append hdl]
      rfl
    rw [hz]
    refine (p1.append_left _).trans ?_
    rw [List.append_assoc]
    show (_ ++ ((x, k) :: (_ ++ _))).Perm ((x, k) :: (_ ++ (_ ++ _)))
    refine List.perm_middle.trans (.cons _ ?_)
    rw [List.nil_append, ← List.append_assoc, ← List.append_assoc]
    exact List.perm_append_comm.append_right _
theorem mg_top {α : Type} {p : Nat} {N : List (List Int)} {M : List Int} {o : List Nat} {out : Nat} {h : Nat → List α} {k : Int} (hC : CfT p (N.map (· ++ [k + 1])) M o out h) :
    (prsO (N.map (· ++ [k + 1])) M o out h).Perm ((topO o h).map (fun t => (t.2, k + 1)) ++ prsO N M o out (popO o h)) ∧ (topO o h).length = p ∧ (topO o h).map Prod.fst = o := by
  obtain ⟨nd, le, ol, ls, lo⟩ := hC
  obtain ⟨no, nd'⟩ := List.nodup_cons.mp nd
  have ho : popO o h out = h out := by unfold popO; rw [if_neg no]
  have hpo : ∀ r, r ∈ o → popO o h r = (h r).dropLast := fun r hr => by unfold popO; rw [if_pos hr]
  obtain ⟨p1, p2, p3, p4⟩ := zp_pop (h := h) (h' := popO o h) (k := k + 1) o N hpo ls
  refine ⟨?_, by rw [p2, ol], p4⟩
  unfold prsO
  rw [ho, ← List.append_assoc]
  exact p1.append_right _
theorem mg_prs {α : Type} {p : Nat} {N : List (List Int)} {M : List Int} {o : List Nat} {out : Nat} {h : Nat → List α} {k : Int} (w : α) (hC : CfT p (N.map (· ++ [k + 1])) M o out h) :
    (prsO (N.map (· ++ [k + 1])) M o out h).Perm ((topO o h).map (fun t => (t.2, k + 1)) ++ prsO N M o out (popO o h)) ∧ (prsO N (M ++ [k]) o out (pshO out w (popO o h))).Perm ((w, k) :: prsO N M o out (popO o h)) ∧ CfT p N (M ++ [k]) o out (pshO out w (popO o h)) ∧ (topO o h).length = p ∧ (topO o h).map Prod.fst = o := by
  obtain ⟨nd, le, ol, ls, lo⟩ := hC
  obtain ⟨no, nd'⟩ := List.nodup_cons.mp nd
  have ho : popO o h out = h out := by unfold popO; rw [if_neg no]
  have hpo : ∀ r, r ∈ o → popO o h r = (h r).dropLast := fun r hr => by unfold popO; rw [if_pos hr]
  have hps : ∀ r, r ∈ o → pshO out w (popO o h) r = popO o h r := fun r hr => by unfold pshO; rw [if_neg (fun e : r = out => no (by rw [← e]; exact hr))]
  have hpu : pshO out w (popO o h) out = h out ++ [w] := by unfold pshO; rw [if_pos rfl, ho]
  obtain ⟨p1, p2, p3, p4⟩ := zp_pop (h := h) (h' := popO o h) (k := k + 1) o N hpo ls
  have hzw : ∀ (o' : List Nat) (N' : List (List Int)), (∀ r, r ∈ o' → r ∈ o) → List.zipWith (fun r ns => (pshO out w (popO o h) r).zip ns) o' N' = List.zipWith (fun r ns => (popO o h r).zip ns) o' N' := fun o' => by
    induction o' with
    | nil => intro N' _; rfl
    | cons r o' ih =>
      intro N' hs
      cases N' with
      | nil => rfl
      | cons ns N' =>
        rw [List.zipWith_cons_cons, List.zipWith_cons_cons, ih N' (fun r hr => hs r (List.mem_cons_of_mem _ hr)), hps r (hs r List.mem_cons_self)]
  refine ⟨?_, ?_, ⟨nd, le, ol, ?_, ?_⟩, by rw [p2, ol], p4⟩
  · unfold prsO
    rw [ho, ← List.append_assoc]
    exact p1.append_right _
  · unfold prsO
    rw [hzw o N (fun _ h => h), hpu, List.zip_append lo, ho, ← List.append_assoc]
    exact List.perm_append_comm
  · rw [← p3]
    exact List.map_congr_left fun r hr => by rw [hps r hr]
  · rw [hpu, List.length_append, List.length_append, lo]
    rfl
/-- the numbers within a turn -/
def nmT (r0 : List Int) (rs : List (List Int)) (j : Nat) : List (List Int) := rs.map (· ++ (r0.reverse.map (· + 1)).take (r0.length - j)) ++ [(r0.reverse.map (· + 1)).take (r0.length - j)]
theorem nmT_zero (r0 : List Int) (rs : List (List Int)) : nmT r0 rs 0 = rs.map (fun r => r ++ r0.reverse.map (· + 1)) ++ [r0.reverse.map (· + 1)] := by
  unfold nmT
  rw [Nat.sub_zero, List.take_of_length_le (by rw [List.length_map, List.length_reverse]; exact Nat.le_refl _)]
theorem nmT_end (r0 : List Int) (rs : List (List Int)) : nmT r0 rs r0.length = rs ++ [[]] := by
  unfold nmT
  rw [Nat.sub_self, List.take_zero]
  congr 1
  conv => rhs; rw [← List.map_id rs]
  exact List.map_congr_left fun r _ => List.append_nil r
theorem nmT_step {r0 : List Int} (rs : List (List Int)) {j : Nat} {k : Int} (hj : r0[j]? = some k) : nmT r0 rs j = (nmT r0 rs (j + 1)).map (· ++ [k + 1]) := by
  have hl := (List.getElem?_eq_some_iff.mp hj).1
  have e : (r0.reverse.map (· + 1)).take (r0.length - j) = (r0.reverse.map (· + 1)).take (r0.length - (j + 1)) ++ [k + 1] := by
    rw [show r0.length - j = (r0.length - (j + 1)) + 1 by omega, List.take_add_one, List.getElem?_map, List.getElem?_reverse (by omega), show r0.length - 1 - (r0.length - (j + 1)) = j by omega, hj]
    rfl
  unfold nmT
  rw [e, List.map_append, List.map_map, List.map_cons, List.map_nil]
  congr 1
  exact List.map_congr_left fun r _ => (List.append_assoc _ _ _).symm
theorem trnN_suc {p n : Nat} {r0 : List Int} {rs : List (List Int)} (h : trnN p n = r0 :: rs) : trnN p (n + 1) = nmT r0 rs 0 := by
  rw [nmT_zero]
  show ((trnN p n).drop 1).map (fun r => r ++ ((trnN p n).headD []).reverse.map (· + 1)) ++ [((trnN p n).headD []).reverse.map (· + 1)] = _
  rw [h]
  rfl
theorem trnN_pos {p : Nat} : ∀ n, ∀ r, r ∈ trnN p n → ∀ k, k ∈ r → (0 : Int) ≤ k
  | 0, r, hr, k, hk => by
    rcases List.mem_cons.mp hr with rfl | hr
    · rw [List.mem_singleton.mp hk]; exact Int.le_refl _
    · rw [(List.mem_replicate.mp hr).2] at hk
      exact nomatch hk
  | n + 1, r, hr, k, hk => by
    have ih := trnN_pos (p := p) n
    have hd : ∀ x, x ∈ (trnN p n).headD [] → 0 ≤ x := fun x hx => by
      cases e : trnN p n with
      | nil => rw [e] at hx; exact nomatch hx
      | cons r0 rs => rw [e] at hx; exact ih r0 (by rw [e]; exact List.mem_cons_self) x hx
    have hf : ∀ x, x ∈ ((trnN p n).headD []).reverse.map (· + 1) → (0 : Int) ≤ x := fun x hx => by
      obtain ⟨y, hy, rfl⟩ := List.mem_map.mp hx
      have := hd y (List.mem_reverse.mp hy)
      omega
    rcases List.mem_append.mp hr with h | h
    · obtain ⟨s, hs, rfl⟩ := List.mem_map.mp h
      rcases List.mem_append.mp hk with h2 | h2
      · exact ih s (List.mem_of_mem_drop hs) k h2
      · exact hf k h2
    · rw [List.mem_singleton.mp h] at hk
      exact hf k hk
/-- within a turn -/
theorem itT_inv {α γ : Type} {p : Nat} {fin : γ → List (Nat × α) → Except Int (γ × α)} {Inv : γ → List (α × Int) → Prop} (hperm : ∀ g l l', l.Perm l' → Inv g l → Inv g l')
    (hs : ∀ g T k rest, 0 ≤ k → T.length = p → (∀ t, t ∈ T → t.1 ≤ p) → Inv g (T.map (fun t => (t.2, k + 1)) ++ rest) → ∀ g' w, fin g T = .ok (g', w) → Inv g' ((w, k) :: rest))
    {r0 : List Int} {rs : List (List Int)} (h0 : ∀ k, k ∈ r0 → (0 : Int) ≤ k) {o : List Nat} {out : Nat} {h : Nat → List α} {g : γ} (hC : CfT p (nmT r0 rs 0) [] o out h) (hI : Inv g (prsO (nmT r0 rs 0) [] o out h)) :
    ∀ j, j ≤ r0.length → ∀ h' g', itT fin o out j (h, g) = .ok (h', g') → CfT p (nmT r0 rs j) (r0.take j) o out h' ∧ Inv g' (prsO (nmT r0 rs j) (r0.take j) o out h')
  | 0, _, h', g', e => by
    cases e
    exact ⟨hC, hI⟩
  | j + 1, hj, h', g', e => by
    obtain ⟨k, hk⟩ : ∃ k, r0[j]? = some k := ⟨_, List.getElem?_eq_getElem (by omega)⟩
    unfold itT at e
    cases e1 : itT fin o out j (h, g) with
    | error x => rw [e1] at e; exact nomatch e
    | ok s =>
      obtain ⟨h1, g1⟩ := s
      rw [e1] at e
      obtain ⟨c1, i1⟩ := itT_inv hperm hs h0 hC hI j (by omega) h1 g1 e1
      rw [nmT_step rs hk] at c1 i1
      have e2 : mgT fin o out (h1, g1) = .ok (h', g') := e
      unfold mgT at e2
      cases e3 : fin g1 (topO o h1) with
      | error x =>
        have e3' : fin (h1, g1).2 (topO o (h1, g1).1) = .error x := e3
        rw [e3'] at e2
        exact nomatch e2
      | ok q =>
        obtain ⟨g2, w⟩ := q
        have e3' : fin (h1, g1).2 (topO o (h1, g1).1) = .ok (g2, w) := e3
        rw [e3'] at e2
        cases e2
        obtain ⟨p1, p2, p3, p4, p5⟩ := mg_prs w c1
        have et : r0.take (j + 1) = r0.take j ++ [k] := by rw [List.take_add_one, hk]; rfl
        rw [et]
        refine ⟨p3, hperm _ _ _ p2.symm (hs g1 (topO o h1) k _ (h0 k (List.mem_of_getElem? hk)) p4 (fun t ht => c1.le t.1 (List.mem_cons_of_mem _ (by rw [← p5]; exact List.mem_map_of_mem ht))) (hperm _ _ _ p1 i1) _ w e3)⟩
theorem itT_ok {α γ : Type} {p : Nat} {fin : γ → List (Nat × α) → Except Int (γ × α)} {Inv : γ → List (α × Int) → Prop} (hperm : ∀ g l l', l.Perm l' → Inv g l → Inv g l')
    (hs : ∀ g T k rest, 0 ≤ k → T.length = p → (∀ t, t ∈ T → t.1 ≤ p) → Inv g (T.map (fun t => (t.2, k + 1)) ++ rest) → ∀ g' w, fin g T = .ok (g', w) → Inv g' ((w, k) :: rest))
    (hk : ∀ g T k rest, 0 ≤ k → T.length = p → (∀ t, t ∈ T → t.1 ≤ p) → Inv g (T.map (fun t => (t.2, k + 1)) ++ rest) → ∃ q, fin g T = .ok q)
    {r0 : List Int} {rs : List (List Int)} (h0 : ∀ k, k ∈ r0 → (0 : Int) ≤ k) {o : List Nat} {out : Nat} {h : Nat → List α} {g : γ} (hC : CfT p (nmT r0 rs 0) [] o out h) (hI : Inv g (prsO (nmT r0 rs 0) [] o out h)) :
    ∀ j, j ≤ r0.length → ∃ s, itT fin o out j (h, g) = .ok s
  | 0, _ => ⟨_, rfl⟩
  | j + 1, hj => by
    obtain ⟨k, hkk⟩ : ∃ k, r0[j]? = some k := ⟨_, List.getElem?_eq_getElem (by omega)⟩
    obtain ⟨⟨h1, g1⟩, e1⟩ := itT_ok hperm hs hk h0 hC hI j (by omega)
    obtain ⟨c1, i1⟩ := itT_inv hperm hs h0 hC hI j (by omega) h1 g1 e1
    rw [nmT_step rs hkk] at c1 i1
    obtain ⟨p1, p4, p5⟩ := mg_top c1
    obtain ⟨⟨g2, w⟩, e3⟩ := hk g1 (topO o h1) k _ (h0 k (List.mem_of_getElem? hkk)) p4 (fun t ht => c1.le t.1 (List.mem_cons_of_mem _ (by rw [← p5]; exact List.mem_map_of_mem ht))) (hperm _ _ _ p1 i1)
    unfold itT
    rw [e1]
    show ∃ s, mgT fin o out (h1, g1) = .ok s
    unfold mgT
    have e3' : fin (h1, g1).2 (topO o (h1, g1).1) = .ok (g2, w) := e3
    rw [e3']
    exact ⟨_, rfl⟩
theorem turn_len {α : Type} {p : Nat} {r0 : List Int} {rs : List (List Int)} {M : List Int} {o : List Nat} {out : Nat} {h : Nat → List α} (hC : CfT p (nmT r0 rs 0) M o out h) : ∃ o' l, o = o' ++ [l] ∧ o.getLast?.getD 0 = l ∧ (h l).length = r0.length := by
  have hne : o ≠ [] := fun e => by
    have := hC.ls
    rw [e] at this
    simp [nmT] at this
  refine ⟨o.dropLast, o.getLast hne, (List.dropLast_concat_getLast hne).symm, by rw [List.getLast?_eq_some_getLast hne]; rfl, ?_⟩
  have h1 := congrArg List.getLast? hC.ls
  rw [← List.dropLast_concat_getLast hne, nmT_zero, List.map_append, List.map_append, List.map_cons, List.map_cons, List.map_nil, List.map_nil, List.getLast?_concat, List.getLast?_concat, List.length_map, List.length_reverse] at h1
  exact Option.some.inj h1
theorem turn_cf {α : Type} {p : Nat} {r0 : List Int} {rs : List (List Int)} {o : List Nat} {l out : Nat} {h : Nat → List α} (hC : CfT p (rs ++ [[]]) r0 (o ++ [l]) out h) : CfT p (r0 :: rs) [] (out :: o) l h ∧ (prsO (rs ++ [[]]) r0 (o ++ [l]) out h).Perm (prsO (r0 :: rs) [] (out :: o) l h) := by
  obtain ⟨nd, le, ol, ls, lo⟩ := hC
  have hp : (out :: (o ++ [l])).Perm (l :: out :: o) := by
    have : (out :: (o ++ [l])) = (out :: o) ++ [l] := rfl
    rw [this]
    exact List.perm_append_comm
  rw [List.map_append, List.map_append] at ls
  have hl2 : (o.map fun r => (h r).length).length = (rs.map List.length).length := by
    have := congrArg List.length ls
    simp only [List.length_append, List.length_map, List.map_cons, List.map_nil, List.length_cons, List.length_nil] at this ⊢
    omega
  obtain ⟨l1, l2⟩ := List.append_inj ls hl2
  have l3 : (h l).length = 0 := (List.cons.inj l2).1
  have e3 := List.eq_nil_of_length_eq_zero l3
  refine ⟨⟨hp.nodup_iff.mp nd, fun r hr => le r (hp.mem_iff.mpr hr), ?_, ?_, l3⟩, ?_⟩
  · rw [List.length_append] at ol
    rw [List.length_cons]
    exact ol
  · rw [List.map_cons, List.map_cons, lo, l1]
  · unfold prsO
    rw [List.zipWith_append (by rw [List.length_map, List.length_map] at hl2; exact hl2), List.flatten_append, e3, List.zip_nil_left, List.append_nil, List.zipWith_cons_cons, List.flatten_cons]
    show ((_ ++ ([h l |>.zip []] : List (List (α × Int))).flatten) ++ _).Perm _
    rw [e3]
    show ((_ ++ []) ++ _).Perm _
    rw [List.append_nil]
    exact List.perm_append_comm
theorem tnT_inv {α γ : Type} {p n : Nat} {fin : γ → List (Nat × α) → Except Int (γ × α)} {Inv : γ → List (α × Int) → Prop} (hp1 : 1 ≤ p) (hperm : ∀ g l l', l.Perm l' → Inv g l → Inv g l')
    (hs : ∀ g T k rest, 0 ≤ k → T.length = p → (∀ t, t ∈ T → t.1 ≤ p) → Inv g (T.map (fun t => (t.2, k + 1)) ++ rest) → ∀ g' w, fin g T = .ok (g', w) → Inv g' ((w, k) :: rest))
    {o : List Nat} {out : Nat} {h : Nat → List α} {g : γ} (hC : CfT p (trnN p n) [] o out h) (hI : Inv g (prsO (trnN p n) [] o out h)) :
    ∀ t, t ≤ n → ∀ s, tnT fin t ((o, out), (h, g)) = .ok s → CfT p (trnN p (n - t)) [] s.1.1 s.1.2 s.2.1 ∧ Inv s.2.2 (prsO (trnN p (n - t)) [] s.1.1 s.1.2 s.2.1)
  | 0, _, s, e => by
    cases e
    exact ⟨hC, hI⟩
  | t + 1, ht, s, e => by
    unfold tnT at e
    cases e1 : tnT fin t ((o, out), (h, g)) with
    | error x => rw [e1] at e; exact nomatch e
    | ok s1 =>
      obtain ⟨⟨o1, out1⟩, ⟨h1, g1⟩⟩ := s1
      rw [e1] at e
      obtain ⟨c1, i1⟩ := tnT_inv hp1 hperm hs hC hI t (by omega) _ e1
      obtain ⟨r0, rs, hrr⟩ : ∃ r0 rs, trnN p (n - (t + 1)) = r0 :: rs := by
        cases e : trnN p (n - (t + 1)) with
        | nil => have := trnN_len hp1 (n - (t + 1)); rw [e] at this; simp at this; omega
        | cons r rs => exact ⟨r, rs, rfl⟩
      have h0 : ∀ k, k ∈ r0 → (0 : Int) ≤ k := fun k hk => trnN_pos (p := p) (n - (t + 1)) r0 (by rw [hrr]; exact List.mem_cons_self) k hk
      have hnn : n - t = (n - (t + 1)) + 1 := by omega
      rw [hnn, trnN_suc hrr] at c1 i1
      dsimp only at c1 i1 e
      obtain ⟨o', l, rfl, hgl, hll⟩ := turn_len c1
      rw [hgl, hll] at e
      cases e2 : itT fin (o' ++ [l]) out1 r0.length (h1, g1) with
      | error x => rw [e2] at e; exact nomatch e
      | ok q =>
        obtain ⟨h2, g2⟩ := q
        rw [e2] at e
        cases e
        obtain ⟨c2, i2⟩ := itT_inv hperm hs h0 c1 i1 r0.length (Nat.le_refl _) h2 g2 e2
        rw [nmT_end, List.take_length] at c2 i2
        obtain ⟨c3, p3⟩ := turn_cf c2
        rw [hrr]
        show CfT p (r0 :: rs) [] (out1 :: (o' ++ [l]).dropLast) l h2 ∧ Inv g2 (prsO (r0 :: rs) [] (out1 :: (o' ++ [l]).dropLast) l h2)
        rw [List.dropLast_concat]
        exact ⟨c3, hperm _ _ _ p3 i2⟩
theorem tnT_ok {α γ : Type} {p n : Nat} {fin : γ → List (Nat × α) → Except Int (γ × α)} {Inv : γ → List (α × Int) → Prop} (hp1 : 1 ≤ p) (hperm : ∀ g l l', l.Perm l' → Inv g l → Inv g l')
    (hs : ∀ g T k rest, 0 ≤ k → T.length = p → (∀ t, t ∈ T → t.1 ≤ p) → Inv g (T.map (fun t => (t.2, k + 1)) ++ rest) → ∀ g' w, fin g T = .ok (g', w) → Inv g' ((w, k) :: rest))
    (hk : ∀ g T k rest, 0 ≤ k → T.length = p → (∀ t, t ∈ T → t.1 ≤ p) → Inv g (T.map (fun t => (t.2, k + 1)) ++ rest) → ∃ q, fin g T = .ok q)
    {o : List Nat} {out : Nat} {h : Nat → List α} {g : γ} (hC : CfT p (trnN p n) [] o out h) (hI : Inv g (prsO (trnN p n) [] o out h)) :
    ∀ t, t ≤ n → ∃ s, tnT fin t ((o, out), (h, g)) = .ok s
  | 0, _ => ⟨_, rfl⟩
  | t + 1, ht => by
    obtain ⟨⟨⟨o1, out1⟩, ⟨h1, g1⟩⟩, e1⟩ := tnT_ok hp1 hperm hs hk hC hI t (by omega)
    obtain ⟨c1, i1⟩ := tnT_inv hp1 hperm hs hC hI t (by omega) _ e1
    obtain ⟨r0, rs, hrr⟩ : ∃ r0 rs, trnN p (n - (t + 1)) = r0 :: rs := by
      cases e : trnN p (n - (t + 1)) with
      | nil => have := trnN_len hp1 (n - (t + 1)); rw [e] at this; simp at this; omega
      | cons r rs => exact ⟨r, rs, rfl⟩
    have h0 : ∀ k, k ∈ r0 → (0 : Int) ≤ k := fun k hk => trnN_pos (p := p) (n - (t + 1)) r0 (by rw [hrr]; exact List.mem_cons_self) k hk
    have hnn : n - t = (n - (t + 1)) + 1 := by omega
    rw [hnn, trnN_suc hrr] at c1 i1
    dsimp only at c1 i1
    obtain ⟨o', l, rfl, hgl, hll⟩ := turn_len c1
    obtain ⟨s2, e2⟩ := itT_ok hperm hs hk h0 c1 i1 r0.length (Nat.le_refl _)
    unfold tnT
    rw [e1]
    dsimp only
    rw [hgl, hll, e2]
    exact ⟨_, rfl⟩
/-- which numbers are even -/
def evB (r : List Int) : List Bool := r.map fun k => decide (k % 2 = 0)
theorem trn_split {p : Nat} (h : 1 ≤ p) (n : Nat) : ∃ r0 rs, trnN p n = r0 :: rs := by
  cases e : trnN p n with
  | nil => have := trnN_len h n; rw [e] at this; simp at this; omega
  | cons r rs => exact ⟨r, rs, rfl⟩
theorem tnT_suc {α γ : Type} {fin : γ → List (Nat × α) → Except Int (γ × α)} {t : Nat} {s : TSt α γ} {o' : List Nat} {l out : Nat} {h : Nat → List α} {g : γ} {q : (Nat → List α) × γ} (e : tnT fin t s = .ok ((o' ++ [l], out), (h, g))) (e2 : itT fin (o' ++ [l]) out (h l).length (h, g) = .ok q) : tnT fin (t + 1) s = .ok ((out :: o', l), q) := by
  unfold tnT
  rw [e]
  dsimp only
  rw [List.getLast?_concat, Option.getD_some, e2]
  dsimp only
  rw [List.dropLast_concat]
theorem itT_suc {α γ : Type} {fin : γ → List (Nat × α) → Except Int (γ × α)} {o : List Nat} {out j : Nat} {s : (Nat → List α) × γ} {h : Nat → List α} {g g' : γ} {w : α} (e : itT fin o out j s = .ok (h, g)) (e2 : fin g (topO o h) = .ok (g', w)) : itT fin o out (j + 1) s = .ok (pshO out w (popO o h), g') := by
  unfold itT
  rw [e]
  show mgT fin o out (h, g) = _
  unfold mgT
  have e3 : fin (h, g).2 (topO o (h, g).1) = .ok (g', w) := e2
  rw [e3]
theorem tl_len {r0 : List Int} {rs : List (List Int)} {j : Nat} {x : List Int} (hx : x ∈ nmT r0 rs j) : r0.length - j ≤ x.length := by
  unfold nmT at hx
  have e : ((r0.reverse.map (· + 1)).take (r0.length - j)).length = r0.length - j := by
    rw [List.length_take, List.length_map, List.length_reverse]
    omega
  rcases List.mem_append.mp hx with h | h
  · obtain ⟨r, _, rfl⟩ := List.mem_map.mp h
    rw [List.length_append, e]
    omega
  · rw [List.mem_singleton.mp h, e]
    exact Nat.le_refl _
theorem cf_last {α : Type} {p j : Nat} {r0 : List Int} {rs : List (List Int)} {M : List Int} {o' : List Nat} {l out : Nat} {h : Nat → List α} (hC : CfT p (nmT r0 rs j) M (o' ++ [l]) out h) : (h l).length = r0.length - j := by
  have h1 := congrArg List.getLast? hC.ls
  unfold nmT at h1
  rw [List.map_append, List.map_append, List.map_cons, List.map_cons, List.map_nil, List.map_nil, List.getLast?_concat, List.getLast?_concat] at h1
  have h2 := Option.some.inj h1
  rw [h2, List.length_take, List.length_map, List.length_reverse]
  omega
theorem cf_ge {α : Type} {p j : Nat} {r0 : List Int} {rs : List (List Int)} {M : List Int} {o : List Nat} {out : Nat} {h : Nat → List α} (hC : CfT p (nmT r0 rs j) M o out h) {r : Nat} (hr : r ∈ o) : r0.length - j ≤ (h r).length := by
  have h1 : (h r).length ∈ (nmT r0 rs j).map List.length := by
    rw [← hC.ls]
    exact List.mem_map_of_mem (f := fun r => (h r).length) hr
  obtain ⟨x, hx, e⟩ := List.mem_map.mp h1
  rw [← e]
  exact tl_len hx
theorem nmT_sum (r0 : List Int) (rs : List (List Int)) (j : Nat) {x : List Int} (hx : x ∈ nmT r0 rs j) : ∃ y, y ∈ nmT r0 rs 0 ∧ x.length ≤ y.length := by
  unfold nmT at hx
  rcases List.mem_append.mp hx with h | h
  · obtain ⟨r, hr, rfl⟩ := List.mem_map.mp h
    refine ⟨r ++ (r0.reverse.map (· + 1)).take (r0.length - 0), List.mem_append_left _ (List.mem_map_of_mem (f := (· ++ (r0.reverse.map (· + 1)).take (r0.length - 0))) hr), ?_⟩
    simp only [List.length_append, List.length_take, List.length_map, List.length_reverse]
    omega
  · refine ⟨_, List.mem_append_right _ List.mem_cons_self, ?_⟩
    rw [List.mem_singleton.mp h]
    simp only [List.length_take, List.length_map, List.length_reverse]
    omega
/-- no reel has more rows than a level has places -/
theorem cf_le {α : Type} {p n : Nat} (hp : 1 ≤ p) {M : List Int} {o : List Nat} {out : Nat} {h : Nat → List α} (hC : CfT p (trnN p n) M o out h) {r : Nat} (hr : r ∈ o) : ((h r).length : Int) ≤ (lvlC p n).sum := by
  have h1 : (h r).length ∈ (trnN p n).map List.length := by
    rw [← hC.ls]
    exact List.mem_map_of_mem (f := fun r => (h r).length) hr
  obtain ⟨x, hx, e⟩ := List.mem_map.mp h1
  rw [← e]
  exact trnN_le hp hx
theorem cf_len {α : Type} {p n j : Nat} (hp : 1 ≤ p) {r0 : List Int} {rs : List (List Int)} (hrr : trnN p n = r0 :: rs) {M : List Int} {o : List Nat} {out : Nat} {h : Nat → List α} (hC : CfT p (nmT r0 rs j) M o out h) {r : Nat} (hr : r ∈ o) : ((h r).length : Int) ≤ (lvlC p (n + 1)).sum := by
  have h1 : (h r).length ∈ (nmT r0 rs j).map List.length := by
    rw [← hC.ls]
    exact List.mem_map_of_mem (f := fun r => (h r).length) hr
  obtain ⟨x, hx, e⟩ := List.mem_map.mp h1
  obtain ⟨y, hy, hxy⟩ := nmT_sum r0 rs j hx
  rw [← trnN_suc hrr] at hy
  have := trnN_le hp hy
  omega
theorem top_le {α : Type} {o : List Nat} {h : Nat → List α} : (topO o h).length ≤ o.length := by
  unfold topO
  exact List.length_filterMap_le _ _
theorem tnT_pre {α γ : Type} {fin : γ → List (Nat × α) → Except Int (γ × α)} {s q : TSt α γ} : ∀ {n m : Nat}, tnT fin n s = .ok q → m ≤ n → ∃ q', tnT fin m s = .ok q'
  | 0, m, h, hm => ⟨q, by rw [Nat.le_zero.mp hm]; exact h⟩
  | n + 1, m, h, hm => by
    by_cases c : m = n + 1
    · subst c; exact ⟨q, h⟩
    · unfold tnT at h
      cases e : tnT fin n s with
      | error x => rw [e] at h; exact nomatch h
      | ok q1 => exact tnT_pre e (by omega)
theorem itT_pre {α γ : Type} {fin : γ → List (Nat × α) → Except Int (γ × α)} {o : List Nat} {out : Nat} {s q : (Nat → List α) × γ} : ∀ {n m : Nat}, itT fin o out n s = .ok q → m ≤ n → ∃ q', itT fin o out m s = .ok q'
  | 0, m, h, hm => ⟨q, by rw [Nat.le_zero.mp hm]; exact h⟩
  | n + 1, m, h, hm => by
    by_cases c : m = n + 1
    · subst c; exact ⟨q, h⟩
    · unfold itT at h
      cases e : itT fin o out n s with
      | error x => rw [e] at h; exact nomatch h
      | ok q1 => exact itT_pre e (by omega)
theorem tnT_at {α γ : Type} {fin : γ → List (Nat × α) → Except Int (γ × α)} {t : Nat} {s q : TSt α γ} {o' : List Nat} {l out : Nat} {h : Nat → List α} {g : γ} (e : tnT fin t s = .ok ((o' ++ [l], out), (h, g))) (e2 : tnT fin (t + 1) s = .ok q) : ∃ u, itT fin (o' ++ [l]) out (h l).length (h, g) = .ok u := by
  unfold tnT at e2
  rw [e] at e2
  dsimp only at e2
  rw [List.getLast?_concat, Option.getD_some] at e2
  cases e3 : itT fin (o' ++ [l]) out (h l).length (h, g) with
  | error x => rw [e3] at e2; exact nomatch e2
  | ok u => exact ⟨u, rfl⟩
theorem itT_at {α γ : Type} {fin : γ → List (Nat × α) → Except Int (γ × α)} {o : List Nat} {out j : Nat} {s q : (Nat → List α) × γ} {h : Nat → List α} {g : γ} (e : itT fin o out j s = .ok (h, g)) (e2 : itT fin o out (j + 1) s = .ok q) : ∃ g' w, fin g (topO o h) = .ok (g', w) := by
  unfold itT at e2
  rw [e] at e2
  have e3 : mgT fin o out (h, g) = .ok q := e2
  unfold mgT at e3
  cases e4 : fin (h, g).2 (topO o (h, g).1) with
  | error x => rw [e4] at e3; exact nomatch e3
  | ok u => exact ⟨u.1, u.2, e4.symm ▸ rfl⟩
theorem itT_err {α γ : Type} {fin : γ → List (Nat × α) → Except Int (γ × α)} {o : List Nat} {out j : Nat} {s : (Nat → List α) × γ} {h : Nat → List α} {g : γ} {e : Int} (e1 : itT fin o out j s = .ok (h, g)) (e2 : fin g (topO o h) = .error e) : ∀ m, j < m → itT fin o out m s = .error e
  | 0, hm => absurd hm (Nat.not_lt_zero _)
  | m + 1, hm => by
    by_cases c : j = m
    · subst c
      unfold itT
      rw [e1]
      show mgT fin o out (h, g) = _
      unfold mgT
      have e3 : fin (h, g).2 (topO o (h, g).1) = .error e := e2
      rw [e3]
    · have := itT_err e1 e2 m (by omega)
      unfold itT
      rw [this]
theorem tnT_err {α γ : Type} {fin : γ → List (Nat × α) → Except Int (γ × α)} {t : Nat} {s : TSt α γ} {o' : List Nat} {l out : Nat} {h : Nat → List α} {g : γ} {e : Int} (e1 : tnT fin t s = .ok ((o' ++ [l], out), (h, g))) (e2 : itT fin (o' ++ [l]) out (h l).length (h, g) = .error e) : ∀ n, t < n → tnT fin n s = .error e
  | 0, hm => absurd hm (Nat.not_lt_zero _)
  | n + 1, hm => by
    by_cases c : t = n
    · subst c
      unfold tnT
      rw [e1]
      dsimp only
      rw [List.getLast?_concat, Option.getD_some, e2]
    · have := tnT_err e1 e2 n (by omega)
      unfold tnT
      rw [this]

theorem top_sn {α : Type} {o : List Nat} {h : Nat → List α} {i r : Nat} {x : α} (hr : o[i]? = some r) (hx : (h r).getLast? = some x) : topO (o.take (i + 1)) h = topO (o.take i) h ++ [(r, x)] := by
  unfold topO
  rw [List.take_add_one, hr, List.filterMap_append]
  show _ ++ List.filterMap _ [r] = _
  rw [List.filterMap_cons, hx]
  rfl
theorem pop_at {α : Type} {o : List Nat} (h : Nat → List α) {i r : Nat} (nd : o.Nodup) (hr : o[i]? = some r) : popO (o.take i) h r = h r := by
  unfold popO
  rw [if_neg]
  intro hm
  obtain ⟨j, hj⟩ := List.getElem?_of_mem hm
  rw [List.getElem?_take] at hj
  by_cases c : j < i
  · rw [if_pos c] at hj
    have h1 := List.getElem?_eq_some_iff.mp hj
    have h2 := List.getElem?_eq_some_iff.mp hr
    have := (List.getElem_inj (h₀ := h1.1) (h₁ := h2.1) nd).mp (h1.2.trans h2.2.symm)
    omega
  · rw [if_neg c] at hj
    cases hj
theorem pop_ne {α : Type} {o : List Nat} (h : Nat → List α) {i r q : Nat} (hr : o[i]? = some r) (hq : q ≠ r) : popO (o.take (i + 1)) h q = popO (o.take i) h q := by
  have e : o.take (i + 1) = o.take i ++ [r] := by rw [List.take_add_one, hr]; rfl
  unfold popO
  rw [e]
  have : (q ∈ o.take i ++ [r]) = (q ∈ o.take i) := by
    apply propext
    rw [List.mem_append, List.mem_singleton]
    exact ⟨fun h => h.elim id (fun e => absurd e hq), .inl⟩
  simp only [this]
theorem pop_eq {α : Type} {o : List Nat} (h : Nat → List α) {i r : Nat} (hr : o[i]? = some r) : popO (o.take (i + 1)) h r = (h r).dropLast := by
  have e : o.take (i + 1) = o.take i ++ [r] := by rw [List.take_add_one, hr]; rfl
  unfold popO
  rw [e, if_pos (List.mem_append_right _ List.mem_cons_self)]
theorem psh_ne {α : Type} (h : Nat → List α) {out q : Nat} (w : α) (hq : q ≠ out) : pshO out w h q = h q := by
  unfold pshO
  rw [if_neg hq]
theorem psh_eq {α : Type} (h : Nat → List α) (out : Nat) (w : α) : pshO out w h out = h out ++ [w] := by
  unfold pshO
  rw [if_pos rfl]
theorem pop_nn {α : Type} {o : List Nat} (h : Nat → List α) {q : Nat} (hq : q ∉ o) : popO o h q = h q := by
  unfold popO
  rw [if_neg hq]
/-- the reels as they lie -/
def RsT {α : Type} (D : Hp) (f : α → PyData) (p : Nat) (wss : List (List V)) (h : Nat → List α) : Prop := wss.length = p + 1 ∧ ∀ i ws, wss[i]? = some ws → RpAll D ws ((h i).map f)
theorem RsT.up {α : Type} {D D' : Hp} {f : α → PyData} {p : Nat} {wss : List (List V)} {h : Nat → List α} (s : RsT D f p wss h) (e : Sm D D') : RsT D' f p wss h := ⟨s.1, fun i ws hi => (s.2 i ws hi).up e.e⟩
theorem RsT.get {α : Type} {D : Hp} {f : α → PyData} {p : Nat} {wss : List (List V)} {h : Nat → List α} (s : RsT D f p wss h) {r : Nat} (hr : r ≤ p) : ∃ ws, wss[r]? = some ws ∧ RpAll D ws ((h r).map f) := by
  have hl : r < wss.length := by rw [s.1]; omega
  exact ⟨_, List.getElem?_eq_getElem hl, s.2 _ _ (List.getElem?_eq_getElem hl)⟩
theorem RsT.put {α : Type} {D : Hp} {f : α → PyData} {p : Nat} {wss : List (List V)} {h h' : Nat → List α} (s : RsT D f p wss h) {r : Nat} {ws : List V} (hw : RpAll D ws ((h' r).map f)) (hn : ∀ q, q ≠ r → h' q = h q) : RsT D f p (wss.set r ws) h' := by
  refine ⟨by rw [List.length_set]; exact s.1, fun i us hi => ?_⟩
  rw [List.getElem?_set] at hi
  by_cases c : r = i
  · subst c
    rw [if_pos rfl] at hi
    split at hi
    · cases hi
      exact hw
    · cases hi
  · rw [if_neg c] at hi
    rw [hn i (fun e => c e.symm)]
    exact s.2 i us hi
theorem ra_snocI {α : Type} {D : Hp} {f : α → PyData} {x : α} : ∀ {B : List α} {ws : List V}, RpAll D ws ((B ++ [x]).map f) → ∃ us v, ws = us ++ [v] ∧ RpAll D us (B.map f) ∧ Rp D v (f x)
  | [], _, .cons a .nil => ⟨[], _, rfl, .nil, a⟩
  | _ :: _, _, .cons a t => by
    obtain ⟨us, v, rfl, h1, h2⟩ := ra_snocI t
    exact ⟨_ :: us, v, rfl, .cons a h1, h2⟩
theorem ra_last {α : Type} {D : Hp} {f : α → PyData} {ws : List V} {A : List α} {x : α} (h : RpAll D ws (A.map f)) (hx : A.getLast? = some x) : ∃ us v, ws = us ++ [v] ∧ RpAll D us (A.dropLast.map f) ∧ Rp D v (f x) := by
  have hA := gl_snoc hx
  rw [hA] at h
  exact ra_snocI h

/-- how often each place is read: the places written -/
def bmp (rd : List Int) (w : List Int) : List Int := w.foldl (fun rd q => rd.set q.toNat (rd.getD q.toNat 0 + 1)) rd
def finB (rd : List Int) (T : List (Nat × List Int)) : Except Int (List Int × List Int) := .ok (bmp rd (T.map (fun t => t.2)).flatten, (T.map (fun t => t.2)).flatten)
def wtB (q : Int) (l : List (List Int × Int)) : Int := (l.map fun z => (z.1.count q : Int) * z.2).sum
def lnB (l : List (List Int × Int)) : Nat := (l.map fun z => z.1.length).sum
structure InvB (R : Nat) (F : List Int) (rd : List Int) (l : List (List Int × Int)) : Prop where
  ln : rd.length = R
  rg : ∀ z, z ∈ l → ∀ q, q ∈ z.1 → 0 ≤ q ∧ q < (R : Int)
  sz : lnB l = R
  eq : ∀ q : Nat, q < R → rd.getD q 0 + wtB (q : Int) l = F.getD q 0
theorem bmp_len : ∀ (w rd : List Int), (bmp rd w).length = rd.length
  | [], _ => rfl
  | q :: w, rd => by
    show (bmp (rd.set q.toNat _) w).length = _
    rw [bmp_len w, List.length_set]
theorem bmp_get {R : Nat} : ∀ (w rd : List Int), rd.length = R → (∀ q, q ∈ w → 0 ≤ q ∧ q < (R : Int)) → ∀ i : Nat, i < R → (bmp rd w).getD i 0 = rd.getD i 0 + (w.count (i : Int) : Int)
  | [], rd, _, _, i, _ => by simp [bmp]
  | q :: w, rd, hl, hw, i, hi => by
    show (bmp (rd.set q.toNat (rd.getD q.toNat 0 + 1)) w).getD i 0 = _
    rw [bmp_get w _ (by rw [List.length_set]; exact hl) (fun x hx => hw x (List.mem_cons_of_mem _ hx)) i hi, List.getD_eq_getElem?_getD, List.getElem?_set, List.count_cons]
    obtain ⟨h0, h1⟩ := hw q List.mem_cons_self
    by_cases c : q.toNat = i
    · have hq : q = (i : Int) := by omega
      rw [if_pos c, if_pos (by omega), c, Option.getD_some, hq]
      simp only [beq_self_eq_true, if_true]
      omega
    · have hq : ¬ (q = (i : Int)) := by omega
      rw [if_neg c, ← List.getD_eq_getElem?_getD]
      have : (q == (i : Int)) = false := by simpa using hq
      rw [this]
      simp
theorem wtB_app (q : Int) (a b : List (List Int × Int)) : wtB q (a ++ b) = wtB q a + wtB q b := by
  unfold wtB
  rw [List.map_append, List.sum_append]
theorem lnB_app (a b : List (List Int × Int)) : lnB (a ++ b) = lnB a + lnB b := by
  unfold lnB
  rw [List.map_append, List.sum_append]
theorem wtB_top (q k : Int) : ∀ T : List (Nat × List Int), wtB q (T.map fun t => (t.2, k)) = ((T.map (fun t => t.2)).flatten.count q : Int) * k
  | [] => by simp [wtB]
  | t :: T => by
    have ih := wtB_top q k T
    show (t.2.count q : Int) * k + wtB q (T.map fun t => (t.2, k)) = ((t.2 ++ (T.map (fun t => t.2)).flatten).count q : Int) * k
    rw [ih, List.count_append, Int.natCast_add, Int.add_mul]
theorem lnB_top (k : Int) : ∀ T : List (Nat × List Int), lnB (T.map fun t => (t.2, k)) = (T.map (fun t => t.2)).flatten.length
  | [] => rfl
  | t :: T => by
    have ih := lnB_top k T
    show t.2.length + lnB (T.map fun t => (t.2, k)) = (t.2 ++ (T.map (fun t => t.2)).flatten).length
    rw [ih, List.length_append]
theorem sum_permI {l₁ l₂ : List Int} (h : l₁.Perm l₂) : l₁.sum = l₂.sum := by
  induction h with
  | nil => rfl
  | cons x _ ih => rw [List.sum_cons, List.sum_cons, ih]
  | swap x y l => simp only [List.sum_cons]; omega
  | trans _ _ h1 h2 => rw [h1, h2]
theorem invB_perm {R : Nat} {F : List Int} (g : List Int) (l l' : List (List Int × Int)) (h : l.Perm l') (i : InvB R F g l) : InvB R F g l' :=
  ⟨i.ln, fun z hz => i.rg z (h.mem_iff.mpr hz), by have := (h.map fun z => z.1.length).sum_nat; unfold lnB; rw [← this]; exact i.sz, fun q hq => by
    have e : wtB (q : Int) l' = wtB (q : Int) l := by
      have := h.map fun z => (z.1.count (q : Int) : Int) * z.2
      unfold wtB
      exact (sum_permI this).symm
    rw [e]
    exact i.eq q hq⟩
theorem invB_mem {R : Nat} {F : List Int} {g : List Int} {T : List (Nat × List Int)} {k : Int} {rest : List (List Int × Int)} (i : InvB R F g (T.map (fun t => (t.2, k + 1)) ++ rest)) : (∀ q, q ∈ (T.map (fun t => t.2)).flatten → 0 ≤ q ∧ q < (R : Int)) ∧ (T.map (fun t => t.2)).flatten.length ≤ R := by
  refine ⟨fun q hq => ?_, ?_⟩
  · obtain ⟨x, hx, hq⟩ := List.mem_flatten.mp hq
    obtain ⟨t, ht, rfl⟩ := List.mem_map.mp hx
    exact i.rg (t.2, k + 1) (List.mem_append_left _ (List.mem_map_of_mem (f := fun t : Nat × List Int => (t.2, k + 1)) ht)) q hq
  · have := i.sz
    rw [lnB_app, lnB_top] at this
    omega
theorem invB_step {R : Nat} {F : List Int} (g : List Int) (T : List (Nat × List Int)) (k : Int) (rest : List (List Int × Int)) (i : InvB R F g (T.map (fun t => (t.2, k + 1)) ++ rest)) (g' w : List Int) (e : finB g T = .ok (g', w)) : InvB R F g' ((w, k) :: rest) := by
  cases e
  obtain ⟨hm, _⟩ := invB_mem i
  refine ⟨by rw [bmp_len]; exact i.ln, fun z hz q hq => ?_, ?_, fun q hq => ?_⟩
  · rcases List.mem_cons.mp hz with rfl | hz
    · exact hm q hq
    · exact i.rg z (List.mem_append_right _ hz) q hq
  · have := i.sz
    rw [lnB_app, lnB_top] at this
    exact this
  · have := i.eq q hq
    rw [wtB_app, wtB_top] at this
    rw [bmp_get _ _ i.ln hm q hq]
    show _ + (((T.map (fun t => t.2)).flatten.count (q : Int) : Int) * k + wtB (q : Int) rest) = _
    rw [Int.mul_add, Int.mul_one] at this
    omega
/-- the places, reel by reel -/
def bk0 : List Int → Int → List (List (List Int))
  | [], _ => []
  | c :: cs, s => ((List.range c.toNat).map fun k : Nat => [s + (k : Int)]) :: bk0 cs (s + c)
theorem bk0_len : ∀ (cs : List Int) (s : Int), (bk0 cs s).length = cs.length
  | [], _ => rfl
  | c :: cs, s => by rw [bk0, List.length_cons, bk0_len cs, List.length_cons]
theorem bk0_lens : ∀ (cs : List Int) (s : Int), (∀ c, c ∈ cs → 0 ≤ c) → (bk0 cs s).map (fun r => (r.length : Int)) = cs
  | [], _, _ => rfl
  | c :: cs, s, h => by
    rw [bk0, List.map_cons, bk0_lens cs _ fun x hx => h x (List.mem_cons_of_mem _ hx), List.length_map, List.length_range, Int.toNat_of_nonneg (h c List.mem_cons_self)]
theorem bk0_flat : ∀ (cs : List Int) (s : Int), (∀ c, c ∈ cs → 0 ≤ c) → (bk0 cs s).flatten = (List.range cs.sum.toNat).map fun k : Nat => [s + (k : Int)]
  | [], _, _ => rfl
  | c :: cs, s, h => by
    have hc := h c List.mem_cons_self
    have h2 : ∀ x, x ∈ cs → 0 ≤ x := fun x hx => h x (List.mem_cons_of_mem _ hx)
    have hs : 0 ≤ cs.sum := by
      clear h hc s c
      induction cs with
      | nil => exact Int.le_refl _
      | cons x cs ih =>
        rw [List.sum_cons]
        have := h2 x List.mem_cons_self
        have := ih fun y hy => h2 y (List.mem_cons_of_mem _ hy)
        omega
    rw [bk0, List.flatten_cons, bk0_flat cs _ h2, List.sum_cons, Int.toNat_add hc hs, List.range_add, List.map_append, List.map_map]
    congr 1
    refine List.map_congr_left fun k _ => ?_
    show [s + c + (k : Int)] = [s + ((c.toNat + k : Nat) : Int)]
    rw [Int.natCast_add, Int.toNat_of_nonneg hc, Int.add_assoc]
theorem zipW_zip {α β : Type} : ∀ (A : List (List α)) (B : List (List β)), A.map List.length = B.map List.length → (List.zipWith (fun a b => a.zip b) A B).flatten = A.flatten.zip B.flatten
  | [], [], _ => rfl
  | [], _ :: _, h => by simp at h
  | _ :: _, [], h => by simp at h
  | a :: A, b :: B, h => by
    obtain ⟨h1, h2⟩ := List.cons.inj h
    rw [List.zipWith_cons_cons, List.flatten_cons, List.flatten_cons, List.flatten_cons, List.zip_append h1, zipW_zip A B h2]
theorem zipW_range {α β γ : Type} (f : α → β → γ) (A : List α) (B : List β) (d : α) (h : A.length = B.length) : List.zipWith (fun r b => f (A.getD r d) b) (List.range A.length) B = List.zipWith f A B := by
  refine List.ext_getElem? fun i => ?_
  rw [List.getElem?_zipWith, List.getElem?_zipWith]
  by_cases c : i < A.length
  · have hb : i < B.length := by omega
    rw [List.getElem?_range c, List.getElem?_eq_getElem c, List.getElem?_eq_getElem hb]
    show some (f (A.getD i d) B[i]) = some (f A[i] B[i])
    rw [List.getD_eq_getElem?_getD, List.getElem?_eq_getElem c]
    rfl
  · have e1 : (List.range A.length)[i]? = none := List.getElem?_eq_none (by rw [List.length_range]; omega)
    have e2 : A[i]? = none := List.getElem?_eq_none (by omega)
    rw [e1, e2]
theorem prsO_mem {α : Type} {N : List (List Int)} {M : List Int} {o : List Nat} {out : Nat} {h : Nat → List α} {z : α × Int} (hz : z ∈ prsO N M o out h) : (∃ ns, ns ∈ N ∧ z.2 ∈ ns) ∨ z.2 ∈ M := by
  unfold prsO at hz
  rcases List.mem_append.mp hz with h1 | h1
  · obtain ⟨l, hl, hz⟩ := List.mem_flatten.mp h1
    obtain ⟨i, hi⟩ := List.getElem?_of_mem hl
    rw [List.getElem?_zipWith] at hi
    cases e1 : o[i]? with
    | none => rw [e1] at hi; cases hi
    | some r =>
      cases e2 : N[i]? with
      | none => rw [e1, e2] at hi; cases hi
      | some ns =>
        rw [e1, e2] at hi
        cases hi
        exact .inl ⟨ns, List.mem_of_getElem? e2, (List.of_mem_zip hz).2⟩
  · exact .inr (List.of_mem_zip h1).2
theorem prs0_zero {α : Type} {p : Nat} {o : List Nat} {out : Nat} {h : Nat → List α} {z : α × Int} (hz : z ∈ prsO (trnN p 0) [] o out h) : z.2 = 0 := by
  rcases prsO_mem hz with ⟨ns, h1, h2⟩ | h1
  · rcases List.mem_cons.mp h1 with rfl | h1
    · exact List.mem_singleton.mp h2
    · rw [(List.mem_replicate.mp h1).2] at h2
      exact nomatch h2
  · exact nomatch h1
theorem wtB_zero (q : Int) : ∀ l : List (List Int × Int), (∀ z, z ∈ l → z.2 = 0) → wtB q l = 0
  | [], _ => rfl
  | z :: l, h => by
    show (z.1.count q : Int) * z.2 + wtB q l = 0
    rw [h z List.mem_cons_self, wtB_zero q l fun x hx => h x (List.mem_cons_of_mem _ hx)]
    simp
theorem lvlC_nn (p n : Nat) : ∀ c, c ∈ lvlC p n → (0 : Int) ≤ c := by
  induction n with
  | zero =>
    intro c hc
    rcases List.mem_cons.mp (show c ∈ 1 :: List.replicate (p - 1) 0 from hc) with rfl | h
    · decide
    · rw [(List.mem_replicate.mp h).2]; exact Int.le_refl _
  | succ n ih =>
    intro c hc
    have hd : 0 ≤ (lvlC p n).headD 0 := by
      cases e : lvlC p n with
      | nil => exact Int.le_refl _
      | cons x xs => exact ih x (by rw [e]; exact List.mem_cons_self)
    rcases List.mem_append.mp (show c ∈ ((lvlC p n).drop 1).map (fun x => (lvlC p n).headD 0 + x) ++ [(lvlC p n).headD 0] from hc) with h | h
    · obtain ⟨x, hx, rfl⟩ := List.mem_map.mp h
      have := ih x (List.mem_of_mem_drop hx)
      omega
    · rw [List.mem_singleton.mp h]; exact hd
theorem trn_flen {p : Nat} (h : 1 ≤ p) (n : Nat) : ((trnN p n).flatten.length : Int) = (lvlC p n).sum := by
  rw [← trnN_lens h, List.length_flatten]
  generalize trnN p n = N
  induction N with
  | nil => rfl
  | cons r N ih => rw [List.map_cons, List.map_cons, List.sum_cons, List.sum_cons, Int.natCast_add, ih]
/-- the places at the start -/
def bkH (p n : Nat) (r : Nat) : List (List Int) := (bk0 (lvlC p n) 0).getD r []
theorem bk_lens {p : Nat} (h : 1 ≤ p) (n : Nat) : (bk0 (lvlC p n) 0).map List.length = (trnN p n).map List.length := by
  have h1 := (bk0_lens (lvlC p n) 0 (lvlC_nn p n)).trans (trnN_lens h n).symm
  have : ∀ (A : List (List (List Int))) (B : List (List Int)), A.map (fun r => (r.length : Int)) = B.map (fun r : List Int => (r.length : Int)) → A.map List.length = B.map List.length := fun A => by
    induction A with
    | nil => intro B hB; cases B with | nil => rfl | cons _ _ => simp at hB
    | cons a A ih =>
      intro B hB
      cases B with
      | nil => simp at hB
      | cons b B =>
        obtain ⟨e1, e2⟩ := List.cons.inj hB
        rw [List.map_cons, List.map_cons, ih B e2, Int.ofNat.inj e1]
  exact this _ _ h1
theorem bk_cf {p : Nat} (h : 1 ≤ p) (n : Nat) : CfT p (trnN p n) [] (List.range p) p (bkH p n) := by
  have hl := bk_lens h n
  have hbl : (bk0 (lvlC p n) 0).length = p := by rw [bk0_len, lvlC_len h]
  refine ⟨List.nodup_cons.mpr ⟨fun h => by have := List.mem_range.mp h; omega, List.nodup_range⟩, fun r hr => ?_, List.length_range, ?_, ?_⟩
  · rcases List.mem_cons.mp hr with rfl | hr
    · exact Nat.le_refl _
    · have := List.mem_range.mp hr; omega
  · rw [← hl]
    refine List.ext_getElem? fun i => ?_
    rw [List.getElem?_map, List.getElem?_map]
    by_cases c : i < p
    · rw [List.getElem?_range c]
      unfold bkH
      show some ((bk0 (lvlC p n) 0).getD i []).length = _
      rw [List.getD_eq_getElem?_getD, List.getElem?_eq_getElem (by omega)]
      rfl
    · rw [List.getElem?_eq_none (by rw [List.length_range]; omega), List.getElem?_eq_none (by omega)]
      rfl
  · unfold bkH
    rw [List.getD_eq_getElem?_getD, List.getElem?_eq_none (by omega)]
    rfl
theorem bk_inv {p : Nat} (h : 1 ≤ p) (n : Nat) : InvB (lvlC p n).sum.toNat (trnN p n).flatten (List.replicate (lvlC p n).sum.toNat 0) (prsO (trnN p n) [] (List.range p) p (bkH p n)) := by
  have hl := bk_lens h n
  have hbl : (bk0 (lvlC p n) 0).length = p := by rw [bk0_len, lvlC_len h]
  have hfl := trn_flen h n
  have hz : prsO (trnN p n) [] (List.range p) p (bkH p n) = ((List.range (lvlC p n).sum.toNat).map fun k : Nat => [(k : Int)]).zip (trnN p n).flatten := by
    unfold prsO bkH
    have := zipW_range (fun (a : List (List Int)) (b : List Int) => a.zip b) (bk0 (lvlC p n) 0) (trnN p n) [] (by rw [hbl, trnN_len h])
    rw [hbl] at this
    rw [this, zipW_zip _ _ hl, List.zip_nil_right, List.append_nil, bk0_flat _ _ (lvlC_nn p n)]
    congr 1
    exact List.map_congr_left fun k _ => by rw [Int.zero_add]
  have hz2 : prsO (trnN p n) [] (List.range p) p (bkH p n) = (List.range (lvlC p n).sum.toNat).map fun k : Nat => ([(k : Int)], (trnN p n).flatten.getD k 0) := by
    rw [hz]
    refine List.ext_getElem? fun i => ?_
    by_cases c : i < (lvlC p n).sum.toNat
    · have hf : i < (trnN p n).flatten.length := by omega
      rw [List.getElem?_zip_eq_some (z := ([(i : Int)], (trnN p n).flatten[i])).mpr ⟨by rw [List.getElem?_map, List.getElem?_range c]; rfl, List.getElem?_eq_getElem hf⟩, List.getElem?_map, List.getElem?_range c, Option.map_some, List.getD_eq_getElem?_getD, List.getElem?_eq_getElem hf]
      rfl
    · rw [List.getElem?_eq_none (by rw [List.length_zip, List.length_map, List.length_range]; omega), List.getElem?_eq_none (by rw [List.length_map, List.length_range]; omega)]
  rw [hz2]
  generalize (lvlC p n).sum.toNat = R
  generalize (trnN p n).flatten = F
  refine ⟨List.length_replicate, fun z hz q hq => ?_, ?_, fun q hq => ?_⟩
  · obtain ⟨k, hk, rfl⟩ := List.mem_map.mp hz
    have := List.mem_range.mp hk
    rw [List.mem_singleton.mp hq]
    omega
  · unfold lnB
    rw [List.map_map]
    show ((List.range R).map fun _ => 1).sum = R
    rw [List.map_const', List.length_range, List.sum_replicate_nat]
    omega
  · have key : ∀ m : Nat, wtB (q : Int) ((List.range m).map fun k : Nat => ([(k : Int)], F.getD k 0)) = if q < m then F.getD q 0 else 0 := fun m => by
      induction m with
      | zero => rfl
      | succ m ih =>
        rw [List.range_succ, List.map_append, wtB_app, ih]
        show _ + (((([(m : Int)] : List Int).count (q : Int) : Nat) : Int) * F.getD m 0 + 0) = _
        rw [List.count_singleton]
        by_cases c : q = m
        · subst c
          have e1 : (if q < q then F.getD q 0 else 0) = 0 := if_neg (Nat.lt_irrefl q)
          have e2 : (if q < q + 1 then F.getD q 0 else 0) = F.getD q 0 := if_pos (Nat.lt_succ_self q)
          have e3 : (if ((q : Int) == (q : Int)) = true then 1 else 0 : Nat) = 1 := if_pos (by simp)
          rw [e1, e2, e3]
          show 0 + ((1 : Int) * F.getD q 0 + 0) = _
          omega
        · have : ¬ (((m : Int) == (q : Int)) = true) := by simpa using fun e : (m : Int) = q => c (by omega)
          rw [if_neg this]
          show _ + ((0 : Int) * F.getD m 0 + 0) = _
          rw [Int.zero_mul]
          by_cases c2 : q < m
          · rw [if_pos c2, if_pos (by omega)]
            omega
          · rw [if_neg c2, if_neg (by omega)]
            omega
    rw [key R, if_pos hq, List.getD_eq_getElem?_getD, List.getElem?_replicate, if_pos hq]
    show (0 : Int) + _ = _
    omega
/-- what is read in the end -/
theorem bk_end {p : Nat} (h : 1 ≤ p) (n : Nat) {s : TSt (List Int) (List Int)} (e : tnT finB n ((List.range p, p), (bkH p n, List.replicate (lvlC p n).sum.toNat 0)) = .ok s) : s.2.2 = (trnN p n).flatten := by
  obtain ⟨c, i⟩ := tnT_inv (fin := finB) (Inv := InvB (lvlC p n).sum.toNat (trnN p n).flatten) h invB_perm (fun g T k rest _ _ _ hI g' w hw => invB_step g T k rest hI g' w hw) (bk_cf h n) (bk_inv h n) n (Nat.le_refl _) s e
  rw [Nat.sub_self] at c i
  have hfl := trn_flen h n
  refine List.ext_getElem? fun q => ?_
  by_cases hq : q < (lvlC p n).sum.toNat
  · have h1 := i.eq q hq
    rw [wtB_zero _ _ (fun z hz => prs0_zero hz), Int.add_zero, List.getD_eq_getElem?_getD, List.getD_eq_getElem?_getD, List.getElem?_eq_getElem (by rw [i.ln]; exact hq), List.getElem?_eq_getElem (by omega)] at h1
    rw [List.getElem?_eq_getElem (by rw [i.ln]; exact hq), List.getElem?_eq_getElem (by omega)]
    exact congrArg some h1
  · rw [List.getElem?_eq_none (by rw [i.ln]; omega), List.getElem?_eq_none (by omega)]
theorem bk0_get : ∀ (cs : List Int) (s : Int) (i : Nat) (c : Int), cs[i]? = some c → (bk0 cs s)[i]? = some ((List.range c.toNat).map fun k : Nat => [s + (cs.take i).sum + (k : Int)])
  | [], _, _, _, h => by simp at h
  | x :: cs, s, 0, c, h => by
    cases h
    show some _ = some _
    rw [List.take_zero]
    show some ((List.range x.toNat).map fun k : Nat => [s + (k : Int)]) = some ((List.range x.toNat).map fun k : Nat => [s + 0 + (k : Int)])
    rw [Int.add_zero]
  | x :: cs, s, i + 1, c, h => by
    have ih := bk0_get cs (s + x) i c h
    show (bk0 cs (s + x))[i]? = _
    rw [ih, List.take_succ_cons, List.sum_cons, ← Int.add_assoc]
theorem bkH_get {p n i : Nat} {c : Int} (h : (lvlC p n)[i]? = some c) : bkH p n i = (List.range c.toNat).map fun k : Nat => [((lvlC p n).take i).sum + (k : Int)] := by
  unfold bkH
  rw [List.getD_eq_getElem?_getD, bk0_get _ _ _ _ h]
  show (List.range c.toNat).map (fun k : Nat => [0 + ((lvlC p n).take i).sum + (k : Int)]) = _
  simp only [Int.zero_add]
theorem bkH_end {p n : Nat} (h : 1 ≤ p) : bkH p n p = [] := by
  unfold bkH
  rw [List.getD_eq_getElem?_getD, List.getElem?_eq_none (by rw [bk0_len, lvlC_len h]; exact Nat.le_refl _)]
  rfl
theorem le_sumN {cs : List Int} (h : ∀ c, c ∈ cs → 0 ≤ c) {c : Int} (hc : c ∈ cs) : c ≤ cs.sum := by
  have h0 : ∀ xs : List Int, (∀ x, x ∈ xs → 0 ≤ x) → 0 ≤ xs.sum := fun xs => by
    induction xs with
    | nil => intro _; exact Int.le_refl _
    | cons x xs ih =>
      intro hx
      rw [List.sum_cons]
      have := hx x List.mem_cons_self
      have := ih fun y hy => hx y (List.mem_cons_of_mem _ hy)
      omega
  induction cs with
  | nil => exact nomatch hc
  | cons x cs ih =>
    rw [List.sum_cons]
    have h1 := h x List.mem_cons_self
    have h2 := h0 cs fun y hy => h y (List.mem_cons_of_mem _ hy)
    rcases List.mem_cons.mp hc with rfl | hc
    · omega
    · have := ih (fun y hy => h y (List.mem_cons_of_mem _ hy)) hc
      omega
theorem tk_sn {α : Type} {xs : List α} {i : Nat} {x : α} (h : xs[i]? = some x) : xs.take (i + 1) = xs.take i ++ [x] := by rw [List.take_add_one, h]; rfl
theorem sum_tk {cs : List Int} {i : Nat} {c : Int} (h : cs[i]? = some c) : (cs.take (i + 1)).sum = (cs.take i).sum + c := by
  rw [tk_sn h, List.sum_append, List.sum_cons]
  show _ + (c + 0) = _
  omega
theorem bmp_sn {rd w : List Int} {i : Nat} {q : Int} (h : w[i]? = some q) : bmp rd (w.take (i + 1)) = (bmp rd (w.take i)).set q.toNat ((bmp rd (w.take i)).getD q.toNat 0 + 1) := by
  rw [tk_sn h]
  unfold bmp
  rw [List.foldl_append]
  rfl
theorem fl_drop {α : Type} {A : List (List α)} {i : Nat} {r : List α} (h : A[i]? = some r) : (A.drop i).flatten = r ++ (A.drop (i + 1)).flatten := by
  have hl := (List.getElem?_eq_some_iff.mp h).1
  rw [List.drop_eq_getElem_cons hl, List.flatten_cons, (List.getElem?_eq_some_iff.mp h).2]
theorem trn_at {p n i : Nat} (hp : 1 ≤ p) {c : Int} (h : (lvlC p n)[i]? = some c) : ∃ r, (trnN p n)[i]? = some r ∧ (r.length : Int) = c := by
  rw [← trnN_lens hp, List.getElem?_map] at h
  cases e : (trnN p n)[i]? with
  | none => rw [e] at h; cases h
  | some r => rw [e] at h; exact ⟨r, rfl, Option.some.inj h⟩
theorem sum0_nn {cs : List Int} (h : ∀ c, c ∈ cs → 0 ≤ c) : 0 ≤ cs.sum := by
  induction cs with
  | nil => exact Int.le_refl _
  | cons x cs ih =>
    rw [List.sum_cons]
    have := h x List.mem_cons_self
    have := ih fun y hy => h y (List.mem_cons_of_mem _ hy)
    omega

/-- a row that goes one way, None where it is idle -/
abbrev TRow := Option (Bool × List Int)
def rpW (r : Bool × List Int) : PyData := .tuple [.bool r.1, lI r.2]
def twD : TRow → PyData
  | none => .none
  | some r => rpW r
def bmW (rd : List Int) (t : Nat × TRow) : List Int := match t.2 with
  | none => rd
  | some r => rd.set t.1 (rd.getD t.1 0 + (r.2.length : Int))
def rdW (rd : List Int) (T : List (Nat × TRow)) : List Int := T.foldl bmW rd
def rwW (T : List (Nat × TRow)) : List (Bool × List Int) := T.filterMap (·.2)
def srW (u : Bool) (xs : List Int) : List Int := if u then srtI xs else (srtI xs).reverse
def mgW (a : Int) : List (Bool × List Int) → Except Int TRow
  | [] => .ok none
  | r :: rs => if rs.all (fun s => s.1 == r.1) then .ok (some (!r.1, srW (!r.1) ((r :: rs).map (fun s => s.2)).flatten)) else .error a
def finW (g : List Int × Int) (T : List (Nat × TRow)) : Except Int ((List Int × Int) × TRow) := match mgW g.2 (rwW T) with
  | .error e => .error e
  | .ok w => .ok ((rdW g.1 T, g.2 + 1), w)
def lnW : TRow → Nat
  | none => 0
  | some r => r.2.length
theorem srW_len (u : Bool) (xs : List Int) : (srW u xs).length = xs.length := by
  unfold srW
  cases u
  · show (srtI xs).reverse.length = _
    rw [List.length_reverse, srtI_len]
  · exact srtI_len xs
theorem mgW_cons (a : Int) (r : Bool × List Int) (rs : List (Bool × List Int)) : mgW a (r :: rs) = if rs.all (fun s => s.1 == r.1) then .ok (some (!r.1, srW (!r.1) ((r :: rs).map (fun s => s.2)).flatten)) else .error a := rfl
theorem mgW_inv {a : Int} {rs : List (Bool × List Int)} {w : TRow} (h : mgW a rs = .ok w) : (rs = [] ∧ w = none) ∨ ∃ u, rs ≠ [] ∧ (∀ r, r ∈ rs → r.1 = u) ∧ w = some (!u, srW (!u) (rs.map (fun s => s.2)).flatten) := by
  cases rs with
  | nil => cases h; exact .inl ⟨rfl, rfl⟩
  | cons r rs =>
    rw [mgW_cons] at h
    by_cases c : rs.all (fun s => s.1 == r.1) = true
    · rw [if_pos c] at h
      cases h
      refine .inr ⟨r.1, List.cons_ne_nil _ _, fun s hs => ?_, rfl⟩
      rcases List.mem_cons.mp hs with rfl | hs
      · rfl
      · exact eq_of_beq (List.all_eq_true.mp c s hs)
    · rw [if_neg c] at h
      cases h
theorem mgW_err {a e : Int} {rs : List (Bool × List Int)} (h : mgW a rs = .error e) : e = a ∧ ∃ r rs', rs = r :: rs' ∧ ¬ ∀ s, s ∈ rs' → s.1 = r.1 := by
  cases rs with
  | nil => cases h
  | cons r rs =>
    rw [mgW_cons] at h
    by_cases c : rs.all (fun s => s.1 == r.1) = true
    · rw [if_pos c] at h
      cases h
    · rw [if_neg c] at h
      cases h
      exact ⟨rfl, r, rs, rfl, fun h2 => c (List.all_eq_true.mpr fun s hs => by rw [h2 s hs]; exact beq_self_eq_true _)⟩
theorem mgW_ok {a : Int} {rs : List (Bool × List Int)} {u : Bool} (h : ∀ r, r ∈ rs → r.1 = u) : mgW a rs = .ok (if rs = [] then none else some (!u, srW (!u) (rs.map (fun s => s.2)).flatten)) := by
  cases rs with
  | nil => rfl
  | cons r rs =>
    have hr := h r List.mem_cons_self
    rw [mgW_cons, if_pos (List.all_eq_true.mpr fun s hs => by rw [h s (List.mem_cons_of_mem _ hs), hr]; exact beq_self_eq_true _), if_neg (List.cons_ne_nil _ _), hr]
theorem mgW_len {a : Int} {rs : List (Bool × List Int)} {w : TRow} (h : mgW a rs = .ok w) : lnW w = ((rs.map (fun s => s.2)).flatten).length := by
  rcases mgW_inv h with ⟨rfl, rfl⟩ | ⟨u, _, _, rfl⟩
  · rfl
  · exact srW_len _ _
theorem finW_inv {g g' : List Int × Int} {T : List (Nat × TRow)} {w : TRow} (h : finW g T = .ok (g', w)) : mgW g.2 (rwW T) = .ok w ∧ g' = (rdW g.1 T, g.2 + 1) := by
  unfold finW at h
  cases e : mgW g.2 (rwW T) with
  | error x => rw [e] at h; cases h
  | ok v => rw [e] at h; cases h; exact ⟨rfl, rfl⟩
theorem finW_ok {g : List Int × Int} {T : List (Nat × TRow)} {w : TRow} (h : mgW g.2 (rwW T) = .ok w) : finW g T = .ok ((rdW g.1 T, g.2 + 1), w) := by
  unfold finW
  rw [h]
theorem finW_err {g : List Int × Int} {T : List (Nat × TRow)} {e : Int} (h : mgW g.2 (rwW T) = .error e) : finW g T = .error e := by
  unfold finW
  rw [h]
theorem rwW_len : ∀ T : List (Nat × TRow), (((rwW T).map (fun s => s.2)).flatten).length = (T.map (fun t => lnW t.2)).sum
  | [] => rfl
  | (i, none) :: T => by
    rw [List.map_cons, List.sum_cons, ← rwW_len T]
    show _ = 0 + _
    rw [Nat.zero_add]
    rfl
  | (i, some r) :: T => by
    rw [List.map_cons, List.sum_cons, ← rwW_len T]
    show ((r.2 :: (rwW T).map (fun s => s.2)).flatten).length = r.2.length + _
    rw [List.flatten_cons, List.length_append]
theorem bmW_len (rd : List Int) (t : Nat × TRow) : (bmW rd t).length = rd.length := by
  obtain ⟨i, r⟩ := t
  cases r with
  | none => rfl
  | some r => exact List.length_set
theorem rdW_len : ∀ (T : List (Nat × TRow)) (rd : List Int), (rdW rd T).length = rd.length
  | [], _ => rfl
  | t :: T, rd => by
    show (rdW (bmW rd t) T).length = _
    rw [rdW_len T, bmW_len]
theorem rdW_sn {rd : List Int} {T : List (Nat × TRow)} (t : Nat × TRow) : rdW rd (T ++ [t]) = bmW (rdW rd T) t := by
  unfold rdW
  rw [List.foldl_append]
  rfl
theorem rwW_sn {T : List (Nat × TRow)} (i : Nat) (r : TRow) : rwW (T ++ [(i, r)]) = rwW T ++ (match r with | none => [] | some r => [r]) := by
  unfold rwW
  rw [List.filterMap_append]
  cases r <;> rfl
/-- the things that are there, and the counts -/
structure InvM (p M : Nat) (g : List Int × Int) (l : List (TRow × Int)) : Prop where
  ln : g.1.length = p + 1
  at0 : 0 ≤ g.2
  sz : (l.map fun z => lnW z.1).sum ≤ M
theorem invM_perm {p M : Nat} (g : List Int × Int) (l l' : List (TRow × Int)) (h : l.Perm l') (i : InvM p M g l) : InvM p M g l' :=
  ⟨i.ln, i.at0, by rw [← (h.map fun z => lnW z.1).sum_nat]; exact i.sz⟩
theorem invM_top {p M : Nat} {g : List Int × Int} {T : List (Nat × TRow)} {k : Int} {rest : List (TRow × Int)} (i : InvM p M g (T.map (fun t => (t.2, k + 1)) ++ rest)) : (T.map fun t => lnW t.2).sum ≤ M := by
  have := i.sz
  rw [List.map_append, List.sum_append, List.map_map] at this
  exact Nat.le_trans (Nat.le_add_right _ _) this
theorem invM_step {p M : Nat} (g : List Int × Int) (T : List (Nat × TRow)) (k : Int) (rest : List (TRow × Int)) (i : InvM p M g (T.map (fun t => (t.2, k + 1)) ++ rest)) (g' : List Int × Int) (w : TRow) (e : finW g T = .ok (g', w)) : InvM p M g' ((w, k) :: rest) := by
  obtain ⟨h1, rfl⟩ := finW_inv e
  refine ⟨by rw [rdW_len]; exact i.ln, by have := i.at0; show 0 ≤ g.2 + 1; omega, ?_⟩
  have h2 := i.sz
  rw [List.map_append, List.sum_append, List.map_map] at h2
  rw [List.map_cons, List.sum_cons]
  have h3 := mgW_len h1
  rw [rwW_len] at h3
  show lnW w + _ ≤ M
  rw [h3]
  exact h2
/-- the ways by the numbers -/
def wyB (f : Bool) (k : Int) : Bool := decide (k % 2 = 0) != f
def InvY (f : Bool) (l : List (TRow × Int)) : Prop := ∀ r k, (some r, k) ∈ l → r.1 = wyB f k
theorem wyB_suc (f : Bool) (k : Int) : wyB f k = !wyB f (k + 1) := by
  unfold wyB
  have : decide ((k + 1) % 2 = 0) = !decide (k % 2 = 0) := by
    by_cases h : k % 2 = 0
    · rw [decide_eq_true h, decide_eq_false (by omega)]; rfl
    · rw [decide_eq_false h, decide_eq_true (by omega)]; rfl
  rw [this]
  cases decide (k % 2 = 0) <;> cases f <;> rfl
theorem rwW_mem {T : List (Nat × TRow)} {r : Bool × List Int} (h : r ∈ rwW T) : ∃ t, t ∈ T ∧ t.2 = some r := by
  obtain ⟨t, ht, e⟩ := List.mem_filterMap.mp h
  exact ⟨t, ht, e⟩
theorem invY_top {f : Bool} {T : List (Nat × TRow)} {k : Int} {rest : List (TRow × Int)} (i : InvY f (T.map (fun t => (t.2, k + 1)) ++ rest)) : ∀ r, r ∈ rwW T → r.1 = wyB f (k + 1) := fun r hr => by
  obtain ⟨t, ht, e⟩ := rwW_mem hr
  refine i r (k + 1) (List.mem_append_left _ (List.mem_map.mpr ⟨t, ht, ?_⟩))
  rw [e]
theorem invY_step {f : Bool} {g g' : List Int × Int} {T : List (Nat × TRow)} {k : Int} {rest : List (TRow × Int)} {w : TRow} (i : InvY f (T.map (fun t => (t.2, k + 1)) ++ rest)) (e : finW g T = .ok (g', w)) : InvY f ((w, k) :: rest) := by
  obtain ⟨h1, _⟩ := finW_inv e
  intro r k2 hr
  rcases List.mem_cons.mp hr with h | h
  · obtain ⟨h3, h4⟩ := Prod.mk.inj h
    subst h4
    rcases mgW_inv h1 with ⟨_, h2⟩ | ⟨u, hne, hu, h2⟩
    · rw [h2] at h3; cases h3
    · rw [h2] at h3
      cases h3
      obtain ⟨q, hq⟩ := List.exists_mem_of_ne_nil _ hne
      have h5 := hu q hq
      have h6 := invY_top i q hq
      show (!u) = _
      rw [wyB_suc, ← h6, h5]
  · exact i r k2 (List.mem_append_right _ h)
theorem invY_ok {f : Bool} (g : List Int × Int) {T : List (Nat × TRow)} {k : Int} {rest : List (TRow × Int)} (i : InvY f (T.map (fun t => (t.2, k + 1)) ++ rest)) : ∃ q, finW g T = .ok q := ⟨_, finW_ok (mgW_ok (invY_top i))⟩
theorem cf0_one {α : Type} {p : Nat} (hp : 1 ≤ p) {o : List Nat} {out : Nat} {h : Nat → List α} (c : CfT p (trnN p 0) [] o out h) : ∃ l o' x, o = l :: o' ∧ h l = [x] := by
  have hl := c.ls
  cases o with
  | nil => cases hl
  | cons l o =>
    have h1 : (h l).length = 1 := (List.cons.inj hl).1
    cases e : h l with
    | nil => rw [e] at h1; cases h1
    | cons x xs =>
      rw [e] at h1
      cases xs with
      | nil => exact ⟨l, o, x, rfl, e⟩
      | cons y ys => simp at h1
/-- reels of rows that go one way, lists or tuples of lists or tuples -/
inductive TuA (D : Hp) : List V → List (List TRow) → Prop
  | nil : TuA D [] []
  | cons {a : Addr} {vs us : List V} {R : List TRow} {Rs : List (List TRow)} : Ks D a vs → RpAll D vs (R.map twD) → TuA D us Rs → TuA D (.ref a :: us) (R :: Rs)
theorem TuA.up {D D' : Hp} (e : Sm D D') {vs : List V} {rs : List (List TRow)} (h : TuA D vs rs) : TuA D' vs rs := by
  induction h with
  | nil => exact .nil
  | cons k h _ ih => exact .cons inferInstance (h.up e.e) ih
theorem TuA.len {D : Hp} {vs : List V} {rs : List (List TRow)} (h : TuA D vs rs) : vs.length = rs.length := by
  induction h with
  | nil => rfl
  | cons _ _ _ ih => rw [List.length_cons, List.length_cons, ih]
theorem TuA.get {D : Hp} {vs : List V} {rs : List (List TRow)} (h : TuA D vs rs) : ∀ {i : Nat} {v : V}, vs[i]? = some v → ∃ a us R, v = .ref a ∧ rs[i]? = some R ∧ Ks D a us ∧ RpAll D us (R.map twD) := by
  induction h with
  | nil => intro i v e; simp at e
  | cons k h _ ih =>
    intro i v e
    cases i with
    | zero => cases e; exact ⟨_, _, _, rfl, rfl, k, h⟩
    | succ i => exact ih (by simpa using e)
/-- the last row as it is told -/
def ltW (D : Hp) (v : V) (O : Own) : TRow → Prop
  | none => v = .non ∧ O = []
  | some r => ∃ lt lb, v = .ref lt ∧ Kn D lt (.tup [.bl r.1, .ref lb]) ∧ O = [(lb, .lst (r.2.map V.int))]
theorem tw_inv {D : Hp} {v : V} {r : Bool × List Int} (h : Rp D v (rpW r)) : ∃ t b, v = .ref t ∧ Kn D t (.tup [.bl r.1, .ref b]) ∧ Kn D b (.lst (r.2.map V.int)) := by
  obtain ⟨t, xs, rfl, kt, hx⟩ := Rp.inv_tup h
  cases hx with
  | cons h1 h2 =>
    cases h1
    cases h2 with
    | cons h3 h4 =>
      cases h4
      obtain ⟨b, rfl, kb⟩ := Rp.inv_lstI h3
      exact ⟨t, b, rfl, ⟨kt⟩, ⟨kb⟩⟩
theorem tw_mk {D : Hp} {t b : Addr} {u : Bool} {xs : List Int} (k : Kn D t (.tup [.bl u, .ref b])) (kb : Kn D b (.lst (xs.map V.int))) : Rp D (.ref t) (rpW (u, xs)) := .tup k.pf (.cons (.bl u) (.cons (.lstI kb.pf) .nil))
theorem sh_rpW (r : Bool × List Int) : Sh 2 (rpW r) := Sh.tup (n := 1) fun d hd => by
  rcases List.mem_cons.mp hd with rfl | hd
  · exact Sh.bl 1 _
  · rw [List.mem_singleton.mp hd]
    exact Sh.list (n := 0) Sh.ints
theorem sh_twD (r : TRow) : Sh 2 (twD r) := by
  cases r with
  | none => exact Sh.non 2
  | some r => exact sh_rpW r
/-- the reels at the start -/
def rlH (Rs : List (List TRow)) (r : Nat) : List TRow := Rs.getD r []
theorem cf_start {α : Type} {p n : Nat} (hp : 1 ≤ p) {Rs : List (List α)} (hl : Rs.map (fun r => (r.length : Int)) = lvlC p n) : CfT p (trnN p n) [] (List.range p) p (fun r => Rs.getD r []) := by
  have hrl : Rs.length = p := by rw [← lvlC_len hp n, ← hl, List.length_map]
  have hll : Rs.map List.length = (trnN p n).map List.length := by
    have h1 := hl.trans (trnN_lens hp n).symm
    have : ∀ (A : List (List α)) (B : List (List Int)), A.map (fun r => (r.length : Int)) = B.map (fun r : List Int => (r.length : Int)) → A.map List.length = B.map List.length := fun A => by
      induction A with
      | nil => intro B hB; cases B with | nil => rfl | cons _ _ => simp at hB
      | cons a A ih =>
        intro B hB
        cases B with
        | nil => simp at hB
        | cons b B =>
          obtain ⟨e1, e2⟩ := List.cons.inj hB
          rw [List.map_cons, List.map_cons, ih B e2, Int.ofNat.inj e1]
    exact this _ _ h1
  refine ⟨List.nodup_cons.mpr ⟨fun h => by have := List.mem_range.mp h; omega, List.nodup_range⟩, fun r hr => ?_, List.length_range, ?_, ?_⟩
  · rcases List.mem_cons.mp hr with rfl | hr
    · exact Nat.le_refl _
    · have := List.mem_range.mp hr; omega
  · rw [← hll]
    refine List.ext_getElem? fun i => ?_
    rw [List.getElem?_map, List.getElem?_map]
    by_cases c : i < p
    · rw [List.getElem?_range c]
      show some (Rs.getD i []).length = _
      rw [List.getD_eq_getElem?_getD, List.getElem?_eq_getElem (by omega)]
      rfl
    · rw [List.getElem?_eq_none (by rw [List.length_range]; omega), List.getElem?_eq_none (by omega)]
      rfl
  · show (Rs.getD p []).length = _
    rw [List.getD_eq_getElem?_getD, List.getElem?_eq_none (by omega)]
    rfl
/-- all rows and their numbers -/
theorem prs_start {α : Type} {p n : Nat} (hp : 1 ≤ p) {Rs : List (List α)} (hl : Rs.map (fun r => (r.length : Int)) = lvlC p n) : prsO (trnN p n) [] (List.range p) p (fun r => Rs.getD r []) = Rs.flatten.zip (trnN p n).flatten := by
  have hrl : Rs.length = p := by rw [← lvlC_len hp n, ← hl, List.length_map]
  have hc := cf_start hp hl
  have hll : Rs.map List.length = (trnN p n).map List.length := by
    rw [← hc.ls]
    refine List.ext_getElem? fun i => ?_
    rw [List.getElem?_map, List.getElem?_map]
    by_cases c : i < p
    · rw [List.getElem?_range c, List.getElem?_eq_getElem (by omega)]
      show some Rs[i].length = some (Rs.getD i []).length
      rw [List.getD_eq_getElem?_getD, List.getElem?_eq_getElem (by omega)]
      rfl
    · rw [List.getElem?_eq_none (by omega), List.getElem?_eq_none (by rw [List.length_range]; omega)]
      rfl
  unfold prsO
  have := zipW_range (fun (a : List α) (b : List Int) => a.zip b) Rs (trnN p n) [] (by rw [hrl, trnN_len hp])
  rw [hrl] at this
  rw [this, zipW_zip _ _ hll, List.zip_nil_right, List.append_nil]
theorem sum_zip_le {α : Type} (f : α → Nat) : ∀ (A : List α) (B : List Int), ((A.zip B).map fun z => f z.1).sum ≤ (A.map f).sum
  | [], _ => Nat.zero_le _
  | _ :: _, [] => Nat.zero_le _
  | a :: A, b :: B => by
    rw [List.zip_cons_cons, List.map_cons, List.map_cons, List.sum_cons, List.sum_cons]
    exact Nat.add_le_add_left (sum_zip_le f A B) _
/-- rows drawn for a level's places: each goes by its number; few things, not far -/
def rowW (f : Bool) (k : Int) (r : TRow) : Prop := match r with
  | none => True
  | some s => s.1 = wyB f k ∧ s.2.length ≤ 3 ∧ ∀ z, z ∈ s.2 → z.natAbs ≤ 1000000000000000000000000000000000000000000000000000000000000
/-- the reels against the numbers -/
inductive ReW (f : Bool) : List Int → List TRow → Prop
  | nil : ReW f [] []
  | cons {k : Int} {ks : List Int} {r : TRow} {rs : List TRow} : rowW f k r → ReW f ks rs → ReW f (k :: ks) (r :: rs)
inductive RlW (f : Bool) : List (List Int) → List (List TRow) → Prop
  | nil : RlW f [] []
  | cons {ks : List Int} {R : List TRow} {N : List (List Int)} {Rs : List (List TRow)} : ReW f ks R → RlW f N Rs → RlW f (ks :: N) (R :: Rs)
theorem ReW.len {f : Bool} {ks : List Int} {rs : List TRow} (h : ReW f ks rs) : rs.length = ks.length := by
  induction h with
  | nil => rfl
  | cons _ _ ih => rw [List.length_cons, List.length_cons, ih]
theorem ReW.snoc {f : Bool} {ks : List Int} {rs : List TRow} {k : Int} {r : TRow} (h : ReW f ks rs) (hr : rowW f k r) : ReW f (ks ++ [k]) (rs ++ [r]) := by
  induction h with
  | nil => exact .cons hr .nil
  | cons h1 _ ih => exact .cons h1 ih
theorem RlW.snoc {f : Bool} {N : List (List Int)} {Rs : List (List TRow)} {ks : List Int} {R : List TRow} (h : RlW f N Rs) (hr : ReW f ks R) : RlW f (N ++ [ks]) (Rs ++ [R]) := by
  induction h with
  | nil => exact .cons hr .nil
  | cons h1 _ ih => exact .cons h1 ih
theorem RlW.lens {f : Bool} {N : List (List Int)} {Rs : List (List TRow)} (h : RlW f N Rs) : Rs.map (fun r => (r.length : Int)) = N.map (fun r : List Int => (r.length : Int)) := by
  induction h with
  | nil => rfl
  | cons h1 _ ih => rw [List.map_cons, List.map_cons, ih, h1.len]
theorem ReW.zip {f : Bool} {ks : List Int} {rs : List TRow} (h : ReW f ks rs) : ∀ r k, (r, k) ∈ rs.zip ks → rowW f k r := by
  induction h with
  | nil => intro r k h; simp at h
  | cons h1 _ ih =>
    intro r k h
    rw [List.zip_cons_cons] at h
    rcases List.mem_cons.mp h with h | h
    · cases h; exact h1
    · exact ih r k h
theorem RlW.flat {f : Bool} {N : List (List Int)} {Rs : List (List TRow)} (h : RlW f N Rs) : ReW f N.flatten Rs.flatten := by
  induction h with
  | nil => exact .nil
  | cons h1 _ ih =>
    rw [List.flatten_cons, List.flatten_cons]
    have app : ∀ {ks ls : List Int} {rs ss : List TRow}, ReW f ks rs → ReW f ls ss → ReW f (ks ++ ls) (rs ++ ss) := fun {ks ls rs ss} h1 h2 => by
      induction h1 with
      | nil => exact h2
      | cons h3 _ ih => exact .cons h3 ih
    exact app h1 ih
theorem ReW.lnw {f : Bool} {ks : List Int} {rs : List TRow} (h : ReW f ks rs) : (rs.map lnW).sum ≤ 3 * ks.length := by
  induction h with
  | nil => exact Nat.le_refl _
  | cons h1 _ ih =>
    rename_i k ks r rs _
    rw [List.map_cons, List.sum_cons, List.length_cons]
    have : lnW r ≤ 3 := by
      cases r with
      | none => exact Nat.zero_le _
      | some s => exact h1.2.1
    omega
theorem srW_mem {u : Bool} {xs : List Int} {z : Int} : z ∈ srW u xs ↔ z ∈ xs := by
  unfold srW
  cases u
  · show z ∈ (srtI xs).reverse ↔ _
    rw [List.mem_reverse]
    exact (srtI_perm xs).mem_iff
  · exact (srtI_perm xs).mem_iff
/-- one row, the other way about -/
def flW : TRow → TRow
  | none => none
  | some r => some (!r.1, r.2.reverse)
def SplR (Rs Ss : List (List TRow)) : Prop := ∃ i j R r, Rs[i]? = some R ∧ R[j]? = some r ∧ Ss = Rs.set i (R.set j (flW r))
/-- the things of a row -/
def thW : TRow → List Int
  | none => []
  | some r => r.2

def sp_turned_numbers_x (K : PySem.W.Frag) : Sp := fun vs H Q E => ∃ (D : Hp) (L : Own) (v n : V), vs = [v, n] ∧ Sx D L H ∧ (((OddV 2 7 D v ∧ ∀ C, PySem.W.nsIn K mainGlobals "NoWays" = some (some (.ref C)) → E (.ref C) none H) ∨ (∃ p, v = .int p ∧ 2 ≤ p ∧ p ≤ 7 ∧ OddV 0 300 D n ∧ ∀ C, PySem.W.nsIn K mainGlobals "NoLevel" = some (some (.ref C)) → E (.ref C) none H)) ∨ (∃ (p m : Nat), v = .int (p : Int) ∧ n = .int (m : Int) ∧ 2 ≤ p ∧ p ≤ 7 ∧ m ≤ 300 ∧ 4000 < (lvlC p m).sum ∧ ∀ C D' H', PySem.W.nsIn K mainGlobals "TooMany" = some (some (.ref C)) → Sx D' L H' → Sm D D' → E (.ref C) none H'))
theorem ok_turned_numbers_x {fA : Addr} {fd : FuncData} (F : Fun K "turned_numbers" "turned_numbers" st_turned_numbers fA fd) {t_MOST_PLACES : Tok} (c_MOST_PLACES : mg "MOST_PLACES" = some (.int (4000) t_MOST_PLACES)) (b_sum : mg "sum" = none)
    {C_TooMany : Addr} (k_TooMany : ClC K mg "TooMany" C_TooMany) (R_TooMany : RzC K C_TooMany)
    (C_level_counts_o : Cl P w K mg base (L2.CX P w) 3 "level_counts" ["p", "n"] (fun vs H Q E => sp_level_counts K vs H Q E0 ∨ sp_level_counts_x K vs H Q E)) : FnOk P w K mg base (L2.CX P w) 4 fA fd ["p", "n"] (sp_turned_numbers_x K) := by
  refine F.okX sc_turned_numbers (fun vs H Q E h => ?_) (fun cdv A outer s H vs Q E hr h => ?_)
  · obtain ⟨D, L, v, n, rfl, S, q⟩ := h
    rfl
  · obtain ⟨D, L, v, n, rfl, S, q⟩ := h
    have hu : (A.deeper (envOfC "turned_numbers" (defScope st_turned_numbers) s.heap.objs.size fA cdv)).units + 64 < cLine := by have := hr.un; omega
    refine ⟨_, (pss_cons (ps_if (pt_cmpR op_gt (pe_callB (r := rSumX K) (cr_sumX rfl) (by rfl) b_sum bb_sum (pa_cons (pe_clS C_level_counts_o hr (by decide) (by rfl) (takes_of rfl rfl rfl rfl) (pa_cons (pv 0) (pa_cons (pv 1) pa_nil))) pa_nil)) (pe_glob (v := .int (4000)) (by rfl) c_MOST_PLACES ⟨_, rfl⟩) (nomark _)) (pss_one (ps_rz k_TooMany R_TooMany (by rfl) (takes_of rfl rfl rfl rfl))) pss_nil)
      pss_never), ?_⟩
    refine st_start (σ' := [some _, some _, none, none, none, none, none]) rfl (fun bk ct => ?_)
    wtm_at "vc"
    rcases q with q | ⟨p, m, rfl, rfl, h2, h7, m3, hm, q⟩
    · exact .inr ⟨D, L, v, n, rfl, S, q⟩
    refine .inl ⟨D, L, (p : Int), (m : Int), rfl, by omega, by omega, by omega, by omega, S, fun ca D1 H1 S1 e1 kca => ?_⟩
    rw [Int.toNat_natCast, Int.toNat_natCast] at kca
    wtm_at "vc"
    exact q _ _ _ k_TooMany.ns S1 e1
abbrev st_level_by_counts : Stmt := topS 29
theorem sc_level_by_counts : FnScope ["p", "counts", "n"] ["p", "counts"] (defScope st_level_by_counts) := ⟨rfl, rfl, rfl, by decide +kernel, rfl, by decide +kernel, by decide +kernel⟩
def sp_level_by_counts (K : PySem.W.Frag) : Sp := fun vs H Q _ => ∃ (D : Hp) (L : Own) (a : Addr) (p n : Nat), vs = [.int (p : Int), .ref a] ∧ Sx D L H ∧ Kn D a (.tup ((lvlC p n).map V.int)) ∧ 2 ≤ p ∧ p ≤ 7 ∧ n ≤ 300 ∧
  ∀ D' H', Sx D' L H' → Sm D D' → Q (.int (n : Int)) H'
theorem ok_level_by_counts {fA : Addr} {fd : FuncData} (F : Fun K "level_by_counts" "level_by_counts" st_level_by_counts fA fd) (b_sum : mg "sum" = none)
    (C_level_counts : Cl P w K mg base CX0 3 "level_counts" ["p", "n"] (sp_level_counts K)) : FnOk P w K mg base CX0 4 fA fd ["p", "counts"] (sp_level_by_counts K) := by
  refine F.ok sc_level_by_counts (fun vs H Q E h => ?_) (fun cdv A outer s H vs Q E hr h => ?_)
  · obtain ⟨D, L, a, p, n, rfl, S, ka, h2, h7, hn, q⟩ := h
    rfl
  · obtain ⟨D, L, a, p, n, rfl, S, ka, h2, h7, hn, q⟩ := h
    have hu : (A.deeper (envOfC "level_by_counts" (defScope st_level_by_counts) s.heap.objs.size fA cdv)).units + 64 < cLine := by have := hr.un; omega
    refine ⟨_, (pss_cons (ps_set (i := 2) sc_level_by_counts.nd rfl (Or.inl rfl) pe_int)
      (pss_cons (ps_while PassesOwn.never (pt_cmpR op_lt (pe_callB (r := rSumX K) (cr_sumX rfl) (by rfl) b_sum bb_sum (pa_cons (pe_cl C_level_counts hr (by decide) (by rfl) (pa_cons (pv 0) (pa_cons (pv 2) pa_nil))) pa_nil)) (pe_callB (r := rSumX K) (cr_sumX rfl) (by rfl) b_sum bb_sum (pa_cons (pv 1) pa_nil)) (nomark _))
      (pss_one (ps_set (i := 2) sc_level_by_counts.nd rfl (Or.inl rfl) (pe_op (r := rAddX K) opAdd (pv 2) pe_int))))
      (pss_cons (ps_if (pt_cmpR (r := rNeX K) (opNe hu) (pe_cl C_level_counts hr (by decide) (by rfl) (pa_cons (pv 0) (pa_cons (pv 2) pa_nil))) (pv 1) (nomark _)) pss_never pss_nil)
      (pss_one (ps_ret (pv 2)))))), ?_⟩
    refine st_start (σ' := [some _, some _, none]) rfl (fun bk ct => ?_)
    wtm_at "vc"
    refine while_go (fun m σ H => ∃ (j : Nat) (D2 : Hp), σ = [some (.int (p : Int)), some (.ref a), some (.int (j : Int))] ∧ Sm D D2 ∧ Sx D2 L H ∧ j ≤ n ∧ m = n - j) _ ⟨0, D, rfl, Sm.rfl', S, Nat.zero_le _, rfl⟩ (fun m σ H1 ⟨j, D2, es, e2, S, hj, hm⟩ => ?_)
    subst es
    wtm_at "vc"
    refine ⟨D2, L, (p : Int), (j : Int), rfl, by omega, by omega, by omega, by omega, S, fun ca D3 H3 S3 e3 kca => ?_⟩
    rw [Int.toNat_natCast, Int.toNat_natCast] at kca
    wtm_at "vc"
    by_cases c : j = n
    · subst c
      rw [if_neg (by rw [decide_eq_false (Int.lt_irrefl _)]; decide)]
      wtm_at "vc"
      refine ⟨D3, L, (p : Int), (j : Int), rfl, by omega, by omega, by omega, by omega, S3, fun cb D4 H4 S4 e4 kcb => ?_⟩
      rw [Int.toNat_natCast, Int.toNat_natCast] at kcb
      wtm_at "vc"
      exact q D4 _ S4 up
    · have hlt : (lvlC p j).sum < (lvlC p n).sum := by
        have h1 := (lvlC_sum h2 j).1
        have h3 := lvlC_mono h2 (m := j + 1) (n := n) (by omega)
        omega
      rw [if_pos (decide_eq_true hlt)]
      refine wh_body fun N hN => ?_
      wtm_at "vc"
      exact hN (n - (j + 1)) _ _ (by omega) ⟨j + 1, D3, rfl, up, S3, by omega, rfl⟩
--@@
def sp_level_by_counts_x (K : PySem.W.Frag) : Sp := fun vs H Q E => ∃ (D : Hp) (L : Own) (v : V) (a : Addr) (cs : List Int), vs = [v, .ref a] ∧ Sx D L H ∧ Kn D a (.tup (cs.map V.int)) ∧ ((OddV 2 7 D v ∧ ∀ C, PySem.W.nsIn K mainGlobals "NoWays" = some (some (.ref C)) → E (.ref C) none H) ∨ (∃ (p m : Nat), v = .int (p : Int) ∧ 2 ≤ p ∧ p ≤ 7 ∧ m ≤ 300 ∧ cs.sum ≤ (lvlC p m).sum ∧ (∀ k, lvlC p k ≠ cs) ∧ ∀ C D' H', PySem.W.nsIn K mainGlobals "NoLevel" = some (some (.ref C)) → Sx D' L H' → Sm D D' → E (.ref C) none H'))
theorem ok_level_by_counts_x {fA : Addr} {fd : FuncData} (F : Fun K "level_by_counts" "level_by_counts" st_level_by_counts fA fd) (b_sum : mg "sum" = none)
    {C_NoLevel : Addr} (k_NoLevel : ClC K mg "NoLevel" C_NoLevel) (R_NoLevel : RzC K C_NoLevel)
    (C_level_counts_o : Cl P w K mg base (L2.CX P w) 3 "level_counts" ["p", "n"] (fun vs H Q E => sp_level_counts K vs H Q E0 ∨ sp_level_counts_x K vs H Q E)) : FnOk P w K mg base (L2.CX P w) 4 fA fd ["p", "counts"] (sp_level_by_counts_x K) := by
  refine F.okX sc_level_by_counts (fun vs H Q E h => ?_) (fun cdv A outer s H vs Q E hr h => ?_)
  · obtain ⟨D, L, v, a, cs, rfl, S, ka, q⟩ := h
    rfl
  · obtain ⟨D, L, v, a, cs, rfl, S, ka, q⟩ := h
    have hu : (A.deeper (envOfC "level_by_counts" (defScope st_level_by_counts) s.heap.objs.size fA cdv)).units + 64 < cLine := by have := hr.un; omega
    refine ⟨_, (pss_cons (ps_set (i := 2) sc_level_by_counts.nd rfl (Or.inl rfl) pe_int)
      (pss_cons (ps_while (passes_of rfl) (pt_cmpR op_lt (pe_callB (r := rSumX K) (cr_sumX rfl) (by rfl) b_sum bb_sum (pa_cons (pe_clS C_level_counts_o hr (by decide) (by rfl) (takes_of rfl rfl rfl rfl) (pa_cons (pv 0) (pa_cons (pv 2) pa_nil))) pa_nil)) (pe_callB (r := rSumX K) (cr_sumX rfl) (by rfl) b_sum bb_sum (pa_cons (pv 1) pa_nil)) (nomark _))
      (pss_one (ps_set (i := 2) sc_level_by_counts.nd rfl (Or.inl rfl) (pe_op (r := rAddX K) opAdd (pv 2) pe_int))))
      (pss_cons (ps_if (pt_cmpR (r := rNeX K) (opNe hu) (pe_clS C_level_counts_o hr (by decide) (by rfl) (takes_of rfl rfl rfl rfl) (pa_cons (pv 0) (pa_cons (pv 2) pa_nil))) (pv 1) (nomark _)) (pss_one (ps_rz k_NoLevel R_NoLevel (by rfl) (takes_of rfl rfl rfl rfl))) pss_nil)
      (pss_one (ps_ret (pv 2)))))), ?_⟩
    refine st_start (σ' := [some _, some _, none]) rfl (fun bk ct => ?_)
    rcases q with ⟨ho, q⟩ | ⟨p, m, rfl, h2, h7, hm3, hm, hno, q⟩
    · wtm_at "vc"
      refine while_go (fun k σ H1 => σ = [some v, some (.ref a), some (.int 0)] ∧ H1 = H) 0 ⟨rfl, rfl⟩ (fun k σ H1 ⟨es, eH⟩ => ?_)
      subst es eH
      wtm_at "vc"
      exact .inr ⟨D, L, v, _, rfl, S, .inl ⟨ho, q⟩⟩
    wtm_at "vc"
    refine while_go (fun k σ H => ∃ (j : Nat) (D2 : Hp), σ = [some (.int (p : Int)), some (.ref a), some (.int (j : Int))] ∧ Sm D D2 ∧ Sx D2 L H ∧ j ≤ m ∧ k = m - j) _ ⟨0, D, rfl, Sm.rfl', S, Nat.zero_le _, rfl⟩ (fun k σ H1 ⟨j, D2, es, e2, S, hj, hk⟩ => ?_)
    subst es
    wtm_at "vc"
    refine .inl ⟨D2, L, (p : Int), (j : Int), rfl, by omega, by omega, by omega, by omega, S, fun ca D3 H3 S3 e3 kca => ?_⟩
    rw [Int.toNat_natCast, Int.toNat_natCast] at kca
    wtm_at "vc"
    by_cases c : (lvlC p j).sum < cs.sum
    rotate_left
    · rw [if_neg (by rw [decide_eq_false c]; decide)]
      wtm_at "vc"
      refine .inl ⟨D3, L, (p : Int), (j : Int), rfl, by omega, by omega, by omega, by omega, S3, fun cb D4 H4 S4 e4 kcb => ?_⟩
      rw [Int.toNat_natCast, Int.toNat_natCast] at kcb
      wtm_at "vc"
      rw [decide_eq_false (hno j)]
      wtm_at "vc"
      exact q _ _ _ k_NoLevel.ns S4 up
    · have hjm : j < m := by
        refine Nat.lt_of_le_of_ne hj fun e => ?_
        subst e
        omega
      rw [if_pos (decide_eq_true c)]
      refine wh_body fun N hN => ?_
      wtm_at "vc"
      exact hN (m - (j + 1)) _ _ (by omega) ⟨j + 1, D3, rfl, up, S3, by omega, rfl⟩
abbrev st_Clash_init : Stmt := (clsBody (topS 13)).getD 0 (.Pass ⟨0, 0, 0, 0⟩)
theorem sc_Clash_init : FnScope ["self", "at"] ["self", "at"] (defScope st_Clash_init) := ⟨rfl, rfl, rfl, by decide +kernel, rfl, by decide +kernel, by decide +kernel⟩
def sp_Clash_init (K : PySem.W.Frag) : Sp := spI K "at"
theorem ok_Clash_init {fA : Addr} {fd : FuncData} (F : Fun K "__init__" "Clash.__init__" st_Clash_init fA fd)
    {C_ReelError : Addr} (k_ReelError : ClC K mg "ReelError" C_ReelError) (CR_ReelError : ClX.CRead K C_ReelError (.type "type")) (fc_ReelError : PySem.W.findCls K (.ref C_ReelError) (.type "type") "__init__" = some (.val (.builtin "ValueError.__init__"))) : FnOk P w K mg base CX0 1 fA fd ["self", "at"] (sp_Clash_init K) := by
  refine F.ok sc_Clash_init (fun vs H Q E h => ?_) (fun cdv A outer s H vs Q E hr h => ?_)
  · obtain ⟨a, C, v, rfl, O, hA, q⟩ := h
    rfl
  · obtain ⟨a, C, v, rfl, O, hA, q⟩ := h
    have hu : (A.deeper (envOfC "Clash.__init__" (defScope st_Clash_init) s.heap.objs.size fA cdv)).units + 64 < cLine := by have := hr.un; omega
    refine ⟨_, (pss_cons (ps_expr (pe_ceinit (pe_glob (v := .ref C_ReelError) (by rfl) k_ReelError.g rfl) CR_ReelError fc_ReelError (pa_cons (pv 0) (pa_cons pe_str pa_nil))))
      (pss_one (ps_ost (pv 0) (pv 1)))), ?_⟩
    refine st_start (σ' := [some _, some _]) rfl (fun bk ct => ?_)
    wtm_at "vc"
    refine ⟨a, C, _, rfl, by show 1 ≤ 1000; decide, O.T, hA, ?_⟩
    exact ⟨_, rfl, _, rfl, a, C, rfl, O.T, O.no, .inl ⟨hA, fun dx h1 h2 => q dx h1 h2⟩⟩
abbrev st_turned_row : Stmt := topS 30
theorem sc_turned_row : FnScope ["rows", "at", "up", "things", "way", "some"] ["rows", "at"] (defScope st_turned_row) := ⟨rfl, rfl, rfl, by decide +kernel, rfl, by decide +kernel, by decide +kernel⟩
def sp_turned_row (K : PySem.W.Frag) : Sp := fun vs H Q _ => ∃ (D : Hp) (L : Own) (a : Addr) (us : List V) (rs : List (Bool × List Int)) (m : Int) (w : TRow), vs = [.ref a, .int m] ∧ Sx D L H ∧ Ml D L a us ∧ RpAll D us (rs.map rpW) ∧ us.length ≤ 10 ∧ ((rs.map (fun s => s.2)).flatten).length ≤ 100000 ∧ mgW m rs = .ok w ∧
  ∀ v D' H', Sx D' L H' → Sm D D' → Rp D' v (twD w) → Q v H'
theorem ok_turned_row {fA : Addr} {fd : FuncData} (F : Fun K "turned_row" "turned_row" st_turned_row fA fd) (b_len : mg "len" = none) (b_sorted : mg "sorted" = none) : FnOk P w K mg base CX0 1 fA fd ["rows", "at"] (sp_turned_row K) := by
  refine F.ok sc_turned_row (fun vs H Q E h => ?_) (fun cdv A outer s H vs Q E hr h => ?_)
  · obtain ⟨D, L, a, us, rs, m, w, rfl, S, ha, hU, hl, hM, hw, q⟩ := h
    rfl
  · obtain ⟨D, L, a, us, rs, m, w, rfl, S, ha, hU, hl, hM, hw, q⟩ := h
    have hu : (A.deeper (envOfC "turned_row" (defScope st_turned_row) s.heap.objs.size fA cdv)).units + 64 < cLine := by have := hr.un; omega
    refine ⟨_, (pss_cons (ps_if (pt_cmpR (r := rEqX K) (opEq hu) (pe_callB (r := rLen K) call_lenN (by rfl) b_len bb_len (pa_cons (pv 0) pa_nil)) pe_int (nomark _)) (pss_one (ps_ret pe_non)) pss_nil)
      (pss_cons (ps_set (i := 2) sc_turned_row.nd rfl (Or.inl rfl) (pe_ix (r := rIx K) ix_seq (pe_ix (r := rIx K) ix_seq (pv 0) pe_int (fun _ _ => rfl)) pe_int (fun _ _ => rfl)))
      (pss_cons (ps_set (i := 3) sc_turned_row.nd rfl (Or.inl rfl) (pe_lst pa_nil))
      (pss_cons (ps_for PassesOwn.never rfl (pi_seqK K (pv 0)) (pg_tupK K 2 rfl (pgs_cons (pg_name (i := 4) sc_turned_row.nd rfl (Or.inl rfl)) (pgs_cons (pg_name (i := 5) sc_turned_row.nd rfl (Or.inl rfl)) pgs_nil)))
      (pss_cons (ps_if (pt_cmpR (r := rNeX K) (opNe hu) (pv 4) (pv 2) (nomark _)) pss_never pss_nil)
      (pss_one (ps_expr (pe_bm PySem.F.plainAttrs_list PySem.F.slot_list_extend PySem.F.type_list_extend mt_extend (pv 3) (pa_cons (pv 5) pa_nil))))))
      (pss_cons (ps_set (i := 3) sc_turned_row.nd rfl (Or.inl rfl) (pe_callB (r := rSortedW K) cr_sortedW (by rfl) b_sorted bb_sorted (pa_cons (pv 3) pa_nil)))
      (Evl.pss_cut (ps_if (pt_val (pv 2)) (pss_one (ps_set (i := 3) sc_turned_row.nd rfl (Or.inl rfl) (pe_revL (pv 3)))) pss_nil)
      (pss_one (ps_ret (pe_tup (pa_cons (pe_notK K (pv 2)) (pa_cons (pv 3) pa_nil))))))))))), ?_⟩
    refine st_start (σ' := [some _, some _, none, none, none, none]) rfl (fun bk ct => ?_)
    have hul := hU.length
    rw [List.length_map] at hul
    rcases mgW_inv hw with ⟨rfl, rfl⟩ | ⟨u, hne, hu, rfl⟩
    · have : us = [] := List.eq_nil_of_length_eq_zero (by rw [hul]; rfl)
      subst this
      wtm_at "vc"
      exact q _ D _ S Sm.rfl' .non
    obtain ⟨r0, rs0, hrs⟩ : ∃ r rs', rs = r :: rs' := by
      cases rs with
      | nil => exact absurd rfl hne
      | cons r rs => exact ⟨r, rs, rfl⟩
    obtain ⟨t0, b0, us0, rfl, kt0, kb0⟩ : ∃ t0 b0 us0, us = .ref t0 :: us0 ∧ Kn D t0 (.tup [.bl u, .ref b0]) ∧ Kn D b0 (.lst (r0.2.map V.int)) := by
      rw [hrs] at hU
      cases hU with
      | cons h1 h2 =>
        obtain ⟨t, b, rfl, k1, k2⟩ := tw_inv h1
        rw [hu r0 (by rw [hrs]; exact List.mem_cons_self)] at k1
        exact ⟨t, b, _, rfl, k1, k2⟩
    have hul3 : us0.length + 1 = rs.length := hul
    generalize hus : V.ref t0 :: us0 = us at *
    have hA0 : AtC us 0 (.ref t0) := ⟨by rw [← hus]; exact atI0 rfl⟩
    wtm_at "vc"
    rename_i th H1 S1
    refine for_go (walk_list (xs := us)) (fun i σ H => ∃ (x4 x5 : Option V), σ = [some (.ref a), some (.int m), some (.bl u), some (.ref th), x4, x5] ∧ Sx D ((th, .lst ((((rs.take i).map (fun s => s.2)).flatten).map V.int)) :: L) H)
      ⟨_, _, rfl, S1⟩ (fun j σ H hj ⟨x4, x5, es, S⟩ => Rds.sq S (Sl.pf (a := a))) (fun j v σ H2 H3 hj ⟨x4, x5, es, S⟩ hy nx bk hN => ?_) (fun σ H2 ⟨x4, x5, es, S⟩ => ?_)
    · obtain ⟨rfl, hv⟩ := hy
      subst es
      obtain ⟨d, hd, hrp⟩ := hU.getV hv
      rw [List.getElem?_map] at hd
      cases hr : rs[j]? with
      | none => rw [hr] at hd; cases hd
      | some r =>
        rw [hr] at hd
        cases hd
        obtain ⟨t, b, rfl, kt, kb⟩ := tw_inv hrp
        rw [hu r (List.mem_of_getElem? hr)] at kt
        have hlen : (((rs.take j).map (fun s => s.2)).flatten).length + r.2.length ≤ 100000 := by
          have e : rs = rs.take j ++ rs.drop j := (List.take_append_drop j rs).symm
          have hjl := (List.getElem?_eq_some_iff.mp hr).1
          rw [List.drop_eq_getElem_cons hjl, (List.getElem?_eq_some_iff.mp hr).2] at e
          rw [e, List.map_append, List.flatten_append, List.map_cons, List.flatten_cons, List.length_append, List.length_append] at hM
          omega
        wtm_at "vc"
        refine r_neB ?_
        rw [show (u != u) = false by cases u <;> rfl]
        wtm_at "vc"
        rename_i H4 S4
        refine hN _ _ ⟨_, _, rfl, ?_⟩
        rw [tk_sn hr, List.map_append, List.flatten_append, List.map_append]
        have e1 : ((List.map (fun s : Bool × List Int => s.2) [r]).flatten).map V.int = r.2.map V.int := by simp only [List.map_cons, List.map_nil, List.flatten_cons, List.flatten_nil, List.append_nil]
        rw [e1]
        exact S4
    subst es
    rw [hul, List.take_length] at S
    generalize hX : (List.map (fun s : Bool × List Int => s.2) rs).flatten = X at *
    wtm_at "vc"
    rename_i ns' hp hs th2 H3 S3
    have hsu := srtI_uniq hp hs
    subst hsu
    refine s_cut (fun σ H => ∃ (th3 : Addr), σ = [some (.ref a), some (.int m), some (.bl u), some (.ref th3), x4, x5] ∧ Sx D ((th3, .lst ((srW (!u) X).map V.int)) :: L) H) (fun nx hN => ?_) (fun σ H ⟨th3, es, S⟩ => ?_)
    · cases u
      · wtm_at "vc"
        refine hN _ _ ⟨th2, rfl, ?_⟩
        show Sx D ((th2, .lst ((srtI X).map V.int)) :: L) H3
        exact Sx.gc (S := S3)
      · wtm_at "vc"
        rename_i th4 H4 S4
        refine hN _ _ ⟨th4, rfl, ?_⟩
        show Sx D ((th4, .lst ((srtI X).reverse.map V.int)) :: L) H4
        rw [List.map_reverse]
        exact Sx.gc (S := S4)
    subst es
    obtain ⟨D5, e5, k5, S5⟩ := Sx.fix1 (a := th3) (S := S)
    wtm_at "vc"
    rename_i t6 D6 H6 S6 e6 k6
    refine q (.ref t6) D6 _ S6 up ?_
    exact tw_mk (u := !u) k6 inferInstance
abbrev st_turned_play : Stmt := topS 31
theorem sc_turned_play : FnScope ["p", "reels", "n", "reel", "here", "order", "out", "read", "at", "turn", "k", "rows", "row", "last"] ["p", "reels"] (defScope st_turned_play) := ⟨rfl, rfl, rfl, by decide +kernel, rfl, by decide +kernel, by decide +kernel⟩
def sp_turned_play (K : PySem.W.Frag) : Sp := fun vs H Q _ => ∃ (D : Hp) (L : Own) (a : Addr) (us : List V) (Rs : List (List TRow)) (p n : Nat) (sE : TSt TRow (List Int × Int)), vs = [.int (p : Int), .ref a] ∧ Sx D L H ∧ Ks D a us ∧ TuA D us Rs ∧ 2 ≤ p ∧ p ≤ 7 ∧ n ≤ 300 ∧ (lvlC p n).sum ≤ 4000 ∧ Rs.map (fun r => (r.length : Int)) = lvlC p n ∧ (Rs.flatten.map lnW).sum ≤ 100000 ∧
  tnT finW n ((List.range p, p), ((fun r => Rs.getD r []), (List.replicate (p + 1) 0, 0))) = .ok sE ∧
  ∀ (t : Addr) (lv : V) (rb : Addr) (O : Own) D' H', Sx D' (O ++ (rb, .lst (sE.2.2.1.map V.int)) :: L) H' → Sm D D' → Kn D' t (.tup [lv, .ref rb]) → ltW D' lv O ((sE.2.1 (sE.1.1.headD 0)).headD none) → Q (.ref t) H'
theorem ok_turned_play {fA : Addr} {fd : FuncData} (F : Fun K "turned_play" "turned_play" st_turned_play fA fd) (b_len : mg "len" = none) (b_list : mg "list" = none) (b_range : mg "range" = none) (b_tuple : mg "tuple" = none)
    (C_level_by_counts : Cl P w K mg base CX0 4 "level_by_counts" ["p", "counts"] (sp_level_by_counts K))
    (C_turned_row : Cl P w K mg base CX0 1 "turned_row" ["rows", "at"] (sp_turned_row K)) : FnOk P w K mg base CX0 5 fA fd ["p", "reels"] (sp_turned_play K) := by
  refine F.ok sc_turned_play (fun vs H Q E h => ?_) (fun cdv A outer s H vs Q E hr h => ?_)
  · obtain ⟨D, L, a, us, Rs, p, n, sE, rfl, S, ha, hTu, h2, h7, hn, hs4, hRl, hM, hrun, q⟩ := h
    rfl
  · obtain ⟨D, L, a, us, Rs, p, n, sE, rfl, S, ha, hTu, h2, h7, hn, hs4, hRl, hM, hrun, q⟩ := h
    have hu : (A.deeper (envOfC "turned_play" (defScope st_turned_play) s.heap.objs.size fA cdv)).units + 64 < cLine := by have := hr.un; omega
    refine ⟨_, (pss_cons (ps_set (i := 2) sc_turned_play.nd rfl (Or.inl rfl) (pe_cl C_level_by_counts hr (by decide) (by rfl) (pa_cons (pv 0) (pa_cons (pe_callTy (r := rTupOf K) call_tupN (by rfl) b_tuple bb_tuple (pa_cons (pe_lc (own := [("reel", 3)]) (tt := tYes) rfl sc_turned_play.nd (pi_seqK K (pv 1)) (blkOk_by (N := ["p", "reels", "n", "reel", "here", "order", "out", "read", "at", "turn", "k", "rows", "row", "last"]) (sc := defScope st_turned_play) (by decide +kernel)) (fun _ _ _ _ _ => (pg_name (i := 3) sc_turned_play.nd rfl (Or.inl rfl))) (fun _ _ _ _ _ => pts_nil) (fun _ _ _ _ _ => (pe_callB (r := rLen K) call_lenN (by rfl) b_len bb_len (pa_cons (pv 3) pa_nil)))) pa_nil)) pa_nil))))
      (pss_cons (ps_set (i := 4) sc_turned_play.nd rfl (Or.inl rfl) (pe_op (r := rAddX K) opAdd (pe_lc (own := [("reel", 3)]) (tt := tYes) rfl sc_turned_play.nd (pi_seqK K (pv 1)) (blkOk_by (N := ["p", "reels", "n", "reel", "here", "order", "out", "read", "at", "turn", "k", "rows", "row", "last"]) (sc := defScope st_turned_play) (by decide +kernel)) (fun _ _ _ _ _ => (pg_name (i := 3) sc_turned_play.nd rfl (Or.inl rfl))) (fun _ _ _ _ _ => pts_nil) (fun _ _ _ _ _ => (pe_callTy (r := rLstOf K) call_lstN (by rfl) b_list bb_list (pa_cons (pv 3) pa_nil)))) (pe_lst (pa_cons (pe_lst pa_nil) pa_nil))))
      (pss_cons (ps_set (i := 5) sc_turned_play.nd rfl (Or.inl rfl) (pe_listRg rfl (by rfl) b_list (prg_1 (by rfl) b_range (pv 0))))
      (pss_cons (ps_set (i := 6) sc_turned_play.nd rfl (Or.inl rfl) (pv 0))
      (pss_cons (ps_set (i := 7) sc_turned_play.nd rfl (Or.inl rfl) (pe_op (r := rMulU K) opMulU (pe_lst (pa_cons pe_int pa_nil)) (pe_op (r := rAddX K) opAdd (pv 0) pe_int)))
      (pss_cons (ps_set (i := 8) sc_turned_play.nd rfl (Or.inl rfl) pe_int)
      (pss_cons (ps_for PassesOwn.never rfl (pi_range1 (by rfl) b_range (pa_cons (pv 2) pa_nil)) (pg_name (i := 9) sc_turned_play.nd rfl (Or.inl rfl))
      (pss_cons (ps_for PassesOwn.never rfl (pi_range1 (by rfl) b_range (pa_cons (pe_callB (r := rLen K) call_lenN (by rfl) b_len bb_len (pa_cons (pe_ix (r := rIx K) ix_seq (pv 4) (pe_ix (r := rIx K) ix_seq (pv 5) (pe_un un_neg pe_int) (fun _ _ => rfl)) (fun _ _ => rfl)) pa_nil)) pa_nil)) (pg_name (i := 10) sc_turned_play.nd rfl (Or.inl rfl))
      (pss_cons (ps_set (i := 11) sc_turned_play.nd rfl (Or.inl rfl) (pe_lst pa_nil))
      (pss_cons (ps_for PassesOwn.never rfl (pi_seqK K (pv 5)) (pg_name (i := 3) sc_turned_play.nd rfl (Or.inl rfl))
      (pss_cons (ps_set (i := 12) sc_turned_play.nd rfl (Or.inl rfl) (pe_bm0 PySem.F.plainAttrs_list PySem.F.slot_list_pop PySem.F.type_list_pop mt_pop (pe_ix (r := rIx K) ix_seq (pv 4) (pv 3) (fun _ _ => rfl))))
      (pss_one (ps_if (pt_cmpR op_notN1 (pv 12) pe_non (nomark _)) (pss_cons (ps_expr (pe_bm PySem.F.plainAttrs_list PySem.F.slot_list_append PySem.F.type_list_append mt_append (pv 11) (pa_cons (pv 12) pa_nil)))
      (pss_one (ps_asg (pe_op (r := rAddX K) opAdd (pe_ix (r := rIx K) ix_seq (pv 7) (pv 3) (fun _ _ => rfl)) (pe_callB (r := rLen K) call_lenN (by rfl) b_len bb_len (pa_cons (pe_ix (r := rIx K) ix_seq (pv 12) pe_int (fun _ _ => rfl)) pa_nil))) (pg_sub (pv 7) (pv 3) set_list)))) pss_nil))))
      (pss_cons (ps_expr (pe_bm PySem.F.plainAttrs_list PySem.F.slot_list_append PySem.F.type_list_append mt_append (pe_ix (r := rIx K) ix_seq (pv 4) (pv 6) (fun _ _ => rfl)) (pa_cons (pe_cl C_turned_row hr (by decide) (by rfl) (pa_cons (pv 11) (pa_cons (pv 8) pa_nil))) pa_nil)))
      (pss_one (ps_set (i := 8) sc_turned_play.nd rfl (Or.inl rfl) (pe_op (r := rAddX K) opAdd (pv 8) pe_int)))))))
      (pss_cons (ps_set (i := 5) sc_turned_play.nd rfl (Or.inl rfl) (pe_op (r := rAddX K) opAdd (pe_lst (pa_cons (pv 6) pa_nil)) (pv 5)))
      (pss_one (ps_set (i := 6) sc_turned_play.nd rfl (Or.inl rfl) (pe_bm0 PySem.F.plainAttrs_list PySem.F.slot_list_pop PySem.F.type_list_pop mt_pop (pv 5)))))))
      (pss_cons (ps_set (i := 13) sc_turned_play.nd rfl (Or.inl rfl) (pe_ix (r := rIx K) ix_seq (pe_ix (r := rIx K) ix_seq (pv 4) (pe_ix (r := rIx K) ix_seq (pv 5) pe_int (fun _ _ => rfl)) (fun _ _ => rfl)) pe_int (fun _ _ => rfl)))
      (Evl.pss_cut (ps_if (pt_cmpR op_notN1 (pv 13) pe_non (nomark _)) (pss_one (ps_set (i := 13) sc_turned_play.nd rfl (Or.inl rfl) (pe_tup (pa_cons (pe_ix (r := rIx K) ix_seq (pv 13) pe_int (fun _ _ => rfl)) (pa_cons (pe_callTy (r := rLstOf K) call_lstN (by rfl) b_list bb_list (pa_cons (pe_ix (r := rIx K) ix_seq (pv 13) pe_int (fun _ _ => rfl)) pa_nil)) pa_nil))))) pss_nil)
      (pss_one (ps_ret (pe_tup (pa_cons (pv 13) (pa_cons (pv 7) pa_nil)))))))))))))), ?_⟩
    refine st_start (σ' := [some _, some _, none, none, none, none, none, none, none, none, none, none, none, none]) rfl (fun bk ct => ?_)
    have hp1 : 1 ≤ p := by omega
    have hul := hTu.len
    have hRp : Rs.length = p := by rw [← lvlC_len hp1 n, ← hRl, List.length_map]
    have hRb : ∀ R, R ∈ Rs → R.length ≤ 4000 := fun R hR => by
      have h1 : (R.length : Int) ∈ lvlC p n := by rw [← hRl]; exact List.mem_map_of_mem (f := fun r : List TRow => (r.length : Int)) hR
      have h3 := le_sumN (lvlC_nn p n) h1
      omega
    have hC0 := cf_start hp1 hRl
    have hI0 : InvM p 100000 (List.replicate (p + 1) 0, 0) (prsO (trnN p n) [] (List.range p) p (fun r => Rs.getD r [])) := by
      rw [prs_start hp1 hRl]
      exact ⟨List.length_replicate, Int.le_refl 0, Nat.le_trans (sum_zip_le lnW _ _) hM⟩
    wtm_at "vc"
    rename_i J1 G1 w1 hG1
    refine lc_vals (S := S) w1 (by omega) ((lvlC p n).map V.int) (by rw [List.length_map, lvlC_len hp1]; omega) (fun p9 acc H' S' => hG1 _ _ _ S' Sm.rfl') (fun i v q2 acc H3 H4 hi S3 hy Ad hA => ?_) (fun lb H3 S3 => ?_)
    · obtain ⟨rfl, hv⟩ := hy
      obtain ⟨c, cs, R, rfl, hR, kc, hc⟩ := hTu.get hv
      have hcl := hc.length
      rw [List.length_map] at hcl
      wtm_at "vc"
      exact hA _ _ S3 (by rw [← hRl, List.getElem?_map, List.getElem?_map, hR, hcl]; rfl)
    wtm_at "vc"
    rename_i tt D1 H4 S4 e1 kt
    refine ⟨D1, _, tt, p, n, rfl, S4, kt, h2, h7, hn, fun D2 H5 S5 e2 => ?_⟩
    have S6 : Sx D2 L H5 := Sx.gc (S := S5)
    clear S5 S4 S3
    wtm_at "vc"
    rename_i J2 G2 w2 hG2
    refine lc_goL (S := S6) w2 (by omega) (fun i acc D' L' => D' = D2 ∧ ∃ (ads : List Addr) (wss : List (List V)), acc = ads.map V.ref ∧ ads.length = i ∧ wss.length = i ∧ L' = ownZ ads wss ++ L ∧ ∀ (j : Nat) (ws : List V), wss[j]? = some ws → RpAll D2 ws ((Rs.getD j []).map twD)) ⟨rfl, [], [], rfl, rfl, rfl, rfl, fun j ws h => by simp at h⟩ (fun D' L' p9 acc H' e' S' => hG2 _ _ _ S' e') (fun i v q2 acc D6 L6 H6 H7 hi e6 S7 hR6 hy Ad Sk hA hS => ?_) (fun hl D6 acc L6 H6 e6 S7 hR6 => ?_)
    · obtain ⟨rfl, hv⟩ := hy
      obtain ⟨rfl, ads, wss, rfl, hal, hwl, rfl, hW⟩ := hR6
      obtain ⟨c, cs, R, rfl, hR, kc, hc⟩ := hTu.get hv
      have hcl := hc.length
      have hRl2 := hRb R (List.mem_of_getElem? hR)
      rw [List.length_map] at hcl
      wtm_at "vc"
      rename_i l1 H8 S8
      refine hA _ D6 _ _ Sm.rfl' (Sx.perm S8 ((List.Perm.swap _ _ _).trans ((List.perm_middle.symm).cons _))) ⟨rfl, ads ++ [l1], wss ++ [cs], by rw [List.map_append]; rfl, by rw [List.length_append, hal]; rfl, by rw [List.length_append, hwl]; rfl, by rw [ownZ_sn2 (by omega), List.append_assoc]; rfl, fun j ws hj => ?_⟩
      rw [List.getElem?_append] at hj
      split at hj
      · exact hW j ws hj
      · have hji : j = i := by
          have := (List.getElem?_eq_some_iff.mp hj).1
          simp only [List.length_cons, List.length_nil] at this
          omega
        subst hji
        rw [hwl, Nat.sub_self] at hj
        cases hj
        rw [List.getD_eq_getElem?_getD, hR]
        exact hc.up (up : Sm D D6).e
    obtain ⟨rfl, ads, wss, rfl, hal, hwl, rfl, hW⟩ := hR6
    have hml : (ads.map V.ref).length ≤ 10 := by rw [List.length_map]; omega
    wtm_at "vc"
    rename_i e9 H8 S8 w9 H9 S9 he H10 S10
    refine ⟨RgOk.of_le (by decide) (by omega) (by decide) (by omega), fun ob hob => ?_⟩
    have S11 := S10.new (o := .lst (rgV 0 (p : Int))) hob
    have er : rgV 0 (p : Int) = (List.range p).map fun r : Nat => V.int (r : Int) := by
      unfold rgV
      rw [show ((p : Int) - 0).toNat = p by omega]
      exact List.map_congr_left fun k _ => by rw [Int.zero_add]
    rw [er] at S11 ⊢
    generalize hH11 : upd H10 ob (HO.lst ((List.range p).map fun r : Nat => V.int (r : Int))) = H11 at *
    have S12 : Sx D6 ((he, HO.lst (ads.map V.ref ++ [V.ref e9])) :: (ob, HO.lst ((List.range p).map fun r : Nat => V.int (r : Int))) :: (ownZ (ads ++ [e9]) (wss ++ [[]]) ++ L)) H11 := by
      rw [ownZ_sn2 (by omega), List.append_assoc]
      refine Sx.perm (L := (he, HO.lst (ads.map V.ref ++ [V.ref e9])) :: (ob, HO.lst ((List.range p).map fun r : Nat => V.int (r : Int))) :: (e9, HO.lst []) :: (ownZ ads wss ++ L)) ?_ (((List.perm_middle.symm.cons _).cons _))
      have S13 := Sx.front (a := e9) (S := S11)
      have S14 := Sx.front (a := ob) (S := S13)
      have S15 := Sx.front (a := he) (S := S14)
      exact Sx.gc (S := S15)
    obtain ⟨D4, e4, khe0, S0⟩ := Sx.fix1 (a := he) (S := S12)
    have hR0' : RsT D4 twD p (wss ++ [[]]) (fun r => Rs.getD r []) := by
      refine ⟨by rw [List.length_append, hwl, hul, hRp]; rfl, fun j ws hj => ?_⟩
      rw [List.getElem?_append] at hj
      split at hj
      · exact (hW j ws hj).up e4.e
      · have hji : j = p := by
          have := (List.getElem?_eq_some_iff.mp hj).1
          simp only [List.length_cons, List.length_nil] at this
          omega
        subst hji
        rw [hwl, hul, hRp, Nat.sub_self] at hj
        cases hj
        show RpAll D4 [] ((Rs.getD j []).map twD)
        rw [List.getD_eq_getElem?_getD, List.getElem?_eq_none (by omega)]
        exact .nil
    have khe : Kn D4 he (.lst ((ads ++ [e9]).map V.ref)) := ⟨by rw [List.map_append]; exact khe0.pf⟩
    generalize hads2 : ads ++ [e9] = ads2 at *
    generalize hwss2 : wss ++ [[]] = wss2 at *
    clear S S6 S7 S8 S9 S10 S11 S12 khe0
    have hal2 : ads2.length = p + 1 := by rw [← hads2, List.length_append, hal, hul, hRp]; rfl
    wtm_at "vc"
    rename_i z9 H12 S12 rb H13 S13
    have S14 : Sx D4 ((ob, HO.lst ((List.range p).map fun r : Nat => V.int (r : Int))) :: (rb, .lst ((List.replicate (p + 1) (0 : Int)).map V.int)) :: (ownZ ads2 wss2 ++ L)) H13 := by
      have S15 := Sx.front (a := ob) (S := S13)
      rw [List.map_replicate]
      rw [show ((p : Int) + 1).toNat = p + 1 by omega] at S15
      exact Sx.gc (S := S15)
    clear S13 S12 S0
    refine for_go (walk_rng (lo := 0) (n := n)) (fun t σ H => ∃ (D5 : Hp) (ob : Addr) (o : List Nat) (out : Nat) (wss : List (List V)) (h : Nat → List TRow) (g : List Int × Int) (x3 x9 x10 x11 x12 : Option V), σ = [some (.int (p : Int)), some (.ref a), some (.int (n : Int)), x3, some (.ref he), some (.ref ob), some (.int (out : Int)), some (.ref rb), some (.int g.2), x9, x10, x11, x12, none] ∧ Sm D4 D5 ∧ Sx D5 ((ob, .lst (o.map fun r : Nat => V.int (r : Int))) :: (rb, .lst (g.1.map V.int)) :: (ownZ ads2 wss ++ L)) H ∧ RsT D5 twD p wss h ∧ tnT finW t ((List.range p, p), ((fun r => Rs.getD r []), (List.replicate (p + 1) 0, 0))) = .ok ((o, out), (h, g)))
      ⟨D4, ob, List.range p, p, wss2, (fun r => Rs.getD r []), (List.replicate (p + 1) 0, 0), _, _, _, _, _, rfl, Sm.rfl', S14, hR0', rfl⟩ (fun _ _ _ _ _ => trivial) (fun t v σ H6 H7 ht ⟨D5, ob, o, out, wss, h, g, x3, x9, x10, x11, x12, es, e5, S, hR5, et⟩ hy nx bk hN => ?_) (fun σ H6 ⟨D5, ob, o, out, wss, h, g, x3, x9, x10, x11, x12, es, e5, S, hR5, et⟩ => ?_)
    · obtain ⟨rfl, rfl⟩ := hy
      subst es
      have hrun2 : ∀ m, m ≤ n → ∃ q, tnT finW m ((List.range p, p), ((fun r => Rs.getD r []), (List.replicate (p + 1) 0, 0))) = .ok q := fun m hm => tnT_pre hrun hm
      obtain ⟨c1, i1⟩ := tnT_inv (fin := finW) (Inv := InvM p 100000) hp1 invM_perm (fun g T k rest _ _ _ hI g' w hw => invM_step g T k rest hI g' w hw) hC0 hI0 t (by omega) _ et
      obtain ⟨r0, rs, hrr⟩ := trn_split hp1 (n - (t + 1))
      have h0 : ∀ k, k ∈ r0 → (0 : Int) ≤ k := fun k hk => trnN_pos (p := p) (n - (t + 1)) r0 (by rw [hrr]; exact List.mem_cons_self) k hk
      have hnn : n - t = (n - (t + 1)) + 1 := by omega
      rw [hnn, trnN_suc hrr] at c1 i1
      dsimp only at c1 i1
      obtain ⟨o', l, rfl, hgl, hll⟩ := turn_len c1
      have hlv : (lvlC p (n - (t + 1) + 1)).sum ≤ 4000 := by
        have := lvlC_mono h2 (m := n - (t + 1) + 1) (n := n) (by omega)
        omega
      have hr0 : r0.length ≤ 4000 := by
        have := cf_len hp1 hrr c1 (r := l) (List.mem_append_right _ List.mem_cons_self)
        omega
      have hlp : l ≤ p := c1.le l (List.mem_cons_of_mem _ (List.mem_append_right _ List.mem_cons_self))
      have hol : (o' ++ [l]).length = p := c1.ol
      have holm : ((o' ++ [l]).map fun r : Nat => V.int (r : Int)).length ≤ 10 := by rw [List.length_map]; omega
      obtain ⟨no, ndo⟩ := List.nodup_cons.mp c1.nd
      obtain ⟨wl, hwl, hwR⟩ := hR5.get hlp
      obtain ⟨al, hala⟩ : ∃ al, ads2[l]? = some al := ⟨_, List.getElem?_eq_getElem (by omega)⟩
      have hwll : wl.length = r0.length := by rw [hwR.length, List.length_map, hll]
      have hAl : AtC ((o' ++ [l]).map fun r : Nat => V.int (r : Int)) (-1) (.int (l : Int)) := ⟨by rw [List.map_append]; exact atI_last _ _⟩
      have hAh : AtC (ads2.map V.ref) (l : Int) (.ref al) := ⟨atN (by omega) (by rw [List.getElem?_map, Int.toNat_natCast, hala]; rfl)⟩
      have hsl : Sl K D5 ((ob, HO.lst ((o' ++ [l]).map fun r : Nat => V.int (r : Int))) :: (rb, HO.lst (g.1.map V.int)) :: (ownZ ads2 wss ++ L)) al wl := ⟨.inl ⟨l + 2, by
        show (ownZ ads2 wss ++ L)[l]? = _
        rw [List.getElem?_append_left (by unfold ownZ; rw [List.length_zipWith, hR5.1]; omega)]
        exact ownZ_get hala hwl⟩⟩
      wtm_at "vc"
      rw [hwll, Int.toNat_natCast]
      obtain ⟨qn, hqn⟩ := tnT_pre hrun (m := t + 1) (by omega)
      obtain ⟨qt, hqt⟩ := tnT_at et hqn
      rw [hll] at hqt
      refine for_go (walk_rng (lo := 0) (n := r0.length)) (fun j σ H => ∃ (D6 : Hp) (wss : List (List V)) (h' : Nat → List TRow) (g' : List Int × Int) (x3 x10 x11 x12 : Option V), σ = [some (.int (p : Int)), some (.ref a), some (.int (n : Int)), x3, some (.ref he), some (.ref ob), some (.int (out : Int)), some (.ref rb), some (.int g'.2), some (.int (0 + (t : Int))), x10, x11, x12, none] ∧ Sm D5 D6 ∧ Sx D6 ((ob, .lst ((o' ++ [l]).map fun r : Nat => V.int (r : Int))) :: (rb, .lst (g'.1.map V.int)) :: (ownZ ads2 wss ++ L)) H ∧ RsT D6 twD p wss h' ∧ itT finW (o' ++ [l]) out j (h, g) = .ok (h', g'))
        ⟨D5, wss, h, g, _, _, _, _, rfl, Sm.rfl', S, hR5, rfl⟩ (fun _ _ _ _ _ => trivial) (fun j v σ H8 H9 hj ⟨D6, wss, h', g', x3, x10, x11, x12, es, e6, S, hR6, e7⟩ hy nx bk hN2 => ?_) (fun σ H8 ⟨D6, wss, h', g', x3, x10, x11, x12, es, e6, S, hR6, e7⟩ => ?_)
      · obtain ⟨rfl, rfl⟩ := hy
        subst es
        obtain ⟨c2, i2⟩ := itT_inv invM_perm (fun g T k rest _ _ _ hI g' w hw => invM_step g T k rest hI g' w hw) h0 c1 i1 j (by omega) h' g' e7
        obtain ⟨qj, hqj⟩ := itT_pre hqt (m := j + 1) (by omega)
        obtain ⟨g2, w2, hfin⟩ := itT_at e7 hqj
        obtain ⟨hmg, rfl⟩ := finW_inv hfin
        obtain ⟨k0, hk0⟩ : ∃ k, r0[j]? = some k := ⟨_, List.getElem?_eq_getElem (by omega)⟩
        have c3 := c2
        have i3 := i2
        rw [nmT_step rs hk0] at c3 i3
        obtain ⟨pz, _, pf1⟩ := mg_top c3
        have htop := invM_top (invM_perm _ _ _ pz i3)
        have hgl1 : g'.1.length = p + 1 := i2.ln
        wtm_at "vc"
        rename_i ro H11 S11
        refine for_go (walk_list (xs := (o' ++ [l]).map fun r : Nat => V.int (r : Int))) (fun i σ H => ∃ (wss : List (List V)) (us : List V) (x3 x12 : Option V), σ = [some (.int (p : Int)), some (.ref a), some (.int (n : Int)), x3, some (.ref he), some (.ref ob), some (.int (out : Int)), some (.ref rb), some (.int g'.2), some (.int (0 + (t : Int))), some (.int (0 + (j : Int))), some (.ref ro), x12, none] ∧ Sx D6 ((ro, .lst us) :: (ob, .lst ((o' ++ [l]).map fun r : Nat => V.int (r : Int))) :: (rb, .lst ((rdW g'.1 (topO ((o' ++ [l]).take i) h')).map V.int)) :: (ownZ ads2 wss ++ L)) H ∧ RsT D6 twD p wss (popO ((o' ++ [l]).take i) h') ∧ RpAll D6 us ((rwW (topO ((o' ++ [l]).take i) h')).map rpW) ∧ us.length ≤ i)
          ⟨wss, [], _, _, rfl, S11, by rw [List.take_zero]; exact ⟨hR6.1, fun i ws hi => by rw [pop_nn h' (List.not_mem_nil)]; exact hR6.2 i ws hi⟩, .nil, Nat.le_refl _⟩ (fun i σ H hi ⟨wss, us, x3, x12, es, S, _⟩ => Rds.sq S rs1) (fun i v σ H12 H13 hi ⟨wss, us, x3, x12, es, S, hRi, hU, hul5⟩ hy nx bk hN3 => ?_) (fun σ H12 ⟨wss, us, x3, x12, es, S, hRi, hU, hul5⟩ => ?_)
        · obtain ⟨rfl, hv⟩ := hy
          subst es
          rw [List.getElem?_map] at hv
          cases hr : (o' ++ [l])[i]? with
          | none => rw [hr] at hv; cases hv
          | some r =>
            rw [hr] at hv
            cases hv
            have hrm := List.mem_of_getElem? hr
            have hil := (List.getElem?_eq_some_iff.mp hr).1
            have hrp : r ≤ p := c2.le r (List.mem_cons_of_mem _ hrm)
            have hrg := cf_ge c2 hrm
            obtain ⟨x, hx, _⟩ := last_of (A := h' r) (n := (h' r).length - 1) (by omega)
            obtain ⟨ws, hws, hwsR⟩ := hRi.get hrp
            rw [pop_at h' ndo hr] at hwsR
            obtain ⟨us2, v, rfl, hus, hvv⟩ := ra_last hwsR hx
            obtain ⟨ar, har⟩ : ∃ ar, ads2[r]? = some ar := ⟨_, List.getElem?_eq_getElem (by omega)⟩
            have hAr : AtC (ads2.map V.ref) (r : Int) (.ref ar) := ⟨atN (by omega) (by rw [List.getElem?_map, Int.toNat_natCast, har]; rfl)⟩
            have S12 := Sx.perm S (((((ownZ_front (L := L) har hws).cons _).trans (List.Perm.swap _ _ _)).cons _ |>.trans (List.Perm.swap _ _ _)).cons _ |>.trans (List.Perm.swap _ _ _))
            have hback : ∀ {z1 z2 z3 : Addr × HO} {H : Hp}, Sx D6 ((ar, .lst us2) :: z1 :: z2 :: z3 :: (ownZ (ads2.eraseIdx r) (wss.eraseIdx r) ++ L)) H → Sx D6 (z1 :: z2 :: z3 :: (ownZ ads2 (wss.set r us2) ++ L)) H := fun S => by
              refine Sx.perm S ?_
              refine (List.Perm.swap _ _ _).trans (List.Perm.cons _ ?_)
              refine (List.Perm.swap _ _ _).trans (List.Perm.cons _ ?_)
              refine (List.Perm.swap _ _ _).trans (List.Perm.cons _ ?_)
              exact ownZ_back har (List.getElem?_eq_some_iff.mp hws).1
            have hput : RsT D6 twD p (wss.set r us2) (popO ((o' ++ [l]).take (i + 1)) h') := RsT.put hRi (by rw [pop_eq h' hr]; exact hus) fun q hq => pop_ne h' hr hq
            have hrdl : (rdW g'.1 (topO ((o' ++ [l]).take i) h')).length = p + 1 := by rw [rdW_len]; exact hgl1
            have hAq : AtC ((rdW g'.1 (topO ((o' ++ [l]).take i) h')).map V.int) (r : Int) (.int ((rdW g'.1 (topO ((o' ++ [l]).take i) h')).getD r 0)) := ⟨atN (by omega) (mapI (by rw [Int.toNat_natCast, List.getD_eq_getElem?_getD, List.getElem?_eq_getElem (by omega)]; rfl))⟩
            have htsn := top_sn hr hx
            cases x with
            | none =>
              cases hvv
              wtm_at "vc"
              rename_i H14 S15
              refine hN3 _ _ ⟨wss.set r us2, us, _, _, rfl, ?_, hput, ?_, by omega⟩
              · rw [htsn, rdW_sn]
                exact hback S15
              · rw [htsn, rwW_sn, List.append_nil]
                exact hU
            | some rw_ =>
              obtain ⟨tt2, tb2, rfl, ktt2, ktb2⟩ := tw_inv hvv
              wtm_at "vc"
              rename_i H14 S15 H15 S16 H16 S17
              refine hN3 _ _ ⟨wss.set r us2, us ++ [.ref tt2], _, _, rfl, ?_, hput, ?_, by rw [List.length_append, List.length_singleton]; omega⟩
              · rw [htsn, rdW_sn]
                show Sx D6 (_ :: _ :: (rb, HO.lst (((rdW g'.1 (topO ((o' ++ [l]).take i) h')).set r ((rdW g'.1 (topO ((o' ++ [l]).take i) h')).getD r 0 + (rw_.2.length : Int))).map V.int)) :: _) H16
                rw [List.map_set]
                exact hback S17
              · rw [htsn, rwW_sn, List.map_append]
                exact RpAll.app hU (.cons hvv .nil)
        rw [List.length_map, List.take_length] at S hRi hU
        rw [List.length_map] at hul5
        subst es
        have houtp : out ≤ p := c2.le out List.mem_cons_self
        obtain ⟨wo, hwo, hwoR⟩ := hRi.get houtp
        rw [pop_nn h' no] at hwoR
        have hwol := hwoR.length
        rw [List.length_map, c2.lo, List.length_take] at hwol
        obtain ⟨ao, hao⟩ : ∃ ao, ads2[out]? = some ao := ⟨_, List.getElem?_eq_getElem (by omega)⟩
        have hAo : AtC (ads2.map V.ref) (out : Int) (.ref ao) := ⟨atN (by omega) (by rw [List.getElem?_map, Int.toNat_natCast, hao]; rfl)⟩
        have S17 := Sx.perm S (((((ownZ_front (L := L) hao hwo).cons _).trans (List.Perm.swap _ _ _)).cons _ |>.trans (List.Perm.swap _ _ _)).cons _ |>.trans (List.Perm.swap _ _ _))
        wtm_at "vc"
        refine ⟨D6, _, ro, us, rwW (topO (o' ++ [l]) h'), g'.2, w2, rfl, S17, inferInstance, hU, by omega, by rw [rwW_len]; exact htop, hmg, fun v D7 H14 S18 e7' hv => ?_⟩
        wtm_at "vc"
        rename_i H15 S19
        have S20 : Sx D7 ((ob, .lst ((o' ++ [l]).map fun r : Nat => V.int (r : Int))) :: (rb, .lst ((rdW g'.1 (topO (o' ++ [l]) h')).map V.int)) :: (ownZ ads2 (wss.set out (wo ++ [v])) ++ L)) H15 := by
          refine Sx.perm (Sx.gc (S := S19) (L := (ao, .lst (wo ++ [v])) :: (ob, .lst ((o' ++ [l]).map fun r : Nat => V.int (r : Int))) :: (rb, .lst ((rdW g'.1 (topO (o' ++ [l]) h')).map V.int)) :: (ownZ (ads2.eraseIdx out) (wss.eraseIdx out) ++ L))) ?_
          refine (List.Perm.swap _ _ _).trans (List.Perm.cons _ ?_)
          refine (List.Perm.swap _ _ _).trans (List.Perm.cons _ ?_)
          exact ownZ_back hao (List.getElem?_eq_some_iff.mp hwo).1
        refine hN2 _ _ ⟨D7, wss.set out (wo ++ [v]), pshO out w2 (popO (o' ++ [l]) h'), (rdW g'.1 (topO (o' ++ [l]) h'), g'.2 + 1), _, _, _, _, rfl, up, S20, ?_, itT_suc e7 (finW_ok hmg)⟩
        refine RsT.put (hRi.up e7') ?_ fun q hq => psh_ne _ _ hq
        rw [psh_eq, pop_nn h' no, List.map_append]
        exact RpAll.app (hwoR.up e7'.e) (.cons hv .nil)
      subst es
      have hLa : LaC ([V.int (out : Int)] ++ (o' ++ [l]).map fun r : Nat => V.int (r : Int)) (.int (l : Int)) ((out :: o').map fun r : Nat => V.int (r : Int)) := ⟨by rw [List.map_append, ← List.append_assoc]; rfl⟩
      wtm_at "vc"
      refine ⟨by rw [List.length_cons, List.length_nil]; omega, fun oc H12 S12 => ?_⟩
      wtm_at "vc"
      rename_i H13 S13
      refine hN _ _ ⟨D6, oc, out :: o', l, wss, h', g', _, _, _, _, _, rfl, up, ?_, hR6, tnT_suc et (by rw [hll]; exact e7)⟩
      exact Sx.gc (S := S13)
    subst es
    rw [hrun] at et
    cases et
    obtain ⟨c1, _⟩ := tnT_inv (fin := finW) (Inv := InvM p 100000) hp1 invM_perm (fun g T k rest _ _ _ hI g' w hw => invM_step g T k rest hI g' w hw) hC0 hI0 n (Nat.le_refl _) _ hrun
    rw [Nat.sub_self] at c1
    obtain ⟨l, o', x, ho, hx⟩ := cf0_one hp1 c1
    dsimp only at ho hx q
    subst ho
    have hlp : l ≤ p := c1.le l (List.mem_cons_of_mem _ List.mem_cons_self)
    obtain ⟨wl, hwl, hwR⟩ := hR5.get hlp
    rw [hx] at hwR
    obtain ⟨lv, rfl⟩ : ∃ v, wl = [v] := by
      cases hwR with
      | cons _ h2 => cases h2; exact ⟨_, rfl⟩
    have hlv : Rp D5 lv (twD x) := by cases hwR with | cons h1 _ => exact h1
    obtain ⟨al, hala⟩ : ∃ al, ads2[l]? = some al := ⟨_, List.getElem?_eq_getElem (by omega)⟩
    have hAh : AtC (ads2.map V.ref) (l : Int) (.ref al) := ⟨atN (by omega) (by rw [List.getElem?_map, Int.toNat_natCast, hala]; rfl)⟩
    have S15 := Sx.perm S (((((ownZ_front (L := L) hala hwl).cons _).trans (List.Perm.swap _ _ _)).cons _ |>.trans (List.Perm.swap _ _ _)))
    have S16 : Sx D5 ((al, .lst [lv]) :: (ob, .lst ((l :: o').map fun r : Nat => V.int (r : Int))) :: (rb, .lst (g.1.map V.int)) :: L) H6 := by
      exact ⟨S15.dH, fun q hq => S15.ow q (by
        rcases List.mem_cons.mp hq with rfl | hq
        · exact List.mem_cons_self
        · rcases List.mem_cons.mp hq with rfl | hq
          · exact List.mem_cons_of_mem _ List.mem_cons_self
          · rcases List.mem_cons.mp hq with rfl | hq
            · exact List.mem_cons_of_mem _ (List.mem_cons_of_mem _ List.mem_cons_self)
            · exact List.mem_cons_of_mem _ (List.mem_cons_of_mem _ (List.mem_cons_of_mem _ (List.mem_append_right _ hq)))), S15.nd.sublist (((((List.sublist_append_right _ _).cons_cons _).cons_cons _).cons_cons _).map _)⟩
    clear S S14 S15
    wtm_at "vc"
    refine s_cut (fun σ H => ∃ (lv2 : V) (O : Own) (D7 : Hp), σ = [some (.int (p : Int)), some (.ref a), some (.int (n : Int)), x3, some (.ref he), some (.ref ob), some (.int (out : Int)), some (.ref rb), some (.int g.2), x9, x10, x11, x12, some lv2] ∧ Sm D5 D7 ∧ Sx D7 (O ++ (rb, .lst (g.1.map V.int)) :: L) H ∧ ltW D7 lv2 O x) (fun nx hN => ?_) (fun σ H ⟨lv2, O, D7, es, e7, S, hlt⟩ => ?_)
    · cases x with
      | none =>
        cases hlv
        wtm_at "vc"
        refine hN _ _ ⟨.non, [], D5, rfl, Sm.rfl', ?_, rfl, rfl⟩
        exact Sx.gc (S := S16) (L := (rb, .lst (g.1.map V.int)) :: L)
      | some r =>
        obtain ⟨tt2, tb2, rfl, ktt2, ktb2⟩ := tw_inv hlv
        wtm_at "vc"
        rename_i lb H7 S17 lt D7 H8 S18 e7 klt
        refine hN _ _ ⟨.ref lt, [(lb, .lst (r.2.map V.int))], D7, rfl, e7, ?_, lt, lb, rfl, klt, rfl⟩
        show Sx D7 ((lb, .lst (r.2.map V.int)) :: (rb, .lst (g.1.map V.int)) :: L) H8
        exact Sx.gc (S := S18)
    subst es
    wtm_at "vc"
    rename_i t9 D8 H8 S8 e8 k8
    refine q t9 lv2 rb O D8 _ S8 up k8 ?_
    rw [show (l :: o').headD 0 = l from rfl, hx]
    show ltW D8 lv2 O x
    cases x with
    | none => exact hlt
    | some r =>
      obtain ⟨lt, lb, h1, h3, h4⟩ := hlt
      exact ⟨lt, lb, h1, inferInstance, h4⟩
--@@
def sp_turned_play_x (K : PySem.W.Frag) : Sp := fun vs H Q E => ∃ (D : Hp) (L : Own) (v : V) (a : Addr) (us : List V) (Rs : List (List TRow)), vs = [v, .ref a] ∧ Sx D L H ∧ Kn D a (.lst us) ∧ TuA D us Rs ∧ us.length ≤ 10 ∧ ((OddV 2 7 D v ∧ ∀ C D' H', PySem.W.nsIn K mainGlobals "NoWays" = some (some (.ref C)) → Sx D' L H' → Sm D D' → E (.ref C) none H') ∨ (∃ (p m : Nat), v = .int (p : Int) ∧ 2 ≤ p ∧ p ≤ 7 ∧ m ≤ 300 ∧ (Rs.map fun R => (R.length : Int)).sum ≤ (lvlC p m).sum ∧ (∀ k, lvlC p k ≠ Rs.map fun R => (R.length : Int)) ∧ ∀ C D' H', PySem.W.nsIn K mainGlobals "NoLevel" = some (some (.ref C)) → Sx D' L H' → Sm D D' → E (.ref C) none H'))
theorem ok_turned_play_x {fA : Addr} {fd : FuncData} (F : Fun K "turned_play" "turned_play" st_turned_play fA fd) (b_len : mg "len" = none) (b_tuple : mg "tuple" = none)
    (C_level_by_counts_x : Cl P w K mg base (L2.CX P w) 4 "level_by_counts" ["p", "counts"] (sp_level_by_counts_x K)) : FnOk P w K mg base (L2.CX P w) 5 fA fd ["p", "reels"] (sp_turned_play_x K) := by
  refine F.okX sc_turned_play (fun vs H Q E h => ?_) (fun cdv A outer s H vs Q E hr h => ?_)
  · obtain ⟨D, L, v, a, us, Rs, rfl, S, ka, hT, hul, q⟩ := h
    rfl
  · obtain ⟨D, L, v, a, us, Rs, rfl, S, ka, hT, hul, q⟩ := h
    have hu : (A.deeper (envOfC "turned_play" (defScope st_turned_play) s.heap.objs.size fA cdv)).units + 64 < cLine := by have := hr.un; omega
    refine ⟨_, (pss_cons (ps_set (i := 2) sc_turned_play.nd rfl (Or.inl rfl) (pe_clS C_level_by_counts_x hr (by decide) (by rfl) (takes_of rfl rfl rfl rfl) (pa_cons (pv 0) (pa_cons (pe_callTy (r := rTupOf K) call_tupN (by rfl) b_tuple bb_tuple (pa_cons (pe_lc (own := [("reel", 3)]) (tt := tYes) rfl sc_turned_play.nd (pi_seqK K (pv 1)) (blkOk_by (N := ["p", "reels", "n", "reel", "here", "order", "out", "read", "at", "turn", "k", "rows", "row", "last"]) (sc := defScope st_turned_play) (by decide +kernel)) (fun _ _ _ _ _ => (pg_name (i := 3) sc_turned_play.nd rfl (Or.inl rfl))) (fun _ _ _ _ _ => pts_nil) (fun _ _ _ _ _ => (pe_callB (r := rLen K) call_lenN (by rfl) b_len bb_len (pa_cons (pv 3) pa_nil)))) pa_nil)) pa_nil))))
      pss_never), ?_⟩
    refine st_start (σ' := [some _, some _, none, none, none, none, none, none, none, none, none, none, none, none]) rfl (fun bk ct => ?_)
    have hTl := hT.len
    wtm_at "vc"
    refine lc_vals (S := S) (walk_list (xs := us)) (by omega) ((Rs.map fun R => (R.length : Int)).map V.int) (by rw [List.length_map, List.length_map]; omega) (fun p9 acc H' S' => (rsD (K := K) (L := []) ka.pf).sq S'.tail') (fun i v q2 acc H3 H4 hi S3 hy Ad hA => ?_) (fun lb H3 S3 => ?_)
    · obtain ⟨rfl, hv⟩ := hy
      obtain ⟨c, cs, R, rfl, hR, kc, hc⟩ := hT.get hv
      have hcl := hc.length
      rw [List.length_map] at hcl
      wtm_at "vc"
      exact hA _ _ S3 (by rw [List.getElem?_map, List.getElem?_map, hR, hcl]; rfl)
    wtm_at "vc"
    rename_i tt D1 H4 S4 e1 kt
    have S5 : Sx D1 L H4 := Sx.gc (S := S4)
    refine ⟨D1, _, v, tt, Rs.map fun R => (R.length : Int), rfl, S4, kt, ?_⟩
    rcases q with ⟨ho, q⟩ | ⟨p, m, rfl, h2, h7, hm3, hm, hno, q⟩
    · exact .inl ⟨ho.up e1.e, fun C hC => q C D1 H4 hC S5 e1⟩
    · exact .inr ⟨p, m, rfl, h2, h7, hm3, hm, hno, fun C D2 H5 hC S6 e6 => q C D2 H5 hC (Sx.gc (S := S6)) ⟨e1.e.trans e6.e⟩⟩
abbrev st_turned_ups : Stmt := topS 28
theorem sc_turned_ups : FnScope ["p", "n", "number", "reel"] ["p", "n"] (defScope st_turned_ups) := ⟨rfl, rfl, rfl, by decide +kernel, rfl, by decide +kernel, by decide +kernel⟩
/-- what was fixed for a while is owned again -/
theorem Sx.thaw2 {D D2 : Hp} {L : Own} {H : Hp} {lg : Addr} {o : HO} (S : Sx D2 L H) (k : Kn D2 lg o) (h0 : D lg = none) (e : Sm D D2) : ∃ D', Sm D D' ∧ Sx D' ((lg, o) :: L) H ∧ ∀ x u, x ≠ lg → D2 x = some u → D' x = some u := by
  refine ⟨fun b => if b = lg then none else D2 b, ⟨fun b u h => ?_⟩, ⟨fun b u h => ?_, fun q hq => ?_, ?_⟩, fun x u hx h => by show (if x = lg then none else D2 x) = some u; rw [if_neg hx]; exact h⟩
  · have hb : b ≠ lg := fun z => by rw [z, h0] at h; cases h
    show (if b = lg then none else D2 b) = some u
    rw [if_neg hb]
    exact e.e _ _ h
  · have h : (if b = lg then none else D2 b) = some u := h
    by_cases z : b = lg
    · rw [if_pos z] at h; cases h
    · rw [if_neg z] at h; exact S.dH _ _ h
  · rcases List.mem_cons.mp hq with z | z
    · rw [z]
      exact ⟨S.dH _ _ k.pf, if_pos rfl⟩
    · refine ⟨(S.ow q z).1, ?_⟩
      show (if q.1 = lg then none else D2 q.1) = none
      by_cases y : q.1 = lg
      · rw [if_pos y]
      · rw [if_neg y]; exact (S.ow q z).2
  · rw [List.map_cons, List.nodup_cons]
    refine ⟨fun h => ?_, S.nd⟩
    obtain ⟨q, hq, e1⟩ := List.mem_map.mp h
    have h1 := (S.ow q hq).2
    have e1 : q.1 = lg := e1
    rw [e1, k.pf] at h1
    cases h1

def sp_turned_ups (K : PySem.W.Frag) : Sp := fun vs H Q _ => ∃ (D : Hp) (L : Own) (p n : Nat), vs = [.int (p : Int), .int (n : Int)] ∧ 2 ≤ p ∧ p ≤ 7 ∧ n ≤ 300 ∧ (∀ k, k ≤ n → (lvlC p k).sum ≤ 4000) ∧ Sx D L H ∧
  ∀ (fo : Addr) (ads : List Addr) D' H', Sx D' ((fo, .lst (ads.map V.ref)) :: (ownZ ads ((trnN p n).map fun r => (evB r).map V.bl) ++ L)) H' → Sm D D' → ads.length = p → Q (.ref fo) H'
theorem ok_turned_ups {fA : Addr} {fd : FuncData} (F : Fun K "turned_ups" "turned_ups" st_turned_ups fA fd)
    (C_turned_numbers : Cl P w K mg base CX0 4 "turned_numbers" ["p", "n"] (sp_turned_numbers K)) : FnOk P w K mg base CX0 5 fA fd ["p", "n"] (sp_turned_ups K) := by
  refine F.ok sc_turned_ups (fun vs H Q E h => ?_) (fun cdv A outer s H vs Q E hr h => ?_)
  · obtain ⟨D, L, p, n, rfl, h2, h7, hn3, hs4, S, q⟩ := h
    rfl
  · obtain ⟨D, L, p, n, rfl, h2, h7, hn3, hs4, S, q⟩ := h
    have hu : (A.deeper (envOfC "turned_ups" (defScope st_turned_ups) s.heap.objs.size fA cdv)).units + 64 < cLine := by have := hr.un; omega
    refine ⟨_, (pss_one (ps_ret (pe_lc (own := [("reel", 3)]) (tt := tYes) rfl sc_turned_ups.nd (pi_seqK K (pe_cl C_turned_numbers hr (by decide) (by rfl) (pa_cons (pv 0) (pa_cons (pv 1) pa_nil)))) (blkOk_by (N := ["p", "n", "number", "reel"]) (sc := defScope st_turned_ups) (by decide +kernel)) (fun _ _ _ _ _ => (pg_name (i := 3) sc_turned_ups.nd rfl (Or.inl rfl))) (fun _ _ _ _ _ => pts_nil) (fun _ _ _ _ _ => (pe_lc (own := [("number", 2)]) (tt := tYes) rfl sc_turned_ups.nd (pi_seqK K (pv 3)) (by refine blkOk_by (N := ["p", "n", "number", "reel"]) ?_; with_unfolding_all rfl) (fun _ _ _ _ _ => (pg_name (i := 2) sc_turned_ups.nd rfl (Or.inl rfl))) (fun _ _ _ _ _ => pts_nil) (fun _ _ _ _ _ => (pe_cmpR (r := rEqX K) (opEq hu) (pe_op op_mod (pv 2) pe_int) pe_int (nomark _)))))))), ?_⟩
    refine st_start (σ' := [some _, some _, none, none]) rfl (fun bk ct => ?_)
    wtm_at "vc"
    refine ⟨D, L, p, n, rfl, h2, h7, hn3, hs4, S, fun fo ads D1 H1 S1 e1 hal => ?_⟩
    have hp1 : 1 ≤ p := by omega
    have htl := trnN_len hp1 n
    have S2 := Sx.perm S1 (List.perm_middle (a := (fo, HO.lst (ads.map V.ref))) (l₁ := ownZ ads ((trnN p n).map fun r => r.map V.int)) (l₂ := L)).symm
    obtain ⟨D2, e2, S3, k3, hfr, hnd⟩ := Sx.fixZ2 ads ((trnN p n).map fun r => r.map V.int) D1 (by rw [List.length_map]; omega) S2
    have hU := ra_fixL (nss := trnN p n) (by omega) k3
    obtain ⟨D3, e3, kfo, S4⟩ := Sx.fix1 (a := fo) (S := S3)
    generalize hus : ads.map V.ref = us at *
    have hul : us.length = p := by rw [← hus, List.length_map]; exact hal
    have hrb : ∀ r, r ∈ trnN p n → r.length ≤ 4000 := fun r hr => by
      have h1 := trnN_le hp1 hr
      have h2 := hs4 n (Nat.le_refl n)
      omega
    wtm_at "vc"
    refine lc_goL (S := S4) (walk_list (xs := us)) (by omega) (fun i acc D' L' => D' = D3 ∧ ∃ (ads : List Addr), acc = ads.map V.ref ∧ ads.length = i ∧ L' = ownZ ads (((trnN p n).take i).map fun r => (evB r).map V.bl) ++ L) ⟨rfl, [], rfl, rfl, rfl⟩ (fun D' L' p acc H' e' S' => (rsD (K := K) (L := []) (e'.e _ _ kfo.pf)).sq S'.tail') (fun j v q2 acc D6 L6 H6 H7 hj e6 S6 hR6 hy Ad Sk hA hS => ?_) (fun mo D6 acc L6 H6 e6 S6 hR6 => ?_)
    · obtain ⟨rfl, hv⟩ := hy
      obtain ⟨rfl, ads, rfl, hal, rfl⟩ := hR6
      obtain ⟨g, r, rfl, hr, kg⟩ := ra_getL (hU.up e3.e) hv
      have hrl := hrb r (List.mem_of_getElem? hr)
      have hjl := (List.getElem?_eq_some_iff.mp hr).1
      wtm_at "vc"
      refine lc_vals (S := S6) (walk_list (xs := r.map V.int)) (by rw [List.length_map]; omega) ((evB r).map V.bl) (by unfold evB; rw [List.length_map, List.length_map, List.length_map]) (fun p acc H' S' => (rsD (K := K) (L := []) kg.pf).sq S'.tail') (fun j v q2 acc H9 H10 hj S9 hy Ad hA => ?_) (fun b5 H9 S9 => ?_)
      · obtain ⟨rfl, hv⟩ := hy
        obtain ⟨z, hz, rfl⟩ := getI hv
        wtm_at "vc"
        exact hA _ _ S9 (by unfold evB; rw [List.getElem?_map, List.getElem?_map, hz]; rfl)
      refine hA _ D6 _ _ Sm.rfl' (Sx.perm S9 ((List.Perm.swap _ _ _).trans ((List.perm_middle.symm).cons _))) ⟨rfl, ads ++ [b5], by rw [List.map_append]; rfl, by rw [List.length_append, hal]; rfl, ?_⟩
      rw [take_sn hr, List.map_append, List.map_cons, List.map_nil, ownZ_sn2 (by rw [List.length_map, List.length_take]; omega), List.append_assoc]
      rfl
    obtain ⟨rfl, ads, rfl, hal, rfl⟩ := hR6
    rw [hul, List.take_of_length_le (by omega)] at S6
    exact q mo ads D6 _ S6 up (by omega)
--@@
def sp_turned_ups_x (K : PySem.W.Frag) : Sp := fun vs H Q E => ∃ (D : Hp) (L : Own) (v n : V), vs = [v, n] ∧ Sx D L H ∧ (((OddV 2 7 D v ∧ ∀ C, PySem.W.nsIn K mainGlobals "NoWays" = some (some (.ref C)) → E (.ref C) none H) ∨ (∃ p, v = .int p ∧ 2 ≤ p ∧ p ≤ 7 ∧ OddV 0 300 D n ∧ ∀ C, PySem.W.nsIn K mainGlobals "NoLevel" = some (some (.ref C)) → E (.ref C) none H)) ∨ (∃ (p m : Nat), v = .int (p : Int) ∧ n = .int (m : Int) ∧ 2 ≤ p ∧ p ≤ 7 ∧ m ≤ 300 ∧ 4000 < (lvlC p m).sum ∧ ∀ C D' H', PySem.W.nsIn K mainGlobals "TooMany" = some (some (.ref C)) → Sx D' L H' → Sm D D' → E (.ref C) none H'))
theorem ok_turned_ups_x {fA : Addr} {fd : FuncData} (F : Fun K "turned_ups" "turned_ups" st_turned_ups fA fd)
    (C_turned_numbers_x : Cl P w K mg base (L2.CX P w) 4 "turned_numbers" ["p", "n"] (sp_turned_numbers_x K)) : FnOk P w K mg base (L2.CX P w) 5 fA fd ["p", "n"] (sp_turned_ups_x K) := by
  refine F.okX sc_turned_ups (fun vs H Q E h => ?_) (fun cdv A outer s H vs Q E hr h => ?_)
  · obtain ⟨D, L, v, n, rfl, S, q⟩ := h
    rfl
  · obtain ⟨D, L, v, n, rfl, S, q⟩ := h
    have hu : (A.deeper (envOfC "turned_ups" (defScope st_turned_ups) s.heap.objs.size fA cdv)).units + 64 < cLine := by have := hr.un; omega
    refine ⟨_, (pss_one (ps_ret (pe_lc (own := [("reel", 3)]) (tt := tYes) rfl sc_turned_ups.nd (pi_seqK K (pe_clS C_turned_numbers_x hr (by decide) (by rfl) (takes_of rfl rfl rfl rfl) (pa_cons (pv 0) (pa_cons (pv 1) pa_nil)))) (blkOk_by (N := ["p", "n", "number", "reel"]) (sc := defScope st_turned_ups) (by decide +kernel)) (fun _ _ _ _ _ => (pg_name (i := 3) sc_turned_ups.nd rfl (Or.inl rfl))) (fun _ _ _ _ _ => pts_nil) (fun _ _ _ _ _ => (pe_lc (own := [("number", 2)]) (tt := tYes) rfl sc_turned_ups.nd (pi_seqK K (pv 3)) (by refine blkOk_by (N := ["p", "n", "number", "reel"]) ?_; with_unfolding_all rfl) (fun _ _ _ _ _ => (pg_name (i := 2) sc_turned_ups.nd rfl (Or.inl rfl))) (fun _ _ _ _ _ => pts_nil) (fun _ _ _ _ _ => (pe_cmpR (r := rEqX K) (opEq hu) (pe_op op_mod (pv 2) pe_int) pe_int (nomark _)))))))), ?_⟩
    refine st_start (σ' := [some _, some _, none, none]) rfl (fun bk ct => ?_)
    wtm_at "vc"
    exact ⟨D, L, v, n, rfl, S, q⟩
abbrev st__law_told : Stmt := topS 38
theorem sc__law_told : FnScope ["way", "p", "thing", "caught", "e", "names", "name"] ["way", "p", "thing"] (defScope st__law_told) := ⟨rfl, rfl, rfl, by decide +kernel, rfl, by decide +kernel, by decide +kernel⟩
inductive Ask55 (D : Hp) : Int → V → V → Str → Prop
  | ways (w : Int) (v n : V) (w0 : 0 ≤ w) (w1 : w ≤ 1) (ho : OddV 2 7 D v) : Ask55 D w v n "ways"
  | level (w : Int) (p : Nat) (n : V) (w0 : 0 ≤ w) (w1 : w ≤ 1) (h2 : 2 ≤ p) (h7 : p ≤ 7) (ho : OddV 0 300 D n) : Ask55 D w (.int (p : Int)) n "level"
  | many (w : Int) (p m : Nat) (w0 : 0 ≤ w) (w1 : w ≤ 1) (h2 : 2 ≤ p) (h7 : p ≤ 7) (hm : m ≤ 300) (hs : 4000 < (lvlC p m).sum) : Ask55 D w (.int (p : Int)) (.int (m : Int)) "many"
  | fine (w : Int) (p m : Nat) (w0 : 0 ≤ w) (w1 : w ≤ 1) (h2 : 2 ≤ p) (h7 : p ≤ 7) (hm : m ≤ 300) (hs : (lvlC p m).sum ≤ 4000) : Ask55 D w (.int (p : Int)) (.int (m : Int)) ""
  | pways (v : V) (a : Addr) (us : List V) (Rs : List (List TRow)) (ka : Kn D a (.lst us)) (hT : TuA D us Rs) (hl : us.length ≤ 10) (ho : OddV 2 7 D v) : Ask55 D 2 v (.ref a) "ways"
  | plevel (p m : Nat) (a : Addr) (us : List V) (Rs : List (List TRow)) (ka : Kn D a (.lst us)) (hT : TuA D us Rs) (hl : us.length ≤ 10) (h2 : 2 ≤ p) (h7 : p ≤ 7) (hm : m ≤ 300) (hs : (Rs.map fun R => (R.length : Int)).sum ≤ (lvlC p m).sum) (hno : ∀ k, lvlC p k ≠ Rs.map fun R => (R.length : Int)) : Ask55 D 2 (.int (p : Int)) (.ref a) "level"
  | pfine (p m : Nat) (a : Addr) (us : List V) (Rs : List (List TRow)) (s : TSt TRow (List Int × Int)) (ka : Kn D a (.lst us)) (hT : TuA D us Rs) (h2 : 2 ≤ p) (h7 : p ≤ 7) (hm : m ≤ 300) (hs : (lvlC p m).sum ≤ 4000) (hl : Rs.map (fun r => (r.length : Int)) = lvlC p m) (hM : (Rs.flatten.map lnW).sum ≤ 100000) (hr : tnT finW m ((List.range p, p), ((fun r => Rs.getD r []), (List.replicate (p + 1) 0, 0))) = .ok s) : Ask55 D 2 (.int (p : Int)) (.ref a) ""

def sp__law_told (K : PySem.W.Frag) : Sp := fun vs H Q _ => ∃ (D : Hp) (L : Own) (w : Int) (v n : V) (z : Str), vs = [.int w, v, n] ∧ Sx D L H ∧ Ask55 D w v n z ∧ ∀ D' H', Sx D' L H' → Sm D D' → Q (.str z) H'
theorem ok__law_told {fA : Addr} {fd : FuncData} (F : Fun K "_law_told" "_law_told" st__law_told fA fd)
    (C__law_alone : Cl P w K mg base CX0 1 "_law_alone" ["e", "name"] (sp__law_alone K))
    {C_NoLevel : Addr} (k_NoLevel : ClC K mg "NoLevel" C_NoLevel)
    {C_NoWays : Addr} (k_NoWays : ClC K mg "NoWays" C_NoWays)
    {C_ReelError : Addr} (k_ReelError : ClC K mg "ReelError" C_ReelError)
    {C_TooMany : Addr} (k_TooMany : ClC K mg "TooMany" C_TooMany) (x_NoWays : ExC K C_NoWays) (m_NoWays_ReelError : PySem.W.exmOne K (.ref C_NoWays) (.ref C_ReelError) = some true) (x_NoLevel : ExC K C_NoLevel) (m_NoLevel_ReelError : PySem.W.exmOne K (.ref C_NoLevel) (.ref C_ReelError) = some true) (x_TooMany : ExC K C_TooMany) (m_TooMany_ReelError : PySem.W.exmOne K (.ref C_TooMany) (.ref C_ReelError) = some true)
    (C_turned_numbers_o : Cl P w K mg base (L2.CX P w) 4 "turned_numbers" ["p", "n"] (fun vs H Q E => sp_turned_numbers K vs H Q E0 ∨ sp_turned_numbers_x K vs H Q E))
    (C_turned_play_o : Cl P w K mg base (L2.CX P w) 5 "turned_play" ["p", "reels"] (fun vs H Q E => sp_turned_play K vs H Q E0 ∨ sp_turned_play_x K vs H Q E))
    (C_turned_ups_o : Cl P w K mg base (L2.CX P w) 5 "turned_ups" ["p", "n"] (fun vs H Q E => sp_turned_ups K vs H Q E0 ∨ sp_turned_ups_x K vs H Q E)) : FnOk P w K mg base CX0 6 fA fd ["way", "p", "thing"] (sp__law_told K) := by
  refine F.ok sc__law_told (fun vs H Q E h => ?_) (fun cdv A outer s H vs Q E hr h => ?_)
  · obtain ⟨D, L, w, v, n, z, rfl, S, hk, q⟩ := h
    rfl
  · obtain ⟨D, L, w, v, n, z, rfl, S, hk, q⟩ := h
    have hu : (A.deeper (envOfC "_law_told" (defScope st__law_told) s.heap.objs.size fA cdv)).units + 64 < cLine := by have := hr.un; omega
    refine ⟨_, (pss_cons (ps_set (i := 3) sc__law_told.nd rfl (Or.inr rfl) pe_non)
      (pss_cons (by (refine' ps_try_keep (c := .ref C_ReelError) (i := 4) rfl rfl sc__law_told.nd rfl rfl rfl ⟨by rfl, by decide, .inl k_ReelError.g⟩ takes0 ?hb ?hs; (case hb => exact (fun W pn xe tk po => (pss_one (ps_if (pt_cmpR (r := rEqX K) (opEq hu) (pv 0) pe_int (nomark _)) (pss_one (ps_expr (pe_clS C_turned_numbers_o hr (by decide) (by rfl) tk (pa_cons (pv 1) (pa_cons (pv 2) pa_nil))))) (pss_one (ps_if (pt_cmpR (r := rEqX K) (opEq hu) (pv 0) pe_int (nomark _)) (pss_one (ps_expr (pe_clS C_turned_ups_o hr (by decide) (by rfl) tk (pa_cons (pv 1) (pa_cons (pv 2) pa_nil))))) (pss_one (ps_expr (pe_clS C_turned_play_o hr (by decide) (by rfl) tk (pa_cons (pv 1) (pa_cons (pv 2) pa_nil))))))))))); (case hs => exact (fun a oe cls d pn hz hf => (pss_one (ps_set (i := 3) sc__law_told.nd rfl (Or.inr rfl) (pv 4)))))))
      (pss_cons (ps_if (pt_cmpR op_isN1 (pv 3) pe_non (nomark _)) (pss_one (ps_ret pe_str)) pss_nil)
      (pss_cons (ps_setLc (i := 5) (own := [("name", 6)])  rfl sc__law_told.nd rfl rfl (sw_true rfl rfl rfl (by decide +kernel)) (pi_seqK K (pe_lst (pa_cons pe_str (pa_cons pe_str (pa_cons pe_str (pa_cons pe_str pa_nil)))))) (blkOk_by (N := ["way", "p", "thing", "caught", "e", "names", "name"]) (sc := defScope st__law_told) (by decide +kernel)) (fun _ _ _ _ _ => (pg_name (i := 6) sc__law_told.nd rfl (Or.inl rfl))) (fun _ _ _ _ _ => (pts_one (pt_val (pe_cl C__law_alone hr (by decide) (by rfl) (pa_cons (pv 3) (pa_cons (pv 6) pa_nil)))))) (fun _ _ _ _ _ => (pv 6)))
      (pss_one (ps_ret (pe_ix (r := rIx K) ix_seq (pe_op (r := rAddX K) opAdd (pv 5) (pe_lst (pa_cons pe_str pa_nil))) pe_int (fun _ _ => rfl)))))))), ?_⟩
    refine st_start (σ' := [some _, some _, some _, none, none, none, none]) rfl (fun bk ct => ?_)
    cases hk with
    | ways w v n w0 w1 ho =>
      rcases (by omega : w = 0 ∨ w = 1) with rfl | rfl
      · wtm_at "vc"
        refine .inr ⟨D, L, v, n, rfl, S, .inl (.inl ⟨ho, fun C hC => ?_⟩)⟩
        obtain rfl : C_NoWays = C := by
          have e := k_NoWays.ns.symm.trans hC
          cases e
          rfl
        refine ⟨true, m_NoWays_ReelError, fun _ a ha => ?_, fun z => nomatch z⟩
        simp only [List.set_cons_succ, List.set_cons_zero]
        wtm_at "vc"
        simp only [List.set_cons_succ, List.set_cons_zero]
        obtain ⟨S9, e9, k9⟩ := Sx.err (C := C_NoWays) S ha
        wtm_at "vc"
        rename_i nl H10 S10
        refine lc_go (S := S10) (walk_list (xs := [V.str "ways", V.str "level", V.str "many", V.str "clash"])) (by show 4 < 16777216; decide) (fun k acc D' => acc = ((([Str.ofString "ways", Str.ofString "level", Str.ofString "many", Str.ofString "clash"].take k).filter fun x => decide (x = Str.ofString "ways")).map V.str)) rfl (fun D' p acc H' e' S' => Rds.sq S' rs1) (fun k v q2 acc D5 H5 H6 hk e5 S5 hR hy Ad Sk hA hS => ?_) (fun la D5 acc H5 e5 S5 hR => ?_)
        · obtain ⟨rfl, hv⟩ := hy
          obtain ⟨nm, rfl, hnm, hn4⟩ : ∃ nm : Str, v = .str nm ∧ [Str.ofString "ways", Str.ofString "level", Str.ofString "many", Str.ofString "clash"][k]? = some nm ∧ (nm = Str.ofString "ways" ∨ nm = Str.ofString "level" ∨ nm = Str.ofString "many" ∨ nm = Str.ofString "clash") := by
            match k, hv with
            | 0, hv => cases hv; exact ⟨_, rfl, rfl, .inl rfl⟩
            | 1, hv => cases hv; exact ⟨_, rfl, rfl, .inr (.inl rfl)⟩
            | 2, hv => cases hv; exact ⟨_, rfl, rfl, .inr (.inr (.inl rfl))⟩
            | 3, hv => cases hv; exact ⟨_, rfl, rfl, .inr (.inr (.inr rfl))⟩
            | k + 4, hv => simp at hv
          wtm_at "vc"
          refine ⟨D5, _, a, Str.ofString "ways", nm, rfl, S5, .inl ⟨_, k_NoWays.ns, inferInstance, rfl⟩, hn4, fun D6 H7 S7 e7 => ?_⟩
          wtm_at "vc"
          refine if_d (fun c9 => ?_) (fun c9 => ?_)
          · wtm_at "vc"
            refine hA _ D6 _ e7 S7 ?_
            rw [List.take_add_one, hnm, List.filter_append, List.map_append, ← hR]
            simp [c9]
          · refine hS D6 _ e7 S7 ?_
            rw [List.take_add_one, hnm, List.filter_append, List.map_append, ← hR]
            simp [c9]
        have hR4 : acc = [V.str "ways"] := by rw [hR]; decide +kernel
        subst hR4
        have hA9 : AtC ([V.str "ways"] ++ [V.str "other"]) 0 (V.str "ways") := ⟨rfl⟩
        wtm_at "vc"
        exact q _ _ Sx.gc up
      · wtm_at "vc"
        refine .inr ⟨D, L, v, n, rfl, S, .inl (.inl ⟨ho, fun C hC => ?_⟩)⟩
        obtain rfl : C_NoWays = C := by
          have e := k_NoWays.ns.symm.trans hC
          cases e
          rfl
        refine ⟨true, m_NoWays_ReelError, fun _ a ha => ?_, fun z => nomatch z⟩
        simp only [List.set_cons_succ, List.set_cons_zero]
        wtm_at "vc"
        simp only [List.set_cons_succ, List.set_cons_zero]
        obtain ⟨S9, e9, k9⟩ := Sx.err (C := C_NoWays) S ha
        wtm_at "vc"
        rename_i nl H10 S10
        refine lc_go (S := S10) (walk_list (xs := [V.str "ways", V.str "level", V.str "many", V.str "clash"])) (by show 4 < 16777216; decide) (fun k acc D' => acc = ((([Str.ofString "ways", Str.ofString "level", Str.ofString "many", Str.ofString "clash"].take k).filter fun x => decide (x = Str.ofString "ways")).map V.str)) rfl (fun D' p acc H' e' S' => Rds.sq S' rs1) (fun k v q2 acc D5 H5 H6 hk e5 S5 hR hy Ad Sk hA hS => ?_) (fun la D5 acc H5 e5 S5 hR => ?_)
        · obtain ⟨rfl, hv⟩ := hy
          obtain ⟨nm, rfl, hnm, hn4⟩ : ∃ nm : Str, v = .str nm ∧ [Str.ofString "ways", Str.ofString "level", Str.ofString "many", Str.ofString "clash"][k]? = some nm ∧ (nm = Str.ofString "ways" ∨ nm = Str.ofString "level" ∨ nm = Str.ofString "many" ∨ nm = Str.ofString "clash") := by
            match k, hv with
            | 0, hv => cases hv; exact ⟨_, rfl, rfl, .inl rfl⟩
            | 1, hv => cases hv; exact ⟨_, rfl, rfl, .inr (.inl rfl)⟩
            | 2, hv => cases hv; exact ⟨_, rfl, rfl, .inr (.inr (.inl rfl))⟩
            | 3, hv => cases hv; exact ⟨_, rfl, rfl, .inr (.inr (.inr rfl))⟩
            | k + 4, hv => simp at hv
          wtm_at "vc"
          refine ⟨D5, _, a, Str.ofString "ways", nm, rfl, S5, .inl ⟨_, k_NoWays.ns, inferInstance, rfl⟩, hn4, fun D6 H7 S7 e7 => ?_⟩
          wtm_at "vc"
          refine if_d (fun c9 => ?_) (fun c9 => ?_)
          · wtm_at "vc"
            refine hA _ D6 _ e7 S7 ?_
            rw [List.take_add_one, hnm, List.filter_append, List.map_append, ← hR]
            simp [c9]
          · refine hS D6 _ e7 S7 ?_
            rw [List.take_add_one, hnm, List.filter_append, List.map_append, ← hR]
            simp [c9]
        have hR4 : acc = [V.str "ways"] := by rw [hR]; decide +kernel
        subst hR4
        have hA9 : AtC ([V.str "ways"] ++ [V.str "other"]) 0 (V.str "ways") := ⟨rfl⟩
        wtm_at "vc"
        exact q _ _ Sx.gc up
    | level w p n w0 w1 h2 h7 ho =>
      rcases (by omega : w = 0 ∨ w = 1) with rfl | rfl
      · wtm_at "vc"
        refine .inr ⟨D, L, _, n, rfl, S, .inl (.inr ⟨(p : Int), rfl, by omega, by omega, ho, fun C hC => ?_⟩)⟩
        obtain rfl : C_NoLevel = C := by
          have e := k_NoLevel.ns.symm.trans hC
          cases e
          rfl
        refine ⟨true, m_NoLevel_ReelError, fun _ a ha => ?_, fun z => nomatch z⟩
        simp only [List.set_cons_succ, List.set_cons_zero]
        wtm_at "vc"
        simp only [List.set_cons_succ, List.set_cons_zero]
        obtain ⟨S9, e9, k9⟩ := Sx.err (C := C_NoLevel) S ha
        wtm_at "vc"
        rename_i nl H10 S10
        refine lc_go (S := S10) (walk_list (xs := [V.str "ways", V.str "level", V.str "many", V.str "clash"])) (by show 4 < 16777216; decide) (fun k acc D' => acc = ((([Str.ofString "ways", Str.ofString "level", Str.ofString "many", Str.ofString "clash"].take k).filter fun x => decide (x = Str.ofString "level")).map V.str)) rfl (fun D' p acc H' e' S' => Rds.sq S' rs1) (fun k v q2 acc D5 H5 H6 hk e5 S5 hR hy Ad Sk hA hS => ?_) (fun la D5 acc H5 e5 S5 hR => ?_)
        · obtain ⟨rfl, hv⟩ := hy
          obtain ⟨nm, rfl, hnm, hn4⟩ : ∃ nm : Str, v = .str nm ∧ [Str.ofString "ways", Str.ofString "level", Str.ofString "many", Str.ofString "clash"][k]? = some nm ∧ (nm = Str.ofString "ways" ∨ nm = Str.ofString "level" ∨ nm = Str.ofString "many" ∨ nm = Str.ofString "clash") := by
            match k, hv with
            | 0, hv => cases hv; exact ⟨_, rfl, rfl, .inl rfl⟩
            | 1, hv => cases hv; exact ⟨_, rfl, rfl, .inr (.inl rfl)⟩
            | 2, hv => cases hv; exact ⟨_, rfl, rfl, .inr (.inr (.inl rfl))⟩
            | 3, hv => cases hv; exact ⟨_, rfl, rfl, .inr (.inr (.inr rfl))⟩
            | k + 4, hv => simp at hv
          wtm_at "vc"
          refine ⟨D5, _, a, Str.ofString "level", nm, rfl, S5, .inr (.inl ⟨_, k_NoLevel.ns, inferInstance, rfl⟩), hn4, fun D6 H7 S7 e7 => ?_⟩
          wtm_at "vc"
          refine if_d (fun c9 => ?_) (fun c9 => ?_)
          · wtm_at "vc"
            refine hA _ D6 _ e7 S7 ?_
            rw [List.take_add_one, hnm, List.filter_append, List.map_append, ← hR]
            simp [c9]
          · refine hS D6 _ e7 S7 ?_
            rw [List.take_add_one, hnm, List.filter_append, List.map_append, ← hR]
            simp [c9]
        have hR4 : acc = [V.str "level"] := by rw [hR]; decide +kernel
        subst hR4
        have hA9 : AtC ([V.str "level"] ++ [V.str "other"]) 0 (V.str "level") := ⟨rfl⟩
        wtm_at "vc"
        exact q _ _ Sx.gc up
      · wtm_at "vc"
        refine .inr ⟨D, L, _, n, rfl, S, .inl (.inr ⟨(p : Int), rfl, by omega, by omega, ho, fun C hC => ?_⟩)⟩
        obtain rfl : C_NoLevel = C := by
          have e := k_NoLevel.ns.symm.trans hC
          cases e
          rfl
        refine ⟨true, m_NoLevel_ReelError, fun _ a ha => ?_, fun z => nomatch z⟩
        simp only [List.set_cons_succ, List.set_cons_zero]
        wtm_at "vc"
        simp only [List.set_cons_succ, List.set_cons_zero]
        obtain ⟨S9, e9, k9⟩ := Sx.err (C := C_NoLevel) S ha
        wtm_at "vc"
        rename_i nl H10 S10
        refine lc_go (S := S10) (walk_list (xs := [V.str "ways", V.str "level", V.str "many", V.str "clash"])) (by show 4 < 16777216; decide) (fun k acc D' => acc = ((([Str.ofString "ways", Str.ofString "level", Str.ofString "many", Str.ofString "clash"].take k).filter fun x => decide (x = Str.ofString "level")).map V.str)) rfl (fun D' p acc H' e' S' => Rds.sq S' rs1) (fun k v q2 acc D5 H5 H6 hk e5 S5 hR hy Ad Sk hA hS => ?_) (fun la D5 acc H5 e5 S5 hR => ?_)
        · obtain ⟨rfl, hv⟩ := hy
          obtain ⟨nm, rfl, hnm, hn4⟩ : ∃ nm : Str, v = .str nm ∧ [Str.ofString "ways", Str.ofString "level", Str.ofString "many", Str.ofString "clash"][k]? = some nm ∧ (nm = Str.ofString "ways" ∨ nm = Str.ofString "level" ∨ nm = Str.ofString "many" ∨ nm = Str.ofString "clash") := by
            match k, hv with
            | 0, hv => cases hv; exact ⟨_, rfl, rfl, .inl rfl⟩
            | 1, hv => cases hv; exact ⟨_, rfl, rfl, .inr (.inl rfl)⟩
            | 2, hv => cases hv; exact ⟨_, rfl, rfl, .inr (.inr (.inl rfl))⟩
            | 3, hv => cases hv; exact ⟨_, rfl, rfl, .inr (.inr (.inr rfl))⟩
            | k + 4, hv => simp at hv
          wtm_at "vc"
          refine ⟨D5, _, a, Str.ofString "level", nm, rfl, S5, .inr (.inl ⟨_, k_NoLevel.ns, inferInstance, rfl⟩), hn4, fun D6 H7 S7 e7 => ?_⟩
          wtm_at "vc"
          refine if_d (fun c9 => ?_) (fun c9 => ?_)
          · wtm_at "vc"
            refine hA _ D6 _ e7 S7 ?_
            rw [List.take_add_one, hnm, List.filter_append, List.map_append, ← hR]
            simp [c9]
          · refine hS D6 _ e7 S7 ?_
            rw [List.take_add_one, hnm, List.filter_append, List.map_append, ← hR]
            simp [c9]
        have hR4 : acc = [V.str "level"] := by rw [hR]; decide +kernel
        subst hR4
        have hA9 : AtC ([V.str "level"] ++ [V.str "other"]) 0 (V.str "level") := ⟨rfl⟩
        wtm_at "vc"
        exact q _ _ Sx.gc up
    | many w p m w0 w1 h2 h7 hm hs =>
      rcases (by omega : w = 0 ∨ w = 1) with rfl | rfl
      · wtm_at "vc"
        refine .inr ⟨D, L, _, _, rfl, S, .inr ⟨p, m, rfl, rfl, h2, h7, hm, hs, fun C D1 H1 hC S1 e1 => ?_⟩⟩
        obtain rfl : C_TooMany = C := by
          have e := k_TooMany.ns.symm.trans hC
          cases e
          rfl
        refine ⟨true, m_TooMany_ReelError, fun _ a ha => ?_, fun z => nomatch z⟩
        simp only [List.set_cons_succ, List.set_cons_zero]
        wtm_at "vc"
        simp only [List.set_cons_succ, List.set_cons_zero]
        obtain ⟨S9, e9, k9⟩ := Sx.err (C := C_TooMany) S1 ha
        wtm_at "vc"
        rename_i nl H10 S10
        refine lc_go (S := S10) (walk_list (xs := [V.str "ways", V.str "level", V.str "many", V.str "clash"])) (by show 4 < 16777216; decide) (fun k acc D' => acc = ((([Str.ofString "ways", Str.ofString "level", Str.ofString "many", Str.ofString "clash"].take k).filter fun x => decide (x = Str.ofString "many")).map V.str)) rfl (fun D' p acc H' e' S' => Rds.sq S' rs1) (fun k v q2 acc D5 H5 H6 hk e5 S5 hR hy Ad Sk hA hS => ?_) (fun la D5 acc H5 e5 S5 hR => ?_)
        · obtain ⟨rfl, hv⟩ := hy
          obtain ⟨nm, rfl, hnm, hn4⟩ : ∃ nm : Str, v = .str nm ∧ [Str.ofString "ways", Str.ofString "level", Str.ofString "many", Str.ofString "clash"][k]? = some nm ∧ (nm = Str.ofString "ways" ∨ nm = Str.ofString "level" ∨ nm = Str.ofString "many" ∨ nm = Str.ofString "clash") := by
            match k, hv with
            | 0, hv => cases hv; exact ⟨_, rfl, rfl, .inl rfl⟩
            | 1, hv => cases hv; exact ⟨_, rfl, rfl, .inr (.inl rfl)⟩
            | 2, hv => cases hv; exact ⟨_, rfl, rfl, .inr (.inr (.inl rfl))⟩
            | 3, hv => cases hv; exact ⟨_, rfl, rfl, .inr (.inr (.inr rfl))⟩
            | k + 4, hv => simp at hv
          wtm_at "vc"
          refine ⟨D5, _, a, Str.ofString "many", nm, rfl, S5, .inr (.inr ⟨_, k_TooMany.ns, inferInstance, rfl⟩), hn4, fun D6 H7 S7 e7 => ?_⟩
          wtm_at "vc"
          refine if_d (fun c9 => ?_) (fun c9 => ?_)
          · wtm_at "vc"
            refine hA _ D6 _ e7 S7 ?_
            rw [List.take_add_one, hnm, List.filter_append, List.map_append, ← hR]
            simp [c9]
          · refine hS D6 _ e7 S7 ?_
            rw [List.take_add_one, hnm, List.filter_append, List.map_append, ← hR]
            simp [c9]
        have hR4 : acc = [V.str "many"] := by rw [hR]; decide +kernel
        subst hR4
        have hA9 : AtC ([V.str "many"] ++ [V.str "other"]) 0 (V.str "many") := ⟨rfl⟩
        wtm_at "vc"
        exact q _ _ Sx.gc up
      · wtm_at "vc"
        refine .inr ⟨D, L, _, _, rfl, S, .inr ⟨p, m, rfl, rfl, h2, h7, hm, hs, fun C D1 H1 hC S1 e1 => ?_⟩⟩
        obtain rfl : C_TooMany = C := by
          have e := k_TooMany.ns.symm.trans hC
          cases e
          rfl
        refine ⟨true, m_TooMany_ReelError, fun _ a ha => ?_, fun z => nomatch z⟩
        simp only [List.set_cons_succ, List.set_cons_zero]
        wtm_at "vc"
        simp only [List.set_cons_succ, List.set_cons_zero]
        obtain ⟨S9, e9, k9⟩ := Sx.err (C := C_TooMany) S1 ha
        wtm_at "vc"
        rename_i nl H10 S10
        refine lc_go (S := S10) (walk_list (xs := [V.str "ways", V.str "level", V.str "many", V.str "clash"])) (by show 4 < 16777216; decide) (fun k acc D' => acc = ((([Str.ofString "ways", Str.ofString "level", Str.ofString "many", Str.ofString "clash"].take k).filter fun x => decide (x = Str.ofString "many")).map V.str)) rfl (fun D' p acc H' e' S' => Rds.sq S' rs1) (fun k v q2 acc D5 H5 H6 hk e5 S5 hR hy Ad Sk hA hS => ?_) (fun la D5 acc H5 e5 S5 hR => ?_)
        · obtain ⟨rfl, hv⟩ := hy
          obtain ⟨nm, rfl, hnm, hn4⟩ : ∃ nm : Str, v = .str nm ∧ [Str.ofString "ways", Str.ofString "level", Str.ofString "many", Str.ofString "clash"][k]? = some nm ∧ (nm = Str.ofString "ways" ∨ nm = Str.ofString "level" ∨ nm = Str.ofString "many" ∨ nm = Str.ofString "clash") := by
            match k, hv with
            | 0, hv => cases hv; exact ⟨_, rfl, rfl, .inl rfl⟩
            | 1, hv => cases hv; exact ⟨_, rfl, rfl, .inr (.inl rfl)⟩
            | 2, hv => cases hv; exact ⟨_, rfl, rfl, .inr (.inr (.inl rfl))⟩
            | 3, hv => cases hv; exact ⟨_, rfl, rfl, .inr (.inr (.inr rfl))⟩
            | k + 4, hv => simp at hv
          wtm_at "vc"
          refine ⟨D5, _, a, Str.ofString "many", nm, rfl, S5, .inr (.inr ⟨_, k_TooMany.ns, inferInstance, rfl⟩), hn4, fun D6 H7 S7 e7 => ?_⟩
          wtm_at "vc"
          refine if_d (fun c9 => ?_) (fun c9 => ?_)
          · wtm_at "vc"
            refine hA _ D6 _ e7 S7 ?_
            rw [List.take_add_one, hnm, List.filter_append, List.map_append, ← hR]
            simp [c9]
          · refine hS D6 _ e7 S7 ?_
            rw [List.take_add_one, hnm, List.filter_append, List.map_append, ← hR]
            simp [c9]
        have hR4 : acc = [V.str "many"] := by rw [hR]; decide +kernel
        subst hR4
        have hA9 : AtC ([V.str "many"] ++ [V.str "other"]) 0 (V.str "many") := ⟨rfl⟩
        wtm_at "vc"
        exact q _ _ Sx.gc up
    | fine w p m w0 w1 h2 h7 hm hs =>
      have hsk : ∀ k, k ≤ m → (lvlC p k).sum ≤ 4000 := fun k hk => by
        have := lvlC_mono h2 (m := k) (n := m) hk
        omega
      rcases (by omega : w = 0 ∨ w = 1) with rfl | rfl
      · wtm_at "vc"
        refine .inl ⟨D, L, p, m, rfl, h2, h7, hm, hsk, S, fun fo ads D1 H1 S1 e1 hal => ?_⟩
        wtm_at "vc"
        exact q D1 _ ⟨S1.dH, fun q hq => S1.ow q (List.mem_cons_of_mem _ (List.mem_append_right _ hq)), S1.nd.sublist (((List.sublist_append_right _ _).trans (List.sublist_cons_self _ _)).map _)⟩ e1
      · wtm_at "vc"
        refine .inl ⟨D, L, p, m, rfl, h2, h7, hm, hsk, S, fun fo ads D1 H1 S1 e1 hal => ?_⟩
        wtm_at "vc"
        exact q D1 _ ⟨S1.dH, fun q hq => S1.ow q (List.mem_cons_of_mem _ (List.mem_append_right _ hq)), S1.nd.sublist (((List.sublist_append_right _ _).trans (List.sublist_cons_self _ _)).map _)⟩ e1
    | pways v a us Rs ka hT hl ho =>
      wtm_at "vc"
      refine .inr ⟨D, L, v, a, us, Rs, rfl, S, ka, hT, hl, .inl ⟨ho, fun C D1 H1 hC S1 e1 => ?_⟩⟩
      obtain rfl : C_NoWays = C := by
        have e := k_NoWays.ns.symm.trans hC
        cases e
        rfl
      refine ⟨true, m_NoWays_ReelError, fun _ a ha => ?_, fun z => nomatch z⟩
      simp only [List.set_cons_succ, List.set_cons_zero]
      wtm_at "vc"
      simp only [List.set_cons_succ, List.set_cons_zero]
      obtain ⟨S9, e9, k9⟩ := Sx.err (C := C_NoWays) S1 ha
      wtm_at "vc"
      rename_i nl H10 S10
      refine lc_go (S := S10) (walk_list (xs := [V.str "ways", V.str "level", V.str "many", V.str "clash"])) (by show 4 < 16777216; decide) (fun k acc D' => acc = ((([Str.ofString "ways", Str.ofString "level", Str.ofString "many", Str.ofString "clash"].take k).filter fun x => decide (x = Str.ofString "ways")).map V.str)) rfl (fun D' p acc H' e' S' => Rds.sq S' rs1) (fun k v q2 acc D5 H5 H6 hk e5 S5 hR hy Ad Sk hA hS => ?_) (fun la D5 acc H5 e5 S5 hR => ?_)
      · obtain ⟨rfl, hv⟩ := hy
        obtain ⟨nm, rfl, hnm, hn4⟩ : ∃ nm : Str, v = .str nm ∧ [Str.ofString "ways", Str.ofString "level", Str.ofString "many", Str.ofString "clash"][k]? = some nm ∧ (nm = Str.ofString "ways" ∨ nm = Str.ofString "level" ∨ nm = Str.ofString "many" ∨ nm = Str.ofString "clash") := by
          match k, hv with
          | 0, hv => cases hv; exact ⟨_, rfl, rfl, .inl rfl⟩
          | 1, hv => cases hv; exact ⟨_, rfl, rfl, .inr (.inl rfl)⟩
          | 2, hv => cases hv; exact ⟨_, rfl, rfl, .inr (.inr (.inl rfl))⟩
          | 3, hv => cases hv; exact ⟨_, rfl, rfl, .inr (.inr (.inr rfl))⟩
          | k + 4, hv => simp at hv
        wtm_at "vc"
        refine ⟨D5, _, a, Str.ofString "ways", nm, rfl, S5, .inl ⟨_, k_NoWays.ns, inferInstance, rfl⟩, hn4, fun D6 H7 S7 e7 => ?_⟩
        wtm_at "vc"
        refine if_d (fun c9 => ?_) (fun c9 => ?_)
        · wtm_at "vc"
          refine hA _ D6 _ e7 S7 ?_
          rw [List.take_add_one, hnm, List.filter_append, List.map_append, ← hR]
          simp [c9]
        · refine hS D6 _ e7 S7 ?_
          rw [List.take_add_one, hnm, List.filter_append, List.map_append, ← hR]
          simp [c9]
      have hR4 : acc = [V.str "ways"] := by rw [hR]; decide +kernel
      subst hR4
      have hA9 : AtC ([V.str "ways"] ++ [V.str "other"]) 0 (V.str "ways") := ⟨rfl⟩
      wtm_at "vc"
      exact q _ _ Sx.gc up
    | plevel p m a us Rs ka hT hl h2 h7 hm hs hno =>
      wtm_at "vc"
      refine .inr ⟨D, L, _, a, us, Rs, rfl, S, ka, hT, hl, .inr ⟨p, m, rfl, h2, h7, hm, hs, hno, fun C D1 H1 hC S1 e1 => ?_⟩⟩
      obtain rfl : C_NoLevel = C := by
        have e := k_NoLevel.ns.symm.trans hC
        cases e
        rfl
      refine ⟨true, m_NoLevel_ReelError, fun _ a ha => ?_, fun z => nomatch z⟩
      simp only [List.set_cons_succ, List.set_cons_zero]
      wtm_at "vc"
      simp only [List.set_cons_succ, List.set_cons_zero]
      obtain ⟨S9, e9, k9⟩ := Sx.err (C := C_NoLevel) S1 ha
      wtm_at "vc"
      rename_i nl H10 S10
      refine lc_go (S := S10) (walk_list (xs := [V.str "ways", V.str "level", V.str "many", V.str "clash"])) (by show 4 < 16777216; decide) (fun k acc D' => acc = ((([Str.ofString "ways", Str.ofString "level", Str.ofString "many", Str.ofString "clash"].take k).filter fun x => decide (x = Str.ofString "level")).map V.str)) rfl (fun D' p acc H' e' S' => Rds.sq S' rs1) (fun k v q2 acc D5 H5 H6 hk e5 S5 hR hy Ad Sk hA hS => ?_) (fun la D5 acc H5 e5 S5 hR => ?_)
      · obtain ⟨rfl, hv⟩ := hy
        obtain ⟨nm, rfl, hnm, hn4⟩ : ∃ nm : Str, v = .str nm ∧ [Str.ofString "ways", Str.ofString "level", Str.ofString "many", Str.ofString "clash"][k]? = some nm ∧ (nm = Str.ofString "ways" ∨ nm = Str.ofString "level" ∨ nm = Str.ofString "many" ∨ nm = Str.ofString "clash") := by
          match k, hv with
          | 0, hv => cases hv; exact ⟨_, rfl, rfl, .inl rfl⟩
          | 1, hv => cases hv; exact ⟨_, rfl, rfl, .inr (.inl rfl)⟩
          | 2, hv => cases hv; exact ⟨_, rfl, rfl, .inr (.inr (.inl rfl))⟩
          | 3, hv => cases hv; exact ⟨_, rfl, rfl, .inr (.inr (.inr rfl))⟩
          | k + 4, hv => simp at hv
        wtm_at "vc"
        refine ⟨D5, _, a, Str.ofString "level", nm, rfl, S5, .inr (.inl ⟨_, k_NoLevel.ns, inferInstance, rfl⟩), hn4, fun D6 H7 S7 e7 => ?_⟩
        wtm_at "vc"
        refine if_d (fun c9 => ?_) (fun c9 => ?_)
        · wtm_at "vc"
          refine hA _ D6 _ e7 S7 ?_
          rw [List.take_add_one, hnm, List.filter_append, List.map_append, ← hR]
          simp [c9]
        · refine hS D6 _ e7 S7 ?_
          rw [List.take_add_one, hnm, List.filter_append, List.map_append, ← hR]
          simp [c9]
      have hR4 : acc = [V.str "level"] := by rw [hR]; decide +kernel
      subst hR4
      have hA9 : AtC ([V.str "level"] ++ [V.str "other"]) 0 (V.str "level") := ⟨rfl⟩
      wtm_at "vc"
      exact q _ _ Sx.gc up
    | pfine p m a us Rs sE ka hT h2 h7 hm hs hl hM hr =>
      wtm_at "vc"
      refine .inl ⟨D, L, a, us, Rs, p, m, sE, rfl, S, ⟨.inl ka.pf⟩, hT, h2, h7, hm, hs, hl, hM, hr, fun t lv rb O D1 H1 S1 e1 kt hlt => ?_⟩
      wtm_at "vc"
      exact q D1 _ ⟨S1.dH, fun q hq => S1.ow q (List.mem_append_right _ (List.mem_cons_of_mem _ hq)), S1.nd.sublist (((List.sublist_cons_self _ _).trans (List.sublist_append_right _ _)).map _)⟩ e1
abbrev st__law_play_right : Stmt := topS 42
theorem sc__law_play_right : FnScope ["pot", "p", "levels", "n", "counts", "ways", "reels", "count", "due", "turn"] ["pot", "p"] (defScope st__law_play_right) := ⟨rfl, rfl, rfl, by decide +kernel, rfl, by decide +kernel, by decide +kernel⟩
/-- how big the text of reels is -/
theorem pr_lI {xs : List Int} {c : Nat} (h : ∀ z, z ∈ xs → z.natAbs ≤ 1000000000000000000000000000000000000000000000000000000000000) (hc : xs.length ≤ c) : Pr c 1 (lI xs) := pr_lst (pr_all (n := 0) (m := 0) (fun d hd => by
  obtain ⟨z, hz, rfl⟩ := List.mem_map.mp hd
  refine pr_int ?_
  have h1 := h z hz
  by_cases h0 : z.natAbs = 0
  · rw [h0]; decide
  · exact (Nat.log2_lt h0).mpr (Nat.lt_of_le_of_lt h1 (by decide +kernel))) (by rw [List.length_map]; omega))
theorem pr_tw {f : Bool} {k : Int} {r : TRow} (h : rowW f k r) : Pr 6 2 (twD r) := by
  cases r with
  | none => exact ⟨rfl, rfl, rfl, Nat.zero_le _, Nat.zero_le _⟩
  | some s =>
    obtain ⟨_, h1, h2⟩ := h
    exact pr_tup (pr_cons (n1 := 0) (n2 := 4) ((pr_bl s.1).mono (Nat.le_refl 0) (Nat.zero_le 1)) (pr_cons (n1 := 3) (n2 := 0) (pr_lI h2 h1) (pr_nil 0 1) (by decide)) (by decide))
theorem pr_re {f : Bool} {ks : List Int} {R : List TRow} (h : ReW f ks R) : PrAll (7 * R.length) 2 (R.map twD) := by
  induction h with
  | nil => exact pr_nil _ _
  | cons h1 _ ih =>
    rw [List.map_cons, List.length_cons]
    exact pr_cons (pr_tw h1) ih (by omega)
theorem pr_rl {f : Bool} {N : List (List Int)} {Rs : List (List TRow)} (h : RlW f N Rs) : PrAll (8 * (Rs.map List.length).sum + Rs.length) 3 (Rs.map fun R => PyData.list (R.map twD)) := by
  induction h with
  | nil => exact pr_nil _ _
  | cons h1 _ ih =>
    rw [List.map_cons, List.map_cons, List.sum_cons, List.length_cons]
    exact pr_cons (pr_lst (pr_re h1)) ih (by omega)
theorem dp_found {K : PySem.W.Frag} {D : Hp} {L O : Own} {H : Hp} {t rb : Addr} {lv : V} {rd : List Int} {w : TRow} (S : Sx D (O ++ (rb, .lst (rd.map V.int)) :: L) H) (kt : Kn D t (.tup [lv, .ref rb])) (hlt : ltW D lv O w) : Dp K H (.ref t) (.tuple [twD w, lI rd]) := by
  cases w with
  | none =>
    obtain ⟨rfl, rfl⟩ := hlt
    have S0 : Sx D ((rb, .lst (rd.map V.int)) :: L) H := S
    obtain ⟨D1, e1, k1, S1⟩ := Sx.fix1 (a := rb) (S := S0)
    exact (rp_H S1 (.tup (e1.e _ _ kt.pf) (.cons .non (.cons (.lstI k1.pf) .nil)))).dp
  | some r =>
    obtain ⟨lt, lb, rfl, kl, rfl⟩ := hlt
    have S0 : Sx D ((lb, .lst (r.2.map V.int)) :: (rb, .lst (rd.map V.int)) :: L) H := S
    obtain ⟨D1, e1, k1, S1⟩ := Sx.fix1 (a := lb) (S := S0)
    obtain ⟨D2, e2, k2, S2⟩ := Sx.fix1 (a := rb) (S := S1)
    exact (rp_H S2 (.tup (e2.e _ _ (e1.e _ _ kt.pf)) (.cons (tw_mk (u := r.1) ⟨e2.e _ _ (e1.e _ _ kl.pf)⟩ ⟨e2.e _ _ k1.pf⟩) (.cons (.lstI k2.pf) .nil)))).dp
theorem dp_due {K : PySem.W.Frag} {D : Hp} {L : Own} {H : Hp} {t rb : Addr} {lv : V} {rd : List Int} {w : TRow} (S : Sx D L H) (kt : Kn D t (.tup [lv, .ref rb])) (kr : Kn D rb (.lst (rd.map V.int))) (hlv : Rp D lv (twD w)) : Dp K H (.ref t) (.tuple [twD w, lI rd]) := (rp_H S (.tup kt.pf (.cons hlv (.cons (.lstI kr.pf) .nil)))).dp
theorem sh_found (w : TRow) (rd : List Int) : Sh 3 (.tuple [twD w, lI rd]) := Sh.tup (n := 2) fun d hd => by
  rcases List.mem_cons.mp hd with rfl | hd
  · exact sh_twD w
  · rw [List.mem_singleton.mp hd]
    exact Sh.list (n := 1) Sh.ints
theorem TuA.of {D : Hp} : ∀ {us : List V} {Rs : List (List TRow)}, RpAll D us (Rs.map fun R => PyData.list (R.map twD)) → TuA D us Rs
  | [], [], _ => .nil
  | [], _ :: _, h => nomatch h
  | _ :: _, [], h => nomatch h
  | _ :: us, R :: Rs, .cons h1 h2 => by
    obtain ⟨a, xs, rfl, k, hx⟩ := Rp.inv_lst h1
    exact .cons (vs := xs) ⟨.inl k⟩ hx (TuA.of h2)
theorem TuA.snoc {D : Hp} {us : List V} {Rs : List (List TRow)} {a : Addr} {vs : List V} {R : List TRow} (h : TuA D us Rs) (k : Ks D a vs) (hr : RpAll D vs (R.map twD)) : TuA D (us ++ [.ref a]) (Rs ++ [R]) := by
  induction h with
  | nil => exact .cons k hr .nil
  | cons k1 h1 _ ih => exact .cons k1 h1 ih
/-- rows that go by their numbers can be played -/
theorem rl_run {f : Bool} {p n : Nat} {Rs : List (List TRow)} (hp : 1 ≤ p) (h : RlW f (trnN p n) Rs) : ∃ s, tnT finW n ((List.range p, p), ((fun r => Rs.getD r []), (List.replicate (p + 1) 0, 0))) = .ok s := by
  have hl : Rs.map (fun r => (r.length : Int)) = lvlC p n := h.lens.trans (trnN_lens hp n)
  refine tnT_ok (fin := finW) (Inv := fun _ l => InvY f l) hp (fun _ l l' hp i r k hr => i r k (hp.mem_iff.mpr hr)) (fun g T k rest _ _ _ i g' w e => invY_step i e) (fun g T k rest _ _ _ i => invY_ok g i) (cf_start hp hl) ?_ n (Nat.le_refl n)
  rw [prs_start hp hl]
  intro r k hr
  exact (h.flat.zip (some r) k hr).1
theorem rl_lnw {f : Bool} {p n : Nat} {Rs : List (List TRow)} (hp : 1 ≤ p) (h : RlW f (trnN p n) Rs) (hs : (lvlC p n).sum ≤ 4000) : (Rs.flatten.map lnW).sum ≤ 100000 := by
  have h1 := h.flat.lnw
  have h2 := trn_flen hp n
  omega
theorem rl_sum {f : Bool} {p n : Nat} {Rs : List (List TRow)} (hp : 1 ≤ p) (h : RlW f (trnN p n) Rs) : (((Rs.map List.length).sum : Nat) : Int) = (lvlC p n).sum := by
  have hl : Rs.map (fun r => (r.length : Int)) = lvlC p n := h.lens.trans (trnN_lens hp n)
  rw [← hl]
  clear hl h
  induction Rs with
  | nil => rfl
  | cons R Rs ih => rw [List.map_cons, List.map_cons, List.sum_cons, List.sum_cons, Int.natCast_add, ih]
theorem rl_ln {f : Bool} {p n : Nat} {Rs : List (List TRow)} {s : TSt TRow (List Int × Int)} (hp : 1 ≤ p) (h : RlW f (trnN p n) Rs) (hs : (lvlC p n).sum ≤ 4000) (e : tnT finW n ((List.range p, p), ((fun r => Rs.getD r []), (List.replicate (p + 1) 0, 0))) = .ok s) : s.2.2.1.length = p + 1 := by
  have hl : Rs.map (fun r => (r.length : Int)) = lvlC p n := h.lens.trans (trnN_lens hp n)
  have hI0 : InvM p 100000 (List.replicate (p + 1) 0, 0) (prsO (trnN p n) [] (List.range p) p (fun r => Rs.getD r [])) := by
    rw [prs_start hp hl]
    exact ⟨List.length_replicate, Int.le_refl 0, Nat.le_trans (sum_zip_le lnW _ _) (rl_lnw hp h hs)⟩
  exact (tnT_inv (fin := finW) (Inv := InvM p 100000) hp invM_perm (fun g T k rest _ _ _ hI g' w hw => invM_step g T k rest hI g' w hw) (cf_start hp hl) hI0 n (Nat.le_refl _) _ e).2.ln
theorem end_row {p : Nat} (hp : 1 ≤ p) {o : List Nat} {out : Nat} {h : Nat → List TRow} (c : CfT p (trnN p 0) [] o out h) : ((h (o.headD 0)).headD none, (0 : Int)) ∈ prsO (trnN p 0) [] o out h := by
  obtain ⟨l, o', x, rfl, hx⟩ := cf0_one hp c
  show ((h l).headD none, (0 : Int)) ∈ (List.zipWith (fun r ns => (h r).zip ns) (l :: o') ([0] :: List.replicate (p - 1) [])).flatten ++ (h out).zip []
  rw [List.zipWith_cons_cons, List.flatten_cons, hx]
  exact List.mem_append_left _ (List.mem_append_left _ List.mem_cons_self)
theorem rl_lw {f : Bool} {p n : Nat} {Rs : List (List TRow)} {s : TSt TRow (List Int × Int)} (hp : 1 ≤ p) (h : RlW f (trnN p n) Rs) (hs : (lvlC p n).sum ≤ 4000) (e : tnT finW n ((List.range p, p), ((fun r => Rs.getD r []), (List.replicate (p + 1) 0, 0))) = .ok s) : lnW ((s.2.1 (s.1.1.headD 0)).headD none) ≤ 100000 := by
  have hl : Rs.map (fun r => (r.length : Int)) = lvlC p n := h.lens.trans (trnN_lens hp n)
  have hI0 : InvM p 100000 (List.replicate (p + 1) 0, 0) (prsO (trnN p n) [] (List.range p) p (fun r => Rs.getD r [])) := by
    rw [prs_start hp hl]
    exact ⟨List.length_replicate, Int.le_refl 0, Nat.le_trans (sum_zip_le lnW _ _) (rl_lnw hp h hs)⟩
  obtain ⟨c, i⟩ := tnT_inv (fin := finW) (Inv := InvM p 100000) hp invM_perm (fun g T k rest _ _ _ hI g' w hw => invM_step g T k rest hI g' w hw) (cf_start hp hl) hI0 n (Nat.le_refl _) _ e
  rw [Nat.sub_self] at c i
  have h1 := end_row hp c
  have h2 := i.sz
  have h3 : ∀ (l : List (TRow × Int)) (z : TRow × Int), z ∈ l → lnW z.1 ≤ (l.map fun z => lnW z.1).sum := fun l => by
    induction l with
    | nil => intro z h; exact nomatch h
    | cons y l ih =>
      intro z h
      rw [List.map_cons, List.sum_cons]
      rcases List.mem_cons.mp h with rfl | h
      · exact Nat.le_add_right _ _
      · have := ih z h
        omega
  exact Nat.le_trans (h3 _ _ h1) h2

theorem lv12_lt {p : Nat} (h2 : 2 ≤ p) (h7 : p ≤ 7) : (lvlC p 11).sum + 1 < (lvlC p 12).sum := by
  rcases (by omega : p = 2 ∨ p = 3 ∨ p = 4 ∨ p = 5 ∨ p = 6 ∨ p = 7) with e | e | e | e | e | e <;> subst e <;> decide +kernel
theorem lv12_sm {p n : Nat} (h2 : 2 ≤ p) (h7 : p ≤ 7) (hn : n < if 3 < p then 6 else 12) : (lvlC p n).sum + 1 ≤ 4000 := by
  have h : (lvlC p n).sum ≤ (lvlC p (if 3 < p then 5 else 11)).sum := lvlC_mono h2 (by
    by_cases c : 3 < p
    · rw [if_pos c] at hn ⊢; omega
    · rw [if_neg c] at hn ⊢; omega)
  have h3 : (lvlC p (if 3 < p then 5 else 11)).sum + 1 ≤ 4000 := by
    rcases (by omega : p = 2 ∨ p = 3 ∨ p = 4 ∨ p = 5 ∨ p = 6 ∨ p = 7) with e | e | e | e | e | e <;> subst e <;> decide +kernel
  omega
theorem no_lvl {p : Nat} {cs : List Int} (h2 : 2 ≤ p) (h7 : p ≤ 7) (hs : cs.sum ≤ (lvlC p 11).sum + 1) (hno : ∀ k, k < 12 → lvlC p k ≠ cs) (k : Nat) : lvlC p k ≠ cs := by
  by_cases c : k < 12
  · exact hno k c
  · intro e
    have h := lvlC_mono h2 (show 12 ≤ k by omega)
    have h3 := lv12_lt h2 h7
    rw [e] at h
    omega
theorem mem_sum55 {x : Int} : ∀ {xs : List Int}, (∀ y, y ∈ xs → 0 ≤ y) → x ∈ xs → x ≤ xs.sum
  | y :: ys, h, hx => by
    have h2 : ∀ (l : List Int), (∀ y, y ∈ l → 0 ≤ y) → 0 ≤ l.sum := by
      intro l
      induction l with
      | nil => intro _; exact Int.le_refl _
      | cons a l ih =>
        intro h
        have h1 := h a List.mem_cons_self
        have h3 := ih fun z hz => h z (List.mem_cons_of_mem _ hz)
        rw [List.sum_cons]
        omega
    have h0 := h y List.mem_cons_self
    have h4 := h2 ys fun z hz => h z (List.mem_cons_of_mem _ hz)
    rw [List.sum_cons]
    rcases List.mem_cons.mp hx with rfl | hx
    · omega
    · have := mem_sum55 (fun z hz => h z (List.mem_cons_of_mem _ hz)) hx
      omega
theorem rp_nons {D : Hp} : ∀ n : Nat, RpAll D (List.replicate n V.non) ((List.replicate n (none : TRow)).map twD)
  | 0 => .nil
  | n + 1 => .cons .non (rp_nons n)
theorem rew_nons5 {f : Bool} : ∀ ks : List Int, ReW f ks (List.replicate ks.length none)
  | [] => .nil
  | k :: ks => .cons trivial (rew_nons5 ks)
theorem rlw_nons5 {f : Bool} : ∀ N : List (List Int), RlW f N (N.map fun ks => List.replicate ks.length none)
  | [] => .nil
  | ks :: N => .cons (rew_nons5 ks) (rlw_nons5 N)
theorem any_lvE {p : Nat} {cs : List Int} : ((((List.range 12).map fun k => lvlC p k).map lI).any fun z => PyData.eqv z (lI cs)) = (List.range 12).any fun k => decide (lvlC p k = cs) := by
  rw [List.any_map, List.any_map]
  congr 1
  funext k
  exact eqv_lstI _ _
theorem any_lv {p : Nat} {cs : List Int} : ((List.range 12).any fun k => decide (lvlC p k = cs)) = false ↔ ∀ k, k < 12 → lvlC p k ≠ cs := by
  rw [List.any_eq_false]
  exact ⟨fun h k hk e => h k (List.mem_range.mpr hk) (decide_eq_true e), fun h k hk e => h k (List.mem_range.mp hk) (of_decide_eq_true e)⟩
theorem trn_map_len {p n : Nat} {N : List (List Int)} {cs : List Int} (h : N.map (fun r => (r.length : Int)) = cs) : cs.map (fun c => List.replicate c.toNat (none : TRow)) = N.map fun ks => List.replicate ks.length none := by
  rw [← h, List.map_map]
  rfl
theorem nons_ln : ∀ (N : List (List Int)), ((N.map fun ks => List.replicate ks.length (none : TRow)).flatten.map lnW).sum = 0
  | [] => rfl
  | ks :: N => by
    rw [List.map_cons, List.flatten_cons, List.map_append, List.sum_append, nons_ln N, List.map_replicate]
    show (List.replicate ks.length 0).sum + 0 = 0
    rw [Nat.add_zero]
    generalize ks.length = n
    induction n with
    | zero => rfl
    | succ n ih => rw [List.replicate_succ, List.sum_cons, ih]

theorem op_notInDS {X : Cx} {A : Around} (h : A.units + 80 < cLine) (e : X.A.units = A.units := by rfl) : OpR X (compareOp .NotIn) (rNotInD X.K) := op_notInD (by rw [e]; omega)

def sp__law_play_right (K : PySem.W.Frag) : Sp := fun vs H Q _ => ∃ (D : Hp) (L : Own) (pot : Addr) (x y : Int) (p : Nat), vs = [.ref pot, .int (p : Int)] ∧ Sx D ((pot, .lst [.int x, .int y]) :: L) H ∧ 2 ≤ p ∧ p ≤ 7 ∧ 0 ≤ x ∧ 0 ≤ y ∧ y < 2147483647 ∧
  ∀ x' y' D' H', Sx D' ((pot, .lst [.int x', .int y']) :: L) H' → Sm D D' → 0 ≤ x' → 0 ≤ y' → y' < 2147483647 → Q (.bl true) H'
theorem ok__law_play_right {fA : Addr} {fd : FuncData} (F : Fun K "_law_play_right" "_law_play_right" st__law_play_right fA fd) (b_int : mg "int" = none) (b_range : mg "range" = none)
    (C__law_counts : Cl P w K mg base CX0 1 "_law_counts" ["p", "n"] (sp__law_counts K))
    (C__law_other_counts : Cl P w K mg base CX0 2 "_law_other_counts" ["pot", "counts"] (sp__law_other_counts K))
    (C__law_take : Cl P w K mg base CX0 1 "_law_take" ["pot", "many"] (sp__law_take K))
    (C__law_told : Cl P w K mg base CX0 6 "_law_told" ["way", "p", "thing"] (sp__law_told K)) : FnOk P w K mg base CX0 7 fA fd ["pot", "p"] (sp__law_play_right K) := by
  refine F.ok sc__law_play_right (fun vs H Q E h => ?_) (fun cdv A outer s H vs Q E hr h => ?_)
  · obtain ⟨D, L, pot, x, y, p, rfl, S, h2, h7, x0, y0, y1, q⟩ := h
    rfl
  · obtain ⟨D, L, pot, x, y, p, rfl, S, h2, h7, x0, y0, y1, q⟩ := h
    have hu : (A.deeper (envOfC "_law_play_right" (defScope st__law_play_right) s.heap.objs.size fA cdv)).units + 64 < cLine := by have := hr.un; omega
    have hu9 : (A.deeper (envOfC "_law_play_right" (defScope st__law_play_right) s.heap.objs.size fA cdv)).units + 80 < cLine := by have := hr.un; omega
    refine ⟨_, (pss_cons (ps_setLc (i := 2) (own := [("n", 3)]) (tt := tYes) rfl sc__law_play_right.nd rfl rfl (sw_true rfl rfl rfl (by decide +kernel)) (pi_range1 (by rfl) b_range (pa_cons pe_int pa_nil)) (blkOk_by (N := ["pot", "p", "levels", "n", "counts", "ways", "reels", "count", "due", "turn"]) (sc := defScope st__law_play_right) (by decide +kernel)) (fun _ _ _ _ _ => (pg_name (i := 3) sc__law_play_right.nd rfl (Or.inl rfl))) (fun _ _ _ _ _ => pts_nil) (fun _ _ _ _ _ => (pe_cl C__law_counts hr (by decide) (by rfl) (pa_cons (pv 1) (pa_cons (pv 3) pa_nil)))))
      (pss_cons (ps_set (i := 4) sc__law_play_right.nd rfl (Or.inl rfl) (pe_cl C__law_other_counts hr (by decide) (by rfl) (pa_cons (pv 0) (pa_cons (pe_ix (r := rIx K) ix_seq (pv 2) (pe_cl C__law_take hr (by decide) (by rfl) (pa_cons (pv 0) (pa_cons (pe_ix (r := rIx K) ix_seq (pe_lst (pa_cons pe_int (pa_cons pe_int pa_nil))) (pe_callTy call_intN (by rfl) b_int bb_int (pa_cons (pe_cmpR op_gt (pv 1) pe_int (nomark _)) pa_nil)) (fun _ _ => rfl)) pa_nil))) (fun _ _ => rfl)) pa_nil))))
      (pss_cons (ps_set (i := 5) sc__law_play_right.nd rfl (Or.inl rfl) (pe_lst (pa_cons (pv 1) (pa_cons (pe_ix (r := rIx K) ix_seq (pe_lst (pa_cons pe_int (pa_cons pe_int (pa_cons pe_non (pa_cons pe_bl (pa_cons pe_str (pa_cons (pe_op op_pow pe_int pe_int) pa_nil))))))) (pe_cl C__law_take hr (by decide) (by rfl) (pa_cons (pv 0) (pa_cons pe_int pa_nil))) (fun _ _ => rfl)) pa_nil))))
      (pss_cons (ps_setLc (i := 6) (own := [("count", 7)]) (tt := tYes) rfl sc__law_play_right.nd rfl rfl (sw_true rfl rfl rfl (by decide +kernel)) (pi_seqK K (pv 4)) (blkOk_by (N := ["pot", "p", "levels", "n", "counts", "ways", "reels", "count", "due", "turn"]) (sc := defScope st__law_play_right) (by decide +kernel)) (fun _ _ _ _ _ => (pg_name (i := 7) sc__law_play_right.nd rfl (Or.inl rfl))) (fun _ _ _ _ _ => pts_nil) (fun _ _ _ _ _ => (pe_op (r := rMulU K) opMulU (pe_lst (pa_cons pe_non pa_nil)) (pv 7))))
      (pss_cons (ps_set (i := 8) sc__law_play_right.nd rfl (Or.inl rfl) pe_str)
      (Evl.pss_cut (ps_if (pt_cmpR (r := rNotInD K) (op_notInDS hu9) (pv 4) (pv 2) (by rfl)) (pss_cons (ps_set (i := 8) sc__law_play_right.nd rfl (Or.inl rfl) pe_str)
      (pss_one (ps_setLc (i := 6) (own := [("count", 7)]) (tt := tYes) rfl sc__law_play_right.nd rfl rfl (sw_true rfl rfl rfl (by decide +kernel)) (pi_seqK K (pv 4)) (blkOk_by (N := ["pot", "p", "levels", "n", "counts", "ways", "reels", "count", "due", "turn"]) (sc := defScope st__law_play_right) (by decide +kernel)) (fun _ _ _ _ _ => (pg_name (i := 7) sc__law_play_right.nd rfl (Or.inl rfl))) (fun _ _ _ _ _ => pts_nil) (fun _ _ _ _ _ => (pe_lc (own := [("turn", 9)]) (tt := tYes) rfl sc__law_play_right.nd (pi_range1 (by rfl) b_range (pa_cons (pv 7) pa_nil)) (by refine blkOk_by (N := ["pot", "p", "levels", "n", "counts", "ways", "reels", "count", "due", "turn"]) ?_; with_unfolding_all rfl) (fun _ _ _ _ _ => (pg_name (i := 9) sc__law_play_right.nd rfl (Or.inl rfl))) (fun _ _ _ _ _ => pts_nil) (fun _ _ _ _ _ => (pe_tup (pa_cons (pe_cmpR (r := rEqX K) (opEq hu) (pe_cl C__law_take hr (by decide) (by rfl) (pa_cons (pv 0) (pa_cons pe_int pa_nil))) pe_int (nomark _)) (pa_cons (pe_lst (pa_cons pe_int pa_nil)) pa_nil))))))))) pss_nil)
      (pss_one (ps_ret (pe_and (pe_cmpR (r := rEqX K) (opEq hu) (pe_cl C__law_told hr (by decide) (by rfl) (pa_cons pe_int (pa_cons (pe_ix (r := rIx K) ix_seq (pv 5) pe_int (fun _ _ => rfl)) (pa_cons (pv 6) pa_nil)))) (pv 8) (nomark _)) (pe_one (pe_cmpR (r := rEqX K) (opEq hu) (pe_cl C__law_told hr (by decide) (by rfl) (pa_cons pe_int (pa_cons (pe_ix (r := rIx K) ix_seq (pv 5) pe_int (fun _ _ => rfl)) (pa_cons (pv 6) pa_nil)))) pe_str (nomark _)))))))))))), ?_⟩
    refine st_start (σ' := [some _, some _, none, none, none, none, none, none, none, none]) rfl (fun bk ct => ?_)
    wtm_at "vc"
    refine lc_go (S := S) (walk_rng (lo := 0) (n := 12)) (by omega) (fun i acc D' => RpAll D' acc (((List.range i).map fun k => lvlC p k).map lI)) .nil (fun _ _ _ _ _ _ => trivial) (fun i v q2 acc D5 H5 H6 hi e5 S5 hR hy Ad Sk hA hS => ?_) (fun lv D5 acc H5 e5 S5 hR => ?_)
    · obtain ⟨rfl, rfl⟩ := hy
      wtm_at "vc"
      refine ⟨D5, _, p, i, by rw [Int.zero_add], h2, h7, by omega, S5, fun ca H6 S6 => ?_⟩
      obtain ⟨D6, e6, kca, S7⟩ := Sx.fix1 (a := ca) (S := S6)
      clear S6
      wtm_at "vc"
      refine hA _ D6 _ e6 S7 ?_
      rw [List.range_succ, List.map_append, List.map_append]
      exact RpAll.app (hR.up e6.e) (.cons (.lstI kca.pf) .nil)
    wtm_at "vc"
    rename_i l1 H6 S6
    obtain ⟨M, hA1, hM⟩ : ∃ M : Nat, AtC [V.int 12, V.int 6] (if decide (3 < (p : Int)) = true then 1 else 0) (.int (M : Int)) ∧ M = if 3 < p then 6 else 12 := by
      by_cases c : 3 < p
      · exact ⟨6, by rw [decide_eq_true (by omega : 3 < (p : Int))]; exact ⟨rfl⟩, by rw [if_pos c]⟩
      · exact ⟨12, by rw [decide_eq_false (by omega : ¬ 3 < (p : Int))]; exact ⟨rfl⟩, by rw [if_neg c]⟩
    have hM12 : 1 ≤ M ∧ M ≤ 12 := by rw [hM]; split <;> omega
    wtm_at "vc"
    refine ⟨_, _, pot, x, y, (M : Int), rfl, Sx.front (a := pot) (S := S6), x0, y0, y1, by omega, by omega, fun r x y H7 S7 r0 r1 x0 y0 y1 => ?_⟩
    obtain ⟨n, rfl⟩ : ∃ n : Nat, r = (n : Int) := ⟨r.toNat, by omega⟩
    have hn12 : n < 12 := by omega
    obtain ⟨v, hv, rp⟩ := RpAll.get hR (i := n) (d := lI (lvlC p n)) (by rw [List.map_map, List.getElem?_map, List.getElem?_range hn12]; rfl)
    obtain ⟨la, rfl, kla0⟩ := Rp.inv_lstI rp
    have kla : Kn D5 la (.lst ((lvlC p n).map V.int)) := ⟨kla0⟩
    have hA2 : AtC acc (n : Int) (.ref la) := ⟨atN r0 (by rw [Int.toNat_natCast]; exact hv)⟩
    have hsm := lv12_sm (n := n) h2 h7 (by rw [← hM]; omega)
    have hge := (lvlC_ge (p := p) (by omega) n).2
    wtm_at "vc"
    refine ⟨_, _, pot, la, x, y, lvlC p n, rfl, Sx.front (a := pot) (S := S7), kla, by rw [lvlC_len (by omega)]; omega, by rw [lvlC_len (by omega)]; omega, fun z hz => ⟨hge z hz, by have := mem_sum55 hge hz; omega⟩, x0, y0, y1, fun f cs x y D8 H8 S8 e8 x0 y0 y1 hcl hcb hcs => ?_⟩
    rw [lvlC_len (by omega)] at hcl
    obtain ⟨D9, e9, kf, S9⟩ := Sx.fix1 (a := f) (S := S8)
    clear S8
    obtain ⟨D10, e10, klv, S9'⟩ := Sx.fix1 (a := lv) (S := Sx.front (a := lv) (S := S9))
    have hR10 := hR.up ((up : Sm D5 D10)).e
    clear S9
    wtm_at "vc"
    rename_i l2 H9 S10
    refine ⟨_, _, pot, x, y, 6, rfl, Sx.front (a := pot) (S := S10), x0, y0, y1, by decide, by decide, fun r2 x y H10 S11 r20 r21 x0 y0 y1 => ?_⟩
    obtain ⟨wv, hA3, hwo⟩ : ∃ v, AtC [V.int 1, V.int 8, V.non, V.bl true, V.str "2", V.int 1000000000000000000000000000000] r2 v ∧ ∀ D, OddV 2 7 D v := by
      rcases (by omega : r2 = 0 ∨ r2 = 1 ∨ r2 = 2 ∨ r2 = 3 ∨ r2 = 4 ∨ r2 = 5) with e | e | e | e | e | e <;> subst e
      · exact ⟨_, ⟨atN (by decide) rfl⟩, fun D => .int _ (by omega)⟩
      · exact ⟨_, ⟨atN (by decide) rfl⟩, fun D => .int _ (by omega)⟩
      · exact ⟨_, ⟨atN (by decide) rfl⟩, fun D => .non⟩
      · exact ⟨_, ⟨atN (by decide) rfl⟩, fun D => .bl _⟩
      · exact ⟨_, ⟨atN (by decide) rfl⟩, fun D => .str _⟩
      · exact ⟨_, ⟨atN (by decide) rfl⟩, fun D => .int _ (by omega)⟩
    wtm_at "vc"
    rename_i wb H11 S12
    have S13 : Sx D10 ((wb, .lst [.int (p : Int), wv]) :: (pot, .lst [.int x, .int y]) :: L) H11 := Sx.gc (S := S12)
    clear S12 S11 S10
    refine lc_go (S := S13) (walk_list (xs := cs.map V.int)) (by rw [List.length_map]; omega) (fun k acc D' => RpAll D' acc (((cs.take k).map fun c => List.replicate c.toNat (none : TRow)).map fun R => PyData.list (R.map twD))) .nil (fun D' p acc H' e' S' => (rsD (K := K) (L := []) ((up : Sm D9 D').e _ _ kf.pf)).sq S'.tail'.tail'.tail') (fun i v q2 acc D11 H12 H13 hi e11 S14 hR2 hy Ad Sk hA hS => ?_) (fun rb D11 acc2 H12 e11 S14 hR2 => ?_)
    · obtain ⟨rfl, hv⟩ := hy
      obtain ⟨c, hc, rfl⟩ := getI hv
      have hcb2 := hcb c (List.mem_of_getElem? hc)
      wtm_at "vc"
      rename_i l3 H14 S15 l4 H15 S16
      have S17 : Sx D11 ((l4, .lst (List.replicate c.toNat V.non)) :: (q2, .lst acc) :: (wb, .lst [.int (p : Int), wv]) :: (pot, .lst [.int x, .int y]) :: L) H15 := Sx.gc (S := S16)
      obtain ⟨D12, e12, k12, S18⟩ := Sx.fix1 (a := l4) (S := S17)
      refine hA _ D12 _ e12 S18 ?_
      rw [take_sn hc, List.map_append, List.map_append]
      exact RpAll.app (hR2.up e12.e) (.cons (.lst k12.pf (rp_nons _)) .nil)
    rw [List.length_map, List.take_length] at hR2
    wtm_at "vc"
    refine s_cut (fun σ H => ∃ (D' : Hp) (ra : Addr) (us : List V) (Rs : List (List TRow)) (x y : Int) (z : Str) (o7 o9 : Option V), σ = [some (.ref pot), some (.int (p : Int)), some (.ref lv), none, some (.ref f), some (.ref wb), some (.ref ra), o7, some (.str z), o9] ∧ Sm D11 D' ∧ Sx D' ((ra, .lst us) :: (wb, .lst [.int (p : Int), wv]) :: (pot, .lst [.int x, .int y]) :: L) H ∧ 0 ≤ x ∧ 0 ≤ y ∧ y < 2147483647 ∧ RpAll D' us (Rs.map fun R => PyData.list (R.map twD)) ∧ Rs.map (fun r => (r.length : Int)) = cs ∧
        ((z = "" ∧ (∃ m, m ≤ 300 ∧ (lvlC p m).sum ≤ 4000 ∧ lvlC p m = cs) ∧ Rs = cs.map fun c => List.replicate c.toNat none) ∨ (z = "level" ∧ ∀ k, lvlC p k ≠ cs))) (fun nx hN => ?_) (fun σ H13 ⟨D12, ra, us, Rs, x, y, z, o7, o9, es, e12, S15, x0, y0, y1, hU, hRl, hz⟩ => ?_)
    · wtm_at "vc"
      have hlR : (cs.map fun c => List.replicate c.toNat (none : TRow)).map (fun r => (r.length : Int)) = cs := by
        rw [List.map_map]
        refine (List.map_congr_left fun c hc => ?_).trans (List.map_id _)
        have := hcb c hc
        show ((List.replicate c.toNat (none : TRow)).length : Int) = c
        rw [List.length_replicate]
        omega
      refine ⟨lI cs, ((List.range 12).map fun k => lvlC p k).map lI, dpl S14 (rsD ((up : Sm D9 D11).e _ _ kf.pf)), dpLL S14 (rsD ((up : Sm D10 D11).e _ _ klv.pf)) (hR10.up e11.e), sh_lstI cs, sh_LL _, ?_⟩
      rw [any_lvE]
      cases hb : (List.range 12).any fun k => decide (lvlC p k = cs)
      · have hno := any_lv.mp hb
        have hno2 := no_lvl h2 h7 (by have := lvlC_mono h2 (show n ≤ 11 by omega); omega) hno
        wtm_at "vc"
        have S14' := Sx.front (a := pot) (S := S14)
        refine lc_goL (S := S14') (walk_list (xs := cs.map V.int)) (by rw [List.length_map]; omega) (fun k acc D' L' => ∃ (x y : Int) (Rs : List (List TRow)), L' = (pot, .lst [.int x, .int y]) :: (rb, .lst acc2) :: (wb, .lst [.int (p : Int), wv]) :: L ∧ 0 ≤ x ∧ 0 ≤ y ∧ y < 2147483647 ∧ RpAll D' acc (Rs.map fun R => PyData.list (R.map twD)) ∧ Rs.map (fun r => (r.length : Int)) = cs.take k) ⟨x, y, [], rfl, x0, y0, y1, .nil, rfl⟩ (fun D' L' p acc H' e' S' => Rds.sq S' (rsD ((up : Sm D9 D').e _ _ kf.pf))) (fun i v q2 acc D12 L6 H13 H14 hi e12 S15 hR3 hy Ad Sk hA hS => ?_) (fun nb D12 L6 acc3 H13 e12 S15 hR3 => ?_)
        · obtain ⟨rfl, hv⟩ := hy
          obtain ⟨c, hc, rfl⟩ := getI hv
          have hcb2 := hcb c (List.mem_of_getElem? hc)
          obtain ⟨x, y, Rs, rfl, x0, y0, y1, hRs, hRl⟩ := hR3
          wtm_at "vc"
          have S15' := Sx.front (a := pot) (S := S15)
          refine lc_goL (S := S15') (walk_rng (lo := 0) (n := c.toNat)) (by omega) (fun k acc5 D' L' => ∃ (x y : Int) (R : List TRow), L' = (pot, .lst [.int x, .int y]) :: (q2, .lst acc) :: (rb, .lst acc2) :: (wb, .lst [.int (p : Int), wv]) :: L ∧ 0 ≤ x ∧ 0 ≤ y ∧ y < 2147483647 ∧ RpAll D' acc5 (R.map twD) ∧ R.length = k) ⟨x, y, [], rfl, x0, y0, y1, .nil, rfl⟩ (fun _ _ _ _ _ _ _ => trivial) (fun j v q3 acc4 D13 L7 H15 H16 hj e13 S16 hR4 hy Ad2 Sk2 hA4 hS2 => ?_) (fun lb D13 L7 acc4 H15 e13 S16 hR4 => ?_)
          · obtain ⟨rfl, rfl⟩ := hy
            obtain ⟨x, y, R, rfl, x0, y0, y1, hRw, hRk⟩ := hR4
            wtm_at "vc"
            refine ⟨_, _, pot, x, y, 2, rfl, Sx.front (a := pot) (S := S16), x0, y0, y1, by decide, by decide, fun r3 x y H17 S17 r30 r31 x0 y0 y1 => ?_⟩
            wtm_at "vc"
            rename_i l5 H18 S18 t5 D15 H19 S19 e15 k15
            obtain ⟨D16, e16, k16, S20⟩ := Sx.fix1 (a := l5) (S := S19)
            refine hA4 _ D16 _ _ (up : Sm D13 D16) (Sx.front (a := q3) (S := S20)) ⟨x, y, R ++ [some (decide (r3 = 1), [4])], rfl, x0, y0, y1, ?_, by rw [List.length_append, hRk]; rfl⟩
            rw [List.map_append]
            exact RpAll.app (hRw.up (up : Sm D13 D16).e) (.cons (tw_mk inferInstance k16) .nil)
          obtain ⟨x, y, R, rfl, x0, y0, y1, hRw, hRk⟩ := hR4
          obtain ⟨D14, e14, k14, S17⟩ := Sx.fix1 (a := lb) (S := S16)
          wtm_at "vc"
          refine hA _ D14 _ _ (up : Sm D12 D14) (Sx.front (a := q2) (S := S17)) ⟨x, y, Rs ++ [R], rfl, x0, y0, y1, ?_, ?_⟩
          · rw [List.map_append]
            exact RpAll.app (hRs.up (up : Sm D12 D14).e) (.cons (.lst k14.pf (hRw.up e14.e)) .nil)
          · rw [take_sn hc, List.map_append, hRl, List.map_singleton, hRk]
            congr 2
            omega
        obtain ⟨x, y, Rs, rfl, x0, y0, y1, hRs, hRl⟩ := hR3
        rw [List.length_map, List.take_length] at hRl
        wtm_at "vc"
        have S16 : Sx D12 ((nb, .lst acc3) :: (pot, .lst [.int x, .int y]) :: (wb, .lst [.int (p : Int), wv]) :: L) H13 := Sx.gc (S := S15)
        have S17 := Sx.front (a := wb) (S := S16)
        refine hN _ _ ⟨D12, nb, acc3, Rs, x, y, _, _, _, rfl, up, Sx.front (a := nb) (S := S17), x0, y0, y1, hRs, hRl, .inr ⟨rfl, hno2⟩⟩
      · obtain ⟨k, hk, hkc⟩ : ∃ k, k < 12 ∧ lvlC p k = cs := by
          obtain ⟨k, hk, e⟩ := List.any_eq_true.mp hb
          exact ⟨k, List.mem_range.mp hk, of_decide_eq_true e⟩
        wtm_at "vc"
        refine hN _ _ ⟨D11, rb, acc2, _, x, y, _, _, _, rfl, Sm.rfl', S14, x0, y0, y1, hR2, hlR, .inl ⟨rfl, ⟨k, by omega, by rw [hkc]; omega, hkc⟩, rfl⟩⟩
    subst es
    wtm_at "vc"
    have hTu := TuA.of hU
    have hUl := hU.length
    rw [List.length_map] at hUl
    have hRl2 : Rs.length = cs.length := by rw [← hRl, List.length_map]
    obtain ⟨D13, e13, k13, S16⟩ := Sx.fix1 (a := ra) (S := S15)
    clear S15
    have hask : Ask55 D13 2 (.int (p : Int)) (.ref ra) z := by
      rcases hz with ⟨rfl, ⟨m, hm3, hm4, hmc⟩, hRn⟩ | ⟨rfl, hno⟩
      · have hRn2 : Rs = (trnN p m).map fun ks => List.replicate ks.length none := by
          rw [hRn]
          exact trn_map_len (p := p) (n := m) ((trnN_lens (by omega) m).trans hmc)
        obtain ⟨s, hs⟩ := rl_run (f := false) (p := p) (n := m) (by omega) (rlw_nons5 (f := false) (trnN p m))
        rw [← hRn2] at hs
        exact .pfine p m ra us Rs s k13 (hTu.up e13) h2 h7 hm3 hm4 (hRl.trans hmc.symm) (by rw [hRn2, nons_ln]; omega) hs
      · exact .plevel p 12 ra us Rs k13 (hTu.up e13) (by omega) h2 h7 (by omega) (by rw [hRl]; have := lv12_lt h2 h7; have := lvlC_mono h2 (show n ≤ 11 by omega); omega) (by rw [hRl]; exact hno)
    refine ⟨D13, _, 2, _, _, z, rfl, S16, hask, fun D14 H15 S17 e14 => ?_⟩
    wtm_at "vc"
    refine ⟨D14, _, 2, wv, _, _, rfl, S17, .pways wv ra us Rs inferInstance ((hTu.up e13).up e14) (by omega) (hwo D14), fun D15 H16 S18 e15 => ?_⟩
    wtm_at "vc"
    exact q x y D15 _ (Sx.gc (S := S18)) up x0 y0 y1
abbrev st__law_pot : Stmt := topS 33
theorem sc__law_pot : FnScope ["script", "k", "cell", "prime"] ["script", "k"] (defScope st__law_pot) := ⟨rfl, rfl, rfl, by decide +kernel, rfl, by decide +kernel, by decide +kernel⟩
def sp__law_pot (K : PySem.W.Frag) : Sp := fun vs H Q _ => ∃ (D : Hp) (L : Own) (a : Addr) (ns : List Int) (k : Int), vs = [.ref a, .int k] ∧ Sx D L H ∧ Sq K D a (ns.map V.int) ∧ 0 ≤ k ∧ k ≤ 100 ∧ ns.length ≤ 63 ∧
  ∀ p x y H', Sx D ((p, .lst [.int x, .int y]) :: L) H' → 0 ≤ x → 0 ≤ y → y < 2147483647 → Q (.ref p) H'
theorem ok__law_pot {fA : Addr} {fd : FuncData} (F : Fun K "_law_pot" "_law_pot" st__law_pot fA fd) (b_len : mg "len" = none) (b_max : mg "max" = none) : FnOk P w K mg base CX0 1 fA fd ["script", "k"] (sp__law_pot K) := by
  refine F.ok sc__law_pot (fun vs H Q E h => ?_) (fun cdv A outer s H vs Q E hr h => ?_)
  · obtain ⟨D, L, a, ns, k, rfl, S, ha, k0, k1, hn, q⟩ := h
    rfl
  · obtain ⟨D, L, a, ns, k, rfl, S, ha, k0, k1, hn, q⟩ := h
    have hu : (A.deeper (envOfC "_law_pot" (defScope st__law_pot) s.heap.objs.size fA cdv)).units + 64 < cLine := by have := hr.un; omega
    refine ⟨_, (pss_cons (ps_set (i := 2) sc__law_pot.nd rfl (Or.inl rfl) pe_int)
      (Evl.pss_cut (ps_if (pt_cmpR op_lt (pv 1) (pe_callB (r := rLen K) call_lenN (by rfl) b_len bb_len (pa_cons (pv 0) pa_nil)) (nomark _)) (pss_one (ps_set (i := 2) sc__law_pot.nd rfl (Or.inl rfl) (pe_op op_mod (pe_ix (r := rIx K) ix_seq (pv 0) (pv 1) (fun _ _ => rfl)) (pe_op (r := rMulU K) opMulU (pe_op (r := rMulU K) opMulU (pe_op op_pow pe_int pe_int) (pe_op op_pow pe_int pe_int)) (pe_op op_pow pe_int pe_int))))) pss_nil)
      (pss_cons (ps_set (i := 3) sc__law_pot.nd rfl (Or.inl rfl) (pe_ix (r := rIx K) ix_seq (pe_lst (pa_cons pe_int (pa_cons pe_int (pa_cons pe_int (pa_cons pe_int (pa_cons pe_int pa_nil)))))) (pe_op op_mod (pv 1) pe_int) (fun _ _ => rfl)))
      (pss_one (ps_ret (pe_lst (pa_cons (pe_callB (call_max2N rfl) (by rfl) b_max bb_max (pa_cons pe_int (pa_cons (pe_op op_sub (pv 2) (pe_op op_pow pe_int pe_int)) pa_nil))) (pa_cons (pe_op op_mod (pe_op op_pow (pe_op (r := rAddX K) opAdd (pe_op (r := rAddX K) opAdd (pe_op op_mod (pv 2) (pv 3)) (pe_op (r := rMulU K) opMulU pe_int (pv 1))) pe_int) pe_int) pe_int) pa_nil)))))))), ?_⟩
    refine st_start (σ' := [some _, some _, none, none]) rfl (fun bk ct => ?_)
    wtm_at "vc"
    refine s_cut (fun σ H => ∃ c, 0 ≤ c ∧ σ = [some (.ref a), some (.int k), some (.int c), none] ∧ Sx D L H) (fun nx hN => ?_) (fun σ H ⟨c, c0, es, S⟩ => ?_)
    · wtm_at "vc"
      refine if_d (fun hk => ?_) (fun hk => ?_)
      · obtain ⟨c, hc⟩ : ∃ c, ns[k.toNat]? = some c := ⟨_, List.getElem?_eq_getElem (by omega)⟩
        have hc' : AtC (ns.map V.int) k (.int c) := ⟨atN k0 (mapI hc)⟩
        wtm_at "vc"
        refine ⟨.inr (.inr (by unfold CMulW; decide +kernel)), ?_⟩
        wtm_at "vc"
        refine ⟨.inr (.inr (by unfold CMulW; decide +kernel)), ?_⟩
        wtm_at "vc"
        refine hN _ _ ⟨_, ?_, rfl, S⟩
        exact Int.emod_nonneg _ (by decide)
      · wtm_at "vc"
        exact hN _ _ ⟨0, Int.le_refl _, rfl, S⟩
    subst es
    obtain ⟨pr, hp1, hp2⟩ := atI_get (ns := [2147483629, 2147483587, 2147483579, 2147483563, 2147483549]) (i := k % 5) (by omega) (by show k % 5 < 5; omega)
    have hp3 : 2147483549 ≤ pr ∧ pr ≤ 2147483629 := by
      simp only [List.mem_cons, List.not_mem_nil, or_false] at hp1
      omega
    have : AtC [V.int 2147483629, V.int 2147483587, V.int 2147483579, V.int 2147483563, V.int 2147483549] (k % 5) (.int pr) := ⟨hp2⟩
    wtm_at "vc"
    have z0 := Int.emod_nonneg c (show pr ≠ 0 by omega)
    have z1 := Int.emod_lt_of_pos c (show 0 < pr by omega)
    refine ⟨⟨by decide, by decide, by omega⟩, ?_⟩
    wtm_at "vc"
    rename_i p9 H9 S9
    exact q p9 (max 0 (c - 1000000000000000000)) _ _ (Sx.gc (S := S9) (L := (p9, .lst [.int (max 0 (c - 1000000000000000000)), .int ((c % pr + 7919 * k + 11) ^ Int.toNat 3 % 2147483647)]) :: L)) (by omega) (Int.emod_nonneg _ (by decide)) (Int.emod_lt_of_pos _ (by decide))
abbrev st_law : Stmt := topS 43
theorem sc_law : FnScope ["script", "k", "pot", "p", "n", "way"] ["script"] (defScope st_law) := ⟨rfl, rfl, rfl, by decide +kernel, rfl, by decide +kernel, by decide +kernel⟩
def sp_law (K : PySem.W.Frag) : Sp := fun vs H Q _ => ∃ (a : Addr) (ns : List Int), vs = [.ref a] ∧ Sq K H a (ns.map V.int) ∧ ns.length ≤ 63 ∧ ∀ H', Q (.bl true) H'
theorem ok_law {fA : Addr} {fd : FuncData} (F : Fun K "law" "law" st_law fA fd) (b_len : mg "len" = none) (b_max : mg "max" = none) (b_min : mg "min" = none) (b_range : mg "range" = none)
    (C__law_due : Cl P w K mg base CX0 2 "_law_due" ["p", "n"] (sp__law_due K))
    (C__law_odd : Cl P w K mg base CX0 2 "_law_odd" ["pot"] (sp__law_odd K))
    (C__law_play_right : Cl P w K mg base CX0 7 "_law_play_right" ["pot", "p"] (sp__law_play_right K))
    (C__law_pot : Cl P w K mg base CX0 1 "_law_pot" ["script", "k"] (sp__law_pot K))
    (C__law_take : Cl P w K mg base CX0 1 "_law_take" ["pot", "many"] (sp__law_take K))
    (C__law_told : Cl P w K mg base CX0 6 "_law_told" ["way", "p", "thing"] (sp__law_told K)) : FnOk P w K mg base CX0 8 fA fd ["script"] (sp_law K) := by
  refine F.ok sc_law (fun vs H Q E h => ?_) (fun cdv A outer s H vs Q E hr h => ?_)
  · obtain ⟨a, ns, rfl, hA, hn, q⟩ := h
    rfl
  · obtain ⟨a, ns, rfl, hA, hn, q⟩ := h
    have hu : (A.deeper (envOfC "law" (defScope st_law) s.heap.objs.size fA cdv)).units + 64 < cLine := by have := hr.un; omega
    refine ⟨_, (pss_cons (ps_for PassesOwn.never rfl (pi_range1 (by rfl) b_range (pa_cons (pe_callB (call_max2N rfl) (by rfl) b_max bb_max (pa_cons pe_int (pa_cons (pe_callB (call_min2N rfl) (by rfl) b_min bb_min (pa_cons pe_int (pa_cons (pe_callB (r := rLen K) call_lenN (by rfl) b_len bb_len (pa_cons (pv 0) pa_nil)) pa_nil))) pa_nil))) pa_nil)) (pg_name (i := 1) sc_law.nd rfl (Or.inl rfl))
      (pss_cons (ps_set (i := 2) sc_law.nd rfl (Or.inl rfl) (pe_cl C__law_pot hr (by decide) (by rfl) (pa_cons (pv 0) (pa_cons (pv 1) pa_nil))))
      (pss_cons (ps_set (i := 3) sc_law.nd rfl (Or.inl rfl) (pe_ix (r := rIx K) ix_seq (pe_lst (pa_cons (pe_op (r := rAddX K) opAdd pe_int (pe_cl C__law_take hr (by decide) (by rfl) (pa_cons (pv 2) (pa_cons pe_int pa_nil)))) (pa_cons pe_int (pa_cons pe_int (pa_cons (pe_cl C__law_odd hr (by decide) (by rfl) (pa_cons (pv 2) pa_nil)) pa_nil))))) (pe_callB (call_max2N rfl) (by rfl) b_max bb_max (pa_cons pe_int (pa_cons (pe_op op_sub (pe_cl C__law_take hr (by decide) (by rfl) (pa_cons (pv 2) (pa_cons pe_int pa_nil))) pe_int) pa_nil))) (fun _ _ => rfl)))
      (pss_cons (ps_set (i := 4) sc_law.nd rfl (Or.inl rfl) (pe_ix (r := rIx K) ix_seq (pe_lst (pa_cons (pe_cl C__law_take hr (by decide) (by rfl) (pa_cons (pv 2) (pa_cons pe_int pa_nil))) (pa_cons (pe_cl C__law_take hr (by decide) (by rfl) (pa_cons (pv 2) (pa_cons pe_int pa_nil))) (pa_cons pe_int (pa_cons (pe_cl C__law_odd hr (by decide) (by rfl) (pa_cons (pv 2) pa_nil)) pa_nil))))) (pe_cl C__law_take hr (by decide) (by rfl) (pa_cons (pv 2) (pa_cons pe_int pa_nil))) (fun _ _ => rfl)))
      (pss_cons (ps_for PassesOwn.never rfl (pi_range1 (by rfl) b_range (pa_cons pe_int pa_nil)) (pg_name (i := 5) sc_law.nd rfl (Or.inl rfl))
      (pss_one (ps_if (pt_cmpR (r := rNeX K) (opNe hu) (pe_cl C__law_told hr (by decide) (by rfl) (pa_cons (pv 5) (pa_cons (pv 3) (pa_cons (pv 4) pa_nil)))) (pe_cl C__law_due hr (by decide) (by rfl) (pa_cons (pv 3) (pa_cons (pv 4) pa_nil))) (nomark _)) (pss_one (ps_ret pe_bl)) pss_nil)))
      (pss_one (ps_if (pt_not (pt_val (pe_cl C__law_play_right hr (by decide) (by rfl) (pa_cons (pv 2) (pa_cons (pe_op (r := rAddX K) opAdd pe_int (pe_cl C__law_take hr (by decide) (by rfl) (pa_cons (pv 2) (pa_cons pe_int pa_nil)))) pa_nil))))) (pss_one (ps_ret pe_bl)) pss_nil)))))))
      (pss_one (ps_ret pe_bl))), ?_⟩
    refine st_start (σ' := [some _, none, none, none, none, none]) rfl (fun bk ct => ?_)
    have S := Sx.start H
    wtm_at "vc"
    refine for_go (walk_rng (lo := 0) (n := (max 4 (min 20 (ns.length : Int))).toNat)) (fun i σ H1 => ∃ (D : Hp) (x1 x2 x3 x4 x5 : Option V), Sx D [] H1 ∧ Sm H D ∧ σ = [some (.ref a), x1, x2, x3, x4, x5])
      ⟨H, _, _, _, _, _, S, Sm.rfl', rfl⟩ (fun _ _ _ _ _ => trivial) (fun i0 v σ H1 H2 hi ⟨D, x1, x2, x3, x4, x5, S, eD, es⟩ hy nx bk hN => ?_) (fun σ H1 ⟨D, x1, x2, x3, x4, x5, S, eD, es⟩ => ?_)
    rotate_left
    · subst es
      wtm_at "vc"
      exact q _
    obtain ⟨rfl, rfl⟩ := hy
    subst es
    have hAD : Sq K D a (ns.map V.int) := inferInstance
    wtm_at "vc"
    refine ⟨D, _, a, ns, 0 + (i0 : Int), rfl, S, hAD, by omega, by omega, hn, fun pot x y H3 S3 x0 y0 y1 => ?_⟩
    wtm_at "vc"
    refine ⟨D, _, pot, x, y, 6, rfl, S3, x0, y0, y1, by decide, by decide, fun r x y H4 S4 r0 r1 x0 y0 y1 => ?_⟩
    wtm_at "vc"
    refine ⟨D, _, pot, x, y, rfl, S4, x0, y0, y1, fun v1 x y D1 H5 S5 e1 ho1 ho1' x0 y0 y1 => ?_⟩
    wtm_at "vc"
    rename_i l1 H6 S6
    refine ⟨_, _, pot, x, y, 7, rfl, Sx.front (a := pot) (S := S6), x0, y0, y1, by decide, by decide, fun r2 x y H7 S7 r20 r21 x0 y0 y1 => ?_⟩
    obtain ⟨P, hP⟩ : ∃ P : Nat, 2 + r = (P : Int) := ⟨(2 + r).toNat, by omega⟩
    have hP2 : 2 ≤ P := by omega
    have hP7 : P ≤ 7 := by omega
    obtain ⟨pv, hA1, hpv⟩ : ∃ pv, AtC [V.int (2 + r), V.int 1, V.int 8, v1] (max 0 (r2 - 3)) pv ∧ (OddV 2 7 D1 pv ∨ pv = .int (P : Int)) := by
      rcases (by omega : max 0 (r2 - 3) = 0 ∨ max 0 (r2 - 3) = 1 ∨ max 0 (r2 - 3) = 2 ∨ max 0 (r2 - 3) = 3) with e | e | e | e <;> rw [e]
      · exact ⟨_, ⟨atN (by decide) rfl⟩, .inr (by rw [hP])⟩
      · exact ⟨_, ⟨atN (by decide) rfl⟩, .inl (.int _ (by omega))⟩
      · exact ⟨_, ⟨atN (by decide) rfl⟩, .inl (.int _ (by omega))⟩
      · exact ⟨_, ⟨atN (by decide) rfl⟩, .inl ho1⟩
    wtm_at "vc"
    refine ⟨_, _, pot, x, y, 24, rfl, S7, x0, y0, y1, by decide, by decide, fun r3 x y H8 S8 r30 r31 x0 y0 y1 => ?_⟩
    wtm_at "vc"
    refine ⟨_, _, pot, x, y, 301, rfl, S8, x0, y0, y1, by decide, by decide, fun r4 x y H9 S9 r40 r41 x0 y0 y1 => ?_⟩
    wtm_at "vc"
    refine ⟨_, _, pot, x, y, rfl, S9, x0, y0, y1, fun v2 x y D2 H10 S10 e2 ho2' ho2 x0 y0 y1 => ?_⟩
    wtm_at "vc"
    rename_i l2 H11 S11
    refine ⟨_, _, pot, x, y, 4, rfl, Sx.front (a := pot) (S := S11), x0, y0, y1, by decide, by decide, fun r5 x y H12 S12 r50 r51 x0 y0 y1 => ?_⟩
    obtain ⟨nv, hA2, hnv⟩ : ∃ nv, AtC [V.int r3, V.int r4, V.int 300, v2] r5 nv ∧ (OddV 0 300 D2 nv ∨ ∃ m : Nat, m ≤ 300 ∧ nv = .int (m : Int)) := by
      rcases (by omega : r5 = 0 ∨ r5 = 1 ∨ r5 = 2 ∨ r5 = 3) with e | e | e | e <;> subst e
      · exact ⟨_, ⟨atN (by decide) rfl⟩, .inr ⟨r3.toNat, by omega, by rw [Int.toNat_of_nonneg r30]⟩⟩
      · exact ⟨_, ⟨atN (by decide) rfl⟩, .inr ⟨r4.toNat, by omega, by rw [Int.toNat_of_nonneg r40]⟩⟩
      · exact ⟨_, ⟨atN (by decide) rfl⟩, .inr ⟨300, by omega, rfl⟩⟩
      · exact ⟨_, ⟨atN (by decide) rfl⟩, .inl ho2⟩
    wtm_at "vc"
    have hpv2 : OddV 2 7 D2 pv ∨ pv = .int (P : Int) := hpv.imp (fun h => h.up (up : Sm D1 D2).e) id
    have S13 : Sx D2 [(pot, .lst [.int x, .int y])] H12 := Sx.gc (S := S12)
    clear S12 S11 S10
    obtain ⟨z, hz⟩ : ∃ z : Str, (OddV 2 7 D2 pv ∧ z = Str.ofString "ways") ∨ (pv = .int (P : Int) ∧ ((OddV 0 300 D2 nv ∧ z = Str.ofString "level") ∨ ∃ m : Nat, nv = .int (m : Int) ∧ m ≤ 300 ∧ z = if (lvlC P m).sum ≤ 4000 then Str.ofString "" else Str.ofString "many")) := by
      rcases hpv2 with h | h
      · exact ⟨_, .inl ⟨h, rfl⟩⟩
      · rcases hnv with h2 | ⟨m, hm, h2⟩
        · exact ⟨_, .inr ⟨h, .inl ⟨h2, rfl⟩⟩⟩
        · exact ⟨_, .inr ⟨h, .inr ⟨m, h2, hm, rfl⟩⟩⟩
    refine for_go (walk_rng (lo := 0) (n := 2)) (fun i σ H1 => ∃ (D : Hp) (x5 : Option V), Sx D [(pot, .lst [.int x, .int y])] H1 ∧ Sm D2 D ∧ σ = [some (.ref a), some (.int (0 + (i0 : Int))), some (.ref pot), some pv, some nv, x5])
      ⟨D2, _, S13, Sm.rfl', rfl⟩ (fun _ _ _ _ _ => trivial) (fun i1 v σ H13 H14 hi1 ⟨D3, x5, S14, e3, es⟩ hy nx2 bk2 hN2 => ?_) (fun σ H13 ⟨D3, x5, S14, e3, es⟩ => ?_)
    · obtain ⟨rfl, rfl⟩ := hy
      subst es
      wtm_at "vc"
      have hask : Ask55 D3 (0 + (i1 : Int)) pv nv z := by
        rcases hz with ⟨h, rfl⟩ | ⟨rfl, ⟨h, rfl⟩ | ⟨m, rfl, hm, rfl⟩⟩
        · exact .ways _ _ _ (by omega) (by omega) (h.up e3.e)
        · exact .level _ _ _ (by omega) (by omega) hP2 hP7 (h.up e3.e)
        · by_cases c : (lvlC P m).sum ≤ 4000
          · rw [if_pos c]
            exact .fine _ _ _ (by omega) (by omega) hP2 hP7 hm c
          · rw [if_neg c]
            exact .many _ _ _ (by omega) (by omega) hP2 hP7 hm (by omega)
      refine ⟨D3, _, _, pv, nv, z, rfl, S14, hask, fun D4 H15 S15 e4 => ?_⟩
      wtm_at "vc"
      have key : ∀ D5 H16, Sx D5 [(pot, HO.lst [.int x, .int y])] H16 → Sm D4 D5 → nx2 [some (.ref a), some (.int (0 + (i0 : Int))), some (.ref pot), some pv, some nv, some (.int (0 + (i1 : Int)))] H16 := fun D5 H16 S16 e5 => hN2 _ _ ⟨D5, _, S16, up, rfl⟩
      refine ⟨D4, _, pv, nv, rfl, S15, ?_⟩
      rcases hz with ⟨h, rfl⟩ | ⟨rfl, ⟨h, rfl⟩ | ⟨m, rfl, hm, rfl⟩⟩
      · refine .inl ⟨h.up (up : Sm D2 D4).e, fun D5 H16 S16 e5 => ?_⟩
        wtm_at "vc"
        exact key D5 _ S16 e5
      · refine .inr ⟨P, rfl, hP2, hP7, .inl ⟨h.up (up : Sm D2 D4).e, fun D5 H16 S16 e5 => ?_⟩⟩
        wtm_at "vc"
        exact key D5 _ S16 e5
      · refine .inr ⟨P, rfl, hP2, hP7, .inr ⟨m, rfl, hm, fun D5 H16 S16 e5 => ?_⟩⟩
        by_cases c : (lvlC P m).sum ≤ 4000
        · rw [if_pos c]
          wtm_at "vc"
          exact key D5 _ S16 e5
        · rw [if_neg c]
          wtm_at "vc"
          exact key D5 _ S16 e5
    subst es
    wtm_at "vc"
    refine ⟨_, _, pot, x, y, 6, rfl, S14, x0, y0, y1, by decide, by decide, fun r6 x y H15 S15 r60 r61 x0 y0 y1 => ?_⟩
    obtain ⟨P2, hP2'⟩ : ∃ P : Nat, 2 + r6 = (P : Int) := ⟨(2 + r6).toNat, by omega⟩
    wtm_at "vc"
    refine ⟨D3, _, pot, x, y, P2, by rw [hP2'], S15, by omega, by omega, x0, y0, y1, fun x y D4 H16 S16 e4 x0 y0 y1 => ?_⟩
    wtm_at "vc"
    exact hN _ _ ⟨D4, _, _, _, _, _, Sx.gc (S := S16), up, rfl⟩
end
theorem all_mk {l : PySem.W.OpenLaw} {w : World} {K : PySem.W.Frag} {h : Heap} {mg : Str → Option Value} {t_LEAST_WAYS t_MOST_LEVEL t_MOST_PLACES t_MOST_WAYS : Tok} {C_Clash C_NoBack C_NoLevel C_NoLine C_NoPhase C_NoPlace C_NoRoom C_NoStanding C_NoText C_NoWays C_ReelError C_TooFew C_TooMany : Addr} 
    {fa f__law_counts f__law_is f__law_due f__law_take f__law_odd f__law_other_counts f__law_alone f_first_counts f_higher_counts f_is_whole f_look_at_level f_look_at_ways f_level_counts f_turned_numbers f_level_by_counts f_Clash_init f_turned_row f_turned_play f_turned_ups f__law_told f__law_play_right f__law_pot f_law : Addr} {od__law_counts an__law_counts od__law_is an__law_is od__law_due an__law_due od__law_take an__law_take od__law_odd an__law_odd od__law_other_counts an__law_other_counts od__law_alone an__law_alone od_first_counts an_first_counts od_higher_counts an_higher_counts od_is_whole an_is_whole od_look_at_level an_look_at_level od_look_at_ways an_look_at_ways od_level_counts an_level_counts od_turned_numbers an_turned_numbers od_level_by_counts an_level_by_counts od_Clash_init an_Clash_init od_turned_row an_turned_row od_turned_play an_turned_play od_turned_ups an_turned_ups od__law_told an__law_told od__law_play_right an__law_play_right od__law_pot an__law_pot od_law an_law : Option Addr} {sl__law_counts sl__law_is sl__law_due sl__law_take sl__law_odd sl__law_other_counts sl__law_alone sl_first_counts sl_higher_counts sl_is_whole sl_look_at_level sl_look_at_ways sl_level_counts sl_turned_numbers sl_level_by_counts sl_Clash_init sl_turned_row sl_turned_play sl_turned_ups sl__law_told sl__law_play_right sl__law_pot sl_law : Array (Option Value)} {oc__law_counts kV__law_counts dc__law_counts pm__law_counts cd__law_counts ct__law_counts oc__law_is kV__law_is dc__law_is pm__law_is cd__law_is ct__law_is oc__law_due kV__law_due dc__law_due pm__law_due cd__law_due ct__law_due oc__law_take kV__law_take dc__law_take pm__law_take cd__law_take ct__law_take oc__law_odd kV__law_odd dc__law_odd pm__law_odd cd__law_odd ct__law_odd oc__law_other_counts kV__law_other_counts dc__law_other_counts pm__law_other_counts cd__law_other_counts ct__law_other_counts oc__law_alone kV__law_alone dc__law_alone pm__law_alone cd__law_alone ct__law_alone oc_first_counts kV_first_counts dc_first_counts pm_first_counts cd_first_counts ct_first_counts oc_higher_counts kV_higher_counts dc_higher_counts pm_higher_counts cd_higher_counts ct_higher_counts oc_is_whole kV_is_whole dc_is_whole pm_is_whole cd_is_whole ct_is_whole oc_look_at_level kV_look_at_level dc_look_at_level pm_look_at_level cd_look_at_level ct_look_at_level oc_look_at_ways kV_look_at_ways dc_look_at_ways pm_look_at_ways cd_look_at_ways ct_look_at_ways oc_level_counts kV_level_counts dc_level_counts pm_level_counts cd_level_counts ct_level_counts oc_turned_numbers kV_turned_numbers dc_turned_numbers pm_turned_numbers cd_turned_numbers ct_turned_numbers oc_level_by_counts kV_level_by_counts dc_level_by_counts pm_level_by_counts cd_level_by_counts ct_level_by_counts oc_Clash_init kV_Clash_init dc_Clash_init pm_Clash_init cd_Clash_init ct_Clash_init oc_turned_row kV_turned_row dc_turned_row pm_turned_row cd_turned_row ct_turned_row oc_turned_play kV_turned_play dc_turned_play pm_turned_play cd_turned_play ct_turned_play oc_turned_ups kV_turned_ups dc_turned_ups pm_turned_ups cd_turned_ups ct_turned_ups oc__law_told kV__law_told dc__law_told pm__law_told cd__law_told ct__law_told oc__law_play_right kV__law_play_right dc__law_play_right pm__law_play_right cd__law_play_right ct__law_play_right oc__law_pot kV__law_pot dc__law_pot pm__law_pot cd__law_pot ct__law_pot oc_law kV_law dc_law pm_law cd_law ct_law : Value} (X : K.In h) (G : h.Ns mainGlobals mg) (hfa : mg "law" = some (.ref fa))
    (a__law_counts : PySem.W.nsIn K mainGlobals "_law_counts" = some (some (.ref f__law_counts)))
    (l__law_counts : K.lookup f__law_counts = some ⟨oc__law_counts, od__law_counts, .func (PySem.W.fnOf "_law_counts" "_law_counts" (defArgs st__law_counts) (defBody st__law_counts) (defScope st__law_counts) .none kV__law_counts dc__law_counts pm__law_counts an__law_counts cd__law_counts ct__law_counts), sl__law_counts⟩)
    (c__law_counts : PySem.W.codeIn K cd__law_counts "_law_counts" = true) (k__law_counts : PySem.W.keepIn K (.ref f__law_counts) = true)
    (a__law_is : PySem.W.nsIn K mainGlobals "_law_is" = some (some (.ref f__law_is)))
    (l__law_is : K.lookup f__law_is = some ⟨oc__law_is, od__law_is, .func (PySem.W.fnOf "_law_is" "_law_is" (defArgs st__law_is) (defBody st__law_is) (defScope st__law_is) .none kV__law_is dc__law_is pm__law_is an__law_is cd__law_is ct__law_is), sl__law_is⟩)
    (c__law_is : PySem.W.codeIn K cd__law_is "_law_is" = true) (k__law_is : PySem.W.keepIn K (.ref f__law_is) = true)
    (a__law_due : PySem.W.nsIn K mainGlobals "_law_due" = some (some (.ref f__law_due)))
    (l__law_due : K.lookup f__law_due = some ⟨oc__law_due, od__law_due, .func (PySem.W.fnOf "_law_due" "_law_due" (defArgs st__law_due) (defBody st__law_due) (defScope st__law_due) .none kV__law_due dc__law_due pm__law_due an__law_due cd__law_due ct__law_due), sl__law_due⟩)
    (c__law_due : PySem.W.codeIn K cd__law_due "_law_due" = true) (k__law_due : PySem.W.keepIn K (.ref f__law_due) = true)
    (a__law_take : PySem.W.nsIn K mainGlobals "_law_take" = some (some (.ref f__law_take)))
    (l__law_take : K.lookup f__law_take = some ⟨oc__law_take, od__law_take, .func (PySem.W.fnOf "_law_take" "_law_take" (defArgs st__law_take) (defBody st__law_take) (defScope st__law_take) .none kV__law_take dc__law_take pm__law_take an__law_take cd__law_take ct__law_take), sl__law_take⟩)
    (c__law_take : PySem.W.codeIn K cd__law_take "_law_take" = true) (k__law_take : PySem.W.keepIn K (.ref f__law_take) = true)
    (a__law_odd : PySem.W.nsIn K mainGlobals "_law_odd" = some (some (.ref f__law_odd)))
    (l__law_odd : K.lookup f__law_odd = some ⟨oc__law_odd, od__law_odd, .func (PySem.W.fnOf "_law_odd" "_law_odd" (defArgs st__law_odd) (defBody st__law_odd) (defScope st__law_odd) .none kV__law_odd dc__law_odd pm__law_odd an__law_odd cd__law_odd ct__law_odd), sl__law_odd⟩)
    (c__law_odd : PySem.W.codeIn K cd__law_odd "_law_odd" = true) (k__law_odd : PySem.W.keepIn K (.ref f__law_odd) = true)
    (a__law_other_counts : PySem.W.nsIn K mainGlobals "_law_other_counts" = some (some (.ref f__law_other_counts)))
    (l__law_other_counts : K.lookup f__law_other_counts = some ⟨oc__law_other_counts, od__law_other_counts, .func (PySem.W.fnOf "_law_other_counts" "_law_other_counts" (defArgs st__law_other_counts) (defBody st__law_other_counts) (defScope st__law_other_counts) .none kV__law_other_counts dc__law_other_counts pm__law_other_counts an__law_other_counts cd__law_other_counts ct__law_other_counts), sl__law_other_counts⟩)
    (c__law_other_counts : PySem.W.codeIn K cd__law_other_counts "_law_other_counts" = true) (k__law_other_counts : PySem.W.keepIn K (.ref f__law_other_counts) = true)
    (a__law_alone : PySem.W.nsIn K mainGlobals "_law_alone" = some (some (.ref f__law_alone)))
    (l__law_alone : K.lookup f__law_alone = some ⟨oc__law_alone, od__law_alone, .func (PySem.W.fnOf "_law_alone" "_law_alone" (defArgs st__law_alone) (defBody st__law_alone) (defScope st__law_alone) .none kV__law_alone dc__law_alone pm__law_alone an__law_alone cd__law_alone ct__law_alone), sl__law_alone⟩)
    (c__law_alone : PySem.W.codeIn K cd__law_alone "_law_alone" = true) (k__law_alone : PySem.W.keepIn K (.ref f__law_alone) = true)
    (a_first_counts : PySem.W.nsIn K mainGlobals "first_counts" = some (some (.ref f_first_counts)))
    (l_first_counts : K.lookup f_first_counts = some ⟨oc_first_counts, od_first_counts, .func (PySem.W.fnOf "first_counts" "first_counts" (defArgs st_first_counts) (defBody st_first_counts) (defScope st_first_counts) .none kV_first_counts dc_first_counts pm_first_counts an_first_counts cd_first_counts ct_first_counts), sl_first_counts⟩)
    (c_first_counts : PySem.W.codeIn K cd_first_counts "first_counts" = true) (k_first_counts : PySem.W.keepIn K (.ref f_first_counts) = true)
    (a_higher_counts : PySem.W.nsIn K mainGlobals "higher_counts" = some (some (.ref f_higher_counts)))
    (l_higher_counts : K.lookup f_higher_counts = some ⟨oc_higher_counts, od_higher_counts, .func (PySem.W.fnOf "higher_counts" "higher_counts" (defArgs st_higher_counts) (defBody st_higher_counts) (defScope st_higher_counts) .none kV_higher_counts dc_higher_counts pm_higher_counts an_higher_counts cd_higher_counts ct_higher_counts), sl_higher_counts⟩)
    (c_higher_counts : PySem.W.codeIn K cd_higher_counts "higher_counts" = true) (k_higher_counts : PySem.W.keepIn K (.ref f_higher_counts) = true)
    (a_is_whole : PySem.W.nsIn K mainGlobals "is_whole" = some (some (.ref f_is_whole)))
    (l_is_whole : K.lookup f_is_whole = some ⟨oc_is_whole, od_is_whole, .func (PySem.W.fnOf "is_whole" "is_whole" (defArgs st_is_whole) (defBody st_is_whole) (defScope st_is_whole) .none kV_is_whole dc_is_whole pm_is_whole an_is_whole cd_is_whole ct_is_whole), sl_is_whole⟩)
    (c_is_whole : PySem.W.codeIn K cd_is_whole "is_whole" = true) (k_is_whole : PySem.W.keepIn K (.ref f_is_whole) = true)
    (a_look_at_level : PySem.W.nsIn K mainGlobals "look_at_level" = some (some (.ref f_look_at_level)))
    (l_look_at_level : K.lookup f_look_at_level = some ⟨oc_look_at_level, od_look_at_level, .func (PySem.W.fnOf "look_at_level" "look_at_level" (defArgs st_look_at_level) (defBody st_look_at_level) (defScope st_look_at_level) .none kV_look_at_level dc_look_at_level pm_look_at_level an_look_at_level cd_look_at_level ct_look_at_level), sl_look_at_level⟩)
    (c_look_at_level : PySem.W.codeIn K cd_look_at_level "look_at_level" = true) (k_look_at_level : PySem.W.keepIn K (.ref f_look_at_level) = true)
    (a_look_at_ways : PySem.W.nsIn K mainGlobals "look_at_ways" = some (some (.ref f_look_at_ways)))
    (l_look_at_ways : K.lookup f_look_at_ways = some ⟨oc_look_at_ways, od_look_at_ways, .func (PySem.W.fnOf "look_at_ways" "look_at_ways" (defArgs st_look_at_ways) (defBody st_look_at_ways) (defScope st_look_at_ways) .none kV_look_at_ways dc_look_at_ways pm_look_at_ways an_look_at_ways cd_look_at_ways ct_look_at_ways), sl_look_at_ways⟩)
    (c_look_at_ways : PySem.W.codeIn K cd_look_at_ways "look_at_ways" = true) (k_look_at_ways : PySem.W.keepIn K (.ref f_look_at_ways) = true)
    (a_level_counts : PySem.W.nsIn K mainGlobals "level_counts" = some (some (.ref f_level_counts)))
    (l_level_counts : K.lookup f_level_counts = some ⟨oc_level_counts, od_level_counts, .func (PySem.W.fnOf "level_counts" "level_counts" (defArgs st_level_counts) (defBody st_level_counts) (defScope st_level_counts) .none kV_level_counts dc_level_counts pm_level_counts an_level_counts cd_level_counts ct_level_counts), sl_level_counts⟩)
    (c_level_counts : PySem.W.codeIn K cd_level_counts "level_counts" = true) (k_level_counts : PySem.W.keepIn K (.ref f_level_counts) = true)
    (a_turned_numbers : PySem.W.nsIn K mainGlobals "turned_numbers" = some (some (.ref f_turned_numbers)))
    (l_turned_numbers : K.lookup f_turned_numbers = some ⟨oc_turned_numbers, od_turned_numbers, .func (PySem.W.fnOf "turned_numbers" "turned_numbers" (defArgs st_turned_numbers) (defBody st_turned_numbers) (defScope st_turned_numbers) .none kV_turned_numbers dc_turned_numbers pm_turned_numbers an_turned_numbers cd_turned_numbers ct_turned_numbers), sl_turned_numbers⟩)
    (c_turned_numbers : PySem.W.codeIn K cd_turned_numbers "turned_numbers" = true) (k_turned_numbers : PySem.W.keepIn K (.ref f_turned_numbers) = true)
    (a_level_by_counts : PySem.W.nsIn K mainGlobals "level_by_counts" = some (some (.ref f_level_by_counts)))
    (l_level_by_counts : K.lookup f_level_by_counts = some ⟨oc_level_by_counts, od_level_by_counts, .func (PySem.W.fnOf "level_by_counts" "level_by_counts" (defArgs st_level_by_counts) (defBody st_level_by_counts) (defScope st_level_by_counts) .none kV_level_by_counts dc_level_by_counts pm_level_by_counts an_level_by_counts cd_level_by_counts ct_level_by_counts), sl_level_by_counts⟩)
    (c_level_by_counts : PySem.W.codeIn K cd_level_by_counts "level_by_counts" = true) (k_level_by_counts : PySem.W.keepIn K (.ref f_level_by_counts) = true)
    (a_turned_row : PySem.W.nsIn K mainGlobals "turned_row" = some (some (.ref f_turned_row)))
    (l_turned_row : K.lookup f_turned_row = some ⟨oc_turned_row, od_turned_row, .func (PySem.W.fnOf "turned_row" "turned_row" (defArgs st_turned_row) (defBody st_turned_row) (defScope st_turned_row) .none kV_turned_row dc_turned_row pm_turned_row an_turned_row cd_turned_row ct_turned_row), sl_turned_row⟩)
    (c_turned_row : PySem.W.codeIn K cd_turned_row "turned_row" = true) (k_turned_row : PySem.W.keepIn K (.ref f_turned_row) = true)
    (a_turned_play : PySem.W.nsIn K mainGlobals "turned_play" = some (some (.ref f_turned_play)))
    (l_turned_play : K.lookup f_turned_play = some ⟨oc_turned_play, od_turned_play, .func (PySem.W.fnOf "turned_play" "turned_play" (defArgs st_turned_play) (defBody st_turned_play) (defScope st_turned_play) .none kV_turned_play dc_turned_play pm_turned_play an_turned_play cd_turned_play ct_turned_play), sl_turned_play⟩)
    (c_turned_play : PySem.W.codeIn K cd_turned_play "turned_play" = true) (k_turned_play : PySem.W.keepIn K (.ref f_turned_play) = true)
    (a_turned_ups : PySem.W.nsIn K mainGlobals "turned_ups" = some (some (.ref f_turned_ups)))
    (l_turned_ups : K.lookup f_turned_ups = some ⟨oc_turned_ups, od_turned_ups, .func (PySem.W.fnOf "turned_ups" "turned_ups" (defArgs st_turned_ups) (defBody st_turned_ups) (defScope st_turned_ups) .none kV_turned_ups dc_turned_ups pm_turned_ups an_turned_ups cd_turned_ups ct_turned_ups), sl_turned_ups⟩)
    (c_turned_ups : PySem.W.codeIn K cd_turned_ups "turned_ups" = true) (k_turned_ups : PySem.W.keepIn K (.ref f_turned_ups) = true)
    (a__law_told : PySem.W.nsIn K mainGlobals "_law_told" = some (some (.ref f__law_told)))
    (l__law_told : K.lookup f__law_told = some ⟨oc__law_told, od__law_told, .func (PySem.W.fnOf "_law_told" "_law_told" (defArgs st__law_told) (defBody st__law_told) (defScope st__law_told) .none kV__law_told dc__law_told pm__law_told an__law_told cd__law_told ct__law_told), sl__law_told⟩)
    (c__law_told : PySem.W.codeIn K cd__law_told "_law_told" = true) (k__law_told : PySem.W.keepIn K (.ref f__law_told) = true)
    (a__law_play_right : PySem.W.nsIn K mainGlobals "_law_play_right" = some (some (.ref f__law_play_right)))
    (l__law_play_right : K.lookup f__law_play_right = some ⟨oc__law_play_right, od__law_play_right, .func (PySem.W.fnOf "_law_play_right" "_law_play_right" (defArgs st__law_play_right) (defBody st__law_play_right) (defScope st__law_play_right) .none kV__law_play_right dc__law_play_right pm__law_play_right an__law_play_right cd__law_play_right ct__law_play_right), sl__law_play_right⟩)
    (c__law_play_right : PySem.W.codeIn K cd__law_play_right "_law_play_right" = true) (k__law_play_right : PySem.W.keepIn K (.ref f__law_play_right) = true)
    (a__law_pot : PySem.W.nsIn K mainGlobals "_law_pot" = some (some (.ref f__law_pot)))
    (l__law_pot : K.lookup f__law_pot = some ⟨oc__law_pot, od__law_pot, .func (PySem.W.fnOf "_law_pot" "_law_pot" (defArgs st__law_pot) (defBody st__law_pot) (defScope st__law_pot) .none kV__law_pot dc__law_pot pm__law_pot an__law_pot cd__law_pot ct__law_pot), sl__law_pot⟩)
    (c__law_pot : PySem.W.codeIn K cd__law_pot "_law_pot" = true) (k__law_pot : PySem.W.keepIn K (.ref f__law_pot) = true)
    (a_law : PySem.W.nsIn K mainGlobals "law" = some (some (.ref f_law)))
    (l_law : K.lookup f_law = some ⟨oc_law, od_law, .func (PySem.W.fnOf "law" "law" (defArgs st_law) (defBody st_law) (defScope st_law) .none kV_law dc_law pm_law an_law cd_law ct_law), sl_law⟩)
    (c_law : PySem.W.codeIn K cd_law "law" = true) (k_law : PySem.W.keepIn K (.ref f_law) = true)
    (z_ValueError : PySem.W.nsIn K mainGlobals "ValueError" = some none)
    (z_bool : PySem.W.nsIn K mainGlobals "bool" = some none)
    (z_int : PySem.W.nsIn K mainGlobals "int" = some none)
    (z_isinstance : PySem.W.nsIn K mainGlobals "isinstance" = some none)
    (z_len : PySem.W.nsIn K mainGlobals "len" = some none)
    (z_list : PySem.W.nsIn K mainGlobals "list" = some none)
    (z_max : PySem.W.nsIn K mainGlobals "max" = some none)
    (z_min : PySem.W.nsIn K mainGlobals "min" = some none)
    (z_range : PySem.W.nsIn K mainGlobals "range" = some none)
    (z_reversed : PySem.W.nsIn K mainGlobals "reversed" = some none)
    (z_sorted : PySem.W.nsIn K mainGlobals "sorted" = some none)
    (z_sum : PySem.W.nsIn K mainGlobals "sum" = some none)
    (z_tuple : PySem.W.nsIn K mainGlobals "tuple" = some none)
    (g_LEAST_WAYS : PySem.W.nsIn K mainGlobals "LEAST_WAYS" = some (some (.int (2) t_LEAST_WAYS)))
    (g_MOST_LEVEL : PySem.W.nsIn K mainGlobals "MOST_LEVEL" = some (some (.int (300) t_MOST_LEVEL)))
    (g_MOST_PLACES : PySem.W.nsIn K mainGlobals "MOST_PLACES" = some (some (.int (4000) t_MOST_PLACES)))
    (g_MOST_WAYS : PySem.W.nsIn K mainGlobals "MOST_WAYS" = some (some (.int (7) t_MOST_WAYS)))
    (n_Clash : PySem.W.nsIn K mainGlobals "Clash" = some (some (.ref C_Clash)))
    (n_NoBack : PySem.W.nsIn K mainGlobals "NoBack" = some (some (.ref C_NoBack)))
    (n_NoLevel : PySem.W.nsIn K mainGlobals "NoLevel" = some (some (.ref C_NoLevel)))
    (n_NoLine : PySem.W.nsIn K mainGlobals "NoLine" = some (some (.ref C_NoLine)))
    (n_NoPhase : PySem.W.nsIn K mainGlobals "NoPhase" = some (some (.ref C_NoPhase)))
    (n_NoPlace : PySem.W.nsIn K mainGlobals "NoPlace" = some (some (.ref C_NoPlace)))
    (n_NoRoom : PySem.W.nsIn K mainGlobals "NoRoom" = some (some (.ref C_NoRoom)))
    (n_NoStanding : PySem.W.nsIn K mainGlobals "NoStanding" = some (some (.ref C_NoStanding)))
    (n_NoText : PySem.W.nsIn K mainGlobals "NoText" = some (some (.ref C_NoText)))
    (n_NoWays : PySem.W.nsIn K mainGlobals "NoWays" = some (some (.ref C_NoWays)))
    (n_ReelError : PySem.W.nsIn K mainGlobals "ReelError" = some (some (.ref C_ReelError)))
    (n_TooFew : PySem.W.nsIn K mainGlobals "TooFew" = some (some (.ref C_TooFew)))
    (n_TooMany : PySem.W.nsIn K mainGlobals "TooMany" = some (some (.ref C_TooMany)))
    (a_Clash_init : PySem.W.findIn K (.ref C_Clash) "__init__" = some (some (.ref f_Clash_init)))
    (ti_Clash_init : PySem.W.typeIn K (.ref f_Clash_init) = some (.type "function"))
    (l_Clash_init : K.lookup f_Clash_init = some ⟨oc_Clash_init, od_Clash_init, .func (PySem.W.fnOf "__init__" "Clash.__init__" (defArgs st_Clash_init) (defBody st_Clash_init) (defScope st_Clash_init) .none kV_Clash_init dc_Clash_init pm_Clash_init an_Clash_init cd_Clash_init ct_Clash_init), sl_Clash_init⟩)
    (c_Clash_init : PySem.W.codeIn K cd_Clash_init "Clash.__init__" = true)
    (k_Clash_init : PySem.W.keepIn K (.ref f_Clash_init) = true)
    (hg_NoWays : PySem.W.findIn K (.ref C_NoWays) "__getattribute__" = some (some (.builtin "BaseException.__getattribute__")))
    (hk_NoWays : PySem.W.findIn K (.ref C_NoWays) "__getattr__" = some none)
    (hs_NoWays : PySem.W.subIn K (.ref C_NoWays) (.type "BaseException") = some true)
    (hd_NoWays : PySem.W.hasDictIn K C_NoWays = true)
    (ha_NoWays : PySem.W.findIn K (.ref C_NoWays) "__class__" = some (some (.builtin "object.__class__")))
    (hn_NoWays : PySem.W.specialIn K (.builtin "object.__class__") "__get__" = some (some (.builtin "getset_descriptor.__get__")))
    (ht_NoWays : PySem.W.takesIn K (.builtin "object.__class__") = some true)
    (hm_NoWays : PySem.W.mroIn K C_NoWays (.type "object") = some true)
    (ot_NoWays_ReelError : PySem.W.kitOne K (.ref C_NoWays) (.ref C_ReelError) = some true)
    (ot_NoWays_Clash : PySem.W.kitOne K (.ref C_NoWays) (.ref C_Clash) = some false)
    (ot_NoWays_NoBack : PySem.W.kitOne K (.ref C_NoWays) (.ref C_NoBack) = some false)
    (ot_NoWays_NoLevel : PySem.W.kitOne K (.ref C_NoWays) (.ref C_NoLevel) = some false)
    (ot_NoWays_NoLine : PySem.W.kitOne K (.ref C_NoWays) (.ref C_NoLine) = some false)
    (ot_NoWays_NoPhase : PySem.W.kitOne K (.ref C_NoWays) (.ref C_NoPhase) = some false)
    (ot_NoWays_NoPlace : PySem.W.kitOne K (.ref C_NoWays) (.ref C_NoPlace) = some false)
    (ot_NoWays_NoRoom : PySem.W.kitOne K (.ref C_NoWays) (.ref C_NoRoom) = some false)
    (ot_NoWays_NoStanding : PySem.W.kitOne K (.ref C_NoWays) (.ref C_NoStanding) = some false)
    (ot_NoWays_NoText : PySem.W.kitOne K (.ref C_NoWays) (.ref C_NoText) = some false)
    (ot_NoWays_NoWays : PySem.W.kitOne K (.ref C_NoWays) (.ref C_NoWays) = some true)
    (ot_NoWays_TooFew : PySem.W.kitOne K (.ref C_NoWays) (.ref C_TooFew) = some false)
    (ot_NoWays_TooMany : PySem.W.kitOne K (.ref C_NoWays) (.ref C_TooMany) = some false)
    (ot_NoWays_ValueError : PySem.W.kitOne K (.ref C_NoWays) (.type "ValueError") = some true)
    (hg_NoLevel : PySem.W.findIn K (.ref C_NoLevel) "__getattribute__" = some (some (.builtin "BaseException.__getattribute__")))
    (hk_NoLevel : PySem.W.findIn K (.ref C_NoLevel) "__getattr__" = some none)
    (hs_NoLevel : PySem.W.subIn K (.ref C_NoLevel) (.type "BaseException") = some true)
    (hd_NoLevel : PySem.W.hasDictIn K C_NoLevel = true)
    (ha_NoLevel : PySem.W.findIn K (.ref C_NoLevel) "__class__" = some (some (.builtin "object.__class__")))
    (hn_NoLevel : PySem.W.specialIn K (.builtin "object.__class__") "__get__" = some (some (.builtin "getset_descriptor.__get__")))
    (ht_NoLevel : PySem.W.takesIn K (.builtin "object.__class__") = some true)
    (hm_NoLevel : PySem.W.mroIn K C_NoLevel (.type "object") = some true)
    (ot_NoLevel_ReelError : PySem.W.kitOne K (.ref C_NoLevel) (.ref C_ReelError) = some true)
    (ot_NoLevel_Clash : PySem.W.kitOne K (.ref C_NoLevel) (.ref C_Clash) = some false)
    (ot_NoLevel_NoBack : PySem.W.kitOne K (.ref C_NoLevel) (.ref C_NoBack) = some false)
    (ot_NoLevel_NoLevel : PySem.W.kitOne K (.ref C_NoLevel) (.ref C_NoLevel) = some true)
    (ot_NoLevel_NoLine : PySem.W.kitOne K (.ref C_NoLevel) (.ref C_NoLine) = some false)
    (ot_NoLevel_NoPhase : PySem.W.kitOne K (.ref C_NoLevel) (.ref C_NoPhase) = some false)
    (ot_NoLevel_NoPlace : PySem.W.kitOne K (.ref C_NoLevel) (.ref C_NoPlace) = some false)
    (ot_NoLevel_NoRoom : PySem.W.kitOne K (.ref C_NoLevel) (.ref C_NoRoom) = some false)
    (ot_NoLevel_NoStanding : PySem.W.kitOne K (.ref C_NoLevel) (.ref C_NoStanding) = some false)
    (ot_NoLevel_NoText : PySem.W.kitOne K (.ref C_NoLevel) (.ref C_NoText) = some false)
    (ot_NoLevel_NoWays : PySem.W.kitOne K (.ref C_NoLevel) (.ref C_NoWays) = some false)
    (ot_NoLevel_TooFew : PySem.W.kitOne K (.ref C_NoLevel) (.ref C_TooFew) = some false)
    (ot_NoLevel_TooMany : PySem.W.kitOne K (.ref C_NoLevel) (.ref C_TooMany) = some false)
    (ot_NoLevel_ValueError : PySem.W.kitOne K (.ref C_NoLevel) (.type "ValueError") = some true)
    (hg_TooMany : PySem.W.findIn K (.ref C_TooMany) "__getattribute__" = some (some (.builtin "BaseException.__getattribute__")))
    (hk_TooMany : PySem.W.findIn K (.ref C_TooMany) "__getattr__" = some none)
    (hs_TooMany : PySem.W.subIn K (.ref C_TooMany) (.type "BaseException") = some true)
    (hd_TooMany : PySem.W.hasDictIn K C_TooMany = true)
    (ha_TooMany : PySem.W.findIn K (.ref C_TooMany) "__class__" = some (some (.builtin "object.__class__")))
    (hn_TooMany : PySem.W.specialIn K (.builtin "object.__class__") "__get__" = some (some (.builtin "getset_descriptor.__get__")))
    (ht_TooMany : PySem.W.takesIn K (.builtin "object.__class__") = some true)
    (hm_TooMany : PySem.W.mroIn K C_TooMany (.type "object") = some true)
    (ot_TooMany_ReelError : PySem.W.kitOne K (.ref C_TooMany) (.ref C_ReelError) = some true)
    (ot_TooMany_Clash : PySem.W.kitOne K (.ref C_TooMany) (.ref C_Clash) = some false)
    (ot_TooMany_NoBack : PySem.W.kitOne K (.ref C_TooMany) (.ref C_NoBack) = some false)
    (ot_TooMany_NoLevel : PySem.W.kitOne K (.ref C_TooMany) (.ref C_NoLevel) = some false)
    (ot_TooMany_NoLine : PySem.W.kitOne K (.ref C_TooMany) (.ref C_NoLine) = some false)
    (ot_TooMany_NoPhase : PySem.W.kitOne K (.ref C_TooMany) (.ref C_NoPhase) = some false)
    (ot_TooMany_NoPlace : PySem.W.kitOne K (.ref C_TooMany) (.ref C_NoPlace) = some false)
    (ot_TooMany_NoRoom : PySem.W.kitOne K (.ref C_TooMany) (.ref C_NoRoom) = some false)
    (ot_TooMany_NoStanding : PySem.W.kitOne K (.ref C_TooMany) (.ref C_NoStanding) = some false)
    (ot_TooMany_NoText : PySem.W.kitOne K (.ref C_TooMany) (.ref C_NoText) = some false)
    (ot_TooMany_NoWays : PySem.W.kitOne K (.ref C_TooMany) (.ref C_NoWays) = some false)
    (ot_TooMany_TooFew : PySem.W.kitOne K (.ref C_TooMany) (.ref C_TooFew) = some false)
    (ot_TooMany_TooMany : PySem.W.kitOne K (.ref C_TooMany) (.ref C_TooMany) = some true)
    (ot_TooMany_ValueError : PySem.W.kitOne K (.ref C_TooMany) (.type "ValueError") = some true)
    (rk_NoLevel : PySem.W.keepIn K (.ref C_NoLevel) = true)
    (re_NoLevel : PySem.W.excIn K C_NoLevel [.type "ValueError", .type "Exception", .type "BaseException", .type "object"] "ValueError.__new__" = true)
    (rb_NoLevel : PySem.W.subIn K (.ref C_NoLevel) (.type "BaseException") = some true)
    (rt_NoLevel : PySem.W.typeIn K (.ref C_NoLevel) = some (.type "type"))
    (rk_NoWays : PySem.W.keepIn K (.ref C_NoWays) = true)
    (re_NoWays : PySem.W.excIn K C_NoWays [.type "ValueError", .type "Exception", .type "BaseException", .type "object"] "ValueError.__new__" = true)
    (rb_NoWays : PySem.W.subIn K (.ref C_NoWays) (.type "BaseException") = some true)
    (rt_NoWays : PySem.W.typeIn K (.ref C_NoWays) = some (.type "type"))
    (rk_TooMany : PySem.W.keepIn K (.ref C_TooMany) = true)
    (re_TooMany : PySem.W.excIn K C_TooMany [.type "ValueError", .type "Exception", .type "BaseException", .type "object"] "ValueError.__new__" = true)
    (rb_TooMany : PySem.W.subIn K (.ref C_TooMany) (.type "BaseException") = some true)
    (rt_TooMany : PySem.W.typeIn K (.ref C_TooMany) = some (.type "type"))
    (rd_ReelError : PySem.W.readsIn K C_ReelError (.type "type") = true)
    (sg_ReelError : PySem.W.specialIn K (.ref C_ReelError) "__getattribute__" = some (some (.builtin "type.__getattribute__")))
    (vfc_ReelError : PySem.W.findCls K (.ref C_ReelError) (.type "type") "__init__" = some (.val (.builtin "ValueError.__init__")))
    (mb_m_NoWays_ReelError : PySem.W.subIn K (.ref C_ReelError) (.type "BaseException") = some true)
    (md_m_NoWays_ReelError : PySem.W.hasDictIn K C_ReelError = true)
    (mt_m_NoWays_ReelError : PySem.W.typeIn K (.ref C_ReelError) = some (.type "type"))
    (ms_m_NoWays_ReelError : PySem.W.subIn K (.ref C_NoWays) (.ref C_ReelError) = some true)
    (mb_m_NoLevel_ReelError : PySem.W.subIn K (.ref C_ReelError) (.type "BaseException") = some true)
    (md_m_NoLevel_ReelError : PySem.W.hasDictIn K C_ReelError = true)
    (mt_m_NoLevel_ReelError : PySem.W.typeIn K (.ref C_ReelError) = some (.type "type"))
    (ms_m_NoLevel_ReelError : PySem.W.subIn K (.ref C_NoLevel) (.ref C_ReelError) = some true)
    (mb_m_TooMany_ReelError : PySem.W.subIn K (.ref C_ReelError) (.type "BaseException") = some true)
    (md_m_TooMany_ReelError : PySem.W.hasDictIn K C_ReelError = true)
    (mt_m_TooMany_ReelError : PySem.W.typeIn K (.ref C_ReelError) = some (.type "type"))
    (ms_m_TooMany_ReelError : PySem.W.subIn K (.ref C_TooMany) (.ref C_ReelError) = some true) :
    ∃ fd : FuncData, (∀ (s : Shared) (v : Value), BindsTo s fd ⟨[v], []⟩ [("script", v)]) ∧ ∀ base : Heap, K.In base → base.Ns mainGlobals mg → FnOk l.prog w K mg base CX0 8 fa fd ["script"] (sp_law K) := by
  have e := hfa.symm.trans (PySem.W.mg_of X G a_law)
  cases e
  have F__law_counts := fun_mk (st := st__law_counts) l__law_counts c__law_counts k__law_counts
  have F__law_is := fun_mk (st := st__law_is) l__law_is c__law_is k__law_is
  have F__law_due := fun_mk (st := st__law_due) l__law_due c__law_due k__law_due
  have F__law_take := fun_mk (st := st__law_take) l__law_take c__law_take k__law_take
  have F__law_odd := fun_mk (st := st__law_odd) l__law_odd c__law_odd k__law_odd
  have F__law_other_counts := fun_mk (st := st__law_other_counts) l__law_other_counts c__law_other_counts k__law_other_counts
  have F__law_alone := fun_mk (st := st__law_alone) l__law_alone c__law_alone k__law_alone
  have F_first_counts := fun_mk (st := st_first_counts) l_first_counts c_first_counts k_first_counts
  have F_higher_counts := fun_mk (st := st_higher_counts) l_higher_counts c_higher_counts k_higher_counts
  have F_is_whole := fun_mk (st := st_is_whole) l_is_whole c_is_whole k_is_whole
  have F_look_at_level := fun_mk (st := st_look_at_level) l_look_at_level c_look_at_level k_look_at_level
  have F_look_at_ways := fun_mk (st := st_look_at_ways) l_look_at_ways c_look_at_ways k_look_at_ways
  have F_level_counts := fun_mk (st := st_level_counts) l_level_counts c_level_counts k_level_counts
  have F_turned_numbers := fun_mk (st := st_turned_numbers) l_turned_numbers c_turned_numbers k_turned_numbers
  have F_level_by_counts := fun_mk (st := st_level_by_counts) l_level_by_counts c_level_by_counts k_level_by_counts
  have F_Clash_init := fun_mk (st := st_Clash_init) l_Clash_init c_Clash_init k_Clash_init
  have F_turned_row := fun_mk (st := st_turned_row) l_turned_row c_turned_row k_turned_row
  have F_turned_play := fun_mk (st := st_turned_play) l_turned_play c_turned_play k_turned_play
  have F_turned_ups := fun_mk (st := st_turned_ups) l_turned_ups c_turned_ups k_turned_ups
  have F__law_told := fun_mk (st := st__law_told) l__law_told c__law_told k__law_told
  have F__law_play_right := fun_mk (st := st__law_play_right) l__law_play_right c__law_play_right k__law_play_right
  have F__law_pot := fun_mk (st := st__law_pot) l__law_pot c__law_pot k__law_pot
  have F_law := fun_mk (st := st_law) l_law c_law k_law
  refine ⟨PySem.W.fnOf "law" "law" (defArgs st_law) (defBody st_law) (defScope st_law) .none kV_law dc_law pm_law an_law cd_law ct_law, fun s v => .of_eq rfl, fun base _ _ => ?_⟩
  have b_ValueError := PySem.W.mg_none_of X G z_ValueError
  have b_bool := PySem.W.mg_none_of X G z_bool
  have b_int := PySem.W.mg_none_of X G z_int
  have b_isinstance := PySem.W.mg_none_of X G z_isinstance
  have b_len := PySem.W.mg_none_of X G z_len
  have b_list := PySem.W.mg_none_of X G z_list
  have b_max := PySem.W.mg_none_of X G z_max
  have b_min := PySem.W.mg_none_of X G z_min
  have b_range := PySem.W.mg_none_of X G z_range
  have b_reversed := PySem.W.mg_none_of X G z_reversed
  have b_sorted := PySem.W.mg_none_of X G z_sorted
  have b_sum := PySem.W.mg_none_of X G z_sum
  have b_tuple := PySem.W.mg_none_of X G z_tuple
  have m_LEAST_WAYS := PySem.W.mg_of X G g_LEAST_WAYS
  have m_MOST_LEVEL := PySem.W.mg_of X G g_MOST_LEVEL
  have m_MOST_PLACES := PySem.W.mg_of X G g_MOST_PLACES
  have m_MOST_WAYS := PySem.W.mg_of X G g_MOST_WAYS
  have k_Clash : ClC K mg "Clash" C_Clash := ⟨n_Clash, PySem.W.mg_of X G n_Clash⟩
  have k_NoBack : ClC K mg "NoBack" C_NoBack := ⟨n_NoBack, PySem.W.mg_of X G n_NoBack⟩
  have k_NoLevel : ClC K mg "NoLevel" C_NoLevel := ⟨n_NoLevel, PySem.W.mg_of X G n_NoLevel⟩
  have k_NoLine : ClC K mg "NoLine" C_NoLine := ⟨n_NoLine, PySem.W.mg_of X G n_NoLine⟩
  have k_NoPhase : ClC K mg "NoPhase" C_NoPhase := ⟨n_NoPhase, PySem.W.mg_of X G n_NoPhase⟩
  have k_NoPlace : ClC K mg "NoPlace" C_NoPlace := ⟨n_NoPlace, PySem.W.mg_of X G n_NoPlace⟩
  have k_NoRoom : ClC K mg "NoRoom" C_NoRoom := ⟨n_NoRoom, PySem.W.mg_of X G n_NoRoom⟩
  have k_NoStanding : ClC K mg "NoStanding" C_NoStanding := ⟨n_NoStanding, PySem.W.mg_of X G n_NoStanding⟩
  have k_NoText : ClC K mg "NoText" C_NoText := ⟨n_NoText, PySem.W.mg_of X G n_NoText⟩
  have k_NoWays : ClC K mg "NoWays" C_NoWays := ⟨n_NoWays, PySem.W.mg_of X G n_NoWays⟩
  have k_ReelError : ClC K mg "ReelError" C_ReelError := ⟨n_ReelError, PySem.W.mg_of X G n_ReelError⟩
  have k_TooFew : ClC K mg "TooFew" C_TooFew := ⟨n_TooFew, PySem.W.mg_of X G n_TooFew⟩
  have k_TooMany : ClC K mg "TooMany" C_TooMany := ⟨n_TooMany, PySem.W.mg_of X G n_TooMany⟩
  have x_NoWays : ExC K C_NoWays := ⟨⟨hg_NoWays, hk_NoWays, hs_NoWays, hd_NoWays, ha_NoWays, hn_NoWays, ht_NoWays, hm_NoWays⟩⟩
  have t_NoWays_ReelError : KtO K C_NoWays (.ref C_ReelError) true := KtO.own ot_NoWays_ReelError
  have t_NoWays_Clash : KtO K C_NoWays (.ref C_Clash) false := KtO.own ot_NoWays_Clash
  have t_NoWays_NoBack : KtO K C_NoWays (.ref C_NoBack) false := KtO.own ot_NoWays_NoBack
  have t_NoWays_NoLevel : KtO K C_NoWays (.ref C_NoLevel) false := KtO.own ot_NoWays_NoLevel
  have t_NoWays_NoLine : KtO K C_NoWays (.ref C_NoLine) false := KtO.own ot_NoWays_NoLine
  have t_NoWays_NoPhase : KtO K C_NoWays (.ref C_NoPhase) false := KtO.own ot_NoWays_NoPhase
  have t_NoWays_NoPlace : KtO K C_NoWays (.ref C_NoPlace) false := KtO.own ot_NoWays_NoPlace
  have t_NoWays_NoRoom : KtO K C_NoWays (.ref C_NoRoom) false := KtO.own ot_NoWays_NoRoom
  have t_NoWays_NoStanding : KtO K C_NoWays (.ref C_NoStanding) false := KtO.own ot_NoWays_NoStanding
  have t_NoWays_NoText : KtO K C_NoWays (.ref C_NoText) false := KtO.own ot_NoWays_NoText
  have t_NoWays_NoWays : KtO K C_NoWays (.ref C_NoWays) true := KtO.own ot_NoWays_NoWays
  have t_NoWays_TooFew : KtO K C_NoWays (.ref C_TooFew) false := KtO.own ot_NoWays_TooFew
  have t_NoWays_TooMany : KtO K C_NoWays (.ref C_TooMany) false := KtO.own ot_NoWays_TooMany
  have t_NoWays_ValueError : KtO K C_NoWays (.ty "ValueError") true := KtO.ty ot_NoWays_ValueError
  have x_NoLevel : ExC K C_NoLevel := ⟨⟨hg_NoLevel, hk_NoLevel, hs_NoLevel, hd_NoLevel, ha_NoLevel, hn_NoLevel, ht_NoLevel, hm_NoLevel⟩⟩
  have t_NoLevel_ReelError : KtO K C_NoLevel (.ref C_ReelError) true := KtO.own ot_NoLevel_ReelError
  have t_NoLevel_Clash : KtO K C_NoLevel (.ref C_Clash) false := KtO.own ot_NoLevel_Clash
  have t_NoLevel_NoBack : KtO K C_NoLevel (.ref C_NoBack) false := KtO.own ot_NoLevel_NoBack
  have t_NoLevel_NoLevel : KtO K C_NoLevel (.ref C_NoLevel) true := KtO.own ot_NoLevel_NoLevel
  have t_NoLevel_NoLine : KtO K C_NoLevel (.ref C_NoLine) false := KtO.own ot_NoLevel_NoLine
  have t_NoLevel_NoPhase : KtO K C_NoLevel (.ref C_NoPhase) false := KtO.own ot_NoLevel_NoPhase
  have t_NoLevel_NoPlace : KtO K C_NoLevel (.ref C_NoPlace) false := KtO.own ot_NoLevel_NoPlace
  have t_NoLevel_NoRoom : KtO K C_NoLevel (.ref C_NoRoom) false := KtO.own ot_NoLevel_NoRoom
  have t_NoLevel_NoStanding : KtO K C_NoLevel (.ref C_NoStanding) false := KtO.own ot_NoLevel_NoStanding
  have t_NoLevel_NoText : KtO K C_NoLevel (.ref C_NoText) false := KtO.own ot_NoLevel_NoText
  have t_NoLevel_NoWays : KtO K C_NoLevel (.ref C_NoWays) false := KtO.own ot_NoLevel_NoWays
  have t_NoLevel_TooFew : KtO K C_NoLevel (.ref C_TooFew) false := KtO.own ot_NoLevel_TooFew
  have t_NoLevel_TooMany : KtO K C_NoLevel (.ref C_TooMany) false := KtO.own ot_NoLevel_TooMany
  have t_NoLevel_ValueError : KtO K C_NoLevel (.ty "ValueError") true := KtO.ty ot_NoLevel_ValueError
  have x_TooMany : ExC K C_TooMany := ⟨⟨hg_TooMany, hk_TooMany, hs_TooMany, hd_TooMany, ha_TooMany, hn_TooMany, ht_TooMany, hm_TooMany⟩⟩
  have t_TooMany_ReelError : KtO K C_TooMany (.ref C_ReelError) true := KtO.own ot_TooMany_ReelError
  have t_TooMany_Clash : KtO K C_TooMany (.ref C_Clash) false := KtO.own ot_TooMany_Clash
  have t_TooMany_NoBack : KtO K C_TooMany (.ref C_NoBack) false := KtO.own ot_TooMany_NoBack
  have t_TooMany_NoLevel : KtO K C_TooMany (.ref C_NoLevel) false := KtO.own ot_TooMany_NoLevel
  have t_TooMany_NoLine : KtO K C_TooMany (.ref C_NoLine) false := KtO.own ot_TooMany_NoLine
  have t_TooMany_NoPhase : KtO K C_TooMany (.ref C_NoPhase) false := KtO.own ot_TooMany_NoPhase
  have t_TooMany_NoPlace : KtO K C_TooMany (.ref C_NoPlace) false := KtO.own ot_TooMany_NoPlace
  have t_TooMany_NoRoom : KtO K C_TooMany (.ref C_NoRoom) false := KtO.own ot_TooMany_NoRoom
  have t_TooMany_NoStanding : KtO K C_TooMany (.ref C_NoStanding) false := KtO.own ot_TooMany_NoStanding
  have t_TooMany_NoText : KtO K C_TooMany (.ref C_NoText) false := KtO.own ot_TooMany_NoText
  have t_TooMany_NoWays : KtO K C_TooMany (.ref C_NoWays) false := KtO.own ot_TooMany_NoWays
  have t_TooMany_TooFew : KtO K C_TooMany (.ref C_TooFew) false := KtO.own ot_TooMany_TooFew
  have t_TooMany_TooMany : KtO K C_TooMany (.ref C_TooMany) true := KtO.own ot_TooMany_TooMany
  have t_TooMany_ValueError : KtO K C_TooMany (.ty "ValueError") true := KtO.ty ot_TooMany_ValueError
  have R_NoLevel : RzC K C_NoLevel := ⟨rk_NoLevel, re_NoLevel, rb_NoLevel, rt_NoLevel⟩
  have R_NoWays : RzC K C_NoWays := ⟨rk_NoWays, re_NoWays, rb_NoWays, rt_NoWays⟩
  have R_TooMany : RzC K C_TooMany := ⟨rk_TooMany, re_TooMany, rb_TooMany, rt_TooMany⟩
  have CR_ReelError : ClX.CRead K C_ReelError (.type "type") := ⟨rd_ReelError, sg_ReelError⟩
  have fc_ReelError : PySem.W.findCls K (.ref C_ReelError) (.type "type") "__init__" = some (.val (.builtin "ValueError.__init__")) := vfc_ReelError
  have m_NoWays_ReelError : PySem.W.exmOne K (.ref C_NoWays) (.ref C_ReelError) = some true := PySem.W.exm_ref mb_m_NoWays_ReelError md_m_NoWays_ReelError mt_m_NoWays_ReelError ms_m_NoWays_ReelError
  have m_NoLevel_ReelError : PySem.W.exmOne K (.ref C_NoLevel) (.ref C_ReelError) = some true := PySem.W.exm_ref mb_m_NoLevel_ReelError md_m_NoLevel_ReelError mt_m_NoLevel_ReelError ms_m_NoLevel_ReelError
  have m_TooMany_ReelError : PySem.W.exmOne K (.ref C_TooMany) (.ref C_ReelError) = some true := PySem.W.exm_ref mb_m_TooMany_ReelError md_m_TooMany_ReelError mt_m_TooMany_ReelError ms_m_TooMany_ReelError
  have C__law_counts : Cl l.prog w K mg base CX0 1 "_law_counts" ["p", "n"] (sp__law_counts K) := Cl.mk' F__law_counts (ok__law_counts F__law_counts b_range) (PySem.W.mg_of X G a__law_counts) (F__law_counts.binds (ps := ["p", "n"]) fun _ _ _ _ _ _ us hl => match us, hl with | [_, _], _ => rfl)
  have C__law_is : Cl l.prog w K mg base CX0 1 "_law_is" ["thing", "first", "last"] (sp__law_is K) := Cl.mk' F__law_is (ok__law_is F__law_is b_bool b_int b_isinstance) (PySem.W.mg_of X G a__law_is) (F__law_is.binds (ps := ["thing", "first", "last"]) fun _ _ _ _ _ _ us hl => match us, hl with | [_, _, _], _ => rfl)
  have C__law_due : Cl l.prog w K mg base CX0 2 "_law_due" ["p", "n"] (sp__law_due K) := Cl.mk' F__law_due (ok__law_due F__law_due b_int b_sum C__law_counts C__law_is) (PySem.W.mg_of X G a__law_due) (F__law_due.binds (ps := ["p", "n"]) fun _ _ _ _ _ _ us hl => match us, hl with | [_, _], _ => rfl)
  have C__law_take : Cl l.prog w K mg base CX0 1 "_law_take" ["pot", "many"] (sp__law_take K) := Cl.mk' F__law_take (ok__law_take F__law_take) (PySem.W.mg_of X G a__law_take) (F__law_take.binds (ps := ["pot", "many"]) fun _ _ _ _ _ _ us hl => match us, hl with | [_, _], _ => rfl)
  have C__law_odd : Cl l.prog w K mg base CX0 2 "_law_odd" ["pot"] (sp__law_odd K) := Cl.mk' F__law_odd (ok__law_odd F__law_odd C__law_take) (PySem.W.mg_of X G a__law_odd) (F__law_odd.binds (ps := ["pot"]) fun _ _ _ _ _ _ us hl => match us, hl with | [_], _ => rfl)
  have C__law_other_counts : Cl l.prog w K mg base CX0 2 "_law_other_counts" ["pot", "counts"] (sp__law_other_counts K) := Cl.mk' F__law_other_counts (ok__law_other_counts F__law_other_counts b_len b_list b_max C__law_take) (PySem.W.mg_of X G a__law_other_counts) (F__law_other_counts.binds (ps := ["pot", "counts"]) fun _ _ _ _ _ _ us hl => match us, hl with | [_, _], _ => rfl)
  have C__law_alone : Cl l.prog w K mg base CX0 1 "_law_alone" ["e", "name"] (sp__law_alone K) := Cl.mk' F__law_alone (ok__law_alone F__law_alone b_ValueError b_isinstance k_Clash k_NoBack k_NoLevel k_NoLine k_NoPhase k_NoPlace k_NoRoom k_NoStanding k_NoText k_NoWays k_ReelError k_TooFew k_TooMany x_NoWays t_NoWays_ReelError t_NoWays_Clash t_NoWays_NoBack t_NoWays_NoLevel t_NoWays_NoLine t_NoWays_NoPhase t_NoWays_NoPlace t_NoWays_NoRoom t_NoWays_NoStanding t_NoWays_NoText t_NoWays_NoWays t_NoWays_TooFew t_NoWays_TooMany t_NoWays_ValueError x_NoLevel t_NoLevel_ReelError t_NoLevel_Clash t_NoLevel_NoBack t_NoLevel_NoLevel t_NoLevel_NoLine t_NoLevel_NoPhase t_NoLevel_NoPlace t_NoLevel_NoRoom t_NoLevel_NoStanding t_NoLevel_NoText t_NoLevel_NoWays t_NoLevel_TooFew t_NoLevel_TooMany t_NoLevel_ValueError x_TooMany t_TooMany_ReelError t_TooMany_Clash t_TooMany_NoBack t_TooMany_NoLevel t_TooMany_NoLine t_TooMany_NoPhase t_TooMany_NoPlace t_TooMany_NoRoom t_TooMany_NoStanding t_TooMany_NoText t_TooMany_NoWays t_TooMany_TooFew t_TooMany_TooMany t_TooMany_ValueError) (PySem.W.mg_of X G a__law_alone) (F__law_alone.binds (ps := ["e", "name"]) fun _ _ _ _ _ _ us hl => match us, hl with | [_, _], _ => rfl)
  have C_first_counts : Cl l.prog w K mg base CX0 1 "first_counts" ["p"] (sp_first_counts K) := Cl.mk' F_first_counts (ok_first_counts F_first_counts) (PySem.W.mg_of X G a_first_counts) (F_first_counts.binds (ps := ["p"]) fun _ _ _ _ _ _ us hl => match us, hl with | [_], _ => rfl)
  have C_higher_counts : Cl l.prog w K mg base CX0 1 "higher_counts" ["counts"] (sp_higher_counts K) := Cl.mk' F_higher_counts (ok_higher_counts F_higher_counts b_tuple) (PySem.W.mg_of X G a_higher_counts) (F_higher_counts.binds (ps := ["counts"]) fun _ _ _ _ _ _ us hl => match us, hl with | [_], _ => rfl)
  have C_is_whole : Cl l.prog w K mg base CX0 1 "is_whole" ["thing"] (sp_is_whole K) := Cl.mk' F_is_whole (ok_is_whole F_is_whole b_bool b_int b_isinstance) (PySem.W.mg_of X G a_is_whole) (F_is_whole.binds (ps := ["thing"]) fun _ _ _ _ _ _ us hl => match us, hl with | [_], _ => rfl)
  have C_look_at_level : Cl l.prog w K mg base CX0 2 "look_at_level" ["n"] (sp_look_at_level K) := Cl.mk' F_look_at_level (ok_look_at_level F_look_at_level m_MOST_LEVEL C_is_whole) (PySem.W.mg_of X G a_look_at_level) (F_look_at_level.binds (ps := ["n"]) fun _ _ _ _ _ _ us hl => match us, hl with | [_], _ => rfl)
  have C_look_at_level_x : Cl l.prog w K mg base (L2.CX l.prog w) 2 "look_at_level" ["n"] (sp_look_at_level_x K) := Cl.mk' F_look_at_level (ok_look_at_level_x F_look_at_level m_MOST_LEVEL C_is_whole k_NoLevel R_NoLevel) (PySem.W.mg_of X G a_look_at_level) (F_look_at_level.binds (ps := ["n"]) fun _ _ _ _ _ _ us hl => match us, hl with | [_], _ => rfl)
  have C_look_at_ways : Cl l.prog w K mg base CX0 2 "look_at_ways" ["p"] (sp_look_at_ways K) := Cl.mk' F_look_at_ways (ok_look_at_ways F_look_at_ways m_LEAST_WAYS m_MOST_WAYS C_is_whole) (PySem.W.mg_of X G a_look_at_ways) (F_look_at_ways.binds (ps := ["p"]) fun _ _ _ _ _ _ us hl => match us, hl with | [_], _ => rfl)
  have C_look_at_ways_x : Cl l.prog w K mg base (L2.CX l.prog w) 2 "look_at_ways" ["p"] (sp_look_at_ways_x K) := Cl.mk' F_look_at_ways (ok_look_at_ways_x F_look_at_ways m_LEAST_WAYS m_MOST_WAYS C_is_whole k_NoWays R_NoWays) (PySem.W.mg_of X G a_look_at_ways) (F_look_at_ways.binds (ps := ["p"]) fun _ _ _ _ _ _ us hl => match us, hl with | [_], _ => rfl)
  have C_look_at_ways_o : Cl l.prog w K mg base (L2.CX l.prog w) 2 "look_at_ways" ["p"] (fun vs H Q E => sp_look_at_ways K vs H Q E0 ∨ sp_look_at_ways_x K vs H Q E) := Cl.mk' F_look_at_ways (FnOk.join (n := 2) (ok_look_at_ways F_look_at_ways m_LEAST_WAYS m_MOST_WAYS C_is_whole) (ok_look_at_ways_x F_look_at_ways m_LEAST_WAYS m_MOST_WAYS C_is_whole k_NoWays R_NoWays) (by decide) (by decide)) (PySem.W.mg_of X G a_look_at_ways) (F_look_at_ways.binds (ps := ["p"]) fun _ _ _ _ _ _ us hl => match us, hl with | [_], _ => rfl)
  have C_level_counts : Cl l.prog w K mg base CX0 3 "level_counts" ["p", "n"] (sp_level_counts K) := Cl.mk' F_level_counts (ok_level_counts F_level_counts b_range C_first_counts C_higher_counts C_look_at_level C_look_at_ways) (PySem.W.mg_of X G a_level_counts) (F_level_counts.binds (ps := ["p", "n"]) fun _ _ _ _ _ _ us hl => match us, hl with | [_, _], _ => rfl)
  have C_level_counts_x : Cl l.prog w K mg base (L2.CX l.prog w) 3 "level_counts" ["p", "n"] (sp_level_counts_x K) := Cl.mk' F_level_counts (ok_level_counts_x F_level_counts C_look_at_level_x C_look_at_ways_o) (PySem.W.mg_of X G a_level_counts) (F_level_counts.binds (ps := ["p", "n"]) fun _ _ _ _ _ _ us hl => match us, hl with | [_, _], _ => rfl)
  have C_level_counts_o : Cl l.prog w K mg base (L2.CX l.prog w) 3 "level_counts" ["p", "n"] (fun vs H Q E => sp_level_counts K vs H Q E0 ∨ sp_level_counts_x K vs H Q E) := Cl.mk' F_level_counts (FnOk.join (n := 3) (ok_level_counts F_level_counts b_range C_first_counts C_higher_counts C_look_at_level C_look_at_ways) (ok_level_counts_x F_level_counts C_look_at_level_x C_look_at_ways_o) (by decide) (by decide)) (PySem.W.mg_of X G a_level_counts) (F_level_counts.binds (ps := ["p", "n"]) fun _ _ _ _ _ _ us hl => match us, hl with | [_, _], _ => rfl)
  have C_turned_numbers : Cl l.prog w K mg base CX0 4 "turned_numbers" ["p", "n"] (sp_turned_numbers K) := Cl.mk' F_turned_numbers (ok_turned_numbers F_turned_numbers m_MOST_PLACES b_list b_range b_reversed b_sum C_level_counts) (PySem.W.mg_of X G a_turned_numbers) (F_turned_numbers.binds (ps := ["p", "n"]) fun _ _ _ _ _ _ us hl => match us, hl with | [_, _], _ => rfl)
  have C_turned_numbers_x : Cl l.prog w K mg base (L2.CX l.prog w) 4 "turned_numbers" ["p", "n"] (sp_turned_numbers_x K) := Cl.mk' F_turned_numbers (ok_turned_numbers_x F_turned_numbers m_MOST_PLACES b_sum k_TooMany R_TooMany C_level_counts_o) (PySem.W.mg_of X G a_turned_numbers) (F_turned_numbers.binds (ps := ["p", "n"]) fun _ _ _ _ _ _ us hl => match us, hl with | [_, _], _ => rfl)
  have C_turned_numbers_o : Cl l.prog w K mg base (L2.CX l.prog w) 4 "turned_numbers" ["p", "n"] (fun vs H Q E => sp_turned_numbers K vs H Q E0 ∨ sp_turned_numbers_x K vs H Q E) := Cl.mk' F_turned_numbers (FnOk.join (n := 4) (ok_turned_numbers F_turned_numbers m_MOST_PLACES b_list b_range b_reversed b_sum C_level_counts) (ok_turned_numbers_x F_turned_numbers m_MOST_PLACES b_sum k_TooMany R_TooMany C_level_counts_o) (by decide) (by decide)) (PySem.W.mg_of X G a_turned_numbers) (F_turned_numbers.binds (ps := ["p", "n"]) fun _ _ _ _ _ _ us hl => match us, hl with | [_, _], _ => rfl)
  have C_level_by_counts : Cl l.prog w K mg base CX0 4 "level_by_counts" ["p", "counts"] (sp_level_by_counts K) := Cl.mk' F_level_by_counts (ok_level_by_counts F_level_by_counts b_sum C_level_counts) (PySem.W.mg_of X G a_level_by_counts) (F_level_by_counts.binds (ps := ["p", "counts"]) fun _ _ _ _ _ _ us hl => match us, hl with | [_, _], _ => rfl)
  have C_level_by_counts_x : Cl l.prog w K mg base (L2.CX l.prog w) 4 "level_by_counts" ["p", "counts"] (sp_level_by_counts_x K) := Cl.mk' F_level_by_counts (ok_level_by_counts_x F_level_by_counts b_sum k_NoLevel R_NoLevel C_level_counts_o) (PySem.W.mg_of X G a_level_by_counts) (F_level_by_counts.binds (ps := ["p", "counts"]) fun _ _ _ _ _ _ us hl => match us, hl with | [_, _], _ => rfl)
  have C_turned_row : Cl l.prog w K mg base CX0 1 "turned_row" ["rows", "at"] (sp_turned_row K) := Cl.mk' F_turned_row (ok_turned_row F_turned_row b_len b_sorted) (PySem.W.mg_of X G a_turned_row) (F_turned_row.binds (ps := ["rows", "at"]) fun _ _ _ _ _ _ us hl => match us, hl with | [_, _], _ => rfl)
  have C_turned_play : Cl l.prog w K mg base CX0 5 "turned_play" ["p", "reels"] (sp_turned_play K) := Cl.mk' F_turned_play (ok_turned_play F_turned_play b_len b_list b_range b_tuple C_level_by_counts C_turned_row) (PySem.W.mg_of X G a_turned_play) (F_turned_play.binds (ps := ["p", "reels"]) fun _ _ _ _ _ _ us hl => match us, hl with | [_, _], _ => rfl)
  have C_turned_play_x : Cl l.prog w K mg base (L2.CX l.prog w) 5 "turned_play" ["p", "reels"] (sp_turned_play_x K) := Cl.mk' F_turned_play (ok_turned_play_x F_turned_play b_len b_tuple C_level_by_counts_x) (PySem.W.mg_of X G a_turned_play) (F_turned_play.binds (ps := ["p", "reels"]) fun _ _ _ _ _ _ us hl => match us, hl with | [_, _], _ => rfl)
  have C_turned_play_o : Cl l.prog w K mg base (L2.CX l.prog w) 5 "turned_play" ["p", "reels"] (fun vs H Q E => sp_turned_play K vs H Q E0 ∨ sp_turned_play_x K vs H Q E) := Cl.mk' F_turned_play (FnOk.join (n := 5) (ok_turned_play F_turned_play b_len b_list b_range b_tuple C_level_by_counts C_turned_row) (ok_turned_play_x F_turned_play b_len b_tuple C_level_by_counts_x) (by decide) (by decide)) (PySem.W.mg_of X G a_turned_play) (F_turned_play.binds (ps := ["p", "reels"]) fun _ _ _ _ _ _ us hl => match us, hl with | [_, _], _ => rfl)
  have C_turned_ups : Cl l.prog w K mg base CX0 5 "turned_ups" ["p", "n"] (sp_turned_ups K) := Cl.mk' F_turned_ups (ok_turned_ups F_turned_ups C_turned_numbers) (PySem.W.mg_of X G a_turned_ups) (F_turned_ups.binds (ps := ["p", "n"]) fun _ _ _ _ _ _ us hl => match us, hl with | [_, _], _ => rfl)
  have C_turned_ups_x : Cl l.prog w K mg base (L2.CX l.prog w) 5 "turned_ups" ["p", "n"] (sp_turned_ups_x K) := Cl.mk' F_turned_ups (ok_turned_ups_x F_turned_ups C_turned_numbers_x) (PySem.W.mg_of X G a_turned_ups) (F_turned_ups.binds (ps := ["p", "n"]) fun _ _ _ _ _ _ us hl => match us, hl with | [_, _], _ => rfl)
  have C_turned_ups_o : Cl l.prog w K mg base (L2.CX l.prog w) 5 "turned_ups" ["p", "n"] (fun vs H Q E => sp_turned_ups K vs H Q E0 ∨ sp_turned_ups_x K vs H Q E) := Cl.mk' F_turned_ups (FnOk.join (n := 5) (ok_turned_ups F_turned_ups C_turned_numbers) (ok_turned_ups_x F_turned_ups C_turned_numbers_x) (by decide) (by decide)) (PySem.W.mg_of X G a_turned_ups) (F_turned_ups.binds (ps := ["p", "n"]) fun _ _ _ _ _ _ us hl => match us, hl with | [_, _], _ => rfl)
  have C__law_told : Cl l.prog w K mg base CX0 6 "_law_told" ["way", "p", "thing"] (sp__law_told K) := Cl.mk' F__law_told (ok__law_told F__law_told C__law_alone k_NoLevel k_NoWays k_ReelError k_TooMany x_NoWays m_NoWays_ReelError x_NoLevel m_NoLevel_ReelError x_TooMany m_TooMany_ReelError C_turned_numbers_o C_turned_play_o C_turned_ups_o) (PySem.W.mg_of X G a__law_told) (F__law_told.binds (ps := ["way", "p", "thing"]) fun _ _ _ _ _ _ us hl => match us, hl with | [_, _, _], _ => rfl)
  have C__law_play_right : Cl l.prog w K mg base CX0 7 "_law_play_right" ["pot", "p"] (sp__law_play_right K) := Cl.mk' F__law_play_right (ok__law_play_right F__law_play_right b_int b_range C__law_counts C__law_other_counts C__law_take C__law_told) (PySem.W.mg_of X G a__law_play_right) (F__law_play_right.binds (ps := ["pot", "p"]) fun _ _ _ _ _ _ us hl => match us, hl with | [_, _], _ => rfl)
  have C__law_pot : Cl l.prog w K mg base CX0 1 "_law_pot" ["script", "k"] (sp__law_pot K) := Cl.mk' F__law_pot (ok__law_pot F__law_pot b_len b_max) (PySem.W.mg_of X G a__law_pot) (F__law_pot.binds (ps := ["script", "k"]) fun _ _ _ _ _ _ us hl => match us, hl with | [_, _], _ => rfl)
  exact ok_law F_law b_len b_max b_min b_range C__law_due C__law_odd C__law_play_right C__law_pot C__law_take C__law_told
end Fk
open PySem PySem.W PyProof.Rows
set_option maxHeartbeats 0 in
theorem PySem.Challenge.cw_fewreels_k55_turned_reels_refused_holds : PySem.Challenge.rw_fewreels_k55_turned_reels_refused.Holds := by
  w_on; o_law; k_head; (case hw => w_witness2)
  k_fill
  refine L2.walk_of (l := PySem.Challenge.rw_fewreels_k55_turned_reels_refused) (n := 63) (k := 8) (x := "script") (CX := fun _ => L2.CX0) (sp := fun w => Fk.sp_law _) rfl (by decide) rfl ⟨rfl, by decide, by decide⟩ (fun w h Y => PySem.W.kIn_of Y) ?F (fun _ _ a ns hl _ hS => ⟨a, ns, rfl, ⟨hS⟩, hl, fun _ => rfl⟩) (fun _ _ _ _ _ h => h)
  case F =>
    intro w mg fa h KX G hmg
    refine' Fk.all_mk KX G hmg ?a__law_counts ?l__law_counts ?c__law_counts ?k__law_counts ?a__law_is ?l__law_is ?c__law_is ?k__law_is ?a__law_due ?l__law_due ?c__law_due ?k__law_due ?a__law_take ?l__law_take ?c__law_take ?k__law_take ?a__law_odd ?l__law_odd ?c__law_odd ?k__law_odd ?a__law_other_counts ?l__law_other_counts ?c__law_other_counts ?k__law_other_counts ?a__law_alone ?l__law_alone ?c__law_alone ?k__law_alone ?a_first_counts ?l_first_counts ?c_first_counts ?k_first_counts ?a_higher_counts ?l_higher_counts ?c_higher_counts ?k_higher_counts ?a_is_whole ?l_is_whole ?c_is_whole ?k_is_whole ?a_look_at_level ?l_look_at_level ?c_look_at_level ?k_look_at_level ?a_look_at_ways ?l_look_at_ways ?c_look_at_ways ?k_look_at_ways ?a_level_counts ?l_level_counts ?c_level_counts ?k_level_counts ?a_turned_numbers ?l_turned_numbers ?c_turned_numbers ?k_turned_numbers ?a_level_by_counts ?l_level_by_counts ?c_level_by_counts ?k_level_by_counts ?a_turned_row ?l_turned_row ?c_turned_row ?k_turned_row ?a_turned_play ?l_turned_play ?c_turned_play ?k_turned_play ?a_turned_ups ?l_turned_ups ?c_turned_ups ?k_turned_ups ?a__law_told ?l__law_told ?c__law_told ?k__law_told ?a__law_play_right ?l__law_play_right ?c__law_play_right ?k__law_play_right ?a__law_pot ?l__law_pot ?c__law_pot ?k__law_pot ?a_law ?l_law ?c_law ?k_law ?z_ValueError ?z_bool ?z_int ?z_isinstance ?z_len ?z_list ?z_max ?z_min ?z_range ?z_reversed ?z_sorted ?z_sum ?z_tuple ?g_LEAST_WAYS ?g_MOST_LEVEL ?g_MOST_PLACES ?g_MOST_WAYS ?n_Clash ?n_NoBack ?n_NoLevel ?n_NoLine ?n_NoPhase ?n_NoPlace ?n_NoRoom ?n_NoStanding ?n_NoText ?n_NoWays ?n_ReelError ?n_TooFew ?n_TooMany ?a_Clash_init ?ti_Clash_init ?l_Clash_init ?c_Clash_init ?k_Clash_init ?hg_NoWays ?hk_NoWays ?hs_NoWays ?hd_NoWays ?ha_NoWays ?hn_NoWays ?ht_NoWays ?hm_NoWays ?ot_NoWays_ReelError ?ot_NoWays_Clash ?ot_NoWays_NoBack ?ot_NoWays_NoLevel ?ot_NoWays_NoLine ?ot_NoWays_NoPhase ?ot_NoWays_NoPlace ?ot_NoWays_NoRoom ?ot_NoWays_NoStanding ?ot_NoWays_NoText ?ot_NoWays_NoWays ?ot_NoWays_TooFew ?ot_NoWays_TooMany ?ot_NoWays_ValueError ?hg_NoLevel ?hk_NoLevel ?hs_NoLevel ?hd_NoLevel ?ha_NoLevel ?hn_NoLevel ?ht_NoLevel ?hm_NoLevel ?ot_NoLevel_ReelError ?ot_NoLevel_Clash ?ot_NoLevel_NoBack ?ot_NoLevel_NoLevel ?ot_NoLevel_NoLine ?ot_NoLevel_NoPhase ?ot_NoLevel_NoPlace ?ot_NoLevel_NoRoom ?ot_NoLevel_NoStanding ?ot_NoLevel_NoText ?ot_NoLevel_NoWays ?ot_NoLevel_TooFew ?ot_NoLevel_TooMany ?ot_NoLevel_ValueError ?hg_TooMany ?hk_TooMany ?hs_TooMany ?hd_TooMany ?ha_TooMany ?hn_TooMany ?ht_TooMany ?hm_TooMany ?ot_TooMany_ReelError ?ot_TooMany_Clash ?ot_TooMany_NoBack ?ot_TooMany_NoLevel ?ot_TooMany_NoLine ?ot_TooMany_NoPhase ?ot_TooMany_NoPlace ?ot_TooMany_NoRoom ?ot_TooMany_NoStanding ?ot_TooMany_NoText ?ot_TooMany_NoWays ?ot_TooMany_TooFew ?ot_TooMany_TooMany ?ot_TooMany_ValueError ?rk_NoLevel ?re_NoLevel ?rb_NoLevel ?rt_NoLevel ?rk_NoWays ?re_NoWays ?rb_NoWays ?rt_NoWays ?rk_TooMany ?re_TooMany ?rb_TooMany ?rt_TooMany ?rd_ReelError ?sg_ReelError ?vfc_ReelError ?mb_m_NoWays_ReelError ?md_m_NoWays_ReelError ?mt_m_NoWays_ReelError ?ms_m_NoWays_ReelError ?mb_m_NoLevel_ReelError ?md_m_NoLevel_ReelError ?mt_m_NoLevel_ReelError ?ms_m_NoLevel_ReelError ?mb_m_TooMany_ReelError ?md_m_TooMany_ReelError ?mt_m_TooMany_ReelError ?ms_m_TooMany_ReelError
    (case a__law_counts => k_is); (case l__law_counts => k_is); (case c__law_counts => k_is); (case k__law_counts => k_is); (case a__law_is => k_is); (case l__law_is => k_is); (case c__law_is => k_is); (case k__law_is => k_is); (case a__law_due => k_is); (case l__law_due => k_is); (case c__law_due => k_is); (case k__law_due => k_is); (case a__law_take => k_is); (case l__law_take => k_is); (case c__law_take => k_is); (case k__law_take => k_is); (case a__law_odd => k_is); (case l__law_odd => k_is); (case c__law_odd => k_is); (case k__law_odd => k_is); (case a__law_other_counts => k_is); (case l__law_other_counts => k_is); (case c__law_other_counts => k_is); (case k__law_other_counts => k_is); (case a__law_alone => k_is); (case l__law_alone => k_is); (case c__law_alone => k_is); (case k__law_alone => k_is); (case a_first_counts => k_is); (case l_first_counts => k_is); (case c_first_counts => k_is); (case k_first_counts => k_is); (case a_higher_counts => k_is); (case l_higher_counts => k_is); (case c_higher_counts => k_is); (case k_higher_counts => k_is); (case a_is_whole => k_is); (case l_is_whole => k_is); (case c_is_whole => k_is); (case k_is_whole => k_is); (case a_look_at_level => k_is); (case l_look_at_level => k_is); (case c_look_at_level => k_is); (case k_look_at_level => k_is); (case a_look_at_ways => k_is); (case l_look_at_ways => k_is); (case c_look_at_ways => k_is); (case k_look_at_ways => k_is); (case a_level_counts => k_is); (case l_level_counts => k_is); (case c_level_counts => k_is); (case k_level_counts => k_is); (case a_turned_numbers => k_is); (case l_turned_numbers => k_is); (case c_turned_numbers => k_is); (case k_turned_numbers => k_is); (case a_level_by_counts => k_is); (case l_level_by_counts => k_is); (case c_level_by_counts => k_is); (case k_level_by_counts => k_is); (case a_turned_row => k_is); (case l_turned_row => k_is); (case c_turned_row => k_is); (case k_turned_row => k_is); (case a_turned_play => k_is); (case l_turned_play => k_is); (case c_turned_play => k_is); (case k_turned_play => k_is); (case a_turned_ups => k_is); (case l_turned_ups => k_is); (case c_turned_ups => k_is); (case k_turned_ups => k_is); (case a__law_told => k_is); (case l__law_told => k_is); (case c__law_told => k_is); (case k__law_told => k_is); (case a__law_play_right => k_is); (case l__law_play_right => k_is); (case c__law_play_right => k_is); (case k__law_play_right => k_is); (case a__law_pot => k_is); (case l__law_pot => k_is); (case c__law_pot => k_is); (case k__law_pot => k_is); (case a_law => k_is); (case l_law => k_is); (case c_law => k_is); (case k_law => k_is); (case z_ValueError => k_is); (case z_bool => k_is); (case z_int => k_is); (case z_isinstance => k_is); (case z_len => k_is); (case z_list => k_is); (case z_max => k_is); (case z_min => k_is); (case z_range => k_is); (case z_reversed => k_is); (case z_sorted => k_is); (case z_sum => k_is); (case z_tuple => k_is); (case g_LEAST_WAYS => k_is); (case g_MOST_LEVEL => k_is); (case g_MOST_PLACES => k_is); (case g_MOST_WAYS => k_is); (case n_Clash => k_is); (case n_NoBack => k_is); (case n_NoLevel => k_is); (case n_NoLine => k_is); (case n_NoPhase => k_is); (case n_NoPlace => k_is); (case n_NoRoom => k_is); (case n_NoStanding => k_is); (case n_NoText => k_is); (case n_NoWays => k_is); (case n_ReelError => k_is); (case n_TooFew => k_is); (case n_TooMany => k_is); (case a_Clash_init => k_is); (case ti_Clash_init => k_is); (case l_Clash_init => k_is); (case c_Clash_init => k_is); (case k_Clash_init => k_is); (case hg_NoWays => k_is); (case hk_NoWays => k_is); (case hs_NoWays => k_is); (case hd_NoWays => k_is); (case ha_NoWays => k_is); (case hn_NoWays => k_is); (case ht_NoWays => k_is); (case hm_NoWays => k_is); (case ot_NoWays_ReelError => kit_is); (case ot_NoWays_Clash => kit_is); (case ot_NoWays_NoBack => kit_is); (case ot_NoWays_NoLevel => kit_is); (case ot_NoWays_NoLine => kit_is); (case ot_NoWays_NoPhase => kit_is); (case ot_NoWays_NoPlace => kit_is); (case ot_NoWays_NoRoom => kit_is); (case ot_NoWays_NoStanding => kit_is); (case ot_NoWays_NoText => kit_is); (case ot_NoWays_NoWays => kit_is); (case ot_NoWays_TooFew => kit_is); (case ot_NoWays_TooMany => kit_is); (case ot_NoWays_ValueError => kit_is); (case hg_NoLevel => k_is); (case hk_NoLevel => k_is); (case hs_NoLevel => k_is); (case hd_NoLevel => k_is); (case ha_NoLevel => k_is); (case hn_NoLevel => k_is); (case ht_NoLevel => k_is); (case hm_NoLevel => k_is); (case ot_NoLevel_ReelError => kit_is); (case ot_NoLevel_Clash => kit_is); (case ot_NoLevel_NoBack => kit_is); (case ot_NoLevel_NoLevel => kit_is); (case ot_NoLevel_NoLine => kit_is); (case ot_NoLevel_NoPhase => kit_is); (case ot_NoLevel_NoPlace => kit_is); (case ot_NoLevel_NoRoom => kit_is); (case ot_NoLevel_NoStanding => kit_is); (case ot_NoLevel_NoText => kit_is); (case ot_NoLevel_NoWays => kit_is); (case ot_NoLevel_TooFew => kit_is); (case ot_NoLevel_TooMany => kit_is); (case ot_NoLevel_ValueError => kit_is); (case hg_TooMany => k_is); (case hk_TooMany => k_is); (case hs_TooMany => k_is); (case hd_TooMany => k_is); (case ha_TooMany => k_is); (case hn_TooMany => k_is); (case ht_TooMany => k_is); (case hm_TooMany => k_is); (case ot_TooMany_ReelError => kit_is); (case ot_TooMany_Clash => kit_is); (case ot_TooMany_NoBack => kit_is); (case ot_TooMany_NoLevel => kit_is); (case ot_TooMany_NoLine => kit_is); (case ot_TooMany_NoPhase => kit_is); (case ot_TooMany_NoPlace => kit_is); (case ot_TooMany_NoRoom => kit_is); (case ot_TooMany_NoStanding => kit_is); (case ot_TooMany_NoText => kit_is); (case ot_TooMany_NoWays => kit_is); (case ot_TooMany_TooFew => kit_is); (case ot_TooMany_TooMany => kit_is); (case ot_TooMany_ValueError => kit_is); (case rk_NoLevel => k_is); (case re_NoLevel => first | k_exc | k_is); (case rb_NoLevel => k_is); (case rt_NoLevel => k_is); (case rk_NoWays => k_is); (case re_NoWays => first | k_exc | k_is); (case rb_NoWays => k_is); (case rt_NoWays => k_is); (case rk_TooMany => k_is); (case re_TooMany => first | k_exc | k_is); (case rb_TooMany => k_is); (case rt_TooMany => k_is); (case rd_ReelError => k_is); (case sg_ReelError => k_is); (case vfc_ReelError => k_is); (case mb_m_NoWays_ReelError => k_is); (case md_m_NoWays_ReelError => k_is); (case mt_m_NoWays_ReelError => k_is); (case ms_m_NoWays_ReelError => k_is); (case mb_m_NoLevel_ReelError => k_is); (case md_m_NoLevel_ReelError => k_is); (case mt_m_NoLevel_ReelError => k_is); (case ms_m_NoLevel_ReelError => k_is); (case mb_m_TooMany_ReelError => k_is); (case md_m_TooMany_ReelError => k_is); (case mt_m_TooMany_ReelError => k_is); (case ms_m_TooMany_ReelError => k_is)
