import PyProof.Rows.All
import Wide.All
import OpenK.AllK
import Wide.FinOn
import HandS.ForMost
import HandS.More
import HandS.Flow
import HandS.WordsExc
import HandS.Defaults
import HandS.Walk
import HandS.SetKeys
import HandS.SortKw
import HandS.TryMany
import HandS.IsInst
import HandS.Style
import HandS.Steps
import HandS.Wide
import HandS.OwnEq
import HandS.HeadHook4
import HandS.TupAny
import HandS.Lambda
import KE.DataEq
import KE.GoesZip
import KE.GoesEnum
import KE.GoesEnumKw
import KE.SortData
import KE.SortKeyHeap
import KE.DataMinMax
import KE.KSortKey
import KE.KDictWalk
import HandS.DeepEq
import HandS.WordsDict
import HandS.MakeKwOnly
import KE.KEqNest
import HandS.ExcInit
import KE.KExcInit
import HandS.MakeKw
import HandS.Text
import KE.KStateDown
import Lean
import HandS.Head0
import HandS.Head1
import HandS.Head2
import HandS.HeadEnd
import HandS.HeadWalk
import PySem.Challenge.RW_ringorders_k73_whole_told_late_as_in_tim
set_option Elab.async false
set_option linter.all false
set_option maxRecDepth 100000
set_option maxHeartbeats 0
namespace Ro
open PySem PySem.Spec PyProof.Rows L2

/-! ### the text by places -/
def top (i : Nat) : Stmt := PySem.Challenge.pw_ringorders_k73_whole_told_late_as_in_tim.main.body.getD i (.Pass ⟨0, 0, 0, 0⟩)

/-! ### data as it stands -/
mutual
/-- v is the data d -/
def Pt (H : Hp) : PyData → V → Prop
  | .none, v => v = .non
  | .bool b, v => v = .bl b
  | .int i, v => v = .int i
  | .str x, v => v = .str x
  | .tuple ds, v => ∃ a xs, v = .ref a ∧ H a = some (.tup xs) ∧ PtA H ds xs
  | .list ds, v => ∃ a xs, v = .ref a ∧ H a = some (.lst xs) ∧ PtA H ds xs
  | .dict _, _ => False
def PtA (H : Hp) : List PyData → List V → Prop
  | [], xs => xs = []
  | d :: ds, xs => ∃ v vs, xs = v :: vs ∧ Pt H d v ∧ PtA H ds vs
end
theorem pt_int {H : Hp} {i : Int} {v : V} : Pt H (.int i) v ↔ v = .int i := by simp only [Pt]
theorem pt_str {H : Hp} {x : Str} {v : V} : Pt H (.str x) v ↔ v = .str x := by simp only [Pt]
theorem pt_bl {H : Hp} {b : Bool} {v : V} : Pt H (.bool b) v ↔ v = .bl b := by simp only [Pt]
theorem pt_non {H : Hp} {v : V} : Pt H .none v ↔ v = .non := by simp only [Pt]
theorem pt_tup {H : Hp} {ds : List PyData} {v : V} : Pt H (.tuple ds) v ↔ ∃ a xs, v = .ref a ∧ H a = some (.tup xs) ∧ PtA H ds xs := by simp only [Pt]
theorem pt_lst {H : Hp} {ds : List PyData} {v : V} : Pt H (.list ds) v ↔ ∃ a xs, v = .ref a ∧ H a = some (.lst xs) ∧ PtA H ds xs := by simp only [Pt]
theorem ptA_nil {H : Hp} {xs : List V} : PtA H [] xs ↔ xs = [] := by simp only [PtA]
theorem ptA_cons {H : Hp} {d : PyData} {ds : List PyData} {xs : List V} : PtA H (d :: ds) xs ↔ ∃ v vs, xs = v :: vs ∧ Pt H d v ∧ PtA H ds vs := by simp only [PtA]

/-! ### heaps: what stays -/
/-- the name that the code in a def's table bears: one lambda a def -/
class TabsC where
  nm : Addr → Str
variable [TabsC]
abbrev Tb (H : Hp) (P : Addr) : Prop := LamX.TabS H P (TabsC.nm P)
/-- all that stands stays; tables of code may grow as a lambda makes them grow -/
structure Same (H H' : Hp) : Prop where
  ob : LamX.ExtN H H'
  tb : ∀ P, Tb H P → Tb H' P
  nn : ∀ a, H' a = none → H a = none
theorem Same.ap {H H' : Hp} (k : Same H H') (a : Addr) (o : HO) (h : H a = some o) (n : ∀ ps, o ≠ .tbl ps := by intro ps z; cases z) : H' a = some o := k.ob a o h n
instance {H H' : Hp} : CoeFun (Same H H') fun _ => ∀ (a : Addr) (o : HO), H a = some o → ∀ (n : ∀ ps, o ≠ .tbl ps := by intro ps z; cases z), H' a = some o := ⟨fun k => @Same.ap _ H H' k⟩
instance {H H' : Hp} : Coe (Same H H') (LamX.ExtN H H') := ⟨fun k => k.ob⟩
theorem Same.of {H H' : Hp} (e : ∀ a o, H a = some o → H' a = some o) : Same H H' := ⟨LamX.ExtN.of e, fun P t => t.ext e, fun a n => by
  cases h : H a with
  | none => rfl
  | some o => rw [e a o h] at n; cases n⟩
theorem Same.refl (H : Hp) : Same H H := .of fun _ _ h => h
theorem Same.trans {H H1 H2 : Hp} (a : Same H H1) (b : Same H1 H2) : Same H H2 := ⟨a.ob.trans b.ob, fun P t => b.tb P (a.tb P t), fun x n => a.nn x (b.nn x n)⟩
theorem Same.free {H H' : Hp} (k : Same H H') {a : Addr} (h : H' a = none) : H a = none := k.nn a h
/-- an object that may change: a list, a dict, an instance -/
def Mo : HO → Prop
  | .lst _ => True
  | .dK _ => True
  | .dT _ => True
  | .ins _ _ _ => True
  | _ => False
theorem Mo.ntb {u : HO} (m : Mo u) : ∀ ps, u ≠ .tbl ps := fun ps z => by rw [z] at m; exact m
/-- a table doesn't mind what else is written -/
theorem tab_upd {H : Hp} {p P : Addr} {u o : HO} (h : H p = some u) (m : Mo u) (t : Tb H P) : Tb (upd H p o) P := by
  obtain ⟨ps, h1, h2, h3⟩ := t
  have ne : ∀ b v, H b = some v → ¬ Mo v → b ≠ p := fun b v e n z => by rw [z, h] at e; cases e; exact n m
  refine ⟨ps, by rw [upd_ne (ne P _ h1 fun z => z)]; exact h1, h2, fun pos cv hc => ?_⟩
  obtain ⟨c, e1, e2⟩ := h3 pos cv hc
  exact ⟨c, e1, by rw [upd_ne (ne c _ e2 fun z => z)]; exact e2⟩
/-- all tuples stay -/
def Tk (H H' : Hp) : Prop := ∀ a xs, H a = some (.tup xs) → H' a = some (.tup xs)
theorem Tk.refl (H : Hp) : Tk H H := fun _ _ h => h
theorem Tk.trans {H H1 H2 : Hp} (a : Tk H H1) (b : Tk H1 H2) : Tk H H2 := fun x xs h => b x xs (a x xs h)
theorem Same.tk {H H' : Hp} (e : Same H H') : Tk H H' := fun a xs h => e a _ h
theorem tk_upd {H : Hp} {p : Addr} {o : HO} (h : ∀ xs, H p ≠ some (.tup xs)) : Tk H (upd H p o) := fun a xs e => by
  rw [upd_ne (fun z => h xs (by rw [← z]; exact e))]
  exact e
theorem tk_new {H : Hp} {p : Addr} {o : HO} (h : H p = none) : Tk H (upd H p o) := tk_upd fun xs z => by rw [h] at z; cases z
theorem tk_mo {H : Hp} {p : Addr} {u o : HO} (h : H p = some u) (m : Mo u) : Tk H (upd H p o) := tk_upd fun xs z => by rw [h] at z; cases z; exact m
theorem tk_lst {H : Hp} {p : Addr} {o : HO} {ys : List V} (h : H p = some (.lst ys)) : Tk H (upd H p o) := tk_mo h True.intro
theorem same_new {H : Hp} {p : Addr} {o : HO} (h : H p = none) : Same H (upd H p o) := .of fun a u e => by
  rw [upd_ne (ne_of_none e h)]
  exact e
/-- an object that H does not know may change -/
theorem Same.mut {H H' : Hp} {p : Addr} {u o : HO} (e : Same H H') (h : H p = none) (hp : H' p = some u) (m : Mo u) : Same H (upd H' p o) := ⟨fun a v ha n => by
  rw [upd_ne (ne_of_none ha h)]
  exact e.ob a v ha n, fun P t => tab_upd hp m (e.tb P t), fun a n => by
  by_cases z : a = p
  · rw [z]; exact h
  · rw [upd_ne z] at n; exact e.nn a n⟩

mutual
theorem Pt.keepX {H H' : Hp} (k : LamX.ExtN H H') : ∀ (d : PyData) (v : V), Pt H d v → Pt H' d v
  | .none, _, h => h
  | .bool _, _, h => h
  | .int _, _, h => h
  | .str _, _, h => h
  | .tuple ds, v, h => by
    obtain ⟨a, xs, e, ha, hx⟩ := pt_tup.mp h
    exact pt_tup.mpr ⟨a, xs, e, k a _ ha (fun ps z => by cases z), PtA.keepX k ds xs hx⟩
  | .list ds, v, h => by
    obtain ⟨a, xs, e, ha, hx⟩ := pt_lst.mp h
    exact pt_lst.mpr ⟨a, xs, e, k a _ ha (fun ps z => by cases z), PtA.keepX k ds xs hx⟩
  | .dict _, _, h => h
theorem PtA.keepX {H H' : Hp} (k : LamX.ExtN H H') : ∀ (ds : List PyData) (xs : List V), PtA H ds xs → PtA H' ds xs
  | [], _, h => h
  | d :: ds, xs, h => by
    obtain ⟨v, vs, e, h1, h2⟩ := ptA_cons.mp h
    exact ptA_cons.mpr ⟨v, vs, e, Pt.keepX k d v h1, PtA.keepX k ds vs h2⟩
end
theorem Pt.keep {H H' : Hp} (k : Same H H') (d : PyData) (v : V) (h : Pt H d v) : Pt H' d v := Pt.keepX k.ob d v h
theorem PtA.keep {H H' : Hp} (k : Same H H') (ds : List PyData) (xs : List V) (h : PtA H ds xs) : PtA H' ds xs := PtA.keepX k.ob ds xs h
mutual
/-- no list, no dict within -/
def noL : PyData → Bool
  | .none | .bool _ | .int _ | .str _ => true
  | .tuple ds => noLs ds
  | .list _ => false
  | .dict _ => false
def noLs : List PyData → Bool
  | [] => true
  | d :: ds => noL d && noLs ds
end
theorem noLs_all : ∀ {ds : List PyData}, (∀ d ∈ ds, noL d = true) → noLs ds = true
  | [], _ => by simp only [noLs]
  | d :: ds, h => by
    simp only [noLs, h d (List.mem_cons_self ..), noLs_all fun e he => h e (List.mem_cons_of_mem _ he), Bool.and_self]
mutual
theorem Pt.keepT {H H' : Hp} (k : Tk H H') : ∀ (d : PyData) (v : V), noL d = true → Pt H d v → Pt H' d v
  | .none, _, _, h => h
  | .bool _, _, _, h => h
  | .int _, _, _, h => h
  | .str _, _, _, h => h
  | .tuple ds, v, n, h => by
    obtain ⟨a, xs, e, ha, hx⟩ := pt_tup.mp h
    simp only [noL] at n
    exact pt_tup.mpr ⟨a, xs, e, k a xs ha, PtA.keepT k ds xs n hx⟩
  | .list _, _, n, h => by simp only [noL] at n; cases n
  | .dict _, _, _, h => h
theorem PtA.keepT {H H' : Hp} (k : Tk H H') : ∀ (ds : List PyData) (xs : List V), noLs ds = true → PtA H ds xs → PtA H' ds xs
  | [], _, _, h => h
  | d :: ds, xs, n, h => by
    obtain ⟨v, vs, e, h1, h2⟩ := ptA_cons.mp h
    simp only [noLs, Bool.and_eq_true] at n
    exact ptA_cons.mpr ⟨v, vs, e, Pt.keepT k d v n.1 h1, PtA.keepT k ds vs n.2 h2⟩
end
mutual
theorem Pt.dp {K : PySem.W.Frag} {H : Hp} : ∀ (d : PyData) (v : V), Pt H d v → Dp K H v d
  | .none, _, h => by cases pt_non.mp h; exact .non
  | .bool _, _, h => by cases pt_bl.mp h; exact .bl _
  | .int _, _, h => by cases pt_int.mp h; exact .int _
  | .str _, _, h => by cases pt_str.mp h; exact .str _
  | .tuple ds, v, h => by
    obtain ⟨a, xs, e, ha, hx⟩ := pt_tup.mp h
    subst e
    exact .tup (SqT.of ha) (PtA.dp ds xs hx)
  | .list ds, v, h => by
    obtain ⟨a, xs, e, ha, hx⟩ := pt_lst.mp h
    subst e
    exact .lst (SqL.of ha) (PtA.dp ds xs hx)
  | .dict _, _, h => by simp only [Pt] at h
theorem PtA.dp {K : PySem.W.Frag} {H : Hp} : ∀ (ds : List PyData) (xs : List V), PtA H ds xs → DpAll K H xs ds
  | [], _, h => by cases ptA_nil.mp h; exact .nil
  | d :: ds, xs, h => by
    obtain ⟨v, vs, e, h1, h2⟩ := ptA_cons.mp h
    subst e
    exact .cons (Pt.dp d v h1) (PtA.dp ds vs h2)
end
mutual
theorem Pt.plain {H : Hp} : ∀ (d : PyData) (v : V), Pt H d v → d.plain = true
  | .none, _, _ => rfl
  | .bool _, _, _ => rfl
  | .int _, _, _ => rfl
  | .str _, _, _ => rfl
  | .tuple ds, v, h => by
    obtain ⟨a, xs, e, ha, hx⟩ := pt_tup.mp h
    simp only [PyData.plain]
    exact PtA.plain ds xs hx
  | .list ds, v, h => by
    obtain ⟨a, xs, e, ha, hx⟩ := pt_lst.mp h
    simp only [PyData.plain]
    exact PtA.plain ds xs hx
  | .dict _, _, h => by simp only [Pt] at h
theorem PtA.plain {H : Hp} : ∀ (ds : List PyData) (xs : List V), PtA H ds xs → PyData.plainAll ds = true
  | [], _, _ => rfl
  | d :: ds, xs, h => by
    obtain ⟨v, vs, e, h1, h2⟩ := ptA_cons.mp h
    simp only [PyData.plainAll, Pt.plain d v h1, PtA.plain ds vs h2, Bool.and_self]
end
theorem PtA.length {H : Hp} : ∀ {ds : List PyData} {xs : List V}, PtA H ds xs → xs.length = ds.length
  | [], _, h => by cases ptA_nil.mp h; rfl
  | d :: ds, xs, h => by
    obtain ⟨v, vs, e, h1, h2⟩ := ptA_cons.mp h
    subst e
    rw [List.length_cons, List.length_cons, PtA.length h2]
theorem PtA.get {H : Hp} : ∀ {ds : List PyData} {xs : List V} {i : Nat} {v : V}, PtA H ds xs → xs[i]? = some v → ∃ d, ds[i]? = some d ∧ Pt H d v
  | [], _, i, v, h, e => by cases ptA_nil.mp h; simp at e
  | d :: ds, xs, i, v, h, e => by
    obtain ⟨w, vs, q, h1, h2⟩ := ptA_cons.mp h
    subst q
    cases i with
    | zero => simp only [List.getElem?_cons_zero, Option.some.injEq] at e; subst e; exact ⟨d, rfl, h1⟩
    | succ i =>
      rw [List.getElem?_cons_succ] at e
      obtain ⟨d', e', h'⟩ := PtA.get h2 e
      exact ⟨d', by rw [List.getElem?_cons_succ]; exact e', h'⟩
theorem PtA.at {H : Hp} : ∀ {ds : List PyData} {xs : List V} {i : Nat} {d : PyData}, PtA H ds xs → ds[i]? = some d → ∃ v, xs[i]? = some v ∧ Pt H d v
  | [], _, i, d, h, e => by simp at e
  | d :: ds, xs, i, d', h, e => by
    obtain ⟨w, vs, q, h1, h2⟩ := ptA_cons.mp h
    subst q
    cases i with
    | zero => simp only [List.getElem?_cons_zero, Option.some.injEq] at e; subst e; exact ⟨w, rfl, h1⟩
    | succ i =>
      rw [List.getElem?_cons_succ] at e
      obtain ⟨v', e', h'⟩ := PtA.at h2 e
      exact ⟨v', by rw [List.getElem?_cons_succ]; exact e', h'⟩
theorem PtA.append {H : Hp} : ∀ {ds es : List PyData} {xs ys : List V}, PtA H ds xs → PtA H es ys → PtA H (ds ++ es) (xs ++ ys)
  | [], _, _, _, h, k => by cases ptA_nil.mp h; exact k
  | d :: ds, es, xs, ys, h, k => by
    obtain ⟨v, vs, e, h1, h2⟩ := ptA_cons.mp h
    subst e
    exact ptA_cons.mpr ⟨v, vs ++ ys, rfl, h1, h2.append k⟩
theorem PtA.one {H : Hp} {d : PyData} {v : V} (h : Pt H d v) : PtA H [d] [v] := ptA_cons.mpr ⟨v, [], rfl, h, ptA_nil.mpr rfl⟩
theorem PtA.cons {H : Hp} {d : PyData} {v : V} {ds : List PyData} {vs : List V} (h : Pt H d v) (k : PtA H ds vs) : PtA H (d :: ds) (v :: vs) := ptA_cons.mpr ⟨v, vs, rfl, h, k⟩
theorem PtA.nil {H : Hp} : PtA H [] [] := ptA_nil.mpr rfl
theorem PtA.snoc {H : Hp} {ds : List PyData} {xs : List V} {d : PyData} {v : V} (h : PtA H ds xs) (k : Pt H d v) : PtA H (ds ++ [d]) (xs ++ [v]) := h.append (.one k)
theorem PtA.drop {H : Hp} : ∀ {ds : List PyData} {xs : List V} (n : Nat), PtA H ds xs → PtA H (ds.drop n) (xs.drop n)
  | ds, xs, 0, h => h
  | [], xs, n + 1, h => by cases ptA_nil.mp h; exact .nil
  | d :: ds, xs, n + 1, h => by
    obtain ⟨v, vs, e, h1, h2⟩ := ptA_cons.mp h
    subst e
    exact h2.drop n
theorem PtA.take {H : Hp} : ∀ {ds : List PyData} {xs : List V} (n : Nat), PtA H ds xs → PtA H (ds.take n) (xs.take n)
  | ds, xs, 0, h => .nil
  | [], xs, n + 1, h => by cases ptA_nil.mp h; exact .nil
  | d :: ds, xs, n + 1, h => by
    obtain ⟨v, vs, e, h1, h2⟩ := ptA_cons.mp h
    subst e
    exact .cons h1 (h2.take n)
theorem PtA.ints {H : Hp} : ∀ (ns : List Int), PtA H (ns.map PyData.int) (ns.map V.int)
  | [] => .nil
  | n :: ns => .cons (pt_int.mpr rfl) (PtA.ints ns)
theorem PtA.intsV {H : Hp} : ∀ {ns : List Int} {xs : List V}, PtA H (ns.map PyData.int) xs → xs = ns.map V.int
  | [], _, h => ptA_nil.mp h
  | n :: ns, xs, h => by
    obtain ⟨v, vs, e, h1, h2⟩ := ptA_cons.mp h
    subst e
    rw [pt_int.mp h1, PtA.intsV h2]
    rfl
theorem PtA.set {H : Hp} : ∀ {ds : List PyData} {xs : List V} {d : PyData} {v : V} (n : Nat), PtA H ds xs → Pt H d v → PtA H (ds.set n d) (xs.set n v)
  | [], xs, d, v, n, h, k => by cases ptA_nil.mp h; exact .nil
  | d :: ds, xs, d', v', n, h, k => by
    obtain ⟨v, vs, e, h1, h2⟩ := ptA_cons.mp h
    subst e
    cases n with
    | zero => exact .cons k h2
    | succ n => exact .cons h1 (h2.set n k)
theorem PtA.reverse {H : Hp} : ∀ {ds : List PyData} {xs : List V}, PtA H ds xs → PtA H ds.reverse xs.reverse
  | [], _, h => by cases ptA_nil.mp h; exact .nil
  | d :: ds, xs, h => by
    obtain ⟨v, vs, e, h1, h2⟩ := ptA_cons.mp h
    subst e
    rw [List.reverse_cons, List.reverse_cons]
    exact h2.reverse.snoc h1
theorem PtA.eraseIdx {H : Hp} : ∀ {ds : List PyData} {xs : List V} (n : Nat), PtA H ds xs → PtA H (ds.eraseIdx n) (xs.eraseIdx n)
  | [], xs, n, h => by cases ptA_nil.mp h; exact .nil
  | d :: ds, xs, n, h => by
    obtain ⟨v, vs, e, h1, h2⟩ := ptA_cons.mp h
    subst e
    cases n with
    | zero => exact h2
    | succ n => exact .cons h1 (h2.eraseIdx n)
theorem ptA1 {H : Hp} {d : PyData} {xs : List V} (h : PtA H [d] xs) : ∃ v, xs = [v] ∧ Pt H d v := by
  obtain ⟨v, vs, rfl, p, q⟩ := ptA_cons.mp h
  cases ptA_nil.mp q
  exact ⟨v, rfl, p⟩
theorem ptA2 {H : Hp} {d1 d2 : PyData} {xs : List V} (h : PtA H [d1, d2] xs) : ∃ v1 v2, xs = [v1, v2] ∧ Pt H d1 v1 ∧ Pt H d2 v2 := by
  obtain ⟨v, vs, rfl, p, q⟩ := ptA_cons.mp h
  obtain ⟨w, rfl, q2⟩ := ptA1 q
  exact ⟨v, w, rfl, p, q2⟩
theorem ptA3 {H : Hp} {d1 d2 d3 : PyData} {xs : List V} (h : PtA H [d1, d2, d3] xs) : ∃ v1 v2 v3, xs = [v1, v2, v3] ∧ Pt H d1 v1 ∧ Pt H d2 v2 ∧ Pt H d3 v3 := by
  obtain ⟨v, vs, rfl, p, q⟩ := ptA_cons.mp h
  obtain ⟨w, w2, rfl, q2⟩ := ptA2 q
  exact ⟨v, w, w2, rfl, p, q2⟩
theorem ptA4 {H : Hp} {d1 d2 d3 d4 : PyData} {xs : List V} (h : PtA H [d1, d2, d3, d4] xs) : ∃ v1 v2 v3 v4, xs = [v1, v2, v3, v4] ∧ Pt H d1 v1 ∧ Pt H d2 v2 ∧ Pt H d3 v3 ∧ Pt H d4 v4 := by
  obtain ⟨v, vs, rfl, p, q⟩ := ptA_cons.mp h
  obtain ⟨w, w2, w3, rfl, q2⟩ := ptA3 q
  exact ⟨v, w, w2, w3, rfl, p, q2⟩
theorem ptA5 {H : Hp} {d1 d2 d3 d4 d5 : PyData} {xs : List V} (h : PtA H [d1, d2, d3, d4, d5] xs) : ∃ v1 v2 v3 v4 v5, xs = [v1, v2, v3, v4, v5] ∧ Pt H d1 v1 ∧ Pt H d2 v2 ∧ Pt H d3 v3 ∧ Pt H d4 v4 ∧ Pt H d5 v5 := by
  obtain ⟨v, vs, rfl, p, q⟩ := ptA_cons.mp h
  obtain ⟨w, w2, w3, w4, rfl, q2⟩ := ptA4 q
  exact ⟨v, w, w2, w3, w4, rfl, p, q2⟩
theorem ptA6 {H : Hp} {d1 d2 d3 d4 d5 d6 : PyData} {xs : List V} (h : PtA H [d1, d2, d3, d4, d5, d6] xs) : ∃ v1 v2 v3 v4 v5 v6, xs = [v1, v2, v3, v4, v5, v6] ∧ Pt H d1 v1 ∧ Pt H d2 v2 ∧ Pt H d3 v3 ∧ Pt H d4 v4 ∧ Pt H d5 v5 ∧ Pt H d6 v6 := by
  obtain ⟨v, vs, rfl, p, q⟩ := ptA_cons.mp h
  obtain ⟨w, w2, w3, w4, w5, rfl, q2⟩ := ptA5 q
  exact ⟨v, w, w2, w3, w4, w5, rfl, p, q2⟩
/-- a tuple of two, of three -/
theorem pt_2 {H : Hp} {d e : PyData} {v : V} : Pt H (.tuple [d, e]) v ↔ ∃ a x y, v = .ref a ∧ H a = some (.tup [x, y]) ∧ Pt H d x ∧ Pt H e y := by
  constructor
  · intro h
    obtain ⟨a, xs, e, ha, hx⟩ := pt_tup.mp h
    obtain ⟨x, xs, q, h1, hx⟩ := ptA_cons.mp hx
    obtain ⟨y, xs, q2, h2, hx⟩ := ptA_cons.mp hx
    cases ptA_nil.mp hx
    subst q2
    subst q
    exact ⟨a, x, y, e, ha, h1, h2⟩
  · rintro ⟨a, x, y, e, ha, h1, h2⟩
    exact pt_tup.mpr ⟨a, _, e, ha, .cons h1 (.one h2)⟩
theorem pt_3 {H : Hp} {d e f : PyData} {v : V} : Pt H (.tuple [d, e, f]) v ↔ ∃ a x y z, v = .ref a ∧ H a = some (.tup [x, y, z]) ∧ Pt H d x ∧ Pt H e y ∧ Pt H f z := by
  constructor
  · intro h
    obtain ⟨a, xs, e, ha, hx⟩ := pt_tup.mp h
    obtain ⟨x, xs, q, h1, hx⟩ := ptA_cons.mp hx
    obtain ⟨y, xs, q2, h2, hx⟩ := ptA_cons.mp hx
    obtain ⟨z, xs, q3, h3, hx⟩ := ptA_cons.mp hx
    cases ptA_nil.mp hx
    subst q3
    subst q2
    subst q
    exact ⟨a, x, y, z, e, ha, h1, h2, h3⟩
  · rintro ⟨a, x, y, z, e, ha, h1, h2, h3⟩
    exact pt_tup.mpr ⟨a, _, e, ha, .cons h1 (.cons h2 (.one h3))⟩

/-! ### == of data, whatever signs its texts have -/
def rEqP (K : PySem.W.Frag) : R2 := fun x y H Q => ∃ d e, Dp K H x d ∧ Dp K H y e ∧ d.plain = true ∧ e.plain = true ∧ d.depth ≤ 64 ∧ Q (.bl (PyData.eqv d e)) H
def rNeP (K : PySem.W.Frag) : R2 := fun x y H Q => ∃ d e, Dp K H x d ∧ Dp K H y e ∧ d.plain = true ∧ e.plain = true ∧ d.depth ≤ 64 ∧ Q (.bl (!PyData.eqv d e)) H
section
variable {X : Cx}
theorem op_eqP (hu : X.A.units + 64 < cLine) : OpR X (compareOp .Eq) (rEqP X.K) := by
  intro pins s σ H x y v u Q I rx ry h
  obtain ⟨d, e, hd, he, sd, se, dd, q⟩ := h
  obtain ⟨as, r1⟩ := Dp.reads I d x v hd rx
  obtain ⟨bs, r2⟩ := Dp.reads I e y u he ry
  have hm : min d.depth e.depth ≤ d.depth := Nat.min_le_left _ _
  exact SeqAt.eq_plain r1 r2 sd se (by omega) ⟨.bl _, H, I, rfl, q⟩
theorem op_neP (hu : X.A.units + 64 < cLine) : OpR X (compareOp .NotEq) (rNeP X.K) := by
  intro pins s σ H x y v u Q I rx ry h
  obtain ⟨d, e, hd, he, sd, se, dd, q⟩ := h
  obtain ⟨as, r1⟩ := Dp.reads I d x v hd rx
  obtain ⟨bs, r2⟩ := Dp.reads I e y u he ry
  have hm : min d.depth e.depth ≤ d.depth := Nat.min_le_left _ _
  exact SeqAt.ne_plain r1 r2 sd se (by omega) ⟨.bl _, H, I, rfl, q⟩
end
end Ro
namespace Ro
open PySem PySem.Spec PyProof.Rows L2
variable [TabsC]

/-! ### what a reading gives, whatever stands besides -/
def EvD (te : TE) (σ : L2.St) (H : Hp) (d : PyData) : Prop := ∀ H1, Same H H1 → ∀ Q : VK, (∀ v H2, Same H1 H2 → Pt H2 d v → Q v H2) → te σ H1 Q
def EvV (te : TE) (σ : L2.St) (H : Hp) (v : V) : Prop := ∀ H1, Same H H1 → ∀ Q : VK, (∀ H2, Same H1 H2 → Q v H2) → te σ H1 Q
/-- a new list -/
def EvN (te : TE) (σ : L2.St) (H : Hp) (ds : List PyData) : Prop := ∀ H1, Same H H1 → ∀ Q : VK, (∀ p xs H2, H1 p = none → Same H1 H2 → H2 p = some (.lst xs) → PtA H2 ds xs → Q (.ref p) H2) → te σ H1 Q
def EvB (tt : TT) (σ : L2.St) (H : Hp) (b : Bool) : Prop := ∀ H1, Same H H1 → ∀ Q : Bool → Hp → Prop, (∀ H2, Same H1 H2 → Q b H2) → tt σ H1 Q
def EvA (ta : TA) (σ : L2.St) (H : Hp) (ds : List PyData) : Prop := ∀ H1, Same H H1 → ∀ Q : List V → Hp → Prop, (∀ vs H2, Same H1 H2 → PtA H2 ds vs → Q vs H2) → ta σ H1 Q
def EvO (to : TO) (σ : L2.St) (H : Hp) (o : Option Int) : Prop := ∀ H1, Same H H1 → ∀ Q : Option Int → Hp → Prop, (∀ H2, Same H1 H2 → Q o H2) → to σ H1 Q
/-- an operation, a call, on data -/
def RD (r : R2) (d e z : PyData) : Prop := ∀ (H : Hp) (x y : V) (Q : VK), Pt H d x → Pt H e y → (∀ v H2, Same H H2 → Pt H2 z v → Q v H2) → r x y H Q
def RCD (r : List V → Hp → VK → Prop) (ds : List PyData) (z : PyData) : Prop := ∀ (H : Hp) (xs : List V) (Q : VK), PtA H ds xs → (∀ v H2, Same H H2 → Pt H2 z v → Q v H2) → r xs H Q
/-- .. a new list -/
def RCN (r : List V → Hp → VK → Prop) (ds zs : List PyData) : Prop := ∀ (H : Hp) (xs : List V) (Q : VK), PtA H ds xs → (∀ p ys H2, H p = none → Same H H2 → H2 p = some (.lst ys) → PtA H2 zs ys → Q (.ref p) H2) → r xs H Q
section
variable {K : PySem.W.Frag} {σ : L2.St} {H H' : Hp} {ta tb tc te : TE} {t u : TT} {d e f z : PyData} {ds es zs : List PyData} {r r' : R2} {i j : Int} {b c : Bool} {v : V}
theorem EvD.mono (k : Same H H') (h : EvD te σ H d) : EvD te σ H' d := fun H1 a Q q => h H1 (k.trans a) Q q
theorem EvV.mono (k : Same H H') (h : EvV te σ H v) : EvV te σ H' v := fun H1 a Q q => h H1 (k.trans a) Q q
theorem EvN.mono (k : Same H H') (h : EvN te σ H ds) : EvN te σ H' ds := fun H1 a Q q => h H1 (k.trans a) Q q
theorem EvB.mono (k : Same H H') (h : EvB t σ H b) : EvB t σ H' b := fun H1 a Q q => h H1 (k.trans a) Q q
theorem EvN.dd (h : EvN te σ H ds) : EvD te σ H (.list ds) := fun H1 a Q q => h H1 a Q fun p xs H2 _ k hp hx => q _ H2 k (pt_lst.mpr ⟨p, xs, rfl, hp, hx⟩)
theorem EvD.toV (h : EvD te σ H d) (e : ∀ H2 w, Pt H2 d w → w = v) : EvV te σ H v := fun H1 a Q q => h H1 a Q fun w H2 k p => by rw [e H2 w p]; exact q H2 k
theorem EvD.toI (h : EvD te σ H (.int i)) : EvV te σ H (.int i) := h.toV fun _ _ p => pt_int.mp p
theorem EvD.toB (h : EvD te σ H (.bool b)) : EvV te σ H (.bl b) := h.toV fun _ _ p => pt_bl.mp p
theorem EvV.toD (h : EvV te σ H v) (p : Pt H d v) : EvD te σ H d := fun H1 a Q q => h H1 a Q fun H2 k => q v H2 k (p.keep (a.trans k))
theorem EvD.to (h : EvD te σ H d) (x : d = e) : EvD te σ H e := x ▸ h
theorem EvB.to (h : EvB t σ H b) (x : b = c) : EvB t σ H c := x ▸ h

theorem ed_var {n : Nat} (h : σ[n]? = some (some v)) (p : Pt H d v) : EvD (tVar n) σ H d := fun H1 a _ q => ⟨v, h, q v H1 (Same.refl H1) (p.keep a)⟩
theorem ev_var {n : Nat} (h : σ[n]? = some (some v)) : EvV (tVar n) σ H v := fun H1 _ _ q => ⟨v, h, q H1 (Same.refl H1)⟩
theorem ev_c : EvV (tC v) σ H v := fun H1 _ _ q => q H1 (Same.refl H1)
theorem ed_int : EvD (tC (.int i)) σ H (.int i) := fun H1 _ _ q => q _ H1 (Same.refl H1) (pt_int.mpr rfl)
theorem ed_str {x : Str} : EvD (tC (.str x)) σ H (.str x) := fun H1 _ _ q => q _ H1 (Same.refl H1) (pt_str.mpr rfl)
theorem ed_bl : EvD (tC (.bl b)) σ H (.bool b) := fun H1 _ _ q => q _ H1 (Same.refl H1) (pt_bl.mpr rfl)
theorem ed_non : EvD (tC .non) σ H .none := fun H1 _ _ q => q _ H1 (Same.refl H1) (pt_non.mpr rfl)
theorem ed_op (ha : EvD ta σ H d) (hb : EvD tb σ H e) (hr : RD r d e z) : EvD (tOp r ta tb) σ H z := fun H1 a Q q =>
  ha H1 a _ fun x H2 k p => hb H2 (a.trans k) _ fun y H3 k3 p3 => hr H3 x y Q (p.keep k3) p3 fun v H4 k4 p4 => q v H4 ((k.trans k3).trans k4) p4
theorem ed_un {r : V → Hp → VK → Prop} (ha : EvD ta σ H d) (hr : ∀ H x Q, Pt H d x → (∀ v H2, Same H H2 → Pt H2 z v → Q v H2) → r x H Q) : EvD (tUn r ta) σ H z := fun H1 a Q q =>
  ha H1 a _ fun x H2 k p => hr H2 x Q p fun v H3 k3 p3 => q v H3 (k.trans k3) p3
/-- one side a known value -/
theorem ed_opV {y : V} (ha : EvD ta σ H d) (hb : EvV tb σ H y) (hr : ∀ (H' : Hp) (x : V) (Q : VK), Same H H' → Pt H' d x → (∀ v H2, Same H' H2 → Pt H2 z v → Q v H2) → r x y H' Q) : EvD (tOp r ta tb) σ H z := fun H1 a Q q =>
  ha H1 a _ fun x H2 k p => hb H2 (a.trans k) _ fun H3 k3 => hr H3 x Q ((a.trans k).trans k3) (p.keep k3) fun v H4 k4 p4 => q v H4 ((k.trans k3).trans k4) p4
theorem ed_opW {x : V} (ha : EvV ta σ H x) (hb : EvD tb σ H d) (hr : ∀ (H' : Hp) (y : V) (Q : VK), Same H H' → Pt H' d y → (∀ v H2, Same H' H2 → Pt H2 z v → Q v H2) → r x y H' Q) : EvD (tOp r ta tb) σ H z := fun H1 a Q q =>
  ha H1 a _ fun H2 k => hb H2 (a.trans k) _ fun y H3 k3 p => hr H3 y Q ((a.trans k).trans k3) p fun v H4 k4 p4 => q v H4 ((k.trans k3).trans k4) p4
theorem rd_ii {g : Int → Int → Int} : RD (rI0 fun i j => .int (g i j)) (.int i) (.int j) (.int (g i j)) := fun H x y Q p p' q => ⟨i, j, pt_int.mp p, pt_int.mp p', q _ H (Same.refl H) (pt_int.mpr rfl)⟩
theorem rd_ib {g : Int → Int → Bool} : RD (rI0 fun i j => .bl (g i j)) (.int i) (.int j) (.bool (g i j)) := fun H x y Q p p' q => ⟨i, j, pt_int.mp p, pt_int.mp p', q _ H (Same.refl H) (pt_bl.mpr rfl)⟩
theorem rd_ci {C : Int → Int → Prop} {g : Int → Int → Int} (hc : C i j) : RD (rI C fun i j => .int (g i j)) (.int i) (.int j) (.int (g i j)) := fun H x y Q p p' q => ⟨i, j, pt_int.mp p, pt_int.mp p', hc, q _ H (Same.refl H) (pt_int.mpr rfl)⟩
theorem rd_eqI : RD rEq (.int i) (.int j) (.bool (decide (i = j))) := fun H x y Q p p' q => by
  cases pt_int.mp p
  cases pt_int.mp p'
  refine ⟨rfl, q _ H (Same.refl H) (pt_bl.mpr ?_)⟩
  simp
theorem rd_neI : RD rNe (.int i) (.int j) (.bool (!decide (i = j))) := fun H x y Q p p' q => by
  cases pt_int.mp p
  cases pt_int.mp p'
  refine ⟨rfl, q _ H (Same.refl H) (pt_bl.mpr ?_)⟩
  simp
theorem rd_eqS {x y : Str} : RD rEq (.str x) (.str y) (.bool (decide (x = y))) := fun H _ _ Q p p' q => by
  cases pt_str.mp p
  cases pt_str.mp p'
  refine ⟨rfl, q _ H (Same.refl H) (pt_bl.mpr ?_)⟩
  simp
theorem rd_eqP (hd : d.depth ≤ 64) : RD (rEqP K) d e (.bool (PyData.eqv d e)) := fun H x y Q p p' q => ⟨d, e, p.dp, p'.dp, p.plain, p'.plain, hd, q _ H (Same.refl H) (pt_bl.mpr rfl)⟩
theorem rd_neP (hd : d.depth ≤ 64) : RD (rNeP K) d e (.bool (!PyData.eqv d e)) := fun H x y Q p p' q => ⟨d, e, p.dp, p'.dp, p.plain, p'.plain, hd, q _ H (Same.refl H) (pt_bl.mpr rfl)⟩
theorem PtA.atI {xs : List V} (h : PtA H ds xs) (hi : L2.atI ds i = some d) : ∃ v, L2.atI xs i = some v ∧ Pt H d v := by
  unfold L2.atI at hi ⊢
  rw [h.length]
  cases e : L2.ixN ds.length i with
  | none => rw [e] at hi; cases hi
  | some j =>
    rw [e] at hi
    exact h.at hi
theorem rd_ixT (hi : L2.atI ds i = some d) : RD (rIxT K) (.tuple ds) (.int i) d := fun H x y Q p p' q => by
  obtain ⟨a, xs, rfl, ha, hx⟩ := pt_tup.mp p
  obtain ⟨v, hv, pv⟩ := hx.atI hi
  exact ⟨a, xs, i, v, rfl, pt_int.mp p', SqT.of ha, hv, q v H (Same.refl H) pv⟩
theorem rd_ixL (hi : L2.atI ds i = some d) : RD (rIxL K) (.list ds) (.int i) d := fun H x y Q p p' q => by
  obtain ⟨a, xs, rfl, ha, hx⟩ := pt_lst.mp p
  obtain ⟨v, hv, pv⟩ := hx.atI hi
  exact ⟨a, xs, i, v, rfl, pt_int.mp p', SqL.of ha, hv, q v H (Same.refl H) pv⟩
theorem rd_ixS {x : Str} {n : Nat} (hz : x.length ≤ sizeLine) (hi : L2.atI x.cps.toList i = some n) : RD rIxS (.str x) (.int i) (.str ⟨#[n]⟩) := fun H _ _ Q p p' q => ⟨x, i, n, pt_str.mp p, pt_int.mp p', hz, hi, q _ H (Same.refl H) (pt_str.mpr rfl)⟩
/-- slices -/
theorem eo_none : EvO tNoPart σ H none := fun H1 _ _ q => q H1 (Same.refl H1)
theorem eo_some (h : EvD te σ H (.int i)) : EvO (tPart te) σ H (some i) := fun H1 a _ q => h H1 a _ fun v H2 k p => ⟨i, pt_int.mp p, q H2 k⟩
def cutD (ds : List PyData) (lo hi : Option Int) : List PyData := (ds.drop (HT.sIx ds.length 0 lo)).take (HT.sIx ds.length ds.length hi - HT.sIx ds.length 0 lo)
theorem PtA.cut {xs : List V} (h : PtA H ds xs) (lo hi : Option Int) : PtA H (cutD ds lo hi) (cutV xs lo hi) := by
  unfold cutD cutV
  rw [h.length]
  exact (h.drop _).take _
theorem ed_slA {tl th : TO} {lo hi : Option Int} (h : EvD te σ H (.tuple ds)) (hl : EvO tl σ H lo) (hu : EvO th σ H hi) : EvD (tSl (rSlA K) te tl th) σ H (.tuple (cutD ds lo hi)) := fun H1 a Q q =>
  h H1 a _ fun x H2 k p => hl H2 (a.trans k) _ fun H3 k3 => hu H3 ((a.trans k).trans k3) _ fun H4 k4 => by
    obtain ⟨a', xs, rfl, ha, hx⟩ := pt_tup.mp p
    have kk := k3.trans k4
    have ha4 := kk _ _ ha
    have hx4 := PtA.keep kk _ _ hx
    refine ⟨a', xs, rfl, SqT.of ha4, fun w => ?_, fun w p hp => ?_⟩
    · refine q _ H4 (k.trans kk) (pt_tup.mpr ⟨a', xs, rfl, ha4, ?_⟩)
      have e : cutV xs lo hi = xs := by
        unfold cutV
        rw [w.1, w.2]
        simp
      have := hx4.cut lo hi
      rw [e] at this
      exact this
    · exact q _ _ ((k.trans kk).trans (same_new hp)) (pt_tup.mpr ⟨p, _, rfl, upd_same, PtA.keep (same_new hp) _ _ (hx4.cut lo hi)⟩)
theorem en_slL {tl th : TO} {lo hi : Option Int} (h : EvD te σ H (.list ds)) (hl : EvO tl σ H lo) (hu : EvO th σ H hi) : EvN (tSl (rSlL K) te tl th) σ H (cutD ds lo hi) := fun H1 a Q q =>
  h H1 a _ fun x H2 k p => hl H2 (a.trans k) _ fun H3 k3 => hu H3 ((a.trans k).trans k3) _ fun H4 k4 => by
    obtain ⟨a', xs, rfl, ha, hx⟩ := pt_lst.mp p
    have kk := k3.trans k4
    have ha4 := kk _ _ ha
    have hx4 := PtA.keep kk _ _ hx
    refine ⟨a', xs, rfl, SqL.of ha4, fun p hp => ?_⟩
    exact q p _ _ ((k.trans kk).free hp) ((k.trans kk).trans (same_new hp)) upd_same (PtA.keep (same_new hp) _ _ (hx4.cut lo hi))
/-- a op b op c -/
theorem ed_chain (ha : EvD ta σ H d) (hb : EvD tb σ H e) (hc : b = true → EvD tc σ H f) (hr : RD r d e (.bool b)) (hr' : b = true → RD r' e f (.bool c)) : EvD (tChain r r' ta tb tc) σ H (.bool (b && c)) := fun H1 a Q q =>
  ha H1 a _ fun x H2 k p => hb H2 (a.trans k) _ fun y H3 k3 p3 => hr H3 x y _ (p.keep k3) p3 fun v H4 k4 p4 => by
    refine ⟨b, pt_bl.mp p4, ?_⟩
    cases b with
    | false => exact q _ H4 ((k.trans k3).trans k4) (pt_bl.mpr rfl)
    | true => exact hc rfl H4 (((a.trans k).trans k3).trans k4) _ fun w H5 k5 p5 => hr' rfl H5 y w Q ((p3.keep k4).keep k5) p5 fun v6 H6 k6 p6 => q v6 H6 ((((k.trans k3).trans k4).trans k5).trans k6) p6
/-- and, or, not, if as values -/
theorem ed_andV (h1 : EvD ta σ H (.bool b)) (h2 : b = true → EvD tb σ H (.bool c)) : EvD (tAndV ta tb) σ H (.bool (b && c)) := fun H1 a Q q => h1 H1 a _ fun x H2 k p => ⟨b, pt_bl.mp p, by
  cases b with
  | true => exact h2 rfl H2 (a.trans k) Q fun v H3 k3 p3 => q v H3 (k.trans k3) p3
  | false => exact q _ H2 k (pt_bl.mpr rfl)⟩
theorem ed_orV (h1 : EvD ta σ H (.bool b)) (h2 : b = false → EvD tb σ H (.bool c)) : EvD (tOrV ta tb) σ H (.bool (b || c)) := fun H1 a Q q => h1 H1 a _ fun x H2 k p => ⟨b, pt_bl.mp p, by
  cases b with
  | false => exact h2 rfl H2 (a.trans k) Q fun v H3 k3 p3 => q v H3 (k.trans k3) p3
  | true => exact q _ H2 k (pt_bl.mpr rfl)⟩
theorem ed_notV (h1 : EvD ta σ H (.bool b)) : EvD (tNotV ta) σ H (.bool (!b)) := fun H1 a Q q => h1 H1 a _ fun x H2 k p => ⟨b, pt_bl.mp p, q _ H2 k (pt_bl.mpr rfl)⟩
theorem ed_if (h : EvB t σ H b) (h1 : b = true → EvD ta σ H d) (h2 : b = false → EvD tb σ H d) : EvD (tIf t ta tb) σ H d := fun H1 a Q q => h H1 a _ fun H2 k => by
  cases b with
  | true => exact h1 rfl H2 (a.trans k) Q fun v H3 k3 p3 => q v H3 (k.trans k3) p3
  | false => exact h2 rfl H2 (a.trans k) Q fun v H3 k3 p3 => q v H3 (k.trans k3) p3
/-- tests -/
theorem eb_B (h : EvD te σ H (.bool b)) : EvB (tB te) σ H b := fun H1 a Q q => h H1 a _ fun v H2 k p => ⟨b, pt_bl.mp p, q H2 k⟩
theorem eb_T (h : EvD te σ H (.bool b)) : EvB (tTest te) σ H b := fun H1 a Q q => h H1 a _ fun v H2 k p => ⟨b, pt_bl.mp p, q H2 k⟩
theorem eb_BV (h : EvV te σ H (.bl b)) : EvB (tB te) σ H b := fun H1 a Q q => h H1 a _ fun H2 k => ⟨b, rfl, q H2 k⟩
theorem eb_and (h1 : EvB t σ H b) (h2 : b = true → EvB u σ H c) : EvB (tAnd t u) σ H (b && c) := fun H1 a Q q => h1 H1 a _ fun H2 k => by
  cases b with
  | true => exact h2 rfl H2 (a.trans k) Q fun H3 k3 => q H3 (k.trans k3)
  | false => exact q H2 k
theorem eb_or (h1 : EvB t σ H b) (h2 : b = false → EvB u σ H c) : EvB (tOr t u) σ H (b || c) := fun H1 a Q q => h1 H1 a _ fun H2 k => by
  cases b with
  | false => exact h2 rfl H2 (a.trans k) Q fun H3 k3 => q H3 (k.trans k3)
  | true => exact q H2 k
theorem eb_not (h1 : EvB t σ H b) : EvB (tNot t) σ H (!b) := fun H1 a Q q => h1 H1 a _ fun H2 k => q H2 k
theorem eb_isN {b : Bool} (h : EvD te σ H d) (e : ∀ H2 w, Pt H2 d w → decide (w = V.non) = b) : EvB (tTest (tOp rIsN te (tC .non))) σ H b := fun H1 a Q q => h H1 a _ fun v H2 k p => ⟨rfl, ⟨_, rfl, by rw [e H2 v p]; exact q H2 k⟩⟩
theorem eb_notN {b : Bool} (h : EvD te σ H d) (e : ∀ H2 w, Pt H2 d w → (!decide (w = V.non)) = b) : EvB (tTest (tOp rNotN te (tC .non))) σ H b := fun H1 a Q q => h H1 a _ fun v H2 k p => ⟨rfl, ⟨_, rfl, by rw [e H2 v p]; exact q H2 k⟩⟩
/-- argument lists, displays -/
theorem ea_nil : EvA tNil σ H [] := fun H1 _ _ q => q [] H1 (Same.refl H1) .nil
theorem ea_cons {tr : TA} (h : EvD ta σ H d) (hr : EvA tr σ H ds) : EvA (tCons ta tr) σ H (d :: ds) := fun H1 a Q q =>
  h H1 a _ fun v H2 k p => hr H2 (a.trans k) _ fun vs H3 k3 p3 => q _ H3 (k.trans k3) (.cons (p.keep k3) p3)
theorem ea_one (h : EvD ta σ H d) : EvA (tCons ta tNil) σ H [d] := ea_cons h ea_nil
theorem ed_tup {ta : TA} (h : EvA ta σ H ds) (hl : ds.length ≤ sizeLine) : EvD (tTup ta) σ H (.tuple ds) := fun H1 a Q q =>
  h H1 a _ fun vs H2 k p => ⟨by rw [p.length]; exact hl, fun x hx => q _ _ (k.trans (same_new hx)) (pt_tup.mpr ⟨x, vs, rfl, upd_same, PtA.keep (same_new hx) _ _ p⟩)⟩
theorem en_lst {ta : TA} (h : EvA ta σ H ds) (hl : ds.length ≤ sizeLine) : EvN (tLst ta) σ H ds := fun H1 a Q q =>
  h H1 a _ fun vs H2 k p => ⟨by rw [p.length]; exact hl, fun x hx => q x vs _ (k.free hx) (k.trans (same_new hx)) upd_same (PtA.keep (same_new hx) _ _ p)⟩
/-- built-ins -/
theorem ed_cb {r : List V → Hp → VK → Prop} {ta : TA} (h : EvA ta σ H ds) (hr : RCD r ds z) : EvD (tCB r ta) σ H z := fun H1 a Q q =>
  h H1 a _ fun vs H2 k p => hr H2 vs Q p fun v H3 k3 p3 => q v H3 (k.trans k3) p3
theorem en_cb {r : List V → Hp → VK → Prop} {ta : TA} (h : EvA ta σ H ds) (hr : RCN r ds zs) : EvN (tCB r ta) σ H zs := fun H1 a Q q =>
  h H1 a _ fun vs H2 k p => hr H2 vs Q p fun x ys H3 hx k3 e p3 => q x ys H3 (k.free hx) (k.trans k3) e p3
theorem rc_lenT : RCD (fun xs H Q => ∃ p ys, xs = [.ref p] ∧ (SqL K H p ys ∨ SqT K H p ys) ∧ Q (.int ys.length) H) [.tuple ds] (.int ds.length) := fun H xs Q p q => by
  obtain ⟨v, vs, rfl, h1, h2⟩ := ptA_cons.mp p
  cases ptA_nil.mp h2
  obtain ⟨a, ys, rfl, ha, hy⟩ := pt_tup.mp h1
  exact ⟨a, ys, rfl, .inr (SqT.of ha), by rw [hy.length]; exact q _ H (Same.refl H) (pt_int.mpr rfl)⟩
theorem rc_lenL : RCD (fun xs H Q => ∃ p ys, xs = [.ref p] ∧ (SqL K H p ys ∨ SqT K H p ys) ∧ Q (.int ys.length) H) [.list ds] (.int ds.length) := fun H xs Q p q => by
  obtain ⟨v, vs, rfl, h1, h2⟩ := ptA_cons.mp p
  cases ptA_nil.mp h2
  obtain ⟨a, ys, rfl, ha, hy⟩ := pt_lst.mp h1
  exact ⟨a, ys, rfl, .inl (SqL.of ha), by rw [hy.length]; exact q _ H (Same.refl H) (pt_int.mpr rfl)⟩

theorem rc_lenS {x : Str} (hz : x.length ≤ sizeLine) : RCD (fun xs H Q => ∃ z : Str, xs = [.str z] ∧ z.length ≤ sizeLine ∧ Q (.int z.length) H) [.str x] (.int x.length) := fun H xs Q p q => by
  obtain ⟨v, rfl, p1⟩ := ptA1 p
  cases pt_str.mp p1
  exact ⟨x, rfl, hz, q _ H (Same.refl H) (pt_int.mpr rfl)⟩
theorem rd_inSign {c : Nat} {x : Str} : RD (fun a b H Q => ∃ (c : Nat) (z : Str), a = .str ⟨#[c]⟩ ∧ b = .str z ∧ Q (.bl (decide (c ∈ z.cps.toList))) H) (.str ⟨#[c]⟩) (.str x) (.bool (decide (c ∈ x.cps.toList))) := fun H a b Q p p' q => ⟨c, x, pt_str.mp p, pt_str.mp p', q _ H (Same.refl H) (pt_bl.mpr rfl)⟩
/-! ### promises over data -/
/-- data in, data out -/
def SpD (R : List PyData → PyData → Prop) : Sp := fun vs H Q _ => ∃ ds z, PtA H ds vs ∧ R ds z ∧ ∀ v H', Same H H' → Pt H' z v → Q v H'
/-- data in, a new list out -/
def SpN (R : List PyData → List PyData → Prop) : Sp := fun vs H Q _ => ∃ ds zs, PtA H ds vs ∧ R ds zs ∧ ∀ p xs H', H p = none → Same H H' → H' p = some (.lst xs) → PtA H' zs xs → Q (.ref p) H'
theorem ed_call {R : List PyData → PyData → Prop} {E : XK} {ta : TA} (h : EvA ta σ H ds) (r : R ds z) : EvD (tCall (SpD R) [] E ta) σ H z := fun H1 a Q q =>
  h H1 a _ fun vs H2 k p => ⟨ds, z, by rw [List.append_nil]; exact p, r, fun v H3 k3 p3 => q v H3 (k.trans k3) p3⟩
theorem en_call {R : List PyData → List PyData → Prop} {E : XK} {ta : TA} (h : EvA ta σ H ds) (r : R ds zs) : EvN (tCall (SpN R) [] E ta) σ H zs := fun H1 a Q q =>
  h H1 a _ fun vs H2 k p => ⟨ds, zs, by rw [List.append_nil]; exact p, r, fun x xs H3 hx k3 e p3 => q x xs H3 (k.free hx) (k.trans k3) e p3⟩
theorem ed_callD {R : List PyData → PyData → Prop} {E : XK} {ta : TA} {dvs : List V} (h : EvA ta σ H ds) (hd : ∀ H, PtA H es dvs) (r : R (ds ++ es) z) : EvD (tCall (SpD R) dvs E ta) σ H z := fun H1 a Q q =>
  h H1 a _ fun vs H2 k p => ⟨_, z, p.append (hd H2), r, fun v H3 k3 p3 => q v H3 (k.trans k3) p3⟩
theorem en_callD {R : List PyData → List PyData → Prop} {E : XK} {ta : TA} {dvs : List V} (h : EvA ta σ H ds) (hd : ∀ H, PtA H es dvs) (r : R (ds ++ es) zs) : EvN (tCall (SpN R) dvs E ta) σ H zs := fun H1 a Q q =>
  h H1 a _ fun vs H2 k p => ⟨_, zs, p.append (hd H2), r, fun x xs H3 hx k3 e p3 => q x xs H3 (k.free hx) (k.trans k3) e p3⟩

/-! ### statements -/
variable {D : Ends} {tu tw tz : TS} {g : TG}
theorem s_set {n : Nat} (h : EvD te σ H d) (k : ∀ v H1, Same H H1 → Pt H1 d v → D.nx (σ.set n (some v)) H1) : tAsg te (gName n) D σ H := h H (Same.refl H) _ fun v H1 e p => k v H1 e p
theorem s_setV {n : Nat} (h : EvV te σ H v) (k : ∀ H1, Same H H1 → D.nx (σ.set n (some v)) H1) : tAsg te (gName n) D σ H := h H (Same.refl H) _ fun H1 e => k H1 e
theorem s_setN {n : Nat} (h : EvN te σ H ds) (k : ∀ p xs H1, H p = none → Same H H1 → H1 p = some (.lst xs) → PtA H1 ds xs → D.nx (σ.set n (some (.ref p))) H1) : tAsg te (gName n) D σ H := h H (Same.refl H) _ fun p xs H1 hp e hx px => k p xs H1 hp e hx px
theorem q_set {n : Nat} (h : EvD te σ H d) (k : ∀ v H1, Same H H1 → Pt H1 d v → tz D (σ.set n (some v)) H1) : tSeq (tAsg te (gName n)) tz D σ H := s_set (D := { D with nx := tz D }) h k
theorem q_setV {n : Nat} (h : EvV te σ H v) (k : ∀ H1, Same H H1 → tz D (σ.set n (some v)) H1) : tSeq (tAsg te (gName n)) tz D σ H := s_setV (D := { D with nx := tz D }) h k
theorem q_setN {n : Nat} (h : EvN te σ H ds) (k : ∀ p xs H1, H p = none → Same H H1 → H1 p = some (.lst xs) → PtA H1 ds xs → tz D (σ.set n (some (.ref p))) H1) : tSeq (tAsg te (gName n)) tz D σ H := s_setN (D := { D with nx := tz D }) h k
theorem s_ret (h : EvD te σ H d) (k : ∀ v H1, Same H H1 → Pt H1 d v → D.rt v H1) : tRet te D σ H := h H (Same.refl H) _ fun v H1 e p => k v H1 e p
theorem s_retV (h : EvV te σ H v) (k : ∀ H1, Same H H1 → D.rt v H1) : tRet te D σ H := h H (Same.refl H) _ fun H1 e => k H1 e
theorem s_retN (h : EvN te σ H ds) (k : ∀ p xs H1, H p = none → Same H H1 → H1 p = some (.lst xs) → PtA H1 ds xs → D.rt (.ref p) H1) : tRet te D σ H := h H (Same.refl H) _ fun p xs H1 hp e hx px => k p xs H1 hp e hx px
theorem s_if (h : EvB t σ H b) (h1 : b = true → ∀ H1, Same H H1 → tu D σ H1) (h2 : b = false → ∀ H1, Same H H1 → tw D σ H1) : tIfS t tu tw D σ H := h H (Same.refl H) _ fun H1 e => by
  cases b with
  | true => exact h1 rfl H1 e
  | false => exact h2 rfl H1 e
theorem q_if (h : EvB t σ H b) (h1 : b = true → ∀ H1, Same H H1 → tu { D with nx := tz D } σ H1) (h2 : b = false → ∀ H1, Same H H1 → tw { D with nx := tz D } σ H1) : tSeq (tIfS t tu tw) tz D σ H := s_if (D := { D with nx := tz D }) h h1 h2
/-- if t: .. (no else), rest -/
theorem q_when (h : EvB t σ H b) (h1 : b = true → ∀ H1, Same H H1 → tu { D with nx := tz D } σ H1) (h2 : b = false → ∀ H1, Same H H1 → tz D σ H1) : tSeq (tIfS t tu tNext) tz D σ H := q_if h h1 h2
theorem s_when (h : EvB t σ H b) (h1 : b = true → ∀ H1, Same H H1 → tu D σ H1) (h2 : b = false → ∀ H1, Same H H1 → D.nx σ H1) : tIfS t tu tNext D σ H := s_if h h1 h2
theorem q_drop (h : EvD te σ H d) (k : ∀ H1, Same H H1 → tz D σ H1) : tSeq (tDrop te) tz D σ H := h H (Same.refl H) _ fun v H1 e _ => k H1 e
theorem s_drop (h : EvD te σ H d) (k : ∀ H1, Same H H1 → D.nx σ H1) : tDrop te D σ H := h H (Same.refl H) _ fun v H1 e _ => k H1 e
/-- a, b = e -/
theorem s_unp2 {m n : Nat} (h : EvD te σ H (.tuple [d, e])) (k : ∀ x y H1, Same H H1 → Pt H1 d x → Pt H1 e y → D.nx ((σ.set m (some x)).set n (some y)) H1) : tAsg te (gTup K 2 (gCons (gName m) (gCons (gName n) gNil))) D σ H :=
  h H (Same.refl H) _ fun v H1 k1 p => by
    obtain ⟨a, x, y, rfl, ha, px, py⟩ := pt_2.mp p
    exact ⟨a, _, rfl, SqT.of ha, rfl, x, [y], rfl, y, [], rfl, rfl, k x y H1 k1 px py⟩
theorem q_unp2 {m n : Nat} (h : EvD te σ H (.tuple [d, e])) (k : ∀ x y H1, Same H H1 → Pt H1 d x → Pt H1 e y → tz D ((σ.set m (some x)).set n (some y)) H1) : tSeq (tAsg te (gTup K 2 (gCons (gName m) (gCons (gName n) gNil)))) tz D σ H := s_unp2 (D := { D with nx := tz D }) h k
theorem s_unp3 {m n o : Nat} (h : EvD te σ H (.tuple [d, e, f])) (k : ∀ x y w H1, Same H H1 → Pt H1 d x → Pt H1 e y → Pt H1 f w → D.nx (((σ.set m (some x)).set n (some y)).set o (some w)) H1) : tAsg te (gTup K 3 (gCons (gName m) (gCons (gName n) (gCons (gName o) gNil)))) D σ H :=
  h H (Same.refl H) _ fun v H1 k1 p => by
    obtain ⟨a, x, y, w, rfl, ha, px, py, pw⟩ := pt_3.mp p
    exact ⟨a, _, rfl, SqT.of ha, rfl, x, [y, w], rfl, y, [w], rfl, w, [], rfl, rfl, k x y w H1 k1 px py pw⟩
theorem q_unp3 {m n o : Nat} (h : EvD te σ H (.tuple [d, e, f])) (k : ∀ x y w H1, Same H H1 → Pt H1 d x → Pt H1 e y → Pt H1 f w → tz D (((σ.set m (some x)).set n (some y)).set o (some w)) H1) : tSeq (tAsg te (gTup K 3 (gCons (gName m) (gCons (gName n) (gCons (gName o) gNil))))) tz D σ H := s_unp3 (D := { D with nx := tz D }) h k

/-! ### walks over data -/
/-- ds are given, turn by turn, while G stands -/
def WkD (J : It) (ds : List PyData) (G : Hp → Prop) : Prop := Walk J ds.length G (fun i H v H' => Same H H' ∧ ∃ d, ds[i]? = some d ∧ Pt H' d v)
/-- wi walks ds while all stays -/
def EvI (wi : TI) (σ : L2.St) (H : Hp) (ds : List PyData) : Prop := ∀ H1, Same H H1 → ∀ R : It → Hp → Prop, (∀ J H2, Same H1 H2 → WkD J ds (Same H2) → R J H2) → wi σ H1 R
/-- wi walks ds (no lists within) while the tuples stay -/
def EvIT (wi : TI) (σ : L2.St) (H : Hp) (ds : List PyData) : Prop := ∀ H1, Same H H1 → ∀ R : It → Hp → Prop, (∀ J H2, Same H1 H2 → WkD J ds (Tk H2) → R J H2) → wi σ H1 R
theorem wk_list {a : Addr} {xs : List V} (ha : H a = some (.lst xs)) (hx : PtA H ds xs) : WkD (Itl K a) ds (Same H) := by
  have w : Walk (Itl K a) ds.length (fun H' => SqL K H' a xs) (YAt xs) := by rw [← hx.length]; exact walk_list
  refine w.mono (fun H' s => SqL.of (s a _ ha)) fun i H1 v H' hi s y => ?_
  obtain ⟨rfl, e⟩ := y
  obtain ⟨d, hd, p⟩ := hx.get e
  exact ⟨Same.refl _, d, hd, p.keep s⟩
theorem wk_tup {a : Addr} {xs : List V} (ha : H a = some (.tup xs)) (hx : PtA H ds xs) : WkD (Itt K a) ds (Same H) := by
  have w : Walk (Itt K a) ds.length (fun H' => SqT K H' a xs) (YAt xs) := by rw [← hx.length]; exact walk_tup
  refine w.mono (fun H' s => SqT.of (s a _ ha)) fun i H1 v H' hi s y => ?_
  obtain ⟨rfl, e⟩ := y
  obtain ⟨d, hd, p⟩ := hx.get e
  exact ⟨Same.refl _, d, hd, p.keep s⟩
theorem wk_tupT {a : Addr} {xs : List V} (ha : H a = some (.tup xs)) (hx : PtA H ds xs) (hn : noLs ds = true) : WkD (Itt K a) ds (Tk H) := by
  have w : Walk (Itt K a) ds.length (fun H' => SqT K H' a xs) (YAt xs) := by rw [← hx.length]; exact walk_tup
  refine w.mono (fun H' s => SqT.of (s a _ ha)) fun i H1 v H' hi s y => ?_
  obtain ⟨rfl, e⟩ := y
  have hx' := PtA.keepT s _ _ hn hx
  obtain ⟨d, hd, p⟩ := hx'.get e
  exact ⟨Same.refl _, d, hd, p⟩
theorem ei_list (h : EvD te σ H (.list ds)) : EvI (iList K te) σ H ds := fun H1 a R q => h H1 a _ fun v H2 k p => by
  obtain ⟨x, xs, rfl, hx, px⟩ := pt_lst.mp p
  exact ⟨x, rfl, ⟨xs, SqL.of hx⟩, q _ H2 k (wk_list hx px)⟩
theorem ei_tup (h : EvD te σ H (.tuple ds)) : EvI (iTup K te) σ H ds := fun H1 a R q => h H1 a _ fun v H2 k p => by
  obtain ⟨x, xs, rfl, hx, px⟩ := pt_tup.mp p
  exact ⟨x, rfl, ⟨xs, SqT.of hx⟩, q _ H2 k (wk_tup hx px)⟩
theorem ei_tupT (h : EvD te σ H (.tuple ds)) (hn : noLs ds = true) : EvIT (iTup K te) σ H ds := fun H1 a R q => h H1 a _ fun v H2 k p => by
  obtain ⟨x, xs, rfl, hx, px⟩ := pt_tup.mp p
  exact ⟨x, rfl, ⟨xs, SqT.of hx⟩, q _ H2 k (wk_tupT hx px hn)⟩

theorem wk_str {x : Str} : WkD (Its x) (x.cps.toList.map fun c => PyData.str ⟨#[c]⟩) (Same H) := by
  have w : Walk (Its x) (x.cps.toList.map fun c => PyData.str ⟨#[c]⟩).length (fun _ => True) (fun i H v H' => H' = H ∧ ∃ c, x.cps[i]? = some c ∧ v = .str ⟨#[c]⟩) := by
    rw [List.length_map, Array.length_toList]
    exact walk_str
  refine w.mono (fun H' s => True.intro) fun i H1 v H' hi s y => ?_
  obtain ⟨rfl, c, e, rfl⟩ := y
  refine ⟨Same.refl _, .str ⟨#[c]⟩, ?_, pt_str.mpr rfl⟩
  rw [List.getElem?_map, Array.getElem?_toList, e]
  rfl
theorem ei_str {x : Str} (h : EvD te σ H (.str x)) : EvI (iStr te) σ H (x.cps.toList.map fun c => PyData.str ⟨#[c]⟩) := fun H1 a R q => h H1 a _ fun v H2 k p => ⟨x, pt_str.mp p, q _ H2 k wk_str⟩
/-- all of a list of truths -/
theorem rc_all {bs : List Bool} : RCD (rAll K) [.list (bs.map PyData.bool)] (.bool (bs.all id)) := fun H xs Q p q => by
  obtain ⟨v, rfl, p1⟩ := ptA1 p
  obtain ⟨a, ys, rfl, ha, hy⟩ := pt_lst.mp p1
  have e : ys = bs.map V.bl := by
    clear q p p1 ha
    induction bs generalizing ys with
    | nil => exact ptA_nil.mp hy
    | cons b bs ih =>
      obtain ⟨v, vs, rfl, h1, h2⟩ := ptA_cons.mp hy
      rw [pt_bl.mp h1, ih _ h2]
      rfl
  subst e
  exact ⟨a, bs, rfl, SqL.of ha, q _ H (Same.refl H) (pt_bl.mpr rfl)⟩

/-! ### comprehensions over data -/
/-- [te for x in wi if t]: l is walked as enc; p x decides, g x is what comes; the item's slots are set by s -/
theorem en_lc {α : Type} {wi : TI} {gt : TG} {vs : List Nat} (l : List α) (enc : α → PyData) (p : α → Bool) (gv : α → PyData) (hl : l.length ≤ 1000000) (hn : ∀ x ∈ l, p x = true → noL (gv x) = true)
    (hi : EvI wi σ H (l.map enc))
    (hb : ∀ x ∈ l, ∀ (v : V) (H1 : Hp), Same H H1 → Pt H1 (enc x) v → ∃ σ2, (∀ Q : L2.St → Hp → Prop, Q σ2 H1 → gt v (wipe σ vs) H1 Q) ∧ wipe σ2 vs = wipe σ vs ∧ EvB t σ2 H1 (p x) ∧ (p x = true → EvD te σ2 H1 (gv x))) :
    EvN (tLc wi gt t te vs) σ H ((l.filter p).map gv) := fun H1 a Q q => hi H1 a _ fun J H2 k w => by
  intro D hD
  rw [WkD, List.length_map] at w
  refine lc_it w (fun i H' => ∃ xs, Same H2 H' ∧ H' D = some (.lst xs) ∧ PtA H' (((l.take i).filter p).map gv) xs) ⟨[], same_new hD, upd_same, by simp only [List.take_zero, List.filter_nil, List.map_nil]; exact .nil⟩ (fun i H' _ ⟨xs, s, _⟩ => s) (fun i v H' H'' hi ⟨xs, s, hx, px⟩ ⟨s2, d, hd, pd⟩ => ?_) (fun H' ⟨xs, s, hx, px⟩ => ?_)
  · have hgi : l[i]? = some l[i] := List.getElem?_eq_getElem hi
    rw [List.getElem?_map, hgi, Option.map_some, Option.some.injEq] at hd
    subst hd
    have s3 : Same H H'' := ((a.trans k).trans s).trans s2
    obtain ⟨σ2, g1, g2, g3, g4⟩ := hb l[i] (List.getElem_mem hi) v H'' s3 pd
    refine g1 _ ⟨g2, g3 H'' (Same.refl _) _ fun H3 k3 => ?_⟩
    have et : l.take (i + 1) = l.take i ++ [l[i]] := by rw [List.take_add_one, hgi]; rfl
    have hx3 : H3 D = some (.lst xs) := k3 D _ (s2 D _ hx)
    have px3 := PtA.keep (s2.trans k3) _ _ px
    cases hp : p l[i] with
    | true =>
      rw [if_pos rfl]
      refine g4 hp H3 k3 _ fun y H4 k4 py => ⟨xs, k4 D _ hx3, ?_, xs ++ [y], ?_, upd_same, ?_⟩
      · have h1 := px3.length
        have h2 : ((l.take i).filter p).length ≤ (l.take i).length := List.length_filter_le _ _
        rw [List.length_map] at h1
        rw [List.length_take] at h2
        rw [h1, sizeLine_eq]
        omega
      · exact Same.mut (((s.trans s2).trans k3).trans k4) hD (k4 D _ hx3) True.intro
      · rw [et, List.filter_append, List.map_append, List.filter_cons, if_pos hp]
        have n1 : noLs (((l.take i).filter p).map gv) = true := noLs_all fun d hd => by
          obtain ⟨x, hx, rfl⟩ := List.mem_map.mp hd
          obtain ⟨h1, h2⟩ := List.mem_filter.mp hx
          exact hn x (List.mem_of_mem_take h1) h2
        have kt : Tk H4 (upd H4 D (.lst (xs ++ [y]))) := tk_lst (k4 D _ hx3)
        have px4 := PtA.keepT kt _ _ n1 (PtA.keep k4 _ _ px3)
        exact px4.snoc (Pt.keepT kt _ _ (hn _ (List.getElem_mem hi) hp) py)
    | false =>
      rw [if_neg Bool.false_ne_true]
      refine ⟨xs, (s.trans s2).trans k3, hx3, ?_⟩
      rw [et, List.filter_append, List.filter_cons, if_neg (by rw [hp]; exact Bool.false_ne_true)]
      simpa using px3
  · rw [List.take_of_length_le (Nat.le_refl _)] at px
    exact q D xs H' (k.free hD) (k.trans s) hx px
end
end Ro
namespace Ro
open PySem PySem.Spec PyProof.Rows L2
/-! ### a list (true) or a tuple (false) that is walked within enumerate, zip -/
def SqX (K : PySem.W.Frag) : Bool → Hp → Addr → List V → Prop
  | true, H, a, xs => SqL K H a xs
  | false, H, a, xs => SqT K H a xs
def IsX : Bool → Heap → Addr → Array Value → Prop
  | true, h, a, xs => h.IsList a xs
  | false, h, a, xs => h.IsTuple a xs
def ItX : Bool → Heap → Addr → Addr → Nat → Prop
  | true, h, it, a, i => h.IsListIter it a i
  | false, h, it, a, i => h.IsTupleIter it a i
def itO (l : Bool) (a : Addr) : Obj := { cls := .type (bif l then "list_iterator" else "tuple_iterator"), data := .fields #[.ref a, .int 0 0] }
theorem ItX.at {h h' : Heap} {it a : Addr} {i : Nat} : ∀ {l : Bool}, ItX l h it a i → (∀ o, h.get? it = some o → h'.get? it = some o) → ItX l h' it a i
  | true, st, k => Heap.IsListIter.at st k
  | false, st, k => Heap.IsTupleIter.at st k
theorem ItX.obj {h : Heap} {it a : Addr} {i : Nat} : ∀ {l : Bool}, ItX l h it a i → ∃ o, h.get? it = some o ∧ ∀ v, o.data ≠ .cell v
  | true, st => by obtain ⟨o, e, _, d⟩ := st; exact ⟨o, e, fun v z => by rw [d] at z; cases z⟩
  | false, st => by obtain ⟨o, e, _, d⟩ := st; exact ⟨o, e, fun v z => by rw [d] at z; cases z⟩
theorem ItX.new {h : Heap} {it a : Addr} : ∀ {l : Bool}, h.get? it = some (itO l a) → ItX l h it a 0
  | true, e => ⟨_, e, rfl, rfl⟩
  | false, e => ⟨_, e, rfl, rfl⟩
theorem beginsX (a : Addr) (items : Array Value) : ∀ l : Bool, Begins (.ref a) (itO l a) fun h => IsX l h a items
  | true => begins_list a items
  | false => begins_tuple a items
theorem drawsX {prog : Program} {w : World} {A : Around} (hh : A.handled = none) (it a : Addr) (hne : a ≠ it) (items : Array Value) : ∀ l : Bool,
    Draws prog w A it [it, a] items.size (fun i v => items[i]? = some v) (fun i h => ItX l h it a i ∧ IsX l h a items)
  | true => Draws.list hh it a hne items
  | false => Draws.tuple hh it a hne items
section
variable {X : Cx} {pins : List (Addr × Obj)} {σ : L2.St} {H : Hp} {s : Shared} {a : Addr} {xs ys : List V}
theorem inv_sqx (I : Inv X pins σ H s) : ∀ {l : Bool}, SqX X.K l H a xs → ∃ its : List Value, Vals xs its ∧ IsX l s.heap a its.toArray ∧ a < s.heap.objs.size
  | true, h => by
    obtain ⟨its, r, p, _⟩ := I.list h
    exact ⟨its, r, p.isList, p.lt⟩
  | false, h => by
    obtain ⟨its, r, p, _⟩ := I.tuple h
    obtain ⟨o, ho, _⟩ := id p
    exact ⟨its, r, p, Heap.lt_size ho⟩
theorem sqx_inj (I : Inv X pins σ H s) : ∀ {l : Bool}, SqX X.K l H a xs → SqX X.K l H a ys → xs = ys
  | true, h, h' => I.list_inj h h'
  | false, h, h' => I.tuple_inj h h'
end

/-! ### enumerate -/
def ItE (K : PySem.W.Frag) (l : Bool) (a : Addr) : It :=
  ⟨fun i H => ∃ (xs : List V) (x : V), SqX K l H a xs ∧ xs[i]? = some x,
   fun i H v H' => ∃ T x, v = .ref T ∧ H T = none ∧ H' = upd H T (.tup [.int (i : Nat), x]) ∧ ∀ xs, SqX K l H a xs → xs[i]? = some x,
   fun i H => ∃ xs : List V, SqX K l H a xs ∧ xs.length = i⟩
theorem turn_enumX {P : Program} {w : World} {K : PySem.W.Frag} {elts : List Expr} {kk : Nat} {tpos : Pos} (l : Bool) (a e it : Addr) (hae : a ≠ it) :
    Turn P w K (.Tuple elts kk tpos) (ItE K l a) [e, it] e (fun i h => (∃ old, IsEnum h e it ((i : Nat) : Int) old) ∧ ItX l h it a i ∧ e ≠ it ∧ e ≠ a) where
  mem := by simp
  obj := fun i h st b hb => by
    obtain ⟨⟨old, he⟩, hi, _⟩ := st
    rcases (by simpa using hb : b = e ∨ b = it) with z | z
    · rw [z]; exact ⟨_, he, fun v q => nomatch q⟩
    · rw [z]; exact hi.obj
  keep := fun i h h' st k => let ⟨⟨old, he⟩, hi, hne⟩ := st; ⟨⟨old, k e (by simp) _ he⟩, hi.at fun o q => k it (by simp) o q, hne⟩
  item := by
    intro X hP hw hK hc i pins s σ H E I hf st hg
    subst hP hw hK
    obtain ⟨⟨old, he⟩, hit, hne, hea⟩ := st
    obtain ⟨xs, x, hq, hx⟩ := hg
    obtain ⟨its, rv, p, hz⟩ := inv_sqx I hq
    obtain ⟨u, hu, ru⟩ := rv.get hx
    have hel : e < s.heap.objs.size := Heap.lt_size he
    have hil : it < s.heap.objs.size := by obtain ⟨_, q, _⟩ := hit.obj; exact Heap.lt_size q
    have D := drawsX (prog := X.prog) (w := X.w) (A := X.A.in1) (show X.A.in1.handled = none from I.ok.hd hc) it a hae its.toArray l
    refine wpAny_pyNext_enum_itemC D he ⟨hit, p⟩ (List.getElem?_eq_some_iff.mp hu).1 hne (by simp [hne, hea]) fun x' h' tk hx' ho hst' hT hsz hk => ?_
    have eu : u = x' := by
      have : its.toArray[i]? = some u := by simpa using hu
      rw [this] at hx'
      exact Option.some.inj hx'
    subst eu
    refine ⟨_, rfl, wpAny_letOwnedTupleGo_enum (s := { s with heap := h', toks := tk + 1 }) ho fun h'' he' sb => ?_⟩
    have hT2 := (sb.2 _ (Nat.ne_of_gt hel)).trans hT
    have new : ObjOk X.prog X.w (upd H s.heap.objs.size (.tup [.int (i : Nat), x])) h'' s.heap.objs.size (.tup [.int (i : Nat), x]) :=
      ⟨by show 2 ≤ sizeLine; decide, [.int i tk, u], .cons ⟨_, rfl⟩ (.cons ru .nil), ⟨_, hT2, rfl, _, rfl⟩⟩
    have I1 := I.turnedNew (t' := tk + 1) (ch := [e, it]) (fun b ob hb q => (sb.2 b (fun z => hb (by simp [z]))).trans (hk b ob (fun z => hb (by simp [z])) (fun z => hb (by simp [z])) q)) hf (Nat.le_refl _) new
    refine ⟨.ref s.heap.objs.size, _, I1, rfl, ⟨_, x, rfl, I.hok.fresh (Nat.le_refl _), rfl, fun ys hy => by rw [sqx_inj I hy hq]; exact hx⟩, ⟨⟨u, ?_⟩, hst'.1.at fun o q => (sb.2 it (Ne.symm hne)).trans q, hne, hea⟩, fun b hb => ?_⟩
    · rw [show ((i + 1 : Nat) : Int) = (i : Int) + 1 by omega]
      exact he'
    · have hb' : b < s.heap.objs.size := by
        rcases (by simpa using hb : b = e ∨ b = it) with z | z
        · rw [z]; exact hel
        · rw [z]; exact hil
      rw [upd_ne (Nat.ne_of_lt hb')]
      exact (hf b hb).1
  done := by
    intro X hP hw hK hc i pins s σ H E I hf st hg
    subst hP hw hK
    obtain ⟨⟨old, he⟩, hit, hne, hea⟩ := st
    obtain ⟨xs, hq, hx⟩ := hg
    obtain ⟨its, rv, p, hz⟩ := inv_sqx I hq
    obtain ⟨f0, f1, f2, f3, f4, f5⟩ := hf it (by simp)
    have hl : i = its.toArray.size := by rw [← hx, rv.length, List.size_toArray]
    have D := drawsX (prog := X.prog) (w := X.w) (A := X.A.in1) (show X.A.in1.handled = none from I.ok.hd hc) it a hae its.toArray l
    exact wpAny_pyNext_enum_endD D he (by rw [← hl]; exact ⟨hit, p⟩) fun h' eb => ⟨rfl, I.turned (t' := s.toks) (fun b o hb q => eb b o hb q) f0 f1 f3 f4 f5⟩
  self := fun A i s Q E st h => let ⟨⟨_, he⟩, _⟩ := st; wpAny_pyIter_enum he h
theorem meets_enum1 {v : Value} {o : Obj} {Hh : Heap → Prop} (B : Begins v o Hh) :
    Meets (Builtin.«enumerate.__new__» ⟨[.type "enumerate", v], []⟩) (fun _ R s => Hh s.heap ∧
      R (.ok (.ret (.ref (s.heap.push o).objs.size))) { s with heap := (s.heap.push o).push { cls := .type "enumerate", data := .fields #[.none, .bool false, .ref s.heap.objs.size, rawInt 0, .none, .none] } }) :=
  .of_wp fun prog w A R s h => by
    obtain ⟨hp, g, d, tk, os⟩ := s; obtain ⟨h1, h⟩ := h
    have hsub := sub_enumerate
    have q1 : ∀ {A' : Around} {E : Value → Shared → Prop} {Q : Value → Shared → Prop}, Q (.ref hp.objs.size) ⟨hp.push o, g, d, tk, os⟩ → wpAny (model prog w) A' (pyIter v) Q E ⟨hp, g, d, tk, os⟩ :=
      fun q => B.iter prog w _ _ ⟨hp, g, d, tk, os⟩ _ h1 q
    wp_walk using q1
    refine wpAny_stack_any fun st => wpAny_pure ?_
    split
    · rename_i c _ _ _ _ _
      cases (c == Value.type "enumerate")
      · wp_walk using q1
        exact ⟨_, rfl, h⟩
      · wp_walk using q1
        exact ⟨_, rfl, h⟩
    · wp_walk using q1
      exact ⟨_, rfl, h⟩
theorem enum_begins1 {prog : Program} {w : World} {A : Around} {E : Value → Shared → Prop} {s : Shared} {v : Value} {o : Obj} {Hh : Heap → Prop} {Q : Value → Shared → Prop} (B : Begins v o Hh) (h1 : Hh s.heap)
    (h : ∀ h', IsEnum h' (s.heap.objs.size + 1) s.heap.objs.size 0 .none → h'.get? s.heap.objs.size = some o → (∀ b o, s.heap.get? b = some o → h'.get? b = some o) → Q (.ref (s.heap.objs.size + 1)) { s with heap := h' }) :
    wpAny (model prog w) A (call (.type "enumerate") [v]) Q E s := by
  refine callType_new F.called_enumerate (by decide) (F.typeCall_enumerate_1 _) (F.newCall_enumerate_1 _) (fun obj => F.args_object_init_2 obj _) F.entry_enumerate_new
    (meets_enum1 B) ⟨h1, ?_⟩
  have hz : (s.heap.push o).objs.size = s.heap.objs.size + 1 := Heap.size_push ..
  show _ ∧ _
  rw [hz]
  have he : IsEnum ((s.heap.push o).push { cls := .type "enumerate", data := .fields #[.none, .bool false, .ref s.heap.objs.size, rawInt 0, .none, .none] }) (s.heap.objs.size + 1) s.heap.objs.size 0 .none := by
    have q := Heap.get?_push_size (s.heap.push o) (o := { cls := .type "enumerate", data := .fields #[.none, .bool false, .ref s.heap.objs.size, rawInt 0, .none, .none] }) rfl
    rw [hz] at q; exact q
  exact ⟨⟨_, he, rfl⟩, h _ he (Heap.get?_push_of_some _ (Heap.get?_push_size _ B.free)) fun b o x => Heap.get?_push_of_some _ (Heap.get?_push_of_some _ x)⟩
def iEnumX (K : PySem.W.Frag) (l : Bool) (ta : TA) : TI := fun σ H R => ta σ H fun vs H1 => ∃ a xs, vs = [.ref a] ∧ SqX K l H1 a xs ∧ R (ItE K l a) H1
theorem pi_enumX {X : Cx} {e : Expr} {ta : TA} {p pos tpos : Pos} {elts : List Expr} {kk : Nat} (l : Bool) (hg : Gl X "enumerate") (hm : X.mg "enumerate" = none) (ha : PA X [e] ta) (hs : starEach [e] X.env = [(false, eval e X.env)] := by rfl) :
    PI X (.Tuple elts kk tpos) (.Call (.Name "enumerate" p) [e] [] pos) (iEnumX X.K l ta) := by
  refine ⟨fun pins s σ H R I h => ?_⟩
  refine Call_ (ld_blt I hg hm boot_enumerate (PyProof.Rows.callWith_type1 (thn (ha.run pos pins s σ H _ I h) fun us s1 ⟨vs, H1, I1, r1, q1⟩ => ?_) hs rfl))
  obtain ⟨a, xs, ex, hq, q⟩ := q1
  subst ex
  obtain rfl := Vals.ref1 r1
  obtain ⟨its, rv, p', hz⟩ := inv_sqx I1 hq
  refine enum_begins1 (beginsX a its.toArray l) p' fun h' he hit hk => wpAny_pyIter_enum he ?_
  have I2 : Inv X pins σ H1 { s1 with heap := h' } := I1.kept (t' := s1.toks) hk
  refine ⟨s1.heap.objs.size + 1, [s1.heap.objs.size + 1, s1.heap.objs.size], _, _, H1, rfl, I2, turn_enumX l a (s1.heap.objs.size + 1) s1.heap.objs.size (Nat.ne_of_lt hz), ⟨⟨.none, he⟩, .new hit, Nat.succ_ne_self _, Nat.ne_of_gt (Nat.lt_succ_of_lt hz)⟩, fun b hb => ?_, q⟩
  have hle : s1.heap.objs.size ≤ b := by
    rcases (by simpa using hb : b = s1.heap.objs.size + 1 ∨ b = s1.heap.objs.size) with z | z
    · rw [z]; exact Nat.le_add_right _ _
    · rw [z]; exact Nat.le_refl _
  exact I1.fpOk hle (I1.hok.fresh hle)
end Ro
namespace Ro
open PySem PySem.Spec PyProof.Rows L2
/-! ### zip, strict or not -/
abbrev IsZq (sc : Bool) (h : Heap) (z TI TO : Addr) (f0 : Value) : Prop :=
  h.get? z = some { cls := .type "zip", dict := none, data := .fields #[f0, .bool false, .bool sc, .ref TI, .ref TO], slots := #[] }
section
variable {prog : Program} {w : World} {A : Around} {E : Value → Shared → Prop} {s : Shared} {z TI TO i1 i2 : Addr} {fp1 fp2 : List Addr} {n1 n2 i : Nat} {P1 P2 : Nat → Value → Prop} {St1 St2 : Nat → Heap → Prop} {a1 a2 : Value}
theorem zq_item {Q : Value → Shared → Prop} (S : ZipSep2 z TI TO i1 i2 fp1 fp2) (D1 : Draws prog w A i1 fp1 n1 P1 St1) (D2 : Draws prog w A i2 fp2 n2 P2 St2)
    (hz : IsZq true s.heap z TI TO .none) (hTI : IsTupOf2 s.heap TI (.ref i1) (.ref i2)) (hTO : IsTupOf2 s.heap TO a1 a2) (st1 : St1 i s.heap) (st2 : St2 i s.heap) (hlt1 : i < n1) (hlt2 : i < n2)
    (hQ : ∀ x1 x2 h' tk, P1 i x1 → P2 i x2 → IsZq true h' z TI TO (rawInt s.heap.objs.size) → IsTupOf2 h' TO x1 x2 → St1 (i + 1) h' → St2 (i + 1) h' → IsTupOf2 h' s.heap.objs.size x1 x2 → h'.objs.size = s.heap.objs.size + 1 →
      (∀ c o, c ≠ z → c ≠ TO → c ≠ i1 → c ≠ i2 → s.heap.get? c = some o → h'.get? c = some o) → Q (.ref s.heap.objs.size) { s with heap := h', toks := tk }) :
    wpAny (model prog w) A (Builtin.«zip.__next__» ⟨[.ref z], []⟩) (fun fin s' => ∃ v, fin = .done (.ret v) ∧ Q v s') E s := by
  obtain ⟨hp, g, d, tk0, os⟩ := s
  show wpAny _ _ (field (.ref z) 2 >>= _) _ _ _
  refine wpAny_bind (wpAny_field hz rfl (x := .bool true) rfl ?_)
  show wpAny _ _ (field (.ref z) 3 >>= _) _ _ _
  refine wpAny_bind (wpAny_field hz rfl (x := .ref TI) rfl ?_)
  refine wpAny_bind (wpAny_seqItems hTI rfl ?_)
  show wpAny _ _ (Builtin.SmallTypes.ownedTupleIsFree (.ref z) >>= _) _ _ _
  refine wpAny_bind ?_
  unfold Builtin.SmallTypes.ownedTupleIsFree
  refine wpAny_bind (wpAny_field hz rfl (x := .none) rfl (wpAny_pure ?_))
  simp only [if_true]
  refine wpAny_bind (wpAny_rule ?_)
  refine wpAny_bind (wpAny_field hz rfl (x := .ref TO) rfl ?_)
  refine wpAny_bind (wpAny_setField_rec hz (by simp) fun g0 hz0 hs0 => ?_)
  replace hz0 : IsZq true g0 z TI TO .ellipsis := hz0
  replace hs0 : Heap.SameBut z hp g0 := hs0
  refine wpAny_bind ?_
  simp only [List.zipIdx_cons, List.zipIdx_nil, List.forIn_cons, List.forIn_nil]
  refine wpAny_bind (wpAny_bind (wpAny_onRaise ?_))
  show wpAny _ _ (Builtin.SmallTypes.nextOrEnd (.ref i1)) _ _ ⟨g0, g, d, tk0, os⟩
  unfold Builtin.SmallTypes.nextOrEnd
  refine wpAny_bind (wpAny_attempt (D1.item i _ _ _ hlt1 (D1.over st1 hs0 S.zf1) fun x1 p1 tk1 hx1 sn1 hp1 => wpAny_pure ?_))
  replace hp1 : Heap.SameBut i1 g0 p1 := hp1
  have hU1 : IsTupOf2 p1 TO a1 a2 := hp1.extBut _ _ S.Ti1 (hs0.extBut _ _ S.TOz hTO)
  refine wpAny_bind (wpAny_seqItems (s := ⟨p1, g, d, tk1, os⟩) hU1 rfl ?_)
  refine wpAny_bind (updateSeq_IsTupOf2 (s := ⟨p1, g, d, tk1, os⟩) hU1 fun g1 hT1 hs1 => ?_)
  replace hT1 : IsTupOf2 g1 TO x1 a2 := hT1
  replace hs1 : Heap.SameBut TO p1 g1 := hs1
  refine wpAny_bind (wpAny_letGo (wpAny_pure ?_))
  refine wpAny_bind (wpAny_bind (wpAny_onRaise ?_))
  show wpAny _ _ (Builtin.SmallTypes.nextOrEnd (.ref i2)) _ _ ⟨g1, g, d, tk1, os⟩
  unfold Builtin.SmallTypes.nextOrEnd
  refine wpAny_bind (wpAny_attempt (D2.item i _ _ _ hlt2 (D2.over (D2.over (D2.over st2 hs0 S.zf2) hp1 S.sep1_2) hs1 S.Tf2) fun x2 p2 tk2 hx2 sn2 hp2 => wpAny_pure ?_))
  replace hp2 : Heap.SameBut i2 g1 p2 := hp2
  have hU2 : IsTupOf2 p2 TO x1 a2 := hp2.extBut _ _ S.Ti2 hT1
  refine wpAny_bind (wpAny_seqItems (s := ⟨p2, g, d, tk2, os⟩) hU2 rfl ?_)
  refine wpAny_bind (updateSeq_IsTupOf2 (s := ⟨p2, g, d, tk2, os⟩) hU2 fun g2 hT2 hs2 => ?_)
  replace hT2 : IsTupOf2 g2 TO x1 x2 := hT2
  replace hs2 : Heap.SameBut TO p2 g2 := hs2
  refine wpAny_bind (wpAny_letGo (wpAny_pure (wpAny_pure ?_)))
  refine wpAny_bind (wpAny_seqItems (s := ⟨g2, g, d, tk2, os⟩) hT2 rfl ?_)
  refine wpAny_bind (wpAny_newTuple ?_)
  have hsz : g2.objs.size = hp.objs.size := by rw [hs2.1, hp2.1, hs1.1, hp1.1, hs0.1]
  have hzz : IsZq true g2 z TI TO .ellipsis := hs2.extBut _ _ S.TOz.symm (hp2.extBut _ _ S.zi2 (hs1.extBut _ _ S.TOz.symm (hp1.extBut _ _ S.zi1 hz0)))
  have hkk : ∀ c o, c ≠ z → c ≠ TO → c ≠ i1 → c ≠ i2 → hp.get? c = some o → g2.get? c = some o := fun c o cz cT c1 c2 e =>
    hs2.extBut _ _ cT (hp2.extBut _ _ c2 (hs1.extBut _ _ cT (hp1.extBut _ _ c1 (hs0.extBut _ _ cz e))))
  have hj1 : St1 (i + 1) g2 := D1.over (D1.over (D1.over sn1 hs1 S.Tf1) hp2 S.sep2_1) hs2 S.Tf1
  have hj2 : St2 (i + 1) g2 := D2.over sn2 hs2 S.Tf2
  have hzlt : z < g2.objs.size := Heap.lt_size hzz
  show wpAny _ _ (Builtin.SmallTypes.ownedTupleHandOut (.ref z) (.ref g2.objs.size) >>= _) _ _ ⟨g2.push { cls := .type "tuple", data := .seq #[x1, x2] }, g, d, tk2, os⟩
  refine wpAny_bind ?_
  unfold Builtin.SmallTypes.ownedTupleHandOut
  have hz6 : IsZq true (g2.push { cls := .type "tuple", data := .seq #[x1, x2] }) z TI TO .ellipsis := Heap.get?_push_of_some _ hzz
  refine wpAny_bind (wpAny_setField_rec hz6 (by simp) fun h7 hz7 hs7 => ?_)
  replace hz7 : IsZq true h7 z TI TO (rawInt g2.objs.size) := hz7
  refine wpAny_setField_rec hz7 (by simp) fun h8 hz8 hs8 => ?_
  replace hz8 : IsZq true h8 z TI TO (rawInt g2.objs.size) := hz8
  replace hs7 : Heap.SameBut z (g2.push { cls := .type "tuple", data := .seq #[x1, x2] }) h7 := hs7
  replace hs8 : Heap.SameBut z h7 h8 := hs8
  have up : ∀ c o, c ≠ z → g2.get? c = some o → h8.get? c = some o := fun c o c1 e => hs8.extBut _ _ c1 (hs7.extBut _ _ c1 (Heap.get?_push_of_some _ e))
  have hT8 : IsTupOf2 h8 g2.objs.size x1 x2 := hs8.extBut _ _ (Nat.ne_of_gt hzlt) (hs7.extBut _ _ (Nat.ne_of_gt hzlt) (Heap.get?_push_size _ rfl))
  have hs9 : h8.objs.size = g2.objs.size + 1 := by rw [hs8.1, hs7.1, Heap.size_push]
  rw [hsz] at hz8 hT8 hs9
  refine wpAny_pure ⟨_, rfl, ?_⟩
  show Q (.ref g2.objs.size) ⟨h8, g, d, tk2, os⟩
  rw [hsz]
  exact hQ x1 x2 h8 tk2 hx1 hx2 hz8 (up _ _ S.TOz hT2) (D1.frame _ _ _ hj1 fun b hb o e => up b o (fun q => S.zf1 (q ▸ hb)) e) (D2.frame _ _ _ hj2 fun b hb o e => up b o (fun q => S.zf2 (q ▸ hb)) e) hT8 hs9
    fun c o cz cT c1 c2 e => up c o cz (hkk c o cz cT c1 c2 e)
/-- both have ended -/
theorem zq_end {Q : Fin → Shared → Prop} (hh : A.handled = none) (S : ZipSep2 z TI TO i1 i2 fp1 fp2) (D1 : Draws prog w A i1 fp1 n1 P1 St1) (D2 : Draws prog w A i2 fp2 n2 P2 St2)
    (hz : IsZq true s.heap z TI TO .none) (hTI : IsTupOf2 s.heap TI (.ref i1) (.ref i2)) (hTO : IsTupOf2 s.heap TO a1 a2) (st1 : St1 n1 s.heap) (st2 : St2 n2 s.heap)
    (hfr : ∀ (j : Nat) (h h' : Heap), (∀ c ∈ fp2, ∀ o, h.get? c = some o → h'.get? c = some o) → St2 j h → St2 j h') (hi1 : i1 ∉ fp2)
    (hE : ∀ h' tk e, (∀ c o, c ≠ z → c ≠ TO → c ≠ i1 → c ≠ i2 → s.heap.get? c = some o → h'.get? c = some o) → (∃ o, h'.get? e = some o ∧ o.cls = .type "StopIteration") → E (.ref e) { s with heap := h', toks := tk }) :
    wpAny (model prog w) A (Builtin.«zip.__next__» ⟨[.ref z], []⟩) Q E s := by
  obtain ⟨hp, g, d, tk0, os⟩ := s
  show wpAny _ _ (field (.ref z) 2 >>= _) _ _ _
  refine wpAny_bind (wpAny_field hz rfl (x := .bool true) rfl ?_)
  show wpAny _ _ (field (.ref z) 3 >>= _) _ _ _
  refine wpAny_bind (wpAny_field hz rfl (x := .ref TI) rfl ?_)
  refine wpAny_bind (wpAny_seqItems hTI rfl ?_)
  show wpAny _ _ (Builtin.SmallTypes.ownedTupleIsFree (.ref z) >>= _) _ _ _
  refine wpAny_bind ?_
  unfold Builtin.SmallTypes.ownedTupleIsFree
  refine wpAny_bind (wpAny_field hz rfl (x := .none) rfl (wpAny_pure ?_))
  simp only [if_true]
  refine wpAny_bind (wpAny_rule ?_)
  refine wpAny_bind (wpAny_field hz rfl (x := .ref TO) rfl ?_)
  refine wpAny_bind (wpAny_setField_rec hz (by simp) fun g0 hz0 hs0 => ?_)
  replace hz0 : IsZq true g0 z TI TO .ellipsis := hz0
  replace hs0 : Heap.SameBut z hp g0 := hs0
  refine wpAny_bind ?_
  simp only [List.zipIdx_cons, List.zipIdx_nil, List.forIn_cons, List.forIn_nil]
  refine wpAny_bind (wpAny_bind (wpAny_onRaise ?_))
  show wpAny _ _ (Builtin.SmallTypes.nextOrEnd (.ref i1)) _ _ ⟨g0, g, d, tk0, os⟩
  unfold Builtin.SmallTypes.nextOrEnd
  refine wpAny_bind (wpAny_attempt (D1.done ⟨g0, g, d, tk0, os⟩ _ _ (D1.over st1 hs0 S.zf1) fun q e hq he => ?_))
  replace hq : Heap.ExtBut i1 g0 q := hq
  obtain ⟨oe, hoe, hce⟩ := he
  replace hoe : q.get? e = some oe := hoe
  have hzq : IsZq true q z TI TO .ellipsis := hq _ _ S.zi1 hz0
  refine wpAny_bind (wpAny_isInstance (T := "StopIteration") (b := true) ⟨oe, hoe, hce⟩ isSubtype_stop ?_)
  refine wpAny_pure ?_
  refine wpAny_bind (wpAny_setField_rec (s := ⟨q, g, d, tk0, os⟩) hzq (by simp) fun q' hzq' hq' => ?_)
  replace hzq' : IsZq true q' z TI TO .none := hzq'
  replace hq' : Heap.SameBut z q q' := hq'
  refine wpAny_bind ?_
  wp_step
  rw [if_neg (Nat.lt_irrefl 0)]
  refine wpAny_bind ?_
  simp only [List.drop_succ_cons, List.drop_zero, List.zipIdx_cons, List.zipIdx_nil, List.forIn_cons, List.forIn_nil]
  refine wpAny_bind (wpAny_bind ?_)
  unfold Builtin.SmallTypes.nextOrEnd
  have hs2 : ∀ c ∈ fp2, ∀ o, g0.get? c = some o → q'.get? c = some o := fun c hc o x => hq'.extBut _ _ (fun w => S.zf2 (w ▸ hc)) (hq _ _ (fun w => hi1 (w ▸ hc)) x)
  refine wpAny_bind (wpAny_attempt (D2.done ⟨q', g, d, tk0, os⟩ _ _ (hfr n2 g0 q' hs2 (D2.over st2 hs0 S.zf2)) fun q2 e2 hq2 he2 => ?_))
  replace hq2 : Heap.ExtBut i2 q' q2 := hq2
  obtain ⟨oe2, hoe2, hce2⟩ := he2
  refine wpAny_bind (wpAny_isInstance (T := "StopIteration") (b := true) ⟨oe2, hoe2, hce2⟩ isSubtype_stop ?_)
  refine wpAny_pure (wpAny_pure (wpAny_pure ?_))
  refine wpAny_bind (wpAny_rule ?_)
  unfold Builtin.SmallTypes.stopIteration
  refine wpAny_bind ?_
  simp only [newExc, newTuple]
  refine wpAny_bind (wpAny_newObj_type ?_ (by size_fits))
  refine wpAny_bind (m := firstArgMember _ _) (wpAny_of_eq (a := Value.none) (by first | rfl | (simp only [firstArgMember]; rfl)) ?_)
  refine wpAny_newObj_type ?_ (by size_fits)
  simp only [raiseNew]
  refine wpAny_bind (wpAny_handled ?_)
  first | rw [show A.in1.handled = none from hh] | rw [hh]
  refine wpAny_bind (wpAny_pure (wpAny_throw ?_))
  exact hE _ tk0 _ (fun c o cz cT c1 c2 x => Heap.get?_push_of_some _ (Heap.get?_push_of_some _ (hq2 _ _ c2 (hq'.extBut _ _ cz (hq _ _ c1 (hs0.extBut _ _ cz x)))))) ⟨_, Heap.get?_push_size _ rfl, rfl⟩
theorem zq_pyNext_item (sc : Bool) {Q : Option Value → Shared → Prop} (S : ZipSep2 z TI TO i1 i2 fp1 fp2) (D1 : Draws prog w A.in1 i1 fp1 n1 P1 St1) (D2 : Draws prog w A.in1 i2 fp2 n2 P2 St2)
    (hz : IsZq sc s.heap z TI TO .none) (hTI : IsTupOf2 s.heap TI (.ref i1) (.ref i2)) (hTO : IsTupOf2 s.heap TO a1 a2) (st1 : St1 i s.heap) (st2 : St2 i s.heap) (hlt1 : i < n1) (hlt2 : i < n2)
    (hQ : ∀ x1 x2 h' tk, P1 i x1 → P2 i x2 → IsZq sc h' z TI TO (rawInt s.heap.objs.size) → IsTupOf2 h' TO x1 x2 → St1 (i + 1) h' → St2 (i + 1) h' → IsTupOf2 h' s.heap.objs.size x1 x2 → h'.objs.size = s.heap.objs.size + 1 →
      (∀ c o, c ≠ z → c ≠ TO → c ≠ i1 → c ≠ i2 → s.heap.get? c = some o → h'.get? c = some o) → Q (some (.ref s.heap.objs.size)) { s with heap := h', toks := tk }) :
    wpAny (model prog w) A (pyNext (.ref z)) Q E s := by
  cases sc with
  | false => exact wpAny_pyNext_zipD2_item S D1 D2 hz hTI hTO st1 st2 hlt1 hlt2 hQ
  | true =>
    have hT : s.TypeIs (.ref z) "zip" := ⟨_, hz, rfl⟩
    unfold pyNext
    exact wpAny_bind (wpAny_attempt (wpAny_callSpecial?_slot (name := Str.ofString "__next__") hT F.slot_zip_next (wpAny_call_entry F.slot_zip_next hT F.entry_zip_next
      (zq_item S D1 D2 hz hTI hTO st1 st2 hlt1 hlt2 fun x1 x2 h' tk y1 y2 b1 b2 d1 d2 b5 b6 b7 => wpAny_pure (hQ x1 x2 h' tk y1 y2 b1 b2 d1 d2 b5 b6 b7)) (F.args_zip_next_1 _))))
theorem zq_pyNext_end (sc : Bool) {Q : Option Value → Shared → Prop} (hh : A.in1.handled = none) (S : ZipSep2 z TI TO i1 i2 fp1 fp2) (D1 : Draws prog w A.in1 i1 fp1 n1 P1 St1) (D2 : Draws prog w A.in1 i2 fp2 n2 P2 St2)
    (hz : IsZq sc s.heap z TI TO .none) (hTI : IsTupOf2 s.heap TI (.ref i1) (.ref i2)) (hTO : IsTupOf2 s.heap TO a1 a2) (st1 : St1 n1 s.heap) (st2 : St2 n2 s.heap) (hn : n1 = n2)
    (hfr : ∀ (j : Nat) (h h' : Heap), (∀ c ∈ fp2, ∀ o, h.get? c = some o → h'.get? c = some o) → St2 j h → St2 j h') (hi1 : i1 ∉ fp2)
    (hQ : ∀ h' tk, (∀ c o, c ≠ z → c ≠ TO → c ≠ i1 → c ≠ i2 → s.heap.get? c = some o → h'.get? c = some o) → Q none { s with heap := h', toks := tk }) : wpAny (model prog w) A (pyNext (.ref z)) Q E s := by
  cases sc with
  | false => exact wpAny_pyNext_zipD2_end (i := n1) S D1 D2 hz hTI hTO st1 (by rw [hn]; exact st2) (Nat.le_refl _) (Nat.le_of_eq hn) (.inl rfl) hQ
  | true =>
    have hT : s.TypeIs (.ref z) "zip" := ⟨_, hz, rfl⟩
    unfold pyNext
    refine wpAny_bind (wpAny_attempt (wpAny_callSpecial?_slot (name := Str.ofString "__next__") hT F.slot_zip_next (wpAny_call_entry F.slot_zip_next hT F.entry_zip_next
      (zq_end hh S D1 D2 hz hTI hTO st1 st2 hfr hi1 fun h' tk e hk he => ?_) (F.args_zip_next_1 _))))
    obtain ⟨o, ho, hc⟩ := he
    exact wpAny_bind (wpAny_isInstance (T := "StopIteration") (b := true) ⟨o, ho, hc⟩ isSubtype_stop (wpAny_pure (hQ _ _ hk)))
theorem zq_go (sc : Bool) {elts : List Expr} {x1 : Nat} {pos : Pos} {T : Addr} {Q : Unit → Shared → Prop} (hz : IsZq sc s.heap z TI TO (rawInt T))
    (hQ : ∀ h', IsZq sc h' z TI TO .none → Heap.SameBut z s.heap h' → Q () { s with heap := h' }) : wpAny (model prog w) A (letOwnedTupleGo (.Tuple elts x1 pos) (.ref z) (.ref T)) Q E s := by
  unfold letOwnedTupleGo
  refine wpAny_bind (wpAny_load hz ?_)
  show wpAny _ _ (if (["enumerate", "zip", "dict_itemiterator", "dict_reverseitemiterator", "odict_iterator", "itertools.zip_longest", "itertools.pairwise"].contains "zip" &&
      (#[rawInt T, .bool false, .bool sc, .ref TI, .ref TO] : Array Value)[0]? == some (rawInt T)) = true then _ else _) Q E s
  rw [if_pos (by simp)]
  refine wpAny_bind (wpAny_rule ?_)
  show wpAny _ _ (setField (.ref z) 0 .none) Q E s
  exact wpAny_setField_rec hz (by simp) fun h' hz' hs' => hQ h' hz' hs'
theorem zq_pyIter (sc : Bool) {f0 : Value} {Q : Value → Shared → Prop} (hz : IsZq sc s.heap z TI TO f0) (h : Q (.ref z) s) : wpAny (model prog w) A (pyIter (.ref z)) Q E s := by
  have hT : s.TypeIs (.ref z) "zip" := ⟨_, hz, rfl⟩
  refine wpAny_pyIter_slot hT F.slot_zip_iter (wpAny_call_entry F.slot_zip_iter hT F.entry_zip_iter ?_ (F.args_zip_iter_1 _))
  show wpAny _ _ (ret (.ref z)) _ _ s
  exact wpAny_pure ⟨_, rfl, "zip", _, hT, F.slot_zip_next.lookup, h⟩
end
def ItZ (K : PySem.W.Frag) (l1 l2 : Bool) (a b : Addr) : It :=
  ⟨fun i H => ∃ (xs ys : List V) (x y : V), SqX K l1 H a xs ∧ SqX K l2 H b ys ∧ xs[i]? = some x ∧ ys[i]? = some y,
    fun i H v H' => ∃ T x y, v = .ref T ∧ H T = none ∧ H' = upd H T (.tup [x, y]) ∧ (∀ xs, SqX K l1 H a xs → xs[i]? = some x) ∧ ∀ ys, SqX K l2 H b ys → ys[i]? = some y,
    fun i H => ∃ xs ys : List V, SqX K l1 H a xs ∧ SqX K l2 H b ys ∧ xs.length = i ∧ ys.length = i⟩
theorem turn_zq {P : Program} {w : World} {K : PySem.W.Frag} {elts : List Expr} {kk : Nat} {tpos : Pos} (sc l1 l2 : Bool) {a b z TI TO i1 i2 : Addr} (S : ZipSep2 z TI TO i1 i2 [i1, a] [i2, b]) (ha1 : a ≠ i1) (hb2 : b ≠ i2) :
    Turn P w K (.Tuple elts kk tpos) (ItZ K l1 l2 a b) [z, TI, TO, i1, i2] z (fun i h => IsZq sc h z TI TO .none ∧ IsTupOf2 h TI (.ref i1) (.ref i2) ∧ (∃ x y, IsTupOf2 h TO x y) ∧ ItX l1 h i1 a i ∧ ItX l2 h i2 b i) where
  mem := by simp
  obj := fun i h st c hc => by
    obtain ⟨hz, hTI, ⟨x, y, hTO⟩, h1, h2⟩ := st
    rcases (by simpa using hc : c = z ∨ c = TI ∨ c = TO ∨ c = i1 ∨ c = i2) with q | q | q | q | q
    · rw [q]; exact ⟨_, hz, fun v q => nomatch q⟩
    · rw [q]; exact ⟨_, hTI, fun v q => nomatch q⟩
    · rw [q]; exact ⟨_, hTO, fun v q => nomatch q⟩
    · rw [q]; exact h1.obj
    · rw [q]; exact h2.obj
  keep := fun i h h' st k => by
    obtain ⟨hz, hTI, ⟨x, y, hTO⟩, h1, h2⟩ := st
    exact ⟨k z (by simp) _ hz, k TI (by simp) _ hTI, ⟨x, y, k TO (by simp) _ hTO⟩, h1.at fun o q => k i1 (by simp) o q, h2.at fun o q => k i2 (by simp) o q⟩
  item := by
    intro X hP hw hK hc i pins s σ H E I hf st hg
    subst hP hw hK
    obtain ⟨hz, hTI, ⟨x0, y0, hTO⟩, h1, h2⟩ := st
    obtain ⟨xs, ys, x, y, hqx, hqy, hx, hy⟩ := hg
    obtain ⟨its, rv, p, la⟩ := inv_sqx I hqx
    obtain ⟨its2, rv2, p2, lb⟩ := inv_sqx I hqy
    obtain ⟨u, hu, ru⟩ := rv.get hx
    obtain ⟨u2, hu2, ru2⟩ := rv2.get hy
    have hzl : z < s.heap.objs.size := Heap.lt_size hz
    have hd : X.A.in1.handled = none := I.ok.hd hc
    refine zq_pyNext_item sc S (drawsX hd i1 a ha1 its.toArray l1) (drawsX hd i2 b hb2 its2.toArray l2) hz hTI hTO ⟨h1, p⟩ ⟨h2, p2⟩ (List.getElem?_eq_some_iff.mp hu).1 (List.getElem?_eq_some_iff.mp hu2).1
      fun x' y' h' tk ex ey z' TO' h1' h2' hT hsz hk => ?_
    have eu : u = x' := by
      have q : its.toArray[i]? = some u := by simpa using hu
      rw [q] at ex
      exact Option.some.inj ex
    have eu2 : u2 = y' := by
      have q : its2.toArray[i]? = some u2 := by simpa using hu2
      rw [q] at ey
      exact Option.some.inj ey
    subst eu
    subst eu2
    refine ⟨_, rfl, zq_go sc (s := { s with heap := h', toks := tk }) z' fun h'' z'' sb => ?_⟩
    have hT2 := (sb.2 _ (Nat.ne_of_gt hzl)).trans hT
    have new : ObjOk X.prog X.w (upd H s.heap.objs.size (.tup [x, y])) h'' s.heap.objs.size (.tup [x, y]) :=
      ⟨by show 2 ≤ sizeLine; decide, [u, u2], .cons ru (.cons ru2 .nil), ⟨_, hT2, rfl, _, rfl⟩⟩
    have I1 := I.turnedNew (t' := tk) (ch := [z, TI, TO, i1, i2]) (fun c o hb q => (sb.2 c (fun q' => hb (by simp [q']))).trans (hk c o (fun q' => hb (by simp [q'])) (fun q' => hb (by simp [q'])) (fun q' => hb (by simp [q'])) (fun q' => hb (by simp [q'])) q)) hf (Nat.le_refl _) new
    refine ⟨.ref s.heap.objs.size, _, I1, rfl, ⟨_, x, y, rfl, I.hok.fresh (Nat.le_refl _), rfl, fun l hl => by rw [sqx_inj I hl hqx]; exact hx, fun l hl => by rw [sqx_inj I hl hqy]; exact hy⟩, ⟨z'', ?_, ⟨u, u2, ?_⟩, ?_, ?_⟩, fun c hcm => ?_⟩
    · exact (sb.2 _ S.TIz).trans (hk _ _ S.TIz S.TITO S.TIi1 S.TIi2 hTI)
    · exact (sb.2 _ S.TOz).trans TO'
    · exact h1'.1.at fun o q => (sb.2 _ S.zi1.symm).trans q
    · exact h2'.1.at fun o q => (sb.2 _ S.zi2.symm).trans q
    · have hlt : c < s.heap.objs.size := by
        rcases (by simpa using hcm : c = z ∨ c = TI ∨ c = TO ∨ c = i1 ∨ c = i2) with q | q | q | q | q
        · rw [q]; exact hzl
        · rw [q]; exact Heap.lt_size hTI
        · rw [q]; exact Heap.lt_size hTO
        · rw [q]; obtain ⟨_, e1, _⟩ := h1.obj; exact Heap.lt_size e1
        · rw [q]; obtain ⟨_, e2, _⟩ := h2.obj; exact Heap.lt_size e2
      rw [upd_ne (Nat.ne_of_lt hlt)]
      exact (hf c hcm).1
  done := by
    intro X hP hw hK hc i pins s σ H E I hf st hg
    subst hP hw hK
    obtain ⟨hz, hTI, ⟨x0, y0, hTO⟩, h1, h2⟩ := st
    obtain ⟨xs, ys, hqx, hqy, e1, e2⟩ := hg
    obtain ⟨its, rv, p, la⟩ := inv_sqx I hqx
    obtain ⟨its2, rv2, p2, lb⟩ := inv_sqx I hqy
    have l1' : i = its.toArray.size := by rw [← e1, rv.length, List.size_toArray]
    have l2' : i = its2.toArray.size := by rw [← e2, rv2.length, List.size_toArray]
    have hd : X.A.in1.handled = none := I.ok.hd hc
    refine zq_pyNext_end sc hd S (drawsX hd i1 a ha1 its.toArray l1) (drawsX hd i2 b hb2 its2.toArray l2) hz hTI hTO (by rw [← l1']; exact ⟨h1, p⟩) (by rw [← l2']; exact ⟨h2, p2⟩) (l1'.symm.trans l2')
      (fun j h h' k st => (drawsX (prog := X.prog) (w := X.w) hd i2 b hb2 its2.toArray l2).frame j h h' st k) S.sep1_2 fun h' tk hk => ⟨rfl, I.turnedL (t' := tk) (ch := [z, TI, TO, i1, i2]) (fun c o hb q =>
        hk c o (fun q' => hb (by simp [q'])) (fun q' => hb (by simp [q'])) (fun q' => hb (by simp [q'])) (fun q' => hb (by simp [q'])) q) hf⟩
  self := fun A i s Q E st h => zq_pyIter sc st.1 h
/-! zip(.., strict=True) -/
theorem tc_zipS (a b c : Value) : checkTypeCall "zip" ⟨[a, b], [(Str.ofString "strict", c)]⟩ = pure () := by kernel_rfl
theorem nc_zipS (a b c : Value) : checkBuiltinCall "zip.__new__" ⟨[.type "zip", a, b], [(Str.ofString "strict", c)]⟩ = pure () := by kernel_rfl
theorem ai_zipS (o a b c : Value) : argsOk "object.__init__" ⟨[o, a, b], [(Str.ofString "strict", c)]⟩ := by unfold argsOk; kernel_rfl
abbrev zqT (h : Heap) (o1 o2 : Obj) : Heap := ((h.push o1).push o2).push { cls := .type "tuple", data := .seq #[.ref h.objs.size, .ref (h.push o1).objs.size] }
abbrev zqO (h : Heap) (o1 o2 : Obj) : Heap := (zqT h o1 o2).push { cls := .type "tuple", data := .seq #[.none, .none] }
abbrev zqZ (h : Heap) (o1 o2 : Obj) : Heap := (zqO h o1 o2).push { cls := .type "zip", data := .fields #[.none, .bool false, .bool true, .ref ((h.push o1).push o2).objs.size, .ref (zqT h o1 o2).objs.size] }
theorem meets_zipS {v1 v2 : Value} {o1 o2 : Obj} {H1 H2 : Heap → Prop} (B1 : Begins v1 o1 H1) (B2 : Begins v2 o2 H2) :
    Meets (Builtin.«zip.__new__» ⟨[.type "zip", v1, v2], [(Str.ofString "strict", .bool true)]⟩) (fun _ R s => (H1 s.heap ∧ H2 s.heap) ∧
      R (.ok (.ret (.ref (zqO s.heap o1 o2).objs.size))) { s with heap := zqZ s.heap o1 o2 }) :=
  .of_wp fun prog w A R s h => by
    obtain ⟨hp, g, d, tk, os⟩ := s; obtain ⟨⟨h1, h2⟩, h⟩ := h
    have hsub := sub_zip
    have e2 : (Str.ofString "strict" != ("strict" : Str)) = false := by decide +kernel
    have q1 : ∀ {A' : Around} {E : Value → Shared → Prop} {Q : Value → Shared → Prop}, Q (.ref hp.objs.size) ⟨(hp.push o1), g, d, tk, os⟩ → wpAny (model prog w) A' (pyIter v1) Q E ⟨hp, g, d, tk, os⟩ :=
      fun q => B1.iter prog w _ _ ⟨hp, g, d, tk, os⟩ _ (B1.keeps _ _ h1 fun b o' e => e) q
    have q2 : ∀ {A' : Around} {E : Value → Shared → Prop} {Q : Value → Shared → Prop}, Q (.ref (hp.push o1).objs.size) ⟨((hp.push o1).push o2), g, d, tk, os⟩ → wpAny (model prog w) A' (pyIter v2) Q E ⟨(hp.push o1), g, d, tk, os⟩ :=
      fun q => B2.iter prog w _ _ ⟨(hp.push o1), g, d, tk, os⟩ _ (B2.keeps _ _ h2 fun b o' e => (Heap.get?_push_of_some _ e)) q
    wp_walk using q1, q2
    exact ⟨_, rfl, h⟩
end Ro
namespace Ro
open PySem PySem.Spec PyProof.Rows L2
theorem zq_begins {prog : Program} {w : World} {A : Around} {E : Value → Shared → Prop} {s : Shared} {v1 v2 : Value} {o1 o2 : Obj} {H1 H2 : Heap → Prop} {Q : Value → Shared → Prop} (B1 : Begins v1 o1 H1) (B2 : Begins v2 o2 H2) (h1 : H1 s.heap) (h2 : H2 s.heap)
    (h : ∀ h', IsZq true h' (s.heap.objs.size + 4) (s.heap.objs.size + 2) (s.heap.objs.size + 3) .none → IsTupOf2 h' (s.heap.objs.size + 2) (.ref s.heap.objs.size) (.ref (s.heap.objs.size + 1)) →
      IsTupOf2 h' (s.heap.objs.size + 3) .none .none → h'.get? s.heap.objs.size = some o1 → h'.get? (s.heap.objs.size + 1) = some o2 → h'.objs.size = s.heap.objs.size + 5 →
      (∀ c o, s.heap.get? c = some o → h'.get? c = some o) → Q (.ref (s.heap.objs.size + 4)) { s with heap := h' }) :
    wpAny (model prog w) A (call (.type "zip") [v1, v2] [(Str.ofString "strict", .bool true)]) Q E s := by
  refine callType_newKw F.called_zip (by decide) (tc_zipS _ _ _) (nc_zipS _ _ _) (fun obj => ai_zipS obj _ _ _) F.entry_zip_new (meets_zipS B1 B2) ⟨⟨h1, h2⟩, ?_⟩
  have z1 : (s.heap.push o1).objs.size = s.heap.objs.size + 1 := by rw [Heap.size_push]
  have z2 : ((s.heap.push o1).push o2).objs.size = s.heap.objs.size + 2 := by rw [Heap.size_push, z1]
  have zT : (zqT s.heap o1 o2).objs.size = s.heap.objs.size + 3 := by rw [Heap.size_push, z2]
  have zO : (zqO s.heap o1 o2).objs.size = s.heap.objs.size + 4 := by rw [Heap.size_push, zT]
  have zZ : (zqZ s.heap o1 o2).objs.size = s.heap.objs.size + 5 := by rw [Heap.size_push, zO]
  have gZ : (zqZ s.heap o1 o2).get? (zqO s.heap o1 o2).objs.size = some { cls := .type "zip", data := .fields #[.none, .bool false, .bool true, .ref ((s.heap.push o1).push o2).objs.size, .ref (zqT s.heap o1 o2).objs.size] } := Heap.get?_push_size _ rfl
  have gO : (zqZ s.heap o1 o2).get? (zqT s.heap o1 o2).objs.size = some { cls := .type "tuple", data := .seq #[.none, .none] } := Heap.get?_push_of_some _ (Heap.get?_push_size _ rfl)
  have gT : (zqZ s.heap o1 o2).get? ((s.heap.push o1).push o2).objs.size = some { cls := .type "tuple", data := .seq #[.ref s.heap.objs.size, .ref (s.heap.push o1).objs.size] } := Heap.get?_push_of_some _ (Heap.get?_push_of_some _ (Heap.get?_push_size _ rfl))
  have g1 : (zqZ s.heap o1 o2).get? s.heap.objs.size = some o1 := Heap.get?_push_of_some _ (Heap.get?_push_of_some _ (Heap.get?_push_of_some _ (Heap.get?_push_of_some _ (Heap.get?_push_size _ B1.free))))
  have g2 : (zqZ s.heap o1 o2).get? (s.heap.push o1).objs.size = some o2 := Heap.get?_push_of_some _ (Heap.get?_push_of_some _ (Heap.get?_push_of_some _ (Heap.get?_push_size _ B2.free)))
  rw [zO, zT, z2] at gZ
  rw [zT] at gO
  rw [z2, z1] at gT
  rw [z1] at g2
  show _ ∧ _
  rw [zO]
  exact ⟨⟨_, gZ, rfl⟩, h _ gZ gT gO g1 g2 zZ fun c o e => Heap.get?_push_of_some _ (Heap.get?_push_of_some _ (Heap.get?_push_of_some _ (Heap.get?_push_of_some _ (Heap.get?_push_of_some _ e))))⟩
def iZipX (K : PySem.W.Frag) (l1 l2 : Bool) (ta : TA) : TI := fun σ H R => ta σ H fun vs H1 => ∃ a b xs ys, vs = [.ref a, .ref b] ∧ SqX K l1 H1 a xs ∧ SqX K l2 H1 b ys ∧ R (ItZ K l1 l2 a b) H1
theorem zq_sep (n a b : Nat) (la : a < n) (lb : b < n) : ZipSep2 (n + 4) (n + 2) (n + 3) n (n + 1) [n, a] [n + 1, b] := by
  have m : ∀ x y z : Nat, x ≠ y → x ≠ z → x ∉ [y, z] := fun x y z h1 h2 h => by
    rcases List.mem_cons.mp h with e | h
    · exact h1 e
    · exact h2 (List.mem_singleton.mp h)
  exact { TIz := (by omega : (n + 2 : Nat) ≠ n + 4), TOz := (by omega : (n + 3 : Nat) ≠ n + 4), TITO := (by omega : (n + 2 : Nat) ≠ n + 3), TIi1 := (by omega : (n + 2 : Nat) ≠ n), mem1 := List.mem_cons_self .., zf1 := m _ _ _ (by omega) (by omega), Tf1 := m _ _ _ (by omega) (by omega),
          TIi2 := (by omega : (n + 2 : Nat) ≠ n + 1), mem2 := List.mem_cons_self .., zf2 := m _ _ _ (by omega) (by omega), Tf2 := m _ _ _ (by omega) (by omega), sep1_2 := m _ _ _ (by omega) (by omega), sep2_1 := m _ _ _ (by omega) (by omega) }
/-- what stands after zip has begun -/
theorem zq_made {X : Cx} {pins : List (Addr × Obj)} {σ : L2.St} {H1 : Hp} {s1 : Shared} {R : It → Hp → Prop} {elts : List Expr} {kk : Nat} {tpos : Pos} (sc l1 l2 : Bool) {a b : Addr} (I1 : Inv X pins σ H1 s1) (la : a < s1.heap.objs.size) (lb : b < s1.heap.objs.size)
    (q : R (ItZ X.K l1 l2 a b) H1) {h' : Heap} (hz : IsZq sc h' (s1.heap.objs.size + 4) (s1.heap.objs.size + 2) (s1.heap.objs.size + 3) .none)
    (hTI : IsTupOf2 h' (s1.heap.objs.size + 2) (.ref s1.heap.objs.size) (.ref (s1.heap.objs.size + 1))) (hTO : IsTupOf2 h' (s1.heap.objs.size + 3) .none .none) (h1 : h'.get? s1.heap.objs.size = some (itO l1 a)) (h2 : h'.get? (s1.heap.objs.size + 1) = some (itO l2 b))
    (hk : ∀ c o, s1.heap.get? c = some o → h'.get? c = some o) : wpAny (model X.prog X.w) X.A (pyIter (.ref (s1.heap.objs.size + 4))) (PIE X pins σ (.Tuple elts kk tpos) R) X.xe { s1 with heap := h' } := by
  refine zq_pyIter sc hz ?_
  have I2 : Inv X pins σ H1 { s1 with heap := h' } := I1.kept (t' := s1.toks) hk
  generalize hn : s1.heap.objs.size = n at *
  have S : ZipSep2 (n + 4) (n + 2) (n + 3) n (n + 1) [n, a] [n + 1, b] := zq_sep n a b la lb
  refine ⟨n + 4, [n + 4, n + 2, n + 3, n, n + 1], _, _, H1, rfl, I2, turn_zq sc l1 l2 S (Nat.ne_of_lt la) (Nat.ne_of_lt (Nat.lt_succ_of_lt lb)), ⟨hz, hTI, ⟨_, _, hTO⟩, .new h1, .new h2⟩, fun c hcm => ?_, q⟩
  have hle : s1.heap.objs.size ≤ c := by
    rw [hn]
    rcases (by simpa using hcm : c = n + 4 ∨ c = n + 2 ∨ c = n + 3 ∨ c = n ∨ c = n + 1) with z | z | z | z | z <;> rw [z]
    · exact Nat.le_add_right _ _
    · exact Nat.le_add_right _ _
    · exact Nat.le_add_right _ _
    · exact Nat.le_refl _
    · exact Nat.le_add_right _ _
  exact I1.fpOk hle (I1.hok.fresh hle)
theorem pi_zipX {X : Cx} {e e2 : Expr} {ta : TA} {p pos tpos : Pos} {elts : List Expr} {kk : Nat} (l1 l2 : Bool) (hg : Gl X "zip") (hm : X.mg "zip" = none) (ha : PA X [e, e2] ta)
    (hs : starEach [e, e2] X.env = (false, eval e X.env) :: starEach [e2] X.env := by rfl) (hpl : (backTo pos (starEach [e2] X.env)).any (·.1) = false := by rfl) :
    PI X (.Tuple elts kk tpos) (.Call (.Name "zip" p) [e, e2] [] pos) (iZipX X.K l1 l2 ta) := by
  refine ⟨fun pins s σ H R I h => ?_⟩
  refine Call_ (ld_blt I hg hm PyProof.Rows.boot_zip (PyProof.Rows.callWith_type1 (thn (ha.run pos pins s σ H _ I h) fun us s1 ⟨vs, H1, I1, r1, q1⟩ => ?_) hs hpl))
  obtain ⟨a, b, xs, ys, ex, hqx, hqy, q⟩ := q1
  subst ex
  obtain ⟨u1, u2, rfl, ra, rb⟩ := vals2 r1
  obtain rfl : u1 = Value.ref a := ra
  obtain rfl : u2 = Value.ref b := rb
  obtain ⟨its, rv, p1, la⟩ := inv_sqx I1 hqx
  obtain ⟨its2, rv2, p2, lb⟩ := inv_sqx I1 hqy
  exact zip_begins2 (beginsX a its.toArray l1) (beginsX b its2.toArray l2) p1 p2 fun h' hz hTI hTO h1 h2 hsz hk => zq_made false l1 l2 I1 la lb q hz hTI hTO h1 h2 hk
theorem pi_zipS {X : Cx} {e e2 : Expr} {ta : TA} {p pos tpos : Pos} {elts : List Expr} {kk : Nat} {kws : List Keyword} (l1 l2 : Bool) (hg : Gl X "zip") (hm : X.mg "zip" = none) (ha : PA X [e, e2] ta) (hk : PK X kws (tCons (tC (.bl true)) tNil))
    (hs : starEach [e, e2] X.env = (false, eval e X.env) :: starEach [e2] X.env := by rfl) (hpl : (backTo pos (starEach [e, e2] X.env)).any (·.1) = false := by rfl)
    (hall : (backToKw pos (keywordEach kws X.env)).all (·.1.isSome) = true := by rfl) (hnone : (backToKw pos (keywordEach kws X.env)).any (·.1.isNone) = false := by rfl) (hks : (backToKw pos (keywordEach kws X.env)).filterMap (·.1) = [Str.ofString "strict"] := by rfl) :
    PI X (.Tuple elts kk tpos) (.Call (.Name "zip" p) [e, e2] kws pos) (iZipX X.K l1 l2 ta) := by
  refine ⟨fun pins s σ H R I h => ?_⟩
  refine wpAny_Call_Name_kw (ld_blt I hg hm PyProof.Rows.boot_zip ?_)
  unfold callWith
  refine wpAny_bind (wpAny_holding ?_)
  refine PyProof.Rows.evalArgs_kw2 hall (thn (ha.run pos pins s σ H _ I h) fun us s1 ⟨vs, H1, I1, r1, q1⟩ => thn (hk.run pos pins s1 σ H1 (fun zs H2 => zs = [.bl true] ∧ H2 = H1) I1 ⟨rfl, rfl⟩) fun ws s2 ⟨zs, H2, I2, r2, ez, eh⟩ => wpAny_bind (wpAny_standAt ?_)) hs
  subst ez
  subst eh
  obtain ⟨w1, rfl, rw1⟩ := vals1 r2
  obtain rfl : w1 = Value.bool true := rw1
  obtain ⟨a, b, xs, ys, ex, hqx, hqy, q⟩ := q1
  subst ex
  obtain ⟨u1, u2, rfl, ra, rb⟩ := vals2 r1
  obtain rfl : u1 = Value.ref a := ra
  obtain rfl : u2 = Value.ref b := rb
  obtain ⟨its, rv, p1, la⟩ := inv_sqx I2 hqx
  obtain ⟨its2, rv2, p2, lb⟩ := inv_sqx I2 hqy
  rw [hks]
  have hp2 : (backTo pos (starEach [e, e2] X.env)).any (·.1) = false := hpl
  simp only [hp2, hnone, Bool.or_false]
  refine wpAny_bind (wpAny_pure ?_)
  refine wpAny_bind (zq_begins (beginsX a its.toArray l1) (beginsX b its2.toArray l2) p1 p2 fun h' hz hTI hTO h1 h2 hsz hk => ?_)
  refine wpAny_bind (wpAny_holding (wpAny_point (wpAny_pure ?_)))
  exact zq_made true l1 l2 I2 la lb q hz hTI hTO h1 h2 hk
end Ro
namespace Ro
open PySem PySem.Spec PyProof.Rows L2
variable [TabsC]
open Classical
/-! ### what stands stays, but N -/
structure Kp (N : Addr → Prop) (H H' : Hp) : Prop where
  ob : ∀ a o, H a = some o → (∀ ps, o ≠ .tbl ps) → ¬ N a → H' a = some o
  tb : ∀ P, Tb H P → Tb H' P
  nn : ∀ a, H' a = none → H a = none
/-- the heap without N -/
noncomputable def but (N : Addr → Prop) (H : Hp) : Hp := fun a => if N a then none else H a
/-- N stands, and may change -/
def NOk (N : Addr → Prop) (H : Hp) : Prop := ∀ b, N b → ∃ o, H b = some o ∧ Mo o
abbrev N0 : Addr → Prop := fun _ => False
section
variable {N : Addr → Prop} {H H' H1 H2 : Hp} {p a : Addr} {o u : HO}
theorem but_of (h : ¬ N a) : but N H a = H a := if_neg h
theorem but_in (h : N a) : but N H a = none := if_pos h
theorem Same.kp (h : Same H H') : Kp N H H' := ⟨fun a o e n _ => h.ob a o e n, h.tb, h.nn⟩
theorem Kp.refl : Kp N H H := (Same.refl H).kp
theorem Kp.trans (h : Kp N H H1) (k : Kp N H1 H2) : Kp N H H2 := ⟨fun a o e t n => k.ob a o (h.ob a o e t n) t n, fun P t => k.tb P (h.tb P t), fun a n => h.nn a (k.nn a n)⟩
theorem Kp.mut (h : Kp N H H') (n : N p) (hp : H' p = some u) (m : Mo u) : Kp N H (upd H' p o) := ⟨fun a v e t k => by
  rw [upd_ne (fun z => k (by rw [z]; exact n))]
  exact h.ob a v e t k, fun P t => tab_upd hp m (h.tb P t), fun a k => by
  by_cases z : a = p
  · rw [z, upd_same] at k; cases k
  · rw [upd_ne z] at k; exact h.nn a k⟩
theorem Kp.new (h : Kp N H H') (n : H' p = none) : Kp N H (upd H' p o) := h.trans (same_new n).kp
/-- an object that H does not know may change -/
theorem Kp.mut0 (h : Kp N H H') (n : H p = none) (hp : H' p = some u) (m : Mo u) : Kp N H (upd H' p o) := ⟨fun a v e t k => by
  rw [upd_ne (ne_of_none e n)]
  exact h.ob a v e t k, fun P t => tab_upd hp m (h.tb P t), fun a k => by
  by_cases z : a = p
  · rw [z]; exact n
  · rw [upd_ne z] at k; exact h.nn a k⟩
theorem Kp.same (h : Kp N H H') (n : ∀ a, N a → H a = none) : Same H H' := ⟨fun a o e t => h.ob a o e t (fun m => by rw [n a m] at e; cases e), h.tb, h.nn⟩
theorem NOk.keep (n : NOk N H) (k : Same H H') : NOk N H' := fun b hb => let ⟨o, e, f⟩ := n b hb; ⟨o, k b o e f.ntb, f⟩
theorem NOk.tk (n : NOk N H) (k : Kp N H H') : Tk H H' := fun a xs e => k.ob a _ e (fun ps z => by cases z) fun m => by
  obtain ⟨o, q, f⟩ := n a m
  rw [e] at q
  cases q
  exact f
theorem NOk.free (n : NOk N H) (h : H p = none) : ¬ N p := fun m => by
  obtain ⟨o, q, _⟩ := n p m
  rw [h] at q
  cases q
theorem NOk.nil : NOk N0 H := fun _ m => m.elim
theorem but_at (e : but N H a = some o) : H a = some o := by
  by_cases m : N a
  · rw [but_in m] at e; cases e
  · rw [but_of m] at e; exact e
theorem but_ob : LamX.ExtN (but N H) H := fun a o e _ => but_at e
theorem Kp.but (k : Kp N H H') : LamX.ExtN (but N H) (but N H') := fun a o e t => by
  by_cases m : N a
  · rw [but_in m] at e; cases e
  · rw [but_of m] at e ⊢; exact k.ob a o e t m
theorem NOk.tkb (n : NOk N H) : Tk H (Ro.but N H) := fun a xs e => by
  rw [but_of fun m => ?_]
  · exact e
  · obtain ⟨o, q, f⟩ := n a m
    rw [e] at q
    cases q
    exact f
theorem Pt.intoN {d : PyData} {v : V} (n : NOk N H) (h : Pt H d v) (hl : noL d = true) : Pt (but N H) d v := Pt.keepT n.tkb _ _ hl h
theorem PtA.intoN {ds : List PyData} {vs : List V} (n : NOk N H) (h : PtA H ds vs) (hl : noLs ds = true) : PtA (but N H) ds vs := PtA.keepT n.tkb _ _ hl h
theorem Pt.outN {d : PyData} {v : V} (h : Pt (but N H) d v) : Pt H d v := Pt.keepX but_ob _ _ h
theorem PtA.outN {ds : List PyData} {vs : List V} (h : PtA (but N H) ds vs) : PtA H ds vs := PtA.keepX but_ob _ _ h
theorem Pt.kp {d : PyData} {v : V} (h : Pt (but N H) d v) (k : Kp N H H') : Pt (but N H') d v := Pt.keepX k.but _ _ h
theorem PtA.kp {ds : List PyData} {vs : List V} (h : PtA (but N H) ds vs) (k : Kp N H H') : PtA (but N H') ds vs := PtA.keepX k.but _ _ h
end
/-! ### walks while all but N stays -/
def EvF (N : Addr → Prop) (wi : TI) (σ : L2.St) (H : Hp) (ds : List PyData) : Prop := ∀ H1, Same H H1 → ∀ R : It → Hp → Prop, (∀ J H2, Same H1 H2 → WkD J ds (Kp N H2) → R J H2) → wi σ H1 R
def seqD (l : Bool) (ds : List PyData) : PyData := match l with | true => .list ds | false => .tuple ds
def enumD (ds : List PyData) : List PyData := ds.zipIdx.map fun q => .tuple [.int (q.2 : Nat), q.1]
def zipD (ds es : List PyData) : List PyData := List.zipWith (fun d e => .tuple [d, e]) ds es
section
variable {K : PySem.W.Frag} {N : Addr → Prop} {σ : L2.St} {H H' : Hp} {a b : Addr} {xs ys : List V} {ds es : List PyData} {te tf : TE}
theorem sqx_of {l : Bool} (h : Pt H (seqD l ds) (.ref a)) : ∃ xs, SqX K l H a xs ∧ PtA H ds xs ∧ H a = some (match l with | true => .lst xs | false => .tup xs) := by
  cases l with
  | true => obtain ⟨a', xs, e, ha, hx⟩ := pt_lst.mp h; cases e; exact ⟨xs, SqL.of ha, hx, ha⟩
  | false => obtain ⟨a', xs, e, ha, hx⟩ := pt_tup.mp h; cases e; exact ⟨xs, SqT.of ha, hx, ha⟩
theorem seq_ref {l : Bool} {v : V} (h : Pt H (seqD l ds) v) : ∃ a, v = .ref a := by
  cases l with
  | true => obtain ⟨a', xs, e, ha, hx⟩ := pt_lst.mp h; exact ⟨a', e⟩
  | false => obtain ⟨a', xs, e, ha, hx⟩ := pt_tup.mp h; exact ⟨a', e⟩
/-- a list, a tuple at a: it stays where N doesn't reach it -/
theorem wk_seq {l : Bool} (h : Pt (but N H) (seqD l ds) (.ref a)) : WkD (match l with | true => Itl K a | false => Itt K a) ds (Kp N H) := by
  cases l with
  | true =>
    obtain ⟨a', xs, e, ha, hx⟩ := pt_lst.mp h
    cases e
    have w : Walk (Itl K a) ds.length (fun H' => SqL K H' a xs) (YAt xs) := by rw [← hx.length]; exact walk_list
    refine w.mono (fun H' s => SqL.of (but_at (s.but a _ ha (fun ps z => by cases z)))) fun i H1 v H' hi s y => ?_
    obtain ⟨rfl, e⟩ := y
    obtain ⟨d, hd, p⟩ := hx.get e
    exact ⟨Same.refl _, d, hd, (p.kp s).outN⟩
  | false =>
    obtain ⟨a', xs, e, ha, hx⟩ := pt_tup.mp h
    cases e
    have w : Walk (Itt K a) ds.length (fun H' => SqT K H' a xs) (YAt xs) := by rw [← hx.length]; exact walk_tup
    refine w.mono (fun H' s => SqT.of (but_at (s.but a _ ha (fun ps z => by cases z)))) fun i H1 v H' hi s y => ?_
    obtain ⟨rfl, e⟩ := y
    obtain ⟨d, hd, p⟩ := hx.get e
    exact ⟨Same.refl _, d, hd, (p.kp s).outN⟩
theorem wk_enumX {l : Bool} (h : Pt (but N H) (seqD l ds) (.ref a)) : WkD (ItE K l a) (enumD ds) (Kp N H) := by
  obtain ⟨xs, sq, hx, ha⟩ := sqx_of (K := K) h
  have ln : (enumD ds).length = xs.length := by rw [enumD, List.length_map, List.length_zipIdx, hx.length]
  have st : ∀ H', Kp N H H' → SqX K l H' a xs := fun H' k => by
    cases l with
    | true => exact SqL.of (but_at (k.but _ _ ha (fun ps z => by cases z)))
    | false => exact SqT.of (but_at (k.but _ _ ha (fun ps z => by cases z)))
  refine ⟨fun i H' hi k => ⟨xs, xs[i]'(by omega), st H' k, List.getElem?_eq_getElem _⟩, fun H' k => ⟨xs, st H' k, ln.symm⟩, fun i H1 v H' hi k y => ?_⟩
  obtain ⟨T, x, rfl, hT, rfl, hxx⟩ := y
  obtain ⟨d, hd, p⟩ := hx.get (hxx xs (st H1 k))
  refine ⟨same_new hT, .tuple [.int (i : Nat), d], ?_, pt_2.mpr ⟨T, _, _, rfl, upd_same, pt_int.mpr rfl, Pt.keep (same_new hT) _ _ (p.kp k).outN⟩⟩
  rw [enumD, List.getElem?_map, List.getElem?_zipIdx, hd]
  simp
theorem wk_zipX {l1 l2 : Bool} (h : Pt (but N H) (seqD l1 ds) (.ref a)) (h2 : Pt (but N H) (seqD l2 es) (.ref b)) (hl : ds.length = es.length) : WkD (ItZ K l1 l2 a b) (zipD ds es) (Kp N H) := by
  obtain ⟨xs, sq, hx, ha⟩ := sqx_of (K := K) h
  obtain ⟨ys, sq2, hy, hb⟩ := sqx_of (K := K) h2
  have e1 := hx.length
  have e2 := hy.length
  have ln : (zipD ds es).length = xs.length := by rw [zipD, List.length_zipWith]; omega
  have st : ∀ H', Kp N H H' → SqX K l1 H' a xs := fun H' k => by
    cases l1 with
    | true => exact SqL.of (but_at (k.but _ _ ha (fun ps z => by cases z)))
    | false => exact SqT.of (but_at (k.but _ _ ha (fun ps z => by cases z)))
  have st2 : ∀ H', Kp N H H' → SqX K l2 H' b ys := fun H' k => by
    cases l2 with
    | true => exact SqL.of (but_at (k.but _ _ hb (fun ps z => by cases z)))
    | false => exact SqT.of (but_at (k.but _ _ hb (fun ps z => by cases z)))
  refine ⟨fun i H' hi k => ⟨xs, ys, xs[i]'(by omega), ys[i]'(by omega), st H' k, st2 H' k, List.getElem?_eq_getElem _, List.getElem?_eq_getElem _⟩, fun H' k => ⟨xs, ys, st H' k, st2 H' k, ln.symm, by omega⟩, fun i H1 v H' hi k y => ?_⟩
  obtain ⟨T, x, z, rfl, hT, rfl, hxx, hyy⟩ := y
  obtain ⟨d, hd, p⟩ := hx.get (hxx xs (st H1 k))
  obtain ⟨e, he, p2⟩ := hy.get (hyy ys (st2 H1 k))
  refine ⟨same_new hT, .tuple [d, e], ?_, pt_2.mpr ⟨T, _, _, rfl, upd_same, Pt.keep (same_new hT) _ _ (p.kp k).outN, Pt.keep (same_new hT) _ _ (p2.kp k).outN⟩⟩
  rw [zipD, List.getElem?_zipWith, hd, he]
/-- the walk, its sequence data -/
theorem ef_tup (n : NOk N H) (h : EvD te σ H (.tuple ds)) (hn : noLs ds = true) : EvF N (iTup K te) σ H ds := fun H1 s R q => h H1 s _ fun v H2 k p => by
  have n2 := n.keep (s.trans k)
  obtain ⟨x, xs, rfl, hx, px⟩ := pt_tup.mp p
  exact ⟨x, rfl, ⟨xs, SqT.of hx⟩, q _ H2 k (wk_seq (l := false) (p.intoN n2 (by show noL (.tuple ds) = true; simp only [noL]; exact hn)))⟩
theorem ef_new (n : NOk N H) (h : EvN te σ H ds) (hn : noLs ds = true) : EvF N (iList K te) σ H ds := fun H1 s R q => h H1 s _ fun x xs H2 hx k hp px => by
  have n2 := n.keep (s.trans k)
  have nx : ¬ N x := (n.keep s).free hx
  exact ⟨x, rfl, ⟨xs, SqL.of hp⟩, q _ H2 k (wk_seq (l := true) (pt_lst.mpr ⟨x, xs, rfl, by rw [but_of nx]; exact hp, px.intoN n2 hn⟩))⟩
/-- .. at a place that is known -/
theorem ef_at {l : Bool} (h : EvV te σ H (.ref a)) (p : Pt (but N H) (seqD l ds) (.ref a)) : EvF N (match l with | true => iList K te | false => iTup K te) σ H ds := fun H1 s R q => by
  cases l with
  | true =>
    refine h H1 s _ fun H2 k => ?_
    have p2 := Pt.kp p (s.trans k).kp
    obtain ⟨a', xs, e, ha, hx⟩ := pt_lst.mp p2
    cases e
    exact ⟨a, rfl, ⟨xs, SqL.of (but_at ha)⟩, q _ H2 k (wk_seq (l := true) p2)⟩
  | false =>
    refine h H1 s _ fun H2 k => ?_
    have p2 := Pt.kp p (s.trans k).kp
    obtain ⟨a', xs, e, ha, hx⟩ := pt_tup.mp p2
    cases e
    exact ⟨a, rfl, ⟨xs, SqT.of (but_at ha)⟩, q _ H2 k (wk_seq (l := false) p2)⟩
/-- data without lists, wherever -/
theorem ef_enumT (n : NOk N H) (h : EvD te σ H (.tuple ds)) (hn : noLs ds = true) : EvF N (iEnumX K false (tCons te tNil)) σ H (enumD ds) := fun H1 s R q => h H1 s _ fun v H2 k p => by
  have n2 := n.keep (s.trans k)
  obtain ⟨x, xs, rfl, hx, px⟩ := pt_tup.mp p
  exact ⟨x, xs, rfl, SqT.of hx, q _ H2 k (wk_enumX (l := false) (p.intoN n2 (by show noL (.tuple ds) = true; simp only [noL]; exact hn)))⟩
/-- both sides are data: lists as they stand at the end -/
theorem ef_zip {l1 l2 : Bool} (h : EvD te σ H (seqD l1 ds)) (h2 : EvD tf σ H (seqD l2 es)) (hl : ds.length = es.length) : EvF N0 (iZipX K l1 l2 (tCons te (tCons tf tNil))) σ H (zipD ds es) := fun H1 s R q =>
  h H1 s _ fun v H2 k p => h2 H2 (s.trans k) _ fun u H3 k3 p3 => by
  have p1 := p.keep k3
  obtain ⟨x, rfl⟩ := seq_ref p1
  obtain ⟨y, rfl⟩ := seq_ref p3
  have eb : but N0 H3 = H3 := funext fun a => but_of (fun z => z)
  obtain ⟨xs, sx, _⟩ := sqx_of (K := K) p1
  obtain ⟨ys, sy, _⟩ := sqx_of (K := K) p3
  exact ⟨x, y, xs, ys, rfl, sx, sy, q _ H3 (k.trans k3) (wk_zipX (by rw [eb]; exact p1) (by rw [eb]; exact p3) hl)⟩
theorem EvF.ei {wi : TI} (h : EvF N0 wi σ H ds) : EvI wi σ H ds := fun H1 s R q => h H1 s R fun J H2 k w => q J H2 k (w.mono (fun H' s => s.kp) fun i H x H' _ _ y => y)
theorem ei_zip {l1 l2 : Bool} (h : EvD te σ H (seqD l1 ds)) (h2 : EvD tf σ H (seqD l2 es)) (hl : ds.length = es.length) : EvI (iZipX K l1 l2 (tCons te (tCons tf tNil))) σ H (zipD ds es) := (ef_zip h h2 hl).ei
theorem ei_enum {l : Bool} (h : EvD te σ H (seqD l ds)) : EvI (iEnumX K l (tCons te tNil)) σ H (enumD ds) := fun H1 s R q => h H1 s _ fun v H2 k p => by
  obtain ⟨x, rfl⟩ := seq_ref p
  have eb : but N0 H2 = H2 := funext fun a => but_of (fun z => z)
  obtain ⟨xs, sx, _⟩ := sqx_of (K := K) p
  have w : WkD (ItE K l x) (enumD ds) (Kp N0 H2) := wk_enumX (by rw [eb]; exact p)
  exact ⟨x, xs, rfl, sx, q _ H2 k (w.mono (fun H' s => s.kp) fun i H x H' _ _ y => y)⟩
theorem noL_enum {ds : List PyData} (h : noLs ds = true) : noLs (enumD ds) = true := noLs_all fun d hd => by
  obtain ⟨q, hq, rfl⟩ := List.mem_map.mp hd
  have m := List.fst_mem_of_mem_zipIdx hq
  simp only [noL, noLs, Bool.true_and, Bool.and_true]
  clear hd hq
  induction ds with
  | nil => cases m
  | cons d ds ih =>
    simp only [noLs, Bool.and_eq_true] at h
    rcases List.mem_cons.mp m with e | m
    · rw [e]; exact h.1
    · exact ih h.2 m
/-! ### the for loop -/
theorem s_for {α : Type} {wi : TI} {g : TG} {tb : TS} {D : Ends} (l : List α) (enc : α → PyData) (hi : EvF N wi σ H (l.map enc)) (Pv : Nat → L2.St → Hp → Prop)
    (h0 : ∀ H2, Same H H2 → Pv 0 σ H2) (hst : ∀ i σ' H' H'', Pv i σ' H' → Same H' H'' → Pv i σ' H'')
    (step : ∀ H2, Same H H2 → ∀ i (hi : i < l.length) (σ' : L2.St) (H' : Hp) (v : V), Kp N H2 H' → Pv i σ' H' → Pt H' (enc l[i]) v →
      g v σ' H' fun σ3 H3 => tb { D with nx := fun σ4 H4 => Kp N H2 H4 ∧ Pv (i + 1) σ4 H4, ct := fun σ4 H4 => Kp N H2 H4 ∧ Pv (i + 1) σ4 H4, bk := D.nx } σ3 H3)
    (hd : ∀ H2, Same H H2 → ∀ (σ' : L2.St) (H' : Hp), Kp N H2 H' → Pv l.length σ' H' → D.nx σ' H') : tFor wi g tb D σ H := hi H (Same.refl H) _ fun J H2 k w => by
  rw [WkD, List.length_map] at w
  refine for_it w (fun i σ' H' => Kp N H2 H' ∧ Pv i σ' H') ⟨Kp.refl, h0 H2 k⟩ (fun i σ' H' _ q => q.1) (fun i x σ' H' H'' hi ⟨k1, p⟩ ⟨s2, d, hd', pd⟩ => ?_) fun σ' H' ⟨k1, p⟩ => hd H2 k σ' H' k1 p
  rw [List.getElem?_map, List.getElem?_eq_getElem hi, Option.map_some, Option.some.injEq] at hd'
  subst hd'
  exact step H2 k i hi σ' H'' x (k1.trans s2.kp) (hst i σ' H' H'' p s2) pd
end
end Ro
namespace Ro
open PySem PySem.Spec PyProof.Rows L2

/-! ### what the top has written -/
abbrev CW (K : PySem.W.Frag) : Addr := He.ga K "Watch"
abbrev sM (j : Nat) : Stmt := inClass (top 71) j
abbrev FunG (K : PySem.W.Frag) (mg : Str → Option Value) (x : Str) (i : Nat) (dvs : List V) : Prop := mg x = some (.ref (He.ga K x)) ∧ ∃ fd, FunD K x x (defArgs (top i)) (defBody (top i)) (defScope (top i)) dvs [] (He.ga K x) fd
abbrev FunM (K : PySem.W.Frag) (m q : Str) (j : Nat) (dvs : List V) : Prop := Meth K (CW K) m (He.ma K (CW K) m) ∧ ∃ fd, FunD K m q (defArgs (sM j)) (defBody (sM j)) (defScope (sM j)) dvs [] (He.ma K (CW K) m) fd
def ieBase : List Value := [.type "IndexError", .type "LookupError", .type "Exception", .type "BaseException", .type "object"]
/-- an exception class of the top, without an __init__ of its own -/
structure ExcC (K : PySem.W.Frag) (mg : Str → Option Value) (x : Str) (bm : List Value) (nw : String) : Prop where
  g : mg x = some (.ref (He.ga K x))
  ex : PySem.W.excIn K (He.ga K x) bm nw = true
  kp : PySem.W.keepIn K (.ref (He.ga K x)) = true
  sb : PySem.W.subIn K (.ref (He.ga K x)) (.type "BaseException") = some true
  ty : PySem.W.typeIn K (.ref (He.ga K x)) = some (.type "type")

/-- a dict of the top with text keys: where, its entries -/
structure DicK (K : PySem.W.Frag) (mg : Str → Option Value) (w : World) (x : Str) (kvs : List (Str × Str)) : Prop where
  g : mg x = some (.ref (He.ga K x))
  d : ∃ es n, KDict K w (He.ga K x) es n
  v : ∀ q ∈ kvs, ∃ u, PySem.W.nsIn K (He.ga K x) q.1 = some (some u) ∧ RelV (.str q.2) u
abbrev sentKV : List (Str × Str) := [("port", "bridge"), ("star", "bridge"), ("down", "bridge"), ("aport", "room"), ("astar", "room"), ("up", "room")]
abbrev dialKV : List (Str × Str) := [("port", "aport"), ("star", "astar")]
structure Tx (K : PySem.W.Frag) (mg : Str → Option Value) (w : World) : Prop where
  f_is_whole : FunG K mg "is_whole" 17 []
  f_is_from_to : FunG K mg "is_from_to" 18 []
  f_is_minute : FunG K mg "is_minute" 19 []
  f_is_order : FunG K mg "is_order" 20 []
  f_is_name : FunG K mg "is_name" 21 []
  f_dial_of : FunG K mg "dial_of" 26 []
  f_sent_from : FunG K mg "sent_from" 27 []
  f_is_what : FunG K mg "is_what" 28 []
  f_is_row : FunG K mg "is_row" 29 []
  f_row_of : FunG K mg "row_of" 30 []
  f_is_pair : FunG K mg "is_pair" 32 []
  f_span : FunG K mg "span" 33 [.int 0]
  f_meets : FunG K mg "meets" 34 []
  f_pairs_within : FunG K mg "pairs_within" 35 []
  f_pairs_at : FunG K mg "pairs_at" 36 [.int 0, .int 0]
  f_by_lines : FunG K mg "by_lines" 38 []
  f_ranks : FunG K mg "ranks" 40 []
  f_longest : FunG K mg "longest" 41 []
  f_greatest : FunG K mg "greatest" 43 [.int 0, .int 0]
  f_joining : FunG K mg "joining" 45 [.int 0, .int 0]
  f_fits : FunG K mg "fits" 47 []
  f_changes : FunG K mg "changes" 48 []
  f_counts : FunG K mg "counts" 49 [.int 0, .int 0, .int 0]
  f_best : FunG K mg "best" 50 [.int 0, .int 0, .int 0]
  f_lot : FunG K mg "lot" 54 []
  f_fate : FunG K mg "fate" 57 []
  f_need_ring : FunG K mg "need_ring" 60 []
  f_ring_of : FunG K mg "ring_of" 61 []
  f_is_stretch : FunG K mg "is_stretch" 68 []
  f_need_fit : FunG K mg "need_fit" 69 []
  f_named : FunG K mg "named" 70 []
  m_init : FunM K "__init__" "Watch.__init__" 0 [.int 0, .int 0, .int 0]
  m_eq : FunM K "__eq__" "Watch.__eq__" 2 []
  m_need_house : FunM K "need_house" "Watch.need_house" 3 []
  m_tell : FunM K "tell" "Watch.tell" 4 []
  m_drop : FunM K "drop" "Watch.drop" 5 []
  m_led_on : FunM K "led_on" "Watch.led_on" 6 []
  m_led_to : FunM K "led_to" "Watch.led_to" 7 []
  m_back : FunM K "back" "Watch.back" 8 []
  m_again : FunM K "again" "Watch.again" 9 []
  m_log : FunM K "log" "Watch.log" 10 []
  m_best : FunM K "best" "Watch.best" 11 []
  m_lot : FunM K "lot" "Watch.lot" 12 []
  m_is_ring : FunM K "is_ring" "Watch.is_ring" 13 []
  m_answer_of : FunM K "answer_of" "Watch.answer_of" 14 []
  m_ask : FunM K "ask" "Watch.ask" 15 []
  m_asked : FunM K "asked" "Watch.asked" 17 []
  m_twin : FunM K "twin" "Watch.twin" 18 []
  f_law_draw : FunG K mg "_law_draw" 73 []
  f_law_word : FunG K mg "_law_word" 74 []
  f_law_row : FunG K mg "_law_row" 75 []
  f_law_two : FunG K mg "_law_two" 76 []
  f_law_numbers : FunG K mg "_law_numbers" 77 []
  f_law_tellings : FunG K mg "_law_tellings" 78 []
  f_law_all : FunG K mg "_law_all" 79 []
  f_law_made : FunG K mg "_law_made" 80 []
  f_law_in_vain : FunG K mg "_law_in_vain" 81 []
  f_law_led : FunG K mg "_law_led" 82 []
  f_law : FunG K mg "law" 83 []
  n_isinstance : mg "isinstance" = none
  n_int : mg "int" = none
  n_bool : mg "bool" = none
  n_str : mg "str" = none
  n_tuple : mg "tuple" = none
  n_list : mg "list" = none
  n_dict : mg "dict" = none
  n_len : mg "len" = none
  n_all : mg "all" = none
  n_sorted : mg "sorted" = none
  n_max : mg "max" = none
  n_min : mg "min" = none
  n_sum : mg "sum" = none
  n_enumerate : mg "enumerate" = none
  n_zip : mg "zip" = none
  n_range : mg "range" = none
  n_abs : mg "abs" = none
  n_LookupError : mg "LookupError" = none
  i_MOST_MINUTE : ∃ t, mg "MOST_MINUTE" = some (.int 99999 t)
  i_MOST_ORDER : ∃ t, mg "MOST_ORDER" = some (.int 4 t)
  i_MOST_LETTERS : ∃ t, mg "MOST_LETTERS" = some (.int 8 t)
  i_MOST_ROWS : ∃ t, mg "MOST_ROWS" = some (.int 40 t)
  i_MOST_LAG : ∃ t, mg "MOST_LAG" = some (.int 60 t)
  i_MOST_APART : ∃ t, mg "MOST_APART" = some (.int 1440 t)
  i_MOST_WIDE : ∃ t, mg "MOST_WIDE" = some (.int 240 t)
  i_MOST_NUMBER : ∃ t, mg "MOST_NUMBER" = some (.int 999 t)
  s_LETTERS : ∃ t, mg "LETTERS" = some (.str "abcdefghijklmnopqrstuvwxyz" t)
  t_WORDED : mg "WORDED" = some (.ref (He.ga K "WORDED")) ∧ ∀ H : Hp, SqT K H (He.ga K "WORDED") [.str "down", .str "up"]
  t_BELLS_rings : mg "BELLS_rings" = some (.ref (He.ga K "BELLS_rings")) ∧ ∀ H : Hp, SqT K H (He.ga K "BELLS_rings") [.str "port", .str "star"]
  t_BELLS_watch : mg "BELLS_watch" = some (.ref (He.ga K "BELLS_watch")) ∧ ∀ H : Hp, SqT K H (He.ga K "BELLS_watch") [.str "port", .str "star"]
  d_SENT : DicK K mg w "SENT" sentKV
  d_DIALS : DicK K mg w "DIALS" dialKV
  g_best_counts : mg "best_counts" = some (.ref (He.ga K "best"))
  g_lot_lots : mg "lot_lots" = some (.ref (He.ga K "lot"))
  cls : Cls K (CW K)
  mkr : Mk K (CW K) (He.ma K (CW K) "__init__")
  gW : mg "Watch" = some (.ref (CW K))
  a_lag : NoAttr K (CW K) "lag"
  a_low : NoAttr K (CW K) "low"
  a_high : NoAttr K (CW K) "high"
  a_kept : NoAttr K (CW K) "kept"
  a_past : NoAttr K (CW K) "past"
  a_coming : NoAttr K (CW K) "coming"
  a_told : NoAttr K (CW K) "told"
  x_Taken : ExcC K mg "Taken" He.veBase "ValueError.__new__"
  x_NoNumber : ExcC K mg "NoNumber" ieBase "IndexError.__new__"
end Ro
namespace Ro
open PySem PySem.Spec PyProof.Rows L2
variable [TabsC]

/-! ### a def, a method, with its promise -/
structure Cal (P : Program) (w : World) (K : PySem.W.Frag) (mg : Str → Option Value) (base : Heap) (k : Nat) (x : Str) (ps : List Str) (sp : Sp) : Prop where
  g : mg x = some (.ref (He.ga K x))
  ex : ∃ fd, FnOk P w K mg base (L2.CX P w) k (He.ga K x) fd ps sp ∧ Binds K fd ps []
  kp : PySem.W.keepIn K (.ref (He.ga K x)) = true
structure CalM (P : Program) (w : World) (K : PySem.W.Frag) (mg : Str → Option Value) (base : Heap) (k : Nat) (m : Str) (ps : List Str) (sp : Sp) : Prop where
  me : Meth K (CW K) m (He.ma K (CW K) m)
  ex : ∃ fd, FnOk P w K mg base (L2.CX P w) k (He.ma K (CW K) m) fd ps sp ∧ Binds K fd ps []
/-- .. the last arguments left to their defaults -/
structure CalD (P : Program) (w : World) (K : PySem.W.Frag) (mg : Str → Option Value) (base : Heap) (k : Nat) (x : Str) (ps : List Str) (dvs : List V) (sp : Sp) : Prop where
  g : mg x = some (.ref (He.ga K x))
  ex : ∃ fd ds, FnOk P w K mg base (L2.CX P w) k (He.ga K x) fd ps sp ∧ Vals dvs ds ∧ Binds K fd ps ds
  kp : PySem.W.keepIn K (.ref (He.ga K x)) = true
theorem Cal.mono {P w K mg base j k x ps sp} (c : Cal P w K mg base j x ps sp) (h : j ≤ k) : Cal P w K mg base k x ps sp := ⟨c.g, let ⟨fd, F, b⟩ := c.ex; ⟨fd, F.mono h, b⟩, c.kp⟩
theorem CalM.mono {P w K mg base j k x ps sp} (c : CalM P w K mg base j x ps sp) (h : j ≤ k) : CalM P w K mg base k x ps sp := ⟨c.me, let ⟨fd, F, b⟩ := c.ex; ⟨fd, F.mono h, b⟩⟩
section
variable {X : Cx} {k : Nat} {x m : Str} {ps : List Str} {sp : Sp} {p pos apos : Pos} {e o : Expr} {es : List Expr} {t : TA} {ta : TE}
/-- f(e, ..) that raises nothing -/
theorem pe_cal (C : Cal X.prog X.w X.K X.mg X.base k x ps sp) (hr : Room k X.A) (ha : PA X (e :: es) t) (hg : Gl X x := by rfl) (hdb : (x == ("__debug__" : Str)) = false := by decide)
    (he : starEach (e :: es) X.env = (false, eval e X.env) :: starEach es X.env := by rfl) (hpl : (backTo pos (starEach es X.env)).any (·.1) = false := by rfl) :
    PE X (.Call (.Name x p) (e :: es) [] pos) (tCall sp [] E0 t) := by
  obtain ⟨fd, F, b⟩ := C.ex
  exact pe_call F hr hg C.g C.kp b .nil passL ha hdb he hpl
theorem pe_cald {dvs : List V} (C : CalD X.prog X.w X.K X.mg X.base k x ps dvs sp) (hr : Room k X.A) (ha : PA X (e :: es) t) (hg : Gl X x := by rfl) (hdb : (x == ("__debug__" : Str)) = false := by decide)
    (he : starEach (e :: es) X.env = (false, eval e X.env) :: starEach es X.env := by rfl) (hpl : (backTo pos (starEach es X.env)).any (·.1) = false := by rfl) :
    PE X (.Call (.Name x p) (e :: es) [] pos) (tCall sp dvs E0 t) := by
  obtain ⟨fd, ds, F, v, b⟩ := C.ex
  exact pe_call F hr hg C.g C.kp b v passL ha hdb he hpl
/-- o.m(e, ..), o.m() -/
theorem pe_calm {pl : Sem Bool} (he : PE X o ta) (c : Cls X.K (CW X.K)) (C : CalM X.prog X.w X.K X.mg X.base k m ps sp) (hr : Room k X.A) (ha : PA X (e :: es) t)
    (hst : starEach (e :: es) X.env = (false, eval e X.env) :: starEach es X.env := by rfl) (hpl : (backTo pos (starEach es X.env)).any (·.1) = false := by rfl)
    (ht : eval (.Call (.Attribute o m apos) (e :: es) [] pos) X.env = (do
      let ov ← eval o X.env
      standAt apos.atName
      let (f, first) ← holding [ov] (getMethod ov m pl)
      callWith pos f first (backTo pos (starEach (e :: es) X.env)) (backToKw pos (keywordEach [] X.env))) := by rfl) :
    PE X (.Call (.Attribute o m apos) (e :: es) [] pos) (tMeth (CW X.K) m sp [] E0 ta t) := by
  obtain ⟨fd, F, b⟩ := C.ex
  exact pe_meth (pl := pl) he c C.me F hr b .nil passL ha hst hpl ht
theorem pe_calm0 {pl : Sem Bool} (he : PE X o ta) (c : Cls X.K (CW X.K)) (C : CalM X.prog X.w X.K X.mg X.base k m ps sp) (hr : Room k X.A)
    (ht : eval (.Call (.Attribute o m apos) [] [] pos) X.env = (do
      let ov ← eval o X.env
      standAt apos.atName
      let (f, first) ← holding [ov] (getMethod ov m pl)
      callWith pos f first (backTo pos (starEach [] X.env)) (backToKw pos (keywordEach [] X.env))) := by rfl) :
    PE X (.Call (.Attribute o m apos) [] [] pos) (tMeth (CW X.K) m sp [] E0 ta tNil) := by
  obtain ⟨fd, F, b⟩ := C.ex
  exact pe_meth0 (pl := pl) he c C.me F hr b .nil passL ht
/-- a module's constant -/
theorem pe_gi {x : Str} {i : Int} {pos : Pos} (h : ∃ t, X.mg x = some (.int i t)) (hg : Gl X x := by rfl) (hd : (x == ("__debug__" : Str)) = false := by decide) : PE X (.Name x pos) (tC (.int i)) := by
  obtain ⟨t, h⟩ := h
  exact pe_glob hg h ⟨t, rfl⟩ hd
theorem pe_gs {x z : Str} {pos : Pos} (h : ∃ t, X.mg x = some (.str z t)) (hg : Gl X x := by rfl) (hd : (x == ("__debug__" : Str)) = false := by decide) : PE X (.Name x pos) (tC (.str z)) := by
  obtain ⟨t, h⟩ := h
  exact pe_glob hg h ⟨t, rfl⟩ hd
theorem pe_gr {x : Str} {a : Addr} {pos : Pos} (h : X.mg x = some (.ref a)) (hg : Gl X x := by rfl) (hd : (x == ("__debug__" : Str)) = false := by decide) : PE X (.Name x pos) (tC (.ref a)) := pe_glob (v := .ref a) hg h rfl hd
/-- a built-in class as a value -/
theorem pe_ty {x : Str} {T : String} {pos : Pos} (h : X.mg x = none) (hv : bootBuiltins x = some (.type T)) (hg : Gl X x := by rfl) (hn : x ≠ "__name__" := by decide) (hd : (x == ("__debug__" : Str)) = false := by decide) : PE X (.Name x pos) (tC (.ty T)) := pe_bltn hg h hv rfl hn hd
end
theorem eqV_str {x a : Str} : eqV (.str a) (.str x) = decide (x = a) := by
  show (a == x) = decide (x = a)
  by_cases h : x = a
  · subst h
    rw [decide_eq_true rfl]
    exact beq_self_eq_true _
  · rw [decide_eq_false h]
    exact beq_eq_false_iff_ne.mpr fun e => h e.symm
theorem inV_str2 {x a b : Str} : inV (.str x) [.str a, .str b] = decide (x = a ∨ x = b) := by
  simp only [inV, List.any_cons, List.any_nil, Bool.or_false, eqV_str, Bool.decide_or]
theorem inV_str3 {x a b c : Str} : inV (.str x) [.str a, .str b, .str c] = decide (x = a ∨ x = b ∨ x = c) := by
  simp only [inV, List.any_cons, List.any_nil, Bool.or_false, eqV_str, Bool.decide_or]
/-! ### isinstance of data -/
def tyD : PyData → String
  | .none => "NoneType" | .bool _ => "bool" | .int _ => "int" | .str _ => "str" | .list _ => "list" | .tuple _ => "tuple" | .dict _ => "dict"
theorem tyOf_data {K : PySem.W.Frag} {H : Hp} {d : PyData} {v : V} (p : Pt H d v) : TyX K H v (.type (tyD d)) := by
  cases d with
  | none => cases pt_non.mp p; exact .base .non
  | bool b => cases pt_bl.mp p; exact .base (.bl b)
  | int i => cases pt_int.mp p; exact .base (.int i)
  | str x => cases pt_str.mp p; exact .base (.str x)
  | list ds => obtain ⟨a, xs, rfl, ha, _⟩ := pt_lst.mp p; exact .base (.lst ha)
  | tuple ds => obtain ⟨a, xs, rfl, ha, _⟩ := pt_tup.mp p; exact .base (.tup ha)
  | dict _ => simp only [Pt] at p
/-- isinstance(x, T), x data, T a built-in class that is written -/
theorem ed_isi {K : PySem.W.Frag} {σ : L2.St} {H : Hp} {te : TE} {d : PyData} {T : String} {b : Bool} (h : EvD te σ H d) (e : kitB (tyD d) T = some b) :
    EvD (tCB (rIsi K) (tCons te (tCons (tC (.ty T)) tNil))) σ H (.bool b) := fun H1 a Q q =>
  h H1 a _ fun x H2 k p => ⟨x, .ty T, _, _, b, rfl, .ty T, tyOf_data p, kit_ty e, q _ H2 k (pt_bl.mpr rfl)⟩
def isInt : PyData → Bool
  | .none => false
  | .bool _ => true
  | .int _ => true
  | .str _ => false
  | .list _ => false
  | .tuple _ => false
  | .dict _ => false
theorem kit_int : ∀ d : PyData, kitB (tyD d) "int" = some (isInt d)
  | .none => (by decide +kernel : kitB "NoneType" "int" = some false)
  | .bool _ => (by decide +kernel : kitB "bool" "int" = some true)
  | .int _ => (by decide +kernel : kitB "int" "int" = some true)
  | .str _ => (by decide +kernel : kitB "str" "int" = some false)
  | .list _ => (by decide +kernel : kitB "list" "int" = some false)
  | .tuple _ => (by decide +kernel : kitB "tuple" "int" = some false)
  | .dict _ => (by decide +kernel : kitB "dict" "int" = some false)
def isBool : PyData → Bool
  | .none => false
  | .bool _ => true
  | .int _ => false
  | .str _ => false
  | .list _ => false
  | .tuple _ => false
  | .dict _ => false
theorem kit_bool : ∀ d : PyData, kitB (tyD d) "bool" = some (isBool d)
  | .none => (by decide +kernel : kitB "NoneType" "bool" = some false)
  | .bool _ => (by decide +kernel : kitB "bool" "bool" = some true)
  | .int _ => (by decide +kernel : kitB "int" "bool" = some false)
  | .str _ => (by decide +kernel : kitB "str" "bool" = some false)
  | .list _ => (by decide +kernel : kitB "list" "bool" = some false)
  | .tuple _ => (by decide +kernel : kitB "tuple" "bool" = some false)
  | .dict _ => (by decide +kernel : kitB "dict" "bool" = some false)
def isStr : PyData → Bool
  | .none => false
  | .bool _ => false
  | .int _ => false
  | .str _ => true
  | .list _ => false
  | .tuple _ => false
  | .dict _ => false
theorem kit_str : ∀ d : PyData, kitB (tyD d) "str" = some (isStr d)
  | .none => (by decide +kernel : kitB "NoneType" "str" = some false)
  | .bool _ => (by decide +kernel : kitB "bool" "str" = some false)
  | .int _ => (by decide +kernel : kitB "int" "str" = some false)
  | .str _ => (by decide +kernel : kitB "str" "str" = some true)
  | .list _ => (by decide +kernel : kitB "list" "str" = some false)
  | .tuple _ => (by decide +kernel : kitB "tuple" "str" = some false)
  | .dict _ => (by decide +kernel : kitB "dict" "str" = some false)
def isTuple : PyData → Bool
  | .none => false
  | .bool _ => false
  | .int _ => false
  | .str _ => false
  | .list _ => false
  | .tuple _ => true
  | .dict _ => false
theorem kit_tuple : ∀ d : PyData, kitB (tyD d) "tuple" = some (isTuple d)
  | .none => (by decide +kernel : kitB "NoneType" "tuple" = some false)
  | .bool _ => (by decide +kernel : kitB "bool" "tuple" = some false)
  | .int _ => (by decide +kernel : kitB "int" "tuple" = some false)
  | .str _ => (by decide +kernel : kitB "str" "tuple" = some false)
  | .list _ => (by decide +kernel : kitB "list" "tuple" = some false)
  | .tuple _ => (by decide +kernel : kitB "tuple" "tuple" = some true)
  | .dict _ => (by decide +kernel : kitB "dict" "tuple" = some false)
def isList : PyData → Bool
  | .none => false
  | .bool _ => false
  | .int _ => false
  | .str _ => false
  | .list _ => true
  | .tuple _ => false
  | .dict _ => false
theorem kit_list : ∀ d : PyData, kitB (tyD d) "list" = some (isList d)
  | .none => (by decide +kernel : kitB "NoneType" "list" = some false)
  | .bool _ => (by decide +kernel : kitB "bool" "list" = some false)
  | .int _ => (by decide +kernel : kitB "int" "list" = some false)
  | .str _ => (by decide +kernel : kitB "str" "list" = some false)
  | .list _ => (by decide +kernel : kitB "list" "list" = some true)
  | .tuple _ => (by decide +kernel : kitB "tuple" "list" = some false)
  | .dict _ => (by decide +kernel : kitB "dict" "list" = some false)
end Ro
namespace Ro
open PySem PySem.Spec PyProof.Rows L2
variable [TabsC]
section
variable {K : PySem.W.Frag} {σ : L2.St} {H H' : Hp} {p a b : Addr} {d e f z : PyData} {ds es zs : List PyData} {te tf : TE} {D : Ends} {tz : TS} {v : V}
theorem noLs_app : ∀ {ds es : List PyData}, noLs ds = true → noLs es = true → noLs (ds ++ es) = true
  | [], _, _, h => h
  | d :: ds, es, h, k => by
    rw [List.cons_append]
    simp only [noLs, Bool.and_eq_true] at h ⊢
    exact ⟨h.1, noLs_app h.2 k⟩
theorem noLs_one (h : noL d = true) : noLs [d] = true := by simp only [noLs, h, Bool.and_self]
theorem noLs_map {α : Type} {l : List α} {g : α → PyData} (h : ∀ x ∈ l, noL (g x) = true) : noLs (l.map g) = true := noLs_all fun d hd => by
  obtain ⟨x, hx, rfl⟩ := List.mem_map.mp hd
  exact h x hx
theorem gt2 {m n : Nat} {Q : L2.St → Hp → Prop} (p : Pt H (.tuple [d, e]) v) (k : ∀ x y, Pt H d x → Pt H e y → Q ((σ.set m (some x)).set n (some y)) H) : gTup K 2 (gCons (gName m) (gCons (gName n) gNil)) v σ H Q := by
  obtain ⟨a, x, y, rfl, ha, px, py⟩ := pt_2.mp p
  exact ⟨a, _, rfl, SqT.of ha, rfl, x, [y], rfl, y, [], rfl, rfl, k x y px py⟩
theorem gt3 {m n o : Nat} {Q : L2.St → Hp → Prop} (p : Pt H (.tuple [d, e, f]) v) (k : ∀ x y w, Pt H d x → Pt H e y → Pt H f w → Q (((σ.set m (some x)).set n (some y)).set o (some w)) H) : gTup K 3 (gCons (gName m) (gCons (gName n) (gCons (gName o) gNil))) v σ H Q := by
  obtain ⟨a, x, y, w, rfl, ha, px, py, pw⟩ := pt_3.mp p
  exact ⟨a, _, rfl, SqT.of ha, rfl, x, [y, w], rfl, y, [w], rfl, w, [], rfl, rfl, k x y w px py pw⟩
theorem sizes {n : Nat} (h : n ≤ 1000000) : n ≤ sizeLine := by rw [sizeLine_eq]; omega
theorem sizes1 {n : Nat} (h : n < 1000000) : n < sizeLine := by rw [sizeLine_eq]; omega
/-- p.append(e), p a list in a slot -/
theorem s_append {n : Nat} (hv : σ[n]? = some (some (.ref p))) (hp : Pt H (.list ds) (.ref p)) (hn : noLs ds = true) (hz : ds.length < 1000000) (h : EvD te σ H d) (hd : noL d = true)
    (k : ∀ H1, Kp (· = p) H H1 → Pt H1 (.list (ds ++ [d])) (.ref p) → D.nx σ H1) : tDrop (tBM K "list" rAppend (tVar n) (tCons te tNil)) D σ H := by
  obtain ⟨a, xs, e, ha, hx⟩ := pt_lst.mp hp
  cases e
  refine ⟨_, hv, .inl ⟨rfl, xs, SqL.of ha⟩, h H (Same.refl H) _ fun v H1 k1 pv => ?_⟩
  have ha1 := k1 _ _ ha
  refine ⟨p, xs, v, rfl, rfl, ha1, by rw [hx.length]; exact sizes1 hz, k _ (k1.kp.mut rfl ha1 True.intro) (pt_lst.mpr ⟨p, _, rfl, upd_same, ?_⟩)⟩
  exact PtA.keepT (tk_lst ha1) _ _ (noLs_app hn (noLs_one hd)) ((PtA.keep k1 _ _ hx).snoc pv)
theorem q_append {n : Nat} (hv : σ[n]? = some (some (.ref p))) (hp : Pt H (.list ds) (.ref p)) (hn : noLs ds = true) (hz : ds.length < 1000000) (h : EvD te σ H d) (hd : noL d = true)
    (k : ∀ H1, Kp (· = p) H H1 → Pt H1 (.list (ds ++ [d])) (.ref p) → tz D σ H1) : tSeq (tDrop (tBM K "list" rAppend (tVar n) (tCons te tNil))) tz D σ H := s_append (D := { D with nx := tz D }) hv hp hn hz h hd k
/-- p.extend(a new list) -/
theorem s_extend {n : Nat} (hv : σ[n]? = some (some (.ref p))) (hp : Pt H (.list ds) (.ref p)) (hn : noLs ds = true) (h : EvN te σ H es) (he : noLs es = true) (hz : ds.length + es.length ≤ 1000000)
    (k : ∀ H1, Kp (· = p) H H1 → Pt H1 (.list (ds ++ es)) (.ref p) → D.nx σ H1) : tDrop (tBM K "list" rExtend (tVar n) (tCons te tNil)) D σ H := by
  obtain ⟨a, xs, e, ha, hx⟩ := pt_lst.mp hp
  cases e
  refine ⟨_, hv, .inl ⟨rfl, xs, SqL.of ha⟩, h H (Same.refl H) _ fun b ys H1 hb k1 hby py => ?_⟩
  have ha1 := k1 _ _ ha
  refine ⟨p, b, xs, ys, rfl, rfl, ha1, hby, by rw [hx.length, py.length]; exact sizes hz, k _ (k1.kp.mut rfl ha1 True.intro) (pt_lst.mpr ⟨p, _, rfl, upd_same, ?_⟩)⟩
  exact PtA.keepT (tk_lst ha1) _ _ (noLs_app hn he) ((PtA.keep k1 _ _ hx).append py)
/-- a list of data without lists at p: N = {p} is fit -/
theorem nok_one (hp : Pt H (.list ds) (.ref p)) : NOk (· = p) H := fun b hb => by
  obtain ⟨a, xs, e, ha, hx⟩ := pt_lst.mp hp
  cases e
  exact ⟨.lst xs, by rw [hb]; exact ha, True.intro⟩
end
end Ro
namespace Ro
open PySem PySem.Spec PyProof.Rows L2 PySem.W
variable [TabsC]
/-! ### sorted, max, min over data -/
section
variable {X : Cx} {pins : List (Addr × Obj)} {σ : L2.St} {H : Hp} {s : Shared} {α : Type} {enc : α → PyData}
/-- a value stands for x -/
def Stands (H : Hp) (enc : α → PyData) (v : Value) (x : α) : Prop := ∃ y, RelV y v ∧ Pt H (enc x) y
theorem each_of : ∀ {l : List α} {xs : List V} {vs : List Value}, PtA H (l.map enc) xs → Vals xs vs → EachIs (Stands H enc) vs l
  | [], xs, vs, p, r => by
    cases ptA_nil.mp p
    cases r
    exact .nil
  | x :: l, xs, vs, p, r => by
    obtain ⟨y, ys, rfl, p1, p2⟩ := ptA_cons.mp p
    cases r with
    | cons r1 r2 => exact .cons ⟨y, r1, p1⟩ (each_of p2 r2)
theorem each_back : ∀ {l : List α} {vs : List Value}, EachIs (Stands H enc) vs l → ∃ xs, Vals xs vs ∧ PtA H (l.map enc) xs
  | [], vs, e => by
    cases e
    exact ⟨[], .nil, .nil⟩
  | x :: l, vs, e => by
    cases e with
    | cons e1 e2 =>
      obtain ⟨y, r, p⟩ := e1
      obtain ⟨ys, rs, ps⟩ := each_back e2
      exact ⟨y :: ys, .cons r rs, .cons p ps⟩
theorem each_reads (I : Inv X pins σ H s) {l : List α} {vs : List Value} (e : EachIs (Stands H enc) vs l) : EachIs (fun v b => ∃ as, Reads s.heap v (enc b) as) vs l :=
  e.mono fun v b ⟨y, r, p⟩ => Dp.reads I (enc b) y v p.dp r
end
def SortD (rev : Bool) (a : Addr) (H : Hp) (Q : VK) : Prop := ∃ (α : Type) (l : List α) (enc : α → PyData), Pt H (.list (l.map enc)) (.ref a) ∧ AllAlike (l.map enc) ∧ Sortable (l.map enc) ∧ (∀ x ∈ l, (enc x).depth ≤ 60) ∧
  ∀ p ys, H p = none → PtA H ((l.mergeSort (dataLe rev enc)).map enc) ys → Q (.ref p) (upd H p (.lst ys))
def rSortD : List V → Hp → VK → Prop := fun vs H Q => ∃ a, vs = [.ref a] ∧ SortD false a H Q
def rSortDR (rev : Bool) : List V → List V → Hp → VK → Prop := fun vs zs H Q => ∃ a, vs = [.ref a] ∧ zs = [.bl rev] ∧ SortD rev a H Q
section
variable {X : Cx}
theorem sort_end {pins : List (Addr × Obj)} {σ : L2.St} {H : Hp} {s : Shared} {Q : VK} {α : Type} {l : List α} {enc : α → PyData} {rev : Bool} {its out : List Value} (I : Inv X pins σ H s) (hz : l.length ≤ sizeLine)
    (q : ∀ p ys, H p = none → PtA H ((l.mergeSort (dataLe rev enc)).map enc) ys → Q (.ref p) (upd H p (.lst ys))) (e : EachIs (Stands H enc) out (l.mergeSort (dataLe rev enc))) : EP X pins σ Q (.ref (s.heap.objs.size + 1)) { s with heap := PyProof.Rows.sortedAll s.heap its (List.toArray out) } := by
  obtain ⟨ys, rv, pv⟩ := each_back e
  obtain ⟨ep, he'⟩ := PyProof.Rows.sortedAll_at s.heap its out.toArray
  have hl : ys.length ≤ sizeLine := by rw [pv.length, List.length_map, List.length_mergeSort]; exact hz
  exact ⟨.ref _, upd H (s.heap.objs.size + 1) (.lst ys), I.laid (t' := s.toks) (fun _ _ => PyProof.Rows.sortedAll_old) (Nat.le_succ _) ⟨hl, out, ep, rv, he'⟩, rfl, q _ _ (I.hok.fresh (Nat.le_succ _)) pv⟩
theorem cr_sortD (hu : X.A.units + 64 < cLine) : CallR X (.builtin "sorted") rSortD := by
  intro pins s σ H vs us Q I r h
  obtain ⟨a, rfl, α, l, enc, p, al, so, dd, q⟩ := h
  obtain ⟨a', xs, e, ha, hx⟩ := pt_lst.mp p
  cases e
  obtain ⟨its, rv, hl, hz⟩ := I.list (SqL.of ha)
  rw [Vals.ref1 r]
  have ee := each_of hx rv
  have hz' : l.length ≤ sizeLine := by rw [hx.length, List.length_map] at hz; exact hz
  exact sorted_data hl.isList ee (each_reads I ee) al so hz' (fun x hx => by have := dd x hx; omega) fun out _ eo => sort_end I hz' q eo
theorem cr_sortDR {rev : Bool} (hu : X.A.units + 64 < cLine) : CallRK X (.builtin "sorted") [Str.ofString "reverse"] (rSortDR rev) := by
  intro pins s σ H vs zs us ws Q I r rz h
  obtain ⟨a, rfl, rfl, α, l, enc, p, al, so, dd, q⟩ := h
  obtain ⟨a', xs, e, ha, hx⟩ := pt_lst.mp p
  cases e
  obtain ⟨its, rv, hl, hz⟩ := I.list (SqL.of ha)
  rw [Vals.ref1 r]
  obtain ⟨w1, rfl, e1⟩ := vals1 rz
  obtain rfl : w1 = Value.bool rev := e1
  have ee := each_of hx rv
  have hz' : l.length ≤ sizeLine := by rw [hx.length, List.length_map] at hz; exact hz
  exact sorted_rev_data hl.isList ee (each_reads I ee) al so hz' (fun x hx => by have := dd x hx; omega) fun out _ eo => sort_end I hz' q eo
/-- max, min of whole numbers with default= -/
def rBestI (g : Int → Int → Int) : List V → List V → Hp → VK → Prop := fun vs zs H Q => ∃ (a : Addr) (ns : List Int) (d : V), vs = [.ref a] ∧ zs = [d] ∧ H a = some (.lst (ns.map V.int)) ∧ (ns = [] → Q d H) ∧ ∀ n r, ns = n :: r → Q (.int (r.foldl g n)) H
theorem alike_i (ns : List Int) : AlikeAll (ns.map PyData.int) := by
  refine ⟨fun x hx y hy => ?_, fun x hx => ?_⟩
  · obtain ⟨i, _, rfl⟩ := List.mem_map.mp hx
    obtain ⟨j, _, rfl⟩ := List.mem_map.mp hy
    simp [alike]
  · obtain ⟨i, _, rfl⟩ := List.mem_map.mp hx
    exact fun z => by cases z
theorem readsI {h : Heap} {i : Int} {v : Value} {as : List Addr} (r : Reads h v (.int i) as) : ∃ t, v = .int i t := by
  cases r
  exact ⟨_, rfl⟩
theorem cr_maxDef (hc : X.calm = true) (hu : X.A.units + 64 < cLine) : CallRK X (.builtin "max") [Str.ofString "default"] (rBestI max) := by
  intro pins s σ H vs zs us ws Q I r rz h
  obtain ⟨a, ns, d, rfl, rfl, ha, q0, q1⟩ := h
  obtain ⟨its, rv, hl, hz⟩ := I.list (SqL.of ha)
  rw [Vals.ref1 r]
  obtain ⟨w1, rfl, e1⟩ := vals1 rz
  obtain ⟨as, rd⟩ := Dp.readsAll I (ns.map PyData.int) _ its (PtA.dp _ _ (PtA.ints ns)) rv
  refine max_list_default (I.ok.hd hc) hl.isList (by simpa using rd) (alike_i ns) (by rw [depth_ints]; omega) (fun en h' tk k => ?_) fun y ys i v h' tk bs ey hv rb k => ?_
  · have en' : ns = [] := by cases ns with | nil => rfl | cons _ _ => cases en
    exact ⟨d, H, I.kept (t' := tk) k, e1, q0 en'⟩
  · cases ns with
    | nil => cases ey
    | cons n r' =>
      rw [List.map_cons, List.cons.injEq] at ey
      obtain ⟨rfl, rfl⟩ := ey
      rw [maxD_ints] at rb
      obtain ⟨t, rfl⟩ := readsI rb
      exact ⟨.int _, H, I.kept (t' := tk) k, ⟨t, rfl⟩, q1 n r' rfl⟩
theorem cr_minDef (hc : X.calm = true) (hu : X.A.units + 64 < cLine) : CallRK X (.builtin "min") [Str.ofString "default"] (rBestI min) := by
  intro pins s σ H vs zs us ws Q I r rz h
  obtain ⟨a, ns, d, rfl, rfl, ha, q0, q1⟩ := h
  obtain ⟨its, rv, hl, hz⟩ := I.list (SqL.of ha)
  rw [Vals.ref1 r]
  obtain ⟨w1, rfl, e1⟩ := vals1 rz
  obtain ⟨as, rd⟩ := Dp.readsAll I (ns.map PyData.int) _ its (PtA.dp _ _ (PtA.ints ns)) rv
  refine min_list_default (I.ok.hd hc) hl.isList (by simpa using rd) (alike_i ns) (by rw [depth_ints]; omega) (fun en h' tk k => ?_) fun y ys i v h' tk bs ey hv rb k => ?_
  · have en' : ns = [] := by cases ns with | nil => rfl | cons _ _ => cases en
    exact ⟨d, H, I.kept (t' := tk) k, e1, q0 en'⟩
  · cases ns with
    | nil => cases ey
    | cons n r' =>
      rw [List.map_cons, List.cons.injEq] at ey
      obtain ⟨rfl, rfl⟩ := ey
      rw [minD_ints] at rb
      obtain ⟨t, rfl⟩ := readsI rb
      exact ⟨.int _, H, I.kept (t' := tk) k, ⟨t, rfl⟩, q1 n r' rfl⟩
end
end Ro
namespace Ro
open PySem PySem.Spec PyProof.Rows L2
variable [TabsC]
/-! ### sum(lists, start=[]) -/
theorem args_sum_start (a v : Value) : argsOk "sum" ⟨[a], [(Str.ofString "start", v)]⟩ := by unfold argsOk; kernel_rfl
section
variable {prog : Program} {w : World} {A : Around} {R : Result → Shared → Prop} {L : Addr} {items : Array Value}
theorem sum_lists_loop (hh : A.handled = none) (I S : Addr) (hIS : I ≠ S) (hLI : L ≠ I) (hLS : L ≠ S) : ∀ (rest : List (Addr × List Value)) (i : Nat) (s : Shared) (T c n : Nat) (acc : List Value),
    items.toList.drop i = rest.map (fun r => Value.ref r.1) → s.heap.IsListIter I L i → s.heap.IsList L items → s.heap.get? S = some { cls := .type "list", dict := none, data := .seq #[.ref T] c, slots := #[] } →
    IsL s.heap T acc.toArray n → T ≠ I → T ≠ S → (∀ r ∈ rest, r.1 ≠ I ∧ r.1 ≠ S ∧ ∃ m, IsL s.heap r.1 r.2.toArray m) → acc.length + (rest.map fun r => r.2.length).sum ≤ sizeLine →
    (∀ (h' : Heap) (T' n' : Nat), (∀ b o, b ≠ I → b ≠ S → s.heap.get? b = some o → h'.get? b = some o) → IsL h' T' (acc ++ (rest.map Prod.snd).flatten).toArray n' → (rest = [] → T' = T) → (rest ≠ [] → s.heap.objs.size ≤ T') → R (.ok (.ret (.ref T'))) { s with heap := h' }) →
    codeAny (model prog w) A (.builtin "sum.loop" ⟨[.ref I, .ref S, rawInt 2, rawInt 0], []⟩) R s
  | [], i, s, T, c, n, acc, hd, hI, hL, hS, hT, tI, tS, hr, hz, hR => by
    have hn : items[i]? = none := by
      have : items.toList.length ≤ i := List.drop_eq_nil_iff.mp hd
      rw [Array.length_toList] at this
      exact Array.getElem?_eq_none this
    refine codeAny_builtin F.entry_sum_loop ?_
    rw [Around.under_plainId F.plain_sum_loop _]
    show wpAny _ A.in1 (seqItems? (.ref S) >>= _) _ _ s
    refine wpAny_bind (wpAny_seqItems hS rfl ?_)
    show wpAny _ A.in1 (tryCatch (pyNext (.ref I)) _ >>= _) _ _ s
    refine wpAny_bind (wpAny_tryCatch (wpAny_pyNext_list_end (show A.in1.handled = none from hh) hI hL hn fun h' eb => ?_))
    refine wpAny_pure (hR h' T n (fun b o b1 b2 e => eb b o b1 e) ?_ (fun _ => rfl) fun z => (z rfl).elim)
    rw [List.map_nil, List.flatten_nil, List.append_nil]
    exact eb T _ tI hT
  | r :: rest, i, s, T, c, n, acc, hd, hI, hL, hS, hT, tI, tS, hr, hz, hR => by
    have hx : items[i]? = some (.ref r.1) := by
      have : items.toList[i]? = some (.ref r.1) := by
        have q := congrArg (fun l => l[0]?) hd
        simpa using q
      simpa using this
    have hd' : items.toList.drop (i + 1) = rest.map (fun r => Value.ref r.1) := by
      have q := congrArg (fun l => l.drop 1) hd
      simpa [List.drop_drop] using q
    obtain ⟨rI, rS, m, hrm⟩ := hr r (List.mem_cons_self ..)
    refine codeAny_builtin F.entry_sum_loop ?_
    rw [Around.under_plainId F.plain_sum_loop _]
    show wpAny _ A.in1 (seqItems? (.ref S) >>= _) _ _ s
    refine wpAny_bind (wpAny_seqItems hS rfl ?_)
    show wpAny _ A.in1 (tryCatch (pyNext (.ref I)) _ >>= _) _ _ s
    refine wpAny_bind (wpAny_tryCatch (wpAny_pyNext_list_item hI hL hx fun h1 hI1 sb => ?_))
    have up : ∀ b o, b ≠ I → s.heap.get? b = some o → h1.get? b = some o := fun b o hb e => (sb.2 b hb).trans e
    have hS1 := up S _ (Ne.symm hIS) hS
    have hT1 := up T _ tI hT
    have hr1 := up r.1 _ rI hrm
    rw [List.map_cons, List.sum_cons] at hz
    show wpAny _ A.in1 ((holding [Value.ref r.1] (binaryOp .Add (.ref T) (.ref r.1))).attempt >>= _) _ _ _
    refine wpAny_bind (wpAny_attempt (wpAny_holding (PySem.P.add_list (s := { s with heap := h1 }) hT1 hr1 ?_ (by rw [List.size_toArray, List.size_toArray]; omega))))
    have hsz : h1.objs.size = s.heap.objs.size := sb.1
    show wpAny _ A.in1 (updateSeq S (fun _ => #[.ref h1.objs.size]) >>= _) _ _ _
    have hS2 : (h1.push { cls := .type "list", data := .seq (acc.toArray ++ r.2.toArray) }).get? S = _ := Heap.get?_push_of_some _ hS1
    refine wpAny_bind (wpAny_updateSeq (s := { s with heap := h1.push { cls := .type "list", data := .seq (acc.toArray ++ r.2.toArray) } }) hS2 rfl ?_)
    have hS3 := Heap.get?_update_self (Obj.mapSeq fun _ => #[Value.ref h1.objs.size]) hS2 rfl
    refine wpAny_bind (wpAny_letGo ?_)
    refine wpAny_bind (wpAny_updateSeq hS3 rfl (wpAny_pure ⟨plainId_quiet F.plain_sum_loop _, ?_⟩))
    have hS4 := Heap.get?_update_self (Obj.mapSeq fun _ => #[Value.ref h1.objs.size]) hS3 rfl
    generalize hg : Heap.update (Heap.update (h1.push { cls := .type "list", data := .seq (acc.toArray ++ r.2.toArray) }) S (Obj.mapSeq fun _ => #[Value.ref h1.objs.size])) S (Obj.mapSeq fun _ => #[Value.ref h1.objs.size]) = g at hS4
    have gup : ∀ b o, b ≠ I → b ≠ S → s.heap.get? b = some o → g.get? b = some o := fun b o b1 b2 e => by
      rw [← hg, Heap.get?_update_other _ _ (Ne.symm b2), Heap.get?_update_other _ _ (Ne.symm b2)]
      exact Heap.get?_push_of_some _ (up b o b1 e)
    have neS : ∀ b o, s.heap.get? b = some o → h1.objs.size ≠ b := fun b o e z => by
      have := Heap.lt_size e
      rw [← z, hsz] at this
      exact Nat.lt_irrefl _ this
    have hgS : g.objs.size = s.heap.objs.size + 1 := by rw [← hg, Heap.size_update, Heap.size_update, Heap.size_push, hsz]
    have gI : g.IsListIter I L (i + 1) := hI1.at fun o e => by
      rw [← hg, Heap.get?_update_other _ _ hIS.symm, Heap.get?_update_other _ _ hIS.symm]
      exact Heap.get?_push_of_some _ e
    have gL : g.IsList L items := hL.at fun o e => gup L o hLI hLS e
    have hIo : ∃ o, s.heap.get? I = some o := let ⟨o, e, _⟩ := hI; ⟨o, e⟩
    have nS : h1.objs.size ≠ S := neS S _ hS
    have nI : h1.objs.size ≠ I := let ⟨o, e⟩ := hIo; neS I o e
    have gT : IsL g h1.objs.size (acc ++ r.2).toArray 0 := by
      show g.get? h1.objs.size = _
      rw [← hg, Heap.get?_update_other _ _ nS.symm, Heap.get?_update_other _ _ nS.symm, Heap.get?_push_size _ rfl]
      simp
    refine sum_lists_loop hh I S hIS hLI hLS rest (i + 1) { s with heap := g } h1.objs.size _ 0 (acc ++ r.2) hd' gI gL hS4 gT nI nS (fun r' hr' => ?_) (by rw [List.length_append]; omega) fun h' T' n' k e e0 e1 => ?_
    · obtain ⟨a1, a2, m', a3⟩ := hr r' (List.mem_cons_of_mem _ hr')
      exact ⟨a1, a2, m', gup _ _ a1 a2 a3⟩
    · refine hR h' T' n' (fun b o b1 b2 q => k b o b1 b2 (gup b o b1 b2 q)) ?_ (fun z => nomatch z) fun _ => ?_
      · rw [List.map_cons, List.flatten_cons, ← List.append_assoc]
        exact e
      · by_cases hr0 : rest = []
        · rw [e0 hr0, hsz]
          exact Nat.le_refl _
        · have := e1 hr0
          show s.heap.objs.size ≤ T'
          have q : g.objs.size ≤ T' := this
          omega
end
section
variable {prog : Program} {w : World} {A : Around} {E : Value → Shared → Prop} {s : Shared}
theorem call_sum_lists {L B : Addr} {n : Nat} {rows : List (Addr × List Value)} {Q : Value → Shared → Prop} (hh : A.handled = none) (hL : s.heap.IsList L (rows.map fun r => Value.ref r.1).toArray) (hB : IsL s.heap B #[] n)
    (hr : ∀ r ∈ rows, ∃ m, IsL s.heap r.1 r.2.toArray m) (hz : (rows.map fun r => r.2.length).sum ≤ sizeLine)
    (h : ∀ (h' : Heap) (T' n' : Nat), (∀ b o, s.heap.get? b = some o → h'.get? b = some o) → IsL h' T' ((rows.map Prod.snd).flatten).toArray n' → (rows = [] → T' = B) → (rows ≠ [] → s.heap.objs.size ≤ T') → Q (.ref T') { s with heap := h' }) :
    wpAny (model prog w) A (call (.builtin "sum") [.ref L] [(Str.ofString "start", .ref B)]) Q E s := by
  refine PyProof.Rows.kmk_tree F.kind_sum F.plain_sum F.entry_sum (args_sum_start _ _) ?_
  unfold Builtin.«sum»
  simp only [List.length_cons, List.length_nil]
  rw [if_neg (by decide)]
  refine wpAny_bind (wpAny_of_eq (show Builtin.Builtins.bindParams "sum" ["start"] 0 ⟨[], [(Str.ofString "start", .ref B)]⟩ = pure [some (.ref B)] from rfl) ?_)
  refine wpAny_bind (wpAny_pyIter_list hL ?_)
  refine wpAny_bind (wpAny_pure ?_)
  have lB : B < s.heap.objs.size := Heap.lt_size hB
  have hB1 : IsL (s.heap.push { cls := .type "list_iterator", data := .fields #[.ref L, .int 0 0] }) B #[] n := Heap.get?_push_of_some _ hB
  simp only [List.forIn_cons, List.forIn_nil]
  refine wpAny_bind (wpAny_bind (wpAny_bind (wpAny_isInstance (T := "list") (b := false) ⟨_, hB1, rfl⟩ F.sub_list_str ?_)))
  simp only [Bool.false_eq_true, if_false]
  refine wpAny_pure (wpAny_bind (wpAny_bind (wpAny_isInstance (T := "list") (b := false) ⟨_, hB1, rfl⟩ F.sub_list_bytes ?_)))
  simp only [Bool.false_eq_true, if_false]
  refine wpAny_pure (wpAny_bind (wpAny_bind (wpAny_isInstance (T := "list") (b := false) ⟨_, hB1, rfl⟩ F.sub_list_bytearray ?_)))
  simp only [Bool.false_eq_true, if_false]
  refine wpAny_pure (wpAny_pure ?_)
  refine wpAny_bind (wpAny_newObj_type ?_)
  have lL : L < s.heap.objs.size := by obtain ⟨_, e, _⟩ := hL; exact Heap.lt_size e
  generalize hg : (s.heap.push { cls := .type "list_iterator", data := .fields #[.ref L, .int 0 0] }) = g at *
  have hgs : g.objs.size = s.heap.objs.size + 1 := by rw [← hg, Heap.size_push]
  have up : ∀ b o, s.heap.get? b = some o → (g.push { cls := .type "list", data := .seq #[.ref B] }).get? b = some o := fun b o e => by
    rw [← hg]; exact Heap.get?_push_of_some _ (Heap.get?_push_of_some _ e)
  have lr : ∀ r ∈ rows, r.1 < s.heap.objs.size := fun r hr' => by obtain ⟨m, e⟩ := hr r hr'; exact Heap.lt_size e
  refine wpAny_pure ⟨plainId_quiet F.plain_sum_loop _, sum_lists_loop hh s.heap.objs.size g.objs.size (by rw [hgs]; exact (Nat.succ_ne_self _).symm) (Nat.ne_of_lt lL) (by rw [hgs]; exact Nat.ne_of_lt (Nat.lt_succ_of_lt lL)) rows 0
    { s with heap := g.push { cls := .type "list", data := .seq #[.ref B] } } B 0 n [] ?_ ?_ (hL.at fun o e => up _ _ e) (Heap.get?_push_size _ rfl) (up _ _ hB) (Nat.ne_of_lt lB) (by rw [hgs]; exact Nat.ne_of_lt (Nat.lt_succ_of_lt lB))
    (fun r hr' => ⟨Nat.ne_of_lt (lr r hr'), by rw [hgs]; exact Nat.ne_of_lt (Nat.lt_succ_of_lt (lr r hr')), (hr r hr').imp fun m e => up _ _ e⟩) (by simpa using hz) fun h' T' n' k e e0 e1 => ?_⟩
  · simp
  · refine ⟨{ cls := .type "list_iterator", data := .fields #[.ref L, .int 0 0] }, Heap.get?_push_of_some _ ?_, rfl, rfl⟩
    rw [← hg]
    exact Heap.get?_push_size _ rfl
  · refine h h' T' n' (fun b o q => k b o (Nat.ne_of_lt (Heap.lt_size q)) (by rw [hgs]; exact Nat.ne_of_lt (Nat.lt_succ_of_lt (Heap.lt_size q))) (up _ _ q)) (by simpa using e) e0 fun z => ?_
    have q := e1 z
    have q2 : (g.push { cls := .type "list", data := .seq #[.ref B] }).objs.size ≤ T' := q
    rw [Heap.size_push, hgs] at q2
    exact Nat.le_trans (Nat.le_add_right _ 2) q2
end
/-- sum(list of lists, start=[]) -/
def rSumL : List V → List V → Hp → VK → Prop := fun vs zs H Q => ∃ (L B : Addr) (rows : List (Addr × List V)), vs = [.ref L] ∧ zs = [.ref B] ∧ H L = some (.lst (rows.map fun r => .ref r.1)) ∧ H B = some (.lst []) ∧ (∀ r ∈ rows, H r.1 = some (.lst r.2)) ∧
  (rows.map fun r => r.2.length).sum ≤ 1000000 ∧ (rows = [] → Q (.ref B) H) ∧ (∀ p, H p = none → Q (.ref p) (upd H p (.lst (rows.map Prod.snd).flatten)))
section
variable {X : Cx}
theorem rows_back {pins : List (Addr × Obj)} {σ : L2.St} {H : Hp} {s : Shared} (I : Inv X pins σ H s) : ∀ (rows : List (Addr × List V)), (∀ r ∈ rows, H r.1 = some (.lst r.2)) → ∃ rs : List (Addr × List Value), rs.map Prod.fst = rows.map Prod.fst ∧ (∀ r ∈ rs, ∃ m, IsL s.heap r.1 r.2.toArray m) ∧
    Vals (rows.map Prod.snd).flatten (rs.map Prod.snd).flatten ∧ (rs.map fun r => r.2.length).sum = (rows.map fun r => r.2.length).sum
  | [], _ => ⟨[], rfl, fun _ h => (List.not_mem_nil h).elim, .nil, rfl⟩
  | r :: rows, h => by
    obtain ⟨rs, e1, e2, e3, e4⟩ := rows_back I rows fun x hx => h x (List.mem_cons_of_mem _ hx)
    obtain ⟨z, its, n, rv, hl, e⟩ := I.lstM (h r (List.mem_cons_self ..))
    refine ⟨(r.1, its) :: rs, by rw [List.map_cons, List.map_cons, e1], fun x hx => ?_, ?_, ?_⟩
    · rcases List.mem_cons.mp hx with rfl | hx
      · exact ⟨n, e⟩
      · exact e2 x hx
    · rw [List.map_cons, List.map_cons, List.flatten_cons, List.flatten_cons]
      exact rv.append e3
    · rw [List.map_cons, List.map_cons, List.sum_cons, List.sum_cons, e4, rv.length]
theorem cr_sumL (hc : X.calm = true) : CallRK X (.builtin "sum") [Str.ofString "start"] rSumL := by
  intro pins s σ H vs zs us ws Q I r rz h
  obtain ⟨L, B, rows, rfl, rfl, hL, hB, hr, hz, q0, q1⟩ := h
  obtain ⟨its, rv, hl, hLz⟩ := I.list (SqL.of hL)
  clear hLz
  obtain ⟨z, itB, nB, rB, hlB, eB⟩ := I.lstM hB
  rw [Vals.ref1 r]
  obtain ⟨w1, rfl, e1⟩ := vals1 rz
  obtain rfl : w1 = Value.ref B := e1
  obtain ⟨rs, a1, a2, a3, a4⟩ := rows_back I rows hr
  have ei : its = rs.map fun r => Value.ref r.1 := by
    have : its = (rows.map Prod.fst).map Value.ref := by
      clear hL hr hz q0 q1 a1 a2 a3 a4 hl
      induction rows generalizing its with
      | nil => cases rv; rfl
      | cons x xs ih =>
        cases rv with
        | cons b1 b2 =>
          rw [List.map_cons, List.map_cons, ← ih _ b2]
          rw [show _ = Value.ref x.1 from b1]
    rw [this, ← a1, List.map_map]
    rfl
  subst ei
  have eB2 : itB = [] := by cases rB; rfl
  subst eB2
  refine call_sum_lists (I.ok.hd hc) hl.isList eB a2 (by rw [a4]; exact sizes hz) fun h' T' n' k e e0 e2 => ?_
  by_cases hn : rs = []
  · have hn' : rows = [] := by subst hn; cases rows with | nil => rfl | cons _ _ => cases a1
    rw [e0 hn]
    exact ⟨.ref B, H, I.kept (t' := s.toks) k, rfl, q0 hn'⟩
  · have hf : H T' = none := I.hok.fresh (e2 hn)
    have hlen : (rows.map Prod.snd).flatten.length ≤ sizeLine := by
      rw [List.length_flatten, List.map_map]
      exact sizes hz
    exact ⟨.ref T', upd H T' (.lst (rows.map Prod.snd).flatten), I.laid (t' := s.toks) k (e2 hn) ⟨hlen, _, n', a3, e⟩, rfl, q1 T' hf⟩
end
end Ro
namespace Ro
open PySem PySem.Spec PyProof.Rows L2 PySem.W
variable [TabsC]
/-! ### sorted(xs, key=lambda x: ..) -/
/-- an expression that writes nothing that stood: it runs where m is what the frame L holds -/
def Pure1 (prog : Program) (w : World) (env : Env) (m : Str → Option Value) (e : Expr) (h₀ : Heap) (P : Heap → Value → Prop) : Prop :=
  ∀ (A : Around) (s : Shared) (E : Value → Shared → Prop) (Q : Value → Shared → Prop), s.heap.Ns env.locals m → (∀ b o, h₀.get? b = some o → s.heap.get? b = some o) →
    (∀ u h' tk, (∀ b o, s.heap.get? b = some o → h'.get? b = some o) → P h' u → Q u { s with heap := h', toks := tk }) → wpAny (model prog w) A (eval e env) Q E s
section
variable {prog : Program} {w : World} {env : Env} {m : Str → Option Value} {h₀ : Heap}
theorem pure_item {x : Str} {a : Addr} {items : Array Value} {i : Int} {j : Nat} {z : Value} {k p1 p2 p3} (hk : env.scope.kind = .function) (hx : env.kindOf x = some .local) (hm : m x = some (.ref a)) (ht : IsTup h₀ a items) (hi : i = (j : Nat)) (hj : items[j]? = some z) (hj2 : j < 100)
    (hd : (x == ("__debug__" : Str)) = false := by decide) : Pure1 prog w env m (.Subscript (.Name x p1) (.Constant (.int i) k p2) p3) h₀ fun _ u => u = z := by
  intro A s E Q hn hs h
  have ht' : IsTup s.heap a items := let ⟨o, e, r⟩ := ht; ⟨o, hs _ _ e, r⟩
  refine Subscript_ (wpAny_Name (wpAny_loadName_local hk hx hn hm ?_) hd)
  refine wpAny_Constant_int ?_
  refine subscriptTail_builtinR (x := z) (T := "tuple") (let ⟨o, e, c, _⟩ := ht'; ⟨o, e, c⟩) slot_tuple_getitem.lookup ?_ (by with_unfolding_all rfl)
  have hsz : j < items.size := (Array.getElem?_eq_some_iff.mp hj).1
  refine getItem_tuple (j := j) ht' (by omega) (by omega) ?_ hj ⟨rfl, h z s.heap (s.toks + 1) (fun b o e => e) rfl⟩
  subst hi
  unfold seqIndex?
  have h1 : ¬ ((j : Int) < 0) := by omega
  simp only [h1, if_false]
  rw [if_pos (by simp; omega)]
  simp
theorem pure_sub0 {e : Expr} {z : Int} {t : Tok} {k p1 p2} (he : Pure1 prog w env m e h₀ fun _ u => u = .int z t) : Pure1 prog w env m (.BinOp (.Constant (.int 0) k p1) .Sub e p2) h₀ fun _ u => ∃ t', u = .int (0 - z) t' := by
  intro A s E Q hn hs h
  refine wpAny_BinOp (wpAny_Constant_int ?_)
  refine he A _ E _ hn hs fun u h' tk hk hu => ?_
  subst hu
  exact sub_int (h _ h' (tk + 1) hk ⟨_, rfl⟩)
theorem pure_pair {e f : Expr} {P : Heap → Value → Prop} {R : Heap → Value → Prop} {k : Nat} {p : Pos} (hp : ∀ h h' u, P h u → (∀ b o, h.get? b = some o → h'.get? b = some o) → P h' u) (hr : ∀ h h' u, R h u → (∀ b o, h.get? b = some o → h'.get? b = some o) → R h' u)
    (he : Pure1 prog w env m e h₀ P) (hf : Pure1 prog w env m f h₀ R)
    (h1 : backTo p (starEach [e, f] env) = (false, eval e env) :: backTo p (starEach [f] env) := by rfl) (h2 : backTo p (starEach [f] env) = (false, eval f env) :: backTo p (starEach [] env) := by rfl) (h3 : backTo p (starEach [] env) = [] := by rfl) :
    Pure1 prog w env m (.Tuple [e, f] k p) h₀ fun h u => ∃ T x y, u = .ref T ∧ h.get? T = some { cls := .type "tuple", data := .seq #[x, y] } ∧ P h x ∧ R h y := by
  intro A s E Q hn hs h
  refine Tuple_ ?_
  rw [h1, h2, h3]
  refine Calls.spliced_cons (he A s E _ hn hs fun x g tk hk px => ?_)
  refine Calls.spliced_cons (hf A _ E _ (hn.keeps hk) (fun b o q => hk b o (hs b o q)) fun y g2 tk2 hk2 ry => ?_)
  refine Calls.spliced_nil ?_
  refine wpAny_newTuple ?_
  refine h _ _ tk2 (fun b o q => Heap.get?_push_of_some _ (hk2 b o (hk b o q))) ⟨_, x, y, rfl, Heap.get?_push_size _ rfl, hp _ _ _ px fun b o q => Heap.get?_push_of_some _ (hk2 b o q), hr _ _ _ ry fun b o q => Heap.get?_push_of_some _ q⟩
end
/-- a lambda is made; the table at P is its maker's -/
theorem lam_new {X : Cx} {pins : List (Addr × Obj)} {σ : L2.St} {H : Hp} {s : Shared} {c P : Addr} {params : Arguments} {body : Expr} {scope : Scope} {pos : Pos} {E : Value → Shared → Prop} {Q : Value → Shared → Prop} (I : Inv X pins σ H s) (TB : LamX.TabB X.base X.mg c P) (hcode : X.env.code = .ref c)
    (hq : TabsC.nm P = X.env.qual ++ "<lambda>") (hT : Tb H P) (hdef : defaultsOf params X.env = ([], [])) (hfree : ∀ y ∈ scope.names, y.2 = .free → ∃ c, X.env.cells.lookup y.1 = some c)
    (h : ∀ (f c' : Addr) (pm ctv : Value) (H1 : Hp) (s' : Shared), Inv X pins σ H1 s' → Same H H1 →
      s'.heap.get? f = some (PySem.W.kla_obj "<lambda>" (X.env.qual ++ "<lambda>") params body scope (cloFrom X.env.cells scope.names []) pm c' ctv) → H1 c' = some (LamX.CodeO c' (X.env.qual ++ "<lambda>")) → Q (.ref f) s') :
    wpAny (model X.prog X.w) X.A (eval (.Lambda params body scope pos) X.env) Q E s := by
  have hT0 := hT
  unfold Tb at hT0
  rw [hq] at hT0
  obtain ⟨ps, hP, ht, ha⟩ := hT0
  refine PySem.W.kla_eval hdef ?_
  have bP := TB.bm.keeps I.bk
  have hP' : s.heap.get? P = some { cls := .none, data := .fields ps } := I.hok P _ hP
  cases hc : codeAmong pos ps.toList with
  | none =>
    refine PySem.W.kla_makeFunction (mg := X.mg) (c := c) (P := P) (ps := ps) (closure_ok hfree) I.ok.glob (I.mod.glob.keeps I.bk) hcode (TB.code.keeps I.bk) hP' ht hc TB.gP bP fun c' ctv h' tk hx hge hlt hrec htb => ?_
    obtain ⟨c2, oc, vs, t, e2, hoc, hd, hv⟩ := hrec
    cases e2
    have nC : H c' = none := I.hok.fresh hge
    have I1 := LamX.inv_table (t' := tk) (more := #[rawInt pos.line, rawInt pos.col, .ref c']) (h' := h'.push (PySem.W.kla_obj "<lambda>" (X.env.qual ++ "<lambda>") params body scope (cloFrom X.env.cells scope.names []) ((X.mg "__name__").getD .none) c' ctv)) I hP
      (fun b o hb e => Heap.get?_push_of_some _ (hx b o hb e)) (Heap.get?_push_of_some _ htb) hge ⟨oc, vs, t, Heap.get?_push_of_some _ hoc, hd, hv⟩
    have nPc : P ≠ c' := ne_of_none hP nC
    have hE : ∀ b o, H b = some o → b ≠ P → upd (upd H P (.tbl (ps ++ #[rawInt pos.line, rawInt pos.col, .ref c']))) c' (LamX.CodeO c' (X.env.qual ++ "<lambda>")) b = some o := fun b o e n => by
      rw [upd_ne (ne_of_none e nC), upd_ne n]
      exact e
    have ntP : ∀ b o, H b = some o → (∀ ps, o ≠ .tbl ps) → b ≠ P := fun b o e n z => n ps (Option.some.inj (e.symm.trans (by rw [z]; exact hP)))
    have eL : (ps ++ #[rawInt pos.line, rawInt pos.col, .ref c']).toList = ps.toList ++ [rawInt pos.line, rawInt pos.col, .ref c'] := by simp
    refine h h'.objs.size c' ((X.mg "__name__").getD .none) ctv _ _ I1 ⟨fun b o e n => hE b o e (ntP b o e n), fun P' t => ?_, fun b n => ?_⟩ (Heap.get?_push_size _ rfl) upd_same
    · by_cases hb : P' = P
      · subst hb
        unfold Tb
        rw [hq]
        refine ⟨_, by rw [upd_ne nPc, upd_same], by rw [eL]; exact PySem.TriplesOk_snoc _ _ _ _ ht, fun p' cv hcv => ?_⟩
        rw [eL] at hcv
        rcases LamX.among_app _ ht hcv with z | z
        · obtain ⟨c0, e1, e2⟩ := ha p' cv z
          exact ⟨c0, e1, hE _ _ e2 (ntP _ _ e2 LamX.codeO_ne)⟩
        · exact ⟨c', z, upd_same⟩
      · obtain ⟨ps', a1, a2, a3⟩ := t
        refine ⟨ps', hE _ _ a1 hb, a2, fun p' cv hcv => ?_⟩
        obtain ⟨c0, e1, e2⟩ := a3 p' cv hcv
        exact ⟨c0, e1, hE _ _ e2 (ntP _ _ e2 LamX.codeO_ne)⟩
    · by_cases h1 : b = c'
      · rw [h1]; exact nC
      · rw [upd_ne h1] at n
        by_cases h2 : b = P
        · rw [h2, upd_same] at n; cases n
        · rw [upd_ne h2] at n; exact n
  | some cv =>
    obtain ⟨c', e, hco⟩ := ha pos cv hc
    subst e
    refine PySem.W.kla_makeFunctionHit (mg := X.mg) (c := c) (P := P) (ps := ps) (closure_ok hfree) I.ok.glob (I.mod.glob.keeps I.bk) hcode (TB.code.keeps I.bk) hP' ht hc bP fun ctv h' tk hx hsz => ?_
    have I1 : Inv X pins σ H { s with heap := h'.push (PySem.W.kla_obj "<lambda>" (X.env.qual ++ "<lambda>") params body scope (cloFrom X.env.cells scope.names []) ((X.mg "__name__").getD .none) c' ctv), toks := tk } := I.kept fun b o e => Heap.get?_push_of_some _ (hx b o e)
    exact h h'.objs.size c' ((X.mg "__name__").getD .none) ctv H _ I1 (Same.refl H) (Heap.get?_push_size _ rfl) hco
/-- the lambda is called, as sorted calls it -/
theorem lam_call {prog : Program} {w : World} {A : Around} {E : Value → Shared → Prop} {s : Shared} {x q : Str} {params : Arguments} {body : Expr} {scope : Scope} {pm ctv : Value} {f c' : Addr} {v : Value} {d : PyData} (hdep : A.depth < recursionLimit) (nl : s.heap.NoLimit)
    (hf : s.heap.get? f = some (PySem.W.kla_obj "<lambda>" q params body scope [] pm c' ctv)) (hco : ∃ (oc : Obj) (vs : Array Value) (t : Tok), s.heap.get? c' = some oc ∧ oc.data = .fields vs ∧ vs[1]? = some (.str q t))
    (sk : scope.kind = .function) (sco : scope.isCoroutine = false) (sge : scope.isGenerator = false) (scell : ∀ y ∈ scope.names, y.2 ≠ .cell) (sx : scope.names.lookup x = some .local)
    (hbind : ∀ (pm cv ctv : Value), bindArgs (PySem.W.kla_fn "<lambda>" q params body scope [] pm cv ctv) ⟨[v], []⟩ = pure [(x, v)])
    (hb : ∀ L : Addr, ∃ P : Heap → Value → Prop, Pure1 prog w (envX q scope L f (.ref c') []) (fun y => [(x, v)].reverse.lookup y) body s.heap P ∧ ∀ h u, P h u → Reads h u d []) :
    wpAny (model prog w) A (call (.ref f) [v]) (KeyPure d s) E s := by
  obtain ⟨oc, vs, t, hoc, hdc, hvc⟩ := hco
  refine wpAny_call (codeAny_mono (R := fun r s' => ∃ u, r = .ok (.ret u) ∧ KeyPure d s u s') ?_ fun r s' hq => ?_)
  · refine PySem.W.kla_callFunE hdep hf rfl sco sge rfl ⟨c', oc, vs, t, rfl, hoc, hdc, hvc⟩ ?_
    rw [hbind]
    refine wpAny_pure (wpAny_newFunctionEnv scell (fun y hy => ?_) (fun h1 hns hsb => ⟨nl.fresh _ hsb, ?_⟩) sk)
    · rw [List.mem_singleton.mp hy]; exact sx
    · show codeAny _ _ (.expr body (envX q scope s.heap.objs.size f (.ref c') [])) _ _
      have kp : ∀ b o, s.heap.get? b = some o → h1.get? b = some o := fun b o e => hsb.extBut b o (Nat.ne_of_lt (Heap.lt_size e)) (Heap.get?_push_of_some _ e)
      obtain ⟨P, hp, hr⟩ := hb s.heap.objs.size
      exact PySem.W.kla_codeExpr (hp _ { s with heap := h1, toks := s.toks + 1 } _ _ hns kp fun u h' tk k pu => ⟨u, rfl, h', tk, rfl, fun b o e => k b o (kp b o e), hr h' u pu⟩)
  · obtain ⟨u, rfl, hk⟩ := hq
    exact hk
def LamOk (x q : Str) (body : Expr) (scope : Scope) (KR : PyData → PyData → Prop) : Prop := ∀ (prog : Program) (w : World) (f c' L : Addr) (h : Heap) (v : Value) (d k : PyData), KR d k → (∃ as, Reads h v d as) →
  ∃ P : Heap → Value → Prop, Pure1 prog w (envX q scope L f (.ref c') []) (fun y => [(x, v)].reverse.lookup y) body h P ∧ ∀ h' u, P h' u → Reads h' u k []
def keyAt (j : Nat) (d k : PyData) : Prop := ∃ ds i, d = .tuple ds ∧ ds[j]? = some (.int i) ∧ k = .int i
def keyAB (d k : PyData) : Prop := ∃ i j, d = .tuple [.int i, .int j] ∧ k = .tuple [.int i, .int (0 - j)]
theorem reads_tup {h : Heap} {v : Value} {ds : List PyData} {as : List Addr} (r : Reads h v (.tuple ds) as) : ∃ a items bs, v = .ref a ∧ IsTup h a items ∧ ReadsAll h items.toList ds bs := by
  cases r with
  | tuple e1 e2 e3 e4 => exact ⟨_, _, _, rfl, ⟨_, e1, e2, _, e3⟩, e4⟩
theorem readsAll_int {h : Heap} : ∀ {vs : List Value} {ds : List PyData} {as : List Addr} {j : Nat} {i : Int}, ReadsAll h vs ds as → ds[j]? = some (.int i) → ∃ t, vs[j]? = some (.int i t)
  | _, _, _, j, i, .nil, e => by simp at e
  | _, _, _, 0, i, .cons (d := d) r rs, e => by
    simp only [List.getElem?_cons_zero, Option.some.injEq] at e
    subst e
    obtain ⟨t, rfl⟩ := readsI r
    exact ⟨t, rfl⟩
  | _, _, _, j + 1, i, .cons r rs, e => by
    rw [List.getElem?_cons_succ] at e
    obtain ⟨t, h⟩ := readsAll_int rs e
    exact ⟨t, by rw [List.getElem?_cons_succ]; exact h⟩
theorem lamOk_at {x q : Str} {scope : Scope} {j : Nat} {i : Int} {k p1 p2 p3} (hi : i = (j : Nat)) (hj : j < 100) (sk : scope.kind = .function) (sx : ∀ L f c', (envX q scope L f (.ref c') []).kindOf x = some .local) (hd : (x == ("__debug__" : Str)) = false) : LamOk x q (.Subscript (.Name x p1) (.Constant (.int i) k p2) p3) scope (keyAt j) := by
  intro prog w f c' L h v d kk hk ⟨as, r⟩
  obtain ⟨ds, n, rfl, e, rfl⟩ := hk
  obtain ⟨a, items, bs, rfl, ht, ra⟩ := reads_tup r
  obtain ⟨t, ej⟩ := readsAll_int ra e
  exact ⟨_, pure_item (a := a) (items := items) (j := j) sk (sx L f c') (by simp) ht hi (by simpa using ej) hj hd, fun h' u eu => by rw [eu]; exact .int n t⟩
theorem lamOk_ab {x q : Str} {scope : Scope} {k k1 k2 k3 p1 p2 p3 p4 p5 p6 p7 p8 p9} (sk : scope.kind = .function) (sx : ∀ L f c', (envX q scope L f (.ref c') []).kindOf x = some .local) (hd : (x == ("__debug__" : Str)) = false) :
    LamOk x q (.Tuple [.Subscript (.Name x p1) (.Constant (.int 0) k1 p2) p3, .BinOp (.Constant (.int 0) k2 p4) .Sub (.Subscript (.Name x p5) (.Constant (.int 1) k3 p6) p7) p8] k p9) scope keyAB := by
  intro prog w f c' L h v d kk hk ⟨as, r⟩
  obtain ⟨i, j, rfl, rfl⟩ := hk
  obtain ⟨a, items, bs, rfl, ht, ra⟩ := reads_tup r
  obtain ⟨t, e0⟩ := readsAll_int (j := 0) ra rfl
  obtain ⟨u, e1⟩ := readsAll_int (j := 1) ra rfl
  refine ⟨_, pure_pair (fun _ _ _ a _ => a) (fun _ _ _ a _ => a) (pure_item (a := a) (items := items) (j := 0) sk (sx L f c') (by simp) ht rfl (by simpa using e0) (by decide) hd) (pure_sub0 (pure_item (a := a) (items := items) (j := 1) sk (sx L f c') (by simp) ht rfl (by simpa using e1) (by decide) hd)), fun h' v hv => ?_⟩
  obtain ⟨T, x1, y1, rfl, hT, rfl, t', rfl⟩ := hv
  exact .tuple hT rfl rfl (.cons (.int _ _) (.cons (.int _ _) .nil))
def tSortLam (P : Addr) (KR : PyData → PyData → Prop) (ta : TA) : TE := fun σ H Q => ta σ H fun vs H1 => ∃ a, vs = [.ref a] ∧ Tb H1 P ∧ ∃ (α : Type) (l : List α) (enc key : α → PyData), Pt H1 (.list (l.map enc)) (.ref a) ∧ AllAlike (l.map key) ∧ Sortable (l.map key) ∧
  (∀ x ∈ l, (key x).depth ≤ 60 ∧ KR (enc x) (key x)) ∧ ∀ p ys H2, H1 p = none → Same H1 H2 → H2 p = some (.lst ys) → PtA H2 ((l.mergeSort (dataLe false key)).map enc) ys → Q (.ref p) H2
theorem each_mem {α : Type} {H : Hp} {enc : α → PyData} : ∀ {l : List α} {vs : List Value}, EachIs (Stands H enc) vs l → EachIs (fun v x => Stands H enc v x ∧ x ∈ l) vs l := fun {l vs} e => by
  have g : ∀ {m : List α} {us : List Value}, EachIs (Stands H enc) us m → (∀ x ∈ m, x ∈ l) → EachIs (fun v x => Stands H enc v x ∧ x ∈ l) us m := by
    intro m us e
    induction e with
    | nil => exact fun _ => .nil
    | cons a b ih => exact fun hm => .cons ⟨a, hm _ (List.mem_cons_self ..)⟩ (ih fun x hx => hm x (List.mem_cons_of_mem _ hx))
  exact g e fun x hx => hx
theorem pe_sortLam {X : Cx} {k : Nat} {c P : Addr} {x : Str} {e : Expr} {ta : TA} {params : Arguments} {body : Expr} {scope : Scope} {p pos lpos kp : Pos} {KR : PyData → PyData → Prop} (hr : Room (k + 1) X.A) (hg : Gl X "sorted") (hm : X.mg "sorted" = none) (ha : PA X [e] ta)
    (TB : LamX.TabB X.base X.mg c P) (hcode : X.env.code = .ref c) (hq : TabsC.nm P = X.env.qual ++ "<lambda>") (hcl : cloFrom X.env.cells scope.names [] = []) (L : LamOk x (X.env.qual ++ "<lambda>") body scope KR)
    (hbind : ∀ (v pm cv ctv : Value), bindArgs (PySem.W.kla_fn "<lambda>" (X.env.qual ++ "<lambda>") params body scope [] pm cv ctv) ⟨[v], []⟩ = pure [(x, v)])
    (hdef : defaultsOf params X.env = ([], [])) (sk : scope.kind = .function) (sco : scope.isCoroutine = false) (sge : scope.isGenerator = false) (sown : ∀ y ∈ scope.names, y.2 ≠ .cell ∧ y.2 ≠ .free) (sx : scope.names.lookup x = some .local)
    (hs : backTo pos (starEach [e] X.env) = (false, eval e X.env) :: backTo pos (starEach [] X.env) := by rfl) (hpl : (backTo pos (starEach [e] X.env)).any (·.1) = false := by rfl)
    (hall : (backToKw pos (keywordEach [⟨some "key", .Lambda params body scope lpos, kp⟩] X.env)).all (·.1.isSome) = true := by rfl) (hnone : (backToKw pos (keywordEach [⟨some "key", .Lambda params body scope lpos, kp⟩] X.env)).any (·.1.isNone) = false := by rfl)
    (hks : (backToKw pos (keywordEach [⟨some "key", .Lambda params body scope lpos, kp⟩] X.env)).filterMap (·.1) = [Str.ofString "key"] := by rfl) :
    PE X (.Call (.Name "sorted" p) [e] [⟨some "key", .Lambda params body scope lpos, kp⟩] pos) (tSortLam P KR ta) := by
  refine ⟨fun pins s σ H Q I h => ?_⟩
  refine wpAny_Call_Name_kw (ld_blt I hg hm PyProof.Rows.boot_sorted ?_)
  refine PyProof.Rows.callWith_kw (thn (ha.run pos pins s σ H _ I h) fun us s1 ⟨vs, H1, I1, r1, q1⟩ => ?_) hs hpl hall hnone
  obtain ⟨a, rfl, tb, α, l, enc, key, pt, al, so, hk, q⟩ := q1
  rw [hks, Vals.ref1 r1]
  refine PyProof.Rows.kwAll_cons (lam_new I1 TB hcode hq tb hdef (fun y hy e => absurd e (sown y hy).2) fun f c' pm ctv H2 s2 I2 sm hf hc => ?_)
  rw [hcl] at hf
  refine PyProof.Rows.kwAll_nil ?_
  have pt2 := Pt.keep sm _ _ pt
  obtain ⟨a', xs, e, hxa, hxs⟩ := pt_lst.mp pt2
  cases e
  obtain ⟨its, rv, hl, hz⟩ := I2.list (SqL.of hxa)
  have ee := each_mem (each_of hxs rv)
  have hz' : l.length ≤ sizeLine := by rw [hxs.length, List.length_map] at hz; exact hz
  have hu := hr.units
  refine sorted_key_data (b := false) key hl.isList ee al so hz' (fun x hx => by have := (hk x hx).1; omega) (PyProof.Rows.ksk_s1 _ _) (fun _ => PyProof.Rows.ksk_l1 _ _) (fun _ => PyProof.Rows.ksk_t1 _ _)
    (fun v y ⟨st, hy⟩ _ h tk kx => ?_) fun out cc h' tk kx hfr hnew hlen eo => ?_
  · obtain ⟨z, rz, pz⟩ := st
    obtain ⟨as, rd⟩ := Dp.reads I2 (enc y) z v pz.dp rz
    obtain ⟨⟨oc, vs, t, e1, e2, e3⟩, _, _⟩ := I2.hok c' _ hc
    refine lam_call (s := { s2 with heap := h, toks := tk }) (x := x) (show X.A.depth < _ from hr.depth) (I2.nolimit.keeps kx) (kx _ _ hf) ⟨oc, vs, t, kx _ _ e1, e2, e3⟩ sk sco sge (fun y hy => (sown y hy).1) sx (hbind v) fun L' => ?_
    exact L _ _ f c' L' h v _ _ (hk y hy).2 ⟨as, Reads.keeps kx rd⟩
  · obtain ⟨ys, ry, py⟩ := each_back (eo.mono fun _ _ z => z.1)
    have hlt : ys.length ≤ sizeLine := by rw [py.length, List.length_map, List.length_mergeSort]; exact hz'
    have hfn : H2 (s2.heap.objs.size + 1) = none := I2.hok.fresh (Nat.le_succ _)
    have I3 : Inv X pins σ (upd H2 (s2.heap.objs.size + 1) (.lst ys)) { s2 with heap := h', toks := tk } := I2.laid (t' := tk) kx (Nat.le_succ _) ⟨hlt, out, cc, ry, hnew⟩
    exact ⟨.ref _, _, I3, rfl, q _ ys _ (sm.free hfn) (sm.trans (same_new hfn)) upd_same (PtA.keep (same_new hfn) _ _ py)⟩
end Ro
namespace Ro
open PySem PySem.Spec PyProof.Rows L2 PySem.W
variable [TabsC]
/-! ### list(d.values()), d with tuple keys -/
theorem kdl_valuesR {prog : Program} {w : World} {r d : Addr} {es : Array DictEntry} {ep : Nat} : KdlSrc prog w "dict_values" r d es.size (fun i v => ∃ e, es[i]? = some e ∧ v = e.val) (fun h => h.IsValuesView r d ∧ h.DictRaw d es ep) where
  type := fun _ hm => hm.1.typeIs
  there := fun _ hm => ⟨let ⟨_, ho, _⟩ := hm.1; Heap.lt_size ho, let ⟨_, ho, _⟩ := hm.2; Heap.lt_size ho⟩
  keep := fun _ _ hm hk => ⟨let ⟨o, ho, x⟩ := hm.1; ⟨o, hk r (.inl rfl) o ho, x⟩, hm.2.at fun o e => hk d (.inr rfl) o e⟩
  notList := by decide
  notTuple := by decide
  hint := fun _ _ _ _ hm hq => kdl_hint_values hm.1.typeIs hq
  iter := fun A s hh hm => by
    have hlt : d < s.heap.objs.size := let ⟨_, ho, _⟩ := hm.2; Heap.lt_size ho
    have W := Walks.rawValues (prog := prog) (w := w) (A := A) hh s.heap.objs.size d (Nat.ne_of_lt hlt) es ep
    refine ⟨_, _, (fun _ _ hq => wpAny_pyIter_values_raw hm.1 hm.2 hq), W.mono_item (fun i v _ p => let ⟨hi, e⟩ := p; ⟨es[i], Array.getElem?_eq_getElem hi, e⟩), ⟨⟨_, Heap.get?_push_size _ rfl, rfl, rfl⟩, hm.2.at fun o e => Heap.get?_push_of_some _ e⟩⟩
def tListVals (td : TE) : TE := fun σ H Q => td σ H fun x H1 => ∃ (a : Addr) (kvs : List (List L2.Key × V)), x = .ref a ∧ H1 a = some (.dT kvs) ∧ ∀ p, H1 p = none → Q (.ref p) (upd H1 p (.lst (kvs.map (·.2))))
theorem pe_listVals {X : Cx} {o : Expr} {td : TE} {p apos mpos pos : Pos} (hc : X.calm = true) (hg : Gl X "list") (hm : X.mg "list" = none) (hd : PE X o td) (hbase : attributeBase o "values" X.env (eval o X.env) = eval o X.env := by rfl) (hline : (apos.endLine == mpos.line) = true := by rfl)
    (hse : starEach [Expr.Call (.Attribute o "values" apos) [] [] mpos] X.env = (false, eval (Expr.Call (.Attribute o "values" apos) [] [] mpos) X.env) :: starEach [] X.env := by rfl) (hpl : (backTo pos (starEach [] X.env)).any (·.1) = false := by rfl) (hn : starEach [] X.env = [] := by rfl) :
    PE X (.Call (.Name "list" p) [.Call (.Attribute o "values" apos) [] [] mpos] [] pos) (tListVals td) := by
  refine ⟨fun pins s σ H Q I h => ?_⟩
  refine Call_ (ld_blt I hg hm (u := .type "list") (by decide +kernel) (PyProof.Rows.callWith_type1 ?_ hse hpl) (by decide) (by decide))
  rw [hse]
  refine Calls.spliced_cons ?_
  refine wpAny_Call_method0_late hbase hline (thn (hd.run pins s σ H _ I h) fun v s1 ⟨x, H1, I1, r1, a, kvs, ex, ha, q⟩ => ?_)
  subst ex
  obtain rfl : v = Value.ref a := r1
  obtain ⟨hz, hsys, xs, rel, dof⟩ := dt_of I1.hok ha
  obtain ⟨es, ep, hraw, hsz, hes⟩ := dof.raw
  have hraw' := hraw
  obtain ⟨ob, ho, hex, hdat⟩ := hraw'
  refine ⟨"dict", "dict.values", PySem.F.plainAttrs_dict, PySem.F.slot_dict_values, PySem.F.type_dict_values, ⟨ob, ho, hex.1⟩, fun b e => ?_, Calls.callWith_builtin rfl (PySem.evalArgs_none ?_)⟩
  · cases e
    exact ⟨ob, ho, hex.2.1⟩
  refine call_meetsIn PySem.F.slot_dict_values ⟨ob, ho, hex.1⟩ PySem.F.entry_dict_values (PySem.F.args_dict_values_1 _) (meets_dict_values_raw a hsys) ⟨⟨es, ep, hraw⟩, ?_⟩
  have k1 : ∀ b u, s1.heap.get? b = some u → (s1.heap.push { cls := .type "dict_values", data := .fields #[.ref a] }).get? b = some u := fun b u e => Heap.get?_push_of_some _ e
  have raw1 : (s1.heap.push { cls := .type "dict_values", data := .fields #[.ref a] }).DictRaw a es ep := hraw.at fun o e => k1 _ _ e
  rw [hn]
  refine Calls.spliced_nil ?_
  have hlx : kvs.length = xs.length := Paired.length rel
  refine kdl_call (kdl_valuesR (es := es) (ep := ep) (d := a)) (I1.ok.hd hc) ⟨⟨_, Heap.get?_push_size _ rfl, rfl, rfl⟩, raw1⟩ (by rw [hsz, ← hlx]; exact hz) fun h' tk acc c' hk hD hacc => ?_
  have hz1 : (s1.heap.push { cls := .type "dict_values", data := .fields #[.ref a] }).objs.size = s1.heap.objs.size + 1 := Heap.size_push ..
  rw [hz1] at hD
  have hfn : H1 (s1.heap.objs.size + 1) = none := I1.hok.fresh (Nat.le_succ _)
  have hv : Vals (kvs.map (·.2)) acc.toList := by
    have hal : acc.toList = xs.map fun x => x.2.2 := by
      apply List.ext_getElem?
      intro i
      rw [List.getElem?_map]
      by_cases hi : i < es.size
      · have hi2 : i < acc.size := by rw [hacc.1]; exact hi
        have e1 : acc[i]? = some acc[i] := Array.getElem?_eq_getElem hi2
        obtain ⟨e, he, hve⟩ := hacc.2 i acc[i] e1
        obtain ⟨y, y1, _, y3, _⟩ := hes i hi
        rw [Array.getElem?_eq_getElem hi] at he
        cases he
        rw [Array.getElem?_toList, e1, y1, hve, y3]
        rfl
      · have h1 : acc.toList.length ≤ i := by rw [Array.length_toList, hacc.1]; omega
        have h2 : xs.length ≤ i := by omega
        rw [List.getElem?_eq_none h1, List.getElem?_eq_none h2]
        rfl
    rw [hal]
    clear hal hacc hD hes hraw hdat dof hz hsz hlx raw1 ha q
    induction rel with
    | nil => exact .nil
    | cons a b ih => exact .cons a.2.2 ih
  exact ⟨.ref _, upd H1 (s1.heap.objs.size + 1) (.lst (kvs.map (·.2))), I1.laid (t' := tk) (fun b u e => hk b u (k1 b u e)) (Nat.le_succ _) ⟨by rw [List.length_map]; exact hz, acc.toList, c', hv, by rw [Array.toArray_toList]; exact hD⟩, hz1 ▸ rfl, q _ hfn⟩
/-! ### a dict locked for good, for a while -/
def tLk (td : TE) : TE := fun σ H Q => td σ H fun x H1 => ∃ d u, x = .ref d ∧ H1 d = some u ∧ Mut (some u) ∧ ∀ od, Q x (upd H1 d (.frz od u))
theorem pe_lk {X : Cx} {e : Expr} {td : TE} (he : PE X e td) : PE X e (tLk td) := by
  refine ⟨fun pins s σ H Q I h => thn (he.run pins s σ H _ I h) fun v s1 ⟨x, H1, I1, r1, d, u, ex, hd, mu, q⟩ => ?_⟩
  obtain ⟨od, I2⟩ := I1.lock hd mu
  exact ⟨x, _, I2, r1, q od⟩
theorem tab_frz {H : Hp} {p P : Addr} {od : Obj} {u o : HO} (h : H p = some (.frz od u)) (t : Tb H P) : Tb (upd H p o) P := by
  obtain ⟨ps, h1, h2, h3⟩ := t
  refine ⟨ps, by rw [upd_ne (fun z => by rw [z, h] at h1; cases h1)]; exact h1, h2, fun pos cv hc => ?_⟩
  obtain ⟨c, e1, e2⟩ := h3 pos cv hc
  have ne : c ≠ p := fun z => by
    rw [z, h] at e2
    unfold LamX.CodeO at e2
    cases e2
  exact ⟨c, e1, by rw [upd_ne ne]; exact e2⟩
section
variable {K : PySem.W.Frag} {σ : L2.St} {H : Hp} {d : Addr} {u : HO} {te : TE} {ds : List PyData}
/-- a list made while the dict at d is locked -/
theorem en_lock (hd : H d = some u) (mo : Mo u) (hn : noLs ds = true) (h : ∀ H1, Same H H1 → ∀ od, EvN te σ (upd H1 d (.frz od u)) ds) : EvN (tLockE te) σ H ds := fun H1 a Q q => by
  have hd1 : H1 d = some u := a.ob _ _ hd mo.ntb
  refine ⟨d, u, hd1, by cases u <;> first | exact mo.elim | exact True.intro, fun od => h H1 a od _ (Same.refl _) _ fun p xs H2 hp k e px => ?_⟩
  have hd2 : H2 d = some (.frz od u) := k.ob _ _ upd_same (fun ps z => by cases z)
  have pd : p ≠ d := fun z => by rw [z, upd_same] at hp; cases hp
  have hp1 : H1 p = none := by rw [upd_ne pd] at hp; exact hp
  refine ⟨hd2, q p xs _ hp1 ⟨fun b o e n => ?_, fun P t => tab_frz hd2 (k.tb P (tab_upd hd1 mo t)), fun b n => ?_⟩ (by rw [upd_ne pd]; exact e) ?_⟩
  · by_cases z : b = d
    · subst z; rw [upd_same]; rw [hd1] at e; exact e
    · rw [upd_ne z]; exact k.ob b o (by rw [upd_ne z]; exact e) n
  · by_cases z : b = d
    · rw [z, upd_same] at n; cases n
    · rw [upd_ne z] at n
      have := k.nn b n
      rw [upd_ne z] at this
      exact this
  · refine PtA.keepT (fun b ys e => ?_) _ _ hn px
    rw [upd_ne (fun z => by rw [z, hd2] at e; cases e)]
    exact e
end
/-! ### association lists -/
section
variable {κ α : Type} [DecidableEq κ]
def aput (l : List (κ × α)) (k : κ) (v : α) : List (κ × α) := if (l.any fun q => decide (q.1 = k)) = true then l.map (fun q => if q.1 = k then (q.1, v) else q) else l ++ [(k, v)]
def aget (l : List (κ × α)) (k : κ) : Option α := (l.find? fun q => decide (q.1 = k)).map (·.2)
theorem val_map {κ' : Type} [DecidableEq κ'] {g : κ → κ'} {f : α → V} (inj : ∀ a b, g a = g b → a = b) (l : List (κ × α)) (k : κ) : valV (l.map fun q => (g q.1, f q.2)) (g k) = (aget l k).map f := by
  induction l with
  | nil => rfl
  | cons q l ih =>
    rw [List.map_cons]
    by_cases h : q.1 = k
    · rw [valV_pos (by rw [h])]
      simp [aget, List.find?_cons, h]
    · rw [valV_neg (fun z => h (inj _ _ z)), ih]
      simp [aget, List.find?_cons, h]
theorem put_map {κ' : Type} [DecidableEq κ'] {g : κ → κ'} {f : α → V} (inj : ∀ a b, g a = g b → a = b) (l : List (κ × α)) (k : κ) (v : α) : putK (l.map fun q => (g q.1, f q.2)) (g k) (f v) = (aput l k v).map fun q => (g q.1, f q.2) := by
  have e : ((l.map fun q => (g q.1, f q.2)).any fun kv => decide (kv.1 = g k)) = l.any fun q => decide (q.1 = k) := by
    rw [List.any_map]
    congr 1
    funext q
    show decide (g q.1 = g k) = decide (q.1 = k)
    by_cases h : q.1 = k
    · simp [h]
    · rw [decide_eq_false h, decide_eq_false (fun z => h (inj _ _ z))]
  unfold putK aput
  rw [e]
  by_cases h : (l.any fun q => decide (q.1 = k)) = true
  · rw [if_pos h, if_pos h, List.map_map, List.map_map]
    congr 1
    funext q
    show (if g q.1 = g k then (g q.1, f v) else (g q.1, f q.2)) = _
    by_cases hq : q.1 = k
    · simp [hq]
    · rw [if_neg (fun z => hq (inj _ _ z))]
      simp [hq]
  · rw [if_neg h, if_neg h, List.map_append]
    rfl
theorem aput_len (l : List (κ × α)) (k : κ) (v : α) : (aput l k v).length ≤ l.length + 1 := by
  unfold aput
  split
  · rw [List.length_map]; omega
  · simp
theorem aget_aput_self (l : List (κ × α)) (k : κ) (v : α) : aget (aput l k v) k = some v := by
  unfold aput
  by_cases h : (l.any fun q => decide (q.1 = k)) = true
  · rw [if_pos h]
    induction l with
    | nil => simp at h
    | cons q l ih =>
      rw [List.map_cons]
      by_cases hq : q.1 = k
      · simp [aget, List.find?_cons, hq]
      · have h' : (l.any fun q => decide (q.1 = k)) = true := by
          rw [List.any_cons, decide_eq_false hq, Bool.false_or] at h
          exact h
        have := ih h'
        simp only [hq, if_false, aget, List.find?_cons, decide_false] at this ⊢
        exact this
  · rw [if_neg h]
    have hn : l.find? (fun q => decide (q.1 = k)) = none := by
      rw [List.find?_eq_none]
      intro q hq hk
      exact h (List.any_eq_true.mpr ⟨q, hq, hk⟩)
    unfold aget
    rw [List.find?_append, hn]
    simp
theorem aget_aput_ne {l : List (κ × α)} {k j : κ} {v : α} (n : j ≠ k) : aget (aput l k v) j = aget l j := by
  have key : ∀ m : List (κ × α), aget (m.map fun q => if q.1 = k then (q.1, v) else q) j = aget m j := by
    intro m
    induction m with
    | nil => rfl
    | cons q m ih =>
      rw [List.map_cons]
      by_cases hq : q.1 = k
      · have hj : ¬ q.1 = j := fun z => n (z.symm.trans hq)
        rw [if_pos hq]
        unfold aget at ih ⊢
        rw [List.find?_cons_of_neg (by simpa using hj), List.find?_cons_of_neg (by simpa using hj)]
        exact ih
      · rw [if_neg hq]
        unfold aget at ih ⊢
        by_cases hj : q.1 = j
        · rw [List.find?_cons_of_pos (by simpa using hj), List.find?_cons_of_pos (by simpa using hj)]
        · rw [List.find?_cons_of_neg (by simpa using hj), List.find?_cons_of_neg (by simpa using hj)]
          exact ih
  unfold aput
  split
  · exact key l
  · unfold aget
    rw [List.find?_append]
    have : List.find? (fun q : κ × α => decide (q.1 = j)) [(k, v)] = none := by
      rw [List.find?_cons_of_neg (by simpa using fun z => n z.symm)]
      rfl
    rw [this, Option.or_none]
end
end Ro
namespace Ro
open PySem PySem.Spec PyProof.Rows L2
variable [TabsC]
def isWhole : PyData → Bool
  | .int _ => true
  | _ => false
def isFromTo (d : PyData) (a b : Int) : Bool := match d with
  | .int i => decide (a ≤ i) && decide (i ≤ b)
  | _ => false
abbrev spIsWhole : Sp := SpD fun ds z => ∃ d, ds = [d] ∧ z = .bool (isWhole d)
abbrev spIsFromTo : Sp := SpD fun ds z => ∃ d a b, ds = [d, .int a, .int b] ∧ z = .bool (isFromTo d a b)
section
variable {P : Program} {w : World} {K : PySem.W.Frag} {mg : Str → Option Value} {base : Heap}
theorem sc_is_whole : FnScope ["thing"] ["thing"] (defScope (top 17)) := ⟨rfl, rfl, rfl, by decide +kernel, rfl, by decide +kernel, by decide +kernel⟩
theorem ok_is_whole (T : Tx K mg w) : Cal P w K mg base 1 "is_whole" ["thing"] spIsWhole := by
  obtain ⟨g, fd, F⟩ := T.f_is_whole
  refine ⟨g, ⟨fd, F.ok sc_is_whole (fun vs H Q E h => ?_) (fun cdv A outer s H vs Q E hr h => ?_), F.bindsN fun _ _ _ _ _ _ us hl => match us, hl with | [_], _ => rfl⟩, F.kp⟩
  · obtain ⟨ds, z, p, ⟨d, rfl, rfl⟩, _⟩ := h
    exact p.length
  · obtain ⟨ds, z, p, ⟨d, rfl, rfl⟩, k⟩ := h
    obtain ⟨v, rfl, p1⟩ := ptA1 p
    refine ⟨_, pss_one (ps_ret (pe_and (pe_callB call_isi rfl T.n_isinstance (by decide +kernel) (pa_cons (pv 0) (pa_cons (pe_ty (T := "int") T.n_int (by decide +kernel)) pa_nil)))
      (pe_one (pe_not (pe_callB call_isi rfl T.n_isinstance (by decide +kernel) (pa_cons (pv 0) (pa_cons (pe_ty (T := "bool") T.n_bool (by decide +kernel)) pa_nil))))))), ?_⟩
    have e0 : EvD (tVar 0) (start ["thing"] [v]) H d := ed_var rfl p1
    refine s_ret ((ed_andV (ed_isi e0 (kit_int d)) fun _ => ed_notV (ed_isi e0 (kit_bool d))).to ?_) k
    cases d <;> rfl
theorem sc_is_from_to : FnScope ["thing", "least", "most"] ["thing", "least", "most"] (defScope (top 18)) := ⟨rfl, rfl, rfl, by decide +kernel, rfl, by decide +kernel, by decide +kernel⟩
theorem ok_is_from_to (T : Tx K mg w) : Cal P w K mg base 2 "is_from_to" ["thing", "least", "most"] spIsFromTo := by
  have C1 : Cal P w K mg base 1 "is_whole" ["thing"] spIsWhole := ok_is_whole T
  obtain ⟨g, fd, F⟩ := T.f_is_from_to
  refine ⟨g, ⟨fd, F.ok sc_is_from_to (fun vs H Q E h => ?_) (fun cdv A outer s H vs Q E hr h => ?_), F.bindsN fun _ _ _ _ _ _ us hl => match us, hl with | [_, _, _], _ => rfl⟩, F.kp⟩
  · obtain ⟨ds, z, p, ⟨d, a, b, rfl, rfl⟩, _⟩ := h
    exact p.length
  · obtain ⟨ds, z, p, ⟨d, a, b, rfl, rfl⟩, k⟩ := h
    obtain ⟨v, v1, v2, rfl, p0, p1, p2⟩ := ptA3 p
    refine ⟨_, pss_one (ps_ret (pe_and (pe_cal C1 hr (pa_cons (pv 0) pa_nil)) (pe_one (pe_chain op_le op_le (pv 1) (pv 0) (pv 2))))), ?_⟩
    have e0 : EvD (tVar 0) (start ["thing", "least", "most"] [v, v1, v2]) H d := ed_var rfl p0
    have e1 : EvD (tVar 1) (start ["thing", "least", "most"] [v, v1, v2]) H (.int a) := ed_var rfl p1
    have e2 : EvD (tVar 2) (start ["thing", "least", "most"] [v, v1, v2]) H (.int b) := ed_var rfl p2
    refine s_ret ((ed_andV (c := isFromTo d a b) (ed_call (ea_one e0) ⟨d, rfl, rfl⟩) fun hw => ?_).to ?_) k
    · cases d with
      | int i => exact ed_chain e1 e0 (fun _ => e2) rd_ib fun _ => rd_ib
      | _ => cases hw
    · cases d <;> rfl
end
end Ro
namespace Ro
open PySem PySem.Spec PyProof.Rows L2
variable [TabsC]
/-! ### rows -/
structure Row where
  m : Int
  l : Str
  w : PyData
abbrev letters : Str := "abcdefghijklmnopqrstuvwxyz"
def nameOk (x : Str) : Prop := 1 ≤ x.length ∧ x.length ≤ 8 ∧ ∀ c ∈ x.cps.toList, c ∈ letters.cps.toList
def whatOk (l : Str) (w : PyData) : Prop := (l = "down" ∨ l = "up") ∧ (∃ x, w = .str x ∧ nameOk x) ∨ ¬ (l = "down" ∨ l = "up") ∧ ∃ o, w = .int o ∧ -4 ≤ o ∧ o ≤ 4
abbrev lines6 : List Str := ["port", "star", "down", "aport", "astar", "up"]
structure Row.Ok (r : Row) : Prop where
  m0 : 0 ≤ r.m
  m1 : r.m ≤ 99999
  l : r.l ∈ lines6
  w : whatOk r.l r.w
def rowD (r : Row) : PyData := .tuple [.int r.m, .str r.l, r.w]
def rowL (r : Row) : PyData := .list [.int r.m, .str r.l, r.w]
def sentOf (l : Str) : Str := if l = "port" ∨ l = "star" ∨ l = "down" then "bridge" else "room"
theorem sentKV_of {l : Str} (h : l ∈ lines6) : (l, sentOf l) ∈ sentKV := by
  simp only [lines6, List.mem_cons, List.not_mem_nil, or_false] at h
  rcases h with rfl | rfl | rfl | rfl | rfl | rfl <;> decide +kernel
theorem whatOk.flat {l : Str} {w : PyData} (h : whatOk l w) : (∃ x, w = .str x ∧ nameOk x) ∨ ∃ o, w = .int o := by
  rcases h with ⟨_, h⟩ | ⟨_, o, h, _⟩
  · exact .inl h
  · exact .inr ⟨o, h⟩
abbrev spIsName : Sp := SpD fun ds z => ∃ x, ds = [.str x] ∧ nameOk x ∧ z = .bool true
abbrev spIsWhat : Sp := SpD fun ds z => ∃ l w, ds = [.str l, w] ∧ whatOk l w ∧ z = .bool true
abbrev spIsRow : Sp := SpD fun ds z => ∃ r, ds = [rowD r] ∧ r.Ok ∧ z = .bool true
abbrev spRowOf : Sp := SpD fun ds z => ∃ r, (ds = [rowD r] ∨ ds = [rowL r]) ∧ r.Ok ∧ z = rowD r
abbrev spIsMin : Sp := SpD fun ds z => ∃ d, ds = [d] ∧ z = .bool (isFromTo d 0 99999)
abbrev spIsOrd : Sp := SpD fun ds z => ∃ d, ds = [d] ∧ z = .bool (isFromTo d (-4) 4)
section
variable {P : Program} {w : World} {K : PySem.W.Frag} {mg : Str → Option Value} {base : Heap}
theorem sc_is_minute : FnScope ["thing"] ["thing"] (defScope (top 19)) := ⟨rfl, rfl, rfl, by decide +kernel, rfl, by decide +kernel, by decide +kernel⟩
theorem okF_is_minute (T : Tx K mg w) : ∃ fd, FunD K "is_minute" "is_minute" (defArgs (top 19)) (defBody (top 19)) (defScope (top 19)) [] [] (He.ga K "is_minute") fd ∧ FnOk P w K mg base (L2.CX P w) 3 (He.ga K "is_minute") fd ["thing"] spIsMin := by
  have C1 : Cal P w K mg base 2 "is_from_to" ["thing", "least", "most"] spIsFromTo := ok_is_from_to T
  obtain ⟨g, fd, F⟩ := T.f_is_minute
  refine ⟨fd, F, F.ok sc_is_minute (fun vs H Q E h => ?_) (fun cdv A outer s H vs Q E hr h => ?_)⟩
  · obtain ⟨ds, z, p, ⟨d, rfl, rfl⟩, _⟩ := h; exact p.length
  · obtain ⟨ds, z, p, ⟨d, rfl, rfl⟩, k⟩ := h
    obtain ⟨v, rfl, p1⟩ := ptA1 p
    refine ⟨_, pss_one (ps_ret (pe_cal C1 hr (pa_cons (pv 0) (pa_cons pe_int (pa_cons (pe_gi T.i_MOST_MINUTE) pa_nil))))), ?_⟩
    exact s_ret (ed_call (ea_cons (ed_var rfl p1) (ea_cons ed_int (ea_one ed_int))) ⟨d, 0, 99999, rfl, rfl⟩) k
theorem ok_is_minute (T : Tx K mg w) : Cal P w K mg base 3 "is_minute" ["thing"] spIsMin := by
  obtain ⟨fd, F, G⟩ := okF_is_minute (P := P) (base := base) T
  exact ⟨(T.f_is_minute).1, ⟨fd, G, F.bindsN fun _ _ _ _ _ _ us hl => match us, hl with | [_], _ => rfl⟩, F.kp⟩
theorem sc_is_order : FnScope ["thing"] ["thing"] (defScope (top 20)) := ⟨rfl, rfl, rfl, by decide +kernel, rfl, by decide +kernel, by decide +kernel⟩
theorem okF_is_order (T : Tx K mg w) : ∃ fd, FunD K "is_order" "is_order" (defArgs (top 20)) (defBody (top 20)) (defScope (top 20)) [] [] (He.ga K "is_order") fd ∧ FnOk P w K mg base (L2.CX P w) 3 (He.ga K "is_order") fd ["thing"] spIsOrd := by
  have C1 : Cal P w K mg base 2 "is_from_to" ["thing", "least", "most"] spIsFromTo := ok_is_from_to T
  obtain ⟨g, fd, F⟩ := T.f_is_order
  refine ⟨fd, F, F.ok sc_is_order (fun vs H Q E h => ?_) (fun cdv A outer s H vs Q E hr h => ?_)⟩
  · obtain ⟨ds, z, p, ⟨d, rfl, rfl⟩, _⟩ := h; exact p.length
  · obtain ⟨ds, z, p, ⟨d, rfl, rfl⟩, k⟩ := h
    obtain ⟨v, rfl, p1⟩ := ptA1 p
    refine ⟨_, pss_one (ps_ret (pe_cal C1 hr (pa_cons (pv 0) (pa_cons (pe_un un_neg (pe_gi T.i_MOST_ORDER)) (pa_cons (pe_gi T.i_MOST_ORDER) pa_nil))))), ?_⟩
    exact s_ret (ed_call (ea_cons (ed_var rfl p1) (ea_cons (ed_un (z := .int (-4)) ed_int fun H x Q p q => ⟨4, pt_int.mp p, q _ H (Same.refl H) (pt_int.mpr rfl)⟩) (ea_one ed_int))) ⟨d, -4, 4, rfl, rfl⟩) k
theorem ok_is_order (T : Tx K mg w) : Cal P w K mg base 3 "is_order" ["thing"] spIsOrd := by
  obtain ⟨fd, F, G⟩ := okF_is_order (P := P) (base := base) T
  exact ⟨(T.f_is_order).1, ⟨fd, G, F.bindsN fun _ _ _ _ _ _ us hl => match us, hl with | [_], _ => rfl⟩, F.kp⟩
theorem sc_is_name : FnScope ["thing", "sign"] ["thing"] (defScope (top 21)) := ⟨rfl, rfl, rfl, by decide +kernel, rfl, by decide +kernel, by decide +kernel⟩
theorem okF_is_name (T : Tx K mg w) : ∃ fd, FunD K "is_name" "is_name" (defArgs (top 21)) (defBody (top 21)) (defScope (top 21)) [] [] (He.ga K "is_name") fd ∧ FnOk P w K mg base (L2.CX P w) 1 (He.ga K "is_name") fd ["thing"] spIsName := by
  obtain ⟨g, fd, F⟩ := T.f_is_name
  refine ⟨fd, F, F.ok sc_is_name (fun vs H Q E h => ?_) (fun cdv A outer s H vs Q E hr h => ?_)⟩
  · obtain ⟨ds, z, p, ⟨d, rfl, _, rfl⟩, _⟩ := h; exact p.length
  · obtain ⟨ds, z, p, ⟨x, rfl, hx, rfl⟩, k⟩ := h
    obtain ⟨v, rfl, p1⟩ := ptA1 p
    have nd := sc_is_name.nd
    refine ⟨_, pss_cons (ps_if (PW.pt (pw_or (pt_not (pt_val (pe_callB call_isi rfl T.n_isinstance (by decide +kernel) (pa_cons (pv 0) (pa_cons (pe_ty (T := "str") T.n_str (by decide +kernel)) pa_nil)))))
          (pw_or1 (pt_not (pt_chain op_le op_le pe_int (pe_callB call_len_str rfl T.n_len PySem.boot_len (pa_cons (pv 0) pa_nil)) (pe_gi T.i_MOST_LETTERS)))))) (pss_one (ps_ret pe_bl)) pss_nil)
      (pss_one (ps_ret (pe_callB (cr_all rfl) rfl T.n_all (by decide +kernel) (pa_cons
        (pe_lc (own := [("sign", 1)]) (g := gName 1) (tt := tYes) rfl nd (pi_str (pv 0)) (blkOk_by (N := ["thing", "sign"]) (sc := defScope (top 21)) (by decide +kernel)) (fun _ _ _ _ _ => pg_name (i := 1) nd rfl (Or.inl rfl)) (fun _ _ _ _ _ => pts_nil)
          (fun _ _ _ _ _ => pe_cmpR op_in_sign (pv 1) (pe_gs T.s_LETTERS) rfl)) pa_nil)))), ?_⟩
    have e0 : EvD (tVar 0) (start ["thing", "sign"] [v]) H (.str x) := ed_var rfl p1
    have h8 : x.length ≤ sizeLine := Nat.le_trans hx.2.1 (by decide)
    refine q_when (b := false) ((eb_or (eb_not (eb_B (ed_isi e0 (kit_str _)))) fun _ => eb_not (eb_T (ed_chain ed_int (ed_cb (ea_one e0) (rc_lenS h8)) (fun _ => ed_int) rd_ib fun _ => rd_ib))).to ?_) (fun z => by cases z) (fun _ H1 k1 => ?_)
    · have h1 := hx.1
      have h2 := hx.2.1
      simp only [isStr, Bool.not_true, Bool.false_or]
      rw [decide_eq_true (by omega), decide_eq_true (by omega)]
      rfl
    · have e1 : EvN _ (start ["thing", "sign"] [v]) H1 _ := en_lc (t := tYes) (te := tOp _ (tVar 1) (tC (.str letters))) (gt := gName 1) (vs := [1]) x.cps.toList (fun c => .str ⟨#[c]⟩) (fun _ => true) (fun c => .bool (decide (c ∈ letters.cps.toList))) (by have := hx.2.1; show x.cps.toList.length ≤ _; rw [Array.length_toList]; exact Nat.le_trans this (by decide)) (fun _ _ _ => rfl)
          (ei_str (e0.mono k1)) (fun c hc v H2 k2 pv => ⟨_, fun Q q => q, rfl, fun H3 _ Q q => q H3 (Same.refl H3), fun _ => ed_op (ed_var rfl pv) ed_str rd_inSign⟩)
      refine s_ret ((ed_cb (ea_one e1.dd) (by rw [show (fun c => PyData.bool (decide (c ∈ letters.cps.toList))) = PyData.bool ∘ (fun c : Nat => decide (c ∈ letters.cps.toList)) from rfl, ← List.map_map]; exact rc_all)).to ?_) fun v H2 k2 p2 => k v H2 (k1.trans k2) p2
      rw [List.all_map, List.filter_eq_self.mpr (fun _ _ => rfl)]
      exact congrArg PyData.bool (List.all_eq_true.mpr fun c hc => decide_eq_true (hx.2.2 c hc))
theorem ok_is_name (T : Tx K mg w) : Cal P w K mg base 1 "is_name" ["thing"] spIsName := by
  obtain ⟨fd, F, G⟩ := okF_is_name (P := P) (base := base) T
  exact ⟨(T.f_is_name).1, ⟨fd, G, F.bindsN fun _ _ _ _ _ _ us hl => match us, hl with | [_], _ => rfl⟩, F.kp⟩
theorem sc_is_what : FnScope ["line", "thing"] ["line", "thing"] (defScope (top 28)) := ⟨rfl, rfl, rfl, by decide +kernel, rfl, by decide +kernel, by decide +kernel⟩
theorem okF_is_what (T : Tx K mg w) : ∃ fd, FunD K "is_what" "is_what" (defArgs (top 28)) (defBody (top 28)) (defScope (top 28)) [] [] (He.ga K "is_what") fd ∧ FnOk P w K mg base (L2.CX P w) 4 (He.ga K "is_what") fd ["line", "thing"] spIsWhat := by
  have C1 : Cal P w K mg base 1 "is_name" ["thing"] spIsName := ok_is_name T
  have C2 : Cal P w K mg base 3 "is_order" ["thing"] spIsOrd := ok_is_order T
  obtain ⟨g, fd, F⟩ := T.f_is_what
  refine ⟨fd, F, F.ok sc_is_what (fun vs H Q E h => ?_) (fun cdv A outer s H vs Q E hr h => ?_)⟩
  · obtain ⟨ds, z, p, ⟨l, d, rfl, _⟩, _⟩ := h; exact p.length
  · obtain ⟨ds, z, p, ⟨l, d, rfl, hx, rfl⟩, k⟩ := h
    obtain ⟨v, v1, rfl, p0, p1⟩ := ptA2 p
    refine ⟨_, pss_cons (ps_if (pt_cmpR op_in_seq (pv 0) (pe_gr T.t_WORDED.1) rfl) (pss_one (ps_ret (pe_cal C1 (hr.mono (by decide)) (pa_cons (pv 1) pa_nil)))) pss_nil)
      (pss_one (ps_ret (pe_cal C2 (hr.mono (by decide)) (pa_cons (pv 1) pa_nil)))), ?_⟩
    cases pt_str.mp p0
    have e1 : EvD (tVar 1) (start ["line", "thing"] [.str l, v1]) H d := ed_var rfl p1
    refine ⟨_, rfl, _, _, rfl, .inr (T.t_WORDED.2 H), rfl, rfl, _, rfl, ?_⟩
    have e : inV (.str l) [.str "down", .str "up"] = decide (l = "down" ∨ l = "up") := inV_str2
    show if (inV (.str l) [.str "down", .str "up"]) = true then _ else _
    rw [e]
    rcases hx with ⟨h1, x, rfl, hn⟩ | ⟨h1, o, rfl, h2, h3⟩
    · rw [if_pos (decide_eq_true h1)]
      exact s_ret (ed_call (ea_one e1) ⟨x, rfl, hn, rfl⟩) k
    · rw [if_neg (by rw [decide_eq_false h1]; exact Bool.false_ne_true)]
      exact s_ret ((ed_call (ea_one e1) ⟨_, rfl, rfl⟩).to (by simp only [isFromTo]; rw [decide_eq_true h2, decide_eq_true h3]; rfl)) k
theorem ok_is_what (T : Tx K mg w) : Cal P w K mg base 4 "is_what" ["line", "thing"] spIsWhat := by
  obtain ⟨fd, F, G⟩ := okF_is_what (P := P) (base := base) T
  exact ⟨(T.f_is_what).1, ⟨fd, G, F.bindsN fun _ _ _ _ _ _ us hl => match us, hl with | [_, _], _ => rfl⟩, F.kp⟩
theorem sc_is_row : FnScope ["thing"] ["thing"] (defScope (top 29)) := ⟨rfl, rfl, rfl, by decide +kernel, rfl, by decide +kernel, by decide +kernel⟩
theorem okF_is_row (T : Tx K mg w) : ∃ fd, FunD K "is_row" "is_row" (defArgs (top 29)) (defBody (top 29)) (defScope (top 29)) [] [] (He.ga K "is_row") fd ∧ FnOk P w K mg base (L2.CX P w) 5 (He.ga K "is_row") fd ["thing"] spIsRow := by
  have C1 : Cal P w K mg base 3 "is_minute" ["thing"] spIsMin := ok_is_minute T
  have C2 : Cal P w K mg base 4 "is_what" ["line", "thing"] spIsWhat := ok_is_what T
  obtain ⟨g, fd, F⟩ := T.f_is_row
  refine ⟨fd, F, F.ok sc_is_row (fun vs H Q E h => ?_) (fun cdv A outer s H vs Q E hr h => ?_)⟩
  · obtain ⟨ds, z, p, ⟨l, rfl, _⟩, _⟩ := h; exact p.length
  · obtain ⟨ds, z, p, ⟨r, rfl, hx, rfl⟩, k⟩ := h
    obtain ⟨v, rfl, p0⟩ := ptA1 p
    obtain ⟨es, n, D⟩ := T.d_SENT.d
    refine ⟨_, pss_cons (ps_if (PW.pt (pw_or (pt_not (pt_val (pe_callB call_isi rfl T.n_isinstance (by decide +kernel) (pa_cons (pv 0) (pa_cons (pe_ty (T := "tuple") T.n_tuple (by decide +kernel)) pa_nil)))))
          (pw_or (pt_cmpR op_ne (pe_callB call_len_seq rfl T.n_len PySem.boot_len (pa_cons (pv 0) pa_nil)) pe_int (nomark _))
          (pw_or1 (pt_not (pt_val (pe_cal C1 (hr.mono (by decide)) (pa_cons (pe_ix ix_tup (pv 0) pe_int (fun _ _ => rfl)) pa_nil)))))))) (pss_one (ps_ret pe_bl)) pss_nil)
      (pss_cons (ps_if (PW.pt (pw_or (pt_not (pt_val (pe_callB call_isi rfl T.n_isinstance (by decide +kernel) (pa_cons (pe_ix ix_tup (pv 0) pe_int (fun _ _ => rfl)) (pa_cons (pe_ty (T := "str") T.n_str (by decide +kernel)) pa_nil)))))
          (pw_or1 (pt_cmpR (op_notIn_kd D) (pe_ix ix_tup (pv 0) pe_int (fun _ _ => rfl)) (pe_gr T.d_SENT.g) rfl)))) (pss_one (ps_ret pe_bl)) pss_nil)
      (pss_one (ps_ret (pe_cal C2 hr (pa_cons (pe_ix ix_tup (pv 0) pe_int (fun _ _ => rfl)) (pa_cons (pe_ix ix_tup (pv 0) pe_int (fun _ _ => rfl)) pa_nil)))))), ?_⟩
    have e0 : EvD (tVar 0) (start ["thing"] [v]) H (.tuple [.int r.m, .str r.l, r.w]) := ed_var rfl p0
    have i0 : EvD (tOp (rIxT K) (tVar 0) (tC (.int 0))) (start ["thing"] [v]) H (.int r.m) := ed_op e0 ed_int (rd_ixT rfl)
    have i1 : EvD (tOp (rIxT K) (tVar 0) (tC (.int 1))) (start ["thing"] [v]) H (.str r.l) := ed_op e0 ed_int (rd_ixT rfl)
    have i2 : EvD (tOp (rIxT K) (tVar 0) (tC (.int 2))) (start ["thing"] [v]) H r.w := ed_op e0 ed_int (rd_ixT rfl)
    refine q_when (b := false) ((eb_or (eb_not (eb_B (ed_isi e0 (kit_tuple _)))) fun _ => eb_or (eb_T (ed_op (ed_cb (ea_one e0) rc_lenT) ed_int rd_neI)) fun _ => eb_not (eb_B (ed_call (ea_one i0) ⟨_, rfl, rfl⟩))).to ?_) (fun z => by cases z) (fun _ H1 k1 => ?_)
    · simp only [isTuple, isFromTo]
      rw [decide_eq_true hx.m0, decide_eq_true hx.m1]
      rfl
    · obtain ⟨u, hu, _⟩ := T.d_SENT.v _ (sentKV_of hx.l)
      refine q_when (b := false) ((eb_or (eb_not (eb_B (ed_isi (i1.mono k1) (kit_str _)))) fun _ => eb_T (b := false) (ed_opV (i1.mono k1) ev_c fun H2 x Q k2 p2 q => ⟨r.l, _, pt_str.mp p2, rfl, hu, q _ H2 (Same.refl H2) (pt_bl.mpr rfl)⟩)).to rfl) (fun z => by cases z) (fun _ H2 k2 => ?_)
      exact s_ret (ed_call (ea_cons (i1.mono (k1.trans k2)) (ea_one (i2.mono (k1.trans k2)))) ⟨r.l, r.w, rfl, hx.w, rfl⟩) fun v3 H3 k3 p3 => k v3 H3 ((k1.trans k2).trans k3) p3
theorem ok_is_row (T : Tx K mg w) : Cal P w K mg base 5 "is_row" ["thing"] spIsRow := by
  obtain ⟨fd, F, G⟩ := okF_is_row (P := P) (base := base) T
  exact ⟨(T.f_is_row).1, ⟨fd, G, F.bindsN fun _ _ _ _ _ _ us hl => match us, hl with | [_], _ => rfl⟩, F.kp⟩
theorem sc_row_of : FnScope ["thing"] ["thing"] (defScope (top 30)) := ⟨rfl, rfl, rfl, by decide +kernel, rfl, by decide +kernel, by decide +kernel⟩
theorem okF_row_of (T : Tx K mg w) : ∃ fd, FunD K "row_of" "row_of" (defArgs (top 30)) (defBody (top 30)) (defScope (top 30)) [] [] (He.ga K "row_of") fd ∧ FnOk P w K mg base (L2.CX P w) 6 (He.ga K "row_of") fd ["thing"] spRowOf := by
  have C1 : Cal P w K mg base 5 "is_row" ["thing"] spIsRow := ok_is_row T
  obtain ⟨g, fd, F⟩ := T.f_row_of
  refine ⟨fd, F, F.ok sc_row_of (fun vs H Q E h => ?_) (fun cdv A outer s H vs Q E hr h => ?_)⟩
  · obtain ⟨ds, z, p, ⟨l, rfl | rfl, _⟩, _⟩ := h <;> exact p.length
  · obtain ⟨ds, z, p, ⟨r, hds, hx, rfl⟩, k⟩ := h
    refine ⟨_, pss_cons (ps_if (pt_val (pe_callB call_isi rfl T.n_isinstance (by decide +kernel) (pa_cons (pv 0) (pa_cons (pe_ty (T := "list") T.n_list (by decide +kernel)) pa_nil))))
        (pss_one (ps_set (i := 0) sc_row_of.nd rfl (Or.inl rfl) (pe_callTy call_tuple_of rfl T.n_tuple (by decide +kernel) (pa_cons (pv 0) pa_nil)))) pss_nil)
      (pss_cons (ps_if (pt_not (pt_val (pe_cal C1 (hr.mono (by decide)) (pa_cons (pv 0) pa_nil)))) (pss_one ps_never) pss_nil)
      (pss_one (ps_ret (pv 0)))), ?_⟩
    have fin : ∀ (v : V) (H1 : Hp), Same H H1 → Pt H1 (rowD r) v → tSeq (tIfS (tNot (tB (tCall spIsRow [] E0 (tCons (tVar 0) tNil)))) tNever tNext) (tRet (tVar 0)) { nx := fun _ H' => Q .non H', rt := Q } [some v] H1 := fun v H1 k1 p1 => by
      have e0 : EvD (tVar 0) [some v] H1 (rowD r) := ed_var rfl p1
      refine q_when (b := false) ((eb_not (eb_B (ed_call (ea_one e0) ⟨r, rfl, hx, rfl⟩))).to rfl) (fun z => by cases z) (fun _ H2 k2 => ?_)
      exact s_ret (e0.mono k2) fun v3 H3 k3 p3 => k v3 H3 ((k1.trans k2).trans k3) p3
    rcases hds with rfl | rfl
    · obtain ⟨v, rfl, p0⟩ := ptA1 p
      have e0 : EvD (tVar 0) (start ["thing"] [v]) H (rowD r) := ed_var rfl p0
      exact q_when (b := false) ((eb_B (ed_isi e0 (kit_list _))).to rfl) (fun z => by cases z) (fun _ H1 k1 => fin v H1 k1 (p0.keep k1))
    · obtain ⟨v, rfl, p0⟩ := ptA1 p
      have e0 : EvD (tVar 0) (start ["thing"] [v]) H (rowL r) := ed_var rfl p0
      refine q_when (b := true) ((eb_B (ed_isi e0 (kit_list _))).to rfl) (fun _ H1 k1 => ?_) (fun z => by cases z)
      obtain ⟨a, xs, rfl, ha, hxs⟩ := pt_lst.mp p0
      refine ⟨_, rfl, a, xs, rfl, .inl ⟨SqL.of (k1 a _ ha), fun l hl => ?_⟩⟩
      exact fin _ _ (k1.trans (same_new hl)) (pt_tup.mpr ⟨l, xs, rfl, upd_same, PtA.keep (k1.trans (same_new hl)) _ _ hxs⟩)
theorem ok_row_of (T : Tx K mg w) : Cal P w K mg base 6 "row_of" ["thing"] spRowOf := by
  obtain ⟨fd, F, G⟩ := okF_row_of (P := P) (base := base) T
  exact ⟨(T.f_row_of).1, ⟨fd, G, F.bindsN fun _ _ _ _ _ _ us hl => match us, hl with | [_], _ => rfl⟩, F.kp⟩
end
end Ro
namespace Ro
open PySem PySem.Spec PyProof.Rows L2
variable [TabsC]
/-! ### logs, pairs, spans: the mirror -/
abbrev Log := List Row
abbrev Pair := Int × Int
def rowAt (B : Log) (i : Int) : Row := (B[i.toNat]?).getD ⟨0, "", .none⟩
def logD (B : Log) : PyData := .tuple (B.map rowD)
def pairD (p : Pair) : PyData := .tuple [.int p.1, .int p.2]
def tailEq (a b : Row) : Bool := PyData.eqv (.tuple [.str a.l, a.w]) (.tuple [.str b.l, b.w])
structure LogOk (B : Log) : Prop where
  len : B.length ≤ 40
  ok : ∀ r ∈ B, r.Ok
structure IsP (B R : Log) (p : Pair) : Prop where
  b0 : 0 ≤ p.1
  b1 : p.1 < B.length
  r0 : 0 ≤ p.2
  r1 : p.2 < R.length
  eq : tailEq (rowAt B p.1) (rowAt R p.2) = true
def spanM (B R : Log) (p : Pair) (lag : Int) : Pair :=
  let far := (rowAt R p.2).m - (rowAt B p.1).m
  if sentOf (rowAt B p.1).l = "bridge" then (far - lag, far) else (far, far + lag)
def meetsM (B R : Log) (p : Pair) (lag low high : Int) : Bool := decide ((spanM B R p lag).1 ≤ high) && decide (low ≤ (spanM B R p lag).2)
def fitsM (s : Pair) (d : Int) : Bool := decide (s.1 ≤ d) && decide (d ≤ s.2)
theorem atI_int {α : Type} {xs : List α} {i : Int} {x : α} (h0 : 0 ≤ i) (h : xs[i.toNat]? = some x) : atI xs i = some x := by
  have e : i = ((i.toNat : Nat) : Int) := by omega
  rw [e]
  exact atI_nat h
theorem rowAt_get {B : Log} {i : Int} (h0 : 0 ≤ i) (h1 : i < B.length) : B[i.toNat]? = some (rowAt B i) := by
  have h : i.toNat < B.length := by omega
  unfold rowAt
  rw [List.getElem?_eq_getElem h]
  rfl
theorem atI_log {B : Log} {i : Int} (h0 : 0 ≤ i) (h1 : i < B.length) : atI (B.map rowD) i = some (rowD (rowAt B i)) := atI_int h0 (by rw [List.getElem?_map, rowAt_get h0 h1]; rfl)
theorem rowAt_mem {B : Log} {i : Int} (h0 : 0 ≤ i) (h1 : i < B.length) : rowAt B i ∈ B := List.mem_of_getElem? (rowAt_get h0 h1)
theorem depth_lw {r : Row} (h : whatOk r.l r.w) : (PyData.tuple [.str r.l, r.w]).depth ≤ 64 := by
  rcases h.flat with ⟨x, e, _⟩ | ⟨o, e⟩ <;> rw [e] <;> simp [PyData.depth, PyData.depthAll]
abbrev spSent : Sp := SpD fun ds z => ∃ l, ds = [.str l] ∧ l ∈ lines6 ∧ z = .str (sentOf l)
abbrev spDial : Sp := SpD fun ds z => ∃ q ∈ dialKV, ds = [.str q.1] ∧ z = .str q.2
abbrev spIsPair : Sp := SpD fun ds z => ∃ B R p, ds = [logD B, logD R, pairD p] ∧ LogOk B ∧ LogOk R ∧ IsP B R p ∧ z = .bool true
abbrev spSpan : Sp := SpD fun ds z => ∃ B R p lag, ds = [logD B, logD R, pairD p, .int lag] ∧ LogOk B ∧ LogOk R ∧ IsP B R p ∧ z = pairD (spanM B R p lag)
abbrev spMeets : Sp := SpD fun ds z => ∃ B R p lag low high, ds = [logD B, logD R, pairD p, .int lag, .int low, .int high] ∧ LogOk B ∧ LogOk R ∧ IsP B R p ∧ z = .bool (meetsM B R p lag low high)
abbrev spFits : Sp := SpD fun ds z => ∃ s d, ds = [pairD s, .int d] ∧ z = .bool (fitsM s d)
section
variable {P : Program} {w : World} {K : PySem.W.Frag} {mg : Str → Option Value} {base : Heap}
/-- every parameter is given, though there are defaults -/
theorem bindsF {x qual : Str} {params : Arguments} {body : List Stmt} {scope : Scope} {dvs : List V} {f : Addr} {fd : FuncData} {ps : List Str} (F : FunD K x qual params body scope dvs [] f fd) (hd : dvs ≠ [])
    (h : ∀ (T : Addr) (kV doc pm : Value) (an : Option Addr) (cdv ct : Value) (us its : List Value), us.length = ps.length → its.length = dvs.length →
      ∃ k, bindArgs (PySem.W.fnOf x qual params body scope (.ref T) kV doc pm an cdv ct) ⟨us, []⟩ = seqItems? (.ref T) >>= k ∧ k (some its.toArray) = pure (ps.zip us)) : Binds K fd ps [] := by
  obtain ⟨ds, r, b⟩ := F.binds1 (ps := ps) ps.length dvs.length hd (by omega) fun T kV doc pm an cdv ct us its h1 h2 => by
    obtain ⟨k, e1, e2⟩ := h T kV doc pm an cdv ct us its h1 h2
    exact ⟨k, e1, by rw [e2, List.drop_of_length_le (by omega), List.append_nil]⟩
  rw [List.drop_length] at r
  cases r
  exact b
theorem sc_sent_from : FnScope ["line"] ["line"] (defScope (top 27)) := ⟨rfl, rfl, rfl, by decide +kernel, rfl, by decide +kernel, by decide +kernel⟩
theorem okF_sent_from (T : Tx K mg w) : ∃ fd, FunD K "sent_from" "sent_from" (defArgs (top 27)) (defBody (top 27)) (defScope (top 27)) [] [] (He.ga K "sent_from") fd ∧ FnOk P w K mg base (L2.CX P w) 1 (He.ga K "sent_from") fd ["line"] spSent := by
  obtain ⟨g, fd, F⟩ := T.f_sent_from
  refine ⟨fd, F, F.ok sc_sent_from (fun vs H Q E h => ?_) (fun cdv A outer s H vs Q E hr h => ?_)⟩
  · obtain ⟨ds, z, p, ⟨l, rfl, _⟩, _⟩ := h; exact p.length
  · obtain ⟨ds, z, p, ⟨l, rfl, hl, rfl⟩, k⟩ := h
    obtain ⟨v, rfl, p0⟩ := ptA1 p
    cases pt_str.mp p0
    refine ⟨_, pss_one (ps_ret (pe_ix ix_kdict (pe_gr T.d_SENT.g) (pv 0) (fun _ _ => rfl))), ?_⟩
    obtain ⟨es, n, D⟩ := T.d_SENT.d
    obtain ⟨u, hu, ru⟩ := T.d_SENT.v _ (sentKV_of hl)
    exact ⟨_, rfl, _, _, _, rfl, rfl, ⟨es, n, u, D.at_, D.lit, hu, ru⟩, k _ H (Same.refl H) (pt_str.mpr rfl)⟩
theorem ok_sent_from (T : Tx K mg w) : Cal P w K mg base 1 "sent_from" ["line"] spSent := by
  obtain ⟨fd, F, G⟩ := okF_sent_from (P := P) (base := base) T
  exact ⟨(T.f_sent_from).1, ⟨fd, G, F.bindsN fun _ _ _ _ _ _ us hl => match us, hl with | [_], _ => rfl⟩, F.kp⟩
theorem sc_dial_of : FnScope ["engine"] ["engine"] (defScope (top 26)) := ⟨rfl, rfl, rfl, by decide +kernel, rfl, by decide +kernel, by decide +kernel⟩
theorem okF_dial_of (T : Tx K mg w) : ∃ fd, FunD K "dial_of" "dial_of" (defArgs (top 26)) (defBody (top 26)) (defScope (top 26)) [] [] (He.ga K "dial_of") fd ∧ FnOk P w K mg base (L2.CX P w) 1 (He.ga K "dial_of") fd ["engine"] spDial := by
  obtain ⟨g, fd, F⟩ := T.f_dial_of
  refine ⟨fd, F, F.ok sc_dial_of (fun vs H Q E h => ?_) (fun cdv A outer s H vs Q E hr h => ?_)⟩
  · obtain ⟨ds, z, p, ⟨l, _, rfl, _⟩, _⟩ := h; exact p.length
  · obtain ⟨ds, z, p, ⟨q, hq, rfl, rfl⟩, k⟩ := h
    obtain ⟨v, rfl, p0⟩ := ptA1 p
    cases pt_str.mp p0
    refine ⟨_, pss_one (ps_ret (pe_ix ix_kdict (pe_gr T.d_DIALS.g) (pv 0) (fun _ _ => rfl))), ?_⟩
    obtain ⟨es, n, D⟩ := T.d_DIALS.d
    obtain ⟨u, hu, ru⟩ := T.d_DIALS.v _ hq
    exact ⟨_, rfl, _, _, _, rfl, rfl, ⟨es, n, u, D.at_, D.lit, hu, ru⟩, k _ H (Same.refl H) (pt_str.mpr rfl)⟩
theorem ok_dial_of (T : Tx K mg w) : Cal P w K mg base 1 "dial_of" ["engine"] spDial := by
  obtain ⟨fd, F, G⟩ := okF_dial_of (P := P) (base := base) T
  exact ⟨(T.f_dial_of).1, ⟨fd, G, F.bindsN fun _ _ _ _ _ _ us hl => match us, hl with | [_], _ => rfl⟩, F.kp⟩
theorem sc_is_pair : FnScope ["bridge", "room", "thing"] ["bridge", "room", "thing"] (defScope (top 32)) := ⟨rfl, rfl, rfl, by decide +kernel, rfl, by decide +kernel, by decide +kernel⟩
theorem okF_is_pair (T : Tx K mg w) : ∃ fd, FunD K "is_pair" "is_pair" (defArgs (top 32)) (defBody (top 32)) (defScope (top 32)) [] [] (He.ga K "is_pair") fd ∧ FnOk P w K mg base (L2.CX P w) 3 (He.ga K "is_pair") fd ["bridge", "room", "thing"] spIsPair := by
  have C1 : Cal P w K mg base 2 "is_from_to" ["thing", "least", "most"] spIsFromTo := ok_is_from_to T
  obtain ⟨g, fd, F⟩ := T.f_is_pair
  refine ⟨fd, F, F.ok sc_is_pair (fun vs H Q E h => ?_) (fun cdv A outer s H vs Q E hr h => ?_)⟩
  · obtain ⟨ds, z, p, ⟨B, R, l, rfl, _⟩, _⟩ := h; exact p.length
  · obtain ⟨ds, z, p, ⟨B, R, q, rfl, hB, hR, hp, rfl⟩, k⟩ := h
    obtain ⟨v, v1, v2, rfl, p0, p1, p2⟩ := ptA3 p
    have hu := hr.units
    refine ⟨_, pss_cons (ps_if (PW.pt (pw_or (pt_not (pt_val (pe_callB call_isi rfl T.n_isinstance (by decide +kernel) (pa_cons (pv 2) (pa_cons (pe_ty (T := "tuple") T.n_tuple (by decide +kernel)) pa_nil)))))
          (pw_or1 (pt_cmpR op_ne (pe_callB call_len_seq rfl T.n_len PySem.boot_len (pa_cons (pv 2) pa_nil)) pe_int (nomark _))))) (pss_one (ps_ret pe_bl)) pss_nil)
      (pss_cons (ps_if (PW.pt (pw_or (pt_not (pt_val (pe_cal C1 hr (pa_cons (pe_ix ix_tup (pv 2) pe_int (fun _ _ => rfl)) (pa_cons pe_int (pa_cons (pe_op op_sub (pe_callB call_len_seq rfl T.n_len PySem.boot_len (pa_cons (pv 0) pa_nil)) pe_int) pa_nil))))))
          (pw_or1 (pt_not (pt_val (pe_cal C1 hr (pa_cons (pe_ix ix_tup (pv 2) pe_int (fun _ _ => rfl)) (pa_cons pe_int (pa_cons (pe_op op_sub (pe_callB call_len_seq rfl T.n_len PySem.boot_len (pa_cons (pv 1) pa_nil)) pe_int) pa_nil))))))))) (pss_one (ps_ret pe_bl)) pss_nil)
      (pss_one (ps_ret (pe_cmpR (op_eqP hu) (pe_slice sl_tupA (pe_ix ix_tup (pv 0) (pe_ix ix_tup (pv 2) pe_int (fun _ _ => rfl)) (fun _ _ => rfl)) (po_some pe_int) po_none)
         (pe_slice sl_tupA (pe_ix ix_tup (pv 1) (pe_ix ix_tup (pv 2) pe_int (fun _ _ => rfl)) (fun _ _ => rfl)) (po_some pe_int) po_none) (nomark _))))), ?_⟩
    have e0 : EvD (tVar 0) (start ["bridge", "room", "thing"] [v, v1, v2]) H (.tuple (B.map rowD)) := ed_var rfl p0
    have e1 : EvD (tVar 1) (start ["bridge", "room", "thing"] [v, v1, v2]) H (.tuple (R.map rowD)) := ed_var rfl p1
    have e2 : EvD (tVar 2) (start ["bridge", "room", "thing"] [v, v1, v2]) H (.tuple [.int q.1, .int q.2]) := ed_var rfl p2
    have i0 : EvD (tOp (rIxT K) (tVar 2) (tC (.int 0))) (start ["bridge", "room", "thing"] [v, v1, v2]) H (.int q.1) := ed_op e2 ed_int (rd_ixT rfl)
    have i1 : EvD (tOp (rIxT K) (tVar 2) (tC (.int 1))) (start ["bridge", "room", "thing"] [v, v1, v2]) H (.int q.2) := ed_op e2 ed_int (rd_ixT rfl)
    refine q_when (b := false) ((eb_or (eb_not (eb_B (ed_isi e2 (kit_tuple _)))) fun _ => eb_T (ed_op (ed_cb (ea_one e2) rc_lenT) ed_int rd_neI)).to rfl) (fun z => by cases z) (fun _ H1 k1 => ?_)
    refine q_when (b := false) ((eb_or (eb_not (eb_B (ed_call (ea_cons (i0.mono k1) (ea_cons ed_int (ea_one (ed_op (ed_cb (ea_one (e0.mono k1)) rc_lenT) ed_int rd_ii)))) ⟨_, _, _, rfl, rfl⟩))) fun _ =>
       eb_not (eb_B (ed_call (ea_cons (i1.mono k1) (ea_cons ed_int (ea_one (ed_op (ed_cb (ea_one (e1.mono k1)) rc_lenT) ed_int rd_ii)))) ⟨_, _, _, rfl, rfl⟩))).to ?_) (fun z => by cases z) (fun _ H2 k2 => ?_)
    · have := hp.b0; have := hp.b1; have := hp.r0; have := hp.r1
      simp only [isFromTo, List.length_map]
      rw [decide_eq_true (by omega), decide_eq_true (by omega), decide_eq_true (by omega), decide_eq_true (by omega)]
      rfl
    · have k12 := k1.trans k2
      have hb := hB.ok _ (rowAt_mem hp.b0 hp.b1)
      have c0 := ed_slA (K := K) (lo := some 1) (hi := none) (ed_op (r := rIxT K) (e0.mono k12) (i0.mono k12) (rd_ixT (atI_log hp.b0 hp.b1))) (eo_some ed_int) eo_none
      have c1 := ed_slA (K := K) (lo := some 1) (hi := none) (ed_op (r := rIxT K) (e1.mono k12) (i1.mono k12) (rd_ixT (atI_log hp.r0 hp.r1))) (eo_some ed_int) eo_none
      refine s_ret ((ed_op c0 c1 (rd_eqP (depth_lw hb.w))).to ?_) fun v3 H3 k3 p3 => k v3 H3 (k12.trans k3) p3
      exact congrArg PyData.bool hp.eq
theorem ok_is_pair (T : Tx K mg w) : Cal P w K mg base 3 "is_pair" ["bridge", "room", "thing"] spIsPair := by
  obtain ⟨fd, F, G⟩ := okF_is_pair (P := P) (base := base) T
  exact ⟨(T.f_is_pair).1, ⟨fd, G, F.bindsN fun _ _ _ _ _ _ us hl => match us, hl with | [_, _, _], _ => rfl⟩, F.kp⟩
theorem sc_span : FnScope ["bridge", "room", "pair", "lag", "row", "far"] ["bridge", "room", "pair", "lag"] (defScope (top 33)) := ⟨rfl, rfl, rfl, by decide +kernel, rfl, by decide +kernel, by decide +kernel⟩
theorem okF_span (T : Tx K mg w) : ∃ fd, FunD K "span" "span" (defArgs (top 33)) (defBody (top 33)) (defScope (top 33)) [.int 0] [] (He.ga K "span") fd ∧ FnOk P w K mg base (L2.CX P w) 4 (He.ga K "span") fd ["bridge", "room", "pair", "lag"] spSpan := by
  have C1 : Cal P w K mg base 3 "is_pair" ["bridge", "room", "thing"] spIsPair := ok_is_pair T
  have C2 : Cal P w K mg base 1 "sent_from" ["line"] spSent := ok_sent_from T
  obtain ⟨g, fd, F⟩ := T.f_span
  refine ⟨fd, F, F.ok sc_span (fun vs H Q E h => ?_) (fun cdv A outer s H vs Q E hr h => ?_)⟩
  · obtain ⟨ds, z, p, ⟨B, R, q, lag, rfl, _⟩, _⟩ := h; exact p.length
  · obtain ⟨ds, z, p, ⟨B, R, q, lag, rfl, hB, hR, hp, rfl⟩, k⟩ := h
    obtain ⟨v, v1, v2, v3, rfl, p0, p1, p2, p3⟩ := ptA4 p
    have nd := sc_span.nd
    refine ⟨_, pss_cons (ps_if (pt_not (pt_val (pe_cal C1 hr (pa_cons (pv 0) (pa_cons (pv 1) (pa_cons (pv 2) pa_nil)))))) (pss_one ps_never) pss_nil)
      (pss_cons (ps_set (i := 4) nd rfl (Or.inl rfl) (pe_ix ix_tup (pv 0) (pe_ix ix_tup (pv 2) pe_int (fun _ _ => rfl)) (fun _ _ => rfl)))
      (pss_cons (ps_set (i := 5) nd rfl (Or.inl rfl) (pe_op op_sub (pe_ix ix_tup (pe_ix ix_tup (pv 1) (pe_ix ix_tup (pv 2) pe_int (fun _ _ => rfl)) (fun _ _ => rfl)) pe_int (fun _ _ => rfl)) (pe_ix ix_tup (pv 4) pe_int (fun _ _ => rfl))))
      (pss_cons (ps_if (pt_cmpR op_eq (pe_cal C2 (hr.mono (by decide)) (pa_cons (pe_ix ix_tup (pv 4) pe_int (fun _ _ => rfl)) pa_nil)) pe_str (nomark _))
          (pss_one (ps_ret (pe_tup (pa_cons (pe_op op_sub (pv 5) (pv 3)) (pa_cons (pv 5) pa_nil))))) pss_nil)
      (pss_one (ps_ret (pe_tup (pa_cons (pv 5) (pa_cons (pe_op op_add (pv 5) (pv 3)) pa_nil)))))))), ?_⟩
    have e0 : EvD (tVar 0) (start ["bridge", "room", "pair", "lag", "row", "far"] [v, v1, v2, v3]) H (logD B) := ed_var rfl p0
    have e1 : EvD (tVar 1) (start ["bridge", "room", "pair", "lag", "row", "far"] [v, v1, v2, v3]) H (logD R) := ed_var rfl p1
    have e2 : EvD (tVar 2) (start ["bridge", "room", "pair", "lag", "row", "far"] [v, v1, v2, v3]) H (pairD q) := ed_var rfl p2
    refine q_when (b := false) ((eb_not (eb_B (ed_call (ea_cons e0 (ea_cons e1 (ea_one e2))) ⟨B, R, q, rfl, hB, hR, hp, rfl⟩))).to rfl) (fun z => by cases z) (fun _ H1 k1 => ?_)
    refine q_set (d := rowD (rowAt B q.1)) (ed_op (e0.mono k1) (ed_op (e2.mono k1) ed_int (rd_ixT rfl)) (rd_ixT (atI_log hp.b0 hp.b1))) fun vr H2 k2 pr => ?_
    have hb := hB.ok _ (rowAt_mem hp.b0 hp.b1)
    have k12 := k1.trans k2
    refine q_set (d := .int ((rowAt R q.2).m - (rowAt B q.1).m)) (ed_op (ed_op (ed_op (ed_var rfl (p1.keep k12)) (ed_op (ed_var rfl (p2.keep k12)) ed_int (rd_ixT rfl)) (rd_ixT (atI_log hp.r0 hp.r1))) ed_int (rd_ixT rfl)) (ed_op (ed_var rfl pr) ed_int (rd_ixT rfl)) rd_ii) fun vf H3 k3 pf => ?_
    have k13 := k12.trans k3
    have fin : ∀ (v' : V) (H' : Hp), Same H3 H' → Pt H' (pairD (spanM B R q lag)) v' → Q v' H' := fun v' H' k' p' => k v' H' (k13.trans k') p'
    unfold spanM at fin
    refine q_when (eb_T (ed_op (ed_call (ea_one (ed_op (ed_var rfl (pr.keep k3)) ed_int (rd_ixT rfl))) ⟨_, rfl, hb.l, rfl⟩) ed_str rd_eqS)) (fun hc H4 k4 => ?_) (fun hc H4 k4 => ?_)
    · rw [if_pos (of_decide_eq_true hc)] at fin
      refine s_ret (ed_tup (ea_cons (ed_op (ed_var rfl (pf.keep k4)) (ed_var rfl ((p3.keep k13).keep k4)) rd_ii) (ea_one (ed_var rfl (pf.keep k4)))) (by show 2 ≤ sizeLine; decide)) fun v5 H5 k5 p5 => fin v5 H5 (k4.trans k5) p5
    · rw [if_neg (of_decide_eq_false hc)] at fin
      refine s_ret (ed_tup (ea_cons (ed_var rfl (pf.keep k4)) (ea_one (ed_op (ed_var rfl (pf.keep k4)) (ed_var rfl ((p3.keep k13).keep k4)) rd_ii))) (by show 2 ≤ sizeLine; decide)) fun v5 H5 k5 p5 => fin v5 H5 (k4.trans k5) p5
theorem ok_span (T : Tx K mg w) : Cal P w K mg base 4 "span" ["bridge", "room", "pair", "lag"] spSpan := by
  obtain ⟨fd, F, G⟩ := okF_span (P := P) (base := base) T
  exact ⟨(T.f_span).1, ⟨fd, G, bindsF F (by decide) fun _ _ _ _ _ _ _ us its hl hi => match us, hl, its, hi with | [_, _, _, _], _, [_], _ => ⟨_, rfl, rfl⟩⟩, F.kp⟩
theorem sc_meets : FnScope ["bridge", "room", "pair", "lag", "low", "high", "least", "greatest"] ["bridge", "room", "pair", "lag", "low", "high"] (defScope (top 34)) := ⟨rfl, rfl, rfl, by decide +kernel, rfl, by decide +kernel, by decide +kernel⟩
theorem okF_meets (T : Tx K mg w) : ∃ fd, FunD K "meets" "meets" (defArgs (top 34)) (defBody (top 34)) (defScope (top 34)) [] [] (He.ga K "meets") fd ∧ FnOk P w K mg base (L2.CX P w) 5 (He.ga K "meets") fd ["bridge", "room", "pair", "lag", "low", "high"] spMeets := by
  have C1 : Cal P w K mg base 4 "span" ["bridge", "room", "pair", "lag"] spSpan := ok_span T
  obtain ⟨g, fd, F⟩ := T.f_meets
  refine ⟨fd, F, F.ok sc_meets (fun vs H Q E h => ?_) (fun cdv A outer s H vs Q E hr h => ?_)⟩
  · obtain ⟨ds, z, p, ⟨B, R, q, lag, low, high, rfl, _⟩, _⟩ := h; exact p.length
  · obtain ⟨ds, z, p, ⟨B, R, q, lag, low, high, rfl, hB, hR, hp, rfl⟩, k⟩ := h
    obtain ⟨v, v1, v2, v3, v4, v5, rfl, p0, p1, p2, p3, p4, p5⟩ := ptA6 p
    have nd := sc_meets.nd
    refine ⟨_, pss_cons (ps_asg (pe_cal C1 hr (pa_cons (pv 0) (pa_cons (pv 1) (pa_cons (pv 2) (pa_cons (pv 3) pa_nil))))) (pg_tup rfl (pgs_cons (pg_name (i := 6) nd rfl (.inl rfl)) (pgs_cons (pg_name (i := 7) nd rfl (.inl rfl)) pgs_nil))))
      (pss_one (ps_ret (pe_and (pe_cmpR op_le (pv 6) (pv 5) (nomark _)) (pe_one (pe_cmpR op_le (pv 4) (pv 7) (nomark _)))))), ?_⟩
    refine q_unp2 (ed_call (ea_cons (ed_var rfl p0) (ea_cons (ed_var rfl p1) (ea_cons (ed_var rfl p2) (ea_one (ed_var rfl p3))))) ⟨B, R, q, lag, rfl, hB, hR, hp, rfl⟩) fun x y H1 k1 px py => ?_
    exact s_ret (ed_andV (ed_op (ed_var rfl px) (ed_var rfl (p5.keep k1)) rd_ib) fun _ => ed_op (ed_var rfl (p4.keep k1)) (ed_var rfl py) rd_ib) fun v6 H2 k2 p6 => k v6 H2 (k1.trans k2) p6
theorem ok_meets (T : Tx K mg w) : Cal P w K mg base 5 "meets" ["bridge", "room", "pair", "lag", "low", "high"] spMeets := by
  obtain ⟨fd, F, G⟩ := okF_meets (P := P) (base := base) T
  exact ⟨(T.f_meets).1, ⟨fd, G, F.bindsN fun _ _ _ _ _ _ us hl => match us, hl with | [_, _, _, _, _, _], _ => rfl⟩, F.kp⟩
theorem sc_fits : FnScope ["where", "d"] ["where", "d"] (defScope (top 47)) := ⟨rfl, rfl, rfl, by decide +kernel, rfl, by decide +kernel, by decide +kernel⟩
theorem okF_fits (T : Tx K mg w) : ∃ fd, FunD K "fits" "fits" (defArgs (top 47)) (defBody (top 47)) (defScope (top 47)) [] [] (He.ga K "fits") fd ∧ FnOk P w K mg base (L2.CX P w) 1 (He.ga K "fits") fd ["where", "d"] spFits := by
  obtain ⟨g, fd, F⟩ := T.f_fits
  refine ⟨fd, F, F.ok sc_fits (fun vs H Q E h => ?_) (fun cdv A outer s H vs Q E hr h => ?_)⟩
  · obtain ⟨ds, z, p, ⟨B, R, rfl, _⟩, _⟩ := h; exact p.length
  · obtain ⟨ds, z, p, ⟨q, d, rfl, rfl⟩, k⟩ := h
    obtain ⟨v, v1, rfl, p0, p1⟩ := ptA2 p
    refine ⟨_, pss_one (ps_ret (pe_chain op_le op_le (pe_ix ix_tup (pv 0) pe_int (fun _ _ => rfl)) (pv 1) (pe_ix ix_tup (pv 0) pe_int (fun _ _ => rfl)))), ?_⟩
    have e0 : EvD (tVar 0) (start ["where", "d"] [v, v1]) H (.tuple [.int q.1, .int q.2]) := ed_var rfl p0
    exact s_ret (ed_chain (ed_op e0 ed_int (rd_ixT rfl)) (ed_var rfl p1) (fun _ => ed_op e0 ed_int (rd_ixT rfl)) rd_ib fun _ => rd_ib) k
theorem ok_fits (T : Tx K mg w) : Cal P w K mg base 1 "fits" ["where", "d"] spFits := by
  obtain ⟨fd, F, G⟩ := okF_fits (P := P) (base := base) T
  exact ⟨(T.f_fits).1, ⟨fd, G, F.bindsN fun _ _ _ _ _ _ us hl => match us, hl with | [_, _], _ => rfl⟩, F.kp⟩
end
end Ro
namespace Ro
open PySem PySem.Spec PyProof.Rows L2
variable [TabsC]
/-! ### the pairs within: the mirror -/
def pairsOf (R : Log) (b : Nat) (row : Row) : List Pair := (R.zipIdx.filter fun q => tailEq q.1 row).map fun q => ((b : Int), ((q.2 : Nat) : Int))
def pairsWithin (B R : Log) (lag low high : Int) : List Pair := B.zipIdx.flatMap fun q => (pairsOf R q.2 q.1).filter fun p => meetsM B R p lag low high
theorem noL_row {r : Row} (h : whatOk r.l r.w) : noL (rowD r) = true := by
  rcases h.flat with ⟨x, e, _⟩ | ⟨o, e⟩ <;> simp only [rowD, noL, noLs, e, Bool.and_self, Bool.true_and, Bool.and_true]
theorem LogOk.noL {B : Log} (h : LogOk B) : noLs (B.map rowD) = true := noLs_map fun r hr => noL_row (h.ok r hr).w
theorem noL_pair (p : Pair) : noL (pairD p) = true := by simp only [pairD, noL, noLs, Bool.and_self]
theorem noL_pairs (l : List Pair) : noLs (l.map pairD) = true := noLs_map fun p _ => noL_pair p
theorem eqv_flat {w u : PyData} (h : (∃ x, w = .str x) ∨ ∃ o, w = .int o) (k : (∃ x, u = .str x) ∨ ∃ o, u = .int o) : PyData.eqv w u = true ↔ w = u := by
  rcases h with ⟨x, rfl⟩ | ⟨x, rfl⟩ <;> rcases k with ⟨y, rfl⟩ | ⟨y, rfl⟩ <;> simp [PyData.eqv]
theorem whatOk.fl {l : Str} {w : PyData} (h : whatOk l w) : (∃ x, w = .str x) ∨ ∃ o, w = .int o := by
  rcases h.flat with ⟨x, e, _⟩ | h
  · exact .inl ⟨x, e⟩
  · exact .inr h
theorem tailEq_iff {a b : Row} (h : whatOk a.l a.w) (k : whatOk b.l b.w) : tailEq a b = true ↔ a.l = b.l ∧ a.w = b.w := by
  have e1 := eqv_flat h.fl k.fl
  simp only [tailEq, PyData.eqv, PyData.eqvAll, Bool.and_true, Bool.and_eq_true, e1, beq_iff_eq]
theorem isP_of {B R : Log} (hB : LogOk B) (hR : LogOk R) {p : Pair} {b : Nat} {row : Row} (hb : B[b]? = some row) (h : p ∈ pairsOf R b row) : IsP B R p := by
  obtain ⟨q, hq, rfl⟩ := List.mem_map.mp h
  obtain ⟨hq1, hq2⟩ := List.mem_filter.mp hq
  have hr : R[q.2]? = some q.1 := List.mem_zipIdx_iff_getElem?.mp hq1
  have hbl := (List.getElem?_eq_some_iff.mp hb).1
  have hrl := (List.getElem?_eq_some_iff.mp hr).1
  have e1 : rowAt B ((b : Nat) : Int) = row := by unfold rowAt; rw [Int.toNat_natCast, hb]; rfl
  have e2 : rowAt R ((q.2 : Nat) : Int) = q.1 := by unfold rowAt; rw [Int.toNat_natCast, hr]; rfl
  refine ⟨Int.natCast_nonneg _, Int.ofNat_lt.mpr hbl, Int.natCast_nonneg _, Int.ofNat_lt.mpr hrl, ?_⟩
  show tailEq (rowAt B ((b : Nat) : Int)) (rowAt R ((q.2 : Nat) : Int)) = true
  rw [e1, e2]
  have o1 := (hB.ok row (List.mem_of_getElem? hb)).w
  have o2 := (hR.ok q.1 (List.mem_of_getElem? hr)).w
  have := (tailEq_iff o2 o1).mp hq2
  exact (tailEq_iff o1 o2).mpr ⟨this.1.symm, this.2.symm⟩
theorem pairsOf_len (R : Log) (b : Nat) (row : Row) : (pairsOf R b row).length ≤ R.length := by
  rw [pairsOf, List.length_map]
  have := List.length_filter_le (fun q => tailEq q.1 row) R.zipIdx
  rw [List.length_zipIdx] at this
  exact this
abbrev spPairsWithin : Sp := SpN fun ds zs => ∃ B R lag low high, ds = [logD B, logD R, .int lag, .int low, .int high] ∧ LogOk B ∧ LogOk R ∧ zs = (pairsWithin B R lag low high).map pairD
abbrev spPairsAt : Sp := SpN fun ds zs => ∃ B R d lag, ds = [logD B, logD R, .int d, .int lag] ∧ LogOk B ∧ LogOk R ∧ zs = (pairsWithin B R lag d d).map pairD
/-- the pairs of the first i rows -/
def pwTo (B R : Log) (lag low high : Int) (i : Nat) : List Pair := (B.zipIdx.take i).flatMap fun q => (pairsOf R q.2 q.1).filter fun p => meetsM B R p lag low high
theorem pwTo_succ {B R : Log} {lag low high : Int} {i : Nat} {row : Row} (h : B[i]? = some row) : pwTo B R lag low high (i + 1) = pwTo B R lag low high i ++ (pairsOf R i row).filter fun p => meetsM B R p lag low high := by
  have e : B.zipIdx[i]? = some (row, i) := by rw [List.getElem?_zipIdx, h]; simp
  rw [pwTo, List.take_add_one, e, Option.toList_some, List.flatMap_append, List.flatMap_cons, List.flatMap_nil, List.append_nil]
  rfl
theorem pwTo_len {B R : Log} {lag low high : Int} : ∀ i, (pwTo B R lag low high i).length ≤ i * R.length
  | 0 => by simp [pwTo]
  | i + 1 => by
    have ih := pwTo_len (B := B) (R := R) (lag := lag) (low := low) (high := high) i
    cases h : B[i]? with
    | none =>
      have : pwTo B R lag low high (i + 1) = pwTo B R lag low high i := by
        rw [pwTo, List.take_add_one, List.getElem?_zipIdx, h]; simp [pwTo]
      rw [this, Nat.add_mul]
      omega
    | some row =>
      rw [pwTo_succ h, List.length_append, Nat.add_mul]
      have h1 := List.length_filter_le (fun p => meetsM B R p lag low high) (pairsOf R i row)
      have h2 := pairsOf_len R i row
      omega
theorem pwTo_all {B R : Log} {lag low high : Int} : pwTo B R lag low high B.length = pairsWithin B R lag low high := by
  rw [pwTo, List.take_of_length_le (by rw [List.length_zipIdx]; exact Nat.le_refl _)]
  rfl
section
variable {P : Program} {w : World} {K : PySem.W.Frag} {mg : Str → Option Value} {base : Heap}
theorem sc_pairs_within : FnScope ["bridge", "room", "lag", "low", "high", "found", "b", "row", "some", "r", "other", "pair"] ["bridge", "room", "lag", "low", "high"] (defScope (top 35)) := ⟨rfl, rfl, rfl, by decide +kernel, rfl, by decide +kernel, by decide +kernel⟩
theorem okF_pairs_within (T : Tx K mg w) : ∃ fd, FunD K "pairs_within" "pairs_within" (defArgs (top 35)) (defBody (top 35)) (defScope (top 35)) [] [] (He.ga K "pairs_within") fd ∧ FnOk P w K mg base (L2.CX P w) 6 (He.ga K "pairs_within") fd ["bridge", "room", "lag", "low", "high"] spPairsWithin := by
  have C1 : Cal P w K mg base 5 "meets" ["bridge", "room", "pair", "lag", "low", "high"] spMeets := ok_meets T
  obtain ⟨g, fd, F⟩ := T.f_pairs_within
  refine ⟨fd, F, F.ok sc_pairs_within (fun vs H Q E h => ?_) (fun cdv A outer s H vs Q E hr h => ?_)⟩
  · obtain ⟨ds, z, p, ⟨B, R, lag, low, high, rfl, _⟩, _⟩ := h; exact p.length
  · obtain ⟨ds, z, p, ⟨B, R, lag, low, high, rfl, hB, hR, rfl⟩, k⟩ := h
    obtain ⟨v, v1, v2, v3, v4, rfl, p0, p1, p2, p3, p4⟩ := ptA5 p
    have nd := sc_pairs_within.nd
    have hu := hr.units
    refine ⟨_, pss_cons (ps_set (i := 5) nd rfl (Or.inl rfl) (pe_lst pa_nil))
      (pss_cons (ps_for (passes_of rfl) rfl (pi_enumX false rfl T.n_enumerate (pa_cons (pv 0) pa_nil)) (pg_tup rfl (pgs_cons (pg_name (i := 6) nd rfl (.inr rfl)) (pgs_cons (pg_name (i := 7) nd rfl (.inr rfl)) pgs_nil)))
        (pss_cons (ps_setLc (i := 8) (own := [("r", 9), ("other", 10)]) (g := gTup _ 2 (gCons (gName 9) (gCons (gName 10) gNil))) rfl nd rfl rfl (sw_true rfl rfl rfl (by decide +kernel)) (pi_enumX false rfl T.n_enumerate (pa_cons (pv 1) pa_nil))
            (blkOk_by (N := ["bridge", "room", "lag", "low", "high", "found", "b", "row", "some", "r", "other", "pair"]) (sc := defScope (top 35)) (by decide +kernel))
            (fun _ _ _ _ _ => pg_tup rfl (pgs_cons (pg_name (i := 9) nd rfl (.inl rfl)) (pgs_cons (pg_name (i := 10) nd rfl (.inl rfl)) pgs_nil)))
            (fun _ _ _ _ _ => pts_one (pt_cmpR (r := rEqP K) (op_eqP hu) (pe_slice (r := rSlA K) sl_tupA (pv 10) (po_some pe_int) po_none) (pe_slice (r := rSlA K) sl_tupA (pv 7) (po_some pe_int) po_none) (nomark _)))
            (fun _ _ _ _ _ => pe_tup (pa_cons (pv 6) (pa_cons (pv 9) pa_nil))))
        (pss_one (ps_expr (pe_bm PySem.F.plainAttrs_list PySem.F.slot_list_extend PySem.F.type_list_extend mt_extend (pv 5) (pa_cons
            (pe_lc (own := [("pair", 11)]) (g := gName 11) rfl nd (pi_list (pv 8))
              (blkOk_by (N := ["bridge", "room", "lag", "low", "high", "found", "b", "row", "some", "r", "other", "pair"]) (sc := defScope (top 35)) (by decide +kernel))
              (fun _ _ _ _ _ => pg_name (i := 11) nd rfl (.inl rfl)) (fun _ _ _ _ _ => pts_one (pt_val (pe_cal C1 hr (pa_cons (pv 0) (pa_cons (pv 1) (pa_cons (pv 11) (pa_cons (pv 2) (pa_cons (pv 3) (pa_cons (pv 4) pa_nil)))))))))
              (fun _ _ _ _ _ => pv 11)) pa_nil))))))
      (pss_one (ps_ret (pv 5)))), ?_⟩
    refine q_setN (en_lst ea_nil (by show 0 ≤ sizeLine; decide)) fun q xs H1 hq k1 hx px => ?_
    have pq : Pt H1 (.list (([] : List Pair).map pairD)) (.ref q) := pt_lst.mpr ⟨q, xs, rfl, hx, px⟩
    have pa := PtA.keep k1 _ _ p
    have enE : ∀ L : Log, enumD (L.map rowD) = L.zipIdx.map fun t => .tuple [.int ((t.2 : Nat) : Int), rowD t.1] := fun L => by
      rw [enumD, List.zipIdx_map, List.map_map]; rfl
    have nla : noLs [logD B, logD R, .int lag, .int low, .int high] = true := by
      simp only [noLs, logD, noL, hB.noL, hR.noL, Bool.and_self]
    refine s_for (N := (· = q)) B.zipIdx (fun t => .tuple [.int ((t.2 : Nat) : Int), rowD t.1]) (by rw [← enE]; exact ef_enumT (nok_one pq) (ed_var rfl (p0.keep k1)) hB.noL)
      (fun i σ' H' => (∃ x y z, σ' = [some v, some v1, some v2, some v3, some v4, some (.ref q), x, y, z, none, none, none]) ∧ Pt H' (.list ((pwTo B R lag low high i).map pairD)) (.ref q) ∧ PtA H' [logD B, logD R, .int lag, .int low, .int high] [v, v1, v2, v3, v4])
      (fun H2 k2 => ⟨⟨none, none, none, rfl⟩, pq.keep k2, PtA.keep k2 _ _ pa⟩) (fun i σ' H' H'' ⟨e, q1, q2⟩ s => ⟨e, q1.keep s, PtA.keep s _ _ q2⟩) (fun H2 k2 i hi σ' H' u kp ⟨⟨x, y, z, e⟩, q1, q2⟩ pu => ?_) (fun H2 k2 σ' H' kp ⟨⟨x, y, z, e⟩, q1, q2⟩ => ?_)
    · subst e
      refine gt2 pu fun b' row' pb prow => ?_
      obtain ⟨u0, u1, u2, u3, u4, ee, r0, r1, r2, r3, r4⟩ := ptA5 q2
      cases ee
      have hib : i < B.length := by rw [List.length_zipIdx] at hi; exact hi
      have hz : B.zipIdx[i] = (B[i], i) := by simp
      rw [hz] at pb prow
      have hBi : B[i]? = some B[i] := List.getElem?_eq_getElem hib
      have hok := hB.ok _ (List.getElem_mem hib)
      refine q_setN (ds := (R.zipIdx.filter fun t => tailEq t.1 B[i]).map fun t => pairD ((i : Int), ((t.2 : Nat) : Int))) (en_lc R.zipIdx (fun t => .tuple [.int ((t.2 : Nat) : Int), rowD t.1]) (fun t => tailEq t.1 B[i]) (fun t => pairD ((i : Int), ((t.2 : Nat) : Int)))
          (by rw [List.length_zipIdx]; have := hR.len; omega) (fun _ _ _ => noL_pair _) (by rw [← enE]; exact ei_enum (l := false) (ed_var rfl r1)) (fun t ht w H3 k3 pw => ?_)) fun q8 xs8 H3 hq8 k3 hx8 px8 => ?_
      · obtain ⟨a, x1, y1, rfl, ha, px1, py1⟩ := pt_2.mp pw
        have ho := (hR.ok _ (List.fst_mem_of_mem_zipIdx ht)).w
        refine ⟨[some v, some v1, some v2, some v3, some v4, some (.ref q), some b', some row', z, some x1, some y1, none], fun Q qq => ⟨a, _, rfl, SqT.of ha, rfl, x1, [y1], rfl, y1, [], rfl, rfl, qq⟩, rfl, ?_, fun _ => ?_⟩
        · exact (eb_T (ed_op (ed_slA (lo := some 1) (hi := none) (ed_var rfl py1) (eo_some ed_int) eo_none) (ed_slA (lo := some 1) (hi := none) (ed_var rfl (prow.keep k3)) (eo_some ed_int) eo_none) (rd_eqP (depth_lw ho)))).to rfl
        · exact ed_tup (ea_cons (ed_var rfl (pb.keep k3)) (ea_one (ed_var rfl px1))) (by show 2 ≤ sizeLine; decide)
      · have e8 : (R.zipIdx.filter fun t => tailEq t.1 B[i]).map (fun t => pairD ((i : Int), ((t.2 : Nat) : Int))) = (pairsOf R i B[i]).map pairD := by rw [pairsOf, List.map_map]; rfl
        rw [e8] at px8
        have l1 := pwTo_len (B := B) (R := R) (lag := lag) (low := low) (high := high) i
        have l2 : i * R.length ≤ 40 * 40 := Nat.mul_le_mul (by have := hB.len; omega) hR.len
        have l3 := List.length_filter_le (fun p => meetsM B R p lag low high) (pairsOf R i B[i])
        have l4 := pairsOf_len R i B[i]
        have l5 := hR.len
        refine s_extend rfl (q1.keep k3) (noL_pairs _) (en_lc (pairsOf R i B[i]) pairD (fun p => meetsM B R p lag low high) pairD (by omega) (fun _ _ _ => noL_pair _) (ei_list (ed_var rfl (pt_lst.mpr ⟨q8, xs8, rfl, hx8, px8⟩))) (fun t ht w H4 k4 pw => ?_)) (noL_pairs _) (by rw [List.length_map, List.length_map]; omega) fun H4 k4 p4 => ⟨?_, ⟨_, _, _, rfl⟩, ?_, ?_⟩
        · refine ⟨[some v, some v1, some v2, some v3, some v4, some (.ref q), some b', some row', some (.ref q8), none, none, some w], fun Q qq => qq, rfl, ?_, fun _ => ed_var rfl pw⟩
          have k34 := k3.trans k4
          exact eb_B (ed_call (ea_cons (ed_var rfl (r0.keep k34)) (ea_cons (ed_var rfl (r1.keep k34)) (ea_cons (ed_var rfl pw) (ea_cons (ed_var rfl (r2.keep k34)) (ea_cons (ed_var rfl (r3.keep k34)) (ea_one (ed_var rfl (r4.keep k34)))))))) ⟨B, R, t, lag, low, high, rfl, hB, hR, isP_of hB hR hBi ht, rfl⟩)
        · exact (kp.trans k3.kp).trans k4
        · rw [pwTo_succ hBi, List.map_append]; exact p4
        · exact PtA.keepT ((nok_one (q1.keep k3)).tk k4) _ _ nla (PtA.keep k3 _ _ q2)
    · subst e
      rw [List.length_zipIdx, pwTo_all] at q1
      obtain ⟨a, xs', e, hx', px'⟩ := pt_lst.mp q1
      cases e
      refine ⟨_, rfl, k q xs' H' hq ?_ hx' px'⟩
      exact ((k1.trans k2).kp.trans kp).same fun a e => by rw [e]; exact hq
theorem ok_pairs_within (T : Tx K mg w) : Cal P w K mg base 6 "pairs_within" ["bridge", "room", "lag", "low", "high"] spPairsWithin := by
  obtain ⟨fd, F, G⟩ := okF_pairs_within (P := P) (base := base) T
  exact ⟨(T.f_pairs_within).1, ⟨fd, G, F.bindsN fun _ _ _ _ _ _ us hl => match us, hl with | [_, _, _, _, _], _ => rfl⟩, F.kp⟩
theorem sc_pairs_at : FnScope ["bridge", "room", "d", "lag"] ["bridge", "room", "d", "lag"] (defScope (top 36)) := ⟨rfl, rfl, rfl, by decide +kernel, rfl, by decide +kernel, by decide +kernel⟩
theorem okF_pairs_at (T : Tx K mg w) : ∃ fd, FunD K "pairs_at" "pairs_at" (defArgs (top 36)) (defBody (top 36)) (defScope (top 36)) [.int 0, .int 0] [] (He.ga K "pairs_at") fd ∧ FnOk P w K mg base (L2.CX P w) 7 (He.ga K "pairs_at") fd ["bridge", "room", "d", "lag"] spPairsAt := by
  have C1 : Cal P w K mg base 6 "pairs_within" ["bridge", "room", "lag", "low", "high"] spPairsWithin := ok_pairs_within T
  obtain ⟨g, fd, F⟩ := T.f_pairs_at
  refine ⟨fd, F, F.ok sc_pairs_at (fun vs H Q E h => ?_) (fun cdv A outer s H vs Q E hr h => ?_)⟩
  · obtain ⟨ds, z, p, ⟨B, R, d, lag, rfl, _⟩, _⟩ := h; exact p.length
  · obtain ⟨ds, z, p, ⟨B, R, d, lag, rfl, hB, hR, rfl⟩, k⟩ := h
    obtain ⟨v, v1, v2, v3, rfl, p0, p1, p2, p3⟩ := ptA4 p
    refine ⟨_, pss_one (ps_ret (pe_cal C1 hr (pa_cons (pv 0) (pa_cons (pv 1) (pa_cons (pv 3) (pa_cons (pv 2) (pa_cons (pv 2) pa_nil))))))), ?_⟩
    exact s_retN (en_call (ea_cons (ed_var rfl p0) (ea_cons (ed_var rfl p1) (ea_cons (ed_var rfl p3) (ea_cons (ed_var rfl p2) (ea_one (ed_var rfl p2)))))) ⟨B, R, lag, d, d, rfl, hB, hR, rfl⟩) k
theorem ok_pairs_at (T : Tx K mg w) : Cal P w K mg base 7 "pairs_at" ["bridge", "room", "d", "lag"] spPairsAt := by
  obtain ⟨fd, F, G⟩ := okF_pairs_at (P := P) (base := base) T
  exact ⟨(T.f_pairs_at).1, ⟨fd, G, bindsF F (by decide) fun _ _ _ _ _ _ _ us its hl hi => match us, hl, its, hi with | [_, _, _, _], _, [_, _], _ => ⟨_, rfl, rfl⟩⟩, F.kp⟩
end
end Ro
namespace Ro
open PySem PySem.Spec PyProof.Rows L2 PySem.W
variable [TabsC]
def kT (p : Pair) : List L2.Key := [.inl p.1, .inl p.2]
theorem kT_inj (a b : Pair) (h : kT a = kT b) : a = b := by
  simp only [kT, List.cons.injEq, Sum.inl.injEq, and_true] at h
  exact Prod.ext h.1 h.2
theorem kI_inj (a b : Int) (h : (Sum.inl a : L2.Key) = .inl b) : a = b := by injection h
abbrev fT (l : List (Pair × Int)) : List (List L2.Key × V) := l.map fun q => (kT q.1, V.int q.2)
abbrev fI (l : List (Int × Int)) : List (L2.Key × V) := l.map fun q => ((Sum.inl q.1 : L2.Key), V.int q.2)
section
variable {K : PySem.W.Frag} {N : Addr → Prop} {σ : L2.St} {H H' : Hp} {a b d : Addr} {ds es : List PyData} {te td ty tv tx : TE} {D : Ends} {tz : TS} {n i j : Int}
theorem Same.rd {u : HO} (k : Same H H') (m : ∀ ps, u ≠ .tbl ps) (h : Rd H a u) : Rd H' a u := by
  rcases h with h | ⟨o, h⟩
  · exact .inl (k.ob _ _ h m)
  · exact .inr ⟨o, k.ob _ _ h fun ps z => by cases z⟩
/-- d[i], ints -/
theorem ed_dgetI {l : List (Int × Int)} (hd : EvV td σ H (.ref a)) (hy : EvD ty σ H (.int i)) (ha : Rd H a (.dK (fI l))) (hv : aget l i = some n) : EvD (tDGet td ty) σ H (.int n) := fun H1 s Q q =>
  hd H1 s _ fun H2 k => hy H2 (s.trans k) _ fun y H3 k3 p => by
    cases pt_int.mp p
    refine ⟨a, .int n, rfl, .inl ⟨fI l, .inl i, ((s.trans k).trans k3).rd (fun ps z => by cases z) ha, rfl, ?_⟩, q _ H3 (k.trans k3) (pt_int.mpr rfl)⟩
    rw [val_map (f := V.int) kI_inj l i, hv]
    rfl
theorem ed_dgetT {l : List (Pair × Int)} {p : Pair} (hd : EvV td σ H (.ref a)) (hy : EvD ty σ H (pairD p)) (ha : Rd H a (.dT (fT l))) (hv : aget l p = some n) : EvD (tDGet td ty) σ H (.int n) := fun H1 s Q q =>
  hd H1 s _ fun H2 k => hy H2 (s.trans k) _ fun y H3 k3 py => by
    obtain ⟨b, x, z, rfl, hb, px, pz⟩ := pt_2.mp py
    cases pt_int.mp px
    cases pt_int.mp pz
    refine ⟨a, .int n, rfl, .inr ⟨fT l, kT p, b, ((s.trans k).trans k3).rd (fun ps z => by cases z) ha, rfl, hb, ?_⟩, q _ H3 (k.trans k3) (pt_int.mpr rfl)⟩
    rw [val_map (f := V.int) kT_inj l p, hv]
    rfl
/-- d.get(i, j), ints -/
theorem ed_get2I {l : List (Int × Int)} (hd : EvV td σ H (.ref a)) (hy : EvD ty σ H (.int i)) (hx : EvD tx σ H (.int j)) (ha : H a = some (.dK (fI l))) : EvD (tDGet2 td ty tx) σ H (.int ((aget l i).getD j)) := fun H1 s Q q =>
  hd H1 s _ fun H2 k => ⟨a, rfl, .inl ⟨_, .inl ((s.trans k) _ _ ha)⟩, hy H2 (s.trans k) _ fun y H3 k3 p => hx H3 ((s.trans k).trans k3) _ fun z H4 k4 pz => by
    cases pt_int.mp p
    cases pt_int.mp pz
    refine ⟨valV (fI l) (.inl i), .inl ⟨fI l, .inl i, .inl ((((s.trans k).trans k3).trans k4) _ _ ha), rfl, rfl⟩, q _ H4 ((k.trans k3).trans k4) (pt_int.mpr ?_)⟩
    rw [val_map (f := V.int) kI_inj l i]
    cases aget l i <;> rfl⟩
theorem s_dputI {l : List (Int × Int)} (hv : EvD tv σ H (.int n)) (hd : EvV td σ H (.ref a)) (hy : EvD ty σ H (.int i)) (ha : H a = some (.dK (fI l))) (hl : l.length < 1000000) (k : ∀ H1, Kp (· = a) H H1 → H1 a = some (.dK (fI (aput l i n))) → D.nx σ H1) : sDPut td ty tv D σ H :=
  hv H (Same.refl H) _ fun v H1 k1 pv => hd H1 k1 _ fun H2 k2 => hy H2 (k1.trans k2) _ fun y H3 k3 py => by
    cases pt_int.mp pv
    cases pt_int.mp py
    have s := (k1.trans k2).trans k3
    have ha3 := s _ _ ha
    refine ⟨a, _, rfl, DPut.k (k := .inl i) ha3 (by rw [List.length_map]; exact sizes1 hl), k _ (s.kp.mut rfl ha3 True.intro) ?_⟩
    rw [upd_same, put_map (f := V.int) kI_inj l i n]
theorem s_dputT {l : List (Pair × Int)} {p : Pair} (hv : EvD tv σ H (.int n)) (hd : EvV td σ H (.ref a)) (hy : EvD ty σ H (pairD p)) (ha : H a = some (.dT (fT l))) (hl : l.length < 1000000) (k : ∀ H1, Kp (· = a) H H1 → H1 a = some (.dT (fT (aput l p n))) → D.nx σ H1) : sDPut td ty tv D σ H :=
  hv H (Same.refl H) _ fun v H1 k1 pv => hd H1 k1 _ fun H2 k2 => hy H2 (k1.trans k2) _ fun y H3 k3 py => by
    cases pt_int.mp pv
    obtain ⟨b, x, z, rfl, hb, px, pz⟩ := pt_2.mp py
    cases pt_int.mp px
    cases pt_int.mp pz
    have s := (k1.trans k2).trans k3
    have ha3 := s _ _ ha
    refine ⟨a, _, rfl, DPut.t (k := kT p) ha3 hb (by rw [List.length_map]; exact sizes1 hl), k _ (s.kp.mut rfl ha3 True.intro) ?_⟩
    rw [upd_same, put_map (f := V.int) kT_inj l p n]
/-- the keys of a locked dict -/
theorem ei_keys {l : List (Int × Int)} {od : Obj} (hd : EvV td σ H (.ref a)) (ha : H a = some (.frz od (.dK (fI l)))) : EvI (iKeys td) σ H (l.map fun q => .int q.1) := fun H1 s R q => hd H1 s _ fun H2 k => by
  have ha2 := (s.trans k).ob _ _ ha (fun ps z => by cases z)
  refine ⟨a, od, rfl, .inl ⟨fI l, ha2, q _ H2 k ?_⟩⟩
  have w : Walk (Itk a od (fI l)) (l.map fun q => PyData.int q.1).length (fun H => H a = some (.frz od (.dK (fI l)))) (fun i H x H' => H' = H ∧ ∃ k v, (fI l)[i]? = some (k, v) ∧ x = kV k) := by
    rw [List.length_map, ← List.length_map (f := fun q : Int × Int => ((Sum.inl q.1 : L2.Key), V.int q.2))]
    exact walk_keys
  refine w.mono (fun H' sm => sm.ob _ _ ha2 fun ps z => by cases z) fun i H x H' hi _ ⟨e, k', v, he, ex⟩ => ?_
  subst e
  rw [List.getElem?_map] at he
  cases hl : l[i]? with
  | none => rw [hl] at he; cases he
  | some z =>
    rw [hl] at he
    simp only [Option.map_some, Option.some.injEq, Prod.mk.injEq] at he
    refine ⟨Same.refl _, .int z.1, by rw [List.getElem?_map, hl]; rfl, ?_⟩
    rw [ex, ← he.1]
    exact pt_int.mpr rfl
def bestDf (g : Int → Int → Int) (ns : List Int) (dv : PyData) : PyData := match ns with
  | [] => dv
  | n :: r => .int (r.foldl g n)
/-- max, min with default= -/
theorem ed_best {g : Int → Int → Int} {ns : List Int} (h : EvN te σ H (ns.map PyData.int)) {dv : PyData} {z : V} (hz : ∀ H, Pt H dv z) : EvD (tCKw (rBestI g) (tCons te tNil) (tCons (tC z) tNil)) σ H (bestDf g ns dv) := fun H1 s Q q =>
  h H1 s _ fun p xs H2 hp k hx px => ⟨p, ns, z, rfl, rfl, by rw [hx, px.intsV], fun e => by subst e; exact q _ H2 k (hz H2), fun n r e => by subst e; exact q _ H2 k (pt_int.mpr rfl)⟩
theorem rc_max2 {i j : Int} : RCD (fun xs H Q => ∃ i j, xs = [.int i, .int j] ∧ Q (.int (if j > i then j else i)) H) [.int i, .int j] (.int (if j > i then j else i)) := fun H xs Q p q => by
  obtain ⟨v1, v2, rfl, p1, p2⟩ := ptA2 p
  cases pt_int.mp p1
  cases pt_int.mp p2
  exact ⟨i, j, rfl, q _ H (Same.refl H) (pt_int.mpr rfl)⟩
theorem aget_mem {κ α : Type} [DecidableEq κ] {l : List (κ × α)} {q : κ × α} (h : q ∈ l) : ∃ v, aget l q.1 = some v := by
  unfold aget
  cases e : l.find? (fun x => decide (x.1 = q.1)) with
  | none =>
    have := List.find?_eq_none.mp e q h
    simp at this
  | some z => exact ⟨z.2, rfl⟩
/-- sorted, by data -/
theorem en_sortLam {P : Addr} {KR : PyData → PyData → Prop} {ta : TA} {α : Type} {l : List α} {enc key : α → PyData} (h : EvA ta σ H [.list (l.map enc)]) (tb : Tb H P) (al : AllAlike (l.map key)) (so : Sortable (l.map key)) (hk : ∀ x ∈ l, (key x).depth ≤ 60 ∧ KR (enc x) (key x)) :
    EvN (tSortLam P KR ta) σ H ((l.mergeSort (dataLe false key)).map enc) := fun H1 s Q q => h H1 s _ fun vs H2 k p => by
  obtain ⟨v, rfl, p1⟩ := ptA1 p
  obtain ⟨a, xs, rfl, ha, hx⟩ := pt_lst.mp p1
  exact ⟨a, rfl, k.tb _ (s.tb _ tb), α, l, enc, key, p1, al, so, hk, fun p ys H3 hp k3 e py => q p ys H3 (k.free hp) (k.trans k3) e py⟩
theorem en_sortD {α : Type} {l : List α} {enc : α → PyData} (h : EvD te σ H (.list (l.map enc))) (al : AllAlike (l.map enc)) (so : Sortable (l.map enc)) (hk : ∀ x ∈ l, (enc x).depth ≤ 60) :
    EvN (tCB rSortD (tCons te tNil)) σ H ((l.mergeSort (dataLe false enc)).map enc) := fun H1 s Q q => h H1 s _ fun v H2 k p => by
  obtain ⟨a, xs, rfl, ha, hx⟩ := pt_lst.mp p
  exact ⟨a, rfl, α, l, enc, p, al, so, hk, fun p ys hp py => q p ys _ (k.free hp) (k.trans (same_new hp)) upd_same (PtA.keep (same_new hp) _ _ py)⟩
theorem en_sortDR {rev : Bool} {α : Type} {l : List α} {enc : α → PyData} (h : EvD te σ H (.list (l.map enc))) (al : AllAlike (l.map enc)) (so : Sortable (l.map enc)) (hk : ∀ x ∈ l, (enc x).depth ≤ 60) :
    EvN (tCKw (rSortDR rev) (tCons te tNil) (tCons (tC (.bl rev)) tNil)) σ H ((l.mergeSort (dataLe rev enc)).map enc) := fun H1 s Q q => h H1 s _ fun v H2 k p => by
  obtain ⟨a, xs, rfl, ha, hx⟩ := pt_lst.mp p
  exact ⟨a, rfl, rfl, α, l, enc, p, al, so, hk, fun p ys hp py => q p ys _ (k.free hp) (k.trans (same_new hp)) upd_same (PtA.keep (same_new hp) _ _ py)⟩
theorem s_for2 {α : Type} {wi : TI} {g : TG} {tb : TS} (l : List α) (enc : α → PyData) (hi : EvF N wi σ H (l.map enc)) (Pv : Hp → Nat → L2.St → Hp → Prop)
    (h0 : ∀ H2, Same H H2 → Pv H2 0 σ H2) (hst : ∀ H2 i σ' H' H'', Pv H2 i σ' H' → Same H' H'' → Pv H2 i σ' H'')
    (step : ∀ H2, Same H H2 → ∀ i (hi : i < l.length) (σ' : L2.St) (H' : Hp) (v : V), Kp N H2 H' → Pv H2 i σ' H' → Pt H' (enc l[i]) v →
      g v σ' H' fun σ3 H3 => tb { D with nx := fun σ4 H4 => Kp N H2 H4 ∧ Pv H2 (i + 1) σ4 H4, ct := fun σ4 H4 => Kp N H2 H4 ∧ Pv H2 (i + 1) σ4 H4, bk := D.nx } σ3 H3)
    (hd : ∀ H2, Same H H2 → ∀ (σ' : L2.St) (H' : Hp), Kp N H2 H' → Pv H2 l.length σ' H' → D.nx σ' H') : tFor wi g tb D σ H := hi H (Same.refl H) _ fun J H2 k w => by
  rw [WkD, List.length_map] at w
  refine for_it w (fun i σ' H' => Kp N H2 H' ∧ Pv H2 i σ' H') ⟨Kp.refl, h0 H2 k⟩ (fun i σ' H' _ q => q.1) (fun i x σ' H' H'' hi ⟨k1, p⟩ ⟨s2, d, hd', pd⟩ => ?_) fun σ' H' ⟨k1, p⟩ => hd H2 k σ' H' k1 p
  rw [List.getElem?_map, List.getElem?_eq_getElem hi, Option.map_some, Option.some.injEq] at hd'
  subst hd'
  exact step H2 k i hi σ' H'' x (k1.trans s2.kp) (hst H2 i σ' H' H'' p s2) pd
/-- x = f(..), the promise told by hand -/
theorem q_call {sp : Sp} {E : XK} {ta : TA} {m : Nat} (h : EvA ta σ H ds) (k : ∀ vs H1, Same H H1 → PtA H1 ds vs → sp vs H1 (fun x H2 => tz D (σ.set m (some x)) H2) E) : tSeq (tAsg (tCall sp [] E ta) (gName m)) tz D σ H :=
  h H (Same.refl H) _ fun vs H1 s p => by
    show sp (vs ++ []) H1 _ E
    rw [List.append_nil]
    exact k vs H1 s p
/-- .. as a value: a new list -/
theorem en_callS {sp : Sp} {E : XK} {ta : TA} (h : EvA ta σ H ds) (k : ∀ vs H1, Same H H1 → PtA H1 ds vs → ∀ Q : VK, (∀ p xs H2, H1 p = none → Same H1 H2 → H2 p = some (.lst xs) → PtA H2 es xs → Q (.ref p) H2) → sp vs H1 Q E) : EvN (tCall sp [] E ta) σ H es := fun H1 a Q q =>
  h H1 a _ fun vs H2 s p => by
    show sp (vs ++ []) H2 Q E
    rw [List.append_nil]
    exact k vs H2 (a.trans s) p Q fun p xs H3 hp k3 e px => q p xs H3 (s.free hp) (s.trans k3) e px
/-! readings, opened one by one -/
theorem run_ckw1 {r : List V → List V → Hp → VK → Prop} {tk : TA} {Q : VK} (h : te σ H fun x H2 => tk σ H2 fun zs H3 => r [x] zs H3 Q) : tCKw r (tCons te tNil) tk σ H Q := h
theorem run_lc {wi : TI} {g : TG} {tt : TT} {vs : List Nat} {Q : VK} (h : wi σ H fun J H1 => ∀ D, H1 D = none → ∃ W : Nat → Nat → Hp → Prop, (∃ m, W 0 m (upd H1 D (.lst []))) ∧ ∀ i m H, W i m H →
  (J.stop i H ∧ Q (.ref D) H) ∨ (J.go i H ∧ ∃ Nx : Hp → Prop, (∀ H', Nx H' → ∃ m', m' < m ∧ W (i + 1) m' H') ∧ ∀ x H', J.yld i H x H' → g x (wipe σ vs) H' fun σ2 H2 => wipe σ2 vs = wipe σ vs ∧ tt σ2 H2 fun b H3 =>
    if b = true then te σ2 H3 fun y H4 => ∃ acc, H4 D = some (.lst acc) ∧ acc.length < sizeLine ∧ Nx (upd H4 D (.lst (acc ++ [y]))) else Nx H3)) : tLc wi g tt te vs σ H Q := h
theorem run_vals {R : It → Hp → Prop} (h : td σ H fun x H1 => ∃ d o kvs, x = .ref d ∧ H1 d = some (.frz o (.dK kvs)) ∧ R (Itd d o kvs) H1) : iVals td σ H R := h
theorem run_lk {Q : VK} (h : td σ H fun x H1 => ∃ d u, x = .ref d ∧ H1 d = some u ∧ Mut (some u) ∧ ∀ od, Q x (upd H1 d (.frz od u))) : tLk td σ H Q := h
theorem run_call {sp : Sp} {E : XK} {ta : TA} {Q : VK} (h : EvA ta σ H ds) (k : ∀ vs H1, Same H H1 → PtA H1 ds vs → sp vs H1 Q E) : tCall sp [] E ta σ H Q :=
  h H (Same.refl H) _ fun vs H1 s p => by
    show sp (vs ++ []) H1 Q E
    rw [List.append_nil]
    exact k vs H1 s p
theorem run_cb1 {r : List V → Hp → VK → Prop} {Q : VK} (h : te σ H fun x H2 => r [x] H2 Q) : tCB r (tCons te tNil) σ H Q := h
theorem run_cons1 {Q : List V → Hp → Prop} (h : te σ H fun x H1 => Q [x] H1) : tCons te tNil σ H Q := h
theorem en_callSD {sp : Sp} {E : XK} {ta : TA} {dvs : List V} {fs : List PyData} (h : EvA ta σ H ds) (hd : ∀ H, PtA H fs dvs) (k : ∀ vs H1, Same H H1 → PtA H1 (ds ++ fs) vs → ∀ Q : VK, (∀ p xs H2, H1 p = none → Same H1 H2 → H2 p = some (.lst xs) → PtA H2 es xs → Q (.ref p) H2) → sp vs H1 Q E) : EvN (tCall sp dvs E ta) σ H es := fun H1 a Q q =>
  h H1 a _ fun vs H2 s p => k _ H2 (a.trans s) (p.append (hd H2)) Q fun p xs H3 hp k3 e px => q p xs H3 (s.free hp) (s.trans k3) e px
theorem ed_callS {sp : Sp} {E : XK} {ta : TA} {z : PyData} (h : EvA ta σ H ds) (k : ∀ vs H1, Same H H1 → PtA H1 ds vs → ∀ Q : VK, (∀ v H2, Same H1 H2 → Pt H2 z v → Q v H2) → sp vs H1 Q E) : EvD (tCall sp [] E ta) σ H z := fun H1 a Q q =>
  h H1 a _ fun vs H2 s p => by
    show sp (vs ++ []) H2 Q E
    rw [List.append_nil]
    exact k vs H2 (a.trans s) p Q fun v H3 k3 px => q v H3 (s.trans k3) px
end
end Ro
namespace Ro
open PySem PySem.Spec PyProof.Rows L2 PySem.W
variable [TabsC]
/-! ### ranks: the mirror -/
def maxDf (l : List Int) (d : Int) : Int := match l with
  | [] => d
  | n :: r => r.foldl max n
theorem bestDf_max (l : List Int) (d : Int) : bestDf max l (.int d) = .int (maxDf l d) := by cases l <;> rfl
abbrev RkSt := List (Pair × Int) × List (Int × Int)
def rankStep (st : RkSt) (p : Pair) : RkSt :=
  let n := 1 + maxDf ((st.2.filter fun q => decide (q.1 < p.2)).map fun q => (aget st.2 q.1).getD 0) 0
  let m := (aget st.2 p.2).getD 0
  (aput st.1 p n, aput st.2 p.2 (if m > n then m else n))
def keyR (p : Pair) : PyData := .tuple [.int p.1, .int (0 - p.2)]
def ranksM (ps : List Pair) : List (Pair × Int) := ((ps.mergeSort (dataLe false keyR)).foldl rankStep ([], [])).1
theorem alike_pairs {f : Pair → PyData} (h : ∀ p, ∃ i j, f p = .tuple [.int i, .int j]) (l : List Pair) : AllAlike (l.map f) := .of fun a b => by
  obtain ⟨i, j, e⟩ := h a
  obtain ⟨i', j', e'⟩ := h b
  rw [e, e']
  simp [alike, alikeAll]
theorem sortable_pairs {f : Pair → PyData} (h : ∀ p, ∃ i j, f p = .tuple [.int i, .int j]) (l : List Pair) : Sortable (l.map f) := .tuples fun a => by
  obtain ⟨i, j, e⟩ := h a
  exact ⟨_, _, e⟩
theorem depth_ii (i j : Int) : (PyData.tuple [.int i, .int j]).depth ≤ 60 := by simp [PyData.depth, PyData.depthAll]
theorem rk_len : ∀ (l : List Pair) (st : RkSt), (l.foldl rankStep st).1.length ≤ st.1.length + l.length ∧ (l.foldl rankStep st).2.length ≤ st.2.length + l.length
  | [], st => ⟨Nat.le_refl _, Nat.le_refl _⟩
  | p :: l, st => by
    have h := rk_len l (rankStep st p)
    have h1 : (rankStep st p).1.length ≤ st.1.length + 1 := aput_len _ _ _
    have h2 : (rankStep st p).2.length ≤ st.2.length + 1 := aput_len _ _ _
    rw [List.foldl_cons, List.length_cons]
    omega
abbrev tabA (K : PySem.W.Frag) (x : Str) : Addr := (He.cT K (x, none)).2
/-- Tx, and the tables of the three defs that hold a lambda -/
structure Ty (K : PySem.W.Frag) (mg : Str → Option Value) (w : World) (base : Heap) : Prop extends Tx K mg w where
  tb_ranks : LamX.TabB base mg (He.cT K ("ranks", none)).1 (tabA K "ranks")
  nm_ranks : TabsC.nm (tabA K "ranks") = "ranks.<locals>.<lambda>"
  tb_two : LamX.TabB base mg (He.cT K ("_law_two", none)).1 (tabA K "_law_two")
  nm_two : TabsC.nm (tabA K "_law_two") = "_law_two.<locals>.<lambda>"
  tb_law : LamX.TabB base mg (He.cT K ("law", none)).1 (tabA K "law")
  nm_law : TabsC.nm (tabA K "law") = "law.<locals>.<lambda>"
section
variable {P : Program} {w : World} {K : PySem.W.Frag} {mg : Str → Option Value} {base : Heap} {x qual : Str} {params : Arguments} {body : List Stmt} {scope : Scope} {dvs : List V} {kws : List (Str × V)} {f : Addr} {fd : FuncData}
/-- FunD.ok, the code object told -/
theorem okC {CX : CXT} {N ps : List Str} {k : Nat} {sp : Sp} {p : Str × Option Str} (F : FunD K x qual params body scope dvs kws f fd) (hf : f = He.fAd K p) (S : FnScope N ps scope) (len : ∀ vs H Q E, sp vs H Q E → vs.length = ps.length)
    (hbody : ∀ (cdv : Value), cdv = .ref (He.codeOf K p) → ∀ (A : Around) (outer : List Env) (s : Shared) (H : Hp) (vs : List V) (Q : VK) (E : XK), Room k (A.deeper (envOfC qual scope s.heap.objs.size f cdv)) → sp vs H Q E →
      ∃ t, PSs (cxOf CX P w K mg base N qual scope f cdv A outer s H E) body t ∧ t { nx := fun _ H' => Q .non H', rt := Q } (start N vs) H) : FnOk P w K mg base CX (k + 1) f fd ps sp := by
  obtain ⟨oc, od, dV, kV, doc, pm, an, cdv, ct, osl, rfl, lk, hcd, _, _⟩ := F.ex
  obtain ⟨c, rfl⟩ := He.codeIn_ref hcd
  have ec : c = He.codeOf K p := (He.codeOf_eq (by rw [← hf]; exact lk) rfl).symm
  subst ec
  exact fn_of lk hcd S len fun A outer s H vs Q E hr hsp => hbody _ rfl A outer s H vs Q E hr hsp
end
theorem _root_.L2.Room.u1 {k : Nat} {A : Around} (r : Room k A) : A.units + 1 < cLine := by have := r.un; omega
def spRanks (K : PySem.W.Frag) : Sp := fun vs H Q _ => ∃ ps : List Pair, PtA H [.list (ps.map pairD)] vs ∧ ps.length ≤ 2000 ∧ Tb H (tabA K "ranks") ∧ ∀ p H', H p = none → Same H H' → H' p = some (.dT (fT (ranksM ps))) → Q (.ref p) H'
section
variable {P : Program} {w : World} {K : PySem.W.Frag} {mg : Str → Option Value} {base : Heap}
theorem sc_ranks : FnScope ["pairs", "found", "most", "pair", "r"] ["pairs"] (defScope (top 40)) := ⟨rfl, rfl, rfl, by decide +kernel, rfl, by decide +kernel, by decide +kernel⟩
theorem okF_ranks (T : Ty K mg w base) : ∃ fd, FunD K "ranks" "ranks" (defArgs (top 40)) (defBody (top 40)) (defScope (top 40)) [] [] (He.ga K "ranks") fd ∧ FnOk P w K mg base (L2.CX P w) 5 (He.ga K "ranks") fd ["pairs"] (spRanks K) := by
  obtain ⟨g, fd, F⟩ := T.f_ranks
  refine ⟨fd, F, okC (p := ("ranks", none)) F rfl sc_ranks (fun vs H Q E h => ?_) (fun cdv hcd A outer s H vs Q E hr h => ?_)⟩
  · obtain ⟨ps, p, _⟩ := h; exact p.length
  · obtain ⟨ps, p, hlen, tb, k⟩ := h
    obtain ⟨v, rfl, p0⟩ := ptA1 p
    have nd := sc_ranks.nd
    have hu := hr.units
    subst hcd
    refine ⟨_, pss_cons (ps_set (i := 1) nd rfl (Or.inl rfl) pe_dnewT)
      (pss_cons (ps_set (i := 2) nd rfl (Or.inr rfl) pe_dnewK)
      (pss_cons (ps_for (passes_of rfl) rfl (pi_list (pe_sortLam (k := 3) (x := "one") (KR := keyAB) hr rfl T.n_sorted (pa_cons (pv 0) pa_nil) T.tb_ranks rfl T.nm_ranks rfl (lamOk_ab rfl (fun _ _ _ => rfl) (by decide)) (fun _ _ _ _ => rfl) rfl rfl rfl rfl (by decide +kernel) rfl)) (pg_name (i := 3) nd rfl (.inr rfl))
        (pss_cons (ps_dput hr.u1 (pv 1) (pv 3) (pe_op op_add pe_int (pe_callBK (cr_maxDef rfl hu) rfl T.n_max (by decide +kernel) (pa_cons
            (pe_lock (pe_lc (own := [("r", 4)]) (g := gName 4) rfl nd (pi_keys (pv 2)) (blkOk_by (N := ["pairs", "found", "most", "pair", "r"]) (sc := defScope (top 40)) (by decide +kernel)) (fun _ _ _ _ _ => pg_name (i := 4) nd rfl (.inl rfl))
              (fun _ _ _ _ _ => pts_one (pt_cmpR op_lt (pv 4) (pe_ix (r := rIxT K) ix_tup (pv 3) pe_int (fun _ _ => rfl)) (nomark _))) (fun _ _ _ _ _ => pe_dget hr.u1 (pv 2) (pv 4) (fun _ _ => rfl)))) pa_nil) (pk_cons pe_int pk_nil))) rfl)
        (pss_one (ps_dput hr.u1 (pv 2) (pe_ix ix_tup (pv 3) pe_int (fun _ _ => rfl)) (pe_callB (call_max2 rfl) rfl T.n_max (by decide +kernel) (pa_cons (pe_dget hr.u1 (pv 1) (pv 3) (fun _ _ => rfl)) (pa_cons (pe_dget2 hr.u1 (pv 2) (pe_ix ix_tup (pv 3) pe_int (fun _ _ => rfl)) pe_int ⟨rfl, rfl, rfl, rfl⟩) pa_nil))) rfl))))
      (pss_one (ps_ret (pv 1))))), ?_⟩
    intro f hf m hm
    have hfm : m ≠ f := fun z => by rw [z, upd_same] at hm; cases hm
    have k2 : Same H (upd (upd H f (.dT [])) m (.dK [])) := (same_new hf).trans (same_new hm)
    have ef : (upd (upd H f (.dT [])) m (.dK [])) f = some (.dT (fT [])) := by rw [upd_ne (Ne.symm hfm), upd_same]; rfl
    have em : (upd (upd H f (.dT [])) m (.dK [])) m = some (.dK (fI [])) := upd_same
    generalize upd (upd H f (.dT [])) m (.dK []) = H2 at k2 ef em
    have no : NOk (fun a => a = f ∨ a = m) H2 := fun b hb => by
      rcases hb with rfl | rfl
      · exact ⟨_, ef, True.intro⟩
      · exact ⟨_, em, True.intro⟩
    have hm0 : H m = none := by rw [upd_ne hfm] at hm; exact hm
    refine s_for2 (N := fun a => a = f ∨ a = m) (ps.mergeSort (dataLe false keyR)) pairD (ef_new no (en_sortLam (key := keyR) (ea_one (ed_var rfl (p0.keep k2))) (k2.tb _ tb) (alike_pairs (fun p => ⟨_, _, rfl⟩) ps) (sortable_pairs (fun p => ⟨_, _, rfl⟩) ps) (fun x _ => ⟨depth_ii _ _, _, _, rfl, rfl⟩)) (noL_pairs _))
      (fun _ i σ' H' => (∃ x, σ' = [some v, some (.ref f), some (.ref m), x, none]) ∧ H' f = some (.dT (fT (((ps.mergeSort (dataLe false keyR)).take i).foldl rankStep ([], [])).1)) ∧ H' m = some (.dK (fI (((ps.mergeSort (dataLe false keyR)).take i).foldl rankStep ([], [])).2)))
      (fun H3 s => ⟨⟨none, rfl⟩, s _ _ ef, s _ _ em⟩) (fun _ i σ' H' H'' ⟨e, q1, q2⟩ s => ⟨e, s _ _ q1, s _ _ q2⟩) (fun H3 s3 i hi σ' H' u kp ⟨⟨x, e⟩, q1, q2⟩ pu => ?_) (fun H3 s3 σ' H' kp ⟨⟨x, e⟩, q1, q2⟩ => ?_)
    · subst e
      have hi' := hi
      rw [List.length_mergeSort] at hi'
      have et : (ps.mergeSort (dataLe false keyR)).take (i + 1) = (ps.mergeSort (dataLe false keyR)).take i ++ [(ps.mergeSort (dataLe false keyR))[i]] := by
        rw [List.take_add_one, List.getElem?_eq_getElem hi]; rfl
      rw [et, List.foldl_append, List.foldl_cons, List.foldl_nil]
      have hln := rk_len ((ps.mergeSort (dataLe false keyR)).take i) ([], [])
      have hl2 : ((ps.mergeSort (dataLe false keyR)).take i).length ≤ 2000 := by rw [List.length_take]; omega
      generalize (ps.mergeSort (dataLe false keyR))[i] = q at pu
      generalize (((ps.mergeSort (dataLe false keyR)).take i).foldl rankStep ([], [])) = st at q1 q2 hln
      have hl1 := hln.1
      have hl3 := hln.2
      simp only [List.length_nil, Nat.zero_add] at hl1 hl3
      have ep : ∀ H4, Same H' H4 → EvD (tVar 3) [some v, some (.ref f), some (.ref m), some u, none] H4 (pairD q) := fun H4 s => ed_var rfl (pu.keep s)
      have hv : EvD (tOp (rI0 fun i j => .int (i + j)) (tC (.int 1)) (tCKw (rBestI max) (tCons (tLockE (tLc (iKeys (tVar 2)) (gName 4) (tTest (tOp (rI0 fun i j => .bl (decide (i < j))) (tVar 4) (tOp (rIxT K) (tVar 3) (tC (.int 1))))) (tDGet (tVar 2) (tVar 4)) [4])) tNil) (tCons (tC (.int 0)) tNil))) [some v, some (.ref f), some (.ref m), some u, none] H'
          (.int (1 + maxDf ((st.2.filter fun z => decide (z.1 < q.2)).map fun z => (aget st.2 z.1).getD 0) 0)) := by
        refine ed_op ed_int (EvD.to (ed_best (ns := (st.2.filter fun z => decide (z.1 < q.2)).map fun z => (aget st.2 z.1).getD 0) (dv := .int 0) ?_ (fun _ => pt_int.mpr rfl)) ?_) rd_ii
        · refine en_lock q2 True.intro (noLs_map fun _ _ => rfl) fun H4 s4 od => ?_
          rw [List.map_map]
          have sx : ∀ b o, H4 b = some o → b ≠ m → upd H4 m (.frz od (.dK (fI st.2))) b = some o := fun b o e n => by rw [upd_ne n]; exact e
          have pq : Pt (upd H4 m (.frz od (.dK (fI st.2)))) (pairD q) u := Pt.keepT (fun b ys e => sx b _ e fun z => by rw [z, s4 _ _ q2] at e; cases e) _ _ rfl (pu.keep s4)
          refine en_lc st.2 (fun z => .int z.1) (fun z => decide (z.1 < q.2)) (fun z => .int ((aget st.2 z.1).getD 0)) (by omega) (fun _ _ _ => rfl) (ei_keys (ev_var rfl) upd_same) fun z hz w H5 s5 pw => ?_
          refine ⟨[some v, some (.ref f), some (.ref m), some u, some w], fun Q qq => qq, rfl, ?_, fun _ => ?_⟩
          · exact eb_T (ed_op (ed_var rfl pw) (ed_op (ed_var rfl (pq.keep s5)) ed_int (rd_ixT rfl)) rd_ib)
          · obtain ⟨n, hn⟩ := aget_mem hz
            rw [hn]
            exact ed_dgetI (l := st.2) (ev_var rfl) (ed_var rfl pw) (.inr ⟨od, s5.ob _ _ upd_same fun ps z => by cases z⟩) hn
        · exact bestDf_max _ _
      refine s_dputT hv (ev_var rfl) (ep H' (Same.refl _)) q1 (by omega) fun H4 k4 e4 => ?_
      have mf : H4 m = some (.dK (fI st.2)) := k4.ob _ _ q2 (fun ps z => by cases z) hfm
      have pu4 : Pt H4 (pairD q) u := Pt.keepT (fun b ys e => k4.ob _ _ e (fun ps z => by cases z) fun z => by rw [z, q1] at e; cases e) _ _ rfl pu
      refine s_dputI (l := st.2) (ed_cb (ea_cons (ed_dgetT (ev_var rfl) (ed_var rfl pu4) (.inl e4) (aget_aput_self _ _ _)) (ea_one (ed_get2I (l := st.2) (ev_var rfl) (ed_op (ed_var rfl pu4) ed_int (rd_ixT rfl)) ed_int mf))) rc_max2) (ev_var rfl) (ed_op (ed_var rfl pu4) ed_int (rd_ixT rfl)) mf (by omega) fun H5 k5 e5 => ⟨?_, ⟨_, rfl⟩, ?_, e5⟩
      · exact (kp.trans ⟨fun a o e t n => k4.ob a o e t (fun z => n (.inl z)), k4.tb, k4.nn⟩).trans ⟨fun a o e t n => k5.ob a o e t (fun z => n (.inr z)), k5.tb, k5.nn⟩
      · exact k5.ob _ _ e4 (fun ps z => by cases z) (Ne.symm hfm)
    · subst e
      rw [List.take_length] at q1
      refine ⟨_, rfl, k f H' hf ?_ q1⟩
      exact ((k2.trans s3).kp.trans kp).same fun a ha => by
        rcases ha with rfl | rfl
        · exact hf
        · exact hm0
theorem ok_ranks (T : Ty K mg w base) : Cal P w K mg base 5 "ranks" ["pairs"] (spRanks K) := by
  obtain ⟨fd, F, G⟩ := okF_ranks (P := P) (base := base) T
  exact ⟨(T.f_ranks).1, ⟨fd, G, F.bindsN fun _ _ _ _ _ _ us hl => match us, hl with | [_], _ => rfl⟩, F.kp⟩
end
end Ro
namespace Ro
open PySem PySem.Spec PyProof.Rows L2 PySem.W
variable [TabsC]
/-! ### longest: the mirror -/
def lastOk (l : List Pair) (p : Pair) : Bool := match l.getLast? with
  | none => true
  | some z => decide (p.1 < z.1) && decide (p.2 < z.2)
def lgStep (rk : List (Pair × Int)) (st : List Pair × Int) (p : Pair) : List Pair × Int :=
  if (decide ((aget rk p).getD 0 = st.2) && lastOk st.1 p) = true then (st.1 ++ [p], st.2 - 1) else st
def lgAll (ps : List Pair) (n : Nat) : List Pair × Int := ((ps.mergeSort (dataLe true pairD)).take n).foldl (lgStep (ranksM ps)) ([], maxDf ((ranksM ps).map (·.2)) 0)
def longestM (ps : List Pair) : List Pair := (lgAll ps ps.length).1.reverse
theorem rank_keep {q : Pair} : ∀ (l : List Pair) (st : RkSt), (∃ n, aget st.1 q = some n) → ∃ n, aget (l.foldl rankStep st).1 q = some n
  | [], _, h => h
  | p :: l, st, h => by
    rw [List.foldl_cons]
    refine rank_keep l _ ?_
    by_cases e : q = p
    · subst e
      exact ⟨_, aget_aput_self _ _ _⟩
    · obtain ⟨n, hn⟩ := h
      exact ⟨n, by show aget (aput st.1 p _) q = _; rw [aget_aput_ne e]; exact hn⟩
theorem rank_has {q : Pair} : ∀ (l : List Pair) (st : RkSt), q ∈ l → ∃ n, aget (l.foldl rankStep st).1 q = some n
  | p :: l, st, h => by
    rw [List.foldl_cons]
    rcases List.mem_cons.mp h with e | h
    · subst e
      exact rank_keep l _ ⟨_, aget_aput_self _ _ _⟩
    · exact rank_has l _ h
theorem ranksM_has {ps : List Pair} {q : Pair} (h : q ∈ ps) : ∃ n, aget (ranksM ps) q = some n := rank_has _ _ (List.mem_mergeSort.mpr h)
theorem lg_len (rk : List (Pair × Int)) : ∀ (l : List Pair) (st : List Pair × Int), (l.foldl (lgStep rk) st).1.length ≤ st.1.length + l.length
  | [], _ => Nat.le_refl _
  | p :: l, st => by
    have h := lg_len rk l (lgStep rk st p)
    have h1 : (lgStep rk st p).1.length ≤ st.1.length + 1 := by
      unfold lgStep
      split
      · simp
      · omega
    rw [List.foldl_cons, List.length_cons]
    omega
theorem lg_sub (rk : List (Pair × Int)) : ∀ (l : List Pair) (st : List Pair × Int) (q : Pair), q ∈ (l.foldl (lgStep rk) st).1 → q ∈ st.1 ∨ q ∈ l
  | [], _, q, h => .inl h
  | p :: l, st, q, h => by
    rw [List.foldl_cons] at h
    rcases lg_sub rk l _ q h with h | h
    · unfold lgStep at h
      split at h
      · rcases List.mem_append.mp h with h | h
        · exact .inl h
        · exact .inr (by rw [List.mem_singleton.mp h]; exact List.mem_cons_self ..)
      · exact .inl h
    · exact .inr (List.mem_cons_of_mem _ h)
theorem longest_sub {ps : List Pair} {q : Pair} (h : q ∈ longestM ps) : q ∈ ps := by
  rcases lg_sub _ _ _ q (List.mem_reverse.mp h) with h | h
  · cases h
  · exact List.mem_mergeSort.mp (List.mem_of_mem_take h)
theorem longest_len (ps : List Pair) : (longestM ps).length ≤ ps.length := by
  rw [longestM, List.length_reverse]
  have := lg_len (ranksM ps) ((ps.mergeSort (dataLe true pairD)).take ps.length) ([], maxDf ((ranksM ps).map (·.2)) 0)
  rw [List.length_take, List.length_mergeSort] at this
  simp only [List.length_nil] at this
  unfold lgAll
  omega
theorem depth_pairs (l : List Pair) : PyData.depthAll (l.map pairD) ≤ 1 := by
  induction l with
  | nil => simp [PyData.depthAll]
  | cons p l ih =>
    simp only [List.map_cons, PyData.depthAll, pairD, PyData.depth]
    omega
theorem depth_lp (l : List Pair) : (PyData.list (l.map pairD)).depth ≤ 64 := by
  have := depth_pairs l
  simp only [PyData.depth]
  omega
theorem en_listVals {σ : L2.St} {H : Hp} {td : TE} {a : Addr} {l : List (Pair × Int)} (hd : EvV td σ H (.ref a)) (ha : H a = some (.dT (fT l))) : EvN (tListVals td) σ H ((l.map (·.2)).map PyData.int) := fun H1 s Q q => hd H1 s _ fun H2 k =>
  ⟨a, fT l, rfl, (s.trans k) _ _ ha, fun p hp => q p _ _ (k.free hp) (k.trans (same_new hp)) upd_same (by
    have e : (fT l).map (·.2) = (l.map (·.2)).map V.int := by rw [List.map_map, List.map_map]; rfl
    rw [e]
    exact PtA.ints _)⟩
theorem isEmpty_eqv (l : List Pair) : PyData.eqv (.list (l.map pairD)) (.list []) = l.isEmpty := by
  cases l <;> simp [PyData.eqv, PyData.eqvAll]
def spLongest (K : PySem.W.Frag) : Sp := fun vs H Q _ => ∃ ps : List Pair, PtA H [.list (ps.map pairD)] vs ∧ ps.length ≤ 2000 ∧ Tb H (tabA K "ranks") ∧ ∀ p xs H', H p = none → Same H H' → H' p = some (.lst xs) → PtA H' ((longestM ps).map pairD) xs → Q (.ref p) H'
section
variable {P : Program} {w : World} {K : PySem.W.Frag} {mg : Str → Option Value} {base : Heap}
theorem sc_longest : FnScope ["pairs", "rank", "wanted", "found", "pair"] ["pairs"] (defScope (top 41)) := ⟨rfl, rfl, rfl, by decide +kernel, rfl, by decide +kernel, by decide +kernel⟩
theorem okF_longest (T : Ty K mg w base) : ∃ fd, FunD K "longest" "longest" (defArgs (top 41)) (defBody (top 41)) (defScope (top 41)) [] [] (He.ga K "longest") fd ∧ FnOk P w K mg base (L2.CX P w) 6 (He.ga K "longest") fd ["pairs"] (spLongest K) := by
  have C1 : Cal P w K mg base 5 "ranks" ["pairs"] (spRanks K) := ok_ranks T
  obtain ⟨g, fd, F⟩ := T.f_longest
  refine ⟨fd, F, F.ok sc_longest (fun vs H Q E h => ?_) (fun cdv A outer s H vs Q E hr h => ?_)⟩
  · obtain ⟨ps, p, _⟩ := h; exact p.length
  · obtain ⟨ps, p, hlen, tb, k⟩ := h
    obtain ⟨v, rfl, p0⟩ := ptA1 p
    have nd := sc_longest.nd
    have hu := hr.units
    refine ⟨_, pss_cons (ps_set (i := 1) nd rfl (Or.inl rfl) (pe_cal C1 hr (pa_cons (pv 0) pa_nil)))
      (pss_cons (ps_set (i := 2) nd rfl (Or.inl rfl) (pe_callBK (cr_maxDef rfl hu) rfl T.n_max (by decide +kernel) (pa_cons (pe_listVals rfl rfl T.n_list (pv 1)) pa_nil) (pk_cons pe_int pk_nil)))
      (pss_cons (ps_set (i := 3) nd rfl (Or.inl rfl) (pe_lst pa_nil))
      (pss_cons (ps_for (passes_of rfl) rfl (pi_list (pe_callBK (cr_sortDR (rev := true) hu) rfl T.n_sorted (by decide +kernel) (pa_cons (pv 0) pa_nil) (pk_cons pe_bl pk_nil))) (pg_name (i := 4) nd rfl (.inl rfl))
        (pss_one (ps_if (PW.pt (pw_and (pt_cmpR op_eq (pe_dget hr.u1 (pv 1) (pv 4) (fun _ _ => rfl)) (pv 2) (nomark _)) (pw_and1 (PW.pt (pw_or (pt_cmpR (op_eqP hu) (pv 3) (pe_lst pa_nil) (nomark _))
            (pw_or1 (PW.pt (pw_and (pt_cmpR op_lt (pe_ix ix_tup (pv 4) pe_int (fun _ _ => rfl)) (pe_ix ix_tup (pe_ix ix_list (pv 3) (pe_un un_neg pe_int) (fun _ _ => rfl)) pe_int (fun _ _ => rfl)) (nomark _))
              (pw_and1 (pt_cmpR op_lt (pe_ix ix_tup (pv 4) pe_int (fun _ _ => rfl)) (pe_ix ix_tup (pe_ix ix_list (pv 3) (pe_un un_neg pe_int) (fun _ _ => rfl)) pe_int (fun _ _ => rfl)) (nomark _)))))))))))
          (pss_cons (ps_expr (pe_bm PySem.F.plainAttrs_list PySem.F.slot_list_append PySem.F.type_list_append mt_append (pv 3) (pa_cons (pv 4) pa_nil)))
          (pss_one (ps_aug (i := 2) nd rfl (.inl rfl) pe_int ip_sub))) pss_nil)))
      (pss_one (ps_ret (pe_revL (pv 3))))))), ?_⟩
    refine q_call (ea_one (ed_var rfl p0)) fun vs H1 k1 pv => ⟨ps, pv, hlen, k1.tb _ tb, fun rd H2 hrd k2 e2 => ?_⟩
    refine q_set (d := .int (maxDf ((ranksM ps).map (·.2)) 0)) ((ed_best (en_listVals (ev_var rfl) e2) (dv := .int 0) (fun _ => pt_int.mpr rfl)).to (bestDf_max _ _)) fun vw H3 k3 pw => ?_
    cases pt_int.mp pw
    refine q_setN (en_lst ea_nil (by show 0 ≤ sizeLine; decide)) fun q xs H4 hq k4 hx px => ?_
    have pq : Pt H4 (.list (([] : List Pair).map pairD)) (.ref q) := pt_lst.mpr ⟨q, xs, rfl, hx, px⟩
    have k24 := k3.trans k4
    have k04 := (k1.trans k2).trans k24
    have e4 := k24 _ _ e2
    have rq : rd ≠ q := fun z => by rw [z] at e4; rw [hx] at e4; cases e4
    refine s_for (N := (· = q)) (ps.mergeSort (dataLe true pairD)) pairD (ef_new (nok_one pq) (en_sortDR (ed_var rfl (p0.keep k04)) (alike_pairs (fun p => ⟨_, _, rfl⟩) ps) (sortable_pairs (fun p => ⟨_, _, rfl⟩) ps) (fun x _ => depth_ii _ _)) (noL_pairs _))
      (fun i σ' H' => (∃ x, σ' = [some v, some (.ref rd), some (.int (lgAll ps i).2), some (.ref q), x]) ∧ Pt H' (.list ((lgAll ps i).1.map pairD)) (.ref q) ∧ H' rd = some (.dT (fT (ranksM ps))))
      (fun H5 s => ⟨⟨none, rfl⟩, pq.keep s, s _ _ e4⟩) (fun i σ' H' H'' ⟨e, q1, q2⟩ s => ⟨e, q1.keep s, s _ _ q2⟩) (fun H5 s5 i hi σ' H' u kp ⟨⟨x, e⟩, q1, q2⟩ pu => ?_) (fun H5 s5 σ' H' kp ⟨⟨x, e⟩, q1, q2⟩ => ?_)
    · subst e
      have hi' := hi
      rw [List.length_mergeSort] at hi'
      have es : lgAll ps (i + 1) = lgStep (ranksM ps) (lgAll ps i) (ps.mergeSort (dataLe true pairD))[i] := by
        unfold lgAll
        rw [List.take_add_one, List.getElem?_eq_getElem hi, Option.toList_some, List.foldl_append, List.foldl_cons, List.foldl_nil]
      rw [es]
      have hmem : (ps.mergeSort (dataLe true pairD))[i] ∈ ps := List.mem_mergeSort.mp (List.getElem_mem hi)
      have hlt : (lgAll ps i).1.length ≤ 2000 := by
        have := lg_len (ranksM ps) ((ps.mergeSort (dataLe true pairD)).take i) ([], maxDf ((ranksM ps).map (·.2)) 0)
        rw [List.length_take] at this
        simp only [List.length_nil] at this
        unfold lgAll
        omega
      generalize (ps.mergeSort (dataLe true pairD))[i] = z at pu hmem
      generalize lgAll ps i = st at q1 hlt
      obtain ⟨n, hn⟩ := ranksM_has hmem
      refine s_if (b := decide ((aget (ranksM ps) z).getD 0 = st.2) && lastOk st.1 z) ?_ (fun hc H6 s6 => ?_) (fun hc H6 s6 => ?_)
      · refine eb_and (eb_T (ed_op (ed_dgetT (n := n) (ev_var rfl) (ed_var rfl pu) (.inl q2) hn) (ed_var rfl (pt_int.mpr rfl)) (by rw [hn]; exact rd_eqI))) fun _ => ?_
        rcases List.eq_nil_or_concat st.1 with h0 | ⟨l, y, h0⟩
        · refine (eb_or (b := true) (EvB.to (eb_T ((ed_op (ed_var rfl q1) (en_lst ea_nil (by show 0 ≤ sizeLine; decide)).dd (rd_eqP (K := K) (depth_lp st.1))).to (congrArg PyData.bool (isEmpty_eqv _)))) (by rw [h0]; rfl)) (c := true) (fun z => by cases z)).to ?_
          rw [lastOk, h0]
          rfl
        · have ha : L2.atI (st.1.map pairD) (-1) = some (pairD y) := by
            rw [h0, List.concat_eq_append, List.map_append]
            exact atI_last _ _
          have el : EvD (tOp (rIxL K) (tVar 3) (tUn (rU fun i => .int (-i)) (tC (.int 1)))) [some v, some (.ref rd), some (.int st.2), some (.ref q), some u] H' (pairD y) := ed_op (ed_var rfl q1) (ed_un (z := .int (-1)) ed_int fun H x Q p k => ⟨1, pt_int.mp p, k _ H (Same.refl H) (pt_int.mpr rfl)⟩) (rd_ixL (K := K) ha)
          have ez : EvD (tVar 4) [some v, some (.ref rd), some (.int st.2), some (.ref q), some u] H' (pairD z) := ed_var rfl pu
          refine (eb_or (b := false) (EvB.to (eb_T ((ed_op (ed_var rfl q1) (en_lst ea_nil (by show 0 ≤ sizeLine; decide)).dd (rd_eqP (K := K) (depth_lp st.1))).to (congrArg PyData.bool (isEmpty_eqv _)))) (by rw [h0]; simp)) fun _ => eb_and (eb_T (ed_op (ed_op ez ed_int (rd_ixT rfl)) (ed_op el ed_int (rd_ixT rfl)) rd_ib)) fun _ => eb_T (ed_op (ed_op ez ed_int (rd_ixT rfl)) (ed_op el ed_int (rd_ixT rfl)) rd_ib)).to ?_
          rw [lastOk, h0]
          simp
      · have ec : lgStep (ranksM ps) st z = (st.1 ++ [z], st.2 - 1) := if_pos hc
        rw [ec]
        refine q_append rfl (q1.keep s6) (noL_pairs _) (by rw [List.length_map]; omega) (ed_var rfl (pu.keep s6)) (noL_pair z) fun H7 k7 p7 => ?_
        refine ⟨_, rfl, _, _, rfl, rfl, (kp.trans s6.kp).trans k7, ⟨_, rfl⟩, by rw [List.map_append]; exact p7, k7.ob _ _ (s6 _ _ q2) (fun ps z => by cases z) rq⟩
      · have ec : lgStep (ranksM ps) st z = st := if_neg (by rw [hc]; exact Bool.false_ne_true)
        rw [ec]
        exact ⟨kp.trans s6.kp, ⟨_, rfl⟩, q1.keep s6, s6 _ _ q2⟩
    · subst e
      rw [List.length_mergeSort] at q1
      obtain ⟨a, xs', e, hx', px'⟩ := pt_lst.mp q1
      cases e
      refine ⟨_, rfl, q, xs', rfl, SqL.of hx', fun p' hp' => ?_⟩
      have sm : Same H H' := (((k04.trans s5).kp.trans kp).same fun a ha => by rw [ha]; exact ((k1.trans k2).trans k3).free hq)
      refine k p' _ _ (sm.free hp') (sm.trans (same_new hp')) upd_same (PtA.keep (same_new hp') _ _ ?_)
      rw [longestM, List.map_reverse]
      exact px'.reverse
theorem ok_longest (T : Ty K mg w base) : Cal P w K mg base 6 "longest" ["pairs"] (spLongest K) := by
  obtain ⟨fd, F, G⟩ := okF_longest (P := P) (base := base) T
  exact ⟨(T.f_longest).1, ⟨fd, G, F.bindsN fun _ _ _ _ _ _ us hl => match us, hl with | [_], _ => rfl⟩, F.kp⟩
end
end Ro
namespace Ro
open PySem PySem.Spec PyProof.Rows L2 PySem.W
variable [TabsC]
/-! ### by lines: the mirror -/
abbrev Grp := Str × Addr × List Pair
def grpAdd (ms : List (Str × List Pair)) (l : Str) (q : Pair) : List (Str × List Pair) := if (ms.any fun m => decide (m.1 = l)) = true then ms.map (fun m => if m.1 = l then (m.1, m.2 ++ [q]) else m) else ms ++ [(l, [q])]
def groupsM (B : Log) (ps : List Pair) : List (Str × List Pair) := ps.foldl (fun ms q => grpAdd ms (rowAt B q.1).l q) []
def gadd (gs : List Grp) (l : Str) (q : Pair) (z : Addr) : List Grp := if (gs.any fun m => decide (m.1 = l)) = true then gs.map (fun m => if m.1 = l then (m.1, m.2.1, m.2.2 ++ [q]) else m) else gs ++ [(l, z, [q])]
abbrev gM (gs : List Grp) : List (Str × List Pair) := gs.map fun g => (g.1, g.2.2)
theorem gM_add (gs : List Grp) (l : Str) (q : Pair) (z : Addr) : gM (gadd gs l q z) = grpAdd (gM gs) l q := by
  have e : ((gM gs).any fun m => decide (m.1 = l)) = gs.any fun m => decide (m.1 = l) := by rw [List.any_map]; rfl
  unfold gadd grpAdd
  rw [e]
  unfold gM
  split
  · rw [List.map_map, List.map_map]
    congr 1
    funext g
    show ((if g.1 = l then (g.1, g.2.1, g.2.2 ++ [q]) else g : Grp).1, (if g.1 = l then (g.1, g.2.1, g.2.2 ++ [q]) else g : Grp).2.2) = if g.1 = l then (g.1, g.2.2 ++ [q]) else (g.1, g.2.2)
    split <;> rfl
  · rw [List.map_append]; rfl
theorem grpAdd_mem {ms : List (Str × List Pair)} {l : Str} {q : Pair} {m : Str × List Pair} (h : m ∈ grpAdd ms l q) : ∀ x ∈ m.2, x = q ∨ ∃ m' ∈ ms, x ∈ m'.2 := by
  unfold grpAdd at h
  split at h
  · obtain ⟨m', hm', e⟩ := List.mem_map.mp h
    intro x hx
    split at e
    · subst e
      rcases List.mem_append.mp hx with hx | hx
      · exact .inr ⟨m', hm', hx⟩
      · exact .inl (List.mem_singleton.mp hx)
    · subst e
      exact .inr ⟨m', hm', hx⟩
  · intro x hx
    rcases List.mem_append.mp h with h | h
    · exact .inr ⟨m, h, hx⟩
    · rw [List.mem_singleton.mp h] at hx
      exact .inl (List.mem_singleton.mp hx)
theorem groups_mem {B : Log} : ∀ (ps : List Pair) (ms : List (Str × List Pair)) (m : Str × List Pair), m ∈ ps.foldl (fun ms q => grpAdd ms (rowAt B q.1).l q) ms → ∀ x ∈ m.2, x ∈ ps ∨ ∃ m' ∈ ms, x ∈ m'.2
  | [], ms, m, h, x, hx => .inr ⟨m, h, hx⟩
  | p :: ps, ms, m, h, x, hx => by
    rw [List.foldl_cons] at h
    rcases groups_mem ps _ m h x hx with h | ⟨m', h1, h2⟩
    · exact .inl (List.mem_cons_of_mem _ h)
    · rcases grpAdd_mem h1 x h2 with e | h3
      · exact .inl (by rw [e]; exact List.mem_cons_self ..)
      · exact .inr h3
def tot (ms : List (Str × List Pair)) : Nat := (ms.map fun m => m.2.length).sum
theorem tot_map : ∀ (ms : List (Str × List Pair)) (l : Str) (q : Pair), (ms.map (·.1)).Nodup → tot (ms.map (fun m => if m.1 = l then (m.1, m.2 ++ [q]) else m)) ≤ tot ms + 1
  | [], _, _, _ => by simp [tot]
  | m :: ms, l, q, nd => by
    simp only [List.map_cons, List.nodup_cons] at nd
    have ih := tot_map ms l q nd.2
    by_cases h : m.1 = l
    · have e : ms.map (fun m => if m.1 = l then (m.1, m.2 ++ [q]) else m) = ms := by
        have e1 : ∀ x ∈ ms, (fun m : Str × List Pair => if m.1 = l then (m.1, m.2 ++ [q]) else m) x = id x := fun x hx => if_neg fun z => nd.1 (by rw [h, ← z]; exact List.mem_map_of_mem hx)
        rw [List.map_congr_left e1, List.map_id]
      rw [List.map_cons, if_pos h, e]
      simp only [tot, List.map_cons, List.sum_cons, List.length_append, List.length_singleton]
      omega
    · rw [List.map_cons, if_neg h]
      simp only [tot, List.map_cons, List.sum_cons] at ih ⊢
      omega
theorem grp_keys {ms : List (Str × List Pair)} {l : Str} {q : Pair} (nd : (ms.map (·.1)).Nodup) : ((grpAdd ms l q).map (·.1)).Nodup ∧ tot (grpAdd ms l q) ≤ tot ms + 1 := by
  unfold grpAdd
  split
  · refine ⟨?_, tot_map ms l q nd⟩
    rw [List.map_map]
    have e : ((fun x : Str × List Pair => x.1) ∘ fun m => if m.1 = l then (m.1, m.2 ++ [q]) else m) = fun m => m.1 := by
      funext m
      show (if m.1 = l then (m.1, m.2 ++ [q]) else m : Str × List Pair).1 = m.1
      split <;> rfl
    rw [e]
    exact nd
  · rename_i h
    refine ⟨?_, ?_⟩
    · rw [List.map_append, List.nodup_append]
      refine ⟨nd, by simp, fun a ha b hb z => h ?_⟩
      subst z
      obtain ⟨m, hm, e⟩ := List.mem_map.mp ha
      have hb' : a = l := by simpa using hb
      exact List.any_eq_true.mpr ⟨m, hm, decide_eq_true (e.trans hb')⟩
    · simp [tot, List.sum_append]
theorem groups_tot {B : Log} : ∀ (ps : List Pair) (ms : List (Str × List Pair)), (ms.map (·.1)).Nodup → tot (ps.foldl (fun ms q => grpAdd ms (rowAt B q.1).l q) ms) ≤ tot ms + ps.length
  | [], ms, _ => Nat.le_refl _
  | p :: ps, ms, nd => by
    rw [List.foldl_cons, List.length_cons]
    have h := grp_keys (q := p) (l := (rowAt B p.1).l) nd
    have := groups_tot (B := B) ps _ h.1
    omega
theorem nd_inj {α β : Type} {f : α → β} {l : List α} (nd : (l.map f).Nodup) {a b : α} (ha : a ∈ l) (hb : b ∈ l) (e : f a = f b) : a = b := by
  induction l with
  | nil => cases ha
  | cons x l ih =>
    rw [List.map_cons, List.nodup_cons] at nd
    rcases List.mem_cons.mp ha with h1 | h1
    · rcases List.mem_cons.mp hb with h2 | h2
      · rw [h1, h2]
      · exact absurd (List.mem_map.mpr ⟨b, h2, by rw [← e, h1]⟩) nd.1
    · rcases List.mem_cons.mp hb with h2 | h2
      · exact absurd (List.mem_map.mpr ⟨a, h1, by rw [e, h2]⟩) nd.1
      · exact ih nd.2 h1 h2
theorem grp_count {B : Log} : ∀ (ps : List Pair) (ms : List (Str × List Pair)), (ps.foldl (fun ms q => grpAdd ms (rowAt B q.1).l q) ms).length ≤ ms.length + ps.length
  | [], ms => Nat.le_refl _
  | p :: ps, ms => by
    rw [List.foldl_cons, List.length_cons]
    have := grp_count (B := B) ps (grpAdd ms (rowAt B p.1).l p)
    have h : (grpAdd ms (rowAt B p.1).l p).length ≤ ms.length + 1 := by
      unfold grpAdd
      split
      · rw [List.length_map]; omega
      · simp
    omega
theorem mem_tot {ms : List (Str × List Pair)} {m : Str × List Pair} (h : m ∈ ms) : m.2.length ≤ tot ms := by
  induction ms with
  | nil => cases h
  | cons x ms ih =>
    simp only [tot, List.map_cons, List.sum_cons] at ih ⊢
    rcases List.mem_cons.mp h with rfl | h
    · omega
    · have := ih h
      omega
theorem putK_new {gs : List Grp} {l : Str} {q : Pair} {z : Addr} (h : valV (gs.map fun g => ((Sum.inr g.1 : L2.Key), V.ref g.2.1)) (.inr l) = none) : putK (gs.map fun g => ((Sum.inr g.1 : L2.Key), V.ref g.2.1)) (.inr l) (.ref z) = (gs ++ [(l, z, [q])]).map fun g => ((Sum.inr g.1 : L2.Key), V.ref g.2.1) := by
  unfold putK
  rw [valV_any, h, if_neg (by simp), List.map_append]
  rfl
theorem gadd_has {gs : List Grp} {l : Str} {q : Pair} {z : Addr} {g : Grp} (hg : g ∈ gs) (e : g.1 = l) : gadd gs l q z = gs.map (fun m => if m.1 = l then (m.1, m.2.1, m.2.2 ++ [q]) else m) := if_pos (List.any_eq_true.mpr ⟨g, hg, decide_eq_true e⟩)
theorem gadd_no {gs : List Grp} {l : Str} {q : Pair} {z : Addr} (h : (gs.any fun m => decide (m.1 = l)) = false) : gadd gs l q z = gs ++ [(l, z, [q])] := if_neg (by rw [h]; exact Bool.false_ne_true)
theorem map_if {β : Type} {gs : List Grp} {l : Str} {q : Pair} {f : Grp → β} (h : ∀ m : Grp, f (m.1, m.2.1, m.2.2 ++ [q]) = f m) : (gs.map (fun m => if m.1 = l then ((m.1, m.2.1, m.2.2 ++ [q]) : Grp) else m)).map f = gs.map f := by
  rw [List.map_map]
  congr 1
  funext m
  show f (if m.1 = l then ((m.1, m.2.1, m.2.2 ++ [q]) : Grp) else m) = f m
  split
  · exact h m
  · rfl
structure GrpAt (H : Hp) (p : Addr) (gs : List Grp) : Prop where
  at_ : H p = some (.dK (gs.map fun g => ((Sum.inr g.1 : L2.Key), V.ref g.2.1)))
  ls : ∀ g ∈ gs, Pt H (.list (g.2.2.map pairD)) (.ref g.2.1)
  ka : (gs.map (·.1)).Nodup
  ad : (gs.map (·.2.1)).Nodup
theorem GrpAt.keep {H H' : Hp} {p : Addr} {gs : List Grp} (g : GrpAt H p gs) (k : Same H H') : GrpAt H' p gs := ⟨k _ _ g.at_, fun x hx => (g.ls x hx).keep k, g.ka, g.ad⟩
theorem gs_val {gs : List Grp} {l : Str} {v : V} (h : valV (gs.map fun g => ((Sum.inr g.1 : L2.Key), V.ref g.2.1)) (.inr l) = some v) : ∃ g ∈ gs, g.1 = l ∧ v = .ref g.2.1 := by
  induction gs with
  | nil => cases h
  | cons g gs ih =>
    rw [List.map_cons] at h
    by_cases e : g.1 = l
    · rw [valV_pos (by rw [e])] at h
      exact ⟨g, List.mem_cons_self .., e, (Option.some.inj h).symm⟩
    · rw [valV_neg (fun z => e (by injection z))] at h
      obtain ⟨g', h1, h2⟩ := ih h
      exact ⟨g', List.mem_cons_of_mem _ h1, h2⟩
theorem gs_none {gs : List Grp} {l : Str} (h : valV (gs.map fun g => ((Sum.inr g.1 : L2.Key), V.ref g.2.1)) (.inr l) = none) : (gs.any fun m => decide (m.1 = l)) = false := by
  have e := valV_any (Sum.inr l : L2.Key) (gs.map fun g => ((Sum.inr g.1 : L2.Key), V.ref g.2.1))
  rw [h, List.any_map] at e
  rw [← Bool.not_eq_true]
  intro z
  obtain ⟨g, hg, hl⟩ := List.any_eq_true.mp z
  have : (List.any gs ((fun kv : L2.Key × V => decide (kv.1 = Sum.inr l)) ∘ fun g => (Sum.inr g.1, V.ref g.2.1))) = true := List.any_eq_true.mpr ⟨g, hg, by
    show decide ((Sum.inr g.1 : L2.Key) = Sum.inr l) = true
    rw [of_decide_eq_true hl]
    simp⟩
  rw [this] at e
  cases e
/-- q goes to the list that stands -/
theorem GrpAt.more {H : Hp} {p : Addr} {gs : List Grp} {l : Str} {q : Pair} {z : Addr} {g : Grp} {u : V} {xs : List V} (G : GrpAt H p gs) (hg : g ∈ gs) (e : g.1 = l) (hx : H g.2.1 = some (.lst xs)) (pq : Pt H (pairD q) u) : GrpAt (upd H g.2.1 (.lst (xs ++ [u]))) p (gadd gs l q z) := by
  rw [gadd_has hg e]
  have np : p ≠ g.2.1 := fun z => by have := G.at_; rw [z, hx] at this; cases this
  have kt : Tk H (upd H g.2.1 (.lst (xs ++ [u]))) := tk_lst hx
  refine ⟨by rw [upd_ne np, map_if fun m => rfl]; exact G.at_, fun m hm => ?_, by rw [map_if fun m => rfl]; exact G.ka, by rw [map_if fun m => rfl]; exact G.ad⟩
  obtain ⟨m0, hm0, rfl⟩ := List.mem_map.mp hm
  obtain ⟨a, ys, ea, hy, py⟩ := pt_lst.mp (G.ls m0 hm0)
  cases ea
  by_cases h : m0.1 = l
  · have em : m0 = g := nd_inj G.ka hm0 hg (h.trans e.symm)
    subst em
    rw [hx] at hy
    cases hy
    rw [if_pos h]
    refine pt_lst.mpr ⟨_, _, rfl, upd_same, ?_⟩
    rw [List.map_append]
    exact PtA.keepT kt _ _ (noLs_app (noL_pairs _) (noLs_one (noL_pair q))) (py.snoc pq)
  · rw [if_neg h]
    have na : m0.2.1 ≠ g.2.1 := fun z => h (by rw [nd_inj G.ad hm0 hg z]; exact e)
    exact pt_lst.mpr ⟨_, ys, rfl, by rw [upd_ne na]; exact hy, PtA.keepT kt _ _ (noL_pairs _) py⟩
/-- q is the first of its line -/
theorem GrpAt.new {H : Hp} {p : Addr} {gs : List Grp} {l : Str} {q : Pair} {z : Addr} {u : V} (G : GrpAt H p gs) (hn : (gs.any fun m => decide (m.1 = l)) = false) (hz : H z = some (.lst [])) (fz : ∀ g ∈ gs, g.2.1 ≠ z) (pq : Pt H (pairD q) u) (hk : putK (gs.map fun g => ((Sum.inr g.1 : L2.Key), V.ref g.2.1)) (.inr l) (.ref z) = (gs ++ [(l, z, [q])]).map fun g => ((Sum.inr g.1 : L2.Key), V.ref g.2.1)) :
    GrpAt (upd (upd H p (.dK (putK (gs.map fun g => ((Sum.inr g.1 : L2.Key), V.ref g.2.1)) (.inr l) (.ref z)))) z (.lst ([] ++ [u]))) p (gadd gs l q z) := by
  rw [gadd_no hn, hk]
  have np : p ≠ z := fun e => by have := G.at_; rw [e, hz] at this; cases this
  have hz2 : (upd H p (.dK ((gs ++ [(l, z, [q])]).map fun g => ((Sum.inr g.1 : L2.Key), V.ref g.2.1)))) z = some (.lst []) := by rw [upd_ne (Ne.symm np)]; exact hz
  have kt : Tk H (upd (upd H p (.dK ((gs ++ [(l, z, [q])]).map fun g => ((Sum.inr g.1 : L2.Key), V.ref g.2.1)))) z (.lst ([] ++ [u]))) := (tk_mo G.at_ True.intro).trans (tk_lst hz2)
  refine ⟨by rw [upd_ne np, upd_same], fun m hm => ?_, ?_, ?_⟩
  · rcases List.mem_append.mp hm with hm | hm
    · obtain ⟨a, ys, ea, hy, py⟩ := pt_lst.mp (G.ls m hm)
      cases ea
      have n1 := fz m hm
      have n2 : m.2.1 ≠ p := fun e => by have := G.at_; rw [← e, hy] at this; cases this
      exact pt_lst.mpr ⟨_, ys, rfl, by rw [upd_ne n1, upd_ne n2]; exact hy, PtA.keepT kt _ _ (noL_pairs _) py⟩
    · rw [List.mem_singleton.mp hm]
      exact pt_lst.mpr ⟨z, [u], rfl, upd_same, .one (Pt.keepT kt _ _ (noL_pair q) pq)⟩
  · rw [List.map_append, List.nodup_append]
    refine ⟨G.ka, by simp, fun a ha b hb e => ?_⟩
    subst e
    obtain ⟨m, hm, em⟩ := List.mem_map.mp ha
    have hb' : a = l := by simpa using hb
    have : (gs.any fun m => decide (m.1 = l)) = true := List.any_eq_true.mpr ⟨m, hm, decide_eq_true (em.trans hb')⟩
    rw [hn] at this
    cases this
  · rw [List.map_append, List.nodup_append]
    refine ⟨G.ad, by simp, fun a ha b hb e => ?_⟩
    subst e
    obtain ⟨m, hm, em⟩ := List.mem_map.mp ha
    have hb' : a = z := by simpa using hb
    exact fz m hm (em.trans hb')
def spByLines : Sp := fun vs H Q _ => ∃ (B : Log) (ps : List Pair), PtA H [logD B, .list (ps.map pairD)] vs ∧ LogOk B ∧ ps.length ≤ 2000 ∧ (∀ q ∈ ps, 0 ≤ q.1 ∧ q.1 < B.length) ∧
  ∀ p H' gs, H p = none → Same H H' → GrpAt H' p gs → gM gs = groupsM B ps → (∀ g ∈ gs, H g.2.1 = none) → Q (.ref p) H'
section
variable {P : Program} {w : World} {K : PySem.W.Frag} {mg : Str → Option Value} {base : Heap}
theorem sc_by_lines : FnScope ["bridge", "pairs", "found", "pair"] ["bridge", "pairs"] (defScope (top 38)) := ⟨rfl, rfl, rfl, by decide +kernel, rfl, by decide +kernel, by decide +kernel⟩
theorem okF_by_lines (T : Tx K mg w) : ∃ fd, FunD K "by_lines" "by_lines" (defArgs (top 38)) (defBody (top 38)) (defScope (top 38)) [] [] (He.ga K "by_lines") fd ∧ FnOk P w K mg base (L2.CX P w) 1 (He.ga K "by_lines") fd ["bridge", "pairs"] spByLines := by
  obtain ⟨g, fd, F⟩ := T.f_by_lines
  refine ⟨fd, F, F.ok sc_by_lines (fun vs H Q E h => ?_) (fun cdv A outer s H vs Q E hr h => ?_)⟩
  · obtain ⟨B, ps, p, _⟩ := h; exact p.length
  · obtain ⟨B, ps, p, hB, hlen, hps, k⟩ := h
    obtain ⟨v, v1, rfl, p0, p1⟩ := ptA2 p
    have nd := sc_by_lines.nd
    refine ⟨_, pss_cons (ps_set (i := 2) nd rfl (Or.inl rfl) pe_dnewK)
      (pss_cons (ps_for (passes_of rfl) rfl (pi_list (pv 1)) (pg_name (i := 3) nd rfl (.inl rfl))
        (pss_one (ps_expr (pe_bm PySem.F.plainAttrs_list PySem.F.slot_list_append PySem.F.type_list_append mt_append
          (pe_dsetd (pv 2) (pe_ix ix_tup (pe_ix ix_tup (pv 0) (pe_ix ix_tup (pv 3) pe_int (fun _ _ => rfl)) (fun _ _ => rfl)) pe_int (fun _ _ => rfl)) (pe_lst pa_nil) ⟨rfl, rfl, rfl, rfl⟩) (pa_cons (pv 3) pa_nil)))))
      (pss_one (ps_ret (pv 2)))), ?_⟩
    intro f hf
    have k1 : Same H (upd H f (.dK [])) := same_new hf
    have ef : (upd H f (.dK [])) f = some (.dK []) := upd_same
    generalize upd H f (.dK []) = H1 at k1 ef
    obtain ⟨pa, pxs, e1, hpa, hpx⟩ := pt_lst.mp p1
    subst e1
    have pf : pa ≠ f := fun z => by rw [z, hf] at hpa; cases hpa
    have no : NOk (· = f) H1 := fun b hb => ⟨.dK [], by rw [hb]; exact ef, True.intro⟩
    have pin : Pt (but (· = f) H1) (seqD true (ps.map pairD)) (.ref pa) := pt_lst.mpr ⟨pa, pxs, rfl, by rw [but_of (N := (· = f)) pf]; exact k1 _ _ hpa, (PtA.keep k1 _ _ hpx).intoN no (noL_pairs _)⟩
    refine s_for2 (N := (· = f)) ps pairD (ef_at (l := true) (ev_var rfl) pin)
      (fun H2 i σ' H' => ∃ gs x, σ' = [some v, some (.ref pa), some (.ref f), x] ∧ GrpAt H' f gs ∧ gM gs = groupsM B (ps.take i) ∧ (∀ g ∈ gs, H2 g.2.1 = none) ∧ Pt H' (logD B) v)
      (fun H2 s2 => ⟨[], none, rfl, ⟨s2 _ _ ef, fun g hg => (List.not_mem_nil hg).elim, by simp, by simp⟩, rfl, fun g hg => (List.not_mem_nil hg).elim, p0.keep (k1.trans s2)⟩)
      (fun H2 i σ' H' H'' ⟨gs, x, e, g, m, fr, pb⟩ s => ⟨gs, x, e, g.keep s, m, fr, pb.keep s⟩) (fun H2 s2 i hi σ' H' u kp ⟨gs, x, e, g, hm, fr, pb⟩ pu => ?_) (fun H2 s2 σ' H' kp ⟨gs, x, e, g, hm, fr, pb⟩ => ?_)
    · subst e
      have hq := hps _ (List.getElem_mem hi)
      have et : groupsM B (ps.take (i + 1)) = grpAdd (groupsM B (ps.take i)) (rowAt B ps[i].1).l ps[i] := by
        unfold groupsM
        rw [List.take_add_one, List.getElem?_eq_getElem hi, Option.toList_some, List.foldl_append, List.foldl_cons, List.foldl_nil]
      rw [et, ← hm]
      generalize ps[i] = q at pu hq
      refine ⟨.ref f, rfl, f, rfl, .inl ⟨_, .inl g.at_⟩, (ed_op (ed_op (ed_var rfl pb) (ed_op (ed_var rfl pu) ed_int (rd_ixT rfl)) (rd_ixT (atI_log hq.1 hq.2))) ed_int (rd_ixT (d := .str (rowAt B q.1).l) rfl)) H' (Same.refl _) _ fun y H4 s4 py => ?_⟩
      cases pt_str.mp py
      refine (en_lst ea_nil (by show 0 ≤ sizeLine; decide)) H4 (Same.refl _) _ fun z xs H5 hz s5 e5 px => ?_
      cases ptA_nil.mp px
      have s45 := s4.trans s5
      have g5 := g.keep s45
      have pu5 := pu.keep s45
      have pb5 := pb.keep s45
      have hgc : gs.length ≤ 2000 := by
        have h1 := grp_count (B := B) (ps.take i) []
        have h2 := congrArg List.length hm
        unfold groupsM at h2
        rw [List.length_map] at h2
        rw [List.length_take] at h1
        simp only [List.length_nil] at h1
        omega
      have hgt : tot (gM gs) ≤ 2000 := by
        have h1 := groups_tot (B := B) (ps.take i) [] (by simp)
        rw [hm]
        rw [List.length_take] at h1
        simp only [tot, List.map_nil, List.sum_nil] at h1
        unfold groupsM tot
        omega
      have hgl : (gs.map fun g => ((Sum.inr g.1 : L2.Key), V.ref g.2.1)).length < sizeLine := by
        rw [List.length_map]
        exact sizes1 (by omega)
      refine ⟨_, .inr (rowAt B q.1).l, g5.at_, rfl, hgl, fun v0 hv0 => ?_, fun hn0 => ?_⟩
      · obtain ⟨g0, hg0, el, rfl⟩ := gs_val hv0
        obtain ⟨a, ys, ea, hy, py0⟩ := pt_lst.mp (g5.ls g0 hg0)
        cases ea
        refine ⟨.inl ⟨rfl, _, SqL.of hy⟩, u, rfl, g0.2.1, ys, u, rfl, rfl, hy, ?_, ?_, gadd gs (rowAt B q.1).l q z, _, rfl, g5.more hg0 el hy pu5, gM_add .., ?_, ?_⟩
        · have h1 := py0.length
          rw [List.length_map] at h1
          have h2 : g0.2.2.length ≤ tot (gM gs) := mem_tot (m := (g0.1, g0.2.2)) (List.mem_map.mpr ⟨g0, hg0, rfl⟩)
          exact sizes1 (by omega)
        · exact (kp.trans s45.kp).mut0 (fr g0 hg0) hy True.intro
        · intro m hm'
          rw [gadd_has hg0 el] at hm'
          obtain ⟨m0, h0, rfl⟩ := List.mem_map.mp hm'
          have : (if m0.1 = (rowAt B q.1).l then ((m0.1, m0.2.1, m0.2.2 ++ [q]) : Grp) else m0).2.1 = m0.2.1 := by split <;> rfl
          rw [this]
          exact fr m0 h0
        · exact Pt.keepT (tk_lst hy) _ _ (by show noL (.tuple _) = true; simp only [noL]; exact hB.noL) pb5
      · have hzf : z ≠ f := fun e => by rw [e, s4 _ _ g.at_] at hz; cases hz
        have fz : ∀ g ∈ gs, g.2.1 ≠ z := fun m hm' e => by
          obtain ⟨a, ys, ea, hy, _⟩ := pt_lst.mp (g.ls m hm')
          cases ea
          rw [e] at hy
          rw [s4 _ _ hy] at hz
          cases hz
        have hz2 : H2 z = none := kp.nn z (s4.nn z hz)
        have G := g5.new (q := q) (gs_none hn0) e5 fz pu5 (putK_new hn0)
        have hzz : (upd H5 f (.dK (putK (gs.map fun g => ((Sum.inr g.1 : L2.Key), V.ref g.2.1)) (.inr (rowAt B q.1).l) (.ref z)))) z = some (.lst []) := by rw [upd_ne hzf]; exact e5
        have pu6 : Pt (upd H5 f (.dK (putK (gs.map fun g => ((Sum.inr g.1 : L2.Key), V.ref g.2.1)) (.inr (rowAt B q.1).l) (.ref z)))) (logD B) v := Pt.keepT (tk_mo g5.at_ True.intro) _ _ (by show noL (.tuple _) = true; simp only [noL]; exact hB.noL) pb5
        refine ⟨.inl ⟨rfl, _, SqL.of hzz⟩, u, rfl, z, [], u, rfl, rfl, hzz, by show 0 < sizeLine; decide, ?_, gadd gs (rowAt B q.1).l q z, _, rfl, G, gM_add .., ?_, ?_⟩
        · exact ((kp.trans s45.kp).mut rfl g5.at_ True.intro).mut0 hz2 hzz True.intro
        · intro m hm'
          rw [gadd_no (gs_none hn0)] at hm'
          rcases List.mem_append.mp hm' with h | h
          · exact fr m h
          · rw [List.mem_singleton.mp h]
            exact hz2
        · exact Pt.keepT (tk_lst hzz) _ _ (by show noL (.tuple _) = true; simp only [noL]; exact hB.noL) pu6
    · subst e
      rw [List.take_length] at hm
      refine ⟨_, rfl, k f H' gs hf ?_ g hm fun x hx => (k1.trans s2).free (fr x hx)⟩
      exact ((k1.trans s2).kp.trans kp).same fun a ha => by rw [ha]; exact hf
theorem ok_by_lines (T : Tx K mg w) : Cal P w K mg base 1 "by_lines" ["bridge", "pairs"] spByLines := by
  obtain ⟨fd, F, G⟩ := okF_by_lines (P := P) (base := base) T
  exact ⟨(T.f_by_lines).1, ⟨fd, G, F.bindsN fun _ _ _ _ _ _ us hl => match us, hl with | [_, _], _ => rfl⟩, F.kp⟩
end
end Ro
namespace Ro
open PySem PySem.Spec PyProof.Rows L2 PySem.W
variable [TabsC]
/-! ### greatest, joining: the mirror -/
def flatM (B : Log) (ps : List Pair) : List Pair := ((groupsM B ps).map fun m => longestM m.2).flatten
def greatestM (B : Log) (ps : List Pair) : List Pair := (flatM B ps).mergeSort (dataLe false pairD)
theorem greatest_mem {B : Log} {ps : List Pair} {q : Pair} (h : q ∈ greatestM B ps) : q ∈ ps := by
  have h1 := List.mem_mergeSort.mp h
  obtain ⟨l, hl, hq⟩ := List.mem_flatten.mp h1
  obtain ⟨m, hm, rfl⟩ := List.mem_map.mp hl
  rcases groups_mem ps [] m hm q (longest_sub hq) with h | ⟨_, h, _⟩
  · exact h
  · cases h
theorem flat_sum : ∀ ms : List (Str × List Pair), ((ms.map fun m => longestM m.2).map List.length).sum ≤ tot ms
  | [] => Nat.le_refl _
  | m :: ms => by
    have h := flat_sum ms
    have h2 := longest_len m.2
    simp only [List.map_cons, List.sum_cons, tot] at h ⊢
    omega
theorem groups_tot0 (B : Log) (ps : List Pair) : tot (groupsM B ps) ≤ ps.length := by
  have := groups_tot (B := B) ps [] (by simp)
  simp only [tot, List.map_nil, List.sum_nil] at this
  unfold groupsM tot
  omega
theorem greatest_len (B : Log) (ps : List Pair) : (greatestM B ps).length ≤ ps.length := by
  rw [greatestM, List.length_mergeSort, flatM, List.length_flatten]
  exact Nat.le_trans (flat_sum _) (groups_tot0 B ps)
/-- the lists that are made, one a group -/
def RowsAt (H : Hp) (D : Addr) (gs : List Grp) (rows : List (Addr × List V)) : Prop := Paired (fun g r => H r.1 = some (.lst r.2) ∧ PtA H ((longestM g.2.2).map pairD) r.2 ∧ r.1 ≠ D) gs rows
theorem RowsAt.mono {H H' : Hp} {D : Addr} {gs : List Grp} {rows : List (Addr × List V)} (h : RowsAt H D gs rows) (k : ∀ a xs, H a = some (.lst xs) → a ≠ D → H' a = some (.lst xs)) (t : Tk H H') : RowsAt H' D gs rows := by
  unfold RowsAt at h ⊢
  induction h with
  | nil => exact .nil
  | cons a b ih => exact .cons ⟨k _ _ a.1 a.2.2, PtA.keepT t _ _ (noL_pairs _) a.2.1, a.2.2⟩ ih
theorem RowsAt.flat {H : Hp} {D : Addr} {gs : List Grp} {rows : List (Addr × List V)} (h : RowsAt H D gs rows) : PtA H (((gs.map fun g => longestM g.2.2).flatten).map pairD) (rows.map Prod.snd).flatten ∧ (∀ r ∈ rows, H r.1 = some (.lst r.2)) ∧ (rows.map fun r => r.2.length).sum = ((gs.map fun g => longestM g.2.2).map List.length).sum := by
  unfold RowsAt at h
  induction h with
  | nil => exact ⟨.nil, fun r h => (List.not_mem_nil h).elim, rfl⟩
  | cons a b ih =>
    refine ⟨?_, fun r hr => ?_, ?_⟩
    · simp only [List.map_cons, List.flatten_cons, List.map_append]
      exact a.2.1.append ih.1
    · rcases List.mem_cons.mp hr with e | hr
      · rw [e]; exact a.1
      · exact ih.2.1 r hr
    · simp only [List.map_cons, List.sum_cons]
      rw [ih.2.2]
      have := a.2.1.length
      rw [List.length_map] at this
      omega
def spGreatest (K : PySem.W.Frag) : Sp := fun vs H Q _ => ∃ (B : Log) (dr d e : PyData) (ps : List Pair), PtA H [logD B, dr, .list (ps.map pairD), d, e] vs ∧ LogOk B ∧ ps.length ≤ 2000 ∧ (∀ q ∈ ps, 0 ≤ q.1 ∧ q.1 < B.length) ∧ Tb H (tabA K "ranks") ∧
  ∀ p xs H', H p = none → Same H H' → H' p = some (.lst xs) → PtA H' ((greatestM B ps).map pairD) xs → Q (.ref p) H'
section
variable {P : Program} {w : World} {K : PySem.W.Frag} {mg : Str → Option Value} {base : Heap}
theorem sc_greatest : FnScope ["bridge", "room", "pairs", "d", "lag", "some"] ["bridge", "room", "pairs", "d", "lag"] (defScope (top 43)) := ⟨rfl, rfl, rfl, by decide +kernel, rfl, by decide +kernel, by decide +kernel⟩
theorem okF_greatest (T : Ty K mg w base) : ∃ fd, FunD K "greatest" "greatest" (defArgs (top 43)) (defBody (top 43)) (defScope (top 43)) [.int 0, .int 0] [] (He.ga K "greatest") fd ∧ FnOk P w K mg base (L2.CX P w) 7 (He.ga K "greatest") fd ["bridge", "room", "pairs", "d", "lag"] (spGreatest K) := by
  have C1 : Cal P w K mg base 1 "by_lines" ["bridge", "pairs"] spByLines := ok_by_lines T.toTx
  have C2 : Cal P w K mg base 6 "longest" ["pairs"] (spLongest K) := ok_longest T
  obtain ⟨g, fd, F⟩ := T.f_greatest
  refine ⟨fd, F, F.ok sc_greatest (fun vs H Q E h => ?_) (fun cdv A outer s H vs Q E hr h => ?_)⟩
  · obtain ⟨B, dr, d, e, ps, p, _⟩ := h; exact p.length
  · obtain ⟨B, dr, d, e, ps, p, hB, hlen, hps, tb, k⟩ := h
    obtain ⟨v, v1, v2, v3, v4, rfl, p0, p1, p2, p3, p4⟩ := ptA5 p
    have nd := sc_greatest.nd
    have hu := hr.units
    refine ⟨_, pss_one (ps_ret (pe_callB (cr_sortD hu) rfl T.n_sorted (by decide +kernel) (pa_cons (pe_callBK (cr_sumL rfl) rfl T.n_sum (by decide +kernel) (pa_cons
       (pe_lc (own := [("some", 5)]) (g := gName 5) (tt := tYes) rfl nd (pi_values (pe_lk (pe_cal C1 (hr.mono (by decide)) (pa_cons (pv 0) (pa_cons (pv 2) pa_nil))))) (blkOk_by (N := ["bridge", "room", "pairs", "d", "lag", "some"]) (sc := defScope (top 43)) (by decide +kernel))
          (fun _ _ _ _ _ => pg_name (i := 5) nd rfl (.inl rfl)) (fun _ _ _ _ _ => pts_nil) (fun _ _ _ _ _ => pe_cal C2 hr (pa_cons (pv 5) pa_nil))) pa_nil) (pk_cons (pe_lst pa_nil) pk_nil)) pa_nil))), ?_⟩
    refine s_retN (en_sortD (l := flatM B ps) (enc := pairD) ?_ (alike_pairs (fun p => ⟨_, _, rfl⟩) _) (sortable_pairs (fun p => ⟨_, _, rfl⟩) _) (fun x _ => depth_ii _ _)) k
    intro H1 a Q1 q1
    refine run_ckw1 (run_lc (run_vals (run_lk (run_call (ea_cons (ed_var rfl (p0.keep a)) (ea_one (ed_var rfl (p2.keep a)))) fun vs H2 s2 pvs => ?_))))
    refine ⟨B, ps, pvs, hB, hlen, hps, fun f H3 gs hf s3 G hm fr => ⟨f, _, rfl, G.at_, True.intro, fun od => ⟨f, od, _, rfl, upd_same, fun D hD => ?_⟩⟩⟩
    have hH3 := G.at_
    have nf : ∀ b o, H3 b = some o → b ≠ f → upd H3 f (.frz od (.dK (gs.map fun g => ((Sum.inr g.1 : L2.Key), V.ref g.2.1)))) b = some o := fun b o e n => by rw [upd_ne n]; exact e
    have sf : Same H2 (upd H3 f (.frz od (.dK (gs.map fun g => ((Sum.inr g.1 : L2.Key), V.ref g.2.1))))) := s3.mut hf G.at_ True.intro
    have hff : upd H3 f (.frz od (.dK (gs.map fun g => ((Sum.inr g.1 : L2.Key), V.ref g.2.1)))) f = some (.frz od (.dK (gs.map fun g => ((Sum.inr g.1 : L2.Key), V.ref g.2.1)))) := upd_same
    generalize upd H3 f (.frz od (.dK (gs.map fun g => ((Sum.inr g.1 : L2.Key), V.ref g.2.1)))) = Hf at hD nf sf hff
    have hl : ∀ g ∈ gs, Pt Hf (.list (g.2.2.map pairD)) (.ref g.2.1) := fun g hg => by
      obtain ⟨b, xs, e, hb, px⟩ := pt_lst.mp (G.ls g hg)
      cases e
      have n : g.2.1 ≠ f := fun z => by rw [z, hH3] at hb; cases hb
      exact pt_lst.mpr ⟨_, xs, rfl, nf _ _ hb n, PtA.keepT (fun c ys e => nf c _ e fun z => by rw [z, hH3] at e; cases e) _ _ (noL_pairs _) px⟩
    have tbf : Tb Hf (tabA K "ranks") := (a.trans (s2.trans sf)).tb _ tb
    have htot : tot (gM gs) ≤ 2000 := by rw [hm]; exact Nat.le_trans (groups_tot0 B ps) hlen
    refine lc_it walk_values (fun i H' => ∃ rows : List (Addr × List V), Same Hf H' ∧ H' D = some (.lst (rows.map fun r => .ref r.1)) ∧ RowsAt H' D (gs.take i) rows) ⟨[], same_new hD, upd_same, .nil⟩ (fun i H' _ ⟨rows, s, _⟩ => s.ob _ _ hff fun ps z => by cases z) (fun i x H' H'' hi ⟨rows, s, hx, hr⟩ ⟨eh, kk, he⟩ => ?_) (fun H' ⟨rows, s, hx, hr⟩ => ?_)
    · subst eh
      rw [List.length_map] at hi
      rw [List.getElem?_map, List.getElem?_eq_getElem hi, Option.map_some, Option.some.injEq, Prod.mk.injEq] at he
      obtain ⟨_, ex⟩ := he
      subst ex
      have hmem := List.getElem_mem hi
      have hg := (hl _ hmem).keep s
      have hgl : gs[i].2.2.length ≤ 2000 := Nat.le_trans (mem_tot (m := (gs[i].1, gs[i].2.2)) (List.mem_map.mpr ⟨gs[i], hmem, rfl⟩)) htot
      have et : gs.take (i + 1) = gs.take i ++ [gs[i]] := by rw [List.take_add_one, List.getElem?_eq_getElem hi]; rfl
      rw [et]
      generalize gs[i] = g at hg hgl
      refine ⟨rfl, ?_⟩
      simp only [tYes, if_true]
      refine run_call (ea_one (ed_var rfl hg)) fun vs5 H5 s5 pv5 => ⟨g.2.2, pv5, hgl, s5.tb _ (s.tb _ tbf), fun p' xs' H6 hp' s6 e6 px6 => ?_⟩
      have s56 := s5.trans s6
      have h6 := s56 _ _ hx
      have npD : p' ≠ D := fun z => by rw [z, s5 _ _ hx] at hp'; cases hp'
      refine ⟨_, h6, ?_, rows ++ [(p', xs')], ?_, ?_, ?_⟩
      · have h1 : rows.length = (gs.take i).length := (Paired.length hr).symm
        rw [List.length_map, h1, List.length_take]
        have h2 := grp_count (B := B) ps []
        have h3 := congrArg List.length hm
        unfold groupsM at h3
        rw [List.length_map] at h3
        simp only [List.length_nil] at h2
        exact sizes1 (by omega)
      · exact (s.trans s56).mut hD h6 True.intro
      · rw [upd_same, List.map_append]; rfl
      · refine Paired.snoc ((hr.mono (fun b xs e n => s56 _ _ e) s56.tk).mono (fun b xs e n => by rw [upd_ne n]; exact e) (tk_lst h6)) ⟨by rw [upd_ne npD]; exact e6, PtA.keepT (tk_lst h6) _ _ (noL_pairs _) px6, npD⟩
    · rw [List.length_map, List.take_length] at hr
      have fl := hr.flat
      have efl : (gs.map fun g => longestM g.2.2).flatten = flatM B ps := by
        rw [flatM, ← hm, List.map_map]
        rfl
      rw [efl] at fl
      refine run_cons1 ((en_lst ea_nil (by show 0 ≤ sizeLine; decide)) H' (Same.refl _) _ fun z xs H5 hz s5 e5 px => ?_)
      cases ptA_nil.mp px
      have sq : Same H1 H5 := s2.trans (sf.trans (s.trans s5))
      refine ⟨D, z, rows, rfl, rfl, s5 _ _ hx, e5, fun r hr' => s5 _ _ (fl.2.1 r hr'), ?_, fun en => ?_, fun p hp => ?_⟩
      · rw [fl.2.2]
        have h1 := flat_sum (gM gs)
        have eq1 : (gM gs).map (fun m => longestM m.2) = gs.map fun g => longestM g.2.2 := by rw [List.map_map]; rfl
        rw [eq1] at h1
        omega
      · have e0 : flatM B ps = [] := by
          have h1 := fl.1.length
          rw [en, List.length_map] at h1
          exact List.eq_nil_of_length_eq_zero h1.symm
        rw [e0] at q1
        exact q1 _ H5 sq (pt_lst.mpr ⟨z, [], rfl, e5, .nil⟩)
      · exact q1 _ _ (sq.trans (same_new hp)) (pt_lst.mpr ⟨p, _, rfl, upd_same, PtA.keep (s5.trans (same_new hp)) _ _ fl.1⟩)
theorem ok_greatest (T : Ty K mg w base) : Cal P w K mg base 7 "greatest" ["bridge", "room", "pairs", "d", "lag"] (spGreatest K) := by
  obtain ⟨fd, F, G⟩ := okF_greatest (P := P) (base := base) T
  exact ⟨(T.f_greatest).1, ⟨fd, G, bindsF F (by decide) fun _ _ _ _ _ _ _ us its hl hi => match us, hl, its, hi with | [_, _, _, _, _], _, [_, _], _ => ⟨_, rfl, rfl⟩⟩, F.kp⟩
theorem okd_greatest (T : Ty K mg w base) : CalD P w K mg base 7 "greatest" ["bridge", "room", "pairs", "d", "lag"] [.int 0, .int 0] (spGreatest K) := by
  obtain ⟨fd, F, G⟩ := okF_greatest (P := P) (base := base) T
  obtain ⟨ds, v, b⟩ := F.binds1 (ps := ["bridge", "room", "pairs", "d", "lag"]) 3 0 (by decide) (by decide) fun _ _ _ _ _ _ _ us its hl hi => match us, hl, its, hi with | [_, _, _], _, [_, _], _ => ⟨_, rfl, rfl⟩
  exact ⟨(T.f_greatest).1, ⟨fd, ds, G, v, b⟩, F.kp⟩
end
end Ro
namespace Ro
open PySem PySem.Spec PyProof.Rows L2 PySem.W
variable [TabsC]
/-! ### data away from N -/
def EvDN (N : Addr → Prop) (te : TE) (σ : L2.St) (H : Hp) (d : PyData) : Prop := ∀ H1, Same H H1 → ∀ Q : VK, (∀ v H2, Same H1 H2 → Pt (but N H2) d v → Q v H2) → te σ H1 Q
def EvAN (N : Addr → Prop) (ta : TA) (σ : L2.St) (H : Hp) (ds : List PyData) : Prop := ∀ H1, Same H H1 → ∀ Q : List V → Hp → Prop, (∀ vs H2, Same H1 H2 → PtA (but N H2) ds vs → Q vs H2) → ta σ H1 Q
section
variable {K : PySem.W.Frag} {N M : Addr → Prop} {σ : L2.St} {H H' : Hp} {a b p : Addr} {d e : PyData} {ds es : List PyData} {te tf : TE} {ta : TA} {D : Ends} {tz : TS} {i j : Int} {v : V}
theorem Kp.mono (h : Kp N H H') (hm : ∀ a, N a → M a) : Kp M H H' := ⟨fun a o e t n => h.ob a o e t fun z => n (hm a z), h.tb, h.nn⟩
theorem but_sub {H : Hp} (hm : ∀ a, M a → N a) : LamX.ExtN (but N H) (but M H) := fun a o e _ => by
  have h := but_at e
  have n : ¬ N a := fun z => by rw [but_in z] at e; cases e
  rw [but_of fun z => n (hm a z)]
  exact h
theorem edN_of (n : NOk N H) (h : EvD te σ H d) (hl : noL d = true) : EvDN N te σ H d := fun H1 s Q q => h H1 s Q fun v H2 k p => q v H2 k (p.intoN (n.keep (s.trans k)) hl)
theorem edN_var {n : Nat} (h : σ[n]? = some (some v)) (p : Pt (but N H) d v) : EvDN N (tVar n) σ H d := fun H1 a _ q => ⟨v, h, q v H1 (Same.refl H1) (p.kp a.kp)⟩
theorem eaN_nil : EvAN N tNil σ H [] := fun H1 _ _ q => q [] H1 (Same.refl H1) .nil
theorem eaN_cons {tr : TA} (h : EvDN N te σ H d) (hr : EvAN N tr σ H ds) : EvAN N (tCons te tr) σ H (d :: ds) := fun H1 a Q q =>
  h H1 a _ fun v H2 k p => hr H2 (a.trans k) _ fun vs H3 k3 p3 => q _ H3 (k.trans k3) (.cons (p.kp k3.kp) p3)
theorem edN_tup (n : NOk N H) (h : EvAN N ta σ H ds) (hl : ds.length ≤ sizeLine) : EvDN N (tTup ta) σ H (.tuple ds) := fun H1 a Q q =>
  h H1 a _ fun vs H2 k p => ⟨by rw [p.length]; exact hl, fun x hx => q _ _ (k.trans (same_new hx)) (by
    have nx : ¬ N x := (n.keep (a.trans k)).free hx
    exact pt_tup.mpr ⟨x, vs, rfl, by rw [but_of nx]; exact upd_same, p.kp (same_new hx).kp⟩)⟩
theorem EvDN.ed (h : EvDN N te σ H d) : EvD te σ H d := fun H1 s Q q => h H1 s Q fun v H2 k p => q v H2 k p.outN
/-! range -/
theorem wk_rng {lo : Int} {n : Nat} {G : Hp → Prop} : WkD (Itr lo n) ((List.range n).map fun k => .int (lo + (k : Nat))) G := by
  have w : Walk (Itr lo n) ((List.range n).map fun k => PyData.int (lo + (k : Nat))).length (fun _ => True) (YFn fun i => .int (lo + i)) := by
    rw [List.length_map, List.length_range]
    exact walk_range
  refine w.mono (fun H s => True.intro) fun i H1 x H' hi s y => ?_
  obtain ⟨rfl, rfl⟩ := y
  rw [List.length_map, List.length_range] at hi
  exact ⟨Same.refl _, .int (lo + i), by rw [List.getElem?_map, List.getElem?_range hi]; rfl, pt_int.mpr rfl⟩
theorem ef_rng2 (h1 : EvD te σ H (.int i)) (h2 : EvD tf σ H (.int j)) (hi : -(2 ^ 62) ≤ i ∧ i < 2 ^ 62 ∧ -(2 ^ 62) ≤ j ∧ j < 2 ^ 62) : EvF N (iRng2 (tCons te (tCons tf tNil))) σ H ((List.range (j - i).toNat).map fun k => .int (i + (k : Nat))) := fun H1 s R q =>
  h1 H1 s _ fun x H2 k p => h2 H2 (s.trans k) _ fun y H3 k3 p3 => by
    cases pt_int.mp p
    cases pt_int.mp p3
    exact ⟨i, j, rfl, hi, q _ H3 (k.trans k3) wk_rng⟩
theorem ef_rng1 (h : EvD te σ H (.int j)) (h0 : -(2 ^ 62) ≤ j) (h1 : j < 2 ^ 62) : EvF N (iRng1 (tCons te tNil)) σ H ((List.range j.toNat).map fun k => .int (0 + (k : Nat))) := fun H1 s R q =>
  h H1 s _ fun x H2 k p => by
    cases pt_int.mp p
    exact ⟨j, rfl, h0, h1, q _ H2 k wk_rng⟩
theorem EvF.eiN (h : EvF N0 wi σ H ds) : EvI wi σ H ds := h.ei
/-! lists away from N, that change -/
structure LsA (N : Addr → Prop) (H : Hp) (p : Addr) (ds : List PyData) : Prop where
  ex : ∃ xs, H p = some (.lst xs) ∧ PtA (but N H) ds xs
theorem LsA.keep (h : LsA N H p ds) (k : Same H H') : LsA N H' p ds := let ⟨xs, e, px⟩ := h.ex; ⟨xs, k _ _ e, px.kp k.kp⟩
theorem LsA.pt (h : LsA N H p ds) : Pt H (.list ds) (.ref p) := let ⟨xs, e, px⟩ := h.ex; pt_lst.mpr ⟨p, xs, rfl, e, px.outN⟩
theorem Pt.intoL (n : NOk N H) (na : ¬ N a) (h : Pt H (.list ds) (.ref a)) (hl : noLs ds = true) : Pt (but N H) (.list ds) (.ref a) := by
  obtain ⟨b, xs, e, hb, px⟩ := pt_lst.mp h
  cases e
  exact pt_lst.mpr ⟨a, xs, rfl, by rw [but_of na]; exact hb, px.intoN n hl⟩
theorem s_appendN {n : Nat} (hv : σ[n]? = some (some (.ref p))) (hp : LsA N H p ds) (np : N p) (hz : ds.length < 1000000) (h : EvDN N te σ H d)
    (k : ∀ H1, Kp (· = p) H H1 → LsA N H1 p (ds ++ [d]) → D.nx σ H1) : tDrop (tBM K "list" rAppend (tVar n) (tCons te tNil)) D σ H := by
  obtain ⟨xs, ha, hx⟩ := hp.ex
  refine ⟨_, hv, .inl ⟨rfl, xs, SqL.of ha⟩, h H (Same.refl H) _ fun v H1 k1 pv => ?_⟩
  have ha1 := k1 _ _ ha
  have km := (Kp.refl (N := N) (H := H1)).mut (o := .lst (xs ++ [v])) np ha1 True.intro
  refine ⟨p, xs, v, rfl, rfl, ha1, by rw [hx.length]; exact sizes1 hz, k _ (k1.kp.mut rfl ha1 True.intro) ⟨_, upd_same, ?_⟩⟩
  exact ((hx.kp k1.kp).snoc pv).kp km
/-- p[i] = e -/
theorem s_setIx {ti : TE} {n : Nat} {m : Nat} (hv : σ[n]? = some (some (.ref p))) (hp : LsA N H p ds) (np : N p) (h : EvDN N te σ H d) (hi : EvD ti σ H (.int i)) (hm : L2.ixN ds.length i = some m)
    (k : ∀ H1, Kp (· = p) H H1 → LsA N H1 p (ds.set m d) → D.nx σ H1) : tAsg te (gSub (tVar n) ti rSetL) D σ H := by
  obtain ⟨xs, ha, hx⟩ := hp.ex
  refine h H (Same.refl H) _ fun v H1 k1 pv => ⟨_, hv, hi H1 k1 _ fun y H2 k2 py => ?_⟩
  cases pt_int.mp py
  have ha2 := (k1.trans k2) _ _ ha
  have km := (Kp.refl (N := N) (H := H2)).mut (o := .lst (xs.set m v)) np ha2 True.intro
  refine ⟨p, xs, i, m, rfl, rfl, ha2, by rw [hx.length]; exact hm, k _ ((k1.trans k2).kp.mut rfl ha2 True.intro) ⟨_, upd_same, ?_⟩⟩
  exact ((hx.kp (k1.trans k2).kp).set m (pv.kp k2.kp)).kp km
end
end Ro
namespace Ro
open PySem PySem.Spec PyProof.Rows L2 PySem.W
variable [TabsC]
theorem pw_mem {B R : Log} {lag low high : Int} (hB : LogOk B) (hR : LogOk R) {q : Pair} (h : q ∈ pairsWithin B R lag low high) : IsP B R q := by
  obtain ⟨z, hz, hq⟩ := List.mem_flatMap.mp h
  have hz2 : B[z.2]? = some z.1 := List.mem_zipIdx_iff_getElem?.mp hz
  exact isP_of hB hR hz2 (List.mem_filter.mp hq).1
theorem pw_len {B R : Log} {lag low high : Int} (hB : LogOk B) (hR : LogOk R) : (pairsWithin B R lag low high).length ≤ 1600 := by
  have h := pwTo_len (B := B) (R := R) (lag := lag) (low := low) (high := high) B.length
  rw [pwTo_all] at h
  have : B.length * R.length ≤ 40 * 40 := Nat.mul_le_mul hB.len hR.len
  omega
def joiningM (B R : Log) (d lag : Int) : List Pair := greatestM B (pairsWithin B R lag d d)
theorem joining_mem {B R : Log} {d lag : Int} (hB : LogOk B) (hR : LogOk R) {q : Pair} (h : q ∈ joiningM B R d lag) : IsP B R q := pw_mem hB hR (greatest_mem h)
theorem joining_len {B R : Log} {d lag : Int} (hB : LogOk B) (hR : LogOk R) : (joiningM B R d lag).length ≤ 1600 := Nat.le_trans (greatest_len _ _) (pw_len hB hR)
def spJoining (K : PySem.W.Frag) : Sp := fun vs H Q _ => ∃ (B R : Log) (d lag : Int), PtA H [logD B, logD R, .int d, .int lag] vs ∧ LogOk B ∧ LogOk R ∧ Tb H (tabA K "ranks") ∧
  ∀ p xs H', H p = none → Same H H' → H' p = some (.lst xs) → PtA H' ((joiningM B R d lag).map pairD) xs → Q (.ref p) H'
/-! ### changes: the mirror -/
abbrev Ch := Int × Int × List Pair
def chD (c : Ch) : PyData := .tuple [.int c.1, .int c.2.1, .list (c.2.2.map pairD)]
def hereM (B R : Log) (lag low high d : Int) : List Pair := (pairsWithin B R lag low high).filter fun p => fitsM (spanM B R p lag) d
def chStep (st : List Ch) (d : Int) (here : List Pair) : List Ch := match st.getLast? with
  | none => st ++ [(d, d, here)]
  | some z => if PyData.eqv (.list (z.2.2.map pairD)) (.list (here.map pairD)) = true then st.set (st.length - 1) (z.1, d, here) else st ++ [(d, d, here)]
def changesTo (B R : Log) (lag low high : Int) (n : Nat) : List Ch := (List.range n).foldl (fun st k => chStep st (low + (k : Nat)) (hereM B R lag low high (low + (k : Nat)))) []
def changesM (B R : Log) (lag low high : Int) : List Ch := changesTo B R lag low high (high + 1 - low).toNat
def spChanges : Sp := fun vs H Q _ => ∃ (N : Addr → Prop) (B R : Log) (lag low high : Int), NOk N H ∧ PtA H [logD B, logD R, .int lag, .int low, .int high] vs ∧ LogOk B ∧ LogOk R ∧ (-100000 ≤ low ∧ low ≤ 100000 ∧ -100000 ≤ high ∧ high ≤ 100000) ∧
  ∀ p xs H', H p = none → Same H H' → H' p = some (.lst xs) → PtA (but N H') ((changesM B R lag low high).map chD) xs → Q (.ref p) H'
theorem chStep_len (st : List Ch) (d : Int) (h : List Pair) : (chStep st d h).length ≤ st.length + 1 := by
  unfold chStep
  split
  · simp
  · split
    · rw [List.length_set]; omega
    · simp
theorem changesTo_succ {B R : Log} {lag low high : Int} {n : Nat} : changesTo B R lag low high (n + 1) = chStep (changesTo B R lag low high n) (low + (n : Nat)) (hereM B R lag low high (low + (n : Nat))) := by
  unfold changesTo
  rw [List.range_succ, List.foldl_append]
  rfl
theorem changesTo_len {B R : Log} {lag low high : Int} : ∀ n, (changesTo B R lag low high n).length ≤ n
  | 0 => Nat.le_refl _
  | n + 1 => by
    rw [changesTo_succ]
    have := chStep_len (changesTo B R lag low high n) (low + (n : Nat)) (hereM B R lag low high (low + (n : Nat)))
    have := changesTo_len (B := B) (R := R) (lag := lag) (low := low) (high := high) n
    omega
theorem ch_depth (l : List Ch) : PyData.depthAll (l.map chD) ≤ 3 := by
  induction l with
  | nil => simp [PyData.depthAll]
  | cons c l ih =>
    have := depth_pairs c.2.2
    simp only [List.map_cons, PyData.depthAll, chD, PyData.depth]
    omega
theorem ch_ne (l : List Ch) : (!PyData.eqv (.list (l.map chD)) (.list [])) = !l.isEmpty := by
  cases l <;> simp [PyData.eqv, PyData.eqvAll]
theorem zipD_self {α : Type} (f g : α → PyData) : ∀ l : List α, zipD (l.map f) (l.map g) = l.map fun q => .tuple [f q, g q]
  | [] => rfl
  | x :: l => by
    have h := zipD_self f g l
    unfold zipD at h ⊢
    simp only [List.map_cons, List.zipWith_cons_cons, h]
theorem nok_kp {M : Addr → Prop} {H H' : Hp} {F : Addr} {ds : List PyData} (n : NOk M H) (k : Kp (· = F) H H') (h : LsA M H' F ds) : NOk M H' := fun a ha => by
  by_cases e : a = F
  · obtain ⟨xs, hx, _⟩ := h.ex
    exact ⟨.lst xs, by rw [e]; exact hx, True.intro⟩
  · obtain ⟨o, ho, m⟩ := n a ha
    exact ⟨o, k.ob _ _ ho m.ntb e, m⟩
theorem ixN_last {n : Nat} (h : 0 < n) : L2.ixN n (-1) = some (n - 1) := by
  unfold L2.ixN
  rw [if_neg (by decide), if_pos (by omega)]
  congr 1
  omega
section
variable {P : Program} {w : World} {K : PySem.W.Frag} {mg : Str → Option Value} {base : Heap}
theorem sc_joining : FnScope ["bridge", "room", "d", "lag"] ["bridge", "room", "d", "lag"] (defScope (top 45)) := ⟨rfl, rfl, rfl, by decide +kernel, rfl, by decide +kernel, by decide +kernel⟩
theorem okF_joining (T : Ty K mg w base) : ∃ fd, FunD K "joining" "joining" (defArgs (top 45)) (defBody (top 45)) (defScope (top 45)) [.int 0, .int 0] [] (He.ga K "joining") fd ∧ FnOk P w K mg base (L2.CX P w) 8 (He.ga K "joining") fd ["bridge", "room", "d", "lag"] (spJoining K) := by
  have C1 : Cal P w K mg base 7 "pairs_at" ["bridge", "room", "d", "lag"] spPairsAt := ok_pairs_at T.toTx
  have C2 : Cal P w K mg base 7 "greatest" ["bridge", "room", "pairs", "d", "lag"] (spGreatest K) := ok_greatest T
  obtain ⟨g, fd, F⟩ := T.f_joining
  refine ⟨fd, F, F.ok sc_joining (fun vs H Q E h => ?_) (fun cdv A outer s H vs Q E hr h => ?_)⟩
  · obtain ⟨B, R, d, lag, p, _⟩ := h; exact p.length
  · obtain ⟨B, R, d, lag, p, hB, hR, tb, k⟩ := h
    obtain ⟨v, v1, v2, v3, rfl, p0, p1, p2, p3⟩ := ptA4 p
    refine ⟨_, pss_one (ps_ret (pe_cal C2 hr (pa_cons (pv 0) (pa_cons (pv 1) (pa_cons (pe_cal C1 hr (pa_cons (pv 0) (pa_cons (pv 1) (pa_cons (pv 2) (pa_cons (pv 3) pa_nil))))) (pa_cons (pv 2) (pa_cons (pv 3) pa_nil))))))), ?_⟩
    refine s_retN (en_callS (ea_cons (ed_var rfl p0) (ea_cons (ed_var rfl p1) (ea_cons (en_call (ea_cons (ed_var rfl p0) (ea_cons (ed_var rfl p1) (ea_cons (ed_var rfl p2) (ea_one (ed_var rfl p3))))) ⟨B, R, d, lag, rfl, hB, hR, rfl⟩).dd (ea_cons (ed_var rfl p2) (ea_one (ed_var rfl p3)))))) fun vs H1 s1 pv Q1 q1 => ?_) k
    exact ⟨B, _, _, _, _, pv, hB, Nat.le_trans (pw_len hB hR) (by decide), fun q hq => ⟨(pw_mem hB hR hq).b0, (pw_mem hB hR hq).b1⟩, s1.tb _ tb, q1⟩
theorem ok_joining (T : Ty K mg w base) : Cal P w K mg base 8 "joining" ["bridge", "room", "d", "lag"] (spJoining K) := by
  obtain ⟨fd, F, G⟩ := okF_joining (P := P) (base := base) T
  exact ⟨(T.f_joining).1, ⟨fd, G, bindsF F (by decide) fun _ _ _ _ _ _ _ us its hl hi => match us, hl, its, hi with | [_, _, _, _], _, [_, _], _ => ⟨_, rfl, rfl⟩⟩, F.kp⟩
theorem sc_changes : FnScope ["bridge", "room", "lag", "low", "high", "some", "spans", "found", "d", "here", "pair", "where"] ["bridge", "room", "lag", "low", "high"] (defScope (top 48)) := ⟨rfl, rfl, rfl, by decide +kernel, rfl, by decide +kernel, by decide +kernel⟩
theorem okF_changes (T : Tx K mg w) : ∃ fd, FunD K "changes" "changes" (defArgs (top 48)) (defBody (top 48)) (defScope (top 48)) [] [] (He.ga K "changes") fd ∧ FnOk P w K mg base (L2.CX P w) 7 (He.ga K "changes") fd ["bridge", "room", "lag", "low", "high"] spChanges := by
  have C1 : Cal P w K mg base 6 "pairs_within" ["bridge", "room", "lag", "low", "high"] spPairsWithin := ok_pairs_within T
  have C2 : Cal P w K mg base 4 "span" ["bridge", "room", "pair", "lag"] spSpan := ok_span T
  have C3 : Cal P w K mg base 1 "fits" ["where", "d"] spFits := ok_fits T
  obtain ⟨g, fd, F⟩ := T.f_changes
  refine ⟨fd, F, F.ok sc_changes (fun vs H Q E h => ?_) (fun cdv A outer s H vs Q E hr h => ?_)⟩
  · obtain ⟨N, B, R, lag, low, high, _, p, _⟩ := h; exact p.length
  · obtain ⟨N, B, R, lag, low, high, nN, p, hB, hR, hd, k⟩ := h
    obtain ⟨v, v1, v2, v3, v4, rfl, p0, p1, p2, p3, p4⟩ := ptA5 p
    have nd := sc_changes.nd
    have hu := hr.units
    refine ⟨_, pss_cons (ps_set (i := 5) nd rfl (Or.inl rfl) (pe_cal C1 hr (pa_cons (pv 0) (pa_cons (pv 1) (pa_cons (pv 2) (pa_cons (pv 3) (pa_cons (pv 4) pa_nil)))))))
      (pss_cons (ps_setLc (i := 6) (own := [("pair", 10)]) (g := gName 10) (tt := tYes) rfl nd rfl rfl (sw_true rfl rfl rfl (by decide +kernel)) (pi_list (pv 5))
         (blkOk_by (N := ["bridge", "room", "lag", "low", "high", "some", "spans", "found", "d", "here", "pair", "where"]) (sc := defScope (top 48)) (by decide +kernel)) (fun _ _ _ _ _ => pg_name (i := 10) nd rfl (.inl rfl)) (fun _ _ _ _ _ => pts_nil)
         (fun _ _ _ _ _ => pe_cal C2 (hr.mono (by decide)) (pa_cons (pv 0) (pa_cons (pv 1) (pa_cons (pv 10) (pa_cons (pv 2) pa_nil))))))
      (pss_cons (ps_set (i := 7) nd rfl (Or.inl rfl) (pe_lst pa_nil))
      (pss_cons (ps_for (passes_of rfl) rfl (pi_range2 rfl T.n_range (pa_cons (pv 3) (pa_cons (pe_op op_add (pv 4) pe_int) pa_nil))) (pg_name (i := 8) nd rfl (.inr rfl))
        (pss_cons (ps_setLc (i := 9) (own := [("pair", 10), ("where", 11)]) (g := gTup _ 2 (gCons (gName 10) (gCons (gName 11) gNil))) rfl nd rfl rfl (sw_true rfl rfl rfl (by decide +kernel)) (pi_zipS true true rfl T.n_zip (pa_cons (pv 5) (pa_cons (pv 6) pa_nil)) (pk_cons pe_bl pk_nil))
            (blkOk_by (N := ["bridge", "room", "lag", "low", "high", "some", "spans", "found", "d", "here", "pair", "where"]) (sc := defScope (top 48)) (by decide +kernel)) (fun _ _ _ _ _ => pg_tup rfl (pgs_cons (pg_name (i := 10) nd rfl (.inl rfl)) (pgs_cons (pg_name (i := 11) nd rfl (.inl rfl)) pgs_nil)))
            (fun _ _ _ _ _ => pts_one (pt_val (pe_cal C3 (hr.mono (by decide)) (pa_cons (pv 11) (pa_cons (pv 8) pa_nil))))) (fun _ _ _ _ _ => pv 10))
        (pss_one (ps_if (PW.pt (pw_and (pt_cmpR (op_neP hu) (pv 7) (pe_lst pa_nil) (nomark _)) (pw_and1 (pt_cmpR (op_eqP hu) (pe_ix ix_tup (pe_ix ix_list (pv 7) (pe_un un_neg pe_int) (fun _ _ => rfl)) pe_int (fun _ _ => rfl)) (pv 9) (nomark _)))))
          (pss_one (ps_asg (pe_tup (pa_cons (pe_ix ix_tup (pe_ix ix_list (pv 7) (pe_un un_neg pe_int) (fun _ _ => rfl)) pe_int (fun _ _ => rfl)) (pa_cons (pv 8) (pa_cons (pv 9) pa_nil)))) (pg_sub (pv 7) (pe_un un_neg pe_int) set_list (fun _ => rfl))))
          (pss_one (ps_expr (pe_bm PySem.F.plainAttrs_list PySem.F.slot_list_append PySem.F.type_list_append mt_append (pv 7) (pa_cons (pe_tup (pa_cons (pv 8) (pa_cons (pv 8) (pa_cons (pv 9) pa_nil)))) pa_nil))))))))
      (pss_one (ps_ret (pv 7)))))), ?_⟩
    refine q_setN (en_call (ea_cons (ed_var rfl p0) (ea_cons (ed_var rfl p1) (ea_cons (ed_var rfl p2) (ea_cons (ed_var rfl p3) (ea_one (ed_var rfl p4)))))) ⟨B, R, lag, low, high, rfl, hB, hR, rfl⟩) fun s5 x5 H1 h5 k1 e5 px5 => ?_
    have q5 : Pt H1 (.list ((pairsWithin B R lag low high).map pairD)) (.ref s5) := pt_lst.mpr ⟨s5, x5, rfl, e5, px5⟩
    have hlen := pw_len (lag := lag) (low := low) (high := high) hB hR
    have hmem : ∀ q ∈ pairsWithin B R lag low high, IsP B R q := fun q hq => pw_mem hB hR hq
    have eh : hereM B R lag low high = fun d => (pairsWithin B R lag low high).filter fun p => fitsM (spanM B R p lag) d := rfl
    generalize pairsWithin B R lag low high = ps at q5 px5 hlen hmem eh
    refine q_setN (ds := (ps.filter fun _ => true).map fun q => pairD (spanM B R q lag)) (en_lc ps pairD (fun _ => true) (fun q => pairD (spanM B R q lag)) (by omega) (fun _ _ _ => noL_pair _) (ei_list (ed_var rfl q5)) (fun q hq w H2 k2 pw => ⟨_, fun Q qq => qq, rfl, fun H3 _ Q qq => qq H3 (Same.refl H3), fun _ =>
       ed_call (ea_cons (ed_var rfl (p0.keep (k1.trans k2))) (ea_cons (ed_var rfl (p1.keep (k1.trans k2))) (ea_cons (ed_var rfl pw) (ea_one (ed_var rfl (p2.keep (k1.trans k2))))))) ⟨B, R, q, lag, rfl, hB, hR, hmem q hq, rfl⟩⟩)) fun s6 x6 H2 h6 k2 e6 px6 => ?_
    have q6 : Pt H2 (.list (ps.map fun q => pairD (spanM B R q lag))) (.ref s6) := by
      rw [List.filter_eq_self.mpr fun _ _ => rfl] at px6
      exact pt_lst.mpr ⟨s6, x6, rfl, e6, px6⟩
    refine q_setN (en_lst ea_nil (by show 0 ≤ sizeLine; decide)) fun F xF H3 hF k3 eF pxF => ?_
    cases ptA_nil.mp pxF
    have k03 := (k1.trans k2).trans k3
    have hF0 : H F = none := (k1.trans k2).free hF
    have q5' := q5.keep (k2.trans k3)
    have q6' := q6.keep k3
    cases pt_int.mp p2
    cases pt_int.mp p3
    cases pt_int.mp p4
    have nM : NOk (fun a => N a ∨ a = F) H3 := fun a ha => by
      rcases ha with ha | ha
      · exact (nN.keep k03) a ha
      · exact ⟨.lst [], by rw [ha]; exact eF, True.intro⟩
    have q5m : Pt (but (fun a => N a ∨ a = F) H3) (.list (ps.map pairD)) (.ref s5) := q5'.intoL nM (fun z => by
      rcases z with z | z
      · exact nN.free h5 z
      · have : H2 s5 = some (.lst x5) := k2 _ _ e5
        rw [z, hF] at this
        cases this) (noL_pairs _)
    have q6m : Pt (but (fun a => N a ∨ a = F) H3) (.list (ps.map fun q => pairD (spanM B R q lag))) (.ref s6) := q6'.intoL nM (fun z => by
      rcases z with z | z
      · exact (nN.keep k1).free h6 z
      · rw [z, hF] at e6
        cases e6) (noLs_map fun q _ => noL_pair _)
    refine s_for2 (N := (· = F)) (List.range (high + 1 - low).toNat) (fun k => .int (low + (k : Nat))) (ef_rng2 (ed_var rfl (pt_int.mpr rfl)) (ed_op (ed_var rfl (pt_int.mpr rfl)) ed_int rd_ii) (by omega))
      (fun H4 i σ' H' => (∃ x8 x9, σ' = [some v, some v1, some (.int lag), some (.int low), some (.int high), some (.ref s5), some (.ref s6), some (.ref F), x8, x9, none, none]) ∧ NOk (fun a => N a ∨ a = F) H' ∧ LsA (fun a => N a ∨ a = F) H' F ((changesTo B R lag low high i).map chD) ∧
         Pt (but (fun a => N a ∨ a = F) H') (.list (ps.map pairD)) (.ref s5) ∧ Pt (but (fun a => N a ∨ a = F) H') (.list (ps.map fun q => pairD (spanM B R q lag))) (.ref s6))
      (fun H4 s4 => ⟨⟨none, none, rfl⟩, nM.keep s4, ⟨[], s4 _ _ eF, .nil⟩, q5m.kp s4.kp, q6m.kp s4.kp⟩) (fun H4 i σ' H' H'' ⟨e, g0, g1, g2, g3⟩ s => ⟨e, g0.keep s, g1.keep s, g2.kp s.kp, g3.kp s.kp⟩) (fun H4 s4 i hi σ' H' u kp ⟨⟨x8, x9, e⟩, g0, g1, g2, g3⟩ pu => ?_) (fun H4 s4 σ' H' kp ⟨⟨x8, x9, e⟩, g0, g1, g2, g3⟩ => ?_)
    · subst e
      rw [List.length_range] at hi
      rw [List.getElem_range] at pu
      cases pt_int.mp pu
      rw [changesTo_succ]
      have hcl := changesTo_len (B := B) (R := R) (lag := lag) (low := low) (high := high) i
      generalize changesTo B R lag low high i = st at g1 hcl
      rw [show hereM B R lag low high (low + (i : Nat)) = ps.filter (fun q => fitsM (spanM B R q lag) (low + (i : Nat))) from congrFun eh _]
      have ez := zipD_self pairD (fun q => pairD (spanM B R q lag)) ps
      refine q_setN (ds := (ps.filter fun q => fitsM (spanM B R q lag) (low + (i : Nat))).map pairD) (en_lc ps (fun q => .tuple [pairD q, pairD (spanM B R q lag)]) (fun q => fitsM (spanM B R q lag) (low + (i : Nat))) pairD (by omega) (fun _ _ _ => noL_pair _)
         (by rw [← ez]; exact ei_zip (l1 := true) (l2 := true) (ed_var rfl g2.outN) (ed_var rfl g3.outN) (by rw [List.length_map, List.length_map])) (fun q hq w H5 k5 pw => ?_)) fun h xh H5 hh k5 eh5 pxh => ?_
      · obtain ⟨a, x1, y1, rfl, ha, px1, py1⟩ := pt_2.mp pw
        exact ⟨[some v, some v1, some (.int lag), some (.int low), some (.int high), some (.ref s5), some (.ref s6), some (.ref F), some (.int (low + (i : Nat))), x9, some x1, some y1], fun Q qq => ⟨a, _, rfl, SqT.of ha, rfl, x1, [y1], rfl, y1, [], rfl, rfl, qq⟩, rfl, eb_B (ed_call (ea_cons (ed_var rfl py1) (ea_one (ed_var rfl (pt_int.mpr rfl)))) ⟨_, _, rfl, rfl⟩), fun _ => ed_var rfl px1⟩
      · generalize ps.filter (fun q => fitsM (spanM B R q lag) (low + (i : Nat))) = hs at pxh
        have g0' := g0.keep k5
        have g1' := g1.keep k5
        have nh : ¬ (N h ∨ h = F) := g0.free hh
        have ph : Pt (but (fun a => N a ∨ a = F) H5) (.list (hs.map pairD)) (.ref h) := pt_lst.mpr ⟨h, xh, rfl, by rw [but_of nh]; exact eh5, pxh.intoN g0' (noL_pairs _)⟩
        have hle : st.length < 1000000 := by omega
        have fin : ∀ H6, Same H5 H6 → EvDN (fun a => N a ∨ a = F) (tTup (tCons (tVar 8) (tCons (tVar 8) (tCons (tVar 9) tNil)))) [some v, some v1, some (.int lag), some (.int low), some (.int high), some (.ref s5), some (.ref s6), some (.ref F), some (.int (low + (i : Nat))), some (.ref h), none, none] H6 (chD (low + (i : Nat), low + (i : Nat), hs)) := fun H6 s6' =>
          edN_tup (g0'.keep s6') (eaN_cons (edN_var rfl (pt_int.mpr rfl)) (eaN_cons (edN_var rfl (pt_int.mpr rfl)) (eaN_cons (edN_var rfl (ph.kp s6'.kp)) eaN_nil))) (by show 3 ≤ sizeLine; decide)
        have done : ∀ (st' : List Ch) H6 H7, Same H5 H6 → Kp (· = F) H6 H7 → LsA (fun a => N a ∨ a = F) H7 F (st'.map chD) → chStep st (low + (i : Nat)) hs = st' →
            Kp (· = F) H4 H7 ∧ (∃ y8 y9, [some v, some v1, some (.int lag), some (.int low), some (.int high), some (.ref s5), some (.ref s6), some (.ref F), some (.int (low + (i : Nat))), some (.ref h), none, none] = [some v, some v1, some (.int lag), some (.int low), some (.int high), some (.ref s5), some (.ref s6), some (.ref F), y8, y9, none, none]) ∧
            NOk (fun a => N a ∨ a = F) H7 ∧ LsA (fun a => N a ∨ a = F) H7 F ((chStep st (low + (i : Nat)) hs).map chD) ∧ Pt (but (fun a => N a ∨ a = F) H7) (.list (ps.map pairD)) (.ref s5) ∧ Pt (but (fun a => N a ∨ a = F) H7) (.list (ps.map fun q => pairD (spanM B R q lag))) (.ref s6) := fun st' H6 H7 s6' k7 g7 ec => by
          have km : Kp (fun a => N a ∨ a = F) H' H7 := ((k5.trans s6').kp).trans (k7.mono fun a ha => .inr ha)
          exact ⟨(kp.trans (k5.trans s6').kp).trans k7, ⟨_, _, rfl⟩, nok_kp (g0'.keep s6') k7 g7, by rw [ec]; exact g7, g2.kp km, g3.kp km⟩
        rcases List.eq_nil_or_concat st with h0 | ⟨l, z, h0⟩
        · refine s_if (b := false) ((eb_and (b := false) (c := false) (EvB.to (eb_T (ed_op (ed_var rfl g1'.pt) (en_lst ea_nil (by show 0 ≤ sizeLine; decide)).dd (rd_neP (K := K) (by have := ch_depth st; simp only [PyData.depth]; omega)))) (by rw [ch_ne, h0]; rfl)) fun z => by cases z).to rfl) (fun z => by cases z) (fun _ H6 s6' => ?_)
          refine s_appendN rfl (g1'.keep s6') (.inr rfl) (by rw [List.length_map]; exact hle) (fin H6 s6') fun H7 k7 g7 => done (st ++ [(low + (i : Nat), low + (i : Nat), hs)]) H6 H7 s6' k7 (by rw [List.map_append]; exact g7) ?_
          rw [chStep, h0]
          rfl
        · have hlast : st.getLast? = some z := by rw [h0]; simp
          have ha : L2.atI (st.map chD) (-1) = some (chD z) := by
            rw [h0, List.concat_eq_append, List.map_append]
            exact atI_last _ _
          have hpos : 0 < st.length := by rw [h0]; simp
          have em : ∀ H6, EvD (tUn (rU fun i => .int (-i)) (tC (.int 1))) [some v, some v1, some (.int lag), some (.int low), some (.int high), some (.ref s5), some (.ref s6), some (.ref F), some (.int (low + (i : Nat))), some (.ref h), none, none] H6 (.int (-1)) := fun H6 => ed_un (z := .int (-1)) ed_int fun H x Q p k => ⟨1, pt_int.mp p, k _ H (Same.refl H) (pt_int.mpr rfl)⟩
          have el : ∀ H6, Same H5 H6 → EvD (tOp (rIxL K) (tVar 7) (tUn (rU fun i => .int (-i)) (tC (.int 1)))) [some v, some v1, some (.int lag), some (.int low), some (.int high), some (.ref s5), some (.ref s6), some (.ref F), some (.int (low + (i : Nat))), some (.ref h), none, none] H6 (chD z) := fun H6 s6' => ed_op (ed_var rfl (g1'.keep s6').pt) (em H6) (rd_ixL (K := K) ha)
          refine s_if (b := PyData.eqv (.list (z.2.2.map pairD)) (.list (hs.map pairD))) ((eb_and (b := true) (EvB.to (eb_T (ed_op (ed_var rfl g1'.pt) (en_lst ea_nil (by show 0 ≤ sizeLine; decide)).dd (rd_neP (K := K) (by have := ch_depth st; simp only [PyData.depth]; omega)))) (by rw [ch_ne, h0]; simp)) fun _ =>
             eb_T (ed_op (ed_op (el H5 (Same.refl _)) ed_int (rd_ixT (d := .list (z.2.2.map pairD)) rfl)) (ed_var rfl ph.outN) (rd_eqP (K := K) (depth_lp _)))).to (by rw [Bool.true_and])) (fun hc H6 s6' => ?_) (fun hc H6 s6' => ?_)
          · refine s_setIx rfl (g1'.keep s6') (.inr rfl) (edN_tup (ds := [.int z.1, .int (low + (i : Nat)), .list (hs.map pairD)]) (g0'.keep s6') (eaN_cons (edN_of (g0'.keep s6') (ed_op (el H6 s6') ed_int (rd_ixT (d := .int z.1) rfl)) rfl) (eaN_cons (edN_var rfl (pt_int.mpr rfl)) (eaN_cons (edN_var rfl (ph.kp s6'.kp)) eaN_nil))) (by show 3 ≤ sizeLine; decide)) (em H6) (ixN_last (by rw [List.length_map]; exact hpos)) fun H7 k7 g7 =>
              done (st.set (st.length - 1) (z.1, low + (i : Nat), hs)) H6 H7 s6' k7 (by rw [List.map_set]; rw [List.length_map] at g7; exact g7) ?_
            rw [chStep, hlast]
            exact if_pos hc
          · refine s_appendN rfl (g1'.keep s6') (.inr rfl) (by rw [List.length_map]; exact hle) (fin H6 s6') fun H7 k7 g7 => done (st ++ [(low + (i : Nat), low + (i : Nat), hs)]) H6 H7 s6' k7 (by rw [List.map_append]; exact g7) ?_
            rw [chStep, hlast]
            exact if_neg (by rw [hc]; exact Bool.false_ne_true)
    · subst e
      obtain ⟨xs', e', px'⟩ := g1.ex
      rw [List.length_range] at px'
      refine ⟨_, rfl, k F xs' H' hF0 ?_ e' (PtA.keepX (but_sub fun a ha => .inl ha) _ _ px')⟩
      exact ((k03.trans s4).kp.trans kp).same fun a ha => by rw [ha]; exact hF0
theorem ok_changes (T : Tx K mg w) : Cal P w K mg base 7 "changes" ["bridge", "room", "lag", "low", "high"] spChanges := by
  obtain ⟨fd, F, G⟩ := okF_changes (P := P) (base := base) T
  exact ⟨(T.f_changes).1, ⟨fd, G, F.bindsN fun _ _ _ _ _ _ us hl => match us, hl with | [_, _, _, _, _], _ => rfl⟩, F.kp⟩
end
end Ro
namespace Ro
open PySem PySem.Spec PyProof.Rows L2 PySem.W
variable [TabsC]
/-! ### counts, best, lot: the mirror -/
abbrev Cn := Int × Int × Int
def cnD (c : Cn) : PyData := .tuple [.int c.1, .int c.2.1, .int c.2.2]
def cnStep (st : List Cn) (c : Ch) (many : Int) : List Cn := match st.getLast? with
  | none => st ++ [(c.1, c.2.1, many)]
  | some z => if z.2.2 = many then st.set (st.length - 1) (z.1, c.2.1, many) else st ++ [(c.1, c.2.1, many)]
def countsTo (B : Log) (cs : List Ch) : List Cn := cs.foldl (fun st c => cnStep st c (greatestM B c.2.2).length) []
def countsM (B R : Log) (lag low high : Int) : List Cn := countsTo B (changesM B R lag low high)
theorem cnStep_len (st : List Cn) (c : Ch) (m : Int) : (cnStep st c m).length ≤ st.length + 1 ∧ (cnStep st c m) ≠ [] := by
  unfold cnStep
  split
  · simp
  · split
    · rename_i z hz _
      refine ⟨by rw [List.length_set]; omega, fun e => ?_⟩
      have := congrArg List.length e
      rw [List.length_set] at this
      have e2 := List.eq_nil_of_length_eq_zero this
      rw [e2] at hz
      cases hz
    · simp
theorem counts_len (B : Log) : ∀ (cs : List Ch) (st : List Cn), (cs.foldl (fun st c => cnStep st c (greatestM B c.2.2).length) st).length ≤ st.length + cs.length
  | [], _ => Nat.le_refl _
  | c :: cs, st => by
    have h := counts_len B cs (cnStep st c (greatestM B c.2.2).length)
    have := (cnStep_len st c (greatestM B c.2.2).length).1
    rw [List.foldl_cons, List.length_cons]
    omega
theorem counts_ne (B : Log) : ∀ (cs : List Ch) (st : List Cn), cs ≠ [] ∨ st ≠ [] → cs.foldl (fun st c => cnStep st c (greatestM B c.2.2).length) st ≠ []
  | [], st, h => h.elim (fun z => (z rfl).elim) id
  | c :: cs, st, _ => by
    rw [List.foldl_cons]
    exact counts_ne B cs _ (.inr (cnStep_len _ _ _).2)
theorem changesTo_here {B R : Log} {lag low high : Int} : ∀ n, ∀ c ∈ changesTo B R lag low high n, ∀ q ∈ c.2.2, q ∈ pairsWithin B R lag low high
  | 0, c, h, _, _ => by cases h
  | n + 1, c, h, q, hq => by
    rw [changesTo_succ] at h
    have key : ∀ x : Ch, x ∈ chStep (changesTo B R lag low high n) (low + (n : Nat)) (hereM B R lag low high (low + (n : Nat))) → x ∈ changesTo B R lag low high n ∨ x.2.2 = hereM B R lag low high (low + (n : Nat)) := by
      intro x hx
      unfold chStep at hx
      split at hx
      · rcases List.mem_append.mp hx with h | h
        · exact .inl h
        · rw [List.mem_singleton.mp h]; exact .inr rfl
      · split at hx
        · rcases List.mem_or_eq_of_mem_set hx with h | h
          · exact .inl h
          · rw [h]; exact .inr rfl
        · rcases List.mem_append.mp hx with h | h
          · exact .inl h
          · rw [List.mem_singleton.mp h]; exact .inr rfl
    rcases key c h with h | h
    · exact changesTo_here n c h q hq
    · rw [h] at hq
      exact (List.mem_filter.mp hq).1
theorem changesTo_hlen {B R : Log} {lag low high : Int} (hB : LogOk B) (hR : LogOk R) : ∀ n, ∀ c ∈ changesTo B R lag low high n, c.2.2.length ≤ 1600
  | 0, c, h => by cases h
  | n + 1, c, h => by
    rw [changesTo_succ] at h
    have hh : (hereM B R lag low high (low + (n : Nat))).length ≤ 1600 := Nat.le_trans (List.length_filter_le _ _) (pw_len hB hR)
    unfold chStep at h
    split at h
    · rcases List.mem_append.mp h with h | h
      · exact changesTo_hlen hB hR n c h
      · rw [List.mem_singleton.mp h]; exact hh
    · split at h
      · rcases List.mem_or_eq_of_mem_set h with h | h
        · exact changesTo_hlen hB hR n c h
        · rw [h]; exact hh
      · rcases List.mem_append.mp h with h | h
        · exact changesTo_hlen hB hR n c h
        · rw [List.mem_singleton.mp h]; exact hh
theorem noL_cn (c : Cn) : noL (cnD c) = true := by simp only [cnD, noL, noLs, Bool.and_self]
theorem cn_depth (l : List Cn) : PyData.depthAll (l.map cnD) ≤ 1 := by
  induction l with
  | nil => simp [PyData.depthAll]
  | cons c l ih =>
    simp only [List.map_cons, PyData.depthAll, cnD, PyData.depth]
    omega
theorem cn_ne (l : List Cn) : (!PyData.eqv (.list (l.map cnD)) (.list [])) = !l.isEmpty := by
  cases l <;> simp [PyData.eqv, PyData.eqvAll]
structure StrOk (lag low high : Int) : Prop where
  a : -100000 ≤ low
  b : low ≤ high
  c : high ≤ 100000
def spCounts (K : PySem.W.Frag) : Sp := fun vs H Q _ => ∃ (B R : Log) (lag low high : Int), PtA H [logD B, logD R, .int lag, .int low, .int high] vs ∧ LogOk B ∧ LogOk R ∧ StrOk lag low high ∧ Tb H (tabA K "ranks") ∧
  ∀ p xs H', H p = none → Same H H' → H' p = some (.lst xs) → PtA H' ((countsM B R lag low high).map cnD) xs → Q (.ref p) H'
/-- a list from a call, walked while N may change -/
theorem ef_newN {K : PySem.W.Frag} {N : Addr → Prop} {σ : L2.St} {H : Hp} {te : TE} {ds : List PyData} (n : NOk N H) (h : ∀ H1, Same H H1 → ∀ Q : VK, (∀ p xs H2, H1 p = none → Same H1 H2 → H2 p = some (.lst xs) → PtA (but N H2) ds xs → Q (.ref p) H2) → te σ H1 Q) : EvF N (iList K te) σ H ds := fun H1 s R q => h H1 s _ fun x xs H2 hx k hp px => by
  have nx : ¬ N x := (n.keep s).free hx
  exact ⟨x, rfl, ⟨xs, SqL.of hp⟩, q _ H2 k (wk_seq (l := true) (pt_lst.mpr ⟨x, xs, rfl, by rw [but_of nx]; exact hp, px⟩))⟩
section
variable {P : Program} {w : World} {K : PySem.W.Frag} {mg : Str → Option Value} {base : Heap}
theorem sc_counts : FnScope ["bridge", "room", "lag", "low", "high", "found", "first", "last", "here", "many"] ["bridge", "room", "lag", "low", "high"] (defScope (top 49)) := ⟨rfl, rfl, rfl, by decide +kernel, rfl, by decide +kernel, by decide +kernel⟩
theorem okF_counts (T : Ty K mg w base) : ∃ fd, FunD K "counts" "counts" (defArgs (top 49)) (defBody (top 49)) (defScope (top 49)) [.int 0, .int 0, .int 0] [] (He.ga K "counts") fd ∧ FnOk P w K mg base (L2.CX P w) 8 (He.ga K "counts") fd ["bridge", "room", "lag", "low", "high"] (spCounts K) := by
  have C1 : Cal P w K mg base 7 "changes" ["bridge", "room", "lag", "low", "high"] spChanges := ok_changes T.toTx
  have C2 : CalD P w K mg base 7 "greatest" ["bridge", "room", "pairs", "d", "lag"] [.int 0, .int 0] (spGreatest K) := okd_greatest T
  obtain ⟨g, fd, F⟩ := T.f_counts
  refine ⟨fd, F, F.ok sc_counts (fun vs H Q E h => ?_) (fun cdv A outer s H vs Q E hr h => ?_)⟩
  · obtain ⟨B, R, lag, low, high, p, _⟩ := h; exact p.length
  · obtain ⟨B, R, lag, low, high, p, hB, hR, hd, tb, k⟩ := h
    obtain ⟨v, v1, v2, v3, v4, rfl, p0, p1, p2, p3, p4⟩ := ptA5 p
    have nd := sc_counts.nd
    have hu := hr.units
    refine ⟨_, pss_cons (ps_set (i := 5) nd rfl (Or.inl rfl) (pe_lst pa_nil))
      (pss_cons (ps_for (passes_of rfl) rfl (pi_list (pe_cal C1 hr (pa_cons (pv 0) (pa_cons (pv 1) (pa_cons (pv 2) (pa_cons (pv 3) (pa_cons (pv 4) pa_nil))))))) (pg_tup rfl (pgs_cons (pg_name (i := 6) nd rfl (.inl rfl)) (pgs_cons (pg_name (i := 7) nd rfl (.inl rfl)) (pgs_cons (pg_name (i := 8) nd rfl (.inl rfl)) pgs_nil))))
        (pss_cons (ps_set (i := 9) nd rfl (Or.inl rfl) (pe_callB call_len_seq rfl T.n_len PySem.boot_len (pa_cons (pe_cald C2 hr (pa_cons (pv 0) (pa_cons (pv 1) (pa_cons (pv 8) pa_nil)))) pa_nil)))
        (pss_one (ps_if (PW.pt (pw_and (pt_cmpR (op_neP hu) (pv 5) (pe_lst pa_nil) (nomark _)) (pw_and1 (pt_cmpR op_eq (pe_ix ix_tup (pe_ix ix_list (pv 5) (pe_un un_neg pe_int) (fun _ _ => rfl)) pe_int (fun _ _ => rfl)) (pv 9) (nomark _)))))
          (pss_one (ps_asg (pe_tup (pa_cons (pe_ix ix_tup (pe_ix ix_list (pv 5) (pe_un un_neg pe_int) (fun _ _ => rfl)) pe_int (fun _ _ => rfl)) (pa_cons (pv 7) (pa_cons (pv 9) pa_nil)))) (pg_sub (pv 5) (pe_un un_neg pe_int) set_list (fun _ => rfl))))
          (pss_one (ps_expr (pe_bm PySem.F.plainAttrs_list PySem.F.slot_list_append PySem.F.type_list_append mt_append (pv 5) (pa_cons (pe_tup (pa_cons (pv 6) (pa_cons (pv 7) (pa_cons (pv 9) pa_nil)))) pa_nil))))))))
      (pss_one (ps_ret (pv 5)))), ?_⟩
    refine q_setN (en_lst ea_nil (by show 0 ≤ sizeLine; decide)) fun F xF H1 hF k1 eF pxF => ?_
    cases ptA_nil.mp pxF
    have nF : NOk (· = F) H1 := fun a ha => ⟨.lst [], by rw [ha]; exact eF, True.intro⟩
    have clen : (changesM B R lag low high).length ≤ 200001 := by
      have := changesTo_len (B := B) (R := R) (lag := lag) (low := low) (high := high) (high + 1 - low).toNat
      have := hd.a; have := hd.b; have := hd.c
      unfold changesM
      omega
    have csub : ∀ c ∈ changesM B R lag low high, ∀ q ∈ c.2.2, q ∈ pairsWithin B R lag low high := changesTo_here _
    have chl : ∀ c ∈ changesM B R lag low high, c.2.2.length ≤ 1600 := changesTo_hlen hB hR _
    have ek : countsM B R lag low high = countsTo B (changesM B R lag low high) := rfl
    have hall : ∀ H2, Same H1 H2 → ∀ Q : VK, (∀ p xs H3, H2 p = none → Same H2 H3 → H3 p = some (.lst xs) → PtA (but (· = F) H3) ((changesM B R lag low high).map chD) xs → Q (.ref p) H3) → tCall spChanges [] E0 (tCons (tVar 0) (tCons (tVar 1) (tCons (tVar 2) (tCons (tVar 3) (tCons (tVar 4) tNil))))) [some v, some v1, some v2, some v3, some v4, some (.ref F), none, none, none, none] H2 Q := fun H2 s2 Q q => by
      have pa := PtA.keep (k1.trans s2) _ _ p
      obtain ⟨u0, u1, u2, u3, u4, ee, r0, r1, r2, r3, r4⟩ := ptA5 pa
      cases ee
      refine run_call (ea_cons (ed_var rfl r0) (ea_cons (ed_var rfl r1) (ea_cons (ed_var rfl r2) (ea_cons (ed_var rfl r3) (ea_one (ed_var rfl r4)))))) fun vs H3 s3 pv => ?_
      exact ⟨(· = F), B, R, lag, low, high, nF.keep (s2.trans s3), pv, hB, hR, ⟨hd.a, by have := hd.b; have := hd.c; omega, by have := hd.a; have := hd.b; omega, hd.c⟩, fun p xs H4 hp s4 e4 px => q p xs H4 (s3.free hp) (s3.trans s4) e4 px⟩
    rw [ek] at k
    generalize changesM B R lag low high = cs at k clen csub chl hall
    refine s_for2 (N := (· = F)) cs chD (ef_newN nF hall)
      (fun H2 i σ' H' => (∃ x6 x7 x8 x9, σ' = [some v, some v1, some v2, some v3, some v4, some (.ref F), x6, x7, x8, x9]) ∧ LsA (· = F) H' F ((countsTo B (cs.take i)).map cnD) ∧ PtA H' [logD B, logD R] [v, v1] ∧ Tb H' (tabA K "ranks"))
      (fun H2 s2 => ⟨⟨none, none, none, none, rfl⟩, ⟨[], s2 _ _ eF, .nil⟩, .cons (p0.keep (k1.trans s2)) (.one (p1.keep (k1.trans s2))), (k1.trans s2).tb _ tb⟩)
      (fun H2 i σ' H' H'' ⟨e, g1, g2, g3⟩ s => ⟨e, g1.keep s, PtA.keep s _ _ g2, s.tb _ g3⟩) (fun H2 s2 i hi σ' H' u kp ⟨⟨x6, x7, x8, x9, e⟩, g1, g2, g3⟩ pu => ?_) (fun H2 s2 σ' H' kp ⟨⟨x6, x7, x8, x9, e⟩, g1, g2, g3⟩ => ?_)
    · subst e
      obtain ⟨u0, u1, ee, r0, r1⟩ := ptA2 g2
      cases ee
      have et : countsTo B (cs.take (i + 1)) = cnStep (countsTo B (cs.take i)) cs[i] (greatestM B cs[i].2.2).length := by
        unfold countsTo
        rw [List.take_add_one, List.getElem?_eq_getElem hi, Option.toList_some, List.foldl_append, List.foldl_cons, List.foldl_nil]
      rw [et]
      have hcl := counts_len B (cs.take i) []
      rw [List.length_take] at hcl
      simp only [List.length_nil] at hcl
      have hst : (countsTo B (cs.take i)).length ≤ 200001 := by unfold countsTo; omega
      generalize countsTo B (cs.take i) = st at g1 hst
      have hcs := csub _ (List.getElem_mem hi)
      have hch := chl _ (List.getElem_mem hi)
      generalize cs[i] = c at pu hcs hch
      refine gt3 pu fun x y w px py pw => ?_
      cases pt_int.mp px
      cases pt_int.mp py
      refine q_set (d := .int (greatestM B c.2.2).length) ((ed_cb (ea_one (en_callSD (es := (greatestM B c.2.2).map pairD) (fs := [.int 0, .int 0]) (ea_cons (ed_var rfl r0) (ea_cons (ed_var rfl r1) (ea_one (ed_var rfl pw)))) (fun H => .cons (pt_int.mpr rfl) (.one (pt_int.mpr rfl))) (fun vs H3 s3 pv Q q => ⟨B, _, _, _, c.2.2, pv, hB, by omega, fun z hz => ⟨(pw_mem hB hR (hcs z hz)).b0, (pw_mem hB hR (hcs z hz)).b1⟩, s3.tb _ g3, q⟩)).dd) rc_lenL).to (by rw [List.length_map])) fun vm H3 k3 pm => ?_
      cases pt_int.mp pm
      generalize ((greatestM B c.2.2).length : Int) = m
      have g1' := g1.keep k3
      have nF' : NOk (· = F) H3 := fun a ha => by
        obtain ⟨xs, hx, _⟩ := g1'.ex
        exact ⟨.lst xs, by rw [ha]; exact hx, True.intro⟩
      have nlL : noLs [logD B, logD R] = true := by simp only [noLs, logD, noL, hB.noL, hR.noL, Bool.and_self]
      have done : ∀ (st' : List Cn) H6 H7, Same H3 H6 → Kp (· = F) H6 H7 → LsA (· = F) H7 F (st'.map cnD) → cnStep st c m = st' →
          Kp (· = F) H2 H7 ∧ (∃ y6 y7 y8 y9, [some v, some v1, some v2, some v3, some v4, some (.ref F), some (.int c.1), some (.int c.2.1), some w, some (.int m)] = [some v, some v1, some v2, some v3, some v4, some (.ref F), y6, y7, y8, y9]) ∧ LsA (· = F) H7 F ((cnStep st c m).map cnD) ∧ PtA H7 [logD B, logD R] [v, v1] ∧ Tb H7 (tabA K "ranks") := fun st' H6 H7 s6 k7 g7 ec =>
        ⟨(kp.trans (k3.trans s6).kp).trans k7, ⟨_, _, _, _, rfl⟩, by rw [ec]; exact g7, PtA.keepT ((nF'.keep s6).tk k7) _ _ nlL (PtA.keep (k3.trans s6) _ _ g2), k7.tb _ ((k3.trans s6).tb _ g3)⟩
      have fin : ∀ H6, Same H3 H6 → EvDN (· = F) (tTup (tCons (tVar 6) (tCons (tVar 7) (tCons (tVar 9) tNil)))) [some v, some v1, some v2, some v3, some v4, some (.ref F), some (.int c.1), some (.int c.2.1), some w, some (.int m)] H6 (cnD (c.1, c.2.1, m)) := fun H6 s6 =>
        edN_of (nF'.keep s6) (ed_tup (ea_cons (ed_var rfl (pt_int.mpr rfl)) (ea_cons (ed_var rfl (pt_int.mpr rfl)) (ea_one (ed_var rfl (pt_int.mpr rfl))))) (by show 3 ≤ sizeLine; decide)) (noL_cn _)
      have hle : st.length < 1000000 := by omega
      rcases List.eq_nil_or_concat st with h0 | ⟨l, z, h0⟩
      · refine s_if (b := false) ((eb_and (b := false) (c := false) (EvB.to (eb_T (ed_op (ed_var rfl g1'.pt) (en_lst ea_nil (by show 0 ≤ sizeLine; decide)).dd (rd_neP (K := K) (by have := cn_depth st; simp only [PyData.depth]; omega)))) (by rw [cn_ne, h0]; rfl)) fun z => by cases z).to rfl) (fun z => by cases z) (fun _ H6 s6 => ?_)
        refine s_appendN rfl (g1'.keep s6) rfl (by rw [List.length_map]; exact hle) (fin H6 s6) fun H7 k7 g7 => done (st ++ [(c.1, c.2.1, m)]) H6 H7 s6 k7 (by rw [List.map_append]; exact g7) ?_
        rw [cnStep, h0]
        rfl
      · have hlast : st.getLast? = some z := by rw [h0]; simp
        have ha : L2.atI (st.map cnD) (-1) = some (cnD z) := by
          rw [h0, List.concat_eq_append, List.map_append]
          exact atI_last _ _
        have hpos : 0 < st.length := by rw [h0]; simp
        have em : ∀ H6, EvD (tUn (rU fun i => .int (-i)) (tC (.int 1))) [some v, some v1, some v2, some v3, some v4, some (.ref F), some (.int c.1), some (.int c.2.1), some w, some (.int m)] H6 (.int (-1)) := fun H6 => ed_un (z := .int (-1)) ed_int fun H x Q p k => ⟨1, pt_int.mp p, k _ H (Same.refl H) (pt_int.mpr rfl)⟩
        have el : ∀ H6, Same H3 H6 → EvD (tOp (rIxL K) (tVar 5) (tUn (rU fun i => .int (-i)) (tC (.int 1)))) [some v, some v1, some v2, some v3, some v4, some (.ref F), some (.int c.1), some (.int c.2.1), some w, some (.int m)] H6 (cnD z) := fun H6 s6 => ed_op (ed_var rfl (g1'.keep s6).pt) (em H6) (rd_ixL (K := K) ha)
        refine s_if (b := decide (z.2.2 = m)) ((eb_and (b := true) (EvB.to (eb_T (ed_op (ed_var rfl g1'.pt) (en_lst ea_nil (by show 0 ≤ sizeLine; decide)).dd (rd_neP (K := K) (by have := cn_depth st; simp only [PyData.depth]; omega)))) (by rw [cn_ne, h0]; simp)) fun _ =>
           eb_T (ed_op (ed_op (el H3 (Same.refl _)) ed_int (rd_ixT (d := .int z.2.2) rfl)) (ed_var rfl (pt_int.mpr rfl)) rd_eqI)).to (by rw [Bool.true_and])) (fun hc H6 s6 => ?_) (fun hc H6 s6 => ?_)
        · refine s_setIx rfl (g1'.keep s6) rfl (edN_of (d := cnD (z.1, c.2.1, m)) (nF'.keep s6) (ed_tup (ea_cons (ed_op (el H6 s6) ed_int (rd_ixT (d := .int z.1) rfl)) (ea_cons (ed_var rfl (pt_int.mpr rfl)) (ea_one (ed_var rfl (pt_int.mpr rfl))))) (by show 3 ≤ sizeLine; decide)) (noL_cn _)) (em H6) (ixN_last (by rw [List.length_map]; exact hpos)) fun H7 k7 g7 =>
            done (st.set (st.length - 1) (z.1, c.2.1, m)) H6 H7 s6 k7 (by rw [List.map_set]; rw [List.length_map] at g7; exact g7) ?_
          rw [cnStep, hlast]
          exact if_pos (of_decide_eq_true hc)
        · refine s_appendN rfl (g1'.keep s6) rfl (by rw [List.length_map]; exact hle) (fin H6 s6) fun H7 k7 g7 => done (st ++ [(c.1, c.2.1, m)]) H6 H7 s6 k7 (by rw [List.map_append]; exact g7) ?_
          rw [cnStep, hlast]
          exact if_neg (of_decide_eq_false hc)
    · subst e
      rw [List.take_length] at g1
      obtain ⟨xs', e', px'⟩ := g1.ex
      have hF0 : H F = none := hF
      refine ⟨_, rfl, k F xs' H' hF0 ?_ e' px'.outN⟩
      exact ((k1.trans s2).kp.trans kp).same fun a ha => by rw [ha]; exact hF0
theorem ok_counts (T : Ty K mg w base) : Cal P w K mg base 8 "counts" ["bridge", "room", "lag", "low", "high"] (spCounts K) := by
  obtain ⟨fd, F, G⟩ := okF_counts (P := P) (base := base) T
  exact ⟨(T.f_counts).1, ⟨fd, G, bindsF F (by decide) fun _ _ _ _ _ _ _ us its hl hi => match us, hl, its, hi with | [_, _, _, _, _], _, [_, _, _], _ => ⟨_, rfl, rfl⟩⟩, F.kp⟩
end
end Ro
namespace Ro
open PySem PySem.Spec PyProof.Rows L2 PySem.W
variable [TabsC]
/-! ### best, lot: the mirror -/
def minDf (l : List Int) (d : Int) : Int := match l with
  | [] => d
  | n :: r => r.foldl min n
theorem foldl_max : ∀ (r : List Int) (n : Int), (r.foldl max n ∈ n :: r) ∧ ∀ y ∈ n :: r, y ≤ r.foldl max n
  | [], n => ⟨by simp, fun y hy => by rw [List.mem_singleton.mp hy]; exact Int.le_refl _⟩
  | a :: r, n => by
    obtain ⟨h1, h2⟩ := foldl_max r (max n a)
    rw [List.foldl_cons]
    refine ⟨?_, fun y hy => ?_⟩
    · rcases List.mem_cons.mp h1 with e | h
      · rw [e]
        rcases Int.le_total n a with q | q
        · rw [Int.max_eq_right q]; simp
        · rw [Int.max_eq_left q]; simp
      · simp [h]
    · have hm : max n a ≤ r.foldl max (max n a) := h2 _ (by simp)
      rcases List.mem_cons.mp hy with e | hy
      · rw [e]; omega
      · rcases List.mem_cons.mp hy with e | hy
        · rw [e]; omega
        · exact h2 y (by simp [hy])
theorem foldl_min : ∀ (r : List Int) (n : Int), (r.foldl min n ∈ n :: r) ∧ ∀ y ∈ n :: r, r.foldl min n ≤ y
  | [], n => ⟨by simp, fun y hy => by rw [List.mem_singleton.mp hy]; exact Int.le_refl _⟩
  | a :: r, n => by
    obtain ⟨h1, h2⟩ := foldl_min r (min n a)
    rw [List.foldl_cons]
    refine ⟨?_, fun y hy => ?_⟩
    · rcases List.mem_cons.mp h1 with e | h
      · rw [e]
        rcases Int.le_total n a with q | q
        · rw [Int.min_eq_left q]; simp
        · rw [Int.min_eq_right q]; simp
      · simp [h]
    · have hm : r.foldl min (min n a) ≤ min n a := h2 _ (by simp)
      rcases List.mem_cons.mp hy with e | hy
      · rw [e]; omega
      · rcases List.mem_cons.mp hy with e | hy
        · rw [e]; omega
        · exact h2 y (by simp [hy])
theorem maxDf_ok {l : List Int} {d : Int} (h : l ≠ []) : maxDf l d ∈ l ∧ ∀ y ∈ l, y ≤ maxDf l d := by
  cases l with
  | nil => exact (h rfl).elim
  | cons n r => exact foldl_max r n
theorem minDf_ok {l : List Int} {d : Int} (h : l ≠ []) : minDf l d ∈ l ∧ ∀ y ∈ l, minDf l d ≤ y := by
  cases l with
  | nil => exact (h rfl).elim
  | cons n r => exact foldl_min r n
theorem ed_max {K : PySem.W.Frag} {σ : L2.St} {H : Hp} {te : TE} {ns : List Int} (h : EvN te σ H (ns.map PyData.int)) (hn : ns ≠ []) : EvD (tCB (rMax K) (tCons te tNil)) σ H (.int (maxDf ns 0)) := fun H1 s Q q =>
  h H1 s _ fun p xs H2 hp k e px => by
    have ex := px.intsV
    subst ex
    refine ⟨p, ns, rfl, SqL.of e, List.length_pos_iff.mpr hn, fun m hm hy => ?_⟩
    have ok := maxDf_ok (d := 0) hn
    have em : m = maxDf ns 0 := Int.le_antisymm (ok.2 m hm) (hy _ ok.1)
    rw [em]
    exact q _ H2 k (pt_int.mpr rfl)
theorem ed_min {K : PySem.W.Frag} {σ : L2.St} {H : Hp} {te : TE} {ns : List Int} (h : EvN te σ H (ns.map PyData.int)) (hn : ns ≠ []) : EvD (tCB (rMin K) (tCons te tNil)) σ H (.int (minDf ns 0)) := fun H1 s Q q =>
  h H1 s _ fun p xs H2 hp k e px => by
    have ex := px.intsV
    subst ex
    refine ⟨p, ns, rfl, SqL.of e, List.length_pos_iff.mpr hn, fun m hm hy => ?_⟩
    have ok := minDf_ok (d := 0) hn
    have em : m = minDf ns 0 := Int.le_antisymm (hy _ ok.1) (ok.2 m hm)
    rw [em]
    exact q _ H2 k (pt_int.mpr rfl)
def mostM (B R : Log) (lag low high : Int) : Int := maxDf ((countsM B R lag low high).map fun c => c.2.2) 0
def bestD (B R : Log) (lag low high : Int) : Int := minDf (((countsM B R lag low high).filter fun c => decide (c.2.2 = mostM B R lag low high)).map fun c => c.1) 0
def bestJ (B R : Log) (lag low high : Int) : List Pair := joiningM B R (bestD B R lag low high) lag
def bestP (B R : Log) (lag low high : Int) : PyData := .tuple [.int (bestD B R lag low high), .list ((bestJ B R lag low high).map pairD)]
theorem counts_ne0 {B R : Log} {lag low high : Int} (h : StrOk lag low high) : countsM B R lag low high ≠ [] := by
  refine counts_ne B _ [] (.inl ?_)
  have : (high + 1 - low).toNat = ((high - low).toNat) + 1 := by have := h.b; omega
  unfold changesM
  rw [this, changesTo_succ]
  intro e
  have hc : ∀ (st : List Ch) (d : Int) (hh : List Pair), chStep st d hh ≠ [] := fun st d hh => by
    unfold chStep
    split
    · simp
    · split
      · rename_i z hz _
        intro e
        have := congrArg List.length e
        rw [List.length_set] at this
        have e2 := List.eq_nil_of_length_eq_zero this
        rw [e2] at hz
        cases hz
      · simp
  exact hc _ _ _ e
theorem most_has {B R : Log} {lag low high : Int} (h : StrOk lag low high) : ((countsM B R lag low high).filter fun c => decide (c.2.2 = mostM B R lag low high)) ≠ [] := by
  have ok := maxDf_ok (l := (countsM B R lag low high).map fun c => c.2.2) (d := 0) (by simpa using counts_ne0 h)
  obtain ⟨c, hc, e⟩ := List.mem_map.mp ok.1
  intro z
  have : c ∈ (countsM B R lag low high).filter fun c => decide (c.2.2 = mostM B R lag low high) := List.mem_filter.mpr ⟨hc, decide_eq_true e⟩
  rw [z] at this
  cases this
theorem countsM_len {B R : Log} {lag low high : Int} (h : StrOk lag low high) : (countsM B R lag low high).length ≤ 200001 := by
  have h1 := counts_len B (changesM B R lag low high) []
  have h2 := changesTo_len (B := B) (R := R) (lag := lag) (low := low) (high := high) (high + 1 - low).toNat
  have := h.a; have := h.b; have := h.c
  unfold countsM countsTo
  unfold changesM at h1 ⊢
  simp only [List.length_nil] at h1
  omega
def spBest (K : PySem.W.Frag) : Sp := fun vs H Q _ => ∃ (B R : Log) (lag low high : Int), PtA H [logD B, logD R, .int lag, .int low, .int high] vs ∧ LogOk B ∧ LogOk R ∧ StrOk lag low high ∧ Tb H (tabA K "ranks") ∧
  ∀ v H', Same H H' → Pt H' (bestP B R lag low high) v → Q v H'
def spLot : Sp := SpD fun ds z => ∃ (B R : Log) (J : List Pair), ds = [logD B, logD R, .list (J.map pairD)] ∧ z = .int ((B.length : Int) + R.length - 2 * J.length)
section
variable {P : Program} {w : World} {K : PySem.W.Frag} {mg : Str → Option Value} {base : Heap}
theorem sc_best : FnScope ["bridge", "room", "lag", "low", "high", "rows", "most", "d", "row"] ["bridge", "room", "lag", "low", "high"] (defScope (top 50)) := ⟨rfl, rfl, rfl, by decide +kernel, rfl, by decide +kernel, by decide +kernel⟩
theorem okF_best (T : Ty K mg w base) : ∃ fd, FunD K "best" "best" (defArgs (top 50)) (defBody (top 50)) (defScope (top 50)) [.int 0, .int 0, .int 0] [] (He.ga K "best") fd ∧ FnOk P w K mg base (L2.CX P w) 9 (He.ga K "best") fd ["bridge", "room", "lag", "low", "high"] (spBest K) := by
  have C1 : Cal P w K mg base 8 "counts" ["bridge", "room", "lag", "low", "high"] (spCounts K) := ok_counts T
  have C2 : Cal P w K mg base 8 "joining" ["bridge", "room", "d", "lag"] (spJoining K) := ok_joining T
  obtain ⟨g, fd, F⟩ := T.f_best
  refine ⟨fd, F, F.ok sc_best (fun vs H Q E h => ?_) (fun cdv A outer s H vs Q E hr h => ?_)⟩
  · obtain ⟨B, R, lag, low, high, p, _⟩ := h; exact p.length
  · obtain ⟨B, R, lag, low, high, p, hB, hR, hd, tb, k⟩ := h
    obtain ⟨v, v1, v2, v3, v4, rfl, p0, p1, p2, p3, p4⟩ := ptA5 p
    have nd := sc_best.nd
    refine ⟨_, pss_cons (ps_set (i := 5) nd rfl (Or.inl rfl) (pe_cal C1 hr (pa_cons (pv 0) (pa_cons (pv 1) (pa_cons (pv 2) (pa_cons (pv 3) (pa_cons (pv 4) pa_nil)))))))
      (pss_cons (ps_set (i := 6) nd rfl (Or.inr rfl) (pe_callB (cr_max rfl) rfl T.n_max (by decide +kernel) (pa_cons
         (pe_lc (own := [("row", 8)]) (g := gName 8) (tt := tYes) rfl nd (pi_list (pv 5)) (blkOk_by (N := ["bridge", "room", "lag", "low", "high", "rows", "most", "d", "row"]) (sc := defScope (top 50)) (by decide +kernel)) (fun _ _ _ _ _ => pg_name (i := 8) nd rfl (.inl rfl)) (fun _ _ _ _ _ => pts_nil)
           (fun _ _ _ _ _ => pe_ix (r := rIxT K) ix_tup (pv 8) pe_int (fun _ _ => rfl))) pa_nil)))
      (pss_cons (ps_set (i := 7) nd rfl (Or.inl rfl) (pe_callB (cr_min rfl) rfl T.n_min (by decide +kernel) (pa_cons
         (pe_lc (own := [("row", 8)]) (g := gName 8) rfl nd (pi_list (pv 5)) (blkOk_by (N := ["bridge", "room", "lag", "low", "high", "rows", "most", "d", "row"]) (sc := defScope (top 50)) (by decide +kernel)) (fun _ _ _ _ _ => pg_name (i := 8) nd rfl (.inl rfl))
           (fun _ _ _ _ _ => pts_one (pt_cmpR op_eq (pe_ix (r := rIxT K) ix_tup (pv 8) pe_int (fun _ _ => rfl)) (pv 6) (nomark _))) (fun _ _ _ _ _ => pe_ix (r := rIxT K) ix_tup (pv 8) pe_int (fun _ _ => rfl))) pa_nil)))
      (pss_one (ps_ret (pe_tup (pa_cons (pv 7) (pa_cons (pe_cal C2 hr (pa_cons (pv 0) (pa_cons (pv 1) (pa_cons (pv 7) (pa_cons (pv 2) pa_nil))))) pa_nil))))))), ?_⟩
    refine q_setN (en_callS (es := (countsM B R lag low high).map cnD) (ea_cons (ed_var rfl p0) (ea_cons (ed_var rfl p1) (ea_cons (ed_var rfl p2) (ea_cons (ed_var rfl p3) (ea_one (ed_var rfl p4)))))) fun vs H1 s1 pv Q q => ⟨B, R, lag, low, high, pv, hB, hR, hd, s1.tb _ tb, q⟩) fun s5 x5 H1 h5 k1 e5 px5 => ?_
    have q5 : Pt H1 (.list ((countsM B R lag low high).map cnD)) (.ref s5) := pt_lst.mpr ⟨s5, x5, rfl, e5, px5⟩
    have hlen := countsM_len (B := B) (R := R) hd
    refine q_set (d := .int (mostM B R lag low high)) (ed_max (ns := (countsM B R lag low high).map fun c => c.2.2) ?_ (by simpa using counts_ne0 hd)) fun vm H2 k2 pm => ?_
    · rw [List.map_map]
      refine (show EvN _ _ _ (((countsM B R lag low high).filter fun _ => true).map fun c => PyData.int c.2.2) → EvN _ _ _ ((countsM B R lag low high).map (PyData.int ∘ fun c => c.2.2)) from fun h => by rw [List.filter_eq_self.mpr fun _ _ => rfl] at h; exact h) ?_
      exact en_lc (countsM B R lag low high) cnD (fun _ => true) (fun c => .int c.2.2) (by omega) (fun _ _ _ => rfl) (ei_list (ed_var rfl q5)) fun c hc w H3 k3 pw => ⟨_, fun Q qq => qq, rfl, fun H4 _ Q qq => qq H4 (Same.refl H4), fun _ => ed_op (ed_var rfl pw) ed_int (rd_ixT (d := .int c.2.2) rfl)⟩
    · refine q_set (d := .int (bestD B R lag low high)) (ed_min (ns := ((countsM B R lag low high).filter fun c => decide (c.2.2 = mostM B R lag low high)).map fun c => c.1) ?_ (by simpa using most_has hd)) fun vd H3 k3 pd => ?_
      · rw [List.map_map]
        exact en_lc (countsM B R lag low high) cnD (fun c => decide (c.2.2 = mostM B R lag low high)) (fun c => .int c.1) (by omega) (fun _ _ _ => rfl) (ei_list (ed_var rfl (q5.keep k2))) fun c hc w H4 k4 pw => ⟨_, fun Q qq => qq, rfl, eb_T (ed_op (ed_op (ed_var rfl pw) ed_int (rd_ixT (d := .int c.2.2) rfl)) (ed_var rfl (pm.keep k4)) rd_eqI), fun _ => ed_op (ed_var rfl pw) ed_int (rd_ixT (d := .int c.1) rfl)⟩
      · have k13 := (k1.trans k2).trans k3
        exact s_ret (ed_tup (ea_cons (ed_var rfl pd) (ea_one (en_callS (es := (bestJ B R lag low high).map pairD) (ea_cons (ed_var rfl (p0.keep k13)) (ea_cons (ed_var rfl (p1.keep k13)) (ea_cons (ed_var rfl pd) (ea_one (ed_var rfl (p2.keep k13)))))) fun vs H4 s4 pv Q q => ⟨B, R, bestD B R lag low high, lag, pv, hB, hR, (k13.trans s4).tb _ tb, q⟩).dd)) (by show 2 ≤ sizeLine; decide)) fun v6 H6 k6 p6 => k v6 H6 (k13.trans k6) p6
theorem ok_best (T : Ty K mg w base) : Cal P w K mg base 9 "best" ["bridge", "room", "lag", "low", "high"] (spBest K) := by
  obtain ⟨fd, F, G⟩ := okF_best (P := P) (base := base) T
  exact ⟨(T.f_best).1, ⟨fd, G, bindsF F (by decide) fun _ _ _ _ _ _ _ us its hl hi => match us, hl, its, hi with | [_, _, _, _, _], _, [_, _, _], _ => ⟨_, rfl, rfl⟩⟩, F.kp⟩
theorem sc_lot : FnScope ["bridge", "room", "joining"] ["bridge", "room", "joining"] (defScope (top 54)) := ⟨rfl, rfl, rfl, by decide +kernel, rfl, by decide +kernel, by decide +kernel⟩
theorem okF_lot (T : Tx K mg w) : ∃ fd, FunD K "lot" "lot" (defArgs (top 54)) (defBody (top 54)) (defScope (top 54)) [] [] (He.ga K "lot") fd ∧ FnOk P w K mg base (L2.CX P w) 1 (He.ga K "lot") fd ["bridge", "room", "joining"] spLot := by
  obtain ⟨g, fd, F⟩ := T.f_lot
  refine ⟨fd, F, F.ok sc_lot (fun vs H Q E h => ?_) (fun cdv A outer s H vs Q E hr h => ?_)⟩
  · obtain ⟨ds, z, p, ⟨B, R, J, rfl, _⟩, _⟩ := h; exact p.length
  · obtain ⟨ds, z, p, ⟨B, R, J, rfl, rfl⟩, k⟩ := h
    obtain ⟨v, v1, v2, rfl, p0, p1, p2⟩ := ptA3 p
    refine ⟨_, pss_one (ps_ret (pe_op op_sub (pe_op op_add (pe_callB call_len_seq rfl T.n_len PySem.boot_len (pa_cons (pv 0) pa_nil)) (pe_callB call_len_seq rfl T.n_len PySem.boot_len (pa_cons (pv 1) pa_nil))) (pe_op op_mul pe_int (pe_callB call_len_seq rfl T.n_len PySem.boot_len (pa_cons (pv 2) pa_nil))))), ?_⟩
    exact s_ret ((ed_op (ed_op (ed_cb (ea_one (ed_var rfl p0)) rc_lenT) (ed_cb (ea_one (ed_var rfl p1)) rc_lenT) rd_ii) (ed_op ed_int (ed_cb (ea_one (ed_var rfl p2)) rc_lenL) (rd_ci (Or.inl ⟨by decide, by decide⟩))) rd_ii).to (by simp only [List.length_map])) k
theorem ok_lot (T : Tx K mg w) : Cal P w K mg base 1 "lot" ["bridge", "room", "joining"] spLot := by
  obtain ⟨fd, F, G⟩ := okF_lot (P := P) (base := base) T
  exact ⟨(T.f_lot).1, ⟨fd, G, F.bindsN fun _ _ _ _ _ _ us hl => match us, hl with | [_, _, _], _ => rfl⟩, F.kp⟩
end
end Ro
namespace Ro
open PySem PySem.Spec PyProof.Rows L2 PySem.W
variable [TabsC]
section
variable {K : PySem.W.Frag} {N : Addr → Prop} {σ : L2.St} {H H' : Hp} {a b p : Addr} {d e : PyData} {ds es : List PyData} {te ty : TE} {ta : TA} {i j : Int} {x y l : Str}
/-- a text in a tuple of two texts of the top -/
theorem eb_inT2 (h : EvD te σ H (.str l)) (hs : ∀ H : Hp, SqT K H a [.str x, .str y]) : EvB (tTest (tOp (rIn K false) te (tC (.ref a)))) σ H (decide (l = x ∨ l = y)) := fun H1 s Q q => h H1 s _ fun v H2 k p => by
  cases pt_str.mp p
  refine ⟨a, [.str x, .str y], rfl, .inr (hs H2), rfl, rfl, _, rfl, ?_⟩
  rw [show inV (.str l) [.str x, .str y] = decide (l = x ∨ l = y) from inV_str2]
  exact q H2 k
theorem eb_ninT2 (h : EvD te σ H (.str l)) (hs : ∀ H : Hp, SqT K H a [.str x, .str y]) : EvB (tTest (tOp (rIn K true) te (tC (.ref a)))) σ H (!decide (l = x ∨ l = y)) := fun H1 s Q q => h H1 s _ fun v H2 k p => by
  cases pt_str.mp p
  refine ⟨a, [.str x, .str y], rfl, .inr (hs H2), rfl, rfl, _, rfl, ?_⟩
  rw [show inV (.str l) [.str x, .str y] = decide (l = x ∨ l = y) from inV_str2]
  exact q H2 k
theorem ed_inT2 (h : EvD te σ H (.str l)) (hs : ∀ H : Hp, SqT K H a [.str x, .str y]) : EvD (tOp (rIn K false) te (tC (.ref a))) σ H (.bool (decide (l = x ∨ l = y))) := fun H1 s Q q => h H1 s _ fun v H2 k p => by
  cases pt_str.mp p
  refine ⟨a, [.str x, .str y], rfl, .inr (hs H2), rfl, rfl, ?_⟩
  rw [show inV (.str l) [.str x, .str y] = decide (l = x ∨ l = y) from inV_str2]
  exact q _ H2 k (pt_bl.mpr rfl)
/-! dict(pairs).get(i) -/
def mgI (l : List Pair) : List (Int × Int) := l.foldl (fun acc q => aput acc q.1 q.2) []
def optD : Option Int → PyData
  | some i => .int i
  | none => .none
theorem merge_fI : ∀ (l : List Pair) (acc : List (Int × Int)), mergeK (fI acc) (fI l) = fI (l.foldl (fun acc q => aput acc q.1 q.2) acc)
  | [], acc => rfl
  | q :: l, acc => by
    rw [List.foldl_cons, ← merge_fI l (aput acc q.1 q.2)]
    show mergeK (putK (fI acc) (.inl q.1) (.int q.2)) (fI l) = _
    rw [put_map (f := V.int) kI_inj acc q.1 q.2]
theorem pairs_refs : ∀ {J : List Pair} {xs : List V}, PtA H (J.map pairD) xs → ∃ ps : List Addr, xs = ps.map V.ref ∧ Paired (fun p kv => SqT K H p [kV kv.1, kv.2]) ps (fI J)
  | [], xs, h => by
    cases ptA_nil.mp h
    exact ⟨[], rfl, .nil⟩
  | q :: J, xs, h => by
    obtain ⟨v, vs, rfl, h1, h2⟩ := ptA_cons.mp h
    obtain ⟨ps, rfl, h3⟩ := pairs_refs h2
    obtain ⟨a, x, y, rfl, ha, px, py⟩ := pt_2.mp h1
    cases pt_int.mp px
    cases pt_int.mp py
    exact ⟨a :: ps, rfl, .cons (SqT.of ha) h3⟩
theorem ed_dictget {J : List Pair} (h : EvD te σ H (.list (J.map pairD))) (hy : EvD ty σ H (.int i)) :
    EvD (tDGet1 (tCB (fun xs H Q => ∃ (a : Addr) (ps : List Addr) (kvs : List (L2.Key × V)), xs = [.ref a] ∧ SqL K H a (ps.map V.ref) ∧ Paired (fun p kv => SqT K H p [kV kv.1, kv.2]) ps kvs ∧ ∀ p, H p = none → Q (.ref p) (upd H p (.dK (mergeK [] kvs)))) (tCons te tNil)) ty) σ H (optD (aget (mgI J) i)) := fun H1 s Q q =>
  h H1 s _ fun v H2 k p => by
    obtain ⟨a, xs, rfl, ha, hx⟩ := pt_lst.mp p
    obtain ⟨ps, rfl, hp⟩ := pairs_refs (K := K) hx
    refine ⟨a, ps, fI J, rfl, SqL.of ha, hp, fun f hf => ⟨f, rfl, .inl ⟨_, .inl upd_same⟩, hy _ ((s.trans k).trans (same_new hf)) _ fun y H3 k3 py => ?_⟩⟩
    cases pt_int.mp py
    have hd : H3 f = some (.dK (fI (mgI J))) := by
      rw [show (fI (mgI J)) = mergeK [] (fI J) from (merge_fI J []).symm]
      exact k3 _ _ upd_same
    refine ⟨_, DGet.k (k := .inl i) hd, q _ H3 ((k.trans (same_new hf)).trans k3) ?_⟩
    rw [val_map (f := V.int) kI_inj]
    cases aget (mgI J) i with
    | none => exact pt_non.mpr rfl
    | some n => exact pt_int.mpr rfl
theorem mg_mem {n m : Int} : ∀ (J : List Pair) (acc : List (Int × Int)), aget (J.foldl (fun acc q => aput acc q.1 q.2) acc) n = some m → (n, m) ∈ J ∨ aget acc n = some m
  | [], acc, h => .inr h
  | q :: J, acc, h => by
    rw [List.foldl_cons] at h
    rcases mg_mem J _ h with h | h
    · exact .inl (List.mem_cons_of_mem _ h)
    · by_cases e : n = q.1
      · subst e
        rw [aget_aput_self] at h
        cases h
        exact .inl (List.mem_cons_self ..)
      · rw [aget_aput_ne e] at h
        exact .inr h
theorem mgI_mem {J : List Pair} {n m : Int} (h : aget (mgI J) n = some m) : (n, m) ∈ J := by
  rcases mg_mem J [] h with h | h
  · exact h
  · cases h
end
end Ro
namespace Ro
open PySem PySem.Spec PyProof.Rows L2 PySem.W
variable [TabsC]
/-! ### fate: the mirror -/
def dialOf (e : Str) : Str := if e = "port" then "aport" else "astar"
/-- what row k says of the ring that row n heard: answered (true), taken (false) -/
def fateAt (R : Log) (e : Str) (n : Int) (k : Nat) : Option (Bool × Nat) :=
  if (rowAt R (k : Nat)).l = e then some (false, k) else if (decide ((rowAt R (k : Nat)).l = dialOf e) && PyData.eqv (rowAt R (k : Nat)).w (rowAt R n).w) = true then some (true, k) else none
def fateTo (R : Log) (e : Str) (n : Nat) (i : Nat) : Option (Bool × Nat) := (List.range i).findSome? fun j => fateAt R e n (n + 1 + j)
def fateM (R : Log) (e : Str) (n : Nat) : Option (Bool × Nat) := fateTo R e n (R.length - (n + 1))
def fateD : Option (Bool × Nat) → PyData
  | some (true, k) => .tuple [.str "answered", .int (k : Nat)]
  | some (false, k) => .tuple [.str "taken", .int (k : Nat)]
  | none => .tuple [.str "open", .none]
theorem fateTo_succ {R : Log} {e : Str} {n i : Nat} (h : fateTo R e n i = none) : fateTo R e n (i + 1) = fateAt R e n (n + 1 + i) := by
  unfold fateTo at h ⊢
  rw [List.range_succ, List.findSome?_append, h]
  simp
theorem fateTo_keep {R : Log} {e : Str} {n i j : Nat} {x : Bool × Nat} (h : fateTo R e n i = some x) (hj : i ≤ j) : fateTo R e n j = some x := by
  unfold fateTo at h ⊢
  obtain ⟨d, rfl⟩ := Nat.exists_eq_add_of_le hj
  rw [List.range_add, List.findSome?_append, h]
  rfl
theorem fateTo_lt {R : Log} {e : Str} {n i : Nat} {x : Bool × Nat} (h : fateTo R e n i = some x) : x.2 < n + 1 + i ∧ n < x.2 := by
  unfold fateTo at h
  obtain ⟨j, hj, e2⟩ := List.exists_of_findSome?_eq_some h
  have hj' := List.mem_range.mp hj
  unfold fateAt at e2
  split at e2
  · cases e2
    exact ⟨by show n + 1 + j < _; omega, by show n < n + 1 + j; omega⟩
  · split at e2
    · cases e2
      exact ⟨by show n + 1 + j < _; omega, by show n < n + 1 + j; omega⟩
    · cases e2
abbrev bell (l : Str) : Prop := l = "port" ∨ l = "star"
def spFate : Sp := SpD fun ds z => ∃ (R : Log) (e : Str) (n : Nat), ds = [logD R, .str e, .int (n : Nat)] ∧ LogOk R ∧ bell e ∧ n < R.length ∧ z = fateD (fateM R e n)
structure RingOk (B : Log) (n : Nat) : Prop where
  lt : n < B.length
  bl : bell (rowAt B (n : Nat)).l
def spNeedRing : Sp := SpD fun ds z => ∃ (B : Log) (n : Nat), ds = [logD B, .int (n : Nat)] ∧ LogOk B ∧ RingOk B n ∧ z = .none
theorem dial_kv {e : Str} (h : bell e) : (e, dialOf e) ∈ dialKV := by
  rcases h with rfl | rfl
  · exact List.mem_cons_self ..
  · exact List.mem_cons_of_mem _ (List.mem_cons_self ..)
/-! ### ring_of: the mirror -/
def swapP (q : Pair) : Pair := (q.2, q.1)
def ringOf (B R : Log) (J : List Pair) (n : Nat) : List PyData := match aget (mgI J) (n : Nat) with
  | none => [.str "never"]
  | some h => match fateM R (rowAt B (n : Nat)).l h.toNat with
    | some (true, k) => [.str "answered", .int h, .int (k : Nat), optD (aget (mgI (J.map swapP)) (k : Nat))]
    | some (false, k) => [.str "taken", .int h, .int (k : Nat)]
    | none => [.str "open", .int h]
def spRingOf : Sp := SpD fun ds z => ∃ (B R : Log) (J : List Pair) (n : Nat), ds = [logD B, logD R, .list (J.map pairD), .int (n : Nat)] ∧ LogOk B ∧ LogOk R ∧ (∀ q ∈ J, IsP B R q) ∧ J.length ≤ 2000 ∧ RingOk B n ∧ z = .tuple (ringOf B R J n)
def spIsStretch : Sp := SpD fun ds z => ∃ (lag low high : Int), ds = [.int lag, .int low, .int high] ∧ 0 ≤ lag ∧ lag ≤ 60 ∧ -1440 ≤ low ∧ low ≤ 1200 ∧ low ≤ high ∧ high ≤ low + 240 ∧ z = .bool true
def spNamed : Sp := SpD fun ds z => ∃ (ns : List Int) (o : Option Nat), ds = [.list (ns.map .int), optD (o.map fun k => ((k : Nat) : Int))] ∧ (∀ k, o = some k → k < ns.length) ∧ z = (match o with | none => .none | some k => .int (ns.getD k 0))
section
variable {P : Program} {w : World} {K : PySem.W.Frag} {mg : Str → Option Value} {base : Heap}
theorem sc_fate : FnScope ["log", "engine", "number", "dial", "other", "minute", "line", "what"] ["log", "engine", "number"] (defScope (top 57)) := ⟨rfl, rfl, rfl, by decide +kernel, rfl, by decide +kernel, by decide +kernel⟩
theorem okF_fate (T : Tx K mg w) : ∃ fd, FunD K "fate" "fate" (defArgs (top 57)) (defBody (top 57)) (defScope (top 57)) [] [] (He.ga K "fate") fd ∧ FnOk P w K mg base (L2.CX P w) 2 (He.ga K "fate") fd ["log", "engine", "number"] spFate := by
  have C1 : Cal P w K mg base 1 "dial_of" ["engine"] spDial := ok_dial_of T
  obtain ⟨g, fd, F⟩ := T.f_fate
  refine ⟨fd, F, F.ok sc_fate (fun vs H Q E h => ?_) (fun cdv A outer s H vs Q E hr h => ?_)⟩
  · obtain ⟨ds, z, p, ⟨R, e, n, rfl, _⟩, _⟩ := h; exact p.length
  · obtain ⟨ds, z, p, ⟨R, e, n, rfl, hR, he, hn, rfl⟩, k⟩ := h
    obtain ⟨v, v1, v2, rfl, p0, p1, p2⟩ := ptA3 p
    cases pt_str.mp p1
    cases pt_int.mp p2
    have nd := sc_fate.nd
    have hu := hr.units
    refine ⟨_, pss_cons (ps_set (i := 3) nd rfl (Or.inl rfl) (pe_cal C1 hr (pa_cons (pv 1) pa_nil)))
      (pss_cons (ps_for (passes_of rfl) rfl (pi_range2 rfl T.n_range (pa_cons (pe_op op_add (pv 2) pe_int) (pa_cons (pe_callB call_len_seq rfl T.n_len PySem.boot_len (pa_cons (pv 0) pa_nil)) pa_nil))) (pg_name (i := 4) nd rfl (.inl rfl))
        (pss_cons (ps_asg (pe_ix ix_tup (pv 0) (pv 4) (fun _ _ => rfl)) (pg_tup rfl (pgs_cons (pg_name (i := 5) nd rfl (.inl rfl)) (pgs_cons (pg_name (i := 6) nd rfl (.inl rfl)) (pgs_cons (pg_name (i := 7) nd rfl (.inl rfl)) pgs_nil)))))
        (pss_cons (ps_if (pt_cmpR op_eq (pv 6) (pv 1) (nomark _)) (pss_one (ps_ret (pe_tup (pa_cons pe_str (pa_cons (pv 4) pa_nil))))) pss_nil)
        (pss_one (ps_if (PW.pt (pw_and (pt_cmpR op_eq (pv 6) (pv 3) (nomark _)) (pw_and1 (pt_cmpR (op_eqP hu) (pv 7) (pe_ix ix_tup (pe_ix ix_tup (pv 0) (pv 2) (fun _ _ => rfl)) pe_int (fun _ _ => rfl)) (nomark _))))) (pss_one (ps_ret (pe_tup (pa_cons pe_str (pa_cons (pv 4) pa_nil))))) pss_nil)))))
      (pss_one (ps_ret (pe_tup (pa_cons pe_str (pa_cons pe_non pa_nil)))))), ?_⟩
    refine q_set (d := .str (dialOf e)) (ed_call (ea_one (ed_var rfl p1)) ⟨_, dial_kv he, rfl, rfl⟩) fun vd H1 k1 pd => ?_
    cases pt_str.mp pd
    have hl := hR.len
    have e0 : EvD (tVar 0) [some v, some (.str e), some (.int (n : Nat)), some (.str (dialOf e)), none, none, none, none] H1 (logD R) := ed_var rfl (p0.keep k1)
    refine s_for2 (N := N0) (List.range (R.length - (n + 1))) (fun j => .int (((n + 1 + j : Nat)) : Int)) (by
        have e1 : ((R.length : Int) - (((n : Nat) : Int) + 1)).toNat = R.length - (n + 1) := by omega
        have e2 : (List.range (R.length - (n + 1))).map (fun j => PyData.int (((n + 1 + j : Nat)) : Int)) = (List.range ((R.length : Int) - (((n : Nat) : Int) + 1)).toNat).map (fun k => PyData.int ((((n : Nat) : Int) + 1) + (k : Nat))) := by
          rw [e1]
          congr 1
        rw [e2]
        exact ef_rng2 (ed_op (ed_var rfl (pt_int.mpr rfl)) ed_int rd_ii) ((ed_cb (ea_one e0) (rc_lenT (K := K))).to (by rw [List.length_map])) (by omega))
      (fun H2 i σ' H' => (∃ x4 x5 x6 x7, σ' = [some v, some (.str e), some (.int (n : Nat)), some (.str (dialOf e)), x4, x5, x6, x7]) ∧ fateTo R e n i = none ∧ Same H H')
      (fun H2 s2 => ⟨⟨none, none, none, none, rfl⟩, rfl, k1.trans s2⟩) (fun H2 i σ' H' H'' ⟨e, f, g⟩ s => ⟨e, f, g.trans s⟩) (fun H2 s2 i hi σ' H' u kp ⟨⟨x4, x5, x6, x7, ee⟩, hf, hs⟩ pu => ?_) (fun H2 s2 σ' H' kp ⟨⟨x4, x5, x6, x7, ee⟩, hf, hs⟩ => ?_)
    · subst ee
      rw [List.length_range] at hi
      rw [List.getElem_range] at pu
      cases pt_int.mp pu
      have hk : (n + 1 + i) < R.length := by omega
      have hz := hR.ok _ (rowAt_mem (i := ((n + 1 + i : Nat) : Int)) (by omega) (by omega))
      have hfin : ∀ x, fateAt R e n (n + 1 + i) = some x → fateM R e n = some x := fun x hx => fateTo_keep (i := i + 1) (by rw [fateTo_succ hf]; exact hx) (by omega)
      refine q_unp3 (ed_op (ed_var rfl (p0.keep hs)) (ed_var rfl (pt_int.mpr rfl)) (rd_ixT (d := rowD (rowAt R ((n + 1 + i : Nat) : Int))) (atI_log (by omega) (by omega)))) fun x y z H3 k3 px py pz => ?_
      cases pt_str.mp py
      refine q_when (eb_T (ed_op (ed_var rfl (pt_str.mpr rfl)) (ed_var rfl (pt_str.mpr rfl)) rd_eqS)) (fun hc H4 k4 => ?_) (fun hc H4 k4 => ?_)
      · have hx : fateAt R e n (n + 1 + i) = some (false, n + 1 + i) := if_pos (of_decide_eq_true hc)
        refine s_ret (ed_tup (ea_cons ed_str (ea_one (ed_var rfl (pt_int.mpr rfl)))) (by show 2 ≤ sizeLine; decide)) fun w H5 k5 p5 => k w H5 (((hs.trans k3).trans k4).trans k5) ?_
        rw [hfin _ hx]
        exact p5
      · have hs4 := (hs.trans k3).trans k4
        refine s_when (b := decide ((rowAt R ((n + 1 + i : Nat) : Int)).l = dialOf e) && PyData.eqv (rowAt R ((n + 1 + i : Nat) : Int)).w (rowAt R (n : Nat)).w) (eb_and (eb_T (ed_op (ed_var rfl (pt_str.mpr rfl)) (ed_var rfl (pt_str.mpr rfl)) rd_eqS)) fun _ =>
           eb_T (ed_op (ed_var rfl (pz.keep k4)) (ed_op (ed_op (ed_var rfl (p0.keep hs4)) (ed_var rfl (pt_int.mpr rfl)) (rd_ixT (d := rowD (rowAt R (n : Nat))) (atI_log (by omega) (by omega)))) ed_int (rd_ixT (d := (rowAt R (n : Nat)).w) rfl)) (rd_eqP (K := K) ?_))) (fun hc2 H5 k5 => ?_) (fun hc2 H5 k5 => ?_)
        · rcases hz.w.fl with ⟨s, es⟩ | ⟨s, es⟩ <;> rw [es] <;> simp [PyData.depth]
        · have hx : fateAt R e n (n + 1 + i) = some (true, n + 1 + i) := by
            unfold fateAt
            rw [if_neg (of_decide_eq_false hc), if_pos hc2]
          refine s_ret (ed_tup (ea_cons ed_str (ea_one (ed_var rfl (pt_int.mpr rfl)))) (by show 2 ≤ sizeLine; decide)) fun w H6 k6 p6 => k w H6 ((hs4.trans k5).trans k6) ?_
          rw [hfin _ hx]
          exact p6
        · have hx : fateAt R e n (n + 1 + i) = none := by
            unfold fateAt
            rw [if_neg (of_decide_eq_false hc), if_neg (by rw [hc2]; exact Bool.false_ne_true)]
          exact ⟨kp.trans ((k3.trans k4).trans k5).kp, ⟨_, _, _, _, rfl⟩, by rw [fateTo_succ hf]; exact hx, hs4.trans k5⟩
    · subst ee
      rw [List.length_range] at hf
      have hd : EvD _ [some v, some (.str e), some (.int (n : Nat)), some (.str (dialOf e)), x4, x5, x6, x7] H' (.tuple [.str "open", .none]) := ed_tup (ea_cons ed_str (ea_one ed_non)) (by show 2 ≤ sizeLine; decide)
      refine s_ret hd fun w H5 k5 p5 => k w H5 (hs.trans k5) ?_
      rw [show fateM R e n = none from hf]
      exact p5
theorem ok_fate (T : Tx K mg w) : Cal P w K mg base 2 "fate" ["log", "engine", "number"] spFate := by
  obtain ⟨fd, F, G⟩ := okF_fate (P := P) (base := base) T
  exact ⟨(T.f_fate).1, ⟨fd, G, F.bindsN fun _ _ _ _ _ _ us hl => match us, hl with | [_, _, _], _ => rfl⟩, F.kp⟩
end
end Ro
namespace Ro
open PySem PySem.Spec PyProof.Rows L2 PySem.W
variable [TabsC]
theorem rc_min2 {i j : Int} : RCD (fun xs H Q => ∃ i j, xs = [.int i, .int j] ∧ Q (.int (if j < i then j else i)) H) [.int i, .int j] (.int (if j < i then j else i)) := fun H xs Q p q => by
  obtain ⟨v1, v2, rfl, p1, p2⟩ := ptA2 p
  cases pt_int.mp p1
  cases pt_int.mp p2
  exact ⟨i, j, rfl, q _ H (Same.refl H) (pt_int.mpr rfl)⟩
theorem optD_isN {o : Option Int} {v : V} {H : Hp} (p : Pt H (optD o) v) : decide (v = V.non) = o.isNone := by
  cases o with
  | none => cases pt_non.mp p; rfl
  | some n => cases pt_int.mp p; rfl
section
variable {P : Program} {w : World} {K : PySem.W.Frag} {mg : Str → Option Value} {base : Heap}
theorem sc_need_ring : FnScope ["bridge", "number"] ["bridge", "number"] (defScope (top 60)) := ⟨rfl, rfl, rfl, by decide +kernel, rfl, by decide +kernel, by decide +kernel⟩
theorem okF_need_ring (T : Tx K mg w) : ∃ fd, FunD K "need_ring" "need_ring" (defArgs (top 60)) (defBody (top 60)) (defScope (top 60)) [] [] (He.ga K "need_ring") fd ∧ FnOk P w K mg base (L2.CX P w) 1 (He.ga K "need_ring") fd ["bridge", "number"] spNeedRing := by
  obtain ⟨g, fd, F⟩ := T.f_need_ring
  refine ⟨fd, F, F.ok sc_need_ring (fun vs H Q E h => ?_) (fun cdv A outer s H vs Q E hr h => ?_)⟩
  · obtain ⟨ds, z, p, ⟨B, n, rfl, _⟩, _⟩ := h; exact p.length
  · obtain ⟨ds, z, p, ⟨B, n, rfl, hB, hn, rfl⟩, k⟩ := h
    obtain ⟨v, v1, rfl, p0, p1⟩ := ptA2 p
    cases pt_int.mp p1
    refine ⟨_, pss_cons (ps_if (PW.pt (pw_or (pt_not (pt_val (pe_callB call_isi rfl T.n_isinstance (by decide +kernel) (pa_cons (pv 1) (pa_cons (pe_ty (T := "int") T.n_int (by decide +kernel)) pa_nil)))))
          (pw_or (pt_val (pe_callB call_isi rfl T.n_isinstance (by decide +kernel) (pa_cons (pv 1) (pa_cons (pe_ty (T := "bool") T.n_bool (by decide +kernel)) pa_nil))))
          (pw_or1 (pt_not (pt_chain op_le op_lt pe_int (pv 1) (pe_callB call_len_seq rfl T.n_len PySem.boot_len (pa_cons (pv 0) pa_nil)))))))) (pss_one ps_never) pss_nil)
      (pss_one (ps_if (pt_cmpR op_notIn_seq (pe_ix ix_tup (pe_ix ix_tup (pv 0) (pv 1) (fun _ _ => rfl)) pe_int (fun _ _ => rfl)) (pe_gr T.t_BELLS_rings.1) rfl) (pss_one ps_never) pss_nil)), ?_⟩
    have e0 : EvD (tVar 0) (start ["bridge", "number"] [v, .int (n : Nat)]) H (logD B) := ed_var rfl p0
    have e1 : EvD (tVar 1) (start ["bridge", "number"] [v, .int (n : Nat)]) H (.int (n : Nat)) := ed_var rfl p1
    have hl := hn.lt
    refine q_when (b := false) ((eb_or (eb_not (eb_B (ed_isi e1 (kit_int _)))) fun _ => eb_or (eb_B (ed_isi e1 (kit_bool _))) fun _ => eb_not (eb_T (ed_chain ed_int e1 (fun _ => (ed_cb (ea_one e0) (rc_lenT (K := K))).to (by rw [List.length_map])) rd_ib fun _ => rd_ib))).to ?_) (fun z => by cases z) (fun _ H1 k1 => ?_)
    · simp only [isInt, isBool]
      rw [decide_eq_true (by omega), decide_eq_true (by omega)]
      rfl
    · refine s_when (b := false) ((eb_ninT2 (ed_op (ed_op (e0.mono k1) (e1.mono k1) (rd_ixT (d := rowD (rowAt B (n : Nat))) (atI_log (by omega) (by omega)))) ed_int (rd_ixT (d := .str (rowAt B (n : Nat)).l) rfl)) T.t_BELLS_rings.2).to ?_) (fun z => by cases z) (fun _ H2 k2 => ?_)
      · rw [decide_eq_true hn.bl]
        rfl
      · exact k .non H2 (k1.trans k2) (pt_non.mpr rfl)
theorem ok_need_ring (T : Tx K mg w) : Cal P w K mg base 1 "need_ring" ["bridge", "number"] spNeedRing := by
  obtain ⟨fd, F, G⟩ := okF_need_ring (P := P) (base := base) T
  exact ⟨(T.f_need_ring).1, ⟨fd, G, F.bindsN fun _ _ _ _ _ _ us hl => match us, hl with | [_, _], _ => rfl⟩, F.kp⟩
theorem sc_is_stretch : FnScope ["lag", "low", "high"] ["lag", "low", "high"] (defScope (top 68)) := ⟨rfl, rfl, rfl, by decide +kernel, rfl, by decide +kernel, by decide +kernel⟩
theorem okF_is_stretch (T : Tx K mg w) : ∃ fd, FunD K "is_stretch" "is_stretch" (defArgs (top 68)) (defBody (top 68)) (defScope (top 68)) [] [] (He.ga K "is_stretch") fd ∧ FnOk P w K mg base (L2.CX P w) 3 (He.ga K "is_stretch") fd ["lag", "low", "high"] spIsStretch := by
  have C1 : Cal P w K mg base 2 "is_from_to" ["thing", "least", "most"] spIsFromTo := ok_is_from_to T
  obtain ⟨g, fd, F⟩ := T.f_is_stretch
  refine ⟨fd, F, F.ok sc_is_stretch (fun vs H Q E h => ?_) (fun cdv A outer s H vs Q E hr h => ?_)⟩
  · obtain ⟨ds, z, p, ⟨a, b, c, rfl, _⟩, _⟩ := h; exact p.length
  · obtain ⟨ds, z, p, ⟨lag, low, high, rfl, h1, h2, h3, h4, h5, h6, rfl⟩, k⟩ := h
    obtain ⟨v, v1, v2, rfl, p0, p1, p2⟩ := ptA3 p
    refine ⟨_, pss_cons (ps_if (PW.pt (pw_or (pt_not (pt_val (pe_cal C1 hr (pa_cons (pv 0) (pa_cons pe_int (pa_cons (pe_gi T.i_MOST_LAG) pa_nil))))))
          (pw_or1 (pt_not (pt_val (pe_cal C1 hr (pa_cons (pv 1) (pa_cons (pe_un un_neg (pe_gi T.i_MOST_APART)) (pa_cons (pe_gi T.i_MOST_APART) pa_nil))))))))) (pss_one (ps_ret pe_bl)) pss_nil)
      (pss_one (ps_ret (pe_cal C1 hr (pa_cons (pv 2) (pa_cons (pv 1) (pa_cons (pe_callB (call_min2 rfl) rfl T.n_min (by decide +kernel) (pa_cons (pe_gi T.i_MOST_APART) (pa_cons (pe_op op_add (pv 1) (pe_gi T.i_MOST_WIDE)) pa_nil))) pa_nil)))))), ?_⟩
    have e0 : EvD (tVar 0) (start ["lag", "low", "high"] [v, v1, v2]) H (.int lag) := ed_var rfl p0
    have e1 : EvD (tVar 1) (start ["lag", "low", "high"] [v, v1, v2]) H (.int low) := ed_var rfl p1
    have e2 : EvD (tVar 2) (start ["lag", "low", "high"] [v, v1, v2]) H (.int high) := ed_var rfl p2
    refine q_when (b := false) ((eb_or (eb_not (eb_B (ed_call (ea_cons e0 (ea_cons ed_int (ea_one ed_int))) ⟨_, 0, 60, rfl, rfl⟩))) fun _ => eb_not (eb_B (ed_call (ea_cons e1 (ea_cons (ed_un (z := .int (-1440)) ed_int fun H x Q p q => ⟨1440, pt_int.mp p, q _ H (Same.refl H) (pt_int.mpr rfl)⟩) (ea_one ed_int))) ⟨_, -1440, 1440, rfl, rfl⟩))).to ?_) (fun z => by cases z) (fun _ H1 k1 => ?_)
    · simp only [isFromTo]
      rw [decide_eq_true h1, decide_eq_true h2, decide_eq_true h3, decide_eq_true (show low ≤ 1440 by omega)]
      rfl
    · refine s_ret ((ed_call (ea_cons (e2.mono k1) (ea_cons (e1.mono k1) (ea_one (ed_cb (ea_cons ed_int (ea_one (ed_op (e1.mono k1) ed_int rd_ii))) rc_min2)))) ⟨_, low, _, rfl, rfl⟩).to ?_) fun v3 H3 k3 p3 => k v3 H3 (k1.trans k3) p3
      simp only [isFromTo]
      rw [decide_eq_true h5, decide_eq_true (by split <;> omega)]
      rfl
theorem ok_is_stretch (T : Tx K mg w) : Cal P w K mg base 3 "is_stretch" ["lag", "low", "high"] spIsStretch := by
  obtain ⟨fd, F, G⟩ := okF_is_stretch (P := P) (base := base) T
  exact ⟨(T.f_is_stretch).1, ⟨fd, G, F.bindsN fun _ _ _ _ _ _ us hl => match us, hl with | [_, _, _], _ => rfl⟩, F.kp⟩
theorem sc_named : FnScope ["numbers", "at"] ["numbers", "at"] (defScope (top 70)) := ⟨rfl, rfl, rfl, by decide +kernel, rfl, by decide +kernel, by decide +kernel⟩
theorem okF_named (T : Tx K mg w) : ∃ fd, FunD K "named" "named" (defArgs (top 70)) (defBody (top 70)) (defScope (top 70)) [] [] (He.ga K "named") fd ∧ FnOk P w K mg base (L2.CX P w) 1 (He.ga K "named") fd ["numbers", "at"] spNamed := by
  obtain ⟨g, fd, F⟩ := T.f_named
  refine ⟨fd, F, F.ok sc_named (fun vs H Q E h => ?_) (fun cdv A outer s H vs Q E hr h => ?_)⟩
  · obtain ⟨ds, z, p, ⟨ns, o, rfl, _⟩, _⟩ := h; exact p.length
  · obtain ⟨ds, z, p, ⟨ns, o, rfl, ho, rfl⟩, k⟩ := h
    obtain ⟨v, v1, rfl, p0, p1⟩ := ptA2 p
    refine ⟨_, pss_cons (ps_if (pt_cmpR op_isN1 (pv 1) pe_non (nomark _)) (pss_one (ps_ret pe_non)) pss_nil)
      (pss_one (ps_ret (pe_ix ix_list (pv 0) (pv 1) (fun _ _ => rfl)))), ?_⟩
    have e0 : EvD (tVar 0) (start ["numbers", "at"] [v, v1]) H (.list (ns.map .int)) := ed_var rfl p0
    have e1 : EvD (tVar 1) (start ["numbers", "at"] [v, v1]) H (optD (o.map fun k => ((k : Nat) : Int))) := ed_var rfl p1
    refine q_when (eb_isN e1 fun H2 w p => optD_isN p) (fun hc H1 k1 => ?_) (fun hc H1 k1 => ?_)
    · cases o with
      | some n => cases hc
      | none => exact s_ret ed_non fun v3 H3 k3 p3 => k v3 H3 (k1.trans k3) p3
    · cases o with
      | none => cases hc
      | some n =>
        have hn := ho n rfl
        refine s_ret (ed_op (e0.mono k1) (e1.mono k1) (rd_ixL (d := .int (ns.getD n 0)) ?_)) fun v3 H3 k3 p3 => k v3 H3 (k1.trans k3) p3
        refine atI_int (x := PyData.int (ns.getD n 0)) (by show (0 : Int) ≤ (n : Nat); omega) ?_
        show (ns.map PyData.int)[n]? = _
        rw [List.getElem?_map, List.getD_eq_getElem?_getD, List.getElem?_eq_getElem hn]
        rfl
theorem ok_named (T : Tx K mg w) : Cal P w K mg base 1 "named" ["numbers", "at"] spNamed := by
  obtain ⟨fd, F, G⟩ := okF_named (P := P) (base := base) T
  exact ⟨(T.f_named).1, ⟨fd, G, F.bindsN fun _ _ _ _ _ _ us hl => match us, hl with | [_, _], _ => rfl⟩, F.kp⟩
end
end Ro
namespace Ro
open PySem PySem.Spec PyProof.Rows L2 PySem.W
variable [TabsC]
theorem bell_of {l : Str} (h : bell l) : bell l := h
section
variable {P : Program} {w : World} {K : PySem.W.Frag} {mg : Str → Option Value} {base : Heap}
theorem sc_ring_of : FnScope ["bridge", "room", "joining", "number", "heard", "word", "other", "seen", "b", "r"] ["bridge", "room", "joining", "number"] (defScope (top 61)) := ⟨rfl, rfl, rfl, by decide +kernel, rfl, by decide +kernel, by decide +kernel⟩
theorem okF_ring_of (T : Tx K mg w) : ∃ fd, FunD K "ring_of" "ring_of" (defArgs (top 61)) (defBody (top 61)) (defScope (top 61)) [] [] (He.ga K "ring_of") fd ∧ FnOk P w K mg base (L2.CX P w) 3 (He.ga K "ring_of") fd ["bridge", "room", "joining", "number"] spRingOf := by
  have C1 : Cal P w K mg base 1 "need_ring" ["bridge", "number"] spNeedRing := ok_need_ring T
  have C2 : Cal P w K mg base 2 "fate" ["log", "engine", "number"] spFate := ok_fate T
  obtain ⟨g, fd, F⟩ := T.f_ring_of
  refine ⟨fd, F, F.ok sc_ring_of (fun vs H Q E h => ?_) (fun cdv A outer s H vs Q E hr h => ?_)⟩
  · obtain ⟨ds, z, p, ⟨B, R, J, n, rfl, _⟩, _⟩ := h; exact p.length
  · obtain ⟨ds, z, p, ⟨B, R, J, n, rfl, hB, hR, hJ, hJl, hn, rfl⟩, k⟩ := h
    obtain ⟨v, v1, v2, v3, rfl, p0, p1, p2, p3⟩ := ptA4 p
    cases pt_int.mp p3
    have nd := sc_ring_of.nd
    have hu := hr.units
    refine ⟨_, pss_cons (ps_expr (pe_cal C1 (hr.mono (by decide)) (pa_cons (pv 0) (pa_cons (pv 3) pa_nil))))
      (pss_cons (ps_set (i := 4) nd rfl (Or.inl rfl) (pe_dget1 hr.u1 (pe_callTy (call_dictP rfl) rfl T.n_dict (by decide +kernel) (pa_cons (pv 2) pa_nil)) (pv 3) ⟨rfl, rfl, rfl, rfl⟩))
      (pss_cons (ps_if (pt_cmpR op_isN1 (pv 4) pe_non (nomark _)) (pss_one (ps_ret (pe_tup (pa_cons pe_str pa_nil)))) pss_nil)
      (pss_cons (ps_asg (pe_cal C2 hr (pa_cons (pv 1) (pa_cons (pe_ix ix_tup (pe_ix ix_tup (pv 0) (pv 3) (fun _ _ => rfl)) pe_int (fun _ _ => rfl)) (pa_cons (pv 4) pa_nil)))) (pg_tup rfl (pgs_cons (pg_name (i := 5) nd rfl (.inl rfl)) (pgs_cons (pg_name (i := 6) nd rfl (.inl rfl)) pgs_nil))))
      (pss_cons (ps_if (pt_cmpR op_eq (pv 5) pe_str (nomark _)) (pss_cons (ps_set (i := 7) nd rfl (Or.inl rfl) (pe_dget1 hr.u1 (pe_callTy (call_dictP rfl) rfl T.n_dict (by decide +kernel) (pa_cons
          (pe_lc (own := [("b", 8), ("r", 9)]) (g := gTup _ 2 (gCons (gName 8) (gCons (gName 9) gNil))) (tt := tYes) rfl nd (pi_list (pv 2)) (blkOk_by (N := ["bridge", "room", "joining", "number", "heard", "word", "other", "seen", "b", "r"]) (sc := defScope (top 61)) (by decide +kernel)) (fun _ _ _ _ _ => pg_tup rfl (pgs_cons (pg_name (i := 8) nd rfl (.inl rfl)) (pgs_cons (pg_name (i := 9) nd rfl (.inl rfl)) pgs_nil))) (fun _ _ _ _ _ => pts_nil)
            (fun _ _ _ _ _ => pe_tup (pa_cons (pv 9) (pa_cons (pv 8) pa_nil)))) pa_nil)) (pv 6) ⟨rfl, rfl, rfl, rfl⟩))
         (pss_one (ps_ret (pe_tup (pa_cons (pv 5) (pa_cons (pv 4) (pa_cons (pv 6) (pa_cons (pv 7) pa_nil)))))))) pss_nil)
      (pss_cons (ps_if (pt_cmpR op_eq (pv 5) pe_str (nomark _)) (pss_one (ps_ret (pe_tup (pa_cons (pv 5) (pa_cons (pv 4) (pa_cons (pv 6) pa_nil)))))) pss_nil)
      (pss_one (ps_ret (pe_tup (pa_cons (pv 5) (pa_cons (pv 4) pa_nil)))))))))), ?_⟩
    have hnl := hn.lt
    have e0 : EvD (tVar 0) (start ["bridge", "room", "joining", "number", "heard", "word", "other", "seen", "b", "r"] [v, v1, v2, .int (n : Nat)]) H (logD B) := ed_var rfl p0
    have e2 : EvD (tVar 2) (start ["bridge", "room", "joining", "number", "heard", "word", "other", "seen", "b", "r"] [v, v1, v2, .int (n : Nat)]) H (.list (J.map pairD)) := ed_var rfl p2
    have e3 : EvD (tVar 3) (start ["bridge", "room", "joining", "number", "heard", "word", "other", "seen", "b", "r"] [v, v1, v2, .int (n : Nat)]) H (.int (n : Nat)) := ed_var rfl p3
    refine q_drop (ed_call (ea_cons e0 (ea_one e3)) ⟨B, n, rfl, hB, hn, rfl⟩) fun H1 k1 => ?_
    refine q_set (d := optD (aget (mgI J) (n : Nat))) (ed_dictget (e2.mono k1) (e3.mono k1)) fun vh H2 k2 ph => ?_
    refine q_when (eb_isN (ed_var rfl ph) fun H2 w p => optD_isN p) (fun hc H3 k3 => ?_) (fun hc H3 k3 => ?_)
    · have hd : EvD _ [some v, some v1, some v2, some (.int (n : Nat)), some vh, none, none, none, none, none] H3 (.tuple [.str "never"]) := ed_tup (ea_one ed_str) (by show 1 ≤ sizeLine; decide)
      refine s_ret hd fun w H4 k4 p4 => k w H4 (((k1.trans k2).trans k3).trans k4) ?_
      have hq : ringOf B R J n = [.str "never"] := by
        unfold ringOf
        rw [Option.isNone_iff_eq_none.mp hc]
      rw [hq]
      exact p4
    · obtain ⟨h, eh⟩ : ∃ h, aget (mgI J) (n : Nat) = some h := by
        cases e : aget (mgI J) (n : Nat) with
        | none => rw [e] at hc; cases hc
        | some h => exact ⟨h, rfl⟩
      rw [eh] at ph
      have hI := hJ _ (mgI_mem eh)
      have hr0 := hI.r0
      have hr1 := hI.r1
      obtain ⟨m, rfl⟩ : ∃ m : Nat, h = (m : Nat) := ⟨h.toNat, by simp only at hr0; omega⟩
      simp only at hr1
      have hm : m < R.length := by omega
      have hs3 := (k1.trans k2).trans k3
      have eq0 : ringOf B R J n = (match fateM R (rowAt B (n : Nat)).l m with
        | some (true, k) => [.str "answered", .int (m : Nat), .int (k : Nat), optD (aget (mgI (J.map swapP)) (k : Nat))]
        | some (false, k) => [.str "taken", .int (m : Nat), .int (k : Nat)]
        | none => [.str "open", .int (m : Nat)]) := by
        unfold ringOf
        rw [eh]
        rfl
      have ef : EvD (tCall spFate [] E0 (tCons (tVar 1) (tCons (tOp (rIxT K) (tOp (rIxT K) (tVar 0) (tVar 3)) (tC (.int 1))) (tCons (tVar 4) tNil)))) [some v, some v1, some v2, some (.int (n : Nat)), some vh, none, none, none, none, none] H3 (fateD (fateM R (rowAt B (n : Nat)).l m)) :=
        ed_call (ea_cons (ed_var rfl (p1.keep hs3)) (ea_cons (ed_op (r := rIxT K) (ed_op (r := rIxT K) (ed_var rfl (p0.keep hs3)) (ed_var rfl (pt_int.mpr rfl)) (rd_ixT (d := rowD (rowAt B (n : Nat))) (atI_log (by omega) (by omega)))) ed_int (rd_ixT (d := .str (rowAt B (n : Nat)).l) rfl)) (ea_one (ed_var rfl (ph.keep k3)))))
          ⟨R, (rowAt B (n : Nat)).l, m, rfl, hR, hn.bl, hm, rfl⟩
      cases hf : fateM R (rowAt B (n : Nat)).l m with
      | none =>
        rw [hf] at ef eq0
        refine q_unp2 ef fun x y H4 k4 px py => ?_
        cases pt_str.mp px
        refine q_when (b := false) ((eb_T (ed_op (ed_var rfl (pt_str.mpr rfl)) ed_str rd_eqS)).to (by decide +kernel)) (fun z => by cases z) (fun _ H5 k5 => ?_)
        refine q_when (b := false) ((eb_T (ed_op (ed_var rfl (pt_str.mpr rfl)) ed_str rd_eqS)).to (by decide +kernel)) (fun z => by cases z) (fun _ H6 k6 => ?_)
        have s6 := ((k3.trans k4).trans k5).trans k6
        have hd : EvD _ [some v, some v1, some v2, some (.int (n : Nat)), some vh, some (.str "open"), some y, none, none, none] H6 (.tuple [.str "open", .int (m : Nat)]) := ed_tup (ea_cons (ed_var (n := 5) rfl (pt_str.mpr rfl)) (ea_one (ed_var (n := 4) rfl (ph.keep s6)))) (by show 2 ≤ sizeLine; decide)
        refine s_ret hd fun w H7 k7 p7 => k w H7 (((k1.trans k2).trans s6).trans k7) ?_
        rw [eq0]
        exact p7
      | some q =>
        obtain ⟨b, j⟩ := q
        cases b with
        | false =>
          rw [hf] at ef eq0
          refine q_unp2 ef fun x y H4 k4 px py => ?_
          cases pt_str.mp px
          refine q_when (b := false) ((eb_T (ed_op (ed_var rfl (pt_str.mpr rfl)) ed_str rd_eqS)).to (by decide +kernel)) (fun z => by cases z) (fun _ H5 k5 => ?_)
          refine q_when (b := true) ((eb_T (ed_op (ed_var rfl (pt_str.mpr rfl)) ed_str rd_eqS)).to (by decide +kernel)) (fun _ H6 k6 => ?_) (fun z => by cases z)
          have s6 := ((k3.trans k4).trans k5).trans k6
          have hd : EvD _ [some v, some v1, some v2, some (.int (n : Nat)), some vh, some (.str "taken"), some y, none, none, none] H6 (.tuple [.str "taken", .int (m : Nat), .int (j : Nat)]) := ed_tup (ea_cons (ed_var (n := 5) rfl (pt_str.mpr rfl)) (ea_cons (ed_var (n := 4) rfl (ph.keep s6)) (ea_one (ed_var (n := 6) rfl (py.keep (k5.trans k6)))))) (by show 3 ≤ sizeLine; decide)
          refine s_ret hd fun w H7 k7 p7 => k w H7 (((k1.trans k2).trans s6).trans k7) ?_
          rw [eq0]
          exact p7
        | true =>
          rw [hf] at ef eq0
          refine q_unp2 ef fun x y H4 k4 px py => ?_
          cases pt_str.mp px
          refine q_when (b := true) ((eb_T (ed_op (ed_var rfl (pt_str.mpr rfl)) ed_str rd_eqS)).to (by decide +kernel)) (fun _ H5 k5 => ?_) (fun z => by cases z)
          have s5 := (k3.trans k4).trans k5
          have e1 : EvN (tLc (iList K (tVar 2)) (gTup K 2 (gCons (gName 8) (gCons (gName 9) gNil))) tYes (tTup (tCons (tVar 9) (tCons (tVar 8) tNil))) [8, 9]) [some v, some v1, some v2, some (.int (n : Nat)), some vh, some (.str "answered"), some y, none, none, none] H5 ((J.filter fun _ => true).map (pairD ∘ swapP)) :=
            en_lc (t := tYes) J pairD (fun _ => true) (pairD ∘ swapP) (by omega) (fun _ _ _ => rfl) (ei_list (ed_var rfl (p2.keep ((k1.trans k2).trans s5)))) fun q hq u H6 k6 pu => ⟨[some v, some v1, some v2, some (.int (n : Nat)), some vh, some (.str "answered"), some y, none, some (.int q.1), some (.int q.2)], fun Q qq => gt2 pu fun x1 y1 px1 py1 => ?_, rfl, fun H7 _ Q q => q H7 (Same.refl H7), fun _ => ed_tup (ea_cons (ed_var (n := 9) rfl (pt_int.mpr rfl)) (ea_one (ed_var (n := 8) rfl (pt_int.mpr rfl)))) (by show 2 ≤ sizeLine; decide)⟩
          · rw [List.filter_eq_self.mpr (fun _ _ => rfl), ← List.map_map] at e1
            refine q_set (d := optD (aget (mgI (J.map swapP)) (j : Nat))) (ed_dictget e1.dd (ed_var rfl (py.keep k5))) fun vs H6 k6 ps => ?_
            have hd : EvD _ [some v, some v1, some v2, some (.int (n : Nat)), some vh, some (.str "answered"), some y, some vs, none, none] H6 (.tuple [.str "answered", .int (m : Nat), .int (j : Nat), optD (aget (mgI (J.map swapP)) (j : Nat))]) :=
              ed_tup (ea_cons (ed_var (n := 5) rfl (pt_str.mpr rfl)) (ea_cons (ed_var (n := 4) rfl (ph.keep (s5.trans k6))) (ea_cons (ed_var (n := 6) rfl (py.keep (k5.trans k6))) (ea_one (ed_var (n := 7) rfl ps))))) (by show 4 ≤ sizeLine; decide)
            refine s_ret hd fun w H7 k7 p7 => k w H7 ((((k1.trans k2).trans s5).trans k6).trans k7) ?_
            rw [eq0]
            exact p7
          · cases pt_int.mp px1
            cases pt_int.mp py1
            exact qq
theorem ok_ring_of (T : Tx K mg w) : Cal P w K mg base 3 "ring_of" ["bridge", "room", "joining", "number"] spRingOf := by
  obtain ⟨fd, F, G⟩ := okF_ring_of (P := P) (base := base) T
  exact ⟨(T.f_ring_of).1, ⟨fd, G, F.bindsN fun _ _ _ _ _ _ us hl => match us, hl with | [_, _, _, _], _ => rfl⟩, F.kp⟩
end
end Ro
namespace PySem.SeqAt
open AutoSeq1 (wpAny_loadPart')
open MeetsSeq MeetsSeq2 MeetsSeq3 SeqRoads2
section
variable {prog : Program} {w : World}
/-- two lists of unlike lengths -/
theorem ro_list_ne (l b : Addr) (items items2 : Array Value) (n n2 : Nat) (dd dd2 : Option Addr) (sl sl2 : Array (Option Value)) (hsz : items.size ≠ items2.size) :
    MeetsIn prog w (Builtin.«list.__eq__» ⟨[.ref l, .ref b], []⟩)
      (fun A R s => s.heap.get? l = some { cls := .type "list", dict := dd, data := .seq items n, slots := sl } ∧ s.heap.get? b = some { cls := .type "list", dict := dd2, data := .seq items2 n2, slots := sl2 } ∧
        R (.ok (.ret (.bool false))) s) := by
  intro A R s h
  obtain ⟨hp, g, d, tk, os⟩ := s; obtain ⟨hl, hb, h⟩ := h
  have f3 := AutoSeq1.sub_list_list
  have hne : (items.size != items2.size) = true := by simp [hsz]
  wp_walk using wpAny_loadPart' hl, wpAny_loadPart' hb
  exact h
theorem ro_rc_lists_ne {A : Around} {s : Shared} {l b : Addr} {items items2 : Array Value} (hl : s.heap.IsList l items) (hb : s.heap.IsList b items2) (hsz : items.size ≠ items2.size) (hu : A.units < cLine)
    (E Q : Value → Shared → Prop) (h : Q (.bool false) s) : wpAny (model prog w) A (richCompare .Eq (.ref l) (.ref b)) Q E s := by
  obtain ⟨⟨cls, dd, data, sl⟩, ho, hc, n, hd⟩ := id hl
  obtain ⟨⟨cls2, dd2, data2, sl2⟩, ho2, hc2, n2, hd2⟩ := id hb
  simp only at hc hd hc2 hd2
  subst hc hd hc2 hd2
  have ta : s.TypeIs (.ref l) "list" := ⟨_, ho, rfl⟩
  have tb : s.TypeIs (.ref b) "list" := ⟨_, ho2, rfl⟩
  exact wpAny_richCompare_same_room (op := .Eq) ta tb F.slot_list_eq (call_meetsIn F.slot_list_eq ta F.entry_list_eq (F.args_list_eq_2 _ _) (ro_list_ne l b items items2 n n2 dd dd2 sl sl2 hsz)
    ⟨ho, ho2, show Value.bool false ≠ Value.notImplemented ∧ Q (.bool false) s from ⟨(fun x => nomatch x), h⟩⟩) hu
end
end PySem.SeqAt
namespace L2
open PySem PySem.Spec PyProof.Rows
section
variable {X : Cx}
/-- xs == [] -/
def rEqNil (K : PySem.W.Frag) : R2 := fun x y H Q => ∃ a b xs, x = .ref a ∧ y = .ref b ∧ SqL K H a xs ∧ SqL K H b [] ∧ Q (.bl xs.isEmpty) H
theorem op_eqNil (hu : X.A.units + 64 < cLine) : OpR X (compareOp .Eq) (rEqNil X.K) := by
  intro pins s σ H x y v u Q I rx ry h
  obtain ⟨a, b, xs, rfl, rfl, ha, hb, q⟩ := h
  cases (show v = Value.ref a from rx)
  cases (show u = Value.ref b from ry)
  obtain ⟨us, r1, p1, _⟩ := I.list ha
  obtain ⟨ws, r2, p2, _⟩ := I.list hb
  cases r2
  cases xs with
  | nil =>
    cases r1
    refine SeqAt.rcP_lists (e := fun _ => true) p1.isList p2.isList rfl (by omega) (fun j h1 h2 => absurd h1 (Nat.not_lt_zero j)) _ _ ?_
    exact ⟨.bl true, H, I, rfl, q⟩
  | cons x xs =>
    cases r1 with
    | cons a1 b1 =>
      refine SeqAt.ro_rc_lists_ne p1.isList p2.isList ?_ (by omega) _ _ ?_
      · simp
      · exact ⟨.bl false, H, I, rfl, q⟩
/-- d == {} -/
def rEqNilD : R2 := fun x y H Q => ∃ a b kvs, x = .ref a ∧ y = .ref b ∧ H a = some (.dK kvs) ∧ H b = some (.dK []) ∧ Q (.bl kvs.isEmpty) H
theorem op_eqNilD (hu : X.A.units + 64 < cLine) : OpR X (compareOp .Eq) rEqNilD := by
  intro pins s σ H x y v u Q I rx ry h
  obtain ⟨a, b, kvs, rfl, rfl, ea, eb, q⟩ := h
  obtain rfl : v = Value.ref a := rx
  obtain rfl : u = Value.ref b := ry
  obtain ⟨_, ya, va, ra, da⟩ := (show ObjOk X.prog X.w H s.heap a (.dK kvs) from I.hok a _ ea)
  obtain ⟨_, yb, vb, rb, db⟩ := (show ObjOk X.prog X.w H s.heap b (.dK []) from I.hok b _ eb)
  have hl : va.length = kvs.length := ra.length.symm
  have hl2 : vb.length = 0 := rb.length.symm
  refine PySem.W.keq_eq (knd := mixKind X.prog X.w) (r := true) ya yb da db (by omega) (fun e => ?_) ⟨.bl kvs.isEmpty, H, I, ?_, q⟩
  · have : va = [] := List.length_eq_zero_iff.mp (e.trans hl2)
    subst this
    exact .nil
  · show Value.bool (va.length == vb.length && true) = Value.bool kvs.isEmpty
    rw [hl, hl2]
    cases kvs <;> rfl
/-- len of a dict, also of one that is locked -/
def rLenRd : List V → Hp → VK → Prop := fun xs H Q => ∃ a kvs, xs = [V.ref a] ∧ Rd H a (.dK kvs) ∧ Q (.int kvs.length) H
theorem call_lenRd : CallR X (.builtin "len") rLenRd := by
  intro pins s σ H xs us Q I r h
  obtain ⟨a, kvs, rfl, ha, q⟩ := h
  obtain ⟨u, rfl, ru⟩ := vals1 r
  cases ru
  exact d_len I ha fun t s' I' => ⟨.int kvs.length, H, I', ⟨t, rfl⟩, q⟩
end
end L2
namespace Ro
open PySem PySem.Spec PyProof.Rows L2 PySem.W
variable [TabsC]
/-! ### == of what two watches keep -/
/-- the same data -/
def EqL (K : PySem.W.Frag) (H : Hp) (x y : V) : Prop := ∃ d, Dp K H x d ∧ Dp K H y d ∧ d.plain = true ∧ d.depth ≤ 20
/-- two dicts of the same keys, their values F -/
def EqDi (H : Hp) (F : V → V → Prop) (x y : V) : Prop := ∃ a b ks ls, x = .ref a ∧ y = .ref b ∧ Rd H a (.dK ks) ∧ Rd H b (.dK ls) ∧ ks.length = ls.length ∧ ∀ p ∈ ks, ∃ u, valV ls p.1 = some u ∧ F p.2 u
abbrev EqKept (K : PySem.W.Frag) (H : Hp) : V → V → Prop := EqDi H (EqDi H (EqL K H))
section
variable {X : Cx} {pins : List (Addr × Obj)} {σ : L2.St} {H : Hp} {s : Shared} {F : V → V → Prop} {n : Nat} {x y : V} {v u : Value}
theorem eqL_run (I : Inv X pins σ H s) (h : EqL X.K H x y) (rx : L2.RelV x v) (ry : L2.RelV y u) : EqTree X.prog X.w s 20 v u true := by
  obtain ⟨d, h1, h2, hp, hd⟩ := h
  obtain ⟨as, r1⟩ := Dp.reads I d x v h1 rx
  obtain ⟨bs, r2⟩ := Dp.reads I d y u h2 ry
  refine .leaf fun A hu => ?_
  have q := SeqAt.eqAt_plain d d A s v u as bs r1 r2 hp hp (by omega)
  rw [SeqAt.eqv_refl_plain d hp] at q
  exact q
theorem eqDi_run (I : Inv X pins σ H s) (ih : ∀ x y v u, F x y → L2.RelV x v → L2.RelV y u → EqTree X.prog X.w s n v u true) (h : EqDi H F x y) (rx : L2.RelV x v) (ry : L2.RelV y u) : EqTree X.prog X.w s (n + 1) v u true := by
  obtain ⟨a, b, ks, ls, rfl, rfl, ha, hb, hl, hp⟩ := h
  cases (show v = Value.ref a from rx)
  cases (show u = Value.ref b from ry)
  by_cases e : a = b
  · subst e
    exact .same
  · obtain ⟨lz, ya, va, ra, da⟩ := dk_rd I.hok ha
    obtain ⟨_, yb, vb, rb, db⟩ := dk_rd I.hok hb
    have key : ∀ k v, (k, v) ∈ va → ∃ p ∈ ks, p.1 = k ∧ L2.RelV p.2 v := by
      clear da hl ha lz
      unfold KV at ra
      induction ra with
      | nil => intro k v m; cases m
      | @cons p q ps qs h t ihh =>
        intro k v m
        rcases List.mem_cons.mp m with e | m
        · subst e
          exact ⟨p, List.mem_cons_self .., h.1, h.2⟩
        · obtain ⟨p', m', e'⟩ := ihh (fun p hm => hp p (List.mem_cons_of_mem _ hm)) k v m
          exact ⟨p', List.mem_cons_of_mem _ m', e'⟩
    have at' : ∀ k v, (k, v) ∈ va → ∃ y, valueAt vb k = some y ∧ EqTree X.prog X.w s n v y true := fun k v m => by
      obtain ⟨p, m', rfl, r⟩ := key k v m
      obtain ⟨z, e1, f⟩ := hp p m'
      have rr : RelO (some z) (valueAt vb p.1) := by rw [← e1]; exact rb.val p.1
      obtain ⟨y, hy, ry⟩ := rr.some_of
      exact ⟨y, hy, ih _ _ _ _ f r ry⟩
    have t := EqTree.dicts (prog := X.prog) (w := X.w) (s := s) (n := n) (e := fun _ => true) e ya yb da db fun k v y m hv => by
      obtain ⟨y', hy', t⟩ := at' k v m
      rw [hv] at hy'
      cases hy'
      exact t
    have hb : (va.length == vb.length && va.all fun p => (valueAt vb p.1).isSome && true) = true := by
      rw [Bool.and_eq_true]
      refine ⟨by rw [← ra.length, ← rb.length]; exact beq_iff_eq.mpr hl, List.all_eq_true.mpr fun p m => ?_⟩
      obtain ⟨y', hy', _⟩ := at' p.1 p.2 m
      rw [hy']
      rfl
    rw [hb] at t
    exact t
end
section
variable {X : Cx}
/-- (i, j, k, d) == (i, j, k, e) -/
def rEqMine (K : PySem.W.Frag) : R2 := fun x y H Q => ∃ a b i j k d e, x = .ref a ∧ y = .ref b ∧ SqT K H a [.int i, .int j, .int k, d] ∧ SqT K H b [.int i, .int j, .int k, e] ∧ EqKept K H d e ∧ Q (.bl true) H
theorem op_eqMine (hu : X.A.units + 64 < cLine) : OpR X (compareOp .Eq) (rEqMine X.K) := by
  intro pins s σ H x y v u Q I rx ry h
  obtain ⟨a, b, i, j, k, d, e, rfl, rfl, ha, hb, he, q⟩ := h
  cases (show v = Value.ref a from rx)
  cases (show u = Value.ref b from ry)
  obtain ⟨us, r1, p1, _⟩ := I.tuple ha
  obtain ⟨ws, r2, p2, _⟩ := I.tuple hb
  have tree : ∀ x y v u, EqKept X.K H x y → L2.RelV x v → L2.RelV y u → EqTree X.prog X.w s 22 v u true := fun x y v u h rx ry => eqDi_run I (fun x y v u h rx ry => eqDi_run I (fun x y v u h rx ry => eqL_run I h rx ry) h rx ry) h rx ry
  have leaf : ∀ {z : Int} {v u : Value}, L2.RelV (.int z) v → L2.RelV (.int z) u → EqTree X.prog X.w s 22 v u true := fun {z v u} rx ry => by
    obtain ⟨t, rfl⟩ := rx
    obtain ⟨t', rfl⟩ := ry
    refine .leaf fun A hu => ?_
    have q := SeqAt.eqAt_plain (.int z) (.int z) A s _ _ [] [] (.int z t) (.int z t') rfl rfl (by simp [PyData.depth]; omega)
    rw [SeqAt.eqv_refl_plain (.int z) rfl] at q
    exact q
  cases r1 with | @cons _ u1 _ us a1 r1 =>
  cases r1 with | @cons _ u2 _ us a2 r1 =>
  cases r1 with | @cons _ u3 _ us a3 r1 =>
  cases r1 with | @cons _ u4 _ us a4 r1 =>
  cases r1
  cases r2 with | @cons _ w1 _ us b1 r2 =>
  cases r2 with | @cons _ w2 _ us b2 r2 =>
  cases r2 with | @cons _ w3 _ us b3 r2 =>
  cases r2 with | @cons _ w4 _ us b4 r2 =>
  cases r2
  refine eq_tuplesT (n := 22) (e := fun _ => true) p1 p2 (fun j h1 h2 => ?_) (by omega) ?_
  · match j, h1, h2 with
    | 0, _, _ => exact leaf a1 b1
    | 1, _, _ => exact leaf a2 b2
    | 2, _, _ => exact leaf a3 b3
    | 3, _, _ => exact tree _ _ _ _ he a4 b4
    | j + 4, h1, _ => simp at h1; omega
  · exact ⟨.bl true, H, I, rfl, q⟩
end
end Ro
/-! Late: an own exception straight over LookupError, whose __init__ calls LookupError.__init__ and keeps a number -/
namespace Ro
open PySem PySem.Spec PyProof.Rows L2 PySem.W
open Builtin Builtin.ObjectAttr
variable [TabsC]
abbrev leB : List Value := [.type "LookupError", .type "Exception", .type "BaseException", .type "object"]
/-- what the written part says of the class at C, its __init__ at fI -/
structure LateC (K : PySem.W.Frag) (C fI : Addr) : Prop where
  ini : excInitIn K C leB "LookupError.__new__" = true
  ovr : excOver K C leB = true
  hd : hasDictIn K C = true
  sa : findIn K (.ref C) "__setattr__" = some (some (.builtin "object.__setattr__"))
  noN : takerIn K C "number" = some none
  exC : subIn K (.ref C) (.type "BaseException") = some true
  tyC : typeIn K (.ref C) = some (.type "type")
  kC : keepIn K (.ref C) = true
  iC : findIn K (.ref C) "__init__" = some (some (.ref fI))
  tI : typeIn K (.ref fI) = some (.type "function")
  vV : findCls K (.type "LookupError") (.type "type") "__init__" = some (.val (.builtin "LookupError.__init__"))
theorem typ_LE : typeOf (.type "LookupError") = pure (.type "type") := by kernel_rfl
section
variable {X : Cx} {pins : List (Addr × Obj)} {σ : L2.St} {H : Hp} {s : Shared} {a C fI dx : Addr} {y : V} {u : Value} {Q : Unit → Shared → Prop} {E : Value → Shared → Prop} {A : Around}
theorem late_osa {prog : Program} {w : World} {A : Around} {R : Result → Shared → Prop} {K : PySem.W.Frag} {hp : Heap} {g : Array GenState} {d : Drawn} {t : Nat} {os : OsState} {tk : Tok} {v : Value} {x C fI t1 : Addr} (T : LateC K C fI) (X : K.In hp)
    (hx : hp.get? x = some (excObj C t1 none .none))
    (hq : ∀ h' tk' dx, (∀ b o, b ≠ x → hp.get? b = some o → h'.get? b = some o) → hp.objs.size ≤ dx → dx ≠ x → h'.get? x = some (excObj C t1 (some dx) .none) →
      h'.Ns1 dx (fun y => if y = "number" then some v else none) → R (.ok (.ret .none)) ⟨h', g, d, tk', os⟩) :
    codeAny (model prog w) A (.call (.builtin "object.__setattr__") ⟨[.ref x, .str "number" tk, v], []⟩) R ⟨hp, g, d, t, os⟩ := by
  refine osa_openX (s := ⟨hp, g, d, t, os⟩) (od := none) F.store_LookupError X ⟨hx, rfl, rfl, trivial⟩ T.ovr T.noN fun b => ?_
  obtain ⟨cd, hc, hd'⟩ := any_some T.hd
  have hxs : x ≠ hp.objs.size := Nat.ne_of_lt (Heap.lt_size hx)
  refine wpAny_bind (wpAny_pure (wpAny_bind (instanceDict_exc hx (looks_clsIn X hc) hd' ?_)))
  show wpAny _ _ (storeInDict hp.objs.size (.str "number" tk) "number" v) _ _ _
  refine PySem.HandSPX.store_in_new ?_ ?_
  · exact ⟨_, #[], _, (Heap.get?_update_ne _ _ _ _ hxs.symm).trans (Heap.get?_push_at rfl rfl), rfl, fun e he => absurd he (by simp), fun _ => rfl⟩
  · intro h' tk' hn' hs
    have hx₁ : (hp.push { cls := .type "dict", data := .dict #[] }).get? x = some (excObj C t1 none .none) := Heap.get?_push_of_some _ hx
    refine hq h' tk' hp.objs.size (fun b o hb ho => ?_) (Nat.le_refl _) hxs.symm ?_ hn'
    · exact (hs.2 b (Nat.ne_of_lt (Heap.lt_size ho))).trans ((Heap.get?_update_ne _ _ _ _ hb).trans (Heap.get?_push_of_some _ ho))
    · exact (hs.2 x hxs).trans (Heap.get?_update_self _ hx₁ rfl)
theorem ost_late (T : LateC X.K C fI) (I : Inv X pins σ H s) (e : H a = some (exo a C none)) (ry : L2.RelV y u)
    (h : ∀ dx s', H dx = none → dx ≠ a → Inv X pins σ (upd (upd H dx (exd dx [("number", y)])) a (exo a C (some dx))) s' → Q () s') : wpAny (model X.prog X.w) A (setAttr (.ref a) "number" u) Q E s := by
  obtain ⟨t1, ho⟩ := exo_at I.hok e
  obtain ⟨hp, g, d, t, os⟩ := s
  refine PySem.W.set_plain I.kIn (ox := { cls := .ref C, dict := none, data := .fields #[.ref t1, .none, .none, .none, .bool false, .none] }) (od := none) ⟨ho, rfl, rfl, trivial⟩ T.sa ?_
  refine late_osa T I.kIn ho (fun h' tk' dx k dn dne hx hn => ?_)
  have hnd : H dx = none := I.hok.fresh dn
  have nd : ∀ {b : Addr} {o : Obj}, hp.get? b = some o → b ≠ dx := fun {b o} q => Nat.ne_of_lt (Nat.lt_of_lt_of_le (Heap.lt_size q) dn)
  have na : ∀ {b : Addr}, H b = none → b ≠ a := fun {b} n z => by
    rw [z, e] at n
    cases n
  have Un1 : L2.Un X.fs [] H (upd (upd H dx (exd dx [("number", y)])) a (exo a C (some dx))) hp h' := {
    keep := fun b o q n _ _ => k b o (na n) q
    slot := fun b o q n _ _ => ⟨o.slots, k b o (na n) q⟩
    free := fun b o q n _ => by rw [upd_ne (na n), upd_ne (nd q)]; exact n
    there := fun b o q _ => by
      by_cases hb : b = a
      · exact ⟨_, by rw [hb]; exact hx⟩
      · exact ⟨o, k b o hb q⟩
    tups := fun b xs q => by rw [upd_ne (at_ne e q exo_tup), upd_ne (ne_of_none q hnd)]; exact q
    frzs := fun b o v q => by rw [upd_ne (at_ne e q exo_frz), upd_ne (ne_of_none q hnd)]; exact q
    tbls := fun b ps q => ⟨#[], by rw [upd_ne (at_ne e q exo_tbl), upd_ne (ne_of_none q hnd), q]; simp⟩ }
  refine h dx _ hnd dne (I.un (t' := tk') Un1 fun b o q => ?_)
  by_cases hb : b = a
  · subst hb
    rw [upd_same] at q
    cases q
    exact exo_ok hx
  · rw [upd_ne hb] at q
    by_cases hd : b = dx
    · subst hd
      rw [upd_same] at q
      cases q
      exact exd_ok hn (relO_put (fs := []) ry fun g => True.intro)
    · rw [upd_ne hd] at q
      exact (I.hok b o q).stay (fun c v hc z => k c v (by
          rcases hc with hc | hc
          · rw [hc]
            exact hb
          · exact at_ne e hc exo_own) z)
        (fun c hc => by rw [upd_ne (at_ne e hc exo_own), upd_ne (ne_of_none hc hnd)]; exact hc) (fun c xs hc => by rw [upd_ne (at_ne e hc exo_tup), upd_ne (ne_of_none hc hnd)]; exact hc)
theorem init_late {us : List Value} {Q : Value → Shared → Prop} (T : LateC X.K C fI) (I : Inv X pins σ H s) (e : H a = some (exo a C none)) (hl : us.length ≤ sizeLine) (h : ∀ s', Inv X pins σ H s' → Q .none s') :
    wpAny (model X.prog X.w) A (call (.builtin "LookupError.__init__") (.ref a :: us)) Q E s := by
  obtain ⟨t1, ho⟩ := exo_at I.hok e
  obtain ⟨nm, N', qn, bs, bm, hdct, sn, sub, ab, col, dd, k0, k1, k2, k3, k5, hC, hT⟩ := excInit_of I.kIn T.ini
  obtain ⟨hp, g, d, t, os⟩ := s
  refine wpAny_call (PySem.HandSPX.init_base F.excBase_LookupError hT hC ho hl fun h' t2 k hx => ?_)
  have J := I.write (t' := t) (x := a) (e := a) (o := exo a C none) (by rw [e]; exact True.intro) (.inl rfl) k ⟨_, hx⟩ (exo_ok hx)
  have eu : upd H a (exo a C none) = H := by
    funext b
    by_cases hb : b = a
    · rw [hb, upd_same, e]
    · rw [upd_ne hb]
  rw [eu] at J
  exact h _ J
end
/-! readings and rules -/
def tLeI (K : PySem.W.Frag) (ta : TA) : TE := fun σ H Q => ta σ H fun vs H1 => ∃ (a C fI : Addr) (ws : List V), vs = .ref a :: ws ∧ ws.length ≤ 1000 ∧ LateC K C fI ∧ H1 a = some (exo a C none) ∧ Q .non H1
def tOstL (K : PySem.W.Frag) (to te : TE) : TS := fun D σ H => te σ H fun y H1 => to σ H1 fun x H2 => ∃ a C fI : Addr, x = .ref a ∧ LateC K C fI ∧
  H2 a = some (exo a C none) ∧ ∀ dx, H2 dx = none → dx ≠ a → D.nx σ (upd (upd H2 dx (exd dx [("number", y)])) a (exo a C (some dx)))
section
variable {X : Cx} {o e : Expr} {es : List Expr} {to te : TE} {ta : TA} {p p' p1 p2 pos : Pos}
theorem pe_leinit {pl : Sem Bool} (hg : Gl X "LookupError") (hm : X.mg "LookupError" = none) (vV : findCls X.K (.type "LookupError") (.type "type") "__init__" = some (.val (.builtin "LookupError.__init__"))) (ha : PA X (e :: es) ta)
    (hc : eval (.Call (.Attribute (.Name "LookupError" p1) "__init__" p2) (e :: es) [] pos) X.env = (do
      let ov ← eval (.Name "LookupError" p1) X.env
      standAt p2.atName
      let (f, first) ← holding [ov] (getMethod ov "__init__" pl)
      callWith pos f first (backTo pos (starEach (e :: es) X.env)) (backToKw pos (keywordEach [] X.env))) := by rfl)
    (he : starEach (e :: es) X.env = (false, eval e X.env) :: starEach es X.env := by rfl) (hpl : (backTo pos (starEach es X.env)).any (·.1) = false := by rfl) :
    PE X (.Call (.Attribute (.Name "LookupError" p1) "__init__" p2) (e :: es) [] pos) (tLeI X.K ta) := by
  refine ⟨fun pins s σ H Q I h => ?_⟩
  refine PySem.W.methodCall_KW (ld_blt I hg hm PyProof.Rows.Boot.«LookupError» ?_ (by decide) (by decide)) hc
  obtain ⟨m, fr⟩ := I.fr
  refine PySem.W.method_type fr I.ok.mod.kin typ_LE (by decide +kernel) vV (by decide +kernel) ?_
  show wpAny _ _ (callWith pos (Value.builtin "LookupError.__init__") [] (backTo pos (starEach (e :: es) X.env)) []) _ _ _
  refine PyProof.Rows.callWith_method1 (L2.thn (ha.run pos pins _ σ H _ (I.tok _) h) fun us s1 ⟨vs, H1, I1, r1, a, C, fI, ws, ev, hl, T, ea, q⟩ => ?_) he hpl
  subst ev
  cases r1 with
  | @cons _ u0 _ ur ra rw' =>
    obtain rfl : u0 = Value.ref a := ra
    have hlen : ur.length ≤ sizeLine := by
      rw [← Paired.length rw', sizeLine_eq]
      omega
    exact init_late T I1 ea hlen fun s' J => ⟨.non, H1, J, rfl, q⟩
theorem ps_ostL (ho : PE X o to) (he : PE X e te) (hs : swapsWith e (some (.Attribute o "number" p')) pos.line X.env = pure false := by rfl) : PS X (.Assign [.Attribute o "number" p'] e pos) (tOstL X.K to te) := by
  refine ⟨fun pins s σ H D I h => ?_⟩
  refine plainObj_wpAny_Assign_Attribute (L2.thn (he.run pins s σ H _ I h) fun v s1 ⟨y, H1, I1, r1, q1⟩ => L2.thn (ho.run pins s1 σ H1 _ I1 q1) fun u s2 ⟨x, H2, I2, r2, a, C, fI, ex, T, ea, q⟩ => ?_) hs
  subst ex
  obtain rfl : u = Value.ref a := r2
  exact ost_late T I2 ea r1 fun dx s' n ne J => ⟨σ, _, J, q dx n ne⟩
theorem pmk_late {CX : CXT} {x : Str} {C fI : Addr} {k : Nat} {fd : FuncData} {ps : List Str} {sp : Sp} {ds : List Value} {dvs : List V} (T : LateC X.K C fI)
    (F1 : FnOk X.prog X.w X.K X.mg X.base CX k fI fd ps sp) (hr : Room (k + 1) X.A) (hb : Binds X.K fd ps ds) (hd : L2.Vals dvs ds) (hx : Passes CX X (fun _ _ _ => False)) (hg : Gl X x) (hm : X.mg x = some (.ref C)) (ha : PA X (e :: es) ta)
    (hdb : (x == ("__debug__" : Str)) = false := by decide) (he : starEach (e :: es) X.env = (false, eval e X.env) :: starEach es X.env := by rfl) (hpl : (backTo pos (starEach es X.env)).any (·.1) = false := by rfl) :
    PMk X (.Call (.Name x p) (e :: es) [] pos) (tMkO C sp dvs ta) := by
  intro pins s σ H Q I h
  refine wpAny_Call_Name_kw (ld_glob I hg hm ?_ hdb)
  refine PySem.W.callWith_K (h₀ := X.base) I.ok.mod.kin T.kC (L2.thn (ha.run pos pins s σ H _ I h) fun us s1 ⟨vs, H1, I1, r1, hz, q1⟩ => ⟨I1.kIn, ?_⟩) he hpl
  show wpAny _ _ (call (.ref C) us) _ _ _
  obtain ⟨nm, N', qn, bs, bm, hdct, sn, sub, ab, col, dd, k0, k1, k2, k3, k5, hC, hT⟩ := excInit_of I1.kIn T.ini
  obtain ⟨hp, g, dr, tk, os⟩ := s1
  have hsz : hp.objs.size ≤ hp.objs.size + 1 := Nat.le_succ _
  have hn : H1 (hp.objs.size + 1) = none := I1.hok.fresh hsz
  have hq := q1 (hp.objs.size + 1) hn
  have kk : ∀ b o, hp.get? b = some o → ((hp.push (PySem.W.kdv_tup us)).push (PySem.HandSPX.excO C hp.objs.size)).get? b = some o := fun b o e => Heap.get?_push_of_some _ (Heap.get?_push_of_some _ e)
  have hget : ((hp.push (PySem.W.kdv_tup us)).push (PySem.HandSPX.excO C hp.objs.size)).get? (hp.objs.size + 1) = some (PySem.HandSPX.excO C hp.objs.size) := by heap_get
  have I2 : Inv X pins σ (upd H1 (hp.objs.size + 1) (exo (hp.objs.size + 1) C none)) ⟨(hp.push (PySem.W.kdv_tup us)).push (PySem.HandSPX.excO C hp.objs.size), g, dr, tk, os⟩ :=
    I1.laid (t' := tk) (a := hp.objs.size + 1) (o := exo (hp.objs.size + 1) C none) (h' := (hp.push (PySem.W.kdv_tup us)).push (PySem.HandSPX.excO C hp.objs.size)) kk hsz (exo_ok hget)
  have r2 : L2.Vals (V.ref (hp.objs.size + 1) :: (vs ++ dvs)) (Value.ref (hp.objs.size + 1) :: (us ++ ds)) := .cons rfl (r1.append hd)
  have hl : (Value.ref (hp.objs.size + 1) :: us ++ ds).length = ps.length := by
    have e := r2.length
    rw [F1.len _ _ _ _ hq] at e
    exact e.symm
  have hus : us.length ≤ sizeLine := by
    rw [← Paired.length r1, sizeLine_eq]
    omega
  refine wpAny_call (PySem.HandSPX.call_own F.excBase_LookupError hT hC (PySem.W.looks_findIn I1.kIn T.iC) (fun self => PySem.W.bind_fn I1.kIn self T.tI) hus
    (codeAny_mono (F1.run _ X.stack _ _ ⟨Value.ref (hp.objs.size + 1) :: us, []⟩ (Value.ref (hp.objs.size + 1) :: (us ++ ds)) _ _ (fun _ _ _ => False) (hr.make C us []) (I2.env0.make C us []) (hb _ (Value.ref (hp.objs.size + 1) :: us) I2.kIn hl) r2 hq) fun r s' hq' => ?_))
  cases r with
  | error er => exact hx pins σ _ _ er s' I2 hq'
  | ok fl =>
    cases fl with
    | ret u =>
      obtain ⟨v, H2, os2, bare2, un2, hok2, rv, ev, d, fs, ea, ed, hd1, q2⟩ := hq'
      subst ev
      obtain ⟨h2, g2, d2, t2, os'⟩ := s'
      exact ⟨rv, mk_end (raises_own T.exC T.tyC) I1 hsz kk un2 hok2 os2 bare2 ea ed hd1 q2⟩
    | next => exact False.elim hq'
    | brk => exact False.elim hq'
    | cont => exact False.elim hq'
end
end Ro
/-! what a Watch is, in the heap -/
namespace Ro
open PySem PySem.Spec PyProof.Rows L2 PySem.W
variable [TabsC]
theorem paired_imp {α β : Type} {R S : α → β → Prop} (h : ∀ a b, R a b → S a b) : ∀ {l : List α} {m : List β}, Paired R l m → Paired S l m
  | _, _, .nil => .nil
  | _, _, .cons a r => .cons (h _ _ a) (paired_imp h r)
/-! ### what is locked stays, and tuples -/
structure Fz (H H' : Hp) : Prop where
  fz : ∀ a od u, H a = some (.frz od u) → H' a = some (.frz od u)
  tk : Tk H H'
section
variable {H H' H1 : Hp} {N : Addr → Prop} {p a b : Addr} {u o : HO}
theorem Same.fz (k : Same H H') : Fz H H' := ⟨fun a od u h => k.ob _ _ h (fun ps z => by cases z), k.tk⟩
theorem Fz.trans (h : Fz H H1) (k : Fz H1 H') : Fz H H' := ⟨fun a od u e => k.fz _ _ _ (h.fz _ _ _ e), h.tk.trans k.tk⟩
theorem Kp.fz (k : Kp N H H') (n : NOk N H) : Fz H H' := ⟨fun a od u h => k.ob _ _ h (fun ps z => by cases z) fun m => by
  obtain ⟨o, e, f⟩ := n a m
  rw [h] at e
  cases e
  exact f, n.tk k⟩
theorem Fz.mo (h : H p = some u) (m : Mo u) : Fz H (upd H p o) := ⟨fun a od v e => by
  rw [upd_ne (fun z => by rw [z, h] at e; cases e; exact m)]
  exact e, tk_mo h m⟩
/-! ### rows, kept -/
abbrev KD := List (Int × Row)
def Krs (H : Hp) (k : KD) (kvs : List (L2.Key × V)) : Prop := Paired (fun (q : Int × Row) (kv : L2.Key × V) => kv.1 = .inl q.1 ∧ Pt H (rowD q.2) kv.2 ∧ noL (rowD q.2) = true) k kvs
def KrAt (H : Hp) (b : Addr) (k : KD) : Prop := ∃ od kvs, H b = some (.frz od (.dK kvs)) ∧ Krs H k kvs
abbrev kvKept (b r : Addr) : List (L2.Key × V) := [(.inr "bridge", .ref b), (.inr "room", .ref r)]
def KeptAt (H : Hp) (a : Addr) (kk : KD × KD) : Prop := ∃ od b r, H a = some (.frz od (.dK (kvKept b r))) ∧ KrAt H b kk.1 ∧ KrAt H r kk.2
theorem Krs.keep {k : KD} {kvs : List (L2.Key × V)} (h : Krs H k kvs) (f : Fz H H') : Krs H' k kvs := paired_imp (fun _ _ ⟨e, p, n⟩ => ⟨e, Pt.keepT f.tk _ _ n p, n⟩) h
theorem KrAt.keep {k : KD} (h : KrAt H b k) (f : Fz H H') : KrAt H' b k := let ⟨od, kvs, e, r⟩ := h; ⟨od, kvs, f.fz _ _ _ e, r.keep f⟩
theorem KeptAt.keep {kk : KD × KD} (h : KeptAt H a kk) (f : Fz H H') : KeptAt H' a kk := let ⟨od, b, r, e, x, y⟩ := h; ⟨od, b, r, f.fz _ _ _ e, x.keep f, y.keep f⟩
theorem Krs.length {k : KD} {kvs : List (L2.Key × V)} (h : Krs H k kvs) : kvs.length = k.length := (Paired.length h).symm
theorem Krs.keys : ∀ {k : KD} {kvs : List (L2.Key × V)}, Krs H k kvs → kvs.map (·.1) = k.map fun q => Sum.inl q.1
  | [], _, h => by cases h; rfl
  | q :: k, _, h => by
    cases h with
    | cons a r => rw [List.map_cons, List.map_cons, Krs.keys r, a.1]
theorem Krs.get : ∀ {k : KD} {kvs : List (L2.Key × V)} (n : Int), Krs H k kvs → (aget k n = none ∧ valV kvs (.inl n) = none) ∨ ∃ r v, aget k n = some r ∧ valV kvs (.inl n) = some v ∧ Pt H (rowD r) v ∧ noL (rowD r) = true
  | [], _, n, h => by cases h; exact .inl ⟨rfl, rfl⟩
  | q :: k, _, n, h => by
    cases h with
    | @cons _ kv _ kvs a r =>
      by_cases e : q.1 = n
      · have e' : kv.1 = .inl n := by rw [a.1, e]
        exact .inr ⟨q.2, kv.2, by simp [aget, e], valV_pos e', a.2.1, a.2.2⟩
      · have e' : ¬ kv.1 = .inl n := fun z => e (by rw [a.1] at z; injection z)
        rw [valV_neg e', show aget (q :: k) n = aget k n from by simp [aget, e]]
        exact Krs.get n r
theorem Krs.snoc {k : KD} {kvs : List (L2.Key × V)} {n : Int} {r : Row} {v : V} (h : Krs H k kvs) (p : Pt H (rowD r) v) (nl : noL (rowD r) = true) : Krs H (k ++ [(n, r)]) (kvs ++ [(.inl n, v)]) := by
  unfold Krs at h ⊢
  induction h with
  | nil => exact .cons ⟨rfl, p, nl⟩ .nil
  | cons a _ ih => exact .cons a ih
theorem Krs.put {k : KD} {kvs : List (L2.Key × V)} {n : Int} {r : Row} {v : V} (h : Krs H k kvs) (hn : aget k n = none) (p : Pt H (rowD r) v) (nl : noL (rowD r) = true) : Krs H (k ++ [(n, r)]) (putK kvs (.inl n) v) := by
  rcases h.get n with ⟨_, e⟩ | ⟨r', v', e, _⟩
  · rw [L2.putK_new v e]
    exact h.snoc p nl
  · rw [hn] at e; cases e
abbrev kdrop (k : KD) (n : Int) : KD := k.filter fun q => decide (q.1 ≠ n)
theorem Krs.drop {k : KD} {kvs : List (L2.Key × V)} {n : Int} (h : Krs H k kvs) : Krs H (kdrop k n) (dropK kvs (.inl n)) := by
  unfold Krs at h ⊢
  induction h with
  | nil => exact .nil
  | @cons q kv k kvs a _ ih =>
    by_cases e : q.1 = n
    · have e' : kv.1 = .inl n := by rw [a.1, e]
      rw [kdrop, List.filter_cons, if_neg (by simp [e]), dropK_pos e']
      exact ih
    · have e' : ¬ kv.1 = .inl n := fun z => e (by rw [a.1] at z; injection z)
      rw [kdrop, List.filter_cons, if_pos (by simp [e]), dropK, List.filter_cons, if_pos (by simp [e'])]
      exact .cons a ih
theorem Krs.at_ : ∀ {k : KD} {kvs : List (L2.Key × V)} {kv : L2.Key × V}, Krs H k kvs → kv ∈ kvs → ∃ q ∈ k, kv.1 = .inl q.1 ∧ Pt H (rowD q.2) kv.2
  | [], _, _, h, m => by cases h; cases m
  | q :: k, _, kv, h, m => by
    cases h with
    | @cons _ kv' _ kvs a r =>
      rcases List.mem_cons.mp m with e | m
      · subst e; exact ⟨q, List.mem_cons_self .., a.1, a.2.1⟩
      · obtain ⟨q', m', z⟩ := Krs.at_ r m
        exact ⟨q', List.mem_cons_of_mem _ m', z⟩
end
/-! ### a Watch -/
structure WS where
  lag : Int
  low : Int
  high : Int
  kk : KD × KD
  past : List (KD × KD)
  coming : List (KD × KD)
  told : List Int
structure WA where
  p : Addr
  pl : Addr
  cl : Addr
  tl : Addr
abbrev fsW (lag low high : Int) (ka pl cl tl : Addr) : List (Str × V) := [("lag", .int lag), ("low", .int low), ("high", .int high), ("kept", .ref ka), ("past", .ref pl), ("coming", .ref cl), ("told", .ref tl)]
def AnsD (d : PyData) : Prop := noL d = true ∧ d.depth ≤ 20
def Told (H : Hp) (ns : List Int) (kvs : List (L2.Key × V)) : Prop := Paired (fun (n : Int) (kv : L2.Key × V) => kv.1 = .inl n ∧ ∃ d, AnsD d ∧ Pt H d kv.2) ns kvs
structure WIn (K : PySem.W.Frag) (H : Hp) (A : WA) (S : WS) (dx ka : Addr) (pks cks : List Addr) (kvs : List (L2.Key × V)) : Prop where
  ins : H A.p = some (.ins (CW K) dx (fsW S.lag S.low S.high ka A.pl A.cl A.tl))
  kept : KeptAt H ka S.kk
  pl : H A.pl = some (.lst (pks.map .ref))
  past : Paired (KeptAt H) pks S.past
  cl : H A.cl = some (.lst (cks.map .ref))
  coming : Paired (KeptAt H) cks S.coming
  tl : H A.tl = some (.dK kvs)
  told : Told H S.told kvs
  ne : A.pl ≠ A.cl
def WatchAt (K : PySem.W.Frag) (H : Hp) (A : WA) (S : WS) : Prop := ∃ dx ka pks cks kvs, WIn K H A S dx ka pks cks kvs
def WA.N (A : WA) : Addr → Prop := fun a => a = A.p ∨ a = A.pl ∨ a = A.cl ∨ a = A.tl
def WA.ap (A B : WA) : Prop := ∀ a, A.N a → ¬ B.N a
section
variable {K : PySem.W.Frag} {H H' H1 : Hp} {N : Addr → Prop} {A B : WA} {S : WS} {dx ka : Addr} {pks cks : List Addr} {kvs : List (L2.Key × V)}
theorem Told.keep {ns : List Int} (h : Told H ns kvs) (f : Tk H H') : Told H' ns kvs := paired_imp (fun _ _ ⟨e, d, a, p⟩ => ⟨e, d, a, Pt.keepT f _ _ a.1 p⟩) h
theorem past_keep {ks : List Addr} {kk : List (KD × KD)} (h : Paired (KeptAt H) ks kk) (f : Fz H H') : Paired (KeptAt H') ks kk := paired_imp (fun _ _ x => x.keep f) h
/-- all of it stays -/
theorem WIn.keep (w : WIn K H A S dx ka pks cks kvs) (f : Fz H H') (h : ∀ a o, A.N a → H a = some o → (∀ ps, o ≠ .tbl ps) → H' a = some o) : WIn K H' A S dx ka pks cks kvs :=
  ⟨h _ _ (.inl rfl) w.ins (fun ps z => by cases z), w.kept.keep f, h _ _ (.inr (.inl rfl)) w.pl (fun ps z => by cases z), past_keep w.past f, h _ _ (.inr (.inr (.inl rfl))) w.cl (fun ps z => by cases z), past_keep w.coming f, h _ _ (.inr (.inr (.inr rfl))) w.tl (fun ps z => by cases z), w.told.keep f.tk, w.ne⟩
theorem WIn.same (w : WIn K H A S dx ka pks cks kvs) (k : Same H H') : WIn K H' A S dx ka pks cks kvs := w.keep k.fz fun a o _ e n => k.ob a o e n
theorem WatchAt.same (w : WatchAt K H A S) (k : Same H H') : WatchAt K H' A S := let ⟨dx, ka, pks, cks, kvs, i⟩ := w; ⟨dx, ka, pks, cks, kvs, i.same k⟩
theorem WatchAt.far (w : WatchAt K H A S) (k : Kp N H H') (n : NOk N H) (d : ∀ a, A.N a → ¬ N a) : WatchAt K H' A S := let ⟨dx, ka, pks, cks, kvs, i⟩ := w; ⟨dx, ka, pks, cks, kvs, i.keep (k.fz n) fun a o m e t => k.ob a o e t (d a m)⟩
theorem WIn.nok (w : WIn K H A S dx ka pks cks kvs) : NOk A.N H := fun b hb => by
  rcases hb with rfl | rfl | rfl | rfl
  · exact ⟨_, w.ins, True.intro⟩
  · exact ⟨_, w.pl, True.intro⟩
  · exact ⟨_, w.cl, True.intro⟩
  · exact ⟨_, w.tl, True.intro⟩
theorem WatchAt.nok (w : WatchAt K H A S) : NOk A.N H := let ⟨_, _, _, _, _, i⟩ := w; i.nok
end
/-! ### rules for expressions -/
section
variable {K : PySem.W.Frag} {σ : L2.St} {H H' : Hp} {a b p dx C : Addr} {fs : List (Str × V)} {f x : Str} {v : V} {n : Int} {te td ty : TE} {k : KD}
theorem ev_fld (c : Cls K C) (na : NoAttr K C f) (h : EvV te σ H (.ref p)) (e : H p = some (.ins C dx fs)) (l : fs.lookup f = some v) : EvV (tFld K te f) σ H v := fun H1 s Q q =>
  h H1 s _ fun H2 k => ⟨p, C, dx, fs, v, rfl, (s.trans k) _ _ e, c, na, l, q H2 k⟩
/-- d[x], x a text, d locked -/
theorem ev_dgetS {od : Obj} {kvs : List (L2.Key × V)} (hd : EvV td σ H (.ref a)) (hy : EvD ty σ H (.str x)) (e : H a = some (.frz od (.dK kvs))) (l : valV kvs (.inr x) = some v) : EvV (tDGet td ty) σ H v := fun H1 s Q q =>
  hd H1 s _ fun H2 k => hy H2 (s.trans k) _ fun y H3 k3 p => by
    cases pt_str.mp p
    exact ⟨a, v, rfl, .inl ⟨kvs, .inr x, .inr ⟨od, ((s.trans k).trans k3) _ _ e⟩, rfl, l.symm⟩, q H3 (k.trans k3)⟩
/-- rows[n], locked -/
theorem ed_rowGet {r : Row} (hd : EvV td σ H (.ref b)) (hy : EvD ty σ H (.int n)) (e : KrAt H b k) (l : aget k n = some r) : EvD (tDGet td ty) σ H (rowD r) := fun H1 s Q q =>
  hd H1 s _ fun H2 k1 => hy H2 (s.trans k1) _ fun y H3 k3 p => by
    cases pt_int.mp p
    obtain ⟨od, kvs, e3, rs⟩ := e.keep ((s.trans k1).trans k3).fz
    rcases rs.get n with ⟨e1, _⟩ | ⟨r', v, e1, e2, pv, _⟩
    · rw [l] at e1; cases e1
    · rw [l] at e1
      cases e1
      exact ⟨b, v, rfl, .inl ⟨kvs, .inl n, .inr ⟨od, e3⟩, rfl, e2.symm⟩, q v H3 (k1.trans k3) pv⟩
theorem ed_rowIn (hy : EvD ty σ H (.int n)) (hd : EvV td σ H (.ref b)) (e : KrAt H b k) : EvD (tDIn ty td) σ H (.bool (aget k n).isSome) := fun H1 s Q q =>
  hy H1 s _ fun y H2 k1 p => hd H2 (s.trans k1) _ fun H3 k3 => by
    cases pt_int.mp p
    obtain ⟨od, kvs, e3, rs⟩ := e.keep ((s.trans k1).trans k3).fz
    refine ⟨b, valV kvs (.inl n), rfl, .inl ⟨kvs, .inl n, .inr ⟨od, e3⟩, rfl, rfl⟩, q _ H3 (k1.trans k3) (pt_bl.mpr ?_)⟩
    rcases rs.get n with ⟨e1, e2⟩ | ⟨r', v, e1, e2, _⟩ <;> rw [e1, e2] <;> rfl
theorem ed_rowNin (hy : EvD ty σ H (.int n)) (hd : EvV td σ H (.ref b)) (e : KrAt H b k) : EvD (tDNotIn ty td) σ H (.bool (!(aget k n).isSome)) := fun H1 s Q q =>
  hy H1 s _ fun y H2 k1 p => hd H2 (s.trans k1) _ fun H3 k3 => by
    cases pt_int.mp p
    obtain ⟨od, kvs, e3, rs⟩ := e.keep ((s.trans k1).trans k3).fz
    refine ⟨b, valV kvs (.inl n), rfl, .inl ⟨kvs, .inl n, .inr ⟨od, e3⟩, rfl, rfl⟩, q _ H3 (k1.trans k3) (pt_bl.mpr ?_)⟩
    rcases rs.get n with ⟨e1, e2⟩ | ⟨r', v, e1, e2, _⟩ <;> rw [e1, e2] <;> rfl
theorem ed_inS {od : Obj} {kvs : List (L2.Key × V)} (hy : EvD ty σ H (.str x)) (hd : EvV td σ H (.ref a)) (e : H a = some (.frz od (.dK kvs))) : EvD (tDNotIn ty td) σ H (.bool (!(valV kvs (.inr x)).isSome)) := fun H1 s Q q =>
  hy H1 s _ fun y H2 k1 p => hd H2 (s.trans k1) _ fun H3 k3 => by
    cases pt_str.mp p
    exact ⟨a, valV kvs (.inr x), rfl, .inl ⟨kvs, .inr x, .inr ⟨od, ((s.trans k1).trans k3) _ _ e⟩, rfl, rfl⟩, q _ H3 (k1.trans k3) (pt_bl.mpr rfl)⟩
/-- the numbers of the rows, walked -/
theorem ei_rows (hd : EvV td σ H (.ref b)) (e : KrAt H b k) : EvI (iKeys td) σ H (k.map fun q => .int q.1) := fun H1 s R q => hd H1 s _ fun H2 k2 => by
  obtain ⟨od, kvs, ha2, rs⟩ := e.keep (s.trans k2).fz
  refine ⟨b, od, rfl, .inl ⟨kvs, ha2, q _ H2 k2 ?_⟩⟩
  have w : Walk (Itk b od kvs) (k.map fun q => PyData.int q.1).length (fun H => H b = some (.frz od (.dK kvs))) (fun i H x H' => H' = H ∧ ∃ k v, kvs[i]? = some (k, v) ∧ x = kV k) := by
    rw [List.length_map, ← rs.length]
    exact walk_keys
  refine w.mono (fun H' sm => sm.ob _ _ ha2 fun ps z => by cases z) fun i H x H' hi _ ⟨e, k', v, he, ex⟩ => ?_
  subst e
  have hk := congrArg (fun l => l[i]?) rs.keys
  simp only [List.getElem?_map, he, Option.map_some] at hk
  cases hl : k[i]? with
  | none => rw [hl] at hk; cases hk
  | some z =>
    rw [hl] at hk
    simp only [Option.map_some, Option.some.injEq] at hk
    refine ⟨Same.refl _, .int z.1, by rw [List.getElem?_map, hl]; rfl, ?_⟩
    rw [ex, hk]
    exact pt_int.mpr rfl
/-- len(rows) -/
theorem rc_lenR (e : KrAt H b k) {Q : VK} (q : ∀ v H1, Same H H1 → Pt H1 (.int k.length) v → Q v H1) : rLenRd [.ref b] H Q := by
  obtain ⟨od, kvs, e3, rs⟩ := e
  exact ⟨b, kvs, rfl, .inr ⟨od, e3⟩, q _ H (Same.refl H) (pt_int.mpr (by rw [rs.length]))⟩
theorem ed_lenR (hd : EvV td σ H (.ref b)) (e : KrAt H b k) : EvD (tCB rLenRd (tCons td tNil)) σ H (.int k.length) := fun H1 s Q q =>
  hd H1 s _ fun H2 k2 => rc_lenR (e.keep (s.trans k2).fz) fun v H3 k3 p => q v H3 (k2.trans k3) p
/-- sorted(rows) -/
def sortK (k : KD) : KD := k.mergeSort fun a b => decide (a.1 ≤ b.1)
theorem sortK_perm (k : KD) : (sortK k).Perm k := List.mergeSort_perm ..
theorem sortK_sorted (k : KD) : ((sortK k).map (·.1)).Pairwise (· ≤ ·) := by
  rw [List.pairwise_map]
  have h := List.pairwise_mergeSort (le := fun a b : Int × Row => decide (a.1 ≤ b.1)) (by intro a b c h1 h2; simp only [decide_eq_true_eq] at *; omega) (by intro a b; simp only [Bool.or_eq_true, decide_eq_true_eq]; omega) k
  exact h.imp fun h => of_decide_eq_true h
theorem sortedI_uniq : ∀ {a b : List Int}, a.Perm b → a.Pairwise (· ≤ ·) → b.Pairwise (· ≤ ·) → a = b := fun p h1 h2 => p.eq_of_pairwise (fun x y _ _ h h' => Int.le_antisymm h h') h1 h2
end
end Ro
namespace Ro
open PySem PySem.Spec PyProof.Rows L2 PySem.W
variable [TabsC]
abbrev CL (K : PySem.W.Frag) : Addr := He.ga K "Late"
abbrev fL (K : PySem.W.Frag) : Addr := He.ma K (CL K) "__init__"
abbrev sL : Stmt := inClass (top 11) 0
/-- Ty, and what the written part says of Late -/
structure Tw (K : PySem.W.Frag) (mg : Str → Option Value) (w : World) (base : Heap) : Prop extends Ty K mg w base where
  f_late : ∃ fd, FunD K "__init__" "Late.__init__" (defArgs sL) (defBody sL) (defScope sL) [] [] (fL K) fd
  late : LateC K (CL K) (fL K)
  g_late : mg "Late" = some (.ref (CL K))
/-- __init__ of a new Late -/
def spLate (K : PySem.W.Frag) : Sp := fun vs H Q _ => ∃ (a : Addr) (n : V), vs = [.ref a, n] ∧ H a = some (exo a (CL K) none) ∧ ∀ dx, H dx = none → dx ≠ a → Q .non (upd (upd H dx (exd dx [("number", n)])) a (exo a (CL K) (some dx)))
section
variable {P : Program} {w : World} {K : PySem.W.Frag} {mg : Str → Option Value} {base : Heap}
theorem sc_late : FnScope ["self", "number"] ["self", "number"] (defScope sL) := ⟨rfl, rfl, rfl, by decide +kernel, rfl, by decide +kernel, by decide +kernel⟩
theorem okF_late (T : Tw K mg w base) : ∃ fd, FnOk P w K mg base (L2.CX P w) 1 (fL K) fd ["self", "number"] (spLate K) ∧ Binds K fd ["self", "number"] [] := by
  obtain ⟨fd, F⟩ := T.f_late
  refine ⟨fd, F.ok sc_late (fun vs H Q E h => ?_) (fun cdv A outer s H vs Q E hr h => ?_), F.bindsN fun _ _ _ _ _ _ us hl => match us, hl with | [_, _], _ => rfl⟩
  · obtain ⟨a, n, rfl, _⟩ := h; rfl
  · obtain ⟨a, n, rfl, ha, k⟩ := h
    refine ⟨_, pss_cons (ps_expr (pe_leinit rfl T.n_LookupError T.late.vV (pa_cons (pv 0) (pa_cons pe_str pa_nil)))) (pss_one (ps_ostL (pv 0) (pv 1))), ?_⟩
    refine ⟨.ref a, rfl, a, CL K, fL K, [.str "the row doesn't fit"], rfl, by decide, T.late, ha, ?_⟩
    exact ⟨n, rfl, .ref a, rfl, a, CL K, fL K, rfl, T.late, ha, k⟩
/-- the way out by Late -/
theorem late_same {H : Hp} {a dx : Addr} {y : V} (ha : H a = none) (hd : H dx = none) (ne : dx ≠ a) {fs : List (Str × V)} : Same H (upd (L2.del (upd (upd (upd H a (exo a (CL K) none)) dx (exd dx [("number", y)])) a (exo a (CL K) (some dx))) a) dx (.xd fs)) := .of fun b o e => by
  have h1 : b ≠ a := fun z => by rw [z, ha] at e; cases e
  have h2 : b ≠ dx := fun z => by rw [z, hd] at e; cases e
  rw [upd_ne h2, del_ne h1, upd_ne h1, upd_ne h2, upd_ne h1]
  exact e
end
/-! ### need_fit: the mirror -/
def aheadM (k : KD) (n : Int) : PyData := bestDf max ((k.filter fun q => decide (q.1 < n)).map (·.1)) .none
def behindM (k : KD) (n : Int) : PyData := bestDf min ((k.filter fun q => decide (q.1 > n)).map (·.1)) .none
/-- the row fits -/
def Fits (k : KD) (n m : Int) : Prop := (∀ q ∈ k, q.1 < n → q.2.m ≤ m) ∧ ∀ q ∈ k, n < q.1 → m ≤ q.2.m
/-- it is late -/
def TooLate (k : KD) (n m : Int) : Prop := (∃ q ∈ k, q.1 < n) ∧ ∀ q ∈ k, q.1 < n → m < q.2.m
def spNeedFit (K : PySem.W.Frag) : Sp := fun vs H Q E => ∃ (b : Addr) (k : KD) (n m : Int), vs = [.ref b, .int n, .int m] ∧ KrAt H b k ∧ k.length ≤ 60 ∧
  ((Fits k n m ∧ ∀ H', Same H H' → Q .non H') ∨ (TooLate k n m ∧ ∀ d H', Same H H' → E (.ref (CL K)) (some d) H'))
theorem aget_nd {k : KD} {n : Int} (h : n ∈ k.map (·.1)) : ∃ r, aget k n = some r ∧ (n, r) ∈ k := by
  induction k with
  | nil => cases h
  | cons q k ih =>
    by_cases e : q.1 = n
    · exact ⟨q.2, by simp [aget, e], by rw [← e]; exact List.mem_cons_self ..⟩
    · rw [List.map_cons] at h
      rcases List.mem_cons.mp h with z | h
      · exact (e z.symm).elim
      · obtain ⟨r, h1, h2⟩ := ih h
        exact ⟨r, by rw [← h1]; simp [aget, e], List.mem_cons_of_mem _ h2⟩
theorem bestDf_mem {g : Int → Int → Int} (hg : ∀ a b, g a b = a ∨ g a b = b) (l : List Int) : (l = [] ∧ bestDf g l .none = .none) ∨ ∃ n ∈ l, bestDf g l .none = .int n := by
  cases l with
  | nil => exact .inl ⟨rfl, rfl⟩
  | cons n r =>
    refine .inr ⟨r.foldl g n, ?_, rfl⟩
    have key : ∀ (r : List Int) (n : Int), r.foldl g n ∈ n :: r := by
      intro r
      induction r with
      | nil => intro n; simp
      | cons a r ih =>
        intro n
        rw [List.foldl_cons]
        rcases List.mem_cons.mp (ih (g n a)) with e | h
        · rw [e]
          rcases hg n a with e | e <;> rw [e] <;> simp
        · simp [h]
    exact key r n
section
variable {P : Program} {w : World} {K : PySem.W.Frag} {mg : Str → Option Value} {base : Heap}
theorem sc_need_fit : FnScope ["rows", "number", "minute", "ahead", "behind", "one"] ["rows", "number", "minute"] (defScope (top 69)) := ⟨rfl, rfl, rfl, by decide +kernel, rfl, by decide +kernel, by decide +kernel⟩
theorem okF_need_fit (T : Tw K mg w base) : ∃ fd, FunD K "need_fit" "need_fit" (defArgs (top 69)) (defBody (top 69)) (defScope (top 69)) [] [] (He.ga K "need_fit") fd ∧ FnOk P w K mg base (L2.CX P w) 3 (He.ga K "need_fit") fd ["rows", "number", "minute"] (spNeedFit K) := by
  obtain ⟨g, fd, F⟩ := T.f_need_fit
  refine ⟨fd, F, F.ok sc_need_fit (fun vs H Q E h => ?_) (fun cdv A outer s H vs Q E hr h => ?_)⟩
  · obtain ⟨b, k, n, m, rfl, _⟩ := h; rfl
  · obtain ⟨b, k, n, m, rfl, hb, hl, h⟩ := h
    have nd := sc_need_fit.nd
    obtain ⟨fdL, FL, BL⟩ := okF_late (P := P) T
    refine ⟨_, pss_cons (ps_set (i := 3) nd rfl (Or.inl rfl) (pe_callBK (cr_maxDef rfl hr.units) rfl T.n_max (by decide +kernel) (pa_cons
          (pe_lc (own := [("one", 5)]) (g := gName 5) rfl nd (pi_keys (pv 0)) (blkOk_by (N := ["rows", "number", "minute", "ahead", "behind", "one"]) (sc := defScope (top 69)) (by decide +kernel)) (fun _ _ _ _ _ => pg_name (i := 5) nd rfl (.inl rfl))
            (fun _ _ _ _ _ => pts_one (pt_cmpR op_lt (pv 5) (pv 1) (nomark _))) (fun _ _ _ _ _ => pv 5)) pa_nil) (pk_cons pe_non pk_nil)))
      (pss_cons (ps_set (i := 4) nd rfl (Or.inl rfl) (pe_callBK (cr_minDef rfl hr.units) rfl T.n_min (by decide +kernel) (pa_cons
          (pe_lc (own := [("one", 5)]) (g := gName 5) rfl nd (pi_keys (pv 0)) (blkOk_by (N := ["rows", "number", "minute", "ahead", "behind", "one"]) (sc := defScope (top 69)) (by decide +kernel)) (fun _ _ _ _ _ => pg_name (i := 5) nd rfl (.inl rfl))
            (fun _ _ _ _ _ => pts_one (pt_cmpR op_gt (pv 5) (pv 1) (nomark _))) (fun _ _ _ _ _ => pv 5)) pa_nil) (pk_cons pe_non pk_nil)))
      (pss_cons (ps_if (PW.pt (pw_and (pt_cmpR op_notN1 (pv 3) pe_non (nomark _)) (pw_and1 (pt_cmpR op_gt (pe_ix ix_tup (pe_dget hr.u1 (pv 0) (pv 3) (fun _ _ => rfl)) pe_int (fun _ _ => rfl)) (pv 2) (nomark _)))))
          (pss_one (ps_raise rfl (takes_of rfl rfl rfl rfl) (pmk_late T.late FL hr BL .nil passL rfl T.g_late (pa_cons (pv 3) pa_nil)))) pss_nil)
      (pss_one (ps_if (PW.pt (pw_and (pt_cmpR op_notN1 (pv 4) pe_non (nomark _)) (pw_and1 (pt_cmpR op_lt (pe_ix ix_tup (pe_dget hr.u1 (pv 0) (pv 4) (fun _ _ => rfl)) pe_int (fun _ _ => rfl)) (pv 2) (nomark _)))))
          (pss_one ps_never) pss_nil)))), ?_⟩
    have lc : ∀ {H1 : Hp} {σ : L2.St} {t : TT} {p : Int × Row → Bool}, Same H H1 → σ[0]? = some (some (.ref b)) → (∀ q ∈ k, ∀ (v : V) (H2 : Hp), Same H H2 → Pt H2 (.int q.1) v → EvB t ((wipe σ [5]).set 5 (some v)) H2 (p q)) → (∀ v, wipe ((wipe σ [5]).set 5 (some v)) [5] = wipe σ [5]) → (∀ v, ((wipe σ [5]).set 5 (some v))[5]? = some (some v)) →
        EvN (tLc (iKeys (tVar 0)) (gName 5) t (tVar 5) [5]) σ H1 (((k.filter p).map (·.1)).map PyData.int) := fun {H1 σ t p} k1 h0 hp hw h5 => by
      rw [List.map_map]
      exact en_lc k (fun q => .int q.1) p (fun q => .int q.1) (by omega) (fun _ _ _ => rfl) (ei_rows (ev_var h0) (hb.keep k1.fz)) fun q hq v H2 k2 pv =>
        ⟨(wipe σ [5]).set 5 (some v), fun Q qq => qq, hw v, hp q hq v H2 (k1.trans k2) pv, fun _ => ed_var (h5 v) pv⟩
    refine q_set (d := aheadM k n) (ed_best (lc (p := fun q => decide (q.1 < n)) (Same.refl H) rfl (fun q hq v H2 k2 pv => eb_T (ed_op (ed_var rfl pv) (ed_var rfl (pt_int.mpr rfl)) rd_ib)) (fun v => rfl) (fun v => rfl)) (fun H => pt_non.mpr rfl)) fun va H1 k1 pa => ?_
    refine q_set (d := behindM k n) (ed_best (lc (p := fun q => decide (q.1 > n)) k1 rfl (fun q hq v H2 k2 pv => eb_T (ed_op (ed_var rfl pv) (ed_var rfl (pt_int.mpr rfl)) rd_ib)) (fun v => rfl) (fun v => rfl)) (fun H => pt_non.mpr rfl)) fun vb H2 k2 pb => ?_
    have s2 := k1.trans k2
    have hmax : ∀ a b : Int, max a b = a ∨ max a b = b := fun a b => by rcases Int.le_total a b with h | h; exact .inr (Int.max_eq_right h); exact .inl (Int.max_eq_left h)
    have hmin : ∀ a b : Int, min a b = a ∨ min a b = b := fun a b => by rcases Int.le_total a b with h | h; exact .inl (Int.min_eq_left h); exact .inr (Int.min_eq_right h)
    have hA : (aheadM k n = .none ∧ ∀ q ∈ k, ¬ q.1 < n) ∨ ∃ a r, aheadM k n = .int a ∧ aget k a = some r ∧ (a, r) ∈ k ∧ a < n := by
      rcases bestDf_mem hmax ((k.filter fun q => decide (q.1 < n)).map (·.1)) with ⟨e, e2⟩ | ⟨a, ha, e⟩
      · refine .inl ⟨e2, fun q hq hlt => ?_⟩
        have : q.1 ∈ (k.filter fun q => decide (q.1 < n)).map (·.1) := List.mem_map.mpr ⟨q, List.mem_filter.mpr ⟨hq, decide_eq_true hlt⟩, rfl⟩
        rw [e] at this
        cases this
      · obtain ⟨q, hq, rfl⟩ := List.mem_map.mp ha
        obtain ⟨hq1, hq2⟩ := List.mem_filter.mp hq
        obtain ⟨r, h1, h2⟩ := aget_nd (List.mem_map.mpr ⟨q, hq1, rfl⟩)
        exact .inr ⟨q.1, r, e, h1, h2, of_decide_eq_true hq2⟩
    have hB : behindM k n = .none ∨ ∃ a r, behindM k n = .int a ∧ aget k a = some r ∧ (a, r) ∈ k ∧ n < a := by
      rcases bestDf_mem hmin ((k.filter fun q => decide (q.1 > n)).map (·.1)) with ⟨e, e2⟩ | ⟨a, ha, e⟩
      · exact .inl e2
      · obtain ⟨q, hq, rfl⟩ := List.mem_map.mp ha
        obtain ⟨hq1, hq2⟩ := List.mem_filter.mp hq
        obtain ⟨r, h1, h2⟩ := aget_nd (List.mem_map.mpr ⟨q, hq1, rfl⟩)
        exact .inr ⟨q.1, r, e, h1, h2, of_decide_eq_true hq2⟩
    have rowm : ∀ {H3 : Hp} {σ : L2.St} {i : Nat} {v : V} {a : Int} {r : Row}, Same H H3 → σ[0]? = some (some (.ref b)) → σ[i]? = some (some v) → Pt H3 (.int a) v → aget k a = some r → EvD (tOp (rIxT K) (tDGet (tVar 0) (tVar i)) (tC (.int 0))) σ H3 (.int r.m) :=
      fun {H3 σ i v a r} k3 h0 hi pv hr => ed_op (ed_rowGet (ev_var h0) (ed_var hi pv) (hb.keep k3.fz) hr) ed_int (rd_ixT (d := .int r.m) rfl)
    have rest : Fits k n m → (∀ H', Same H H' → Q .non H') → ∀ H3, Same H2 H3 → _ := fun hf hq H3 k3 => s_when (tu := tNever) (t := tAnd (tTest (tOp rNotN (tVar 4) (tC .non))) (tTest (tOp (rI0 fun i j => .bl (decide (i < j))) (tOp (rIxT K) (tDGet (tVar 0) (tVar 4)) (tC (.int 0))) (tVar 2)))) (D := { nx := fun _ H' => Q .non H', rt := Q }) (σ := [some (.ref b), some (.int n), some (.int m), some va, some vb, none]) (H := H3) (b := false) (by
        rcases hB with e | ⟨a, r, e, h1, h2, h3⟩
        · rw [e] at pb
          exact eb_and (b := false) (c := false) (eb_notN (ed_var rfl (pb.keep k3)) fun H4 w p => by cases pt_non.mp p; rfl) (fun z => by cases z)
        · rw [e] at pb
          exact (eb_and (b := true) (eb_notN (ed_var rfl (pb.keep k3)) fun H4 w p => by cases pt_int.mp p; rfl) fun _ => eb_T (ed_op (rowm (s2.trans k3) rfl rfl (pb.keep k3) h1) (ed_var rfl (pt_int.mpr rfl)) rd_ib)).to (by
            rw [Bool.true_and]
            exact decide_eq_false (by have := hf.2 _ h2 h3; simp only at this; omega))) (fun z => by cases z) (fun _ H4 k4 => hq H4 ((s2.trans k3).trans k4))
    rcases h with ⟨hf, hq⟩ | ⟨hlate, hq⟩
    · refine q_when (b := false) ?_ (fun z => by cases z) (fun _ H3 k3 => rest hf hq H3 k3)
      rcases hA with ⟨e, _⟩ | ⟨a, r, e, h1, h2, h3⟩
      · rw [e] at pa
        exact eb_and (b := false) (c := false) (eb_notN (ed_var rfl (pa.keep k2)) fun H4 w p => by cases pt_non.mp p; rfl) (fun z => by cases z)
      · rw [e] at pa
        exact (eb_and (b := true) (eb_notN (ed_var rfl (pa.keep k2)) fun H4 w p => by cases pt_int.mp p; rfl) fun _ => eb_T (ed_op (rowm s2 rfl rfl (pa.keep k2) h1) (ed_var rfl (pt_int.mpr rfl)) rd_ib)).to (by
          rw [Bool.true_and]
          exact decide_eq_false (by have := hf.1 _ h2 h3; simp only at this; omega))
    · obtain ⟨⟨q, hq1, hq2⟩, hall⟩ := hlate
      rcases hA with ⟨_, e⟩ | ⟨a, r, e, h1, h2, h3⟩
      · exact absurd hq2 (e q hq1)
      · rw [e] at pa
        refine q_when (b := true) ((eb_and (b := true) (eb_notN (ed_var rfl (pa.keep k2)) fun H4 w p => by cases pt_int.mp p; rfl) fun _ => eb_T (ed_op (rowm s2 rfl rfl (pa.keep k2) h1) (ed_var rfl (pt_int.mpr rfl)) rd_ib)).to (by
          rw [Bool.true_and]
          exact decide_eq_true (by have := hall _ h2 h3; simp only at this; omega))) (fun _ H3 k3 => ?_) (fun z => by cases z)
        refine ⟨va, rfl, by show 1 ≤ 1000; omega, fun x hx => ⟨x, va, rfl, upd_same, fun dx hd hne => ?_⟩⟩
        have hd3 : H3 dx = none := by rw [upd_ne hne] at hd; exact hd
        refine ⟨rfl, dx, [("number", va)], upd_same, ?_, hd3, ?_⟩
        · rw [upd_ne hne, upd_same]
        · exact hq dx _ ((s2.trans k3).trans (late_same hx hd3 hne))
theorem ok_need_fit (T : Tw K mg w base) : Cal P w K mg base 3 "need_fit" ["rows", "number", "minute"] (spNeedFit K) := by
  obtain ⟨fd, F, G⟩ := okF_need_fit (P := P) (base := base) T
  exact ⟨(T.f_need_fit).1, ⟨fd, G, F.bindsN fun _ _ _ _ _ _ us hl => match us, hl with | [_, _, _], _ => rfl⟩, F.kp⟩
end
end Ro
/-! methods of a Watch: tools -/
namespace Ro
open PySem PySem.Spec PyProof.Rows L2 PySem.W
variable [TabsC]
structure KOk (k : KD) : Prop where
  nd : (k.map (·.1)).Nodup
  rg : ∀ q ∈ k, 0 ≤ q.1 ∧ q.1 ≤ 999
  ok : ∀ q ∈ k, q.2.Ok
  mo : ∀ q ∈ k, ∀ q' ∈ k, q.1 < q'.1 → q.2.m ≤ q'.2.m
  len : k.length ≤ 30
abbrev isHouse (h : Str) : Prop := h = "bridge" ∨ h = "room"
def ofH (kk : KD × KD) (h : Str) : KD := if h = "bridge" then kk.1 else kk.2
theorem ofH_b (kk : KD × KD) : ofH kk "bridge" = kk.1 := rfl
theorem ofH_r (kk : KD × KD) : ofH kk "room" = kk.2 := rfl
/-- where a house's rows stand -/
theorem KeptAt.house {H : Hp} {a : Addr} {kk : KD × KD} {h : Str} (e : KeptAt H a kk) (hh : isHouse h) : ∃ od b r c, H a = some (.frz od (.dK (kvKept b r))) ∧ KrAt H b kk.1 ∧ KrAt H r kk.2 ∧ valV (kvKept b r) (.inr h) = some (.ref c) ∧ KrAt H c (ofH kk h) := by
  obtain ⟨od, b, r, e1, e2, e3⟩ := e
  rcases hh with rfl | rfl
  · exact ⟨od, b, r, b, e1, e2, e3, rfl, e2⟩
  · exact ⟨od, b, r, r, e1, e2, e3, rfl, e3⟩
def logOf (k : KD) : Log := (sortK k).map (·.2)
theorem logOf_len (k : KD) : (logOf k).length = k.length := by rw [logOf, List.length_map, (sortK_perm k).length_eq]
theorem KOk.log {k : KD} (h : KOk k) : LogOk (logOf k) := ⟨by rw [logOf_len]; have := h.len; omega, fun r hr => by
  obtain ⟨q, hq, rfl⟩ := List.mem_map.mp hr
  exact h.ok q ((sortK_perm k).mem_iff.mp hq)⟩
section
variable {K : PySem.W.Frag} {σ : L2.St} {H H' : Hp} {a b p dx C : Addr} {m : Str} {te td ty ta : TE} {t : TA} {k : KD} {A : WA} {S : WS} {sp : Sp} {E : XK} {Q : VK} {ds zs : List PyData} {z : PyData}
/-- m is no field -/
abbrev NoFld (m : Str) : Prop := ∀ lag low high ka pl cl tl, (fsW lag low high ka pl cl tl).lookup m = none
theorem run_meth (h : EvV ta σ H (.ref A.p)) (w : WatchAt K H A S) (hm : NoFld m) (ha : EvA t σ H ds) (k : ∀ vs H1, Same H H1 → PtA H1 ds vs → sp (.ref A.p :: vs) H1 Q E) : tMeth (CW K) m sp [] E ta t σ H Q :=
  h H (Same.refl H) _ fun H1 k1 => by
    obtain ⟨dx, ka, pks, cks, kvs, i⟩ := w
    refine ⟨A.p, dx, _, rfl, k1 _ _ i.ins, hm .., ha H1 k1 _ fun vs H2 k2 p => ?_⟩
    rw [List.append_nil]
    exact k vs H2 (k1.trans k2) p
theorem ed_meth (h : EvV ta σ H (.ref A.p)) (w : WatchAt K H A S) (hm : NoFld m) (ha : EvA t σ H ds) (k : ∀ vs H1, Same H H1 → PtA H1 ds vs → ∀ Q : VK, (∀ v H2, Same H1 H2 → Pt H2 z v → Q v H2) → sp (.ref A.p :: vs) H1 Q E) : EvD (tMeth (CW K) m sp [] E ta t) σ H z := fun H1 a Q q =>
  h H1 a _ fun H2 k1 => by
    obtain ⟨dx, ka, pks, cks, kvs, i⟩ := w
    refine ⟨A.p, dx, _, rfl, (a.trans k1) _ _ i.ins, hm .., ha H2 (a.trans k1) _ fun vs H3 k2 p => ?_⟩
    rw [List.append_nil]
    exact k vs H3 ((a.trans k1).trans k2) p Q fun v H4 k4 pz => q v H4 ((k1.trans k2).trans k4) pz
/-- self.f of a Watch -/
theorem WIn.kept_at {ka : Addr} {pks cks : List Addr} {kvs : List (L2.Key × V)} (i : WIn K H A S dx ka pks cks kvs) (c : Cls K (CW K)) (na : NoAttr K (CW K) "kept") (h : EvV te σ H (.ref A.p)) : EvV (tFld K te "kept") σ H (.ref ka) := ev_fld c na h i.ins rfl
/-- sorted(rows) -/
def rSortRows : List V → Hp → VK → Prop := fun xs H Q => ∃ (a : Addr) (kvs : List (L2.Key × V)) (ks : List Int), xs = [.ref a] ∧ Rd H a (.dK kvs) ∧ kvs.map (·.1) = ks.map Sum.inl ∧ ks.length < 64 ∧ ∀ (ys : List Int) (p : Addr), ys.Perm ks → ys.Pairwise (· ≤ ·) → H p = none → Q (.ref p) (upd H p (.lst (ys.map V.int)))
theorem cr_sortRows {X : Cx} (hc : X.calm = true) : CallR X (.builtin "sorted") rSortRows := call_sortedDI hc
theorem en_sortRows (hd : EvV td σ H (.ref b)) (e : KrAt H b k) (hl : k.length < 64) : EvN (tCB rSortRows (tCons td tNil)) σ H ((sortK k).map fun q => .int q.1) := fun H1 s Q q => hd H1 s _ fun H2 k2 => by
  obtain ⟨od, kvs, ha2, rs⟩ := e.keep (s.trans k2).fz
  refine ⟨b, kvs, k.map (·.1), rfl, .inr ⟨od, ha2⟩, by rw [rs.keys, List.map_map]; rfl, by rw [List.length_map]; exact hl, fun ys p hp hs hn => ?_⟩
  have e1 : ys = (sortK k).map (·.1) := sortedI_uniq (hp.trans ((sortK_perm k).map _).symm) hs (sortK_sorted k)
  refine q p _ _ (k2.free hn) (k2.trans (same_new hn)) upd_same ?_
  rw [e1]
  rw [show ((sortK k).map fun q => PyData.int q.1) = ((sortK k).map (·.1)).map PyData.int from by rw [List.map_map]; rfl]
  exact PtA.ints _
theorem sorted_get (h : KOk k) : ∀ q ∈ sortK k, aget k q.1 = some q.2 := fun q hq => by
  have hq' := (sortK_perm k).mem_iff.mp hq
  have key : ∀ {k : KD}, (k.map (·.1)).Nodup → q ∈ k → aget k q.1 = some q.2 := by
    intro k
    induction k with
    | nil => intro _ h; cases h
    | cons a k ih =>
      intro nd hm
      rw [List.map_cons] at nd
      obtain ⟨n1, n2⟩ := List.nodup_cons.mp nd
      rcases List.mem_cons.mp hm with e | hm
      · subst e; simp [aget]
      · have ne : a.1 ≠ q.1 := fun z => n1 (by rw [z]; exact List.mem_map.mpr ⟨q, hm, rfl⟩)
        rw [← ih n2 hm]
        simp [aget, ne]
  exact key h.nd hq'
/-- tuple(xs), a list that is new -/
theorem ed_tupOf {te : TE} (h : EvN te σ H ds) : EvD (tCB (fun xs H Q => ∃ p ys, xs = [.ref p] ∧ ((SqL K H p ys ∧ ∀ l, H l = none → Q (.ref l) (upd H l (.tup ys))) ∨ (SqT K H p ys ∧ Q (.ref p) H))) (tCons te tNil)) σ H (.tuple ds) := fun H1 a Q q =>
  h H1 a _ fun p xs H2 hp k e px => ⟨p, xs, rfl, .inl ⟨SqL.of e, fun l hl => q _ _ (k.trans (same_new hl)) (pt_tup.mpr ⟨l, xs, rfl, upd_same, PtA.keep (same_new hl) _ _ px⟩)⟩⟩
end
end Ro
namespace Ro
open PySem PySem.Spec PyProof.Rows L2 PySem.W
variable [TabsC]
def spNeedHouse (K : PySem.W.Frag) : Sp := fun vs H Q _ => ∃ (A : WA) (S : WS) (h : Str), vs = [.ref A.p, .str h] ∧ WatchAt K H A S ∧ isHouse h ∧ ∀ H', Same H H' → Q .non H'
def spLog (K : PySem.W.Frag) : Sp := fun vs H Q _ => ∃ (A : WA) (S : WS) (h : Str), vs = [.ref A.p, .str h] ∧ WatchAt K H A S ∧ isHouse h ∧ KOk (ofH S.kk h) ∧ ∀ v H', Same H H' → Pt H' (logD (logOf (ofH S.kk h))) v → Q v H'
def isRingM (k : KD) (n : Int) : Bool := match aget k n with
  | none => false
  | some r => decide (r.l = "port" ∨ r.l = "star")
def spIsRing (K : PySem.W.Frag) : Sp := fun vs H Q _ => ∃ (A : WA) (S : WS) (n : Int), vs = [.ref A.p, .int n] ∧ WatchAt K H A S ∧ KOk S.kk.1 ∧ ∀ H', Same H H' → Q (.bl (isRingM S.kk.1 n)) H'
theorem aget_in {k : KD} {n : Int} {r : Row} (h : aget k n = some r) : ∃ q ∈ k, q = (n, r) := by
  induction k with
  | nil => cases h
  | cons q k ih =>
    by_cases e : q.1 = n
    · have : q.2 = r := by simpa [aget, e] using h
      exact ⟨q, List.mem_cons_self .., by rw [← e, ← this]⟩
    · have : aget k n = some r := by rw [← h]; simp [aget, e]
      obtain ⟨q', h1, h2⟩ := ih this
      exact ⟨q', List.mem_cons_of_mem _ h1, h2⟩
section
variable {P : Program} {w : World} {K : PySem.W.Frag} {mg : Str → Option Value} {base : Heap}
theorem sc_need_house : FnScope ["self", "house"] ["self", "house"] (defScope (sM 3)) := ⟨rfl, rfl, rfl, by decide +kernel, rfl, by decide +kernel, by decide +kernel⟩
theorem okF_need_house (T : Tw K mg w base) : ∃ fd, FunD K "need_house" "Watch.need_house" (defArgs (sM 3)) (defBody (sM 3)) (defScope (sM 3)) [] [] (He.ma K (CW K) "need_house") fd ∧ FnOk P w K mg base (L2.CX P w) 1 (He.ma K (CW K) "need_house") fd ["self", "house"] (spNeedHouse K) := by
  obtain ⟨g, fd, F⟩ := T.m_need_house
  refine ⟨fd, F, F.ok sc_need_house (fun vs H Q E h => ?_) (fun cdv A outer s H vs Q E hr h => ?_)⟩
  · obtain ⟨A, S, h, rfl, _⟩ := h; rfl
  · obtain ⟨A, S, hs, rfl, ⟨dx, ka, pks, cks, kvs, i⟩, hh, k⟩ := h
    refine ⟨_, pss_one (ps_if (PW.pt (pw_or (pt_not (pt_val (pe_callB call_isi rfl T.n_isinstance (by decide +kernel) (pa_cons (pv 1) (pa_cons (pe_ty (T := "str") T.n_str (by decide +kernel)) pa_nil)))))
          (pw_or1 (pt_cmp (pc_dnotin hr.u1 (pv 1) (pe_fld (pv 0) rfl)))))) (pss_one ps_never) pss_nil), ?_⟩
    obtain ⟨od, b, r, c, e1, e2, e3, e4, e5⟩ := i.kept.house hh
    have e0 : EvV (tVar 0) (start ["self", "house"] [.ref A.p, .str hs]) H (.ref A.p) := ev_var rfl
    have e1' : EvD (tVar 1) (start ["self", "house"] [.ref A.p, .str hs]) H (.str hs) := ed_var rfl (pt_str.mpr rfl)
    refine s_when (b := false) ((eb_or (eb_not (eb_B (ed_isi e1' (kit_str _)))) fun _ => eb_B (ed_inS e1' (i.kept_at T.cls T.a_kept e0) e1)).to ?_) (fun z => by cases z) (fun _ H1 k1 => k H1 k1)
    rw [e4]
    rfl
theorem ok_need_house (T : Tw K mg w base) : CalM P w K mg base 1 "need_house" ["self", "house"] (spNeedHouse K) := by
  obtain ⟨fd, F, G⟩ := okF_need_house (P := P) (base := base) T
  exact ⟨(T.m_need_house).1, ⟨fd, G, F.bindsN fun _ _ _ _ _ _ us hl => match us, hl with | [_, _], _ => rfl⟩⟩
theorem sc_log : FnScope ["self", "house", "rows", "number"] ["self", "house"] (defScope (sM 10)) := ⟨rfl, rfl, rfl, by decide +kernel, rfl, by decide +kernel, by decide +kernel⟩
theorem okF_log (T : Tw K mg w base) : ∃ fd, FunD K "log" "Watch.log" (defArgs (sM 10)) (defBody (sM 10)) (defScope (sM 10)) [] [] (He.ma K (CW K) "log") fd ∧ FnOk P w K mg base (L2.CX P w) 2 (He.ma K (CW K) "log") fd ["self", "house"] (spLog K) := by
  have C1 : CalM P w K mg base 1 "need_house" ["self", "house"] (spNeedHouse K) := ok_need_house T
  obtain ⟨g, fd, F⟩ := T.m_log
  refine ⟨fd, F, F.ok sc_log (fun vs H Q E h => ?_) (fun cdv A outer s H vs Q E hr h => ?_)⟩
  · obtain ⟨A, S, h, rfl, _⟩ := h; rfl
  · obtain ⟨A, S, hs, rfl, wat, hh, ok, k⟩ := h
    have nd := sc_log.nd
    refine ⟨_, pss_cons (ps_expr (pe_calm (pv 0) T.cls C1 hr (pa_cons (pv 1) pa_nil)))
      (pss_cons (ps_set (i := 2) nd rfl (Or.inr rfl) (pe_dget hr.u1 (pe_fld (pv 0) rfl) (pv 1) (fun _ _ => rfl)))
      (pss_one (ps_ret (pe_callTy call_tuple_of rfl T.n_tuple (by decide +kernel) (pa_cons
         (pe_lc (own := [("number", 3)]) (g := gName 3) (tt := tYes) rfl nd (pi_list (pe_callB (cr_sortRows rfl) rfl T.n_sorted (by decide +kernel) (pa_cons (pv 2) pa_nil))) (blkOk_by (N := ["self", "house", "rows", "number"]) (sc := defScope (sM 10)) (by decide +kernel))
           (fun _ _ _ _ _ => pg_name (i := 3) nd rfl (.inl rfl)) (fun _ _ _ _ _ => pts_nil) (fun _ _ _ _ _ => pe_dget hr.u1 (pv 2) (pv 3) (fun _ _ => rfl))) pa_nil))))), ?_⟩
    have e0 : EvV (tVar 0) (start ["self", "house", "rows", "number"] [.ref A.p, .str hs]) H (.ref A.p) := ev_var rfl
    have e1' : EvD (tVar 1) (start ["self", "house", "rows", "number"] [.ref A.p, .str hs]) H (.str hs) := ed_var rfl (pt_str.mpr rfl)
    refine q_drop (d := .none) (ed_meth e0 wat (fun _ _ _ _ _ _ _ => rfl) (ea_one e1') fun vs H1 k1 p Q q => ?_) fun H1 k1 => ?_
    · obtain ⟨v, rfl, p1⟩ := ptA1 p
      cases pt_str.mp p1
      exact ⟨A, S, hs, rfl, wat.same k1, hh, fun H' s => q _ H' s (pt_non.mpr rfl)⟩
    · obtain ⟨dx, ka, pks, cks, kvs, i⟩ := wat.same k1
      obtain ⟨od, b, r, c, a1, a2, a3, a4, a5⟩ := i.kept.house hh
      refine q_setV (v := .ref c) (ev_dgetS (i.kept_at T.cls T.a_kept (ev_var rfl)) (ed_var rfl (pt_str.mpr rfl)) a1 a4) fun H2 k2 => ?_
      have hc := a5.keep k2.fz
      have en := en_lc (t := tYes) (vs := [3]) (gt := gName 3) (te := tDGet (tVar 2) (tVar 3)) (wi := iList K (tCB rSortRows (tCons (tVar 2) tNil))) (σ := [some (.ref A.p), some (.str hs), some (.ref c), none]) (sortK (ofH S.kk hs)) (fun q => .int q.1) (fun _ => true) (fun q => rowD q.2) (by
          rw [(sortK_perm _).length_eq]; have := ok.len; omega) (fun q hq _ => noL_row (ok.ok q ((sortK_perm _).mem_iff.mp hq)).w) (ei_list (en_sortRows (ev_var rfl) hc (by have := ok.len; omega)).dd)
          (fun q hq v H3 k3 pv => ⟨[some (.ref A.p), some (.str hs), some (.ref c), some v], fun Q qq => qq, rfl, fun H4 _ Q q => q H4 (Same.refl H4), fun _ => ed_rowGet (ev_var rfl) (ed_var rfl pv) (hc.keep k3.fz) (sorted_get ok q hq)⟩)
      rw [List.filter_eq_self.mpr (fun _ _ => rfl)] at en
      refine s_ret (d := logD (logOf (ofH S.kk hs))) ((ed_tupOf en).to (by unfold logOf logD; rw [List.map_map]; rfl)) fun v H3 k3 p3 => k v H3 ((k1.trans k2).trans k3) p3
theorem ok_log (T : Tw K mg w base) : CalM P w K mg base 2 "log" ["self", "house"] (spLog K) := by
  obtain ⟨fd, F, G⟩ := okF_log (P := P) (base := base) T
  exact ⟨(T.m_log).1, ⟨fd, G, F.bindsN fun _ _ _ _ _ _ us hl => match us, hl with | [_, _], _ => rfl⟩⟩
theorem sc_is_ring : FnScope ["self", "number"] ["self", "number"] (defScope (sM 13)) := ⟨rfl, rfl, rfl, by decide +kernel, rfl, by decide +kernel, by decide +kernel⟩
theorem okF_is_ring (T : Tw K mg w base) : ∃ fd, FunD K "is_ring" "Watch.is_ring" (defArgs (sM 13)) (defBody (sM 13)) (defScope (sM 13)) [] [] (He.ma K (CW K) "is_ring") fd ∧ FnOk P w K mg base (L2.CX P w) 3 (He.ma K (CW K) "is_ring") fd ["self", "number"] (spIsRing K) := by
  have C1 : Cal P w K mg base 2 "is_from_to" ["thing", "least", "most"] spIsFromTo := ok_is_from_to T.toTx
  obtain ⟨g, fd, F⟩ := T.m_is_ring
  refine ⟨fd, F, F.ok sc_is_ring (fun vs H Q E h => ?_) (fun cdv A outer s H vs Q E hr h => ?_)⟩
  · obtain ⟨A, S, h, rfl, _⟩ := h; rfl
  · obtain ⟨A, S, n, rfl, ⟨dx, ka, pks, cks, kvs, i⟩, ok, k⟩ := h
    refine ⟨_, pss_cons (ps_if (PW.pt (pw_or (pt_not (pt_val (pe_cal C1 hr (pa_cons (pv 1) (pa_cons pe_int (pa_cons (pe_gi T.i_MOST_NUMBER) pa_nil))))))
          (pw_or1 (pt_cmp (pc_dnotin hr.u1 (pv 1) (pe_dget hr.u1 (pe_fld (pv 0) rfl) pe_str (fun _ _ => rfl))))))) (pss_one (ps_ret pe_bl)) pss_nil)
      (pss_one (ps_ret (pe_cmpR op_in_seq (pe_ix ix_tup (pe_dget hr.u1 (pe_dget hr.u1 (pe_fld (pv 0) rfl) pe_str (fun _ _ => rfl)) (pv 1) (fun _ _ => rfl)) pe_int (fun _ _ => rfl)) (pe_gr T.t_BELLS_watch.1) rfl))), ?_⟩
    obtain ⟨od, b, r, c, a1, a2, a3, a4, a5⟩ := i.kept.house (h := "bridge") (.inl rfl)
    have e0 : EvV (tVar 0) (start ["self", "number"] [.ref A.p, .int n]) H (.ref A.p) := ev_var rfl
    have e1 : EvD (tVar 1) (start ["self", "number"] [.ref A.p, .int n]) H (.int n) := ed_var rfl (pt_int.mpr rfl)
    have eb : EvV (tDGet (tFld K (tVar 0) "kept") (tC (.str "bridge"))) (start ["self", "number"] [.ref A.p, .int n]) H (.ref c) := ev_dgetS (i.kept_at T.cls T.a_kept e0) ed_str a1 a4
    rw [ofH_b] at a5
    refine q_when (eb_or (eb_not (eb_B (ed_call (ea_cons e1 (ea_cons ed_int (ea_one ed_int))) ⟨_, 0, 999, rfl, rfl⟩))) fun _ => eb_B (ed_rowNin e1 eb a5)) (fun hc H1 k1 => ?_) (fun hc H1 k1 => ?_)
    · refine s_ret ed_bl fun v H2 k2 p2 => ?_
      cases pt_bl.mp p2
      have e : isRingM S.kk.1 n = false := by
        unfold isRingM
        cases hg : aget S.kk.1 n with
        | none => rfl
        | some r =>
          rw [hg] at hc
          obtain ⟨q, hq, eq⟩ := aget_in hg
          have := ok.rg q hq
          rw [eq] at this
          simp only at this
          simp only [isFromTo, Option.isSome_some, Bool.not_true, Bool.or_false, Bool.not_eq_true', Bool.and_eq_false_iff, decide_eq_false_iff_not] at hc
          omega
      have := k H2 (k1.trans k2)
      rw [e] at this
      exact this
    · obtain ⟨r, hg⟩ : ∃ r, aget S.kk.1 n = some r := by
        cases hg : aget S.kk.1 n with
        | none => rw [hg] at hc; simp at hc
        | some r => exact ⟨r, rfl⟩
      refine s_ret (ed_inT2 (ed_op (ed_rowGet (eb.mono k1) (e1.mono k1) (a5.keep k1.fz) hg) ed_int (rd_ixT (d := .str r.l) rfl)) T.t_BELLS_watch.2) fun v H2 k2 p2 => ?_
      cases pt_bl.mp p2
      have := k H2 (k1.trans k2)
      rw [show isRingM S.kk.1 n = decide (r.l = "port" ∨ r.l = "star") from by unfold isRingM; rw [hg]] at this
      exact this
theorem ok_is_ring (T : Tw K mg w base) : CalM P w K mg base 3 "is_ring" ["self", "number"] (spIsRing K) := by
  obtain ⟨fd, F, G⟩ := okF_is_ring (P := P) (base := base) T
  exact ⟨(T.m_is_ring).1, ⟨fd, G, F.bindsN fun _ _ _ _ _ _ us hl => match us, hl with | [_, _], _ => rfl⟩⟩
end
end Ro
namespace Ro
open PySem PySem.Spec PyProof.Rows L2 PySem.W
variable [TabsC]
structure KK (kk : KD × KD) : Prop where
  b : KOk kk.1
  r : KOk kk.2
theorem KK.of {kk : KD × KD} {h : Str} (k : KK kk) : KOk (ofH kk h) := by
  unfold ofH
  split
  · exact k.b
  · exact k.r
structure WOk (S : WS) : Prop where
  now : KK S.kk
  st : StrOk S.lag S.low S.high
  past : ∀ kk ∈ S.past, KK kk
  coming : ∀ kk ∈ S.coming, KK kk
  told : S.told.length ≤ 60
  nd : S.told.Nodup
def bestW (S : WS) : PyData := bestP (logOf S.kk.1) (logOf S.kk.2) S.lag S.low S.high
def spWBest (K : PySem.W.Frag) : Sp := fun vs H Q _ => ∃ (A : WA) (S : WS), vs = [.ref A.p] ∧ WatchAt K H A S ∧ WOk S ∧ Tb H (tabA K "ranks") ∧ ∀ v H', Same H H' → Pt H' (bestW S) v → Q v H'
def lotW (S : WS) : PyData := .int (((logOf S.kk.1).length : Int) + (logOf S.kk.2).length - 2 * (bestJ (logOf S.kk.1) (logOf S.kk.2) S.lag S.low S.high).length)
def spWLot (K : PySem.W.Frag) : Sp := fun vs H Q _ => ∃ (A : WA) (S : WS), vs = [.ref A.p] ∧ WatchAt K H A S ∧ WOk S ∧ Tb H (tabA K "ranks") ∧ ∀ v H', Same H H' → Pt H' (lotW S) v → Q v H'
section
variable {K : PySem.W.Frag} {σ : L2.St} {H H' : Hp} {te : TE} {t tk : TA} {v : V} {d z : PyData} {ds es : List PyData} {sp : Sp} {E : XK} {n m : Nat} {A : WA} {S : WS}
theorem ed_ofV (h : EvV te σ H v) (hp : ∀ H, Pt H d v) : EvD te σ H d := fun H1 a Q q => h H1 a _ fun H2 k => q v H2 k (hp H2)
theorem ed_callN {gV : List V → List V → List V} (ha : EvA t σ H ds) (hk : EvA tk σ H es) (l1 : ds.length = n) (l2 : es.length = m)
    (k : ∀ vs zs H1, Same H H1 → PtA H1 ds vs → PtA H1 es zs → ∀ Q : VK, (∀ v H2, Same H1 H2 → Pt H2 z v → Q v H2) → sp (gV vs zs) H1 Q E) : EvD (tCallN n m sp gV E t tk) σ H z := fun H1 a Q q =>
  ha H1 a _ fun vs H2 k2 p => hk H2 (a.trans k2) _ fun zs H3 k3 pz => ⟨by rw [p.length]; exact l1, by rw [pz.length]; exact l2, k vs zs H3 ((a.trans k2).trans k3) (PtA.keep k3 _ _ p) pz Q fun v H4 k4 p4 => q v H4 ((k2.trans k3).trans k4) p4⟩
theorem WatchAt.fldI (w : WatchAt K H A S) (c : Cls K (CW K)) (h : EvV te σ H (.ref A.p)) {f : Str} {i : Int} (na : NoAttr K (CW K) f) (l : ∀ ka pl cl tl, (fsW S.lag S.low S.high ka pl cl tl).lookup f = some (.int i)) : EvD (tFld K te f) σ H (.int i) := by
  obtain ⟨dx, ka, pks, cks, kvs, w⟩ := w
  exact ed_ofV (ev_fld c na h w.ins (l ..)) fun H => pt_int.mpr rfl
end
section
variable {P : Program} {w : World} {K : PySem.W.Frag} {mg : Str → Option Value} {base : Heap}
/-- self.log(house), said of the watch in slot 0 -/
theorem ed_log {σ : L2.St} {H : Hp} {A : WA} {S : WS} {te : TE} {h : Str} (w : WatchAt K H A S) (ok : KK S.kk) (e : EvV te σ H (.ref A.p)) (hh : isHouse h) : EvD (tMeth (CW K) "log" (spLog K) [] E0 te (tCons (tC (.str h)) tNil)) σ H (logD (logOf (ofH S.kk h))) :=
  ed_meth e w (fun _ _ _ _ _ _ _ => rfl) (ea_one ed_str) fun vs H1 k1 p Q q => by
    obtain ⟨v, rfl, p1⟩ := ptA1 p
    cases pt_str.mp p1
    exact ⟨A, S, h, rfl, w.same k1, hh, ok.of, q⟩
theorem sc_wbest : FnScope ["self"] ["self"] (defScope (sM 11)) := ⟨rfl, rfl, rfl, by decide +kernel, rfl, by decide +kernel, by decide +kernel⟩
theorem okF_wbest (T : Tw K mg w base) : ∃ fd, FunD K "best" "Watch.best" (defArgs (sM 11)) (defBody (sM 11)) (defScope (sM 11)) [] [] (He.ma K (CW K) "best") fd ∧ FnOk P w K mg base (L2.CX P w) 10 (He.ma K (CW K) "best") fd ["self"] (spWBest K) := by
  have C1 : CalM P w K mg base 2 "log" ["self", "house"] (spLog K) := ok_log T
  obtain ⟨fdB, FB, GB⟩ := okF_best (P := P) (base := base) T.toTy
  obtain ⟨its, kb⟩ := FB.kbindsD (ps := ["bridge", "room", "lag", "low", "high"]) 2 ["lag", "low", "high"] (fun us its ws => us ++ ws) (by decide) (fun r1 r2 r3 => r1.append r3) (fun T kV doc pm an cdv ct us its ws h1 h2 h3 => match us, h1, its, h2, ws, h3 with | [_, _], _, [_, _, _], _, [_, _, _], _ => ⟨_, rfl, rfl⟩)
  obtain ⟨g, fd, F⟩ := T.m_best
  refine ⟨fd, F, F.ok sc_wbest (fun vs H Q E h => ?_) (fun cdv A outer s H vs Q E hr h => ?_)⟩
  · obtain ⟨A, S, rfl, _⟩ := h; rfl
  · obtain ⟨A, S, rfl, wat, ok, tb, k⟩ := h
    refine ⟨_, pss_one (ps_ret (pe_callN GB hr rfl T.g_best_counts FB.kp kb passL (pa_cons (pe_calm (pv 0) T.cls C1 (hr.mono (by decide)) (pa_cons pe_str pa_nil)) (pa_cons (pe_calm (pv 0) T.cls C1 (hr.mono (by decide)) (pa_cons pe_str pa_nil)) pa_nil))
       (pk_cons (pe_fld (pv 0) rfl) (pk_cons (pe_fld (pv 0) rfl) (pk_cons (pe_fld (pv 0) rfl) pk_nil))))), ?_⟩
    have e0 : EvV (tVar 0) (start ["self"] [.ref A.p]) H (.ref A.p) := ev_var rfl
    exact s_ret (ed_callN (ea_cons (ed_log wat ok.now e0 (.inl rfl)) (ea_one (ed_log wat ok.now e0 (.inr rfl)))) (ea_cons (wat.fldI T.cls e0 T.a_lag fun _ _ _ _ => rfl) (ea_cons (wat.fldI T.cls e0 T.a_low fun _ _ _ _ => rfl) (ea_one (wat.fldI T.cls e0 T.a_high fun _ _ _ _ => rfl)))) rfl rfl
       fun vs zs H1 k1 p pz Q q => ⟨_, _, _, _, _, p.append pz, ok.now.b.log, ok.now.r.log, ok.st, k1.tb _ tb, q⟩) k
theorem ok_wbest (T : Tw K mg w base) : CalM P w K mg base 10 "best" ["self"] (spWBest K) := by
  obtain ⟨fd, F, G⟩ := okF_wbest (P := P) (base := base) T
  exact ⟨(T.m_best).1, ⟨fd, G, F.bindsN fun _ _ _ _ _ _ us hl => match us, hl with | [_], _ => rfl⟩⟩
/-- self.best() -/
theorem ed_wbest {σ : L2.St} {H : Hp} {A : WA} {S : WS} {te : TE} (w : WatchAt K H A S) (ok : WOk S) (tb : Tb H (tabA K "ranks")) (e : EvV te σ H (.ref A.p)) : EvD (tMeth (CW K) "best" (spWBest K) [] E0 te tNil) σ H (bestW S) :=
  ed_meth e w (fun _ _ _ _ _ _ _ => rfl) ea_nil fun vs H1 k1 p Q q => by
    cases ptA_nil.mp p
    exact ⟨A, S, rfl, w.same k1, ok, k1.tb _ tb, q⟩
theorem sc_wlot : FnScope ["self"] ["self"] (defScope (sM 12)) := ⟨rfl, rfl, rfl, by decide +kernel, rfl, by decide +kernel, by decide +kernel⟩
theorem okF_wlot (T : Tw K mg w base) : ∃ fd, FunD K "lot" "Watch.lot" (defArgs (sM 12)) (defBody (sM 12)) (defScope (sM 12)) [] [] (He.ma K (CW K) "lot") fd ∧ FnOk P w K mg base (L2.CX P w) 11 (He.ma K (CW K) "lot") fd ["self"] (spWLot K) := by
  have C1 : CalM P w K mg base 2 "log" ["self", "house"] (spLog K) := ok_log T
  have C2 : CalM P w K mg base 10 "best" ["self"] (spWBest K) := ok_wbest T
  obtain ⟨fdL, FL, GL⟩ := okF_lot (P := P) (base := base) T.toTx
  obtain ⟨g, fd, F⟩ := T.m_lot
  refine ⟨fd, F, F.ok sc_wlot (fun vs H Q E h => ?_) (fun cdv A outer s H vs Q E hr h => ?_)⟩
  · obtain ⟨A, S, rfl, _⟩ := h; rfl
  · obtain ⟨A, S, rfl, wat, ok, tb, k⟩ := h
    refine ⟨_, pss_one (ps_ret (pe_call GL (hr.mono (by decide)) rfl T.g_lot_lots FL.kp (FL.bindsN fun _ _ _ _ _ _ us hl => match us, hl with | [_, _, _], _ => rfl) .nil passL (pa_cons (pe_calm (pv 0) T.cls C1 (hr.mono (by decide)) (pa_cons pe_str pa_nil)) (pa_cons (pe_calm (pv 0) T.cls C1 (hr.mono (by decide)) (pa_cons pe_str pa_nil))
       (pa_cons (pe_ix ix_tup (pe_calm0 (pv 0) T.cls C2 hr) pe_int (fun _ _ => rfl)) pa_nil))))), ?_⟩
    have e0 : EvV (tVar 0) (start ["self"] [.ref A.p]) H (.ref A.p) := ev_var rfl
    exact s_ret (ed_call (ea_cons (ed_log wat ok.now e0 (.inl rfl)) (ea_cons (ed_log wat ok.now e0 (.inr rfl)) (ea_one (ed_op (ed_wbest wat ok tb e0) ed_int (rd_ixT (d := .list ((bestJ (logOf S.kk.1) (logOf S.kk.2) S.lag S.low S.high).map pairD)) rfl))))) ⟨_, _, _, rfl, rfl⟩) k
theorem ok_wlot (T : Tw K mg w base) : CalM P w K mg base 11 "lot" ["self"] (spWLot K) := by
  obtain ⟨fd, F, G⟩ := okF_wlot (P := P) (base := base) T
  exact ⟨(T.m_lot).1, ⟨fd, G, F.bindsN fun _ _ _ _ _ _ us hl => match us, hl with | [_], _ => rfl⟩⟩
end
end Ro
namespace Ro
open PySem PySem.Spec PyProof.Rows L2 PySem.W
variable [TabsC]
/-! ### answer_of: the mirror -/
def numsOf (k : KD) : List Int := (sortK k).map (·.1)
def idxI (ns : List Int) (n : Int) : Nat := ns.findIdx fun m => decide (m = n)
theorem idxI_ok {ns : List Int} {n : Int} (h : n ∈ ns) : idxI ns n < ns.length ∧ ns[idxI ns n]? = some n ∧ ∀ m, m < idxI ns n → ∀ z, ns[m]? = some z → z ≠ n := by
  have h1 : idxI ns n < ns.length := List.findIdx_lt_length_of_exists ⟨n, h, by simp⟩
  refine ⟨h1, ?_, fun m hm z hz e => ?_⟩
  · rw [List.getElem?_eq_getElem h1]
    have := List.findIdx_getElem (w := h1)
    exact congrArg some (of_decide_eq_true this)
  · have hlt : m < ns.length := by omega
    have := List.not_of_lt_findIdx hm
    rw [List.getElem?_eq_getElem hlt] at hz
    cases hz
    exact of_decide_eq_false this e
def namedD (ns : List Int) : Option Int → PyData
  | none => .none
  | some i => .int (ns.getD i.toNat 0)
def answerL (k : KD × KD) (J : List Pair) (n : Int) : List PyData :=
  let B := logOf k.1
  let R := logOf k.2
  let i := idxI (numsOf k.1) n
  let at_ := fun m : Nat => PyData.int ((numsOf k.2).getD m 0)
  match aget (mgI J) (i : Nat) with
  | none => [.str "never"]
  | some h => match fateM R (rowAt B (i : Nat)).l h.toNat with
    | some (true, j) => [.str "answered", at_ h.toNat, at_ j, namedD (numsOf k.1) (aget (mgI (J.map swapP)) (j : Nat))]
    | some (false, j) => [.str "taken", at_ h.toNat, at_ j]
    | none => [.str "open", at_ h.toNat]
def answerM (k : KD × KD) (J : List Pair) (n : Int) : PyData := if isRingM k.1 n = true then .tuple (answerL k J n) else .none
theorem namedD_noL (ns : List Int) (o : Option Int) : noL (namedD ns o) = true := by cases o <;> rfl
theorem namedD_dep (ns : List Int) (o : Option Int) : (namedD ns o).depth ≤ 10 := by cases o <;> simp [namedD, PyData.depth]
theorem answerM_ok (k : KD × KD) (J : List Pair) (n : Int) : AnsD (answerM k J n) := by
  unfold answerM
  split
  · unfold answerL
    dsimp only
    split
    · exact ⟨rfl, by simp [PyData.depth, PyData.depthAll]⟩
    · split
      · refine ⟨?_, ?_⟩
        · simp [noL, noLs, namedD_noL]
        · have := namedD_dep (numsOf k.1) (aget (mgI (J.map swapP)) (↑‹Nat›))
          simp only [PyData.depth, PyData.depthAll]
          omega
      · exact ⟨rfl, by simp [PyData.depth, PyData.depthAll]⟩
      · exact ⟨rfl, by simp [PyData.depth, PyData.depthAll]⟩
  · exact ⟨rfl, by simp [PyData.depth]⟩
def spAnswer (K : PySem.W.Frag) : Sp := fun vs H Q _ => ∃ (A : WA) (S : WS) (n : Int) (J : List Pair) (vj : V), vs = [.ref A.p, .int n, vj] ∧ WatchAt K H A S ∧ KK S.kk ∧ Pt H (.list (J.map pairD)) vj ∧ (∀ q ∈ J, IsP (logOf S.kk.1) (logOf S.kk.2) q) ∧ J.length ≤ 2000 ∧
  ∀ v H', Same H H' → Pt H' (answerM S.kk J n) v → Q v H'
section
variable {K : PySem.W.Frag} {σ : L2.St} {H H' : Hp} {te tf ty : TE} {ds es : List PyData} {ns : List Int} {n : Int}
theorem ed_catA (h : EvD te σ H (.tuple ds)) (h2 : EvD tf σ H (.tuple es)) (hl : ds.length + es.length ≤ 1000) : EvD (tOp (rCatA K) te tf) σ H (.tuple (ds ++ es)) := fun H1 a Q q =>
  h H1 a _ fun v H2 k p => h2 H2 (a.trans k) _ fun u H3 k3 pu => by
    obtain ⟨x, xs, rfl, hx, px⟩ := pt_tup.mp (p.keep k3)
    obtain ⟨y, ys, rfl, hy, py⟩ := pt_tup.mp pu
    have l1 := px.length
    have l2 := py.length
    refine ⟨x, y, xs, ys, rfl, rfl, SqT.of hx, SqT.of hy, by rw [sizeLine_eq, l1, l2]; omega, fun e => ?_, fun _ e => ?_, fun _ _ l hl => ?_⟩
    · subst e
      cases ds with
      | nil => exact q _ H3 (k.trans k3) pu
      | cons _ _ => simp at l1
    · subst e
      cases es with
      | nil => rw [List.append_nil] at q; exact q _ H3 (k.trans k3) (p.keep k3)
      | cons _ _ => simp at l2
    · exact q _ _ ((k.trans k3).trans (same_new hl)) (pt_tup.mpr ⟨l, _, rfl, upd_same, (PtA.keep (same_new hl) _ _ px).append (PtA.keep (same_new hl) _ _ py)⟩)
theorem ed_index (h : EvD te σ H (.list (ns.map .int))) (hy : EvD ty σ H (.int n)) (hn : n ∈ ns) : EvD (tBM K "list" (rIndex K) te (tCons ty tNil)) σ H (.int (idxI ns n : Nat)) := fun H1 a Q q =>
  h H1 a _ fun v H2 k p => by
    obtain ⟨x, xs, rfl, hx, px⟩ := pt_lst.mp p
    refine ⟨.inl ⟨rfl, xs, SqL.of hx⟩, hy H2 (a.trans k) _ fun y H3 k3 py => ?_⟩
    cases pt_int.mp py
    obtain ⟨h1, h2, h3⟩ := idxI_ok hn
    have ex := px.intsV
    subst ex
    refine ⟨x, ns.map V.int, .int n, idxI ns n, .int n, rfl, rfl, SqL.of (k3 _ _ hx), rfl, ?_, ?_, ?_, fun m z' hm hz => ?_, q _ H3 (k.trans k3) (pt_int.mpr rfl)⟩
    · rw [List.all_map]; exact List.all_eq_true.mpr fun _ _ => rfl
    · rw [List.getElem?_map, h2]; rfl
    · show (n == n) = true
      exact beq_self_eq_true _
    · rw [List.getElem?_map] at hz
      cases e : ns[m]? with
      | none => rw [e] at hz; cases hz
      | some z =>
        rw [e] at hz
        cases hz
        show (z == n) = false
        exact beq_eq_false_iff_ne.mpr (h3 m hm z e)
end
section
variable {P : Program} {w : World} {K : PySem.W.Frag} {mg : Str → Option Value} {base : Heap}
theorem sc_answer_of : FnScope ["self", "number", "joining", "bridge", "room", "found", "at"] ["self", "number", "joining"] (defScope (sM 14)) := ⟨rfl, rfl, rfl, by decide +kernel, rfl, by decide +kernel, by decide +kernel⟩
theorem okF_answer_of (T : Tw K mg w base) : ∃ fd, FunD K "answer_of" "Watch.answer_of" (defArgs (sM 14)) (defBody (sM 14)) (defScope (sM 14)) [] [] (He.ma K (CW K) "answer_of") fd ∧ FnOk P w K mg base (L2.CX P w) 4 (He.ma K (CW K) "answer_of") fd ["self", "number", "joining"] (spAnswer K) := by
  have C1 : CalM P w K mg base 3 "is_ring" ["self", "number"] (spIsRing K) := ok_is_ring T
  have C2 : Cal P w K mg base 3 "ring_of" ["bridge", "room", "joining", "number"] spRingOf := ok_ring_of T.toTx
  have C3 : CalM P w K mg base 2 "log" ["self", "house"] (spLog K) := ok_log T
  have C4 : Cal P w K mg base 1 "named" ["numbers", "at"] spNamed := ok_named T.toTx
  obtain ⟨g, fd, F⟩ := T.m_answer_of
  refine ⟨fd, F, F.ok sc_answer_of (fun vs H Q E h => ?_) (fun cdv A outer s H vs Q E hr h => ?_)⟩
  · obtain ⟨A, S, n, J, vj, rfl, _⟩ := h; rfl
  · obtain ⟨A, S, n, J, vj, rfl, wat, ok, pJ, hJ, hJl, k⟩ := h
    have nd := sc_answer_of.nd
    refine ⟨_, pss_cons (ps_if (pt_not (pt_val (pe_calm (pv 0) T.cls C1 hr (pa_cons (pv 1) pa_nil)))) (pss_one (ps_ret pe_non)) pss_nil)
      (pss_cons (ps_set (i := 3) nd rfl (.inl rfl) (pe_callB (cr_sortRows rfl) rfl T.n_sorted (by decide +kernel) (pa_cons (pe_dget hr.u1 (pe_fld (pv 0) rfl) pe_str (fun _ _ => rfl)) pa_nil)))
      (pss_cons (ps_set (i := 4) nd rfl (.inr rfl) (pe_callB (cr_sortRows rfl) rfl T.n_sorted (by decide +kernel) (pa_cons (pe_dget hr.u1 (pe_fld (pv 0) rfl) pe_str (fun _ _ => rfl)) pa_nil)))
      (pss_cons (ps_set (i := 5) nd rfl (.inl rfl) (pe_cal C2 hr (pa_cons (pe_calm (pv 0) T.cls C3 (hr.mono (by decide)) (pa_cons pe_str pa_nil)) (pa_cons (pe_calm (pv 0) T.cls C3 (hr.mono (by decide)) (pa_cons pe_str pa_nil)) (pa_cons (pv 2)
          (pa_cons (pe_bm PySem.F.plainAttrs_list PySem.F.slot_list_index PySem.F.type_list_index mt_index (pv 3) (pa_cons (pv 1) pa_nil)) pa_nil))))))
      (pss_cons (ps_if (pt_cmpR op_eq (pe_ix ix_tup (pv 5) pe_int (fun _ _ => rfl)) pe_str (nomark _)) (pss_one (ps_ret (pe_tup (pa_cons pe_str (pa_cons (pe_ix ix_list (pv 4) (pe_ix ix_tup (pv 5) pe_int (fun _ _ => rfl)) (fun _ _ => rfl)) (pa_cons (pe_ix ix_list (pv 4) (pe_ix ix_tup (pv 5) pe_int (fun _ _ => rfl)) (fun _ _ => rfl))
          (pa_cons (pe_cal C4 (hr.mono (by decide)) (pa_cons (pv 3) (pa_cons (pe_ix ix_tup (pv 5) pe_int (fun _ _ => rfl)) pa_nil))) pa_nil))))))) pss_nil)
      (pss_one (ps_ret (pe_op op_catA (pe_slice (r := rSlA K) sl_tupA (pv 5) po_none (po_some pe_int)) (pe_callTy call_tuple_of rfl T.n_tuple (by decide +kernel) (pa_cons
          (pe_lc (own := [("at", 6)]) (g := gName 6) (tt := tYes) rfl nd (pi_tup (pe_slice (r := rSlA K) sl_tupA (pv 5) (po_some pe_int) po_none)) (blkOk_by (N := ["self", "number", "joining", "bridge", "room", "found", "at"]) (sc := defScope (sM 14)) (by decide +kernel))
            (fun _ _ _ _ _ => pg_name (i := 6) nd rfl (.inl rfl)) (fun _ _ _ _ _ => pts_nil) (fun _ _ _ _ _ => pe_ix (r := rIxL K) ix_list (pv 4) (pv 6) (fun _ _ => rfl))) pa_nil))))))))), ?_⟩
    have e0 : EvV (tVar 0) (start ["self", "number", "joining", "bridge", "room", "found", "at"] [.ref A.p, .int n, vj]) H (.ref A.p) := ev_var rfl
    have e1 : EvD (tVar 1) (start ["self", "number", "joining", "bridge", "room", "found", "at"] [.ref A.p, .int n, vj]) H (.int n) := ed_var rfl (pt_int.mpr rfl)
    refine q_when (b := !isRingM S.kk.1 n) (eb_not (eb_B (ed_meth e0 wat (fun _ _ _ _ _ _ _ => rfl) (ea_one e1) fun vs H1 k1 p Q q => by
        obtain ⟨v, rfl, p1⟩ := ptA1 p
        cases pt_int.mp p1
        exact ⟨A, S, n, rfl, wat.same k1, ok.b, fun H' s => q _ H' s (pt_bl.mpr rfl)⟩))) (fun hc H1 k1 => ?_) (fun hc H1 k1 => ?_)
    · refine s_ret ed_non fun v H2 k2 p2 => k v H2 (k1.trans k2) ?_
      unfold answerM
      rw [if_neg (by intro z; rw [z] at hc; cases hc)]
      exact p2
    · have hring : isRingM S.kk.1 n = true := by simpa using hc
      have wat1 := wat.same k1
      obtain ⟨dx, ka, pks, cks, kvs, i⟩ := id wat1
      obtain ⟨od, b, r, c, a1, a2, a3, a4, a5⟩ := i.kept.house (h := "bridge") (.inl rfl)
      obtain ⟨od', b', r', c', a1', a2', a3', a4', a5'⟩ := i.kept.house (h := "room") (.inr rfl)
      have lb := ok.b.len
      have lr := ok.r.len
      have hka := i.kept_at T.cls T.a_kept (te := tVar 0) (σ := start ["self", "number", "joining", "bridge", "room", "found", "at"] [.ref A.p, .int n, vj]) (ev_var rfl)
      rw [ofH_b] at a5
      rw [ofH_r] at a5'
      refine q_setN (en_sortRows (ev_dgetS hka ed_str a1 a4) a5 (by omega)) fun p3 x3 H2 hp3 k2 e3 px3 => ?_
      have hka2 := (i.same k2).kept_at T.cls T.a_kept (te := tVar 0) (σ := [some (.ref A.p), some (.int n), some vj, some (.ref p3), none, none, none]) (ev_var rfl)
      refine q_setN (en_sortRows (ev_dgetS hka2 ed_str (k2 _ _ a1') a4') (a5'.keep k2.fz) (by omega)) fun p4 x4 H3 hp4 k3 e4 px4 => ?_
      have s13 := (k1.trans k2).trans k3
      have q3 : Pt H3 (.list ((numsOf S.kk.1).map .int)) (.ref p3) := by
        rw [numsOf, List.map_map]
        exact (pt_lst.mpr ⟨p3, x3, rfl, e3, px3⟩ : Pt H2 _ _).keep k3
      have q4 : Pt H3 (.list ((numsOf S.kk.2).map .int)) (.ref p4) := by
        rw [numsOf, List.map_map]
        exact pt_lst.mpr ⟨p4, x4, rfl, e4, px4⟩
      obtain ⟨rw0, hg, hb0⟩ : ∃ rw0, aget S.kk.1 n = some rw0 ∧ (rw0.l = "port" ∨ rw0.l = "star") := by
        unfold isRingM at hring
        cases e : aget S.kk.1 n with
        | none => rw [e] at hring; cases hring
        | some r0 => rw [e] at hring; exact ⟨r0, rfl, of_decide_eq_true hring⟩
      have hmem : n ∈ numsOf S.kk.1 := by
        obtain ⟨q, hq, e⟩ := aget_in hg
        exact List.mem_map.mpr ⟨q, (sortK_perm _).mem_iff.mpr hq, by rw [e]⟩
      obtain ⟨hi1, hi2, _⟩ := idxI_ok hmem
      have hrow : rowAt (logOf S.kk.1) ((idxI (numsOf S.kk.1) n : Nat) : Int) = rw0 := by
        have h2 := hi2
        unfold numsOf at h2
        rw [List.getElem?_map] at h2
        cases e : (sortK S.kk.1)[idxI (numsOf S.kk.1) n]? with
        | none => unfold numsOf at e; rw [e] at h2; cases h2
        | some q =>
          have e' := e
          unfold numsOf at e'
          rw [e'] at h2
          have h3 : q.1 = n := by simpa using h2
          have h4 := sorted_get ok.b q (List.mem_of_getElem? e)
          rw [h3, hg] at h4
          unfold rowAt logOf
          rw [Int.toNat_natCast, List.getElem?_map, e]
          exact (Option.some.inj h4).symm
      have hlenB : (logOf S.kk.1).length = (numsOf S.kk.1).length := by rw [logOf, numsOf, List.length_map, List.length_map]
      have hlenR : (logOf S.kk.2).length = (numsOf S.kk.2).length := by rw [logOf, numsOf, List.length_map, List.length_map]
      have hrok : RingOk (logOf S.kk.1) (idxI (numsOf S.kk.1) n) := ⟨by rw [hlenB]; exact hi1, by rw [hrow]; exact hb0⟩
      have wat3 := wat.same s13
      refine q_set (d := .tuple (ringOf (logOf S.kk.1) (logOf S.kk.2) J (idxI (numsOf S.kk.1) n))) (ed_call (ea_cons (ed_log wat3 ok (ev_var rfl) (.inl rfl)) (ea_cons (ed_log wat3 ok (ev_var rfl) (.inr rfl)) (ea_cons (ed_var rfl (pJ.keep s13)) (ea_one (ed_index (ed_var rfl q3) (ed_var rfl (pt_int.mpr rfl)) hmem)))))
        ⟨_, _, J, _, rfl, ok.b.log, ok.r.log, hJ, hJl, hrok, rfl⟩) fun vf H4 k4 pf => ?_
      have kk := s13.trans k4
      have fin : ∀ {H5 : Hp} (k5 : Same H4 H5) (x : Str) (ms : List Nat), Pt H4 (.tuple (.str x :: ms.map fun m => .int (m : Nat))) vf → (∀ m ∈ ms, m < (numsOf S.kk.2).length) → ms.length ≤ 2 → cutD (.str x :: ms.map fun m => PyData.int (m : Nat)) none (some 1) = [.str x] → cutD (.str x :: ms.map fun m => PyData.int (m : Nat)) (some 1) none = ms.map (fun m => PyData.int (m : Nat)) →
          EvD (tOp (rCatA K) (tSl (rSlA K) (tVar 5) tNoPart (tPart (tC (.int 1)))) (tCB (fun xs H Q => ∃ p ys, xs = [.ref p] ∧ ((SqL K H p ys ∧ ∀ l, H l = none → Q (.ref l) (upd H l (.tup ys))) ∨ (SqT K H p ys ∧ Q (.ref p) H))) (tCons (tLc (iTup K (tSl (rSlA K) (tVar 5) (tPart (tC (.int 1))) tNoPart)) (gName 6) tYes (tOp (rIxL K) (tVar 4) (tVar 6)) [6]) tNil)))
            [some (.ref A.p), some (.int n), some vj, some (.ref p3), some (.ref p4), some vf, none] H5 (.tuple (.str x :: ms.map fun m => .int ((numsOf S.kk.2).getD m 0))) := fun {H5} k5 x ms pv hm hl c1 c2 => by
        have ef : EvD (tVar 5) [some (.ref A.p), some (.int n), some vj, some (.ref p3), some (.ref p4), some vf, none] H5 (.tuple (.str x :: ms.map fun m => .int (m : Nat))) := ed_var rfl (pv.keep k5)
        have f1 := ed_slA (K := K) (lo := none) (hi := some 1) ef eo_none (eo_some ed_int)
        have f2 := ed_slA (K := K) (lo := some 1) (hi := none) ef (eo_some ed_int) eo_none
        rw [c1] at f1
        rw [c2] at f2
        have en := en_lc (t := tYes) (vs := [6]) (gt := gName 6) (te := tOp (rIxL K) (tVar 4) (tVar 6)) ms (fun m => .int (m : Nat)) (fun _ => true) (fun m => .int ((numsOf S.kk.2).getD m 0)) (by omega) (fun _ _ _ => rfl) (ei_tup (K := K) f2)
          (fun m hm' v H6 k6 pv => ⟨[some (.ref A.p), some (.int n), some vj, some (.ref p3), some (.ref p4), some vf, some v], fun Q qq => qq, rfl, fun H7 _ Q q => q H7 (Same.refl H7), fun _ => ed_op (ed_var rfl (q4.keep ((k4.trans k5).trans k6))) (ed_var rfl pv) (rd_ixL (d := .int ((numsOf S.kk.2).getD m 0)) (atI_int (by omega) (by
            rw [Int.toNat_natCast, List.getElem?_map, List.getD_eq_getElem?_getD, List.getElem?_eq_getElem (hm m hm')]; rfl)))⟩)
        rw [List.filter_eq_self.mpr (fun _ _ => rfl)] at en
        exact ed_catA f1 (ed_tupOf en) (by simp; omega)
      have ea : answerM S.kk J n = .tuple (answerL S.kk J n) := if_pos hring
      rw [ea] at k
      unfold answerL at k
      unfold ringOf at pf
      dsimp only at k
      have word : ∀ {H5 : Hp} {x : Str} {l : List PyData} {v : V}, Pt H5 (.tuple (.str x :: l)) v → EvD (tOp (rIxT K) (tVar 5) (tC (.int 0))) [some (.ref A.p), some (.int n), some vj, some (.ref p3), some (.ref p4), some v, none] H5 (.str x) := fun {H5 x l v} p => ed_op (ed_var rfl p) ed_int (rd_ixT (d := .str x) (by
        unfold atI ixN
        simp))
      cases e1 : aget (mgI J) ((idxI (numsOf S.kk.1) n : Nat) : Int) with
      | none =>
        rw [e1] at pf k
        refine q_when (b := false) ((eb_T (ed_op (word pf) ed_str rd_eqS)).to (by decide +kernel)) (fun z => by cases z) (fun _ H5 k5 => ?_)
        exact s_ret (fin k5 "never" [] pf (fun _ z => by cases z) (by decide) rfl rfl) fun v H6 k6 p6 => k v H6 ((kk.trans k5).trans k6) p6
      | some h =>
        rw [e1] at pf k
        have hI := hJ _ (mgI_mem e1)
        have hr0 := hI.r0
        have hr1 := hI.r1
        simp only at hr0 hr1
        obtain ⟨m, rfl⟩ : ∃ m : Nat, h = (m : Nat) := ⟨h.toNat, by omega⟩
        simp only [Int.toNat_natCast] at pf k
        have hm : m < (numsOf S.kk.2).length := by omega
        cases e2 : fateM (logOf S.kk.2) (rowAt (logOf S.kk.1) ((idxI (numsOf S.kk.1) n : Nat) : Int)).l m with
        | none =>
          rw [e2] at pf k
          refine q_when (b := false) ((eb_T (ed_op (word pf) ed_str rd_eqS)).to (by decide +kernel)) (fun z => by cases z) (fun _ H5 k5 => ?_)
          exact s_ret (fin k5 "open" [m] pf (fun x z => by rw [List.mem_singleton.mp z]; exact hm) (by simp) rfl rfl) fun v H6 k6 p6 => k v H6 ((kk.trans k5).trans k6) p6
        | some q =>
          obtain ⟨bb, j⟩ := q
          have hj := fateTo_lt e2
          simp only at hj
          have hj' : j < (numsOf S.kk.2).length := by omega
          rw [e2] at pf k
          cases bb with
          | false =>
            refine q_when (b := false) ((eb_T (ed_op (word pf) ed_str rd_eqS)).to (by decide +kernel)) (fun z => by cases z) (fun _ H5 k5 => ?_)
            exact s_ret (fin k5 "taken" [m, j] pf (fun x z => by rcases List.mem_cons.mp z with e | z; exact e ▸ hm; rw [List.mem_singleton.mp z]; exact hj') (by simp) rfl rfl) fun v H6 k6 p6 => k v H6 ((kk.trans k5).trans k6) p6
          | true =>
            refine q_when (b := true) ((eb_T (ed_op (word pf) ed_str rd_eqS)).to (by decide +kernel)) (fun _ H5 k5 => ?_) (fun z => by cases z)
            have ef : ∀ {H6 : Hp}, Same H5 H6 → EvD (tVar 5) [some (.ref A.p), some (.int n), some vj, some (.ref p3), some (.ref p4), some vf, none] H6 (.tuple [.str "answered", .int (m : Nat), .int (j : Nat), optD (aget (mgI (J.map swapP)) (j : Nat))]) := fun k6 => ed_var rfl (pf.keep (k5.trans k6))
            have er : EvD (tVar 4) [some (.ref A.p), some (.int n), some vj, some (.ref p3), some (.ref p4), some vf, none] H5 (.list ((numsOf S.kk.2).map .int)) := ed_var rfl (q4.keep (k4.trans k5))
            have room : ∀ (x : Nat) {i : Int}, x < (numsOf S.kk.2).length → atI [PyData.str "answered", .int (m : Nat), .int (j : Nat), optD (aget (mgI (J.map swapP)) (j : Nat))] i = some (.int (x : Nat)) → EvD (tOp (rIxL K) (tVar 4) (tOp (rIxT K) (tVar 5) (tC (.int i)))) [some (.ref A.p), some (.int n), some vj, some (.ref p3), some (.ref p4), some vf, none] H5 (.int ((numsOf S.kk.2).getD x 0)) := fun x {i} hx hi =>
              ed_op er (ed_op (ef (Same.refl H5)) ed_int (rd_ixT hi)) (rd_ixL (d := .int ((numsOf S.kk.2).getD x 0)) (atI_int (by omega) (by
                rw [Int.toNat_natCast, List.getElem?_map, List.getD_eq_getElem?_getD, List.getElem?_eq_getElem hx]; rfl)))
            have ho : ∀ i, aget (mgI (J.map swapP)) (j : Nat) = some i → 0 ≤ i ∧ i < (numsOf S.kk.1).length := fun i e => by
              obtain ⟨q, hq, eq⟩ := List.mem_map.mp (mgI_mem e)
              have := hJ q hq
              have b0 := this.b0
              have b1 := this.b1
              have : i = q.1 := (congrArg Prod.snd eq).symm
              rw [this]
              omega
            have eo : optD (aget (mgI (J.map swapP)) (j : Nat)) = optD (((aget (mgI (J.map swapP)) (j : Nat)).map Int.toNat).map fun k => ((k : Nat) : Int)) := by
              cases e : aget (mgI (J.map swapP)) (j : Nat) with
              | none => rfl
              | some i =>
                have := ho i e
                show PyData.int i = PyData.int ((i.toNat : Nat) : Int)
                rw [Int.toNat_of_nonneg this.1]
            have enm : EvD (tCall spNamed [] E0 (tCons (tVar 3) (tCons (tOp (rIxT K) (tVar 5) (tC (.int 3))) tNil))) [some (.ref A.p), some (.int n), some vj, some (.ref p3), some (.ref p4), some vf, none] H5 (namedD (numsOf S.kk.1) (aget (mgI (J.map swapP)) (j : Nat))) :=
              ed_call (ea_cons (ed_var rfl (q3.keep (k4.trans k5))) (ea_one (ed_op (ef (Same.refl H5)) ed_int (rd_ixT rfl)))) ⟨numsOf S.kk.1, (aget (mgI (J.map swapP)) (j : Nat)).map Int.toNat, by rw [← eo], fun k hk => by
                cases e : aget (mgI (J.map swapP)) (j : Nat) with
                | none => rw [e] at hk; cases hk
                | some i =>
                  rw [e] at hk
                  have := ho i e
                  cases hk
                  omega, by
                cases e : aget (mgI (J.map swapP)) (j : Nat) with
                | none => rfl
                | some i => rfl⟩
            exact s_ret (ed_tup (ea_cons ed_str (ea_cons (room m hm rfl) (ea_cons (room j hj' rfl) (ea_one enm)))) (by show 4 ≤ sizeLine; decide)) fun v H6 k6 p6 => k v H6 ((kk.trans k5).trans k6) p6
theorem ok_answer_of (T : Tw K mg w base) : CalM P w K mg base 4 "answer_of" ["self", "number", "joining"] (spAnswer K) := by
  obtain ⟨fd, F, G⟩ := okF_answer_of (P := P) (base := base) T
  exact ⟨(T.m_answer_of).1, ⟨fd, G, F.bindsN fun _ _ _ _ _ _ us hl => match us, hl with | [_, _, _], _ => rfl⟩⟩
end
end Ro
/-! a Watch that changes: tools -/
namespace Ro
open PySem PySem.Spec PyProof.Rows L2 PySem.W
variable [TabsC]
/-! lists and tuples stay -/
def Lt (H H' : Hp) : Prop := ∀ a o, H a = some o → ((∃ xs, o = .lst xs) ∨ ∃ xs, o = .tup xs) → H' a = some o
mutual
theorem Pt.keepL {H H' : Hp} (k : Lt H H') : ∀ (d : PyData) (v : V), Pt H d v → Pt H' d v
  | .none, _, h => h
  | .bool _, _, h => h
  | .int _, _, h => h
  | .str _, _, h => h
  | .tuple ds, v, h => by
    obtain ⟨a, xs, e, ha, hx⟩ := pt_tup.mp h
    exact pt_tup.mpr ⟨a, xs, e, k a _ ha (.inr ⟨xs, rfl⟩), PtA.keepL k ds xs hx⟩
  | .list ds, v, h => by
    obtain ⟨a, xs, e, ha, hx⟩ := pt_lst.mp h
    exact pt_lst.mpr ⟨a, xs, e, k a _ ha (.inl ⟨xs, rfl⟩), PtA.keepL k ds xs hx⟩
  | .dict _, _, h => by simp only [Pt] at h
theorem PtA.keepL {H H' : Hp} (k : Lt H H') : ∀ (ds : List PyData) (xs : List V), PtA H ds xs → PtA H' ds xs
  | [], xs, h => by
    cases ptA_nil.mp h
    exact .nil
  | d :: ds, xs, h => by
    obtain ⟨v, vs, rfl, h1, h2⟩ := ptA_cons.mp h
    exact .cons (Pt.keepL k d v h1) (PtA.keepL k ds vs h2)
end
section
variable {K : PySem.W.Frag} {σ : L2.St} {H H' H1 H2 : Hp} {p a b : Addr} {te td ty : TE} {d : PyData} {xs : List V} {u : HO} {N : Addr → Prop} {D : Ends} {tz : TS} {A : WA} {S : WS} {dx ka : Addr} {pks cks : List Addr} {kvs : List (L2.Key × V)} {n : Int} {v : V}
theorem same_unlock {od : Obj} (hd1 : H1 p = some u) (mo : Mo u) (k : Same (upd H1 p (.frz od u)) H2) : Same H1 (upd H2 p u) := by
  have hd2 : H2 p = some (.frz od u) := k.ob _ _ upd_same (fun ps z => by cases z)
  refine ⟨fun b o e n => ?_, fun P t => tab_frz hd2 (k.tb P (tab_upd hd1 mo t)), fun b n => ?_⟩
  · by_cases z : b = p
    · subst z; rw [upd_same]; rw [hd1] at e; exact e
    · rw [upd_ne z]; exact k.ob b o (by rw [upd_ne z]; exact e) n
  · by_cases z : b = p
    · rw [z, upd_same] at n; cases n
    · rw [upd_ne z] at n
      have := k.nn b n
      rw [upd_ne z] at this
      exact this
/-- evaluated while a list is locked: what comes lies away from it -/
theorem edN_lock (hd : H p = some (.lst xs)) (h : ∀ H1, Same H H1 → ∀ od, EvD te σ (upd H1 p (.frz od (.lst xs))) d) : EvDN (· = p) (tLockE te) σ H d := fun H1 a Q q => by
  have hd1 : H1 p = some (.lst xs) := a.ob _ _ hd (fun ps z => by cases z)
  refine ⟨p, .lst xs, hd1, True.intro, fun od => h H1 a od _ (Same.refl _) _ fun v H2 k pv => ?_⟩
  have hd2 : H2 p = some (.frz od (.lst xs)) := k.ob _ _ upd_same (fun ps z => by cases z)
  refine ⟨hd2, q v _ (same_unlock hd1 True.intro k) (Pt.keepL (fun b o e ho => ?_) _ _ pv)⟩
  have ne : b ≠ p := fun z => by
    rw [z, hd2] at e
    cases e
    rcases ho with ⟨_, z⟩ | ⟨_, z⟩ <;> cases z
  rw [but_of (N := (· = p)) ne, upd_ne ne]
  exact e
theorem q_setDN {m : Nat} (h : EvDN N te σ H d) (k : ∀ v H1, Same H H1 → Pt (but N H1) d v → tz D (σ.set m (some v)) H1) : tSeq (tAsg te (gName m)) tz D σ H := h H (Same.refl H) _ fun v H1 e p => k v H1 e p
/-- away from one more, which is no list and no tuple -/
theorem Pt.andN (h : Pt (but N H) d v) (ha : H a = some u) (hu : ∀ xs, u ≠ .lst xs ∧ u ≠ .tup xs) : Pt (but (fun b => b = a ∨ N b) H) d v := Pt.keepL (fun b o e ho => by
  have e' := but_at e
  have n : ¬ N b := fun z => by rw [but_in z] at e; cases e
  have ne : b ≠ a := fun z => by
    rw [z, ha] at e'
    cases e'
    rcases ho with ⟨xs, z⟩ | ⟨xs, z⟩
    · exact (hu xs).1 z
    · exact (hu xs).2 z
  rw [but_of (fun z => by rcases z with z | z; exact ne z; exact n z)]
  exact e') _ _ h
/-! ### what was told -/
def addN (ns : List Int) (n : Int) : List Int := if n ∈ ns then ns else ns ++ [n]
theorem Told.get : ∀ {ns : List Int} {kvs : List (L2.Key × V)}, Told H ns kvs → n ∈ ns → ∃ v d, valV kvs (.inl n) = some v ∧ AnsD d ∧ Pt H d v
  | [], _, h, m => by cases m
  | i :: ns, _, h, m => by
    cases h with
    | @cons _ kv _ kvs a r =>
      by_cases e : i = n
      · obtain ⟨e1, d, hd, p⟩ := a
        exact ⟨kv.2, d, valV_pos (by rw [e1, e]), hd, p⟩
      · obtain ⟨v, d, h1, h2, h3⟩ := Told.get r (by rcases List.mem_cons.mp m with z | z; exact absurd z.symm e; exact z)
        exact ⟨v, d, by rw [valV_neg (fun z => e (by rw [a.1] at z; injection z))]; exact h1, h2, h3⟩
theorem Told.none : ∀ {ns : List Int} {kvs : List (L2.Key × V)}, Told H ns kvs → ¬ n ∈ ns → valV kvs (.inl n) = .none
  | [], _, h, m => by cases h; rfl
  | i :: ns, _, h, m => by
    cases h with
    | @cons _ kv _ kvs a r =>
      have e : ¬ i = n := fun z => m (by rw [z]; exact List.mem_cons_self ..)
      rw [valV_neg (fun z => e (by rw [a.1] at z; injection z))]
      exact Told.none r fun z => m (List.mem_cons_of_mem _ z)
theorem Told.length {ns : List Int} (h : Told H ns kvs) : kvs.length = ns.length := (Paired.length h).symm
theorem Told.put {ns : List Int} {d : PyData} (h : Told H ns kvs) (hd : AnsD d) (p : Pt H d v) : Told H (addN ns n) (putK kvs (.inl n) v) := by
  unfold addN
  split
  · rename_i hm
    obtain ⟨v', _, e, _⟩ := h.get hm
    unfold putK
    rw [valV_any, e]
    simp only [Option.isSome_some, if_true]
    clear e hm
    unfold Told at h ⊢
    induction h with
    | nil => exact .nil
    | @cons i kv ns kvs a r ih =>
      rw [List.map_cons]
      refine .cons ?_ ih
      split
      · exact ⟨a.1, d, hd, p⟩
      · exact a
  · rename_i hm
    rw [L2.putK_new v (h.none hm)]
    clear hm
    unfold Told at h ⊢
    induction h with
    | nil => exact .cons ⟨rfl, d, hd, p⟩ .nil
    | cons a r ih => exact .cons a ih
/-! ### one object of it changes -/
theorem WIn.nes (w : WIn K H A S dx ka pks cks kvs) : A.p ≠ A.pl ∧ A.p ≠ A.cl ∧ A.p ≠ A.tl ∧ A.pl ≠ A.tl ∧ A.cl ≠ A.tl := by
  have h1 := w.ins
  have h2 := w.pl
  have h3 := w.cl
  have h4 := w.tl
  refine ⟨fun z => ?_, fun z => ?_, fun z => ?_, fun z => ?_, fun z => ?_⟩
  · rw [z, h2] at h1; cases h1
  · rw [z, h3] at h1; cases h1
  · rw [z, h4] at h1; cases h1
  · rw [z, h4] at h2; cases h2
  · rw [z, h4] at h3; cases h3
theorem WIn.setKept {kk : KD × KD} {kb : Addr} (w : WIn K H A S dx ka pks cks kvs) (h : KeptAt H kb kk) : WIn K (upd H A.p (.ins (CW K) dx (fsW S.lag S.low S.high kb A.pl A.cl A.tl))) A { S with kk := kk } dx kb pks cks kvs := by
  have f : Fz H (upd H A.p (.ins (CW K) dx (fsW S.lag S.low S.high kb A.pl A.cl A.tl))) := Fz.mo w.ins True.intro
  obtain ⟨n1, n2, n3, n4, n5⟩ := w.nes
  exact ⟨upd_same, h.keep f, by rw [upd_ne n1.symm]; exact w.pl, past_keep w.past f, by rw [upd_ne n2.symm]; exact w.cl, past_keep w.coming f, by rw [upd_ne n3.symm]; exact w.tl, w.told.keep f.tk, w.ne⟩
theorem WIn.setTold {d : PyData} (w : WIn K H A S dx ka pks cks kvs) (hd : AnsD d) (p : Pt H d v) : WIn K (upd H A.tl (.dK (putK kvs (.inl n) v))) A { S with told := addN S.told n } dx ka pks cks (putK kvs (.inl n) v) := by
  have f : Fz H (upd H A.tl (.dK (putK kvs (.inl n) v))) := Fz.mo w.tl True.intro
  obtain ⟨n1, n2, n3, n4, n5⟩ := w.nes
  exact ⟨by rw [upd_ne n3]; exact w.ins, w.kept.keep f, by rw [upd_ne n4]; exact w.pl, past_keep w.past f, by rw [upd_ne n5]; exact w.cl, past_keep w.coming f, upd_same, (w.told.put hd p).keep f.tk, w.ne⟩
theorem ev_told (w : WIn K H A S dx ka pks cks kvs) (c : Cls K (CW K)) (na : NoAttr K (CW K) "told") (h : EvV te σ H (.ref A.p)) : EvV (tFld K te "told") σ H (.ref A.tl) := ev_fld c na h w.ins rfl
/-- self.told[n] -/
theorem ed_toldGet (w : WIn K H A S dx ka pks cks kvs) (hd : EvV td σ H (.ref A.tl)) (hy : EvD ty σ H (.int n)) (l : valV kvs (.inl n) = some v) (p : Pt H d v) : EvD (tDGet td ty) σ H d := fun H1 s Q q =>
  hd H1 s _ fun H2 k => hy H2 (s.trans k) _ fun y H3 k3 py => by
    cases pt_int.mp py
    exact ⟨A.tl, v, rfl, .inl ⟨kvs, .inl n, .inl (((s.trans k).trans k3) _ _ w.tl), rfl, l.symm⟩, q v H3 (k.trans k3) (p.keep ((s.trans k).trans k3))⟩
/-- self.told[n] = answer -/
theorem s_toldPut {tv : TE} (w : WatchAt K H A S) (hl : S.told.length ≤ 60) (hv : EvD tv σ H d) (hd : ∀ H1, Same H H1 → EvV td σ H1 (.ref A.tl)) (hy : EvD ty σ H (.int n)) (ha : AnsD d)
    (k : ∀ H1 v, Kp (· = A.tl) H H1 → WatchAt K H1 A { S with told := addN S.told n } → (∀ dx ka pks cks kvs, WIn K H1 A { S with told := addN S.told n } dx ka pks cks kvs → valV kvs (.inl n) = some v) → Pt H1 d v → D.nx σ H1) : sDPut td ty tv D σ H :=
  hv H (Same.refl H) _ fun v H1 k1 pv => hd H1 k1 H1 (Same.refl H1) _ fun H2 k2 => hy H2 (k1.trans k2) _ fun y H3 k3 py => by
    cases pt_int.mp py
    have s := (k1.trans k2).trans k3
    obtain ⟨dx, ka, pks, cks, kvs, i⟩ := w.same s
    have p3 := (pv.keep k2).keep k3
    refine ⟨A.tl, _, rfl, DPut.k (k := .inl n) i.tl (by rw [i.told.length]; exact sizes1 (by omega)), k _ v (s.kp.mut rfl i.tl True.intro) ⟨dx, ka, pks, cks, _, i.setTold ha p3⟩ (fun dx' ka' pks' cks' kvs' i' => ?_) (Pt.keepT (tk_mo i.tl True.intro) _ _ ha.1 p3)⟩
    have e := i'.tl
    rw [upd_same] at e
    cases e
    rw [valV_put, if_pos rfl]
end
end Ro
namespace Ro
open PySem PySem.Spec PyProof.Rows L2 PySem.W
variable [TabsC]
def jW (S : WS) : List Pair := bestJ (logOf S.kk.1) (logOf S.kk.2) S.lag S.low S.high
theorem jW_mem {S : WS} (ok : WOk S) : ∀ q ∈ jW S, IsP (logOf S.kk.1) (logOf S.kk.2) q := fun q h => joining_mem ok.now.b.log ok.now.r.log h
theorem jW_len {S : WS} (ok : WOk S) : (jW S).length ≤ 1600 := joining_len ok.now.b.log ok.now.r.log
def askD (S : WS) (n : Int) : PyData := answerM S.kk (jW S) n
def spAsk (K : PySem.W.Frag) : Sp := fun vs H Q _ => ∃ (A : WA) (S : WS) (n : Int), vs = [.ref A.p, .int n] ∧ WatchAt K H A S ∧ WOk S ∧ Tb H (tabA K "ranks") ∧ isRingM S.kk.1 n = true ∧
  ∀ v H', Kp (· = A.tl) H H' → WatchAt K H' A { S with told := addN S.told n } → Pt H' (askD S n) v → Q v H'
def sortI (ns : List Int) : List Int := ns.mergeSort fun a b => decide (a ≤ b)
theorem sortI_perm (ns : List Int) : (sortI ns).Perm ns := List.mergeSort_perm ..
theorem sortI_sorted (ns : List Int) : (sortI ns).Pairwise (· ≤ ·) := by
  have h := List.pairwise_mergeSort (le := fun a b : Int => decide (a ≤ b)) (by intro a b c h1 h2; simp only [decide_eq_true_eq] at *; omega) (by intro a b; simp only [Bool.or_eq_true, decide_eq_true_eq]; omega) ns
  exact h.imp fun h => of_decide_eq_true h
def spAsked (K : PySem.W.Frag) : Sp := fun vs H Q _ => ∃ (A : WA) (S : WS), vs = [.ref A.p] ∧ WatchAt K H A S ∧ ∀ p xs H', H p = none → Same H H' → H' p = some (.lst xs) → PtA H' ((sortI S.told).map .int) xs → Q (.ref p) H'
def rListD : List V → Hp → VK → Prop := fun xs H Q => ∃ (a : Addr) (kvs : List (L2.Key × V)), xs = [.ref a] ∧ Rd H a (.dK kvs) ∧ ∀ p, H p = none → Q (.ref p) (upd H p (.lst (kvs.map fun kv => kV kv.1)))
theorem cr_listD {X : Cx} (hc : X.calm = true) : CallR X (.type "list") rListD := call_listD hc
section
variable {K : PySem.W.Frag} {σ : L2.St} {H H' : Hp} {td te : TE} {A : WA} {S : WS} {dx ka : Addr} {pks cks : List Addr} {kvs : List (L2.Key × V)} {ns : List Int}
theorem Told.keys : ∀ {ns : List Int} {kvs : List (L2.Key × V)}, Told H ns kvs → (kvs.map fun kv => kV kv.1) = ns.map V.int
  | [], _, h => by cases h; rfl
  | n :: ns, _, h => by
    cases h with
    | cons a r => rw [List.map_cons, List.map_cons, Told.keys r, a.1]; rfl
theorem en_sortI (h : EvN te σ H (ns.map .int)) : EvN (tCB (rSortedI K) (tCons te tNil)) σ H ((sortI ns).map .int) := fun H1 s Q q => h H1 s _ fun p xs H2 hp k e px => by
  have ex := px.intsV
  subst ex
  refine ⟨p, ns, rfl, SqL.of e, fun ys l hp2 hs hl => ?_⟩
  have e1 : ys = sortI ns := sortedI_uniq (hp2.trans (sortI_perm ns).symm) hs (sortI_sorted ns)
  subst e1
  exact q l _ _ (k.free hl) (k.trans (same_new hl)) upd_same (PtA.ints _)
/-- sorted(list(self.told)) -/
theorem en_told (w : WatchAt K H A S) (hd : ∀ H1, Same H H1 → EvV td σ H1 (.ref A.tl)) : EvN (tCB rListD (tCons td tNil)) σ H (S.told.map .int) := fun H1 s Q q => hd H1 s H1 (Same.refl H1) _ fun H2 k2 => by
  obtain ⟨dx, ka, pks, cks, kvs, i⟩ := w.same (s.trans k2)
  refine ⟨A.tl, kvs, rfl, .inl i.tl, fun p hp => ?_⟩
  rw [i.told.keys]
  exact q p _ _ (k2.free hp) (k2.trans (same_new hp)) upd_same (PtA.ints _)
theorem evT (w : WatchAt K H A S) (c : Cls K (CW K)) (na : NoAttr K (CW K) "told") (h : ∀ H1, Same H H1 → EvV te σ H1 (.ref A.p)) : ∀ H1, Same H H1 → EvV (tFld K te "told") σ H1 (.ref A.tl) := fun H1 k => by
  obtain ⟨dx, ka, pks, cks, kvs, i⟩ := w.same k
  exact ev_told i c na (h H1 k)
end
section
variable {P : Program} {w : World} {K : PySem.W.Frag} {mg : Str → Option Value} {base : Heap}
/-- self.answer_of(n, joining) -/
theorem ed_answer {σ : L2.St} {H : Hp} {A : WA} {S : WS} {te tn tj : TE} {n : Int} (w : WatchAt K H A S) (ok : WOk S) (e : EvV te σ H (.ref A.p)) (hn : EvD tn σ H (.int n)) (hj : EvD tj σ H (.list ((jW S).map pairD))) :
    EvD (tMeth (CW K) "answer_of" (spAnswer K) [] E0 te (tCons tn (tCons tj tNil))) σ H (askD S n) :=
  ed_meth e w (fun _ _ _ _ _ _ _ => rfl) (ea_cons hn (ea_one hj)) fun vs H1 k1 p Q q => by
    obtain ⟨v1, v2, rfl, p1, p2⟩ := ptA2 p
    cases pt_int.mp p1
    exact ⟨A, S, n, jW S, v2, rfl, w.same k1, ok.now, p2, jW_mem ok, by have := jW_len ok; omega, q⟩
theorem sc_ask : FnScope ["self", "number"] ["self", "number"] (defScope (sM 15)) := ⟨rfl, rfl, rfl, by decide +kernel, rfl, by decide +kernel, by decide +kernel⟩
theorem okF_ask (T : Tw K mg w base) : ∃ fd, FunD K "ask" "Watch.ask" (defArgs (sM 15)) (defBody (sM 15)) (defScope (sM 15)) [] [] (He.ma K (CW K) "ask") fd ∧ FnOk P w K mg base (L2.CX P w) 11 (He.ma K (CW K) "ask") fd ["self", "number"] (spAsk K) := by
  have C1 : CalM P w K mg base 3 "is_ring" ["self", "number"] (spIsRing K) := ok_is_ring T
  have C2 : CalM P w K mg base 10 "best" ["self"] (spWBest K) := ok_wbest T
  have C3 : CalM P w K mg base 4 "answer_of" ["self", "number", "joining"] (spAnswer K) := ok_answer_of T
  obtain ⟨g, fd, F⟩ := T.m_ask
  refine ⟨fd, F, F.ok sc_ask (fun vs H Q E h => ?_) (fun cdv A outer s H vs Q E hr h => ?_)⟩
  · obtain ⟨A, S, n, rfl, _⟩ := h; rfl
  · obtain ⟨A, S, n, rfl, wat, ok, tb, hring, k⟩ := h
    refine ⟨_, pss_cons (ps_if (pt_not (pt_val (pe_calm (pv 0) T.cls C1 (hr.mono (by decide)) (pa_cons (pv 1) pa_nil)))) (pss_one ps_never) pss_nil)
      (pss_cons (ps_dput hr.u1 (pe_fld (pv 0) rfl) (pv 1) (pe_calm (pv 0) T.cls C3 (hr.mono (by decide)) (pa_cons (pv 1) (pa_cons (pe_ix ix_tup (pe_calm0 (pv 0) T.cls C2 hr) pe_int (fun _ _ => rfl)) pa_nil))) rfl)
      (pss_one (ps_ret (pe_dget hr.u1 (pe_fld (pv 0) rfl) (pv 1) (fun _ _ => rfl))))), ?_⟩
    have e0 : ∀ H1, EvV (tVar 0) (start ["self", "number"] [.ref A.p, .int n]) H1 (.ref A.p) := fun H1 => ev_var rfl
    have e1 : ∀ H1, EvD (tVar 1) (start ["self", "number"] [.ref A.p, .int n]) H1 (.int n) := fun H1 => ed_var rfl (pt_int.mpr rfl)
    refine q_when (b := false) ((eb_not (eb_B (ed_meth (z := .bool true) (e0 H) wat (fun _ _ _ _ _ _ _ => rfl) (ea_one (e1 H)) fun vs H1 k1 p Q q => by
        obtain ⟨v, rfl, p1⟩ := ptA1 p
        cases pt_int.mp p1
        exact ⟨A, S, n, rfl, wat.same k1, ok.now.b, fun H' s => by rw [hring]; exact q _ H' s (pt_bl.mpr rfl)⟩))).to rfl) (fun z => by cases z) (fun hc H1 k1 => ?_)
    have wat1 := wat.same k1
    refine s_toldPut (S := S) wat1 ok.told (ed_answer wat1 ok (e0 H1) (e1 H1) (ed_op (ed_wbest wat1 ok (k1.tb _ tb) (e0 H1)) ed_int (rd_ixT (d := .list ((jW S).map pairD)) rfl))) (evT wat1 T.cls T.a_told fun H1 _ => e0 H1) (e1 H1) (answerM_ok ..) fun H2 v k2 wat2 hv pv => ?_
    obtain ⟨dx, ka, pks, cks, kvs, i⟩ := id wat2
    refine s_ret (ed_toldGet i (ev_told i T.cls T.a_told (e0 H2)) (e1 H2) (hv _ _ _ _ _ i) pv) fun v3 H3 k3 p3 => k v3 H3 ((k1.kp.trans k2).trans k3.kp) (wat2.same k3) p3
theorem ok_ask (T : Tw K mg w base) : CalM P w K mg base 11 "ask" ["self", "number"] (spAsk K) := by
  obtain ⟨fd, F, G⟩ := okF_ask (P := P) (base := base) T
  exact ⟨(T.m_ask).1, ⟨fd, G, F.bindsN fun _ _ _ _ _ _ us hl => match us, hl with | [_, _], _ => rfl⟩⟩
theorem sc_asked : FnScope ["self"] ["self"] (defScope (sM 17)) := ⟨rfl, rfl, rfl, by decide +kernel, rfl, by decide +kernel, by decide +kernel⟩
theorem okF_asked (T : Tw K mg w base) : ∃ fd, FunD K "asked" "Watch.asked" (defArgs (sM 17)) (defBody (sM 17)) (defScope (sM 17)) [] [] (He.ma K (CW K) "asked") fd ∧ FnOk P w K mg base (L2.CX P w) 1 (He.ma K (CW K) "asked") fd ["self"] (spAsked K) := by
  obtain ⟨g, fd, F⟩ := T.m_asked
  refine ⟨fd, F, F.ok sc_asked (fun vs H Q E h => ?_) (fun cdv A outer s H vs Q E hr h => ?_)⟩
  · obtain ⟨A, S, rfl, _⟩ := h; rfl
  · obtain ⟨A, S, rfl, wat, k⟩ := h
    refine ⟨_, pss_one (ps_ret (pe_callB cr_sortedI rfl T.n_sorted (by decide +kernel) (pa_cons (pe_callTy (cr_listD rfl) rfl T.n_list (by decide +kernel) (pa_cons (pe_fld (pv 0) rfl) pa_nil)) pa_nil))), ?_⟩
    exact s_retN (en_sortI (en_told wat (evT wat T.cls T.a_told fun H1 _ => ev_var rfl))) k
theorem ok_asked (T : Tw K mg w base) : CalM P w K mg base 1 "asked" ["self"] (spAsked K) := by
  obtain ⟨fd, F, G⟩ := okF_asked (P := P) (base := base) T
  exact ⟨(T.m_asked).1, ⟨fd, G, F.bindsN fun _ _ _ _ _ _ us hl => match us, hl with | [_], _ => rfl⟩⟩
end
end Ro
namespace Ro
open PySem PySem.Spec PyProof.Rows L2 PySem.W
variable [TabsC]
/-- kept: another pair of logs, all else as before -/
abbrev WS.to (S : WS) (kk : KD × KD) : WS := { S with kk := kk }
def spLedTo (K : PySem.W.Frag) : Sp := fun vs H Q _ => ∃ (A : WA) (S : WS) (kb : Addr) (kk : KD × KD), vs = [.ref A.p, .ref kb] ∧ WatchAt K H A S ∧ KeptAt H kb kk ∧ WOk (S.to kk) ∧ Tb H (tabA K "ranks") ∧
  ∀ v H', Kp A.N H H' → WatchAt K H' A (S.to kk) → Q v H'
section
variable {K : PySem.W.Frag} {σ : L2.St} {H H' : Hp} {td te : TE} {A : WA} {S : WS}
theorem eb_toldNil (w : WatchAt K H A S) (hd : ∀ H1, Same H H1 → EvV td σ H1 (.ref A.tl)) : EvB (tTest (tOp rEqNilD td tDNewK)) σ H S.told.isEmpty := fun H1 s Q q => hd H1 s H1 (Same.refl H1) _ fun H2 k2 => fun p hp => by
  obtain ⟨dx, ka, pks, cks, kvs, i⟩ := w.same ((s.trans k2).trans (same_new (o := .dK []) hp))
  refine ⟨A.tl, p, kvs, rfl, rfl, i.tl, upd_same, kvs.isEmpty, rfl, ?_⟩
  have e : kvs.isEmpty = S.told.isEmpty := by
    have := i.told.length
    cases kvs <;> cases h : S.told <;> rw [h] at this <;> simp at this <;> rfl
  rw [e]
  exact q _ (k2.trans (same_new hp))
theorem nok1 {p : Addr} {o : HO} (e : H p = some o) (m : Mo o) : NOk (· = p) H := fun b hb => ⟨o, (show b = p from hb) ▸ e, m⟩
theorem addN_in {ns : List Int} {n : Int} (h : n ∈ ns) : addN ns n = ns := if_pos h
theorem WA.notN {p : Addr} (w : WatchAt K H A S) (h : H p = none) : ¬ A.N p := w.nok.free h
end
section
variable {P : Program} {w : World} {K : PySem.W.Frag} {mg : Str → Option Value} {base : Heap}
theorem sc_led_to : FnScope ["self", "kept", "found", "joining", "number", "answer"] ["self", "kept"] (defScope (sM 7)) := ⟨rfl, rfl, rfl, by decide +kernel, rfl, by decide +kernel, by decide +kernel⟩
theorem okF_led_to (T : Tw K mg w base) : ∃ fd, FunD K "led_to" "Watch.led_to" (defArgs (sM 7)) (defBody (sM 7)) (defScope (sM 7)) [] [] (He.ma K (CW K) "led_to") fd ∧ FnOk P w K mg base (L2.CX P w) 11 (He.ma K (CW K) "led_to") fd ["self", "kept"] (spLedTo K) := by
  have C2 : CalM P w K mg base 10 "best" ["self"] (spWBest K) := ok_wbest T
  have C3 : CalM P w K mg base 4 "answer_of" ["self", "number", "joining"] (spAnswer K) := ok_answer_of T
  obtain ⟨g, fd, F⟩ := T.m_led_to
  refine ⟨fd, F, F.ok sc_led_to (fun vs H Q E h => ?_) (fun cdv A outer s H vs Q E hr h => ?_)⟩
  · obtain ⟨A, S, kb, kk, rfl, _⟩ := h; rfl
  · obtain ⟨A, S, kb, kk, rfl, wat, hk, ok, tb, k⟩ := h
    have nd := sc_led_to.nd
    have hu := hr.units
    refine ⟨_, pss_cons (ps_fld (pv 0) (pv 1) rfl)
      (pss_cons (ps_set (i := 2) nd rfl (.inl rfl) (pe_lst pa_nil))
      (pss_cons (ps_if (pt_cmpR (op_eqNilD hu) (pe_fld (pv 0) rfl) pe_dnewK (nomark _)) (pss_one (ps_ret (pv 2))) pss_nil)
      (pss_cons (ps_set (i := 3) nd rfl (.inl rfl) (pe_lock (pe_ix ix_tup (pe_calm0 (pv 0) T.cls C2 hr) pe_int (fun _ _ => rfl))))
      (pss_cons (ps_for (passes_of rfl) rfl (pi_list (pe_callB cr_sortedI rfl T.n_sorted (by decide +kernel) (pa_cons (pe_callTy (cr_listD rfl) rfl T.n_list (by decide +kernel) (pa_cons (pe_fld (pv 0) rfl) pa_nil)) pa_nil))) (pg_name (i := 4) nd rfl (.inl rfl))
        (pss_cons (ps_set (i := 5) nd rfl (.inl rfl) (pe_calm (pv 0) T.cls C3 (hr.mono (by decide)) (pa_cons (pv 4) (pa_cons (pv 3) pa_nil))))
        (pss_one (ps_if (pt_cmpR (op_neP hu) (pv 5) (pe_dget hr.u1 (pe_fld (pv 0) rfl) (pv 4) (fun _ _ => rfl)) (nomark _))
          (pss_cons (ps_expr (pe_bm PySem.F.plainAttrs_list PySem.F.slot_list_append PySem.F.type_list_append mt_append (pv 2) (pa_cons (pv 4) pa_nil)))
          (pss_one (ps_dput hr.u1 (pe_fld (pv 0) rfl) (pv 4) (pv 5) rfl))) pss_nil))))
      (pss_one (ps_ret (pv 2))))))), ?_⟩
    obtain ⟨dx, ka, pks, cks, kvs, i⟩ := id wat
    refine ⟨_, rfl, _, rfl, A.p, CW K, dx, _, rfl, i.ins, T.cls, T.a_kept, by show 7 < 1000; omega, ?_⟩
    have i1 := i.setKept hk
    have kp1 : Kp A.N H (upd H A.p (.ins (CW K) dx (fsW S.lag S.low S.high kb A.pl A.cl A.tl))) := Kp.refl.mut (.inl rfl) i.ins True.intro
    have wat1 : WatchAt K (upd H A.p (.ins (CW K) dx (fsW S.lag S.low S.high kb A.pl A.cl A.tl))) A (S.to kk) := ⟨_, _, _, _, _, i1⟩
    have tb1 : Tb (upd H A.p (.ins (CW K) dx (fsW S.lag S.low S.high kb A.pl A.cl A.tl))) (tabA K "ranks") := kp1.tb _ tb
    show tSeq _ _ _ _ (upd H A.p (.ins (CW K) dx (fsW S.lag S.low S.high kb A.pl A.cl A.tl)))
    refine q_setN (en_lst ea_nil (by show 0 ≤ sizeLine; decide)) fun pf xs H2 hpf k2 e2 px2 => ?_
    cases ptA_nil.mp px2
    have wat2 := wat1.same k2
    have npf : ¬ A.N pf := WA.notN wat1 hpf
    have kp2 := kp1.trans k2.kp
    refine q_when (eb_toldNil wat2 (evT wat2 T.cls T.a_told fun H1 _ => ev_var rfl)) (fun _ H3 k3 => ?_) (fun _ H3 k3 => ?_)
    · exact s_retV (ev_var rfl) fun H4 k4 => k _ H4 (kp2.trans (k3.trans k4).kp) (wat2.same (k3.trans k4))
    · have wat3 := wat2.same k3
      refine q_setDN (N := (· = pf)) (d := .list ((jW (S.to kk)).map pairD)) (edN_lock (k3 _ _ e2) fun H4 k4 od => ?_) fun vj H4 k4 pj => ?_
      · have wat4 := wat3.same k4
        have e4 := (k3.trans k4) _ _ e2
        have w5 : WatchAt K (upd H4 pf (.frz od (.lst []))) A (S.to kk) := wat4.far (N := (· = pf)) (Kp.refl.mut rfl e4 True.intro) (nok1 e4 True.intro) (fun a ha z => npf (z ▸ ha))
        exact ed_op (ed_wbest w5 ok (tab_upd e4 True.intro (((k2.trans k3).trans k4).tb _ tb1)) (ev_var rfl)) ed_int (rd_ixT (d := .list ((jW (S.to kk)).map pairD)) rfl)
      · have wat4 := wat3.same k4
        have e4 := (k3.trans k4) _ _ e2
        obtain ⟨_, _, _, _, kvs4, i4⟩ := id wat4
        have pj2 := Pt.andN (a := A.tl) pj i4.tl (fun xs => ⟨(fun z => by cases z), (fun z => by cases z)⟩)
        have nokN : NOk (fun b => b = A.tl ∨ b = pf) H4 := fun b hb => by
          rcases hb with rfl | rfl
          · exact ⟨_, i4.tl, True.intro⟩
          · exact ⟨_, e4, True.intro⟩
        have s24 := (k2.trans k3).trans k4
        refine s_for2 (N := fun b => b = A.tl ∨ b = pf) (sortI S.told) PyData.int (ef_new nokN (en_sortI (en_told (S := S.to kk) wat4 (evT wat4 T.cls T.a_told fun H1 _ => ev_var rfl))) (noLs_all fun d hd => by obtain ⟨n, _, rfl⟩ := List.mem_map.mp hd; rfl))
          (fun H5 j σ' H' => (∃ x4 x5, σ' = [some (.ref A.p), some (.ref kb), some (.ref pf), some vj, x4, x5]) ∧ WatchAt K H' A (S.to kk) ∧ (∃ ns : List Int, ns.length ≤ j ∧ Pt H' (.list (ns.map .int)) (.ref pf)) ∧ Pt (but (fun b => b = A.tl ∨ b = pf) H') (.list ((jW (S.to kk)).map pairD)) vj)
          (fun H5 k5 => ⟨⟨none, none, rfl⟩, wat4.same k5, ⟨[], Nat.le_refl _, pt_lst.mpr ⟨pf, [], rfl, k5 _ _ e4, .nil⟩⟩, pj2.kp k5.kp⟩)
          (fun H5 j σ' H' H'' ⟨e, w, ⟨ns, hl, pn⟩, pj⟩ s => ⟨e, w.same s, ⟨ns, hl, pn.keep s⟩, pj.kp s.kp⟩) (fun H5 k5 j hj σ' H' u kpl ⟨⟨x4, x5, ee⟩, w5, ⟨ns, hl, pn⟩, pj5⟩ pu => ?_) (fun H5 k5 σ' H' kpl ⟨⟨x4, x5, ee⟩, w5, _, _⟩ => ?_)
        · subst ee
          cases pt_int.mp pu
          have hmem : (sortI S.told)[j] ∈ S.told := (sortI_perm _).mem_iff.mp (List.getElem_mem hj)
          have hlen : (sortI S.told).length = S.told.length := (sortI_perm _).length_eq
          have hto := ok.told
          simp only at hto
          refine q_set (d := askD (S.to kk) (sortI S.told)[j]) (ed_answer w5 ok (ev_var rfl) (ed_var rfl (pt_int.mpr rfl)) (ed_var rfl pj5.outN)) fun va H6 k6 pa => ?_
          have w6 := w5.same k6
          obtain ⟨dx6, ka6, pk6, ck6, kvs6, i6⟩ := id w6
          obtain ⟨v0, d0, g1, g2, g3⟩ := i6.told.get hmem
          have hans := answerM_ok (S.to kk).kk (jW (S.to kk)) (sortI S.told)[j]
          refine s_when (eb_T (ed_op (ed_var rfl pa) (ed_toldGet i6 (ev_told i6 T.cls T.a_told (ev_var rfl)) (ed_var rfl (pt_int.mpr rfl)) g1 g3) (rd_neP (K := K) (Nat.le_trans hans.2 (by decide))))) (fun _ H7 k7 => ?_) (fun _ H7 k7 => ?_)
          · have w7 := w6.same k7
            refine q_append rfl (pn.keep (k6.trans k7)) (noLs_all fun d hd => by obtain ⟨n, _, rfl⟩ := List.mem_map.mp hd; rfl) (by rw [List.length_map]; omega) (ed_var rfl (pt_int.mpr rfl)) rfl fun H8 k8 p8 => ?_
            have e7 : ∃ xs, H7 pf = some (.lst xs) := by
              obtain ⟨a, xs, z, hz, _⟩ := pt_lst.mp (pn.keep (k6.trans k7))
              cases z
              exact ⟨xs, hz⟩
            obtain ⟨xs7, e7⟩ := e7
            have n7 : NOk (· = pf) H7 := nok1 e7 True.intro
            have w8 : WatchAt K H8 A (S.to kk) := w7.far k8 n7 (fun a ha z => npf (z ▸ ha))
            refine s_toldPut w8 hto (ed_var rfl (Pt.keepT (n7.tk k8) _ _ hans.1 (pa.keep k7))) (evT w8 T.cls T.a_told fun H1 _ => ev_var rfl) (ed_var rfl (pt_int.mpr rfl)) hans fun H9 v9 k9 w9 _ _ => ?_
            have hadd : addN S.told (sortI S.told)[j] = S.told := addN_in hmem
            have w9' : WatchAt K H9 A (S.to kk) := by
              have e : ({ (S.to kk) with told := addN (S.to kk).told (sortI S.told)[j] } : WS) = S.to kk := by
                show ({ S.to kk with told := addN S.told (sortI S.told)[j] } : WS) = _
                rw [hadd]
              rw [e] at w9
              exact w9
            have kq : Kp (fun b => b = A.tl ∨ b = pf) H' H9 := (((k6.trans k7).kp (N := fun b => b = A.tl ∨ b = pf)).trans (k8.mono fun a z => .inr z)).trans (k9.mono fun a z => .inl z)
            refine ⟨kpl.trans kq, ⟨_, _, rfl⟩, w9', ⟨ns ++ [(sortI S.told)[j]], by rw [List.length_append]; simp; omega, ?_⟩, pj5.kp kq⟩
            obtain ⟨a, xs, z, hz, px⟩ := pt_lst.mp p8
            cases z
            have nt : pf ≠ A.tl := fun z => npf (z ▸ .inr (.inr (.inr rfl)))
            have hz9 : H9 pf = some (.lst xs) := k9.ob _ _ hz (fun ps z => by cases z) nt
            have px' : PtA H8 ((ns ++ [(sortI S.told)[j]]).map PyData.int) xs := by rw [List.map_append]; exact px
            have ex := px'.intsV
            subst ex
            exact pt_lst.mpr ⟨pf, _, rfl, hz9, PtA.ints _⟩
          · exact ⟨kpl.trans (k6.trans k7).kp, ⟨_, _, rfl⟩, w6.same k7, ⟨ns, by omega, pn.keep (k6.trans k7)⟩, pj5.kp (k6.trans k7).kp⟩
        · subst ee
          refine s_retV (ev_var rfl) fun H6 k6 => k _ H6 ⟨fun a o e t n => ?_, fun P t => ?_, fun a n => ?_⟩ (w5.same k6)
          · refine k6.ob _ _ (kpl.ob _ _ (k5.ob _ _ (s24.ob _ _ (kp1.ob _ _ e t n) t) t) t fun z => ?_) t
            rcases z with z | z
            · exact n (z ▸ .inr (.inr (.inr rfl)))
            · have := kp1.ob _ _ e t n
              rw [z, hpf] at this
              cases this
          · exact k6.tb _ (kpl.tb _ (k5.tb _ (s24.tb _ (kp1.tb _ t))))
          · exact kp1.nn _ (s24.nn _ (k5.nn _ (kpl.nn _ (k6.nn _ n))))
theorem ok_led_to (T : Tw K mg w base) : CalM P w K mg base 11 "led_to" ["self", "kept"] (spLedTo K) := by
  obtain ⟨fd, F, G⟩ := okF_led_to (P := P) (base := base) T
  exact ⟨(T.m_led_to).1, ⟨fd, G, F.bindsN fun _ _ _ _ _ _ us hl => match us, hl with | [_, _], _ => rfl⟩⟩
end
end Ro
namespace Ro
open PySem PySem.Spec PyProof.Rows L2 PySem.W
variable [TabsC]
def setH (kk : KD × KD) (h : Str) (k : KD) : KD × KD := if h = "bridge" then (k, kk.2) else (kk.1, k)
def WS.on (S : WS) (h : Str) (k : KD) : WS := { S with kk := setH S.kk h k, past := S.past ++ [S.kk], coming := [] }
abbrev WA.co (A : WA) (c : Addr) : WA := { A with cl := c }
def spLedOn (K : PySem.W.Frag) : Sp := fun vs H Q _ => ∃ (A : WA) (S : WS) (h : Str) (rb : Addr) (k : KD), vs = [.ref A.p, .str h, .ref rb] ∧ WatchAt K H A S ∧ isHouse h ∧ KrAt H rb k ∧ WOk (S.on h k) ∧ S.past.length ≤ 10000 ∧ Tb H (tabA K "ranks") ∧
  ∀ v H' c, Kp A.N H H' → H c = none → WatchAt K H' (A.co c) (S.on h k) → Q v H'
def spBack (K : PySem.W.Frag) : Sp := fun vs H Q _ => ∃ (A : WA) (S : WS) (pa : List (KD × KD)) (kk : KD × KD), vs = [.ref A.p] ∧ WatchAt K H A S ∧ S.past = pa ++ [kk] ∧ WOk { S with kk := kk, past := pa, coming := S.coming ++ [S.kk] } ∧ S.coming.length ≤ 10000 ∧ Tb H (tabA K "ranks") ∧
  ∀ v H', Kp A.N H H' → WatchAt K H' A { S with kk := kk, past := pa, coming := S.coming ++ [S.kk] } → Q v H'
def spAgain (K : PySem.W.Frag) : Sp := fun vs H Q _ => ∃ (A : WA) (S : WS) (co : List (KD × KD)) (kk : KD × KD), vs = [.ref A.p] ∧ WatchAt K H A S ∧ S.coming = co ++ [kk] ∧ WOk { S with kk := kk, past := S.past ++ [S.kk], coming := co } ∧ S.past.length ≤ 10000 ∧ Tb H (tabA K "ranks") ∧
  ∀ v H', Kp A.N H H' → WatchAt K H' A { S with kk := kk, past := S.past ++ [S.kk], coming := co } → Q v H'
theorem paired_snoc_inv {α β : Type} {R : α → β → Prop} : ∀ {l : List α} {m : List β} {b : β}, Paired R l (m ++ [b]) → ∃ l' a, l = l' ++ [a] ∧ Paired R l' m ∧ R a b
  | [], [], b, h => by cases h
  | [], _ :: _, b, h => by cases h
  | a :: l, [], b, h => by
    cases h with
    | cons x r => cases r; exact ⟨[], a, rfl, .nil, x⟩
  | a :: l, c :: m, b, h => by
    cases h with
    | cons x r =>
      obtain ⟨l', a', rfl, h1, h2⟩ := paired_snoc_inv r
      exact ⟨a :: l', a', rfl, .cons x h1, h2⟩
section
variable {K : PySem.W.Frag} {H H' : Hp} {A : WA} {S : WS} {dx ka kb c : Addr} {pks cks : List Addr} {kvs : List (L2.Key × V)} {kk : KD × KD}
theorem WIn.pushPast (w : WIn K H A S dx ka pks cks kvs) (h : KeptAt H kb kk) : WIn K (upd H A.pl (.lst (pks.map V.ref ++ [.ref kb]))) A { S with past := S.past ++ [kk] } dx ka (pks ++ [kb]) cks kvs := by
  have f : Fz H (upd H A.pl (.lst (pks.map V.ref ++ [.ref kb]))) := Fz.mo w.pl True.intro
  obtain ⟨n1, n2, n3, n4, n5⟩ := w.nes
  exact ⟨by rw [upd_ne n1]; exact w.ins, w.kept.keep f, by rw [upd_same, List.map_append]; rfl, (past_keep w.past f).snoc (h.keep f), by rw [upd_ne w.ne.symm]; exact w.cl, past_keep w.coming f, by rw [upd_ne n4.symm]; exact w.tl, w.told.keep f.tk, w.ne⟩
theorem WIn.pushComing (w : WIn K H A S dx ka pks cks kvs) (h : KeptAt H kb kk) : WIn K (upd H A.cl (.lst (cks.map V.ref ++ [.ref kb]))) A { S with coming := S.coming ++ [kk] } dx ka pks (cks ++ [kb]) kvs := by
  have f : Fz H (upd H A.cl (.lst (cks.map V.ref ++ [.ref kb]))) := Fz.mo w.cl True.intro
  obtain ⟨n1, n2, n3, n4, n5⟩ := w.nes
  exact ⟨by rw [upd_ne n2]; exact w.ins, w.kept.keep f, by rw [upd_ne w.ne]; exact w.pl, past_keep w.past f, by rw [upd_same, List.map_append]; rfl, (past_keep w.coming f).snoc (h.keep f), by rw [upd_ne n5.symm]; exact w.tl, w.told.keep f.tk, w.ne⟩
theorem WIn.popPast {pa : List (KD × KD)} (w : WIn K H A S dx ka pks cks kvs) (e : S.past = pa ++ [kk]) : ∃ pks' kb, pks = pks' ++ [kb] ∧ KeptAt H kb kk ∧ WIn K (upd H A.pl (.lst (pks'.map V.ref))) A { S with past := pa } dx ka pks' cks kvs := by
  have hp := w.past
  rw [e] at hp
  obtain ⟨pks', kb, rfl, h1, h2⟩ := paired_snoc_inv hp
  have f : Fz H (upd H A.pl (.lst (pks'.map V.ref))) := Fz.mo w.pl True.intro
  obtain ⟨n1, n2, n3, n4, n5⟩ := w.nes
  exact ⟨pks', kb, rfl, h2, ⟨by rw [upd_ne n1]; exact w.ins, w.kept.keep f, upd_same, past_keep h1 f, by rw [upd_ne w.ne.symm]; exact w.cl, past_keep w.coming f, by rw [upd_ne n4.symm]; exact w.tl, w.told.keep f.tk, w.ne⟩⟩
theorem WIn.popComing {pa : List (KD × KD)} (w : WIn K H A S dx ka pks cks kvs) (e : S.coming = pa ++ [kk]) : ∃ cks' kb, cks = cks' ++ [kb] ∧ KeptAt H kb kk ∧ WIn K (upd H A.cl (.lst (cks'.map V.ref))) A { S with coming := pa } dx ka pks cks' kvs := by
  have hp := w.coming
  rw [e] at hp
  obtain ⟨cks', kb, rfl, h1, h2⟩ := paired_snoc_inv hp
  have f : Fz H (upd H A.cl (.lst (cks'.map V.ref))) := Fz.mo w.cl True.intro
  obtain ⟨n1, n2, n3, n4, n5⟩ := w.nes
  exact ⟨cks', kb, rfl, h2, ⟨by rw [upd_ne n2]; exact w.ins, w.kept.keep f, by rw [upd_ne w.ne]; exact w.pl, past_keep w.past f, upd_same, past_keep h1 f, by rw [upd_ne n5.symm]; exact w.tl, w.told.keep f.tk, w.ne⟩⟩
theorem WIn.newComing (w : WIn K H A S dx ka pks cks kvs) (hc : H c = some (.lst [])) (nc : ¬ A.N c) : WIn K (upd H A.p (.ins (CW K) dx (fsW S.lag S.low S.high ka A.pl c A.tl))) (A.co c) { S with coming := [] } dx ka pks [] kvs := by
  have f : Fz H (upd H A.p (.ins (CW K) dx (fsW S.lag S.low S.high ka A.pl c A.tl))) := Fz.mo w.ins True.intro
  obtain ⟨n1, n2, n3, n4, n5⟩ := w.nes
  exact ⟨upd_same, w.kept.keep f, by rw [upd_ne n1.symm]; exact w.pl, past_keep w.past f, by show upd H A.p _ c = _; rw [upd_ne (fun z => nc (.inl z))]; exact hc, .nil, by rw [upd_ne n3.symm]; exact w.tl, w.told.keep f.tk, fun z => nc (.inr (.inl z.symm))⟩
theorem WIn.past_len (w : WIn K H A S dx ka pks cks kvs) : pks.length = S.past.length := Paired.length w.past
theorem WIn.coming_len (w : WIn K H A S dx ka pks cks kvs) : cks.length = S.coming.length := Paired.length w.coming
end
section
variable {K : PySem.W.Frag} {σ : L2.St} {H H' : Hp} {to te : TE} {D : Ends} {tz : TS} {a : Addr} {xs : List V} {v : V}
theorem eb_nilP (h : EvV te σ H (.ref a)) (e : H a = some (.lst xs)) : EvB (tTest (tOp (rEqNil K) te (tLst tNil))) σ H xs.isEmpty := fun H1 s Q q => h H1 s _ fun H2 k => ⟨by show 0 ≤ sizeLine; decide, fun p hp => by
  have e2 := (s.trans k) _ _ e
  exact ⟨a, p, xs, rfl, rfl, SqL.of (same_new hp _ _ e2), SqL.of upd_same, xs.isEmpty, rfl, q _ (k.trans (same_new hp))⟩⟩
theorem q_appV (hx : EvV to σ H (.ref a)) (hv : EvV te σ H v) (e : H a = some (.lst xs)) (hl : xs.length < 1000000) (k : ∀ H1, Same H H1 → tz D σ (upd H1 a (.lst (xs ++ [v])))) : tSeq (tDrop (tBM K "list" rAppend to (tCons te tNil))) tz D σ H :=
  hx H (Same.refl H) _ fun H1 k1 => ⟨.inl ⟨rfl, xs, SqL.of (k1 _ _ e)⟩, hv H1 k1 _ fun H2 k2 => ⟨a, xs, v, rfl, rfl, (k1.trans k2) _ _ e, sizes1 hl, k H2 (k1.trans k2)⟩⟩
end
section
variable {P : Program} {w : World} {K : PySem.W.Frag} {mg : Str → Option Value} {base : Heap}
theorem sc_back : FnScope ["self"] ["self"] (defScope (sM 8)) := ⟨rfl, rfl, rfl, by decide +kernel, rfl, by decide +kernel, by decide +kernel⟩
theorem okF_back (T : Tw K mg w base) : ∃ fd, FunD K "back" "Watch.back" (defArgs (sM 8)) (defBody (sM 8)) (defScope (sM 8)) [] [] (He.ma K (CW K) "back") fd ∧ FnOk P w K mg base (L2.CX P w) 12 (He.ma K (CW K) "back") fd ["self"] (spBack K) := by
  have C1 : CalM P w K mg base 11 "led_to" ["self", "kept"] (spLedTo K) := ok_led_to T
  obtain ⟨g, fd, F⟩ := T.m_back
  refine ⟨fd, F, F.ok sc_back (fun vs H Q E h => ?_) (fun cdv A outer s H vs Q E hr h => ?_)⟩
  · obtain ⟨A, S, pa, kk, rfl, _⟩ := h; rfl
  · obtain ⟨A, S, pa, kk, rfl, ⟨dx, ka, pks, cks, kvs, i⟩, hpast, ok, hcl, tb, k⟩ := h
    refine ⟨_, pss_cons (ps_if (pt_cmpR (op_eqNil hr.units) (pe_fld (pv 0) rfl) (pe_lst pa_nil) (nomark _)) (pss_one ps_never) pss_nil)
      (pss_cons (ps_expr (pe_bm PySem.F.plainAttrs_list PySem.F.slot_list_append PySem.F.type_list_append mt_append (pe_fld (pv 0) rfl) (pa_cons (pe_fld (pv 0) rfl) pa_nil)))
      (pss_one (ps_ret (pe_calm (pv 0) T.cls C1 hr (pa_cons (pe_bm0 PySem.F.plainAttrs_list PySem.F.slot_list_pop PySem.F.type_list_pop mt_pop (pe_fld (pv 0) rfl)) pa_nil))))), ?_⟩
    have e0 : ∀ H1, EvV (tVar 0) (start ["self"] [.ref A.p]) H1 (.ref A.p) := fun H1 => ev_var rfl
    obtain ⟨pks', kb, rfl, hkb, _⟩ := i.popPast hpast
    refine q_when (b := false) (EvB.to (eb_nilP (ev_fld T.cls T.a_past (e0 H) i.ins rfl) i.pl) (by rw [List.map_append]; cases pks' <;> rfl)) (fun z => by cases z) (fun _ H1 k1 => ?_)
    have i1 := i.same k1
    have hl := i.coming_len
    refine q_appV (ev_fld T.cls T.a_coming (e0 H1) i1.ins rfl) (i1.kept_at T.cls T.a_kept (e0 H1)) i1.cl (by rw [List.length_map]; omega) fun H2 k2 => ?_
    have i2 := (i1.same k2).pushComing (i1.same k2).kept
    have kp2 : Kp A.N H (upd H2 A.cl (.lst (cks.map V.ref ++ [.ref ka]))) := ((k1.trans k2).kp).mut (.inr (.inr (.inl rfl))) (i1.same k2).cl True.intro
    obtain ⟨pks2, kb2, e2, hk2, i3⟩ := i2.popPast (pa := pa) (kk := kk) hpast
    have kp3 := kp2.mut (o := .lst (pks2.map V.ref)) (.inr (.inl rfl)) i2.pl True.intro
    refine ⟨_, rfl, A.p, dx, _, rfl, i2.ins, rfl, _, rfl, A.p, CW K, dx, _, .ref A.pl, rfl, i2.ins, T.cls, T.a_past, rfl, .inl ⟨rfl, _, SqL.of i2.pl⟩, A.pl, _, .ref kb2, rfl, rfl, i2.pl, ?_, ?_⟩
    · rw [e2, List.map_append]
      simp
    · have el : ((pks' ++ [kb]).map V.ref).dropLast = pks2.map V.ref := by rw [e2, List.map_append]; simp
      rw [el]
      exact ⟨A, _, kb2, kk, rfl, ⟨_, _, _, _, _, i3⟩, hk2.keep (Fz.mo i2.pl True.intro), ok, kp3.tb _ tb, fun v H' kp' w' => k v H' (kp3.trans kp') w'⟩
theorem ok_back (T : Tw K mg w base) : CalM P w K mg base 12 "back" ["self"] (spBack K) := by
  obtain ⟨fd, F, G⟩ := okF_back (P := P) (base := base) T
  exact ⟨(T.m_back).1, ⟨fd, G, F.bindsN fun _ _ _ _ _ _ us hl => match us, hl with | [_], _ => rfl⟩⟩
theorem sc_again : FnScope ["self"] ["self"] (defScope (sM 9)) := ⟨rfl, rfl, rfl, by decide +kernel, rfl, by decide +kernel, by decide +kernel⟩
theorem okF_again (T : Tw K mg w base) : ∃ fd, FunD K "again" "Watch.again" (defArgs (sM 9)) (defBody (sM 9)) (defScope (sM 9)) [] [] (He.ma K (CW K) "again") fd ∧ FnOk P w K mg base (L2.CX P w) 12 (He.ma K (CW K) "again") fd ["self"] (spAgain K) := by
  have C1 : CalM P w K mg base 11 "led_to" ["self", "kept"] (spLedTo K) := ok_led_to T
  obtain ⟨g, fd, F⟩ := T.m_again
  refine ⟨fd, F, F.ok sc_again (fun vs H Q E h => ?_) (fun cdv A outer s H vs Q E hr h => ?_)⟩
  · obtain ⟨A, S, pa, kk, rfl, _⟩ := h; rfl
  · obtain ⟨A, S, pa, kk, rfl, ⟨dx, ka, pks, cks, kvs, i⟩, hpast, ok, hcl, tb, k⟩ := h
    refine ⟨_, pss_cons (ps_if (pt_cmpR (op_eqNil hr.units) (pe_fld (pv 0) rfl) (pe_lst pa_nil) (nomark _)) (pss_one ps_never) pss_nil)
      (pss_cons (ps_expr (pe_bm PySem.F.plainAttrs_list PySem.F.slot_list_append PySem.F.type_list_append mt_append (pe_fld (pv 0) rfl) (pa_cons (pe_fld (pv 0) rfl) pa_nil)))
      (pss_one (ps_ret (pe_calm (pv 0) T.cls C1 hr (pa_cons (pe_bm0 PySem.F.plainAttrs_list PySem.F.slot_list_pop PySem.F.type_list_pop mt_pop (pe_fld (pv 0) rfl)) pa_nil))))), ?_⟩
    have e0 : ∀ H1, EvV (tVar 0) (start ["self"] [.ref A.p]) H1 (.ref A.p) := fun H1 => ev_var rfl
    obtain ⟨cks', kb, rfl, hkb, _⟩ := i.popComing hpast
    refine q_when (b := false) (EvB.to (eb_nilP (ev_fld T.cls T.a_coming (e0 H) i.ins rfl) i.cl) (by rw [List.map_append]; cases cks' <;> rfl)) (fun z => by cases z) (fun _ H1 k1 => ?_)
    have i1 := i.same k1
    have hl := i.past_len
    refine q_appV (ev_fld T.cls T.a_past (e0 H1) i1.ins rfl) (i1.kept_at T.cls T.a_kept (e0 H1)) i1.pl (by rw [List.length_map]; omega) fun H2 k2 => ?_
    have i2 := (i1.same k2).pushPast (i1.same k2).kept
    have kp2 : Kp A.N H (upd H2 A.pl (.lst (pks.map V.ref ++ [.ref ka]))) := ((k1.trans k2).kp).mut (.inr (.inl rfl)) (i1.same k2).pl True.intro
    obtain ⟨cks2, kb2, e2, hk2, i3⟩ := i2.popComing (pa := pa) (kk := kk) hpast
    have kp3 := kp2.mut (o := .lst (cks2.map V.ref)) (.inr (.inr (.inl rfl))) i2.cl True.intro
    refine ⟨_, rfl, A.p, dx, _, rfl, i2.ins, rfl, _, rfl, A.p, CW K, dx, _, .ref A.cl, rfl, i2.ins, T.cls, T.a_coming, rfl, .inl ⟨rfl, _, SqL.of i2.cl⟩, A.cl, _, .ref kb2, rfl, rfl, i2.cl, ?_, ?_⟩
    · rw [e2, List.map_append]
      simp
    · have el : ((cks' ++ [kb]).map V.ref).dropLast = cks2.map V.ref := by rw [e2, List.map_append]; simp
      rw [el]
      exact ⟨A, _, kb2, kk, rfl, ⟨_, _, _, _, _, i3⟩, hk2.keep (Fz.mo i2.cl True.intro), ok, kp3.tb _ tb, fun v H' kp' w' => k v H' (kp3.trans kp') w'⟩
theorem ok_again (T : Tw K mg w base) : CalM P w K mg base 12 "again" ["self"] (spAgain K) := by
  obtain ⟨fd, F, G⟩ := okF_again (P := P) (base := base) T
  exact ⟨(T.m_again).1, ⟨fd, G, F.bindsN fun _ _ _ _ _ _ us hl => match us, hl with | [_], _ => rfl⟩⟩
end
end Ro
namespace Ro
open PySem PySem.Spec PyProof.Rows L2 PySem.W
variable [TabsC]
section
variable {P : Program} {w : World} {K : PySem.W.Frag} {mg : Str → Option Value} {base : Heap}
theorem sc_led_on : FnScope ["self", "house", "rows", "kept"] ["self", "house", "rows"] (defScope (sM 6)) := ⟨rfl, rfl, rfl, by decide +kernel, rfl, by decide +kernel, by decide +kernel⟩
theorem okF_led_on (T : Tw K mg w base) : ∃ fd, FunD K "led_on" "Watch.led_on" (defArgs (sM 6)) (defBody (sM 6)) (defScope (sM 6)) [] [] (He.ma K (CW K) "led_on") fd ∧ FnOk P w K mg base (L2.CX P w) 12 (He.ma K (CW K) "led_on") fd ["self", "house", "rows"] (spLedOn K) := by
  have C1 : CalM P w K mg base 11 "led_to" ["self", "kept"] (spLedTo K) := ok_led_to T
  obtain ⟨g, fd, F⟩ := T.m_led_on
  refine ⟨fd, F, F.ok sc_led_on (fun vs H Q E h => ?_) (fun cdv A outer s H vs Q E hr h => ?_)⟩
  · obtain ⟨A, S, h, rb, kd, rfl, _⟩ := h; rfl
  · obtain ⟨A, S, hs, rb, kd, rfl, ⟨dx, ka, pks, cks, kvs, i⟩, hh, hrb, ok, hpl, tb, k⟩ := h
    have nd := sc_led_on.nd
    refine ⟨_, pss_cons (ps_expr (pe_bm PySem.F.plainAttrs_list PySem.F.slot_list_append PySem.F.type_list_append mt_append (pe_fld (pv 0) rfl) (pa_cons (pe_fld (pv 0) rfl) pa_nil)))
      (pss_cons (ps_fld (pv 0) (pe_lst pa_nil) rfl)
      (pss_cons (ps_set (i := 3) nd rfl (.inl rfl) (pe_callTy call_dictD rfl T.n_dict (by decide +kernel) (pa_cons (pe_fld (pv 0) rfl) pa_nil)))
      (pss_cons (ps_dput hr.u1 (pv 3) (pv 1) (pv 2) rfl)
      (pss_one (ps_ret (pe_calm (pv 0) T.cls C1 hr (pa_cons (pe_lk (pv 3)) pa_nil))))))), ?_⟩
    have e0 : ∀ H1, EvV (tVar 0) (start ["self", "house", "rows", "kept"] [.ref A.p, .str hs, .ref rb]) H1 (.ref A.p) := fun H1 => ev_var rfl
    have hl := i.past_len
    refine q_appV (ev_fld T.cls T.a_past (e0 H) i.ins rfl) (i.kept_at T.cls T.a_kept (e0 H)) i.pl (by rw [List.length_map]; omega) fun H1 k1 => ?_
    have i1 := (i.same k1).pushPast (i.same k1).kept
    have kp1 : Kp A.N H (upd H1 A.pl (.lst (pks.map V.ref ++ [.ref ka]))) := (k1.kp).mut (.inr (.inl rfl)) (i.same k1).pl True.intro
    refine ⟨by show 0 ≤ sizeLine; decide, fun c hc => ⟨_, rfl, A.p, CW K, dx, _, rfl, (i1.same (same_new hc)).ins, T.cls, T.a_coming, by show 7 < 1000; omega, ?_⟩⟩
    have i2 := i1.same (same_new (o := .lst []) hc)
    have nc : ¬ A.N c := i1.nok.free hc
    have hcH : H c = none := kp1.nn c hc
    have i3 := i2.newComing (c := c) upd_same nc
    have kp3 := (kp1.trans (same_new (o := .lst []) hc).kp).mut (o := .ins (CW K) dx (fsW S.lag S.low S.high ka A.pl c A.tl)) (.inl rfl) i2.ins True.intro
    show tSeq _ _ _ _ (upd (upd (upd H1 A.pl (.lst (pks.map V.ref ++ [.ref ka]))) c (.lst [])) A.p (.ins (CW K) dx (fsW S.lag S.low S.high ka A.pl c A.tl)))
    obtain ⟨od, b, r, a1, a2, a3⟩ := id i3.kept
    refine ⟨_, rfl, A.p, CW K, dx, _, .ref ka, rfl, i3.ins, T.cls, T.a_kept, rfl, ka, kvKept b r, rfl, .inr ⟨od, a1⟩, fun d hd => ?_⟩
    have hdH : H d = none := kp3.nn d hd
    have i4 := i3.same (same_new (o := .dK (kvKept b r)) hd)
    have kp4 := kp3.new (o := .dK (kvKept b r)) hd
    refine ⟨_, rfl, _, rfl, _, rfl, d, _, rfl, DPut.k (k := .inr hs) upd_same (by rw [sizeLine_eq]; show 2 < 16777216; decide), ?_⟩
    have kp5 := kp4.mut0 (o := .dK (putK (kvKept b r) (.inr hs) (.ref rb))) hdH upd_same True.intro
    have ndn : ∀ a, (A.co c).N a → ¬ a = d := fun a ha z => i3.nok.free hd (z ▸ ha)
    have i5 := i4.keep (H' := upd (upd (upd (upd (upd H1 A.pl (.lst (pks.map V.ref ++ [.ref ka]))) c (.lst [])) A.p (.ins (CW K) dx (fsW S.lag S.low S.high ka A.pl c A.tl))) d (.dK (kvKept b r))) d (.dK (putK (kvKept b r) (.inr hs) (.ref rb)))) (Fz.mo (u := .dK (kvKept b r)) upd_same True.intro) (fun a o ha e _ => by rw [upd_ne (ndn a ha)]; exact e)
    refine ⟨_, rfl, A.p, dx, _, rfl, i5.ins, rfl, _, rfl, d, _, rfl, upd_same, True.intro, fun od2 => ?_⟩
    have fzA := (Fz.mo (H := upd (upd (upd (upd H1 A.pl (.lst (pks.map V.ref ++ [.ref ka]))) c (.lst [])) A.p (.ins (CW K) dx (fsW S.lag S.low S.high ka A.pl c A.tl))) d (.dK (kvKept b r))) (o := .dK (putK (kvKept b r) (.inr hs) (.ref rb))) (u := .dK (kvKept b r)) upd_same True.intro)
    have fzB := (Fz.mo (o := .frz od2 (.dK (putK (kvKept b r) (.inr hs) (.ref rb)))) (upd_same (H := upd (upd (upd (upd H1 A.pl (.lst (pks.map V.ref ++ [.ref ka]))) c (.lst [])) A.p (.ins (CW K) dx (fsW S.lag S.low S.high ka A.pl c A.tl))) d (.dK (kvKept b r))) (a := d) (o := .dK (putK (kvKept b r) (.inr hs) (.ref rb)))) True.intro)
    have i6 := i5.keep fzB (fun a o ha e _ => by rw [upd_ne (ndn a ha)]; exact e)
    have kp6 := kp5.mut0 (o := .frz od2 (.dK (putK (kvKept b r) (.inr hs) (.ref rb)))) hdH upd_same True.intro
    have fz0 : Fz H _ := kp6.fz i.nok
    have hk : KeptAt (upd (upd (upd (upd (upd (upd H1 A.pl (.lst (pks.map V.ref ++ [.ref ka]))) c (.lst [])) A.p (.ins (CW K) dx (fsW S.lag S.low S.high ka A.pl c A.tl))) d (.dK (kvKept b r))) d (.dK (putK (kvKept b r) (.inr hs) (.ref rb)))) d (.frz od2 (.dK (putK (kvKept b r) (.inr hs) (.ref rb))))) d (setH S.kk hs kd) := by
      have b2 := ((a2.keep (same_new (o := .dK (kvKept b r)) hd).fz).keep fzA).keep fzB
      have b3 := ((a3.keep (same_new (o := .dK (kvKept b r)) hd).fz).keep fzA).keep fzB
      have b4 := hrb.keep fz0
      rcases hh with rfl | rfl
      · exact ⟨od2, rb, r, upd_same, b4, b3⟩
      · exact ⟨od2, b, rb, upd_same, b2, b4⟩
    exact ⟨A.co c, _, d, setH S.kk hs kd, rfl, ⟨_, _, _, _, _, i6⟩, hk, ok, kp6.tb _ tb, fun v H' kp' w' => k v H' c ⟨fun a o e t n => kp'.ob a o (kp6.ob a o e t n) t (fun z => by
        rcases z with z | z | z | z
        · exact n (.inl z)
        · exact n (.inr (.inl z))
        · rw [show a = c from z, hcH] at e; cases e
        · exact n (.inr (.inr (.inr z)))), fun P t => kp'.tb P (kp6.tb P t), fun a n => kp6.nn a (kp'.nn a n)⟩ hcH w'⟩
theorem ok_led_on (T : Tw K mg w base) : CalM P w K mg base 12 "led_on" ["self", "house", "rows"] (spLedOn K) := by
  obtain ⟨fd, F, G⟩ := okF_led_on (P := P) (base := base) T
  exact ⟨(T.m_led_on).1, ⟨fd, G, F.bindsN fun _ _ _ _ _ _ us hl => match us, hl with | [_, _, _], _ => rfl⟩⟩
end
end Ro
namespace Ro
open PySem PySem.Spec PyProof.Rows L2 PySem.W
variable [TabsC]
section
variable {X : Cx} {k : Nat} {x m : Str} {ps : List Str} {sp : Sp} {p pos apos : Pos} {e o : Expr} {es : List Expr} {t : TA} {ta : TE} {W : WX}
/-- f(e, ..) that may raise -/
theorem pe_calS (C : Cal X.prog X.w X.K X.mg X.base k x ps sp) (hr : Room k X.A) (tk : Takes X W) (ha : PA X (e :: es) t) (hg : Gl X x := by rfl) (hdb : (x == ("__debug__" : Str)) = false := by decide)
    (he : starEach (e :: es) X.env = (false, eval e X.env) :: starEach es X.env := by rfl) (hpl : (backTo pos (starEach es X.env)).any (·.1) = false := by rfl) :
    PE X (.Call (.Name x p) (e :: es) [] pos) (tCallS sp (WE W) t) := by
  obtain ⟨fd, F, b⟩ := C.ex
  exact pe_callS F hr hg C.g C.kp b (fun σ => passAt tk σ) ha hdb he hpl
/-- o.m(e, ..) that may raise -/
def tMethS (C : Addr) (m : Str) (sp : Sp) (E : L2.St → XK) (ta : TE) (t : TA) : TE := fun σ H Q => ta σ H fun x H1 => ∃ a dx fs, x = .ref a ∧ H1 a = some (.ins C dx fs) ∧ fs.lookup m = none ∧
  t σ H1 fun vs H2 => sp (x :: vs) H2 Q (E σ)
theorem pe_calmS {pl : Sem Bool} (he : PE X o ta) (c : Cls X.K (CW X.K)) (C : CalM X.prog X.w X.K X.mg X.base k m ps sp) (hr : Room k X.A) (tk : Takes X W) (ha : PA X (e :: es) t)
    (hst : starEach (e :: es) X.env = (false, eval e X.env) :: starEach es X.env := by rfl) (hpl : (backTo pos (starEach es X.env)).any (·.1) = false := by rfl)
    (ht : eval (.Call (.Attribute o m apos) (e :: es) [] pos) X.env = (do
      let ov ← eval o X.env
      standAt apos.atName
      let (f, first) ← holding [ov] (getMethod ov m pl)
      callWith pos f first (backTo pos (starEach (e :: es) X.env)) (backToKw pos (keywordEach [] X.env))) := by rfl) :
    PE X (.Call (.Attribute o m apos) (e :: es) [] pos) (tMethS (CW X.K) m sp (WE W) ta t) := by
  obtain ⟨fd, F, b⟩ := C.ex
  refine ⟨fun pins s σ H Q I h => ?_⟩
  refine PySem.W.methodCall_KW (pl := pl) (L2.thn (he.run pins s σ H _ I h) fun u s1 ⟨x, H1, I1, rx, a, dx, fs, ex, ea, l, q⟩ => ?_) ht
  subst ex
  obtain rfl : u = Value.ref a := rx
  refine getmeth_ok I1 ea c C.me l ?_
  refine PySem.W.callWith_K (first := [.ref a]) (h₀ := X.base) I.ok.mod.kin C.me.kp (L2.thn (ha.run pos pins s1 σ H1 _ I1 q) fun us s2 ⟨vs, H2, I2, r, q2⟩ => ⟨I2.kIn, ?_⟩) hst hpl
  exact run_fnS (us := .ref a :: us) (vs := .ref a :: vs) F hr b (passAt tk σ) I2 (.cons rfl r) q2
end
abbrev CN (K : PySem.W.Frag) : Addr := He.ga K "NoNumber"
abbrev CT (K : PySem.W.Frag) : Addr := He.ga K "Taken"
def spDrop (K : PySem.W.Frag) : Sp := fun vs H Q E => ∃ (A : WA) (S : WS) (h : Str) (n : Int), vs = [.ref A.p, .str h, .int n] ∧ WatchAt K H A S ∧ isHouse h ∧ KK S.kk ∧
  ((∃ r, aget (ofH S.kk h) n = some r ∧ WOk (S.on h (kdrop (ofH S.kk h) n)) ∧ S.past.length ≤ 10000 ∧ Tb H (tabA K "ranks") ∧ ∀ v H' c, Kp A.N H H' → H c = none → WatchAt K H' (A.co c) (S.on h (kdrop (ofH S.kk h) n)) → Q v H') ∨
   (999 < n ∧ ∀ H', Same H H' → E (.ref (CN K)) none H'))
section
variable {P : Program} {w : World} {K : PySem.W.Frag} {mg : Str → Option Value} {base : Heap}
/-- self.need_house(house) -/
theorem ed_needHouse {σ : L2.St} {H : Hp} {A : WA} {S : WS} {te th : TE} {h : Str} (w : WatchAt K H A S) (e : EvV te σ H (.ref A.p)) (hh : isHouse h) (eh : EvD th σ H (.str h)) : EvD (tMeth (CW K) "need_house" (spNeedHouse K) [] E0 te (tCons th tNil)) σ H .none :=
  ed_meth e w (fun _ _ _ _ _ _ _ => rfl) (ea_one eh) fun vs H1 k1 p Q q => by
    obtain ⟨v, rfl, p1⟩ := ptA1 p
    cases pt_str.mp p1
    exact ⟨A, S, h, rfl, w.same k1, hh, fun H' s => q _ H' s (pt_non.mpr rfl)⟩
theorem sc_drop : FnScope ["self", "house", "number", "less"] ["self", "house", "number"] (defScope (sM 5)) := ⟨rfl, rfl, rfl, by decide +kernel, rfl, by decide +kernel, by decide +kernel⟩
theorem okF_drop (T : Tw K mg w base) : ∃ fd, FunD K "drop" "Watch.drop" (defArgs (sM 5)) (defBody (sM 5)) (defScope (sM 5)) [] [] (He.ma K (CW K) "drop") fd ∧ FnOk P w K mg base (L2.CX P w) 13 (He.ma K (CW K) "drop") fd ["self", "house", "number"] (spDrop K) := by
  have C1 : CalM P w K mg base 1 "need_house" ["self", "house"] (spNeedHouse K) := ok_need_house T
  have C2 : Cal P w K mg base 2 "is_from_to" ["thing", "least", "most"] spIsFromTo := ok_is_from_to T.toTx
  have C3 : CalM P w K mg base 12 "led_on" ["self", "house", "rows"] (spLedOn K) := ok_led_on T
  obtain ⟨g, fd, F⟩ := T.m_drop
  refine ⟨fd, F, F.ok sc_drop (fun vs H Q E h => ?_) (fun cdv A outer s H vs Q E hr h => ?_)⟩
  · obtain ⟨A, S, h, n, rfl, _⟩ := h; rfl
  · obtain ⟨A, S, hs, n, rfl, wat, hh, ok, k⟩ := h
    have nd := sc_drop.nd
    refine ⟨_, pss_cons (ps_expr (pe_calm (pv 0) T.cls C1 (hr.mono (by decide)) (pa_cons (pv 1) pa_nil)))
      (pss_cons (ps_if (PW.pt (pw_or (pt_not (pt_val (pe_cal C2 (hr.mono (by decide)) (pa_cons (pv 2) (pa_cons pe_int (pa_cons (pe_gi T.i_MOST_NUMBER) pa_nil))))))
          (pw_or1 (pt_cmp (pc_dnotin hr.u1 (pv 2) (pe_dget hr.u1 (pe_fld (pv 0) rfl) (pv 1) (fun _ _ => rfl))))))) (pss_one (ps_raise rfl (takes_of rfl rfl rfl rfl) (pmk_own PySem.F.excBase_IndexError T.x_NoNumber.ex T.x_NoNumber.g T.x_NoNumber.kp (raises_own T.x_NoNumber.sb T.x_NoNumber.ty) rfl))) pss_nil)
      (pss_cons (ps_set (i := 3) nd rfl (.inl rfl) (pe_callTy call_dictD rfl T.n_dict (by decide +kernel) (pa_cons (pe_dget hr.u1 (pe_fld (pv 0) rfl) (pv 1) (fun _ _ => rfl)) pa_nil)))
      (pss_cons (ps_expr (pe_dpop1 (pv 3) (pv 2) ⟨rfl, rfl, rfl, rfl⟩))
      (pss_one (ps_ret (pe_calm (pv 0) T.cls C3 hr (pa_cons (pv 1) (pa_cons (pe_lk (pv 3)) pa_nil)))))))), ?_⟩
    have e0 : ∀ H1, EvV (tVar 0) (start ["self", "house", "number", "less"] [.ref A.p, .str hs, .int n]) H1 (.ref A.p) := fun H1 => ev_var rfl
    have e1 : ∀ H1, EvD (tVar 1) (start ["self", "house", "number", "less"] [.ref A.p, .str hs, .int n]) H1 (.str hs) := fun H1 => ed_var rfl (pt_str.mpr rfl)
    have e2 : ∀ H1, EvD (tVar 2) (start ["self", "house", "number", "less"] [.ref A.p, .str hs, .int n]) H1 (.int n) := fun H1 => ed_var rfl (pt_int.mpr rfl)
    refine q_drop (ed_needHouse wat (e0 H) hh (e1 H)) fun H1 k1 => ?_
    have wat1 := wat.same k1
    obtain ⟨dx, ka, pks, cks, kvs, i⟩ := id wat1
    obtain ⟨od, b, r, c, a1, a2, a3, a4, a5⟩ := i.kept.house hh
    have eb : EvV (tDGet (tFld K (tVar 0) "kept") (tVar 1)) (start ["self", "house", "number", "less"] [.ref A.p, .str hs, .int n]) H1 (.ref c) := ev_dgetS (i.kept_at T.cls T.a_kept (e0 H1)) (e1 H1) a1 a4
    have hcond := eb_or (b := !isFromTo (.int n) 0 999) (eb_not (eb_B (ed_call (E := E0) (R := fun ds z => ∃ d a b, ds = [d, .int a, .int b] ∧ z = .bool (isFromTo d a b)) (ea_cons (e2 H1) (ea_cons ed_int (ea_one ed_int))) ⟨_, 0, 999, rfl, rfl⟩))) fun _ => eb_B (ed_rowNin (e2 H1) eb a5)
    rcases k with ⟨rw0, hg, ok', hpl, tb, k⟩ | ⟨hbig, k⟩
    · have hrg : 0 ≤ n ∧ n ≤ 999 := by
        obtain ⟨q, hq, eq⟩ := aget_in hg
        have := ok.of.rg q hq
        rw [eq] at this
        exact this
      refine q_when (b := false) (hcond.to (by simp only [isFromTo, hg]; rw [decide_eq_true hrg.1, decide_eq_true hrg.2]; rfl)) (fun z => by cases z) (fun _ H2 k2 => ?_)
      refine eb H2 k2 _ fun H3 k3 => ?_
      obtain ⟨odr, kr, e3, rs⟩ := a5.keep (k2.trans k3).fz
      refine ⟨c, kr, rfl, .inr ⟨odr, e3⟩, fun d hd => ?_⟩
      have s3 := (k1.trans k2).trans k3
      have hdH : H d = none := s3.nn d hd
      have wat3 := wat.same s3
      have hv : ∃ v, valV kr (.inl n) = some v := by
        rcases rs.get n with ⟨z, _⟩ | ⟨_, v, _, z, _⟩
        · rw [hg] at z; cases z
        · exact ⟨v, z⟩
      obtain ⟨v0, hv⟩ := hv
      refine ⟨_, rfl, d, rfl, .inl ⟨kr, .inl upd_same⟩, _, rfl, kr, .inl n, v0, upd_same, rfl, hv, ?_⟩
      have kpA := (s3.trans (same_new (o := .dK kr) hd)).kp (N := A.N)
      have kpB := kpA.mut0 (o := .dK (dropK kr (.inl n))) hdH upd_same True.intro
      have ndn : ∀ a, A.N a → ¬ a = d := fun a ha z => wat3.nok.free hd (z ▸ ha)
      have w5 : ∀ {o : HO} {H9 : Hp} {u : HO}, WatchAt K H9 A S → H9 d = some u → Mo u → WatchAt K (upd H9 d o) A S := fun {o H9 u} w hu mo => w.far (N := (· = d)) (Kp.refl.mut rfl hu mo) (nok1 hu mo) ndn
      have wA := wat3.same (same_new (o := .dK kr) hd)
      have wB := w5 (o := .dK (dropK kr (.inl n))) wA upd_same True.intro
      obtain ⟨dx5, _, _, _, _, i5⟩ := id wB
      refine ⟨_, rfl, A.p, dx5, _, rfl, i5.ins, rfl, _, rfl, _, rfl, d, _, rfl, upd_same, True.intro, fun od2 => ?_⟩
      have wC := w5 (o := .frz od2 (.dK (dropK kr (.inl n)))) wB upd_same True.intro
      have kpC := kpB.mut0 (o := .frz od2 (.dK (dropK kr (.inl n)))) hdH upd_same True.intro
      have fzC : Fz _ _ := ((same_new (o := .dK kr) hd).fz.trans (Fz.mo (u := .dK kr) (o := .dK (dropK kr (.inl n))) upd_same True.intro)).trans (Fz.mo (u := .dK (dropK kr (.inl n))) (o := .frz od2 (.dK (dropK kr (.inl n)))) upd_same True.intro)
      exact ⟨A, S, hs, d, kdrop (ofH S.kk hs) n, rfl, wC, hh, ⟨od2, _, upd_same, rs.drop.keep fzC⟩, ok', hpl, kpC.tb _ tb, fun v H' c' kp' hc' w' => k v H' c' (kpC.trans kp') (kpC.nn _ hc') w'⟩
    · refine q_when (b := true) (hcond.to (by simp only [isFromTo]; rw [decide_eq_false (show ¬ n ≤ 999 by omega)]; simp)) (fun _ H2 k2 => ?_) (fun z => by cases z)
      exact k H2 (k1.trans k2)
theorem ok_drop (T : Tw K mg w base) : CalM P w K mg base 13 "drop" ["self", "house", "number"] (spDrop K) := by
  obtain ⟨fd, F, G⟩ := okF_drop (P := P) (base := base) T
  exact ⟨(T.m_drop).1, ⟨fd, G, F.bindsN fun _ _ _ _ _ _ us hl => match us, hl with | [_, _, _], _ => rfl⟩⟩
end
end Ro
namespace Ro
open PySem PySem.Spec PyProof.Rows L2 PySem.W
variable [TabsC]
theorem EvD.run {te : TE} {σ : L2.St} {H : Hp} {d : PyData} {Q : VK} (h : EvD te σ H d) (k : ∀ v H1, Same H H1 → Pt H1 d v → Q v H1) : te σ H Q := h H (Same.refl H) Q k
def spTell (K : PySem.W.Frag) : Sp := fun vs H Q E => ∃ (A : WA) (S : WS) (h : Str) (n : Int) (r : Row) (v : V), vs = [.ref A.p, .str h, .int n, v] ∧ (Pt H (rowD r) v ∨ Pt H (rowL r) v) ∧ r.Ok ∧ WatchAt K H A S ∧ isHouse h ∧ KK S.kk ∧
  ((0 ≤ n ∧ n ≤ 999 ∧ aget (ofH S.kk h) n = none ∧ Fits (ofH S.kk h) n r.m ∧ WOk (S.on h (ofH S.kk h ++ [(n, r)])) ∧ S.past.length ≤ 10000 ∧ Tb H (tabA K "ranks") ∧ ∀ v H' c, Kp A.N H H' → H c = none → WatchAt K H' (A.co c) (S.on h (ofH S.kk h ++ [(n, r)])) → Q v H') ∨
   (999 < n ∧ ∀ H', Same H H' → E (.ref (CN K)) none H') ∨
   (0 ≤ n ∧ n ≤ 999 ∧ (∃ r', aget (ofH S.kk h) n = some r') ∧ ∀ H', Same H H' → E (.ref (CT K)) none H') ∨
   (0 ≤ n ∧ n ≤ 999 ∧ aget (ofH S.kk h) n = none ∧ TooLate (ofH S.kk h) n r.m ∧ ∀ d H', Same H H' → E (.ref (CL K)) (some d) H'))
section
variable {P : Program} {w : World} {K : PySem.W.Frag} {mg : Str → Option Value} {base : Heap}
theorem sc_tell : FnScope ["self", "house", "number", "row", "fresh", "rows", "more"] ["self", "house", "number", "row"] (defScope (sM 4)) := ⟨rfl, rfl, rfl, by decide +kernel, rfl, by decide +kernel, by decide +kernel⟩
theorem okF_tell (T : Tw K mg w base) : ∃ fd, FunD K "tell" "Watch.tell" (defArgs (sM 4)) (defBody (sM 4)) (defScope (sM 4)) [] [] (He.ma K (CW K) "tell") fd ∧ FnOk P w K mg base (L2.CX P w) 13 (He.ma K (CW K) "tell") fd ["self", "house", "number", "row"] (spTell K) := by
  have C1 : CalM P w K mg base 1 "need_house" ["self", "house"] (spNeedHouse K) := ok_need_house T
  have C2 : Cal P w K mg base 2 "is_from_to" ["thing", "least", "most"] spIsFromTo := ok_is_from_to T.toTx
  have C3 : CalM P w K mg base 12 "led_on" ["self", "house", "rows"] (spLedOn K) := ok_led_on T
  have C4 : Cal P w K mg base 6 "row_of" ["thing"] spRowOf := ok_row_of T.toTx
  have C5 : Cal P w K mg base 3 "need_fit" ["rows", "number", "minute"] (spNeedFit K) := ok_need_fit T
  obtain ⟨g, fd, F⟩ := T.m_tell
  refine ⟨fd, F, F.ok sc_tell (fun vs H Q E h => ?_) (fun cdv A outer s H vs Q E hr h => ?_)⟩
  · obtain ⟨A, S, h, n, r, v, rfl, _⟩ := h; rfl
  · obtain ⟨A, S, hs, n, r, vr, rfl, pr, rok, wat, hh, ok, k⟩ := h
    have nd := sc_tell.nd
    refine ⟨_, pss_cons (ps_expr (pe_calm (pv 0) T.cls C1 (hr.mono (by decide)) (pa_cons (pv 1) pa_nil)))
      (pss_cons (ps_if (pt_not (pt_val (pe_cal C2 (hr.mono (by decide)) (pa_cons (pv 2) (pa_cons pe_int (pa_cons (pe_gi T.i_MOST_NUMBER) pa_nil))))))
          (pss_one (ps_raise rfl (takes_of rfl rfl rfl rfl) (pmk_own PySem.F.excBase_IndexError T.x_NoNumber.ex T.x_NoNumber.g T.x_NoNumber.kp (raises_own T.x_NoNumber.sb T.x_NoNumber.ty) rfl))) pss_nil)
      (pss_cons (ps_set (i := 4) nd rfl (.inl rfl) (pe_cal C4 (hr.mono (by decide)) (pa_cons (pv 3) pa_nil)))
      (pss_cons (ps_set (i := 5) nd rfl (.inl rfl) (pe_dget hr.u1 (pe_fld (pv 0) rfl) (pv 1) (fun _ _ => rfl)))
      (pss_cons (ps_if (pt_cmp (pc_din hr.u1 (pv 2) (pv 5))) (pss_one (ps_raise rfl (takes_of rfl rfl rfl rfl) (pmk_own PySem.F.excBase_ValueError T.x_Taken.ex T.x_Taken.g T.x_Taken.kp (raises_own T.x_Taken.sb T.x_Taken.ty) rfl))) pss_nil)
      (pss_cons (ps_if (pt_cmpR op_ge (pe_callB call_lenRd rfl T.n_len PySem.boot_len (pa_cons (pv 5) pa_nil)) (pe_gi T.i_MOST_ROWS) (nomark _)) (pss_one ps_never) pss_nil)
      (pss_cons (ps_expr (pe_calS C5 (hr.mono (by decide)) (takes_of rfl rfl rfl rfl) (pa_cons (pv 5) (pa_cons (pv 2) (pa_cons (pe_ix ix_tup (pv 4) pe_int (fun _ _ => rfl)) pa_nil)))))
      (pss_cons (ps_set (i := 6) nd rfl (.inl rfl) (pe_callTy call_dictD rfl T.n_dict (by decide +kernel) (pa_cons (pv 5) pa_nil)))
      (pss_cons (ps_dput hr.u1 (pv 6) (pv 2) (pv 4) rfl)
      (pss_one (ps_ret (pe_calm (pv 0) T.cls C3 hr (pa_cons (pv 1) (pa_cons (pe_lk (pv 6)) pa_nil))))))))))))), ?_⟩
    have e0 : ∀ H1, EvV (tVar 0) (start ["self", "house", "number", "row", "fresh", "rows", "more"] [.ref A.p, .str hs, .int n, vr]) H1 (.ref A.p) := fun H1 => ev_var rfl
    have e1 : ∀ H1, EvD (tVar 1) (start ["self", "house", "number", "row", "fresh", "rows", "more"] [.ref A.p, .str hs, .int n, vr]) H1 (.str hs) := fun H1 => ed_var rfl (pt_str.mpr rfl)
    have e2 : ∀ H1, EvD (tVar 2) (start ["self", "house", "number", "row", "fresh", "rows", "more"] [.ref A.p, .str hs, .int n, vr]) H1 (.int n) := fun H1 => ed_var rfl (pt_int.mpr rfl)
    refine q_drop (ed_needHouse wat (e0 H) hh (e1 H)) fun H1 k1 => ?_
    have hcond := eb_not (eb_B (ed_call (E := E0) (R := fun ds z => ∃ d a b, ds = [d, .int a, .int b] ∧ z = .bool (isFromTo d a b)) (ea_cons (e2 H1) (ea_cons ed_int (ea_one ed_int))) ⟨_, 0, 999, rfl, rfl⟩))
    by_cases hbig : 999 < n
    · refine q_when (b := true) (hcond.to (by simp only [isFromTo]; rw [decide_eq_false (show ¬ n ≤ 999 by omega)]; simp)) (fun _ H2 k2 => ?_) (fun z => by cases z)
      rcases k with ⟨_, h2, _⟩ | ⟨_, k⟩ | ⟨_, h2, _⟩ | ⟨_, h2, _⟩
      · omega
      · exact k H2 (k1.trans k2)
      · omega
      · omega
    · have hrg : 0 ≤ n ∧ n ≤ 999 := by
        rcases k with ⟨h1, h2, _⟩ | ⟨h1, _⟩ | ⟨h1, h2, _⟩ | ⟨h1, h2, _⟩
        · exact ⟨h1, h2⟩
        · omega
        · exact ⟨h1, h2⟩
        · exact ⟨h1, h2⟩
      refine q_when (b := false) (hcond.to (by simp only [isFromTo]; rw [decide_eq_true hrg.1, decide_eq_true hrg.2]; rfl)) (fun z => by cases z) (fun _ H2 k2 => ?_)
      have s2 := k1.trans k2
      have efr : EvD (tCall spRowOf [] E0 (tCons (tVar 3) tNil)) (start ["self", "house", "number", "row", "fresh", "rows", "more"] [.ref A.p, .str hs, .int n, vr]) H2 (rowD r) := by
        rcases pr with p | p
        · exact ed_call (ea_one (ed_var rfl (p.keep s2))) ⟨r, .inl rfl, rok, rfl⟩
        · exact ed_call (ea_one (ed_var rfl (p.keep s2))) ⟨r, .inr rfl, rok, rfl⟩
      refine q_set efr fun vf H3 k3 pf => ?_
      have wat3 := wat.same (s2.trans k3)
      obtain ⟨dx, ka, pks, cks, kvs, i⟩ := id wat3
      obtain ⟨od, b, r', c, a1, a2, a3, a4, a5⟩ := i.kept.house hh
      refine q_setV (v := .ref c) (ev_dgetS (i.kept_at T.cls T.a_kept (ev_var rfl)) (ed_var rfl (pt_str.mpr rfl)) a1 a4) fun H4 k4 => ?_
      have s4 := (s2.trans k3).trans k4
      have a5' := a5.keep k4.fz
      have hlen := (ok.of (h := hs)).len
      by_cases hin : ∃ r', aget (ofH S.kk hs) n = some r'
      · refine q_when (b := true) ((eb_B (ed_rowIn (ed_var rfl (pt_int.mpr rfl)) (ev_var rfl) a5')).to (by obtain ⟨r', e⟩ := hin; rw [e]; rfl)) (fun _ H5 k5 => ?_) (fun z => by cases z)
        rcases k with ⟨_, _, h3, _⟩ | ⟨h1, _⟩ | ⟨_, _, _, k⟩ | ⟨_, _, h3, _⟩
        · obtain ⟨r', e⟩ := hin
          rw [h3] at e; cases e
        · omega
        · exact k H5 (s4.trans k5)
        · obtain ⟨r', e⟩ := hin
          rw [h3] at e; cases e
      · have hnone : aget (ofH S.kk hs) n = none := by
          cases e : aget (ofH S.kk hs) n with
          | none => rfl
          | some r' => exact (hin ⟨r', e⟩).elim
        refine q_when (b := false) ((eb_B (ed_rowIn (ed_var rfl (pt_int.mpr rfl)) (ev_var rfl) a5')).to (by rw [hnone]; rfl)) (fun z => by cases z) (fun _ H5 k5 => ?_)
        refine q_when (b := false) ((eb_T (ed_op (ed_lenR (ev_var rfl) (a5'.keep k5.fz)) ed_int rd_ib)).to (decide_eq_false (by omega))) (fun z => by cases z) (fun _ H6 k6 => ?_)
        have s6 := (s4.trans k5).trans k6
        have k36 := (k4.trans k5).trans k6
        have a6 := (a5'.keep k5.fz).keep k6.fz
        refine ⟨_, rfl, _, rfl, EvD.run (d := .int r.m) (ed_op (r := rIxT K) (ed_var rfl (pf.keep k36)) ed_int (rd_ixT (d := .int r.m) rfl)) fun vm H7 k7 pm => ?_⟩
        cases pt_int.mp pm
        refine ⟨c, ofH S.kk hs, n, r.m, rfl, a6.keep k7.fz, by omega, ?_⟩
        have s7 := s6.trans k7
        rcases k with ⟨_, _, _, hfit, ok', hpl, tb, k⟩ | ⟨h1, _⟩ | ⟨_, _, h3, _⟩ | ⟨_, _, _, hlate, k⟩
        · refine .inl ⟨hfit, fun H8 k8 => ?_⟩
          have s8 := s7.trans k8
          have a8 := (a6.keep k7.fz).keep k8.fz
          have pf8 := pf.keep ((k36.trans k7).trans k8)
          obtain ⟨odr, kr, e3, rs⟩ := a8
          refine ⟨_, rfl, c, kr, rfl, .inr ⟨odr, e3⟩, fun d hd => ?_⟩
          have hdH : H d = none := s8.nn d hd
          have wat8 := wat.same s8
          refine ⟨_, rfl, _, rfl, _, rfl, d, _, rfl, DPut.k (k := .inl n) upd_same (by rw [rs.length]; exact sizes1 (by omega)), ?_⟩
          have kpA := (s8.trans (same_new (o := .dK kr) hd)).kp (N := A.N)
          have kpB := kpA.mut0 (o := .dK (putK kr (.inl n) vf)) hdH upd_same True.intro
          have ndn : ∀ a, A.N a → ¬ a = d := fun a ha z => wat8.nok.free hd (z ▸ ha)
          have w5 : ∀ {o : HO} {H9 : Hp} {u : HO}, WatchAt K H9 A S → H9 d = some u → Mo u → WatchAt K (upd H9 d o) A S := fun {o H9 u} w hu mo => w.far (N := (· = d)) (Kp.refl.mut rfl hu mo) (nok1 hu mo) ndn
          have wA := wat8.same (same_new (o := .dK kr) hd)
          have wB := w5 (o := .dK (putK kr (.inl n) vf)) wA upd_same True.intro
          obtain ⟨dx5, _, _, _, _, i5⟩ := id wB
          refine ⟨_, rfl, A.p, dx5, _, rfl, i5.ins, rfl, _, rfl, _, rfl, d, _, rfl, upd_same, True.intro, fun od2 => ?_⟩
          have wC := w5 (o := .frz od2 (.dK (putK kr (.inl n) vf))) wB upd_same True.intro
          have kpC := kpB.mut0 (o := .frz od2 (.dK (putK kr (.inl n) vf))) hdH upd_same True.intro
          have fzC : Fz _ _ := ((same_new (o := .dK kr) hd).fz.trans (Fz.mo (u := .dK kr) (o := .dK (putK kr (.inl n) vf)) upd_same True.intro)).trans (Fz.mo (u := .dK (putK kr (.inl n) vf)) (o := .frz od2 (.dK (putK kr (.inl n) vf))) upd_same True.intro)
          have nl := noL_row rok.w
          exact ⟨A, S, hs, d, ofH S.kk hs ++ [(n, r)], rfl, wC, hh, ⟨od2, _, upd_same, (rs.put hnone pf8 nl).keep fzC⟩, ok', hpl, kpC.tb _ tb, fun v H' c' kp' hc' w' => k v H' c' (kpC.trans kp') (kpC.nn _ hc') w'⟩
        · omega
        · exact (hin h3).elim
        · exact .inr ⟨hlate, fun d H8 k8 => k d H8 (s7.trans k8)⟩
theorem ok_tell (T : Tw K mg w base) : CalM P w K mg base 13 "tell" ["self", "house", "number", "row"] (spTell K) := by
  obtain ⟨fd, F, G⟩ := okF_tell (P := P) (base := base) T
  exact ⟨(T.m_tell).1, ⟨fd, G, F.bindsN fun _ _ _ _ _ _ us hl => match us, hl with | [_, _, _, _], _ => rfl⟩⟩
end
end Ro
namespace Ro
open PySem PySem.Spec PyProof.Rows L2 PySem.W
variable [TabsC]
structure TriOk (lag low high : Int) : Prop where
  l0 : 0 ≤ lag
  l1 : lag ≤ 60
  a : -1440 ≤ low
  b : low ≤ 1200
  c : low ≤ high
  d : high ≤ low + 240
abbrev WS.new (lag low high : Int) : WS := ⟨lag, low, high, ([], []), [], [], []⟩
def spInit (K : PySem.W.Frag) : Sp := fun vs H Q _ => ∃ (x dx : Addr) (lag low high : Int), vs = [.ref x, .int lag, .int low, .int high] ∧ H x = some (.ins (CW K) dx []) ∧ TriOk lag low high ∧
  ∀ H' pl cl tl, Kp (· = x) H H' → H pl = none → H cl = none → H tl = none → WatchAt K H' ⟨x, pl, cl, tl⟩ (.new lag low high) → Q .non H'
section
variable {K : PySem.W.Frag} {σ : L2.St} {H : Hp} {to tv : TE} {D : Ends} {tz : TS} {x dx C : Addr} {fs : List (Str × V)} {f : Str} {v : V}
theorem q_fldI (h : EvV tv σ H v) (ho : ∀ H1, EvV to σ H1 (.ref x)) (e : H x = some (.ins C dx fs)) (c : Cls K C) (na : NoAttr K C f) (hl : fs.length < 1000)
    (k : ∀ H1, Kp (· = x) H H1 → H1 x = some (.ins C dx (putF f v fs)) → tz D σ H1) : tSeq (sFld K to tv f) tz D σ H :=
  h H (Same.refl H) _ fun H1 k1 => ho H1 H1 (Same.refl H1) _ fun H2 k2 => ⟨x, C, dx, fs, rfl, (k1.trans k2) _ _ e, c, na, hl, k _ ((k1.trans k2).kp.mut rfl ((k1.trans k2) _ _ e) True.intro) upd_same⟩
theorem q_fldL (ho : ∀ H1, EvV to σ H1 (.ref x)) (e : H x = some (.ins C dx fs)) (c : Cls K C) (na : NoAttr K C f) (hl : fs.length < 1000)
    (k : ∀ p H1, H p = none → Kp (· = x) H H1 → H1 p = some (.lst []) → H1 x = some (.ins C dx (putF f (.ref p) fs)) → tz D σ H1) : tSeq (sFld K to (tLst tNil) f) tz D σ H :=
  ⟨by show 0 ≤ sizeLine; decide, fun p hp => ho _ _ (Same.refl _) _ fun H2 k2 => by
    have s := (same_new (o := .lst []) hp).trans k2
    have ne : p ≠ x := fun z => by rw [z, e] at hp; cases hp
    exact ⟨x, C, dx, fs, rfl, s _ _ e, c, na, hl, k p _ hp (s.kp.mut rfl (s _ _ e) True.intro) (by rw [upd_ne ne]; exact k2 _ _ upd_same) upd_same⟩⟩
end
section
variable {P : Program} {w : World} {K : PySem.W.Frag} {mg : Str → Option Value} {base : Heap}
theorem sc_init : FnScope ["self", "lag", "low", "high"] ["self", "lag", "low", "high"] (defScope (sM 0)) := ⟨rfl, rfl, rfl, by decide +kernel, rfl, by decide +kernel, by decide +kernel⟩
theorem okF_init (T : Tw K mg w base) : ∃ fd, FunD K "__init__" "Watch.__init__" (defArgs (sM 0)) (defBody (sM 0)) (defScope (sM 0)) [.int 0, .int 0, .int 0] [] (He.ma K (CW K) "__init__") fd ∧ FnOk P w K mg base (L2.CX P w) 4 (He.ma K (CW K) "__init__") fd ["self", "lag", "low", "high"] (spInit K) := by
  have C1 : Cal P w K mg base 3 "is_stretch" ["lag", "low", "high"] spIsStretch := ok_is_stretch T.toTx
  obtain ⟨g, fd, F⟩ := T.m_init
  refine ⟨fd, F, F.ok sc_init (fun vs H Q E h => ?_) (fun cdv A outer s H vs Q E hr h => ?_)⟩
  · obtain ⟨x, dx, lag, low, high, rfl, _⟩ := h; rfl
  · obtain ⟨x, dx, lag, low, high, rfl, hx, tri, k⟩ := h
    refine ⟨_, pss_cons (ps_if (pt_not (pt_val (pe_cal C1 hr (pa_cons (pv 1) (pa_cons (pv 2) (pa_cons (pv 3) pa_nil)))))) (pss_one ps_never) pss_nil)
      (pss_cons (ps_fld (pv 0) (pv 1) rfl)
      (pss_cons (ps_fld (pv 0) (pv 2) rfl)
      (pss_cons (ps_fld (pv 0) (pv 3) rfl)
      (pss_cons (ps_fld (pv 0) (pe_lk (pe_disp (pps_cons pe_str (pe_lk pe_dnewK) (pps_cons pe_str (pe_lk pe_dnewK) pps_nil)) rfl rfl (by simp) (by decide))) rfl)
      (pss_cons (ps_fld (pv 0) (pe_lst pa_nil) rfl)
      (pss_cons (ps_fld (pv 0) (pe_lst pa_nil) rfl)
      (pss_one (ps_fld (pv 0) pe_dnewK rfl)))))))), ?_⟩
    have e0 : ∀ H1, EvV (tVar 0) (start ["self", "lag", "low", "high"] [.ref x, .int lag, .int low, .int high]) H1 (.ref x) := fun H1 => ev_var rfl
    refine q_when (b := false) ((eb_not (eb_B (ed_call (ea_cons (ed_var rfl (pt_int.mpr rfl)) (ea_cons (ed_var rfl (pt_int.mpr rfl)) (ea_one (ed_var rfl (pt_int.mpr rfl))))) ⟨lag, low, high, rfl, tri.l0, tri.l1, tri.a, tri.b, tri.c, tri.d, rfl⟩))).to rfl) (fun z => by cases z) (fun _ H1 k1 => ?_)
    have hx1 := k1 _ _ hx
    refine q_fldI (v := .int lag) (ev_var rfl) e0 hx1 T.cls T.a_lag (by show 0 < 1000; omega) fun H2 kp2 hx2 => ?_
    refine q_fldI (v := .int low) (ev_var rfl) e0 hx2 T.cls T.a_low (by show 1 < 1000; omega) fun H3 kp3 hx3 => ?_
    refine q_fldI (v := .int high) (ev_var rfl) e0 hx3 T.cls T.a_high (by show 2 < 1000; omega) fun H4 kp4 hx4 => ?_
    have kpA : Kp (· = x) H H4 := ((k1.kp.trans kp2).trans kp3).trans kp4
    intro ka hka
    have nka : x ≠ ka := fun z => by rw [← z, hx4] at hka; cases hka
    intro rb hrb
    have hb0 : H4 rb = none := (same_new hka).nn rb hrb
    refine ⟨rb, _, rfl, upd_same, True.intro, fun odb => ?_⟩
    intro rr hrr
    have n1 : rb ≠ ka := fun z => by rw [z, upd_same] at hrb; cases hrb
    have n2 : rr ≠ rb := fun z => by rw [z, upd_same] at hrr; cases hrr
    have n3 : rr ≠ ka := fun z => by rw [z, upd_ne n1.symm, upd_ne n1.symm, upd_same] at hrr; cases hrr
    have hr0 : H4 rr = none := by rw [upd_ne n2, upd_ne n2, upd_ne n3] at hrr; exact hrr
    refine ⟨rr, _, rfl, upd_same, True.intro, fun odr => ?_⟩
    refine ⟨?_, kvKept rb rr, rfl, by show 2 ≤ 15; omega, ?_⟩
    · rw [upd_ne n3.symm, upd_ne n3.symm, upd_ne n1.symm, upd_ne n1.symm, upd_same]
    refine ⟨ka, _, rfl, upd_same, True.intro, fun odk => ?_⟩
    have nb : x ≠ rb := fun z => by rw [← z, hx4] at hb0; cases hb0
    have nr : x ≠ rr := fun z => by rw [← z, hx4] at hr0; cases hr0
    have q1 : Kp (· = x) H4 (upd H4 ka (.dK [])) := Kp.refl.new hka
    have q2 := q1.new (o := .dK []) hrb
    have q3 := q2.mut0 (u := .dK []) (o := .frz odb (.dK [])) hb0 upd_same True.intro
    have q4 := q3.new (o := .dK []) hrr
    have q5 := q4.mut0 (u := .dK []) (o := .frz odr (.dK [])) hr0 upd_same True.intro
    have q6 := q5.mut0 (u := .dK []) (o := .dK (mergeK [] (kvKept rb rr))) hka (by rw [upd_ne n3.symm, upd_ne n3.symm, upd_ne n1.symm, upd_ne n1.symm, upd_same]) True.intro
    have q7 := q6.mut0 (u := .dK (mergeK [] (kvKept rb rr))) (o := .frz odk (.dK (mergeK [] (kvKept rb rr)))) hka upd_same True.intro
    generalize hH5 : upd (upd (upd (upd (upd (upd (upd H4 ka (.dK [])) rb (.dK [])) rb (.frz odb (.dK []))) rr (.dK [])) rr (.frz odr (.dK []))) ka (.dK (mergeK [] (kvKept rb rr)))) ka (.frz odk (.dK (mergeK [] (kvKept rb rr)))) = H5 at q7 ⊢
    have x5 : H5 x = some (.ins (CW K) dx [("lag", .int lag), ("low", .int low), ("high", .int high)]) := by
      rw [← hH5, upd_ne nka, upd_ne nka, upd_ne nr, upd_ne nr, upd_ne nb, upd_ne nb, upd_ne nka]
      exact hx4
    have ka5 : H5 ka = some (.frz odk (.dK (kvKept rb rr))) := by rw [← hH5]; exact upd_same
    have rb5 : H5 rb = some (.frz odb (.dK [])) := by
      rw [← hH5, upd_ne n1, upd_ne n1, upd_ne n2.symm, upd_ne n2.symm]
      exact upd_same
    have rr5 : H5 rr = some (.frz odr (.dK [])) := by
      rw [← hH5, upd_ne n3, upd_ne n3]
      exact upd_same
    have kept5 : KeptAt H5 ka ([], []) := ⟨odk, rb, rr, ka5, ⟨odb, [], rb5, .nil⟩, ⟨odr, [], rr5, .nil⟩⟩
    have kp5 := kpA.trans q7
    refine ⟨_, rfl, x, CW K, dx, _, rfl, x5, T.cls, T.a_kept, by show 3 < 1000; omega, ?_⟩
    have kp6 := kp5.mut (o := .ins (CW K) dx (putF "kept" (.ref ka) [("lag", .int lag), ("low", .int low), ("high", .int high)])) rfl x5 True.intro
    have kept6 := kept5.keep (Fz.mo (o := .ins (CW K) dx (putF "kept" (.ref ka) [("lag", .int lag), ("low", .int low), ("high", .int high)])) x5 True.intro)
    generalize hH6 : upd H5 x (.ins (CW K) dx (putF "kept" (.ref ka) [("lag", .int lag), ("low", .int low), ("high", .int high)])) = H6 at kp6 kept6
    have x6 : H6 x = some (.ins (CW K) dx (putF "kept" (.ref ka) [("lag", .int lag), ("low", .int low), ("high", .int high)])) := by rw [← hH6]; exact upd_same
    show tSeq _ _ _ _ H6
    have nx : ∀ {H9 H10 : Hp} {o : HO}, H9 x = some o → Mo o → Kp (· = x) H9 H10 → Fz H9 H10 := fun e m kk => kk.fz (nok1 e m)
    refine q_fldL e0 x6 T.cls T.a_past (by show 4 < 1000; omega) fun pl H7 hpl kp7 epl x7 => ?_
    refine q_fldL e0 x7 T.cls T.a_coming (by show 5 < 1000; omega) fun cl H8 hcl kp8 ecl x8 => ?_
    intro tl htl
    have x9 := (same_new (o := .dK []) htl) _ _ x8
    have npx : ¬ pl = x := fun z => by rw [z, x7] at epl; cases epl
    have ncx : ¬ cl = x := fun z => by rw [z, x8] at ecl; cases ecl
    have ntx : ¬ tl = x := fun z => by rw [z, x8] at htl; cases htl
    refine ⟨_, rfl, x, CW K, dx, _, rfl, x9, T.cls, T.a_told, by show 6 < 1000; omega, ?_⟩
    have kp9 : Kp (· = x) H8 (upd H8 tl (.dK [])) := Kp.refl.new htl
    have kp10 := kp9.mut (o := .ins (CW K) dx (fsW lag low high ka pl cl tl)) rfl x9 True.intro
    have kept10 := ((kept6.keep (nx x6 True.intro kp7)).keep (nx x7 True.intro kp8)).keep (nx x8 True.intro kp10)
    have epl8 := kp8.ob _ _ epl (fun ps z => by cases z) npx
    have npt : pl ≠ tl := fun z => by rw [← z, epl8] at htl; cases htl
    have nct : cl ≠ tl := fun z => by rw [← z, ecl] at htl; cases htl
    have npc : pl ≠ cl := fun z => by rw [← z, epl] at hcl; cases hcl
    have pl0 : H pl = none := kp6.nn pl hpl
    have cl0 : H cl = none := (kp6.trans kp7).nn cl hcl
    have tl0 : H tl = none := ((kp6.trans kp7).trans kp8).nn tl htl
    exact k _ pl cl tl (((kp6.trans kp7).trans kp8).trans kp10) pl0 cl0 tl0 ⟨dx, ka, [], [], [], upd_same, kept10, by rw [upd_ne npx, upd_ne npt]; exact epl8, .nil, by rw [upd_ne ncx, upd_ne nct]; exact ecl, .nil, by show upd _ x _ tl = _; rw [upd_ne ntx, upd_same], .nil, npc⟩
theorem ok_init (T : Tw K mg w base) : CalM P w K mg base 4 "__init__" ["self", "lag", "low", "high"] (spInit K) := by
  obtain ⟨fd, F, G⟩ := okF_init (P := P) (base := base) T
  exact ⟨(T.m_init).1, ⟨fd, G, bindsF F (by decide) fun _ _ _ _ _ _ _ us its hl hi => match us, hl, its, hi with | [_, _, _, _], _, [_, _, _], _ => ⟨_, rfl, rfl⟩⟩⟩
end
end Ro
namespace Ro
open PySem PySem.Spec PyProof.Rows L2 PySem.W
variable [TabsC]
/-- the same rows, whatever their order -/
def MapEq (k l : KD) : Prop := k.length = l.length ∧ ∀ q ∈ k, aget l q.1 = some q.2
theorem eqL_of {K : PySem.W.Frag} {H : Hp} {d : PyData} {x y : V} (h1 : Pt H d x) (h2 : Pt H d y) (hd : d.depth ≤ 20) : EqL K H x y := ⟨d, h1.dp, h2.dp, h1.plain, hd⟩
theorem depth_row {r : Row} (h : r.Ok) : (rowD r).depth ≤ 20 := by
  rcases h.w.flat with ⟨x, e, _⟩ | ⟨o, e⟩ <;> simp [rowD, PyData.depth, PyData.depthAll, e]
theorem rows_eq {K : PySem.W.Frag} {H : Hp} {b c : Addr} {k l : KD} (h1 : KrAt H b k) (h2 : KrAt H c l) (e : MapEq k l) (ok : ∀ q ∈ k, q.2.Ok) : EqDi H (EqL K H) (.ref b) (.ref c) := by
  obtain ⟨od, kvs, a1, r1⟩ := h1
  obtain ⟨od', lvs, a2, r2⟩ := h2
  refine ⟨b, c, kvs, lvs, rfl, rfl, .inr ⟨od, a1⟩, .inr ⟨od', a2⟩, by rw [r1.length, r2.length]; exact e.1, fun p hp => ?_⟩
  obtain ⟨q, hq, e1, p1⟩ := r1.at_ hp
  rcases r2.get q.1 with ⟨z, _⟩ | ⟨r, v, z1, z2, pv, _⟩
  · rw [e.2 q hq] at z; cases z
  · rw [e.2 q hq] at z1
    cases z1
    exact ⟨v, by rw [e1]; exact z2, eqL_of p1 pv (depth_row (ok q hq))⟩
theorem kept_eq {K : PySem.W.Frag} {H : Hp} {a b : Addr} {kk ll : KD × KD} (h1 : KeptAt H a kk) (h2 : KeptAt H b ll) (e1 : MapEq kk.1 ll.1) (e2 : MapEq kk.2 ll.2) (ok : KK kk) : EqKept K H (.ref a) (.ref b) := by
  obtain ⟨od, b1, r1, x1, x2, x3⟩ := h1
  obtain ⟨od', b2, r2, y1, y2, y3⟩ := h2
  refine ⟨a, b, kvKept b1 r1, kvKept b2 r2, rfl, rfl, .inr ⟨od, x1⟩, .inr ⟨od', y1⟩, rfl, fun p hp => ?_⟩
  rcases List.mem_cons.mp hp with rfl | hp
  · exact ⟨_, rfl, rows_eq x2 y2 e1 ok.b.ok⟩
  · rw [List.mem_singleton.mp hp]
    exact ⟨_, rfl, rows_eq x3 y3 e2 ok.r.ok⟩
/-- two watches of the same lag, stretch and rows -/
def EqWat (K : PySem.W.Frag) (a b : Addr) (H : Hp) : Prop := ∃ (A B : WA) (S U : WS), a = A.p ∧ b = B.p ∧ WatchAt K H A S ∧ WatchAt K H B U ∧ S.lag = U.lag ∧ S.low = U.low ∧ S.high = U.high ∧ MapEq S.kk.1 U.kk.1 ∧ MapEq S.kk.2 U.kk.2 ∧ KK S.kk
/-- Tw, and what isinstance asks of a Watch -/
structure Tv (K : PySem.W.Frag) (mg : Str → Option Value) (w : World) (base : Heap) : Prop extends Tw K mg w base where
  cC : findIn K (.ref (CW K)) "__class__" = some (some (.builtin "object.__class__"))
  cG : specialIn K (.builtin "object.__class__") "__get__" = some (some (.builtin "getset_descriptor.__get__"))
  cT : takesIn K (.builtin "object.__class__") = some true
  cM : mroIn K (CW K) (.type "object") = some true
section
variable {P : Program} {w : World} {K : PySem.W.Frag} {mg : Str → Option Value} {base : Heap}
theorem sc_eq : FnScope ["self", "other", "mine"] ["self", "other"] (defScope (sM 2)) := ⟨rfl, rfl, rfl, by decide +kernel, rfl, by decide +kernel, by decide +kernel⟩
theorem okF_eq (T : Tv K mg w base) : ∃ fd, FunD K "__eq__" "Watch.__eq__" (defArgs (sM 2)) (defBody (sM 2)) (defScope (sM 2)) [] [] (He.ma K (CW K) "__eq__") fd ∧ FnOk P w K mg base (L2.CX P w) 1 (He.ma K (CW K) "__eq__") fd ["self", "other"] (spEq (EqWat K)) := by
  obtain ⟨g, fd, F⟩ := T.m_eq
  refine ⟨fd, F, F.ok sc_eq (fun vs H Q E h => ?_) (fun cdv A outer s H vs Q E hr h => ?_)⟩
  · obtain ⟨a, b, rfl, _⟩ := h; rfl
  · obtain ⟨a, b, rfl, ⟨A, B, S, U, rfl, rfl, ⟨dx, ka, pks, cks, kvs, i⟩, ⟨dy, kb, pls, cls, lvs, j⟩, e1, e2, e3, m1, m2, ok⟩, k⟩ := h
    have nd := sc_eq.nd
    refine ⟨_, pss_cons (ps_if (pt_not (pt_val (pe_callB call_isi rfl T.n_isinstance (by decide +kernel) (pa_cons (pv 1) (pa_cons (pe_gr T.gW) pa_nil))))) (pss_one (ps_ret pe_bl)) pss_nil)
      (pss_cons (ps_set (i := 2) nd rfl (.inl rfl) (pe_tup (pa_cons (pe_fld (pv 0) rfl) (pa_cons (pe_fld (pv 0) rfl) (pa_cons (pe_fld (pv 0) rfl) (pa_cons (pe_fld (pv 0) rfl) pa_nil))))))
      (pss_one (ps_ret (pe_cmpR (op_eqMine hr.units) (pv 2) (pe_tup (pa_cons (pe_fld (pv 1) rfl) (pa_cons (pe_fld (pv 1) rfl) (pa_cons (pe_fld (pv 1) rfl) (pa_cons (pe_fld (pv 1) rfl) pa_nil))))) rfl)))), ?_⟩
    refine ⟨_, rfl, _, _, _, _, true, rfl, .own _, .base (.ins j.ins T.cls T.cC T.cG T.cT T.cM), ?_, ?_⟩
    · unfold PySem.W.kitOne
      simp
    refine ⟨true, rfl, ?_⟩
    dsimp only
    rw [if_neg (by decide)]
    show tSeq _ _ _ _ H
    refine ⟨_, rfl, A.p, CW K, dx, _, _, rfl, i.ins, T.cls, T.a_lag, rfl, _, rfl, A.p, CW K, dx, _, _, rfl, i.ins, T.cls, T.a_low, rfl, _, rfl, A.p, CW K, dx, _, _, rfl, i.ins, T.cls, T.a_high, rfl, _, rfl, A.p, CW K, dx, _, _, rfl, i.ins, T.cls, T.a_kept, rfl, by show 4 ≤ sizeLine; decide, fun m hm => ?_⟩
    have s1 := same_new (o := .tup [.int S.lag, .int S.low, .int S.high, .ref ka]) hm
    have j1 := (j.same s1).ins
    refine ⟨_, rfl, _, rfl, B.p, CW K, dy, _, _, rfl, j1, T.cls, T.a_lag, rfl, _, rfl, B.p, CW K, dy, _, _, rfl, j1, T.cls, T.a_low, rfl, _, rfl, B.p, CW K, dy, _, _, rfl, j1, T.cls, T.a_high, rfl, _, rfl, B.p, CW K, dy, _, _, rfl, j1, T.cls, T.a_kept, rfl, by show 4 ≤ sizeLine; decide, fun n hn => ?_⟩
    have s2 := same_new (o := .tup [.int U.lag, .int U.low, .int U.high, .ref kb]) hn
    have f := (s1.trans s2).fz
    refine ⟨m, n, S.lag, S.low, S.high, .ref ka, .ref kb, rfl, rfl, SqT.of (s2 _ _ upd_same), SqT.of (by rw [e1, e2, e3]; exact upd_same), kept_eq (i.kept.keep f) (j.kept.keep f) m1 m2 ok, k _ ?_⟩
    exact (Ext.upd hm).trans (Ext.upd hn)
theorem ok_eq (T : Tv K mg w base) : CalM P w K mg base 1 "__eq__" ["self", "other"] (spEq (EqWat K)) := by
  obtain ⟨fd, F, G⟩ := okF_eq (P := P) (base := base) T
  exact ⟨(T.m_eq).1, ⟨fd, G, F.bindsN fun _ _ _ _ _ _ us hl => match us, hl with | [_, _], _ => rfl⟩⟩
end
end Ro
namespace Ro
open PySem PySem.Spec PyProof.Rows L2 PySem.W
variable [TabsC]
/-- Watch(..), said of the new one -/
def spTwin (K : PySem.W.Frag) : Sp := fun vs H Q _ => ∃ (A : WA) (S : WS), vs = [.ref A.p] ∧ WatchAt K H A S ∧ TriOk S.lag S.low S.high ∧
  ∀ (B : WA) H', (∀ a, B.N a → H a = none) → Same H H' → WatchAt K H' B S → Q (.ref B.p) H'
section
variable {K : PySem.W.Frag} {H H' : Hp} {B : WA} {S : WS} {dx ka c : Addr} {pks cks ps : List Addr} {kvs lvs : List (L2.Key × V)}
theorem WIn.putPast {past : List (KD × KD)} (w : WIn K H B S dx ka pks cks kvs) (hc : H c = some (.lst (ps.map .ref))) (hp : Paired (KeptAt H) ps past) (nc : ¬ B.N c) : WIn K (upd H B.p (.ins (CW K) dx (fsW S.lag S.low S.high ka c B.cl B.tl))) { B with pl := c } { S with past := past } dx ka ps cks kvs := by
  have f : Fz H (upd H B.p (.ins (CW K) dx (fsW S.lag S.low S.high ka c B.cl B.tl))) := Fz.mo w.ins True.intro
  obtain ⟨n1, n2, n3, n4, n5⟩ := w.nes
  exact ⟨upd_same, w.kept.keep f, by show upd H B.p _ c = _; rw [upd_ne (fun z => nc (.inl z))]; exact hc, past_keep hp f, by rw [upd_ne n2.symm]; exact w.cl, past_keep w.coming f, by rw [upd_ne n3.symm]; exact w.tl, w.told.keep f.tk, fun z => nc (.inr (.inr (.inl z)))⟩
theorem WIn.putComing {past : List (KD × KD)} (w : WIn K H B S dx ka pks cks kvs) (hc : H c = some (.lst (ps.map .ref))) (hp : Paired (KeptAt H) ps past) (nc : ¬ B.N c) : WIn K (upd H B.p (.ins (CW K) dx (fsW S.lag S.low S.high ka B.pl c B.tl))) { B with cl := c } { S with coming := past } dx ka pks ps kvs := by
  have f : Fz H (upd H B.p (.ins (CW K) dx (fsW S.lag S.low S.high ka B.pl c B.tl))) := Fz.mo w.ins True.intro
  obtain ⟨n1, n2, n3, n4, n5⟩ := w.nes
  exact ⟨upd_same, w.kept.keep f, by rw [upd_ne n1.symm]; exact w.pl, past_keep w.past f, by show upd H B.p _ c = _; rw [upd_ne (fun z => nc (.inl z))]; exact hc, past_keep hp f, by rw [upd_ne n3.symm]; exact w.tl, w.told.keep f.tk, fun z => nc (.inr (.inl z.symm))⟩
theorem WIn.putTold {ns : List Int} (w : WIn K H B S dx ka pks cks kvs) (hc : H c = some (.dK lvs)) (hp : Told H ns lvs) (nc : ¬ B.N c) : WIn K (upd H B.p (.ins (CW K) dx (fsW S.lag S.low S.high ka B.pl B.cl c))) { B with tl := c } { S with told := ns } dx ka pks cks lvs := by
  have f : Fz H (upd H B.p (.ins (CW K) dx (fsW S.lag S.low S.high ka B.pl B.cl c))) := Fz.mo w.ins True.intro
  obtain ⟨n1, n2, n3, n4, n5⟩ := w.nes
  exact ⟨upd_same, w.kept.keep f, by rw [upd_ne n1.symm]; exact w.pl, past_keep w.past f, by rw [upd_ne n2.symm]; exact w.cl, past_keep w.coming f, by show upd H B.p _ c = _; rw [upd_ne (fun z => nc (.inl z))]; exact hc, hp.keep f.tk, w.ne⟩
end
section
variable {P : Program} {w : World} {K : PySem.W.Frag} {mg : Str → Option Value} {base : Heap}
theorem sc_twin : FnScope ["self", "other"] ["self"] (defScope (sM 18)) := ⟨rfl, rfl, rfl, by decide +kernel, rfl, by decide +kernel, by decide +kernel⟩
theorem okF_twin (T : Tv K mg w base) : ∃ fd, FunD K "twin" "Watch.twin" (defArgs (sM 18)) (defBody (sM 18)) (defScope (sM 18)) [] [] (He.ma K (CW K) "twin") fd ∧ FnOk P w K mg base (L2.CX P w) 6 (He.ma K (CW K) "twin") fd ["self"] (spTwin K) := by
  obtain ⟨fdI, FI, GI⟩ := okF_init (P := P) (base := base) T.toTw
  obtain ⟨its, kb⟩ := FI.kbindsD (ps := ["self", "lag", "low", "high"]) 1 ["lag", "low", "high"] (fun us its ws => us ++ ws) (by decide) (fun r1 r2 r3 => r1.append r3) (fun T kV doc pm an cdv ct us its ws h1 h2 h3 => match us, h1, its, h2, ws, h3 with | [_], _, [_, _, _], _, [_, _, _], _ => ⟨_, rfl, rfl⟩)
  obtain ⟨g, fd, F⟩ := T.m_twin
  refine ⟨fd, F, F.ok sc_twin (fun vs H Q E h => ?_) (fun cdv A outer s H vs Q E hr h => ?_)⟩
  · obtain ⟨A, S, rfl, _⟩ := h; rfl
  · obtain ⟨A, S, rfl, ⟨dx, ka, pks, cks, kvs, i⟩, tri, k⟩ := h
    have nd := sc_twin.nd
    refine ⟨_, pss_cons (ps_set (i := 1) nd rfl (.inl rfl) (pe_makeK0 T.mkr GI hr rfl T.gW kb passL (pk_cons (pe_fld (pv 0) rfl) (pk_cons (pe_fld (pv 0) rfl) (pk_cons (pe_fld (pv 0) rfl) pk_nil)))))
      (pss_cons (ps_fld (pv 1) (pe_fld (pv 0) rfl) rfl)
      (pss_cons (ps_fld (pv 1) (pe_callTy call_list_of rfl T.n_list (by decide +kernel) (pa_cons (pe_fld (pv 0) rfl) pa_nil)) rfl)
      (pss_cons (ps_fld (pv 1) (pe_callTy call_list_of rfl T.n_list (by decide +kernel) (pa_cons (pe_fld (pv 0) rfl) pa_nil)) rfl)
      (pss_cons (ps_fld (pv 1) (pe_callTy call_dictD rfl T.n_dict (by decide +kernel) (pa_cons (pe_fld (pv 0) rfl) pa_nil)) rfl)
      (pss_one (ps_ret (pv 1))))))), ?_⟩
    have rd : ∀ {H1 : Hp}, Same H H1 → H1 A.p = some (.ins (CW K) dx (fsW S.lag S.low S.high ka A.pl A.cl A.tl)) := fun s => s _ _ i.ins
    refine ⟨_, rfl, A.p, CW K, dx, _, _, rfl, i.ins, T.cls, T.a_lag, rfl, _, rfl, A.p, CW K, dx, _, _, rfl, i.ins, T.cls, T.a_low, rfl, _, rfl, A.p, CW K, dx, _, _, rfl, i.ins, T.cls, T.a_high, rfl, rfl, rfl, fun x dy hx hdy hne => ?_⟩
    have hdx0 : upd H dy (.own x) x = none := by rw [upd_ne hne.symm]; exact hx
    have sm0 : Same H (upd (upd H dy (.own x)) x (.ins (CW K) dy [])) := (same_new hdy).trans (same_new hdx0)
    refine ⟨x, dy, S.lag, S.low, S.high, rfl, upd_same, tri, fun H1 pl cl tl kp hpl hcl htl wB => ⟨rfl, ?_⟩⟩
    have sm1 : Same H H1 := Kp.same (N := (· = x)) (sm0.kp.trans kp) (fun a ha => (show a = x from ha) ▸ hx)
    have fresh : ∀ {a : Addr}, upd (upd H dy (.own x)) x (.ins (CW K) dy []) a = none → H a = none := fun h => sm0.nn _ h
    obtain ⟨dz, kb0, p0, c0, v0, j⟩ := wB
    have xp : H x = none := hx
    show tSeq _ _ _ _ H1
    have i1 := i.same sm1
    refine ⟨_, rfl, A.p, CW K, dx, _, .ref ka, rfl, i1.ins, T.cls, T.a_kept, rfl, _, rfl, x, CW K, dz, _, rfl, j.ins, T.cls, T.a_kept, by show 7 < 1000; omega, ?_⟩
    have j2 := j.setKept i1.kept
    have sm2 := sm1.mut (o := .ins (CW K) dz (fsW S.lag S.low S.high ka pl cl tl)) xp j.ins True.intro
    generalize hH2 : upd H1 x (.ins (CW K) dz (fsW S.lag S.low S.high ka pl cl tl)) = H2 at sm2
    rw [show (upd H1 (WA.mk x pl cl tl).p (.ins (CW K) dz (fsW (WS.new S.lag S.low S.high).lag (WS.new S.lag S.low S.high).low (WS.new S.lag S.low S.high).high ka (WA.mk x pl cl tl).pl (WA.mk x pl cl tl).cl (WA.mk x pl cl tl).tl))) = H2 from hH2] at j2
    show tSeq _ _ _ _ (upd H1 x (.ins (CW K) dz (fsW S.lag S.low S.high ka pl cl tl)))
    rw [hH2]
    have i2 := i.same sm2
    refine ⟨_, rfl, A.p, CW K, dx, _, .ref A.pl, rfl, i2.ins, T.cls, T.a_past, rfl, A.pl, _, rfl, .inl (SqL.of i2.pl), fun c hc => ⟨_, rfl, x, CW K, dz, _, rfl, (j2.same (same_new hc)).ins, T.cls, T.a_past, by show 7 < 1000; omega, ?_⟩⟩
    have j3 := (j2.same (same_new (o := .lst (pks.map .ref)) hc)).putPast (c := c) (ps := pks) upd_same (past_keep i2.past (same_new hc).fz) (j2.nok.free hc)
    have c0' : H c = none := sm2.nn _ hc
    have sm3 := (sm2.trans (same_new (o := .lst (pks.map V.ref)) hc)).mut (o := .ins (CW K) dz (fsW S.lag S.low S.high ka c cl tl)) xp (j2.same (same_new hc)).ins True.intro
    have hin3 : upd (upd H2 c (.lst (pks.map V.ref))) x (.ins (CW K) dz (fsW S.lag S.low S.high ka c cl tl)) = upd (upd H2 c (.lst (pks.map V.ref))) x (.ins (CW K) dz (fsW S.lag S.low S.high ka c cl tl)) := rfl
    show tSeq _ _ _ _ (upd (upd H2 c (.lst (pks.map V.ref))) x (.ins (CW K) dz (fsW S.lag S.low S.high ka c cl tl)))
    generalize hH3 : upd (upd H2 c (.lst (pks.map V.ref))) x (.ins (CW K) dz (fsW S.lag S.low S.high ka c cl tl)) = H3 at sm3 ⊢
    have j3' : WIn K H3 ⟨x, c, cl, tl⟩ { (WS.new S.lag S.low S.high) with kk := S.kk, past := S.past } dz ka pks c0 v0 := by rw [← hH3]; exact j3
    have i3 := i.same sm3
    refine ⟨_, rfl, A.p, CW K, dx, _, .ref A.cl, rfl, i3.ins, T.cls, T.a_coming, rfl, A.cl, _, rfl, .inl (SqL.of i3.cl), fun e he => ⟨_, rfl, x, CW K, dz, _, rfl, (j3'.same (same_new he)).ins, T.cls, T.a_coming, by show 7 < 1000; omega, ?_⟩⟩
    have j4 := (j3'.same (same_new (o := .lst (cks.map .ref)) he)).putComing (c := e) (ps := cks) upd_same (past_keep i3.coming (same_new he).fz) (j3'.nok.free he)
    have e0' : H e = none := sm3.nn _ he
    have sm4 := (sm3.trans (same_new (o := .lst (cks.map V.ref)) he)).mut (o := .ins (CW K) dz (fsW S.lag S.low S.high ka c e tl)) xp (j3'.same (same_new he)).ins True.intro
    show tSeq _ _ _ _ (upd (upd H3 e (.lst (cks.map V.ref))) x (.ins (CW K) dz (fsW S.lag S.low S.high ka c e tl)))
    generalize hH4 : upd (upd H3 e (.lst (cks.map V.ref))) x (.ins (CW K) dz (fsW S.lag S.low S.high ka c e tl)) = H4 at sm4 ⊢
    have j4' : WIn K H4 ⟨x, c, e, tl⟩ { (WS.new S.lag S.low S.high) with kk := S.kk, past := S.past, coming := S.coming } dz ka pks cks v0 := by rw [← hH4]; exact j4
    have i4 := i.same sm4
    refine ⟨_, rfl, A.p, CW K, dx, _, .ref A.tl, rfl, i4.ins, T.cls, T.a_told, rfl, A.tl, kvs, rfl, .inl i4.tl, fun g hg => ⟨_, rfl, x, CW K, dz, _, rfl, (j4'.same (same_new hg)).ins, T.cls, T.a_told, by show 7 < 1000; omega, ?_⟩⟩
    have j5 := (j4'.same (same_new (o := .dK kvs) hg)).putTold (c := g) (lvs := kvs) upd_same (i4.told.keep (same_new hg).tk) (j4'.nok.free hg)
    have g0' : H g = none := sm4.nn _ hg
    have sm5 := (sm4.trans (same_new (o := .dK kvs) hg)).mut (o := .ins (CW K) dz (fsW S.lag S.low S.high ka c e g)) xp (j4'.same (same_new hg)).ins True.intro
    refine ⟨_, rfl, k ⟨x, c, e, g⟩ _ (fun a ha => ?_) sm5 ⟨_, _, _, _, _, j5⟩⟩
    rcases ha with h | h | h | h
    · exact (show a = x from h) ▸ xp
    · exact (show a = c from h) ▸ c0'
    · exact (show a = e from h) ▸ e0'
    · exact (show a = g from h) ▸ g0'
theorem ok_twin (T : Tv K mg w base) : CalM P w K mg base 6 "twin" ["self"] (spTwin K) := by
  obtain ⟨fd, F, G⟩ := okF_twin (P := P) (base := base) T
  exact ⟨(T.m_twin).1, ⟨fd, G, F.bindsN fun _ _ _ _ _ _ us hl => match us, hl with | [_], _ => rfl⟩⟩
end
end Ro
namespace Ro
open PySem PySem.Spec PyProof.Rows L2 PySem.W
variable [TabsC]
/-! ### the pen: its cells are locked for good -/
structure PenIn (H : Hp) (p : Addr) (m : Nat) (c : Addr) (od : Obj) (cells : List Int) (at_ : Nat) (rest : Int) : Prop where
  le : at_ ≤ m
  nn : 0 ≤ rest
  ls : H p = some (.lst [.ref c, .int (at_ : Nat), .int rest])
  cl : H c = some (.frz od (.lst (cells.map .int)))
  len : cells.length ≤ 1000
def PenAt (H : Hp) (p : Addr) (m : Nat) : Prop := ∃ c od cells at_ rest, PenIn H p m c od cells at_ rest
section
variable {K : PySem.W.Frag} {σ : L2.St} {H H' : Hp} {N M : Addr → Prop} {p c : Addr} {m n : Nat} {od : Obj} {cells : List Int} {at_ : Nat} {rest z j : Int} {te ti : TE} {D : Ends} {tz : TS}
/-- frames, one behind the other: what is changed later is of N or new -/
theorem Kp.step {H1 : Hp} (k : Kp N H H1) (k2 : Kp M H1 H') (h : ∀ a, M a → N a ∨ H a = none) : Kp N H H' := ⟨fun a o e t n => k2.ob a o (k.ob a o e t n) t fun z => (h a z).elim n fun e' => (by rw [e] at e'; cases e'), fun P t => k2.tb P (k.tb P t), fun a n => k.nn a (k2.nn a n)⟩
theorem Kp.far {H1 : Hp} (k : Kp M H H1) (h : ∀ a, M a → N a ∨ H a = none) : Kp N H H1 := Kp.refl.step k h
theorem PenIn.same (i : PenIn H p m c od cells at_ rest) (k : Same H H') : PenIn H' p m c od cells at_ rest := ⟨i.le, i.nn, k _ _ i.ls, k _ _ i.cl, i.len⟩
theorem PenAt.same (h : PenAt H p m) (k : Same H H') : PenAt H' p m := let ⟨c, od, l, a, r, i⟩ := h; ⟨c, od, l, a, r, i.same k⟩
theorem PenAt.le (h : PenAt H p m) (k : m ≤ n) : PenAt H p n := let ⟨c, od, l, a, r, i⟩ := h; ⟨c, od, l, a, r, Nat.le_trans i.le k, i.nn, i.ls, i.cl, i.len⟩
theorem PenAt.nok (h : PenAt H p m) : NOk (· = p) H := let ⟨c, od, l, a, r, i⟩ := h; nok1 i.ls True.intro
theorem PenAt.far (h : PenAt H p m) (k : Kp N H H') (n : NOk N H) (d : ¬ N p) : PenAt H' p m := let ⟨c, od, l, a, r, i⟩ := h; ⟨c, od, l, a, r, i.le, i.nn, k.ob _ _ i.ls (fun ps z => by cases z) d, (k.fz n).fz _ _ _ i.cl, i.len⟩
theorem ed_pen {x : Nat} (i : PenIn H p m c od cells at_ rest) (h : σ[x]? = some (some (.ref p))) (hz : L2.atI [V.ref c, .int (at_ : Nat), .int rest] j = some (.int z)) : EvD (tOp (rIxL K) (tVar x) (tC (.int j))) σ H (.int z) := fun H1 s Q q =>
  ⟨.ref p, h, p, _, j, .int z, rfl, rfl, SqL.of (s _ _ i.ls), hz, q _ H1 (Same.refl H1) (pt_int.mpr rfl)⟩
theorem ev_pen0 {x : Nat} (i : PenIn H p m c od cells at_ rest) (h : σ[x]? = some (some (.ref p))) : EvV (tOp (rIxL K) (tVar x) (tC (.int 0))) σ H (.ref c) := fun H1 s Q q =>
  ⟨.ref p, h, p, _, 0, .ref c, rfl, rfl, SqL.of (s _ _ i.ls), rfl, q H1 (Same.refl H1)⟩
theorem SqL.frz {xs : List V} (h : H c = some (.frz od (.lst xs))) : SqL K H c xs := .inl (.inr ⟨od, h⟩)
theorem ed_lenF {xs : List V} (h : EvV te σ H (.ref c)) (e : H c = some (.frz od (.lst xs))) : EvD (tCB (fun xs H Q => ∃ p ys, xs = [.ref p] ∧ (SqL K H p ys ∨ SqT K H p ys) ∧ Q (.int ys.length) H) (tCons te tNil)) σ H (.int xs.length) := fun H1 s Q q => h H1 s _ fun H2 k =>
  ⟨c, xs, rfl, .inl (SqL.frz ((s.trans k).ob _ _ e fun ps z => by cases z)), q _ H2 k (pt_int.mpr rfl)⟩
theorem ed_ixF {ns : List Int} (h : EvV te σ H (.ref c)) (e : H c = some (.frz od (.lst (ns.map .int)))) (hi : EvD ti σ H (.int j)) (hz : L2.atI ns j = some z) : EvD (tOp (rIxL K) te ti) σ H (.int z) := fun H1 s Q q => h H1 s _ fun H2 k => hi H2 (s.trans k) _ fun y H3 k3 py => by
  cases pt_int.mp py
  refine ⟨c, _, j, .int z, rfl, rfl, SqL.frz (((s.trans k).trans k3).ob _ _ e fun ps z => by cases z), ?_, q _ H3 (k.trans k3) (pt_int.mpr rfl)⟩
  unfold L2.atI at hz ⊢
  rw [List.length_map]
  cases e : L2.ixN ns.length j with
  | none => rw [e] at hz; cases hz
  | some n =>
    rw [e] at hz
    show (ns.map V.int)[n]? = _
    rw [List.getElem?_map, show ns[n]? = some z from hz]
    rfl
/-- cells != [] -/
theorem eb_cells {ns : List Int} (h : EvV te σ H (.ref c)) (e : H c = some (.frz od (.lst (ns.map .int)))) : ∃ b, (b = true → ns ≠ []) ∧ EvB (tTest (tOp (rNeP K) te (tLst tNil))) σ H b := by
  refine ⟨!PyData.eqv (.list (ns.map .int)) (.list []), fun hb e => ?_, fun H1 s Q q => h H1 s _ fun H2 k => ⟨by show 0 ≤ sizeLine; decide, fun x hx => ?_⟩⟩
  · subst e
    revert hb
    decide
  · refine ⟨_, _, .lst (SqL.frz ((same_new hx).ob _ _ ((s.trans k).ob _ _ e fun ps z => by cases z) fun ps z => by cases z)) (PtA.dp _ _ (PtA.ints ns)), .lst (SqL.of upd_same) .nil, ?_, rfl, ?_, _, rfl, q _ (k.trans (same_new hx))⟩
    · exact PtA.plain (H := H) _ _ (PtA.ints ns)
    · simp only [PyData.depth]
      have := depth_ints ns
      omega
theorem rc_abs : RCD (fun xs H Q => ∃ i, xs = [.int i] ∧ Q (.int (if i < 0 then -i else i)) H) [.int z] (.int (if z < 0 then -z else z)) := fun H xs Q p q => by
  obtain ⟨v, rfl, p1⟩ := ptA1 p
  cases pt_int.mp p1
  exact ⟨z, rfl, q _ H (Same.refl H) (pt_int.mpr rfl)⟩
/-- pen[j] = e -/
theorem s_pen {x : Nat} (i : PenIn H p m c od cells at_ rest) (h : EvD te σ H (.int z)) (hv : σ[x]? = some (some (.ref p))) (hm : L2.ixN 3 j = some n)
    (k : ∀ H1, Kp (· = p) H H1 → H1 p = some (.lst ([V.ref c, .int (at_ : Nat), .int rest].set n (.int z))) → H1 c = some (.frz od (.lst (cells.map .int))) → D.nx σ H1) : tAsg te (gSub (tVar x) (tC (.int j)) rSetL) D σ H :=
  h H (Same.refl H) _ fun v H1 k1 pv => by
    cases pt_int.mp pv
    have i1 := i.same k1
    have ne : c ≠ p := fun z => by have := i1.cl; rw [z, i1.ls] at this; cases this
    exact ⟨_, hv, p, _, j, n, rfl, rfl, i1.ls, hm, k _ (k1.kp.mut rfl i1.ls True.intro) upd_same (by rw [upd_ne ne]; exact i1.cl)⟩
theorem q_pen {x : Nat} (i : PenIn H p m c od cells at_ rest) (h : EvD te σ H (.int z)) (hv : σ[x]? = some (some (.ref p))) (hm : L2.ixN 3 j = some n)
    (k : ∀ H1, Kp (· = p) H H1 → H1 p = some (.lst ([V.ref c, .int (at_ : Nat), .int rest].set n (.int z))) → H1 c = some (.frz od (.lst (cells.map .int))) → tz D σ H1) : tSeq (tAsg te (gSub (tVar x) (tC (.int j)) rSetL)) tz D σ H := s_pen (D := { D with nx := tz D }) i h hv hm k
end
theorem q_cut {ta tz : TS} {D : Ends} {σ : L2.St} {H : Hp} {Iv : L2.St → Hp → Prop} (rest : ∀ σ' H', Iv σ' H' → tz D σ' H') (h : (∀ σ' H', Iv σ' H' → tz D σ' H') → tSeq ta tz D σ H) : tSeq ta tz D σ H := h rest
def spDraw : Sp := fun vs H Q _ => ∃ (p : Addr) (m : Nat) (many : Int), vs = [.ref p, .int many] ∧ PenAt H p m ∧ m ≤ 100000 ∧ 1 ≤ many ∧ many < 1000000 ∧
  ∀ r H', 0 ≤ r → r < many → Kp (· = p) H H' → PenAt H' p (m + 1) → Q (.int r) H'
section
variable {P : Program} {w : World} {K : PySem.W.Frag} {mg : Str → Option Value} {base : Heap}
theorem sc_law_draw : FnScope ["_law_pen", "_law_many", "_law_digit", "_law_at", "_law_cell", "_law_number"] ["_law_pen", "_law_many"] (defScope (top 73)) := ⟨rfl, rfl, rfl, by decide +kernel, rfl, by decide +kernel, by decide +kernel⟩
theorem okF_law_draw (T : Tx K mg w) : ∃ fd, FunD K "_law_draw" "_law_draw" (defArgs (top 73)) (defBody (top 73)) (defScope (top 73)) [] [] (He.ga K "_law_draw") fd ∧ FnOk P w K mg base (L2.CX P w) 1 (He.ga K "_law_draw") fd ["_law_pen", "_law_many"] spDraw := by
  obtain ⟨g, fd, F⟩ := T.f_law_draw
  refine ⟨fd, F, F.ok sc_law_draw (fun vs H Q E h => ?_) (fun cdv A outer s H vs Q E hr h => ?_)⟩
  · obtain ⟨p, m, many, rfl, _⟩ := h; rfl
  · obtain ⟨p, m, many, rfl, ⟨c, od, cells, at_, rest, i⟩, hm, h1, h2, k⟩ := h
    have nd := sc_law_draw.nd
    have hu := hr.units
    refine ⟨_, pss_cons (ps_if (pt_cmpR op_gt (pe_ix ix_list (pv 0) pe_int (fun _ _ => rfl)) pe_int (nomark _))
        (pss_cons (ps_set (i := 2) nd rfl (.inl rfl) (pe_op op_mod (pe_ix ix_list (pv 0) pe_int (fun _ _ => rfl)) (pv 1)))
        (pss_cons (ps_asg (pe_op op_fdiv (pe_ix ix_list (pv 0) pe_int (fun _ _ => rfl)) (pv 1)) (pg_sub (pv 0) pe_int set_list (fun _ => rfl)))
        (pss_one (ps_ret (pv 2))))) pss_nil)
      (pss_cons (ps_set (i := 3) nd rfl (.inl rfl) (pe_ix ix_list (pv 0) pe_int (fun _ _ => rfl)))
      (pss_cons (ps_asg (pe_op op_add (pv 3) pe_int) (pg_sub (pv 0) pe_int set_list (fun _ => rfl)))
      (pss_cons (ps_set (i := 4) nd rfl (.inl rfl) (pe_op op_add (pe_op op_mul pe_int (pv 3)) pe_int))
      (pss_cons (ps_if (pt_cmpR (op_neP hu) (pe_ix ix_list (pv 0) pe_int (fun _ _ => rfl)) (pe_lst pa_nil) (nomark _))
         (pss_one (ps_set (i := 4) nd rfl (.inl rfl) (pe_ix ix_list (pe_ix ix_list (pv 0) pe_int (fun _ _ => rfl)) (pe_op op_mod (pv 3) (pe_callB call_len_seq rfl T.n_len PySem.boot_len (pa_cons (pe_ix ix_list (pv 0) pe_int (fun _ _ => rfl)) pa_nil))) (fun _ _ => rfl)))) pss_nil)
      (pss_cons (ps_if (PW.pt (pw_and (pt_cmpR op_lt (pv 3) (pe_callB call_len_seq rfl T.n_len PySem.boot_len (pa_cons (pe_ix ix_list (pv 0) pe_int (fun _ _ => rfl)) pa_nil)) (nomark _)) (pw_and1 (pt_cmpR op_ge (pe_callB call_abs rfl T.n_abs (by decide +kernel) (pa_cons (pv 4) pa_nil)) (pe_op op_pow pe_int pe_int) (nomark _)))))
         (pss_cons (ps_asg (pe_op op_fdiv (pe_callB call_abs rfl T.n_abs (by decide +kernel) (pa_cons (pv 4) pa_nil)) (pv 1)) (pg_sub (pv 0) pe_int set_list (fun _ => rfl)))
         (pss_one (ps_ret (pe_op op_mod (pe_callB call_abs rfl T.n_abs (by decide +kernel) (pa_cons (pv 4) pa_nil)) (pv 1))))) pss_nil)
      (pss_cons (ps_set (i := 5) nd rfl (.inl rfl) (pe_op op_mod (pe_op op_pow (pe_op op_add (pe_op op_add (pe_op op_mod (pv 4) pe_int) (pe_op op_mul pe_int (pv 3))) pe_int) pe_int) pe_int))
      (pss_cons (ps_set (i := 5) nd rfl (.inl rfl) (pe_op op_mod (pe_op op_pow (pe_op op_add (pe_op op_mul (pv 5) (pe_op op_add (pe_op op_mul pe_int (pv 3)) pe_int)) pe_int) pe_int) pe_int))
      (pss_one (ps_ret (pe_op op_mod (pe_op op_fdiv (pv 5) pe_int) (pv 1))))))))))), ?_⟩
    have eI : ∀ {σ : L2.St} {H : Hp} {x : Nat} {z : Int}, σ[x]? = some (some (.int z)) → EvD (tVar x) σ H (.int z) := fun h => ed_var h (pt_int.mpr rfl)
    have hdm : CDiv 0 many := ⟨by omega, by omega⟩
    refine q_when (eb_T (ed_op (ed_pen (z := rest) i rfl rfl) ed_int rd_ib)) (fun hc H1 k1 => ?_) (fun hc H1 k1 => ?_)
    · have i1 := i.same k1
      refine q_set (ed_op (ed_pen (z := rest) i1 rfl rfl) (eI rfl) (rd_ci (g := fun i j => i % j) (by omega))) fun v H2 k2 pv => ?_
      cases pt_int.mp pv
      refine q_pen (n := 2) (i1.same k2) (ed_op (ed_pen (z := rest) (i1.same k2) rfl rfl) (eI rfl) (rd_ci (g := fun i j => i / j) hdm)) rfl rfl fun H3 k3 e1 e2 => ?_
      refine s_retV (ev_var rfl) fun H4 k4 => k _ H4 (Int.emod_nonneg _ (by omega)) (Int.emod_lt_of_pos _ (by omega)) (((k1.trans k2).kp.trans k3).trans k4.kp) ⟨c, od, cells, at_, rest / many, by have := i.le; omega, Int.ediv_nonneg i.nn (by omega), k4 _ _ e1, k4 _ _ e2, i.len⟩
    · have i1 := i.same k1
      refine q_set (ed_pen (z := (at_ : Nat)) i1 rfl rfl) fun v H2 k2 pv => ?_
      cases pt_int.mp pv
      refine q_pen (n := 1) (z := ((at_ + 1 : Nat) : Int)) (i1.same k2) ((ed_op (eI rfl) ed_int rd_ii).to (by simp)) rfl rfl fun H3 k3 e1 e2 => ?_
      have i3 : PenIn H3 p (m + 1) c od cells (at_ + 1) rest := ⟨by have := i.le; omega, i.nn, e1, e2, i.len⟩
      have kp3 : Kp (· = p) H H3 := (k1.trans k2).kp.trans k3
      have hat : at_ ≤ 100000 := Nat.le_trans i.le hm
      refine q_set (ed_op (ed_op ed_int (eI rfl) (rd_ci (g := fun i j => i * j) (.inl ⟨by decide, by decide⟩))) ed_int rd_ii) fun v H4 k4 pv => ?_
      have i4 := i3.same k4
      cases pt_int.mp pv
      obtain ⟨b, hb, eb⟩ := eb_cells (K := K) (σ := [some (.ref p), some (.int many), none, some (.int (at_ : Nat)), some (.int (90007 * (at_ : Int) + 31)), none]) (ev_pen0 (x := 0) i4 rfl) i4.cl
      refine q_cut (Iv := fun σ' H' => (∃ z : Int, σ' = [some (.ref p), some (.int many), none, some (.int (at_ : Nat)), some (.int z), none]) ∧ PenIn H' p (m + 1) c od cells (at_ + 1) rest ∧ Kp (· = p) H H') ?_ (fun go => ?_)
      · rintro σ' H5 ⟨⟨z, rfl⟩, i5, kp5⟩
        refine q_when (eb_and (eb_T (ed_op (eI rfl) (ed_lenF (K := K) (ev_pen0 (K := K) (x := 0) i5 rfl) i5.cl) rd_ib)) fun _ => eb_T (ed_op (ed_cb (ea_one (eI (x := 4) rfl)) rc_abs) (ed_op ed_int ed_int (rd_ci (C := CPow) (i := 10) (j := 18) (g := fun i j => i ^ j.toNat) ⟨by decide, by decide, by decide⟩)) rd_ib)) (fun hc6 H6 k6 => ?_) (fun hc6 H6 k6 => ?_)
        · have i6 := i5.same k6
          have hz : 0 ≤ (if z < 0 then -z else z) := by split <;> omega
          refine q_pen (n := 2) i6 (ed_op (ed_cb (ea_one (eI (x := 4) rfl)) rc_abs) (eI rfl) (rd_ci (g := fun i j => i / j) hdm)) rfl rfl fun H7 k7 e1 e2 => ?_
          refine s_ret (ed_op (ed_cb (ea_one (eI (x := 4) rfl)) rc_abs) (eI rfl) (rd_ci (g := fun i j => i % j) (by omega))) fun v H8 k8 pv => ?_
          cases pt_int.mp pv
          exact k _ H8 (Int.emod_nonneg _ (by omega)) (Int.emod_lt_of_pos _ (by omega)) (((kp5.trans k6.kp).trans k7).trans k8.kp) ⟨c, od, cells, at_ + 1, _, i6.le, Int.ediv_nonneg hz (by omega), k8 _ _ e1, k8 _ _ e2, i.len⟩
        · have i6 := i5.same k6
          have m1 : 0 ≤ z % 2147483629 := Int.emod_nonneg _ (by decide)
          have m2 : z % 2147483629 < 2147483629 := Int.emod_lt_of_pos _ (by decide)
          refine q_set (ed_op (ed_op (ed_op (ed_op (ed_op (eI (x := 4) rfl) ed_int (rd_ci (g := fun i j => i % j) (by decide))) (ed_op ed_int (eI rfl) (rd_ci (g := fun i j => i * j) (.inl ⟨by decide, by decide⟩))) rd_ii) ed_int rd_ii) ed_int (rd_ci (C := CPow) (j := 3) (g := fun i j => i ^ j.toNat) ⟨by decide, by decide, by omega⟩)) ed_int (rd_ci (g := fun i j => i % j) (by decide))) fun v H7 k7 pv => ?_
          cases pt_int.mp pv
          generalize hx : ((z % 2147483629 + 50021 * (at_ : Int) + 7) ^ (3 : Int).toNat % 2147483587) = x
          have x1 : 0 ≤ x := by rw [← hx]; exact Int.emod_nonneg _ (by decide)
          have x2 : x < 2147483587 := by rw [← hx]; exact Int.emod_lt_of_pos _ (by decide)
          have y1 : 0 ≤ x * (2 * (at_ : Int) + 3) := Int.mul_nonneg x1 (by omega)
          have y2 : x * (2 * (at_ : Int) + 3) ≤ 2147483587 * 200003 := Int.mul_le_mul (by omega) (by omega) (by omega) (by decide)
          refine q_set (ed_op (ed_op (ed_op (ed_op (eI (x := 5) rfl) (ed_op (ed_op ed_int (eI rfl) (rd_ci (g := fun i j => i * j) (.inl ⟨by decide, by decide⟩))) ed_int rd_ii) (rd_ci (g := fun i j => i * j) (.inl ⟨by omega, by omega⟩))) ed_int rd_ii) ed_int (rd_ci (C := CPow) (j := 3) (g := fun i j => i ^ j.toNat) ⟨by decide, by decide, by omega⟩)) ed_int (rd_ci (g := fun i j => i % j) (by decide))) fun v H8 k8 pv => ?_
          cases pt_int.mp pv
          refine s_ret (ed_op (ed_op (eI (x := 5) rfl) ed_int (rd_ci (g := fun i j => i / j) ⟨by decide, by decide⟩)) (eI rfl) (rd_ci (g := fun i j => i % j) (by omega))) fun v H9 k9 pv => ?_
          cases pt_int.mp pv
          have s9 := ((k6.trans k7).trans k8).trans k9
          exact k _ H9 (Int.emod_nonneg _ (by omega)) (Int.emod_lt_of_pos _ (by omega)) (kp5.trans s9.kp) ⟨c, od, cells, at_ + 1, rest, i6.le, i.nn, s9 _ _ i5.ls, s9 _ _ i5.cl, i.len⟩
      · refine q_when eb (fun hb5 H5 k5 => ?_) (fun hb5 H5 k5 => go _ _ ⟨⟨_, rfl⟩, i4.same k5, kp3.trans (k4.trans k5).kp⟩)
        have i5 := i4.same k5
        have hne := hb hb5
        have hlen : 0 < cells.length := List.length_pos_iff.mpr hne
        have hj0 : 0 ≤ (at_ : Int) % (cells.length : Int) := Int.emod_nonneg _ (by omega)
        have hj1 : (at_ : Int) % (cells.length : Int) < cells.length := Int.emod_lt_of_pos _ (by omega)
        have hjn : ((at_ : Int) % (cells.length : Int)) = ((at_ % cells.length : Nat) : Int) := by simp
        have hlt : at_ % cells.length < cells.length := Nat.mod_lt _ hlen
        refine s_set (ed_ixF (K := K) (z := cells[at_ % cells.length]) (ev_pen0 (x := 0) i5 rfl) i5.cl (ed_op (eI rfl) (ed_lenF (K := K) (ev_pen0 (x := 0) i5 rfl) i5.cl) (rd_ci (g := fun i j => i % j) (by rw [List.length_map]; omega))) ?_) fun v H6 k6 pv => ?_
        · rw [List.length_map, hjn, atI_nat]
          exact List.getElem?_eq_getElem hlt
        · cases pt_int.mp pv
          exact go _ _ ⟨⟨_, rfl⟩, i5.same k6, kp3.trans ((k4.trans k5).trans k6).kp⟩
theorem ok_law_draw (T : Tx K mg w) : Cal P w K mg base 1 "_law_draw" ["_law_pen", "_law_many"] spDraw := by
  obtain ⟨fd, F, G⟩ := okF_law_draw (P := P) (base := base) T
  exact ⟨(T.f_law_draw).1, ⟨fd, G, F.bindsN fun _ _ _ _ _ _ us hl => match us, hl with | [_, _], _ => rfl⟩, F.kp⟩
end
end Ro
/-! tools for defs that draw -/
namespace Ro
open PySem PySem.Spec PyProof.Rows L2 PySem.W
variable [TabsC]
section
variable {K : PySem.W.Frag} {σ : L2.St} {H H' : Hp} {N M : Addr → Prop} {p a : Addr} {m n : Nat} {many : Int} {te tn tb : TE} {D : Ends} {tz : TS} {Q : VK}
/-- _law_draw(pen, many) -/
theorem run_draw (h : EvV te σ H (.ref p)) (hn : EvD tn σ H (.int many)) (i : PenAt H p m) (hm : m ≤ 100000) (h1 : 1 ≤ many) (h2 : many < 1000000)
    (k : ∀ r H', 0 ≤ r → r < many → Kp (· = p) H H' → PenAt H' p (m + 1) → Q (.int r) H') : tCall spDraw [] E0 (tCons te (tCons tn tNil)) σ H Q :=
  h H (Same.refl H) _ fun H1 k1 => hn H1 k1 _ fun y H2 k2 py => by
    cases pt_int.mp py
    exact ⟨p, m, many, rfl, (i.same (k1.trans k2)), hm, h1, h2, fun r H' r0 r1 kp pa => k r H' r0 r1 ((k1.trans k2).kp.trans kp) pa⟩
/-- a comprehension, its walk known -/
def LcIn (J : It) (g : TG) (te : TE) (vs : List Nat) (σ : L2.St) (H : Hp) (Q : VK) : Prop := ∀ D, H D = none → ∃ W : Nat → Nat → Hp → Prop, (∃ m, W 0 m (upd H D (.lst []))) ∧ ∀ i m H, W i m H →
      (J.stop i H ∧ Q (.ref D) H) ∨ (J.go i H ∧ ∃ Nx : Hp → Prop, (∀ H', Nx H' → ∃ m', m' < m ∧ W (i + 1) m' H') ∧ ∀ x H', J.yld i H x H' → g x (wipe σ vs) H' fun σ2 H2 => wipe σ2 vs = wipe σ vs ∧ tYes σ2 H2 fun b H3 =>
        if b = true then te σ2 H3 fun y H4 => ∃ acc, H4 D = some (.lst acc) ∧ acc.length < sizeLine ∧ Nx (upd H4 D (.lst (acc ++ [y]))) else Nx H3)
theorem run_lcRng {tj : TE} {g : TG} {vs : List Nat} (h : tj σ H fun v H1 => ∃ j : Int, v = .int j ∧ -(2 ^ 62) ≤ j ∧ j < 2 ^ 62 ∧ LcIn (Itr 0 j.toNat) g te vs σ H1 Q) : tLc (iRng1 (tCons tj tNil)) g tYes te vs σ H Q := by
  refine (?_ : tj σ H fun v H1 => ∃ j : Int, [v] = [V.int j] ∧ -(2 ^ 62) ≤ j ∧ j < 2 ^ 62 ∧ LcIn (Itr 0 j.toNat) g te vs σ H1 Q)
  have e : (fun (v : V) (H1 : Hp) => ∃ j : Int, [v] = [V.int j] ∧ -(2 ^ 62) ≤ j ∧ j < 2 ^ 62 ∧ LcIn (Itr 0 j.toNat) g te vs σ H1 Q) = fun v H1 => ∃ j : Int, v = .int j ∧ -(2 ^ 62) ≤ j ∧ j < 2 ^ 62 ∧ LcIn (Itr 0 j.toNat) g te vs σ H1 Q := by
    funext v H1
    simp only [List.cons.injEq, and_true]
  rw [e]
  exact h
/-- a comprehension whose item may change N -/
theorem lcN_in {α : Type} {J : It} {g : TG} {vs : List Nat} (l : List α) (enc : α → PyData) (hl : l.length ≤ 1000000) (w : WkD J (l.map enc) (Kp N H)) (Pv : Nat → List PyData → Hp → Prop)
    (n : NOk N H) (h0 : ∀ H1, Same H H1 → Pv 0 [] H1) (hN : ∀ i ds H', Kp N H H' → Pv i ds H' → NOk N H')
    (hst : ∀ i ds H' H'' D, H D = none → Kp N H H' → Pv i ds H' → NOk (· = D) H' → Kp (· = D) H' H'' → Pv i ds H'')
    (step : ∀ i (hi : i < l.length) (H' : Hp) (ds : List PyData) (v : V), Kp N H H' → Pv i ds H' → Pt H' (enc l[i]) v → ∃ σ2, (∀ Q : L2.St → Hp → Prop, Q σ2 H' → g v (wipe σ vs) H' Q) ∧ wipe σ2 vs = wipe σ vs ∧
      ∀ Q : VK, (∀ y d H'', Kp N H' H'' → Pt H'' d y → noL d = true → Pv (i + 1) (ds ++ [d]) H'' → Q y H'') → te σ2 H' Q)
    (hd : ∀ p xs H' ds, H p = none → Kp N H H' → H' p = some (.lst xs) → PtA H' ds xs → noLs ds = true → Pv l.length ds H' → Q (.ref p) H') :
    LcIn J g te vs σ H Q := by
  intro D hD
  rw [WkD, List.length_map] at w
  have nD : ¬ N D := n.free hD
  refine lc_it (tt := tYes) w (fun i H' => ∃ xs ds, Kp N H H' ∧ H' D = some (.lst xs) ∧ PtA H' ds xs ∧ noLs ds = true ∧ xs.length = i ∧ Pv i ds H') ⟨[], [], (same_new hD).kp, upd_same, .nil, rfl, rfl, h0 _ (same_new hD)⟩ (fun i H' _ ⟨xs, ds, s, _⟩ => s) (fun i v H' H'' hi ⟨xs, ds, s, hx, px, nl, len, pv⟩ ⟨s2, d, hd, pd⟩ => ?_) (fun H' ⟨xs, ds, s, hx, px, nl, len, pv⟩ => hd D xs H' ds hD s hx px nl pv)
  have hgi : l[i]? = some l[i] := List.getElem?_eq_getElem hi
  rw [List.getElem?_map, hgi, Option.map_some, Option.some.injEq] at hd
  subst hd
  have pv2 := hst i ds H' H'' D hD s pv (nok1 hx True.intro) s2.kp
  have s3 := s.trans s2.kp
  obtain ⟨σ2, g1, g2, g3⟩ := step i hi H'' ds v s3 pv2 pd
  refine g1 _ ⟨g2, ?_⟩
  unfold tYes
  dsimp only
  rw [if_pos rfl]
  refine g3 _ fun y d H4 k4 py nd pv4 => ?_
  have hx4 : H4 D = some (.lst xs) := k4.ob D _ (s2 D _ hx) (fun ps z => by cases z) nD
  have px4 := PtA.keepT ((hN i ds H'' s3 pv2).tk k4) _ _ nl (PtA.keep s2 _ _ px)
  have kt : Tk H4 (upd H4 D (.lst (xs ++ [y]))) := tk_lst hx4
  refine ⟨xs, hx4, by rw [len, sizeLine_eq]; omega, xs ++ [y], ds ++ [d], (s3.trans k4).mut0 hD hx4 True.intro, upd_same, (PtA.keepT kt _ _ nl px4).snoc (Pt.keepT kt _ _ nd py), noLs_app nl (noLs_one nd), by rw [List.length_append]; simp; omega, ?_⟩
  exact hst (i + 1) (ds ++ [d]) H4 _ D hD (s3.trans k4) pv4 (nok1 hx4 True.intro) (Kp.refl.mut rfl hx4 True.intro)
theorem run_lcN {α : Type} {wi : TI} {g : TG} {vs : List Nat} (l : List α) (enc : α → PyData) (hl : l.length ≤ 1000000) (n : NOk N H) (hi : EvF N wi σ H (l.map enc)) (Pv : Hp → Nat → List PyData → Hp → Prop)
    (h0 : ∀ H2, Same H H2 → ∀ H3, Same H2 H3 → Pv H2 0 [] H3) (hN : ∀ H2 i ds H', Same H H2 → Kp N H2 H' → Pv H2 i ds H' → NOk N H')
    (hst : ∀ H2 i ds H' H'' D, Same H H2 → H2 D = none → Kp N H2 H' → Pv H2 i ds H' → NOk (· = D) H' → Kp (· = D) H' H'' → Pv H2 i ds H'')
    (step : ∀ H2, Same H H2 → ∀ i (hi : i < l.length) (H' : Hp) (ds : List PyData) (v : V), Kp N H2 H' → Pv H2 i ds H' → Pt H' (enc l[i]) v → ∃ σ2, (∀ Q : L2.St → Hp → Prop, Q σ2 H' → g v (wipe σ vs) H' Q) ∧ wipe σ2 vs = wipe σ vs ∧
      ∀ Q : VK, (∀ y d H'', Kp N H' H'' → Pt H'' d y → noL d = true → Pv H2 (i + 1) (ds ++ [d]) H'' → Q y H'') → te σ2 H' Q)
    (hd : ∀ H2, Same H H2 → ∀ p xs H' ds, H2 p = none → Kp N H2 H' → H' p = some (.lst xs) → PtA H' ds xs → noLs ds = true → Pv H2 l.length ds H' → Q (.ref p) H') : tLc wi g tYes te vs σ H Q :=
  hi H (Same.refl H) _ fun J H2 k w => lcN_in l enc hl w (Pv H2) (n.keep k) (h0 H2 k) (fun i ds H' => hN H2 i ds H' k) (fun i ds H' H'' D => hst H2 i ds H' H'' D k) (step H2 k) (hd H2 k)
/-- while -/
theorem s_while {c : TT} {tb : TS} (Pv : Nat → L2.St → Hp → Prop) (n : Nat) (h0 : Pv n σ H)
    (step : ∀ m σ H, Pv m σ H → ∃ b, EvB c σ H b ∧ (b = true → ∀ H1, Same H H1 → tb { D with nx := fun σ' H' => ∃ m', m' < m ∧ Pv m' σ' H', ct := fun σ' H' => ∃ m', m' < m ∧ Pv m' σ' H', bk := D.nx } σ H1) ∧ (b = false → ∀ H1, Same H H1 → D.nx σ H1)) : tWhile c tb D σ H :=
  ⟨Pv, ⟨n, h0⟩, fun m σ H p => by
    obtain ⟨b, e, h1, h2⟩ := step m σ H p
    refine e H (Same.refl H) _ fun H1 k => ?_
    cases b with
    | true => rw [if_pos rfl]; exact ⟨_, fun σ' H' q => q, h1 rfl H1 k⟩
    | false => rw [if_neg Bool.false_ne_true]; exact h2 rfl H1 k⟩
end
end Ro
namespace Ro
open PySem PySem.Spec PyProof.Rows L2 PySem.W
variable [TabsC]
def spWord : Sp := fun vs H Q _ => ∃ (p : Addr) (m : Nat), vs = [.ref p] ∧ PenAt H p m ∧ m ≤ 90000 ∧ ∀ x H', nameOk x → Kp (· = p) H H' → PenAt H' p (m + 20) → Q (.str x) H'
/-- letters, joined -/
theorem join_name : ∀ {ys : List Str}, (∀ y ∈ ys, ∃ c ∈ letters.cps.toList, y = ⟨#[c]⟩) → (Str.join ⟨#[]⟩ ys).length = ys.length ∧ ∀ c ∈ (Str.join ⟨#[]⟩ ys).cps.toList, c ∈ letters.cps.toList
  | [], _ => ⟨rfl, fun c h => by cases h⟩
  | [x], h => by
    obtain ⟨c, hc, rfl⟩ := h x (List.mem_cons_self ..)
    refine ⟨rfl, fun d hd => ?_⟩
    have : d ∈ [c] := hd
    rw [List.mem_singleton.mp this]
    exact hc
  | x :: y :: r, h => by
    obtain ⟨c, hc, rfl⟩ := h x (List.mem_cons_self ..)
    obtain ⟨h1, h2⟩ := join_name (ys := y :: r) fun z hz => h z (List.mem_cons_of_mem _ hz)
    have e : (Str.join ⟨#[]⟩ (⟨#[c]⟩ :: y :: r)).cps = #[c] ++ #[] ++ (Str.join ⟨#[]⟩ (y :: r)).cps := rfl
    refine ⟨?_, fun d hd => ?_⟩
    · show (Str.join ⟨#[]⟩ (⟨#[c]⟩ :: y :: r)).cps.size = _
      rw [e]
      have : (Str.join ⟨#[]⟩ (y :: r)).cps.size = (y :: r).length := h1
      simp only [Array.size_append, this, List.length_cons]
      simp
      omega
    · rw [e] at hd
      simp only [Array.append_empty, Array.toList_append, List.mem_append] at hd
      rcases hd with hd | hd
      · have : d ∈ [c] := hd
        rw [List.mem_singleton.mp this]
        exact hc
      · exact h2 d hd
abbrev someWords : List Str := ["port", "star", "down", "up", "aport", "stop", "full", "bridge", "room", "none"]
theorem someWords_ok : ∀ x ∈ someWords, nameOk x := by
  intro x hx
  simp only [someWords, List.mem_cons, List.not_mem_nil, or_false] at hx
  unfold nameOk
  rcases hx with rfl | rfl | rfl | rfl | rfl | rfl | rfl | rfl | rfl | rfl <;> decide +kernel
theorem atI_nn {α : Type} {xs : List α} {i : Int} (h0 : 0 ≤ i) (h1 : i < xs.length) : ∃ v, L2.atI xs i = some v ∧ v ∈ xs := by
  have hlt : i.toNat < xs.length := by omega
  have h := atI_nat (xs := xs) (j := i.toNat) (v := xs[i.toNat]) (by simp [hlt])
  rw [Int.toNat_of_nonneg h0] at h
  exact ⟨_, h, List.getElem_mem hlt⟩
theorem sum_ones : ∀ {ys : List Str}, (∀ y ∈ ys, ∃ c ∈ letters.cps.toList, y = ⟨#[c]⟩) → (ys.map (·.length)).sum = ys.length
  | [], _ => rfl
  | y :: ys, h => by
    obtain ⟨c, _, e⟩ := h y (List.mem_cons_self ..)
    have e1 : y.length = 1 := by rw [e]; rfl
    rw [List.map_cons, List.sum_cons, sum_ones fun z hz => h z (List.mem_cons_of_mem _ hz), List.length_cons, e1]
    omega
theorem strs_of {H : Hp} : ∀ {ys : List Str} {xs : List V}, PtA H (ys.map .str) xs → xs = ys.map V.str
  | [], _, h => ptA_nil.mp h
  | y :: ys, xs, h => by
    obtain ⟨v, vs, rfl, h1, h2⟩ := ptA_cons.mp h
    rw [pt_str.mp h1, strs_of h2]
    rfl
section
variable {K : PySem.W.Frag} {σ : L2.St} {H H' : Hp} {p a : Addr} {m : Nat} {many j : Int} {te tn : TE} {tu tw tz : TS} {D : Ends}
theorem q_ifDraw (h : EvV te σ H (.ref p)) (hn : EvD tn σ H (.int many)) (i : PenAt H p m) (hm : m ≤ 100000) (h1 : 1 ≤ many) (h2 : many < 1000000)
    (k1 : ∀ H', Kp (· = p) H H' → PenAt H' p (m + 1) → tu { D with nx := tz D } σ H') (k2 : ∀ H', Kp (· = p) H H' → PenAt H' p (m + 1) → tw { D with nx := tz D } σ H') :
    tSeq (tIfS (tTest (tOp rEq (tCall spDraw [] E0 (tCons te (tCons tn tNil))) (tC (.int j)))) tu tw) tz D σ H :=
  run_draw h hn i hm h1 h2 fun r H' r0 r1 kp pa => ⟨rfl, _, rfl, by
    dsimp only
    split
    · exact k1 H' kp pa
    · exact k2 H' kp pa⟩
end
section
variable {P : Program} {w : World} {K : PySem.W.Frag} {mg : Str → Option Value} {base : Heap}
theorem sc_law_word : FnScope ["_law_pen", "_law_some", "_law_letters", "_law_k"] ["_law_pen"] (defScope (top 74)) := ⟨rfl, rfl, rfl, by decide +kernel, rfl, by decide +kernel, by decide +kernel⟩
theorem okF_law_word (T : Tx K mg w) : ∃ fd, FunD K "_law_word" "_law_word" (defArgs (top 74)) (defBody (top 74)) (defScope (top 74)) [] [] (He.ga K "_law_word") fd ∧ FnOk P w K mg base (L2.CX P w) 2 (He.ga K "_law_word") fd ["_law_pen"] spWord := by
  have C1 : Cal P w K mg base 1 "_law_draw" ["_law_pen", "_law_many"] spDraw := ok_law_draw T
  obtain ⟨g, fd, F⟩ := T.f_law_word
  refine ⟨fd, F, F.ok sc_law_word (fun vs H Q E h => ?_) (fun cdv A outer s H vs Q E hr h => ?_)⟩
  · obtain ⟨p, m, rfl, _⟩ := h; rfl
  · obtain ⟨p, m, rfl, pen, hm, k⟩ := h
    have nd := sc_law_word.nd
    have hu := hr.units
    refine ⟨_, pss_cons (ps_set (i := 1) nd rfl (.inl rfl) (pe_lst (pa_cons pe_str (pa_cons pe_str (pa_cons pe_str (pa_cons pe_str (pa_cons pe_str (pa_cons pe_str (pa_cons pe_str (pa_cons pe_str (pa_cons pe_str (pa_cons pe_str pa_nil))))))))))))
      (pss_cons (ps_if (pt_cmpR op_eq (pe_cal C1 hr (pa_cons (pv 0) (pa_cons pe_int pa_nil))) pe_int (nomark _)) (pss_one (ps_ret (pe_ix ix_list (pv 1) (pe_cal C1 hr (pa_cons (pv 0) (pa_cons pe_int pa_nil))) (fun _ _ => rfl)))) pss_nil)
      (pss_cons (ps_set (i := 2) nd rfl (.inr rfl) pe_str)
      (pss_one (ps_ret (pe_join pe_str (pe_lc (own := [("_law_k", 3)]) (g := gName 3) (tt := tYes) rfl nd (pi_range1 rfl T.n_range (pa_cons (pe_ix ix_list (pe_lst (pa_cons pe_int (pa_cons pe_int (pa_cons (pe_op op_add pe_int (pe_cal C1 hr (pa_cons (pv 0) (pa_cons pe_int pa_nil)))) pa_nil)))) (pe_cal C1 hr (pa_cons (pv 0) (pa_cons pe_int pa_nil))) (fun _ _ => rfl)) pa_nil))
         (blkOk_by (N := ["_law_pen", "_law_some", "_law_letters", "_law_k"]) (sc := defScope (top 74)) (by decide +kernel)) (fun _ _ _ _ _ => pg_name (i := 3) nd rfl (.inl rfl)) (fun _ _ _ _ _ => pts_nil)
         (fun _ _ _ _ _ => pe_ix ix_str (pv 2) (pe_cal C1 hr (pa_cons (pv 0) (pa_cons pe_int pa_nil))) (fun _ _ => rfl)))))))), ?_⟩
    have e0 : ∀ {σ : L2.St} {H : Hp}, σ[0]? = some (some (.ref p)) → EvV (tVar 0) σ H (.ref p) := fun h => ev_var h
    refine q_setN (ds := someWords.map .str) (en_lst (ea_cons ed_str (ea_cons ed_str (ea_cons ed_str (ea_cons ed_str (ea_cons ed_str (ea_cons ed_str (ea_cons ed_str (ea_cons ed_str (ea_cons ed_str (ea_one ed_str)))))))))) (by show 10 ≤ sizeLine; decide)) fun pS xS H1 hpS k1 eS pxS => ?_
    have pen1 := pen.same k1
    have nS : pS ≠ p := fun z => by obtain ⟨c, od, l, a, r, i⟩ := pen; rw [z, i.ls] at hpS; cases hpS
    refine q_ifDraw (e0 rfl) ed_int pen1 (by omega) (by decide) (by decide) (fun H2 k2 p2 => ?_) (fun H2 k2 p2 => ?_)
    · refine ⟨_, rfl, run_draw (e0 rfl) ed_int p2 (by omega) (by decide) (by decide) fun r H3 r0 r1 k3 p3 => ?_⟩
      have eS3 : H3 pS = some (.lst xS) := k3.ob _ _ (k2.ob _ _ eS (fun ps z => by cases z) nS) (fun ps z => by cases z) nS
      obtain ⟨d, hd, md⟩ := atI_nn (xs := someWords.map PyData.str) (i := r) r0 (by exact r1)
      obtain ⟨x, hx, rfl⟩ := List.mem_map.mp md
      obtain ⟨v, hv, pv⟩ := pxS.atI hd
      cases pt_str.mp pv
      exact ⟨pS, xS, r, _, rfl, rfl, SqL.of eS3, hv, k x H3 (someWords_ok x hx) ((k1.kp.trans k2).trans k3) (p3.le (by omega))⟩
    · refine q_set ed_str fun v H3 k3 pv => ?_
      cases pt_str.mp pv
      have p3 := p2.same k3
      refine ⟨⟨_, rfl⟩, ?_⟩
      refine run_lcRng ?_
      refine run_draw (e0 rfl) ed_int p3 (by omega) (by decide) (by decide) fun r8 H4 a0 a1 k4 p4 => ⟨1, r8, rfl, rfl, by show 3 ≤ sizeLine; decide, fun x hx => run_draw (e0 rfl) ed_int (p4.same (same_new hx)) (by omega) (by decide) (by decide) fun r3 H5 b0 b1 k5 p5 => ?_⟩
      obtain ⟨jv, hj, mj⟩ := atI_nn (xs := [V.int 1, .int 8, .int (1 + r8)]) (i := r3) b0 (by exact b1)
      obtain ⟨j, rfl, j1, j8⟩ : ∃ j, jv = .int j ∧ 1 ≤ j ∧ j ≤ 8 := by
        simp only [List.mem_cons, List.not_mem_nil, or_false] at mj
        rcases mj with rfl | rfl | rfl
        · exact ⟨_, rfl, by omega, by omega⟩
        · exact ⟨_, rfl, by omega, by omega⟩
        · exact ⟨_, rfl, by omega, by omega⟩
      have nx : x ≠ p := fun z => by obtain ⟨c, od, l, a, r, i⟩ := p4; rw [z, i.ls] at hx; cases hx
      refine ⟨x, _, r3, .int j, rfl, rfl, SqL.of (k5.ob _ _ upd_same (fun ps z => by cases z) nx), hj, j, rfl, by omega, by omega, ?_⟩
      have kp5 : Kp (· = p) H H5 := (((k1.kp.trans k2).trans k3.kp).trans k4).trans ((same_new hx).kp.trans k5)
      refine lcN_in (N := (· = p)) (List.range j.toNat) (fun k => .int (0 + (k : Nat))) (by rw [List.length_range]; omega) wk_rng (fun i ds H' => ∃ ys : List Str, ds = ys.map .str ∧ (∀ y ∈ ys, ∃ c ∈ letters.cps.toList, y = ⟨#[c]⟩) ∧ ys.length = i ∧ PenAt H' p (m + 10 + i)) p5.nok (fun H6 k6 => ⟨[], rfl, fun y hy => by (cases hy), rfl, (p5.same k6).le (by omega)⟩)
        (fun i ds H' _ ⟨_, _, _, _, pa⟩ => pa.nok) (fun i ds H' H'' D hD kD ⟨ys, h1, h2, h3, pa⟩ nD kD2 => ⟨ys, h1, h2, h3, pa.far kD2 nD fun z => by obtain ⟨c, od, l, a, r, i⟩ := p5; rw [← show p = D from z, i.ls] at hD; cases hD⟩)
        ?_ (fun D xs H' ds hD kD hx' px nl ⟨ys, h1, h2, h3, pa⟩ => ?_)
      · rintro i hi H' ds v kp ⟨ys, h1, h2, h3, pa⟩ pv
        refine ⟨_, fun Q q => q, rfl, fun Q q => ⟨_, rfl, run_draw (e0 rfl) ed_int pa (by rw [List.length_range] at hi; omega) (by decide) (by decide) fun r H6 c0 c1 k6 p6 => ?_⟩⟩
        obtain ⟨c, hc, mc⟩ := atI_nn (xs := letters.cps.toList) (i := r) c0 (by exact c1)
        exact ⟨letters, r, c, rfl, rfl, by decide, hc, q _ (.str ⟨#[c]⟩) H6 k6 (pt_str.mpr rfl) rfl ⟨ys ++ [⟨#[c]⟩], by rw [h1, List.map_append]; rfl, fun y hy => by
          rcases List.mem_append.mp hy with hy | hy
          · exact h2 y hy
          · exact ⟨c, mc, List.mem_singleton.mp hy⟩, by rw [List.length_append, h3]; rfl, p6.le (by omega)⟩⟩
      · subst h1
        cases strs_of px
        rw [List.length_range] at h3
        have e : Txt.join "" ys = Str.join ⟨#[]⟩ ys := TL.join_eq _ _
        have hs := sum_ones h2
        have e9 : ("" : Str).length = 0 := by decide +kernel
        obtain ⟨l1, l2⟩ := join_name h2
        refine ⟨"", D, ys, rfl, rfl, .inl (SqL.of hx'), ?_, ?_⟩
        · rw [e9, hs]; omega
        · rw [e]
          rw [List.length_range] at pa
          exact k _ H' ⟨by rw [l1]; omega, by rw [l1]; omega, l2⟩ (kp5.trans kD) (pa.le (by omega))
theorem ok_law_word (T : Tx K mg w) : Cal P w K mg base 2 "_law_word" ["_law_pen"] spWord := by
  obtain ⟨fd, F, G⟩ := okF_law_word (P := P) (base := base) T
  exact ⟨(T.f_law_word).1, ⟨fd, G, F.bindsN fun _ _ _ _ _ _ us hl => match us, hl with | [_], _ => rfl⟩, F.kp⟩
end
end Ro
namespace Ro
open PySem PySem.Spec PyProof.Rows L2 PySem.W
variable [TabsC]
section
variable {K : PySem.W.Frag} {σ : L2.St} {H H' : Hp} {p x : Addr} {m : Nat} {many j : Int} {te tn tl : TE} {ds : List PyData} {xs : List V} {Q : VK}
theorem PenAt.ne (i : PenAt H p m) (h : H x = none) : x ≠ p := fun z => by obtain ⟨c, od, l, a, r, i⟩ := i; rw [z, i.ls] at h; cases h
/-- xs[_law_draw(pen, len(xs))], xs already there -/
theorem run_ixDraw (hx : H x = some (.lst xs)) (nx : x ≠ p) (h : EvV te σ H (.ref p)) (hn : EvD tn σ H (.int xs.length)) (i : PenAt H p m) (hm : m ≤ 100000) (h1 : 1 ≤ xs.length) (h2 : xs.length < 1000000)
    (k : ∀ v H', v ∈ xs → Kp (· = p) H H' → PenAt H' p (m + 1) → Q v H') : tCall spDraw [] E0 (tCons te (tCons tn tNil)) σ H (fun y H2 => rIxL K (.ref x) y H2 Q) :=
  run_draw h hn i hm (by omega) (by omega) fun r H' r0 r1 kp pa => by
    obtain ⟨v, hv, mv⟩ := atI_nn r0 r1
    exact ⟨x, xs, r, v, rfl, rfl, SqL.of (kp.ob _ _ hx (fun ps z => by cases z) nx), hv, k v H' mv kp pa⟩
theorem run_pick (hl : EvN tl σ H ds) (h : EvV te σ H (.ref p)) (hn : EvD tn σ H (.int ds.length)) (i : PenAt H p m) (hm : m ≤ 100000) (h1 : 1 ≤ ds.length) (h2 : ds.length < 1000000) (nl : noLs ds = true)
    (k : ∀ d v H', d ∈ ds → Kp (· = p) H H' → PenAt H' p (m + 1) → Pt H' d v → Q v H') : tOp (rIxL K) tl (tCall spDraw [] E0 (tCons te (tCons tn tNil))) σ H Q :=
  hl H (Same.refl H) _ fun x xs H1 hx k1 ex px => run_draw (m := m) (fun H2 a => h H2 (k1.trans a)) (fun H2 a => hn H2 (k1.trans a)) (i.same k1) hm (by omega) (by omega) fun r H2 r0 r1 k2 p2 => by
    obtain ⟨d, hd, md⟩ := atI_nn (xs := ds) r0 r1
    obtain ⟨v, hv, pv⟩ := px.atI hd
    have nd : noL d = true := by
      clear k hn h1 h2 hl px hd r1 hv pv
      induction ds with
      | nil => cases md
      | cons a ds ih =>
        simp only [noLs, Bool.and_eq_true] at nl
        rcases List.mem_cons.mp md with e | md
        · rw [e]; exact nl.1
        · exact ih nl.2 md
    exact ⟨x, xs, r, v, rfl, rfl, SqL.of (k2.ob _ _ ex (fun ps z => by cases z) (i.ne hx)), hv, k d v H2 md (k1.kp.trans k2) p2 (Pt.keepT ((i.same k1).nok.tk k2) _ _ nd pv)⟩
theorem ed_inTup2 {te : TE} {a b l : Str} (h : EvD te σ H (.str l)) : EvD (tOp (rIn K false) te (tTup (tCons (tC (.str a)) (tCons (tC (.str b)) tNil)))) σ H (.bool (decide (l = a ∨ l = b))) := fun H1 s Q q => h H1 s _ fun v H2 k pv => by
  cases pt_str.mp pv
  refine ⟨by show 2 ≤ sizeLine; decide, fun x hx => ⟨x, [.str a, .str b], rfl, .inr (SqT.of upd_same), rfl, rfl, ?_⟩⟩
  rw [show inV (.str l) [.str a, .str b] = decide (l = a ∨ l = b) from inV_str2]
  exact q _ _ (k.trans (same_new hx)) (pt_bl.mpr rfl)
theorem ed_inTup3 {te : TE} {a b c l : Str} (h : EvD te σ H (.str l)) : EvD (tOp (rIn K false) te (tTup (tCons (tC (.str a)) (tCons (tC (.str b)) (tCons (tC (.str c)) tNil))))) σ H (.bool (decide (l = a ∨ l = b ∨ l = c))) := fun H1 s Q q => h H1 s _ fun v H2 k pv => by
  cases pt_str.mp pv
  refine ⟨by show 3 ≤ sizeLine; decide, fun x hx => ⟨x, [.str a, .str b, .str c], rfl, .inr (SqT.of upd_same), rfl, rfl, ?_⟩⟩
  rw [show inV (.str l) [.str a, .str b, .str c] = decide (l = a ∨ l = b ∨ l = c) from inV_str3]
  exact q _ _ (k.trans (same_new hx)) (pt_bl.mpr rfl)
theorem ed_intB {b : Bool} (h : EvD te σ H (.bool b)) : EvD (tCB (fun xs H Q => (∃ i, xs = [V.int i] ∧ Q (.int i) H) ∨ ∃ k : Bool, xs = [.bl k] ∧ Q (.int (if k then 1 else 0)) H) (tCons te tNil)) σ H (.int (if b then 1 else 0)) := fun H1 s Q q => h H1 s _ fun v H2 k pv => by
  cases pt_bl.mp pv
  exact .inr ⟨b, rfl, q _ H2 k (pt_int.mpr rfl)⟩
/-- len(xs), xs a list that stands -/
theorem ed_lenV (h : EvV te σ H (.ref x)) (e : H x = some (.lst xs)) : EvD (tCB (fun xs H Q => ∃ p ys, xs = [.ref p] ∧ (SqL K H p ys ∨ SqT K H p ys) ∧ Q (.int ys.length) H) (tCons te tNil)) σ H (.int xs.length) := fun H1 s Q q => h H1 s _ fun H2 k =>
  ⟨x, xs, rfl, .inl (SqL.of ((s.trans k) _ _ e)), q _ H2 k (pt_int.mpr rfl)⟩
end
abbrev rowLines : List Str := ["port", "star", "aport", "astar", "down", "up"]
structure Words (H : Hp) (p wa : Addr) (ws : List Str) : Prop where
  at_ : H wa = some (.lst (ws.map .str))
  ne : wa ≠ p
  len : ws.length = 3
  ok : ∀ x ∈ ws, nameOk x
def spRow : Sp := fun vs H Q _ => ∃ (p wa : Addr) (m : Nat) (minute : Int) (ws : List Str), vs = [.ref p, .int minute, .ref wa] ∧ PenAt H p m ∧ m ≤ 90000 ∧ Words H p wa ws ∧
  ∀ r v H', r.m = minute → r.l ∈ lines6 → whatOk r.l r.w → Kp (· = p) H H' → PenAt H' p (m + 5) → Pt H' (rowD r) v → Q v H'
section
variable {P : Program} {w : World} {K : PySem.W.Frag} {mg : Str → Option Value} {base : Heap}
theorem sc_law_row : FnScope ["_law_pen", "_law_minute", "_law_words", "_law_line", "_law_order"] ["_law_pen", "_law_minute", "_law_words"] (defScope (top 75)) := ⟨rfl, rfl, rfl, by decide +kernel, rfl, by decide +kernel, by decide +kernel⟩
theorem okF_law_row (T : Tx K mg w) : ∃ fd, FunD K "_law_row" "_law_row" (defArgs (top 75)) (defBody (top 75)) (defScope (top 75)) [] [] (He.ga K "_law_row") fd ∧ FnOk P w K mg base (L2.CX P w) 2 (He.ga K "_law_row") fd ["_law_pen", "_law_minute", "_law_words"] spRow := by
  have C1 : Cal P w K mg base 1 "_law_draw" ["_law_pen", "_law_many"] spDraw := ok_law_draw T
  obtain ⟨g, fd, F⟩ := T.f_law_row
  refine ⟨fd, F, F.ok sc_law_row (fun vs H Q E h => ?_) (fun cdv A outer s H vs Q E hr h => ?_)⟩
  · obtain ⟨p, wa, m, minute, ws, rfl, _⟩ := h; rfl
  · obtain ⟨p, wa, m, minute, ws, rfl, pen, hm, W, k⟩ := h
    have nd := sc_law_row.nd
    have hu := hr.units
    refine ⟨_, pss_cons (ps_set (i := 3) nd rfl (.inl rfl) (pe_ix ix_list (pe_lst (pa_cons pe_str (pa_cons pe_str (pa_cons pe_str (pa_cons pe_str (pa_cons pe_str (pa_cons pe_str pa_nil))))))) (pe_cal C1 hr (pa_cons (pv 0) (pa_cons pe_int pa_nil))) (fun _ _ => rfl)))
      (pss_cons (ps_set (i := 4) nd rfl (.inl rfl) (pe_ix ix_list (pe_lst (pa_cons pe_int (pa_cons (pe_un un_neg pe_int) (pa_cons pe_int (pa_cons (pe_op op_sub (pe_cal C1 hr (pa_cons (pv 0) (pa_cons pe_int pa_nil))) pe_int) pa_nil))))) (pe_cal C1 hr (pa_cons (pv 0) (pa_cons pe_int pa_nil))) (fun _ _ => rfl)))
      (pss_one (ps_ret (pe_tup (pa_cons (pv 1) (pa_cons (pv 3) (pa_cons (pe_ix ix_list (pe_lst (pa_cons (pv 4) (pa_cons (pe_ix ix_list (pv 2) (pe_cal C1 hr (pa_cons (pv 0) (pa_cons (pe_callB call_len_seq rfl T.n_len PySem.boot_len (pa_cons (pv 2) pa_nil)) pa_nil))) (fun _ _ => rfl)) pa_nil)))
          (pe_callTy call_int1 rfl T.n_int (by decide +kernel) (pa_cons (pe_cmpR op_in_seq (pv 3) (pe_tup (pa_cons pe_str (pa_cons pe_str pa_nil))) rfl) pa_nil)) (fun _ _ => rfl)) pa_nil))))))), ?_⟩
    have e0 : ∀ {σ : L2.St} {H : Hp}, σ[0]? = some (some (.ref p)) → EvV (tVar 0) σ H (.ref p) := fun h => ev_var h
    refine run_pick (ds := rowLines.map .str) (en_lst (ea_cons ed_str (ea_cons ed_str (ea_cons ed_str (ea_cons ed_str (ea_cons ed_str (ea_one ed_str)))))) (by show 6 ≤ sizeLine; decide)) (e0 rfl) ed_int pen (by omega) (by decide) (by decide) rfl fun d v H1 md k1 p1 pv => ?_
    obtain ⟨l, ml, rfl⟩ := List.mem_map.mp md
    cases pt_str.mp pv
    show tSeq _ _ _ _ _
    refine ⟨4, rfl, run_draw (e0 rfl) ed_int p1 (by omega) (by decide) (by decide) fun r9 H2 a0 a1 k2 p2 => ⟨r9, 4, rfl, rfl, by show 4 ≤ sizeLine; decide, fun x hx => run_ixDraw upd_same (p2.ne hx) (e0 rfl) ed_int (p2.same (same_new hx)) (by omega) (by show 1 ≤ 4; decide) (by show 4 < 1000000; decide) fun v H3 mv k3 p3 => ?_⟩⟩
    obtain ⟨o, rfl, o1, o2⟩ : ∃ o, v = .int o ∧ -4 ≤ o ∧ o ≤ 4 := by
      simp only [List.mem_cons, List.not_mem_nil, or_false] at mv
      rcases mv with rfl | rfl | rfl | rfl
      · exact ⟨_, rfl, by omega, by omega⟩
      · exact ⟨_, rfl, by omega, by omega⟩
      · exact ⟨_, rfl, by omega, by omega⟩
      · exact ⟨_, rfl, by omega, by omega⟩
    have kp3 : Kp (· = p) H H3 := (k1.trans k2).trans ((same_new hx).kp.trans k3)
    have ew3 : H3 wa = some (.lst (ws.map .str)) := kp3.ob _ _ W.at_ (fun ps z => by cases z) W.ne
    have hl : (ws.map V.str).length = 3 := by rw [List.length_map, W.len]
    refine ⟨_, rfl, _, rfl, _, rfl, _, rfl, run_ixDraw ew3 W.ne (e0 rfl) (ed_lenV (ev_var rfl) ew3) p3 (by omega) (by omega) (by omega) fun v H4 mv k4 p4 => ⟨by show 2 ≤ sizeLine; decide, fun y hy => ?_⟩⟩
    obtain ⟨x, mx, rfl⟩ := List.mem_map.mp mv
    refine ed_intB (ed_inTup2 (ed_var (d := .str l) rfl (pt_str.mpr rfl))) _ (Same.refl _) _ fun iv H5 k5 pi => ?_
    cases pt_int.mp pi
    have ey : H5 y = some (.lst [.int o, .str x]) := k5 _ _ upd_same
    have hl6 : l ∈ lines6 := by
      simp only [rowLines, List.mem_cons, List.not_mem_nil, or_false] at ml
      simp only [lines6, List.mem_cons, List.not_mem_nil, or_false]
      rcases ml with h | h | h | h | h | h <;> simp [h]
    have s5 : Same H4 H5 := (same_new hy).trans k5
    by_cases hd : l = "down" ∨ l = "up"
    · refine ⟨y, _, _, .str x, rfl, rfl, SqL.of ey, by rw [decide_eq_true hd]; rfl, by show 3 ≤ sizeLine; decide, fun t ht => k ⟨minute, l, .str x⟩ _ _ rfl hl6 (.inl ⟨hd, x, rfl, W.ok x mx⟩) ((kp3.trans k4).trans (s5.trans (same_new ht)).kp) ((p4.same (s5.trans (same_new ht))).le (by omega)) (pt_3.mpr ⟨t, _, _, _, rfl, upd_same, pt_int.mpr rfl, pt_str.mpr rfl, pt_str.mpr rfl⟩)⟩
    · refine ⟨y, _, _, .int o, rfl, rfl, SqL.of ey, by rw [decide_eq_false hd]; rfl, by show 3 ≤ sizeLine; decide, fun t ht => k ⟨minute, l, .int o⟩ _ _ rfl hl6 (.inr ⟨hd, o, rfl, o1, o2⟩) ((kp3.trans k4).trans (s5.trans (same_new ht)).kp) ((p4.same (s5.trans (same_new ht))).le (by omega)) (pt_3.mpr ⟨t, _, _, _, rfl, upd_same, pt_int.mpr rfl, pt_str.mpr rfl, pt_int.mpr rfl⟩)⟩
theorem ok_law_row (T : Tx K mg w) : Cal P w K mg base 2 "_law_row" ["_law_pen", "_law_minute", "_law_words"] spRow := by
  obtain ⟨fd, F, G⟩ := okF_law_row (P := P) (base := base) T
  exact ⟨(T.f_law_row).1, ⟨fd, G, F.bindsN fun _ _ _ _ _ _ us hl => match us, hl with | [_, _, _], _ => rfl⟩, F.kp⟩
end
end Ro
/-! two houses, each with a list of rows; for loops whose range draws -/
namespace Ro
open PySem PySem.Spec PyProof.Rows L2 PySem.W
variable [TabsC]
/-- a for loop, its walk known -/
def ForIn (J : It) (g : TG) (tb : TS) (D : Ends) (σ : L2.St) (H1 : Hp) : Prop := ∃ W : Nat → Nat → L2.St → Hp → Prop, (∃ m, W 0 m σ H1) ∧ ∀ i m σ H, W i m σ H →
  (J.stop i H ∧ D.nx σ H) ∨ (J.go i H ∧ ∃ N : L2.St → Hp → Prop, (∀ σ' H', N σ' H' → ∃ m', m' < m ∧ W (i + 1) m' σ' H') ∧ ∀ x H', J.yld i H x H' → g x σ H' fun σ2 H2 => tb { D with nx := N, ct := N, bk := D.nx } σ2 H2)
section
variable {K : PySem.W.Frag} {N : Addr → Prop} {σ : L2.St} {H H' : Hp} {g : TG} {tb tz : TS} {D : Ends} {J : It} {tj : TE}
theorem run_forRng (h : tj σ H fun v H1 => ∃ j : Int, v = .int j ∧ -(2 ^ 62) ≤ j ∧ j < 2 ^ 62 ∧ ForIn (Itr 0 j.toNat) g tb D σ H1) : tFor (iRng1 (tCons tj tNil)) g tb D σ H := by
  refine (?_ : tj σ H fun v H1 => ∃ j : Int, [v] = [V.int j] ∧ -(2 ^ 62) ≤ j ∧ j < 2 ^ 62 ∧ ForIn (Itr 0 j.toNat) g tb D σ H1)
  have e : (fun (v : V) (H1 : Hp) => ∃ j : Int, [v] = [V.int j] ∧ -(2 ^ 62) ≤ j ∧ j < 2 ^ 62 ∧ ForIn (Itr 0 j.toNat) g tb D σ H1) = fun v H1 => ∃ j : Int, v = .int j ∧ -(2 ^ 62) ≤ j ∧ j < 2 ^ 62 ∧ ForIn (Itr 0 j.toNat) g tb D σ H1 := by
    funext v H1
    simp only [List.cons.injEq, and_true]
  rw [e]
  exact h
theorem q_forRng (h : tj σ H fun v H1 => ∃ j : Int, v = .int j ∧ -(2 ^ 62) ≤ j ∧ j < 2 ^ 62 ∧ ForIn (Itr 0 j.toNat) g tb { D with nx := tz D } σ H1) : tSeq (tFor (iRng1 (tCons tj tNil)) g tb) tz D σ H := run_forRng (D := { D with nx := tz D }) h
theorem for_in {α : Type} (l : List α) (enc : α → PyData) (w : WkD J (l.map enc) (Kp N H)) (Pv : Nat → L2.St → Hp → Prop)
    (h0 : Pv 0 σ H) (hst : ∀ i σ' H' H'', Pv i σ' H' → Same H' H'' → Pv i σ' H'')
    (step : ∀ i (hi : i < l.length) (σ' : L2.St) (H' : Hp) (v : V), Kp N H H' → Pv i σ' H' → Pt H' (enc l[i]) v →
      g v σ' H' fun σ3 H3 => tb { D with nx := fun σ4 H4 => Kp N H H4 ∧ Pv (i + 1) σ4 H4, ct := fun σ4 H4 => Kp N H H4 ∧ Pv (i + 1) σ4 H4, bk := D.nx } σ3 H3)
    (hd : ∀ (σ' : L2.St) (H' : Hp), Kp N H H' → Pv l.length σ' H' → D.nx σ' H') : ForIn J g tb D σ H := by
  rw [WkD, List.length_map] at w
  refine for_it w (fun i σ' H' => Kp N H H' ∧ Pv i σ' H') ⟨Kp.refl, h0⟩ (fun i σ' H' _ q => q.1) (fun i x σ' H' H'' hi ⟨k1, p⟩ ⟨s2, d, hd', pd⟩ => ?_) fun σ' H' ⟨k1, p⟩ => hd σ' H' k1 p
  rw [List.getElem?_map, List.getElem?_eq_getElem hi, Option.map_some, Option.some.injEq] at hd'
  subst hd'
  exact step i hi σ' H'' x (k1.trans s2.kp) (hst i σ' H' H'' p s2) pd
end
/-- d[x], x a text -/
theorem ev_dgetR {σ : L2.St} {H : Hp} {a : Addr} {x : Str} {v : V} {td ty : TE} {kvs : List (L2.Key × V)} (hd : EvV td σ H (.ref a)) (hy : EvD ty σ H (.str x)) (e : H a = some (.dK kvs)) (l : valV kvs (.inr x) = some v) : EvV (tDGet td ty) σ H v := fun H1 s Q q =>
  hd H1 s _ fun H2 k => hy H2 (s.trans k) _ fun y H3 k3 p => by
    cases pt_str.mp p
    exact ⟨a, v, rfl, .inl ⟨kvs, .inr x, .inl (((s.trans k).trans k3) _ _ e), rfl, l.symm⟩, q H3 (k.trans k3)⟩
/-- tuple(xs) -/
abbrev rTupOf (K : PySem.W.Frag) : List V → Hp → VK → Prop := fun xs H Q => ∃ p ys, xs = [V.ref p] ∧ ((SqL K H p ys ∧ ∀ (l : Addr), H l = none → Q (.ref l) (upd H l (.tup ys))) ∨ (SqT K H p ys ∧ Q (.ref p) H))
/-- a row that the law makes -/
structure RO (r : Row) : Prop where
  ok : r.Ok
  pos : 1 ≤ r.m
def nmH : Bool → Str
  | true => "bridge"
  | false => "room"
abbrev kvH (lo : Bool → Addr) : List (L2.Key × V) := [(.inr "bridge", .ref (lo true)), (.inr "room", .ref (lo false))]
theorem val_kvH (lo : Bool → Addr) (c : Bool) : valV (kvH lo) (.inr (nmH c)) = some (.ref (lo c)) := by cases c <;> rfl
structure Hou (H : Hp) (p ka : Addr) (O : Addr → Prop) (n : Nat) (lo : Bool → Addr) (ro : Bool → List Row) : Prop where
  d : H ka = some (.dK (kvH lo))
  l : ∀ c, ∃ xs, H (lo c) = some (.lst xs) ∧ PtA H ((ro c).map rowD) xs
  ne : lo true ≠ lo false
  o : ∀ c, O (lo c)
  np : ∀ c, lo c ≠ p
  kp : ka ≠ p
  len : ∀ c, (ro c).length ≤ n
  ok : ∀ c, ∀ r ∈ ro c, RO r
section
variable {H H' : Hp} {p ka q : Addr} {O : Addr → Prop} {n m : Nat} {lo : Bool → Addr} {ro : Bool → List Row} {xs ys : List V} {v : V} {r : Row} {rs : List Row}
theorem Hou.nl (h : Hou H p ka O n lo ro) (c : Bool) : noLs ((ro c).map rowD) = true := noLs_map fun r hr => noL_row (h.ok c r hr).ok.w
theorem Hou.neB (h : Hou H p ka O n lo ro) {c d : Bool} (e : c ≠ d) : lo c ≠ lo d := by
  cases c <;> cases d
  · exact (e rfl).elim
  · exact h.ne.symm
  · exact h.ne
  · exact (e rfl).elim
theorem Hou.nk (h : Hou H p ka O n lo ro) (c : Bool) : ka ≠ lo c := fun z => by
  obtain ⟨xs, e, _⟩ := h.l c
  rw [← z, h.d] at e
  cases e
theorem Hou.far (h : Hou H p ka O n lo ro) (k : Kp (· = p) H H') (nk : NOk (· = p) H) : Hou H' p ka O n lo ro := ⟨k.ob _ _ h.d (fun ps z => by cases z) h.kp, fun c => by
  obtain ⟨xs, e, px⟩ := h.l c
  exact ⟨xs, k.ob _ _ e (fun ps z => by cases z) (h.np c), PtA.keepT (nk.tk k) _ _ (h.nl c) px⟩, h.ne, h.o, h.np, h.kp, h.len, h.ok⟩
theorem Hou.same (h : Hou H p ka O n lo ro) (k : Same H H') : Hou H' p ka O n lo ro := ⟨k _ _ h.d, fun c => by
  obtain ⟨xs, e, px⟩ := h.l c
  exact ⟨xs, k _ _ e, PtA.keep k _ _ px⟩, h.ne, h.o, h.np, h.kp, h.len, h.ok⟩
theorem Hou.le (h : Hou H p ka O n lo ro) (k : n ≤ m) : Hou H p ka O m lo ro := ⟨h.d, h.l, h.ne, h.o, h.np, h.kp, fun c => Nat.le_trans (h.len c) k, h.ok⟩
theorem Hou.app (h : Hou H p ka O n lo ro) (c : Bool) (e : H (lo c) = some (.lst xs)) (px : PtA H ((ro c).map rowD) xs) (hr : RO r) (pv : Pt H (rowD r) v) : Hou (upd H (lo c) (.lst (xs ++ [v]))) p ka O (n + 1) lo (fun d => if d = c then ro d ++ [r] else ro d) := by
  have nl := noL_row hr.ok.w
  refine ⟨by rw [upd_ne (h.nk c)]; exact h.d, fun d => ?_, h.ne, h.o, h.np, h.kp, fun d => ?_, fun d => ?_⟩
  · by_cases z : d = c
    · subst z
      rw [if_pos rfl]
      refine ⟨_, upd_same, ?_⟩
      rw [List.map_append]
      exact PtA.keepT (tk_lst e) _ _ (noLs_app (h.nl d) (noLs_one nl)) (px.append (.one pv))
    · rw [if_neg z]
      obtain ⟨ys, e2, py⟩ := h.l d
      exact ⟨ys, by rw [upd_ne (h.neB z)]; exact e2, PtA.keepT (tk_lst e) _ _ (h.nl d) py⟩
  · by_cases z : d = c
    · rw [if_pos z, List.length_append]; have := h.len d; simp; omega
    · rw [if_neg z]; have := h.len d; omega
  · by_cases z : d = c
    · rw [if_pos z]
      intro x hx
      rcases List.mem_append.mp hx with hx | hx
      · exact h.ok d x hx
      · rw [List.mem_singleton.mp hx]; exact hr
    · rw [if_neg z]; exact h.ok d
theorem put_kvH (lo : Bool → Addr) (c : Bool) (q : Addr) : putK (kvH lo) (.inr (nmH c)) (.ref q) = kvH fun d => if d = c then q else lo d := by cases c <;> rfl
theorem Hou.put (h : Hou H p ka O n lo ro) (c : Bool) (e : H q = some (.lst ys)) (py : PtA H (rs.map rowD) ys) (oq : O q) (np : q ≠ p) (nq : ∀ d, d ≠ c → q ≠ lo d) (hm : n ≤ m) (hl : rs.length ≤ m) (hr : ∀ r ∈ rs, RO r) :
    Hou (upd H ka (.dK (kvH fun d => if d = c then q else lo d))) p ka O m (fun d => if d = c then q else lo d) (fun d => if d = c then rs else ro d) := by
  have tk : Tk H (upd H ka (.dK (kvH fun d => if d = c then q else lo d))) := tk_mo h.d True.intro
  have nkq : q ≠ ka := fun z => by rw [z, h.d] at e; cases e
  refine ⟨upd_same, fun d => ?_, ?_, fun d => ?_, fun d => ?_, h.kp, fun d => ?_, fun d => ?_⟩
  · by_cases z : d = c
    · rw [if_pos z, if_pos z]
      exact ⟨ys, by rw [upd_ne nkq]; exact e, PtA.keepT tk _ _ (noLs_map fun r h => noL_row (hr r h).ok.w) py⟩
    · rw [if_neg z, if_neg z]
      obtain ⟨zs, e2, pz⟩ := h.l d
      exact ⟨zs, by rw [upd_ne (h.nk d).symm]; exact e2, PtA.keepT tk _ _ (h.nl d) pz⟩
  · cases c with
    | true => exact nq false (by decide)
    | false => exact (nq true (by decide)).symm
  · by_cases z : d = c
    · rw [if_pos z]; exact oq
    · rw [if_neg z]; exact h.o d
  · by_cases z : d = c
    · rw [if_pos z]; exact np
    · rw [if_neg z]; exact h.np d
  · by_cases z : d = c
    · rw [if_pos z]; exact hl
    · rw [if_neg z]; have := h.len d; omega
  · by_cases z : d = c
    · rw [if_pos z]; exact hr
    · rw [if_neg z]; exact h.ok d
end
/-! what stands besides, while the two logs grow -/
abbrev linesKV : List (Str × Str) := [("port", "star"), ("star", "port"), ("aport", "astar"), ("astar", "aport"), ("down", "down"), ("up", "up")]
abbrev kvO : List (L2.Key × V) := linesKV.map fun q => ((Sum.inr q.1 : L2.Key), V.str q.2)
def otherOf (l : Str) : Str := if l = "port" then "star" else if l = "star" then "port" else if l = "aport" then "astar" else if l = "astar" then "aport" else l
theorem kvO_at {l : Str} (h : l ∈ lines6) : valV kvO (.inr l) = some (.str (otherOf l)) ∧ otherOf l ∈ lines6 ∧ ((otherOf l = "down" ∨ otherOf l = "up") ↔ (l = "down" ∨ l = "up")) := by
  simp only [lines6, List.mem_cons, List.not_mem_nil, or_false] at h
  rcases h with rfl | rfl | rfl | rfl | rfl | rfl <;> decide +kernel
theorem whatOk.other {l l' : Str} {w : PyData} (h : whatOk l w) (e : (l' = "down" ∨ l' = "up") ↔ (l = "down" ∨ l = "up")) : whatOk l' w := by
  rcases h with ⟨a, b⟩ | ⟨a, b⟩
  · exact .inl ⟨e.mpr a, b⟩
  · exact .inr ⟨fun z => a (e.mp z), b⟩
structure Sx (H : Hp) (p ka oa wa : Addr) (O : Addr → Prop) (n : Nat) (lo : Bool → Addr) (ro : Bool → List Row) (ws : List Str) : Prop where
  hou : Hou H p ka O n lo ro
  oth : H oa = some (.dK kvO)
  noa : oa ≠ p
  wds : Words H p wa ws
  nw : ∀ c, lo c ≠ wa
section
variable {H H' : Hp} {p ka oa wa q : Addr} {O : Addr → Prop} {n m : Nat} {lo : Bool → Addr} {ro : Bool → List Row} {ws : List Str} {r : Row} {v : V} {i : Nat}
theorem Sx.far (h : Sx H p ka oa wa O n lo ro ws) (k : Kp (· = p) H H') (nk : NOk (· = p) H) : Sx H' p ka oa wa O n lo ro ws := ⟨h.hou.far k nk, k.ob _ _ h.oth (fun ps z => by cases z) h.noa, h.noa, ⟨k.ob _ _ h.wds.at_ (fun ps z => by cases z) h.wds.ne, h.wds.ne, h.wds.len, h.wds.ok⟩, h.nw⟩
theorem Sx.same (h : Sx H p ka oa wa O n lo ro ws) (k : Same H H') : Sx H' p ka oa wa O n lo ro ws := ⟨h.hou.same k, k _ _ h.oth, h.noa, ⟨k _ _ h.wds.at_, h.wds.ne, h.wds.len, h.wds.ok⟩, h.nw⟩
theorem Sx.le (h : Sx H p ka oa wa O n lo ro ws) (k : n ≤ m) : Sx H p ka oa wa O m lo ro ws := ⟨h.hou.le k, h.oth, h.noa, h.wds, h.nw⟩
theorem Sx.app {xs : List V} (h : Sx H p ka oa wa O n lo ro ws) (c : Bool) (e : H (lo c) = some (.lst xs)) (px : PtA H ((ro c).map rowD) xs) (hr : RO r) (pv : Pt H (rowD r) v) : Sx (upd H (lo c) (.lst (xs ++ [v]))) p ka oa wa O (n + 1) lo (fun d => if d = c then ro d ++ [r] else ro d) ws :=
  ⟨h.hou.app c e px hr pv, by rw [upd_ne (fun z => by have := h.oth; rw [z, e] at this; cases this)]; exact h.oth, h.noa, ⟨by rw [upd_ne (h.nw c).symm]; exact h.wds.at_, h.wds.ne, h.wds.len, h.wds.ok⟩, h.nw⟩
theorem Sx.put {ys : List V} {rs : List Row} (h : Sx H p ka oa wa O n lo ro ws) (c : Bool) (e : H q = some (.lst ys)) (py : PtA H (rs.map rowD) ys) (oq : O q) (np : q ≠ p) (nq : ∀ d, d ≠ c → q ≠ lo d) (nw : q ≠ wa) (nk : oa ≠ ka) (hm : n ≤ m) (hl : rs.length ≤ m) (hr : ∀ r ∈ rs, RO r) :
    Sx (upd H ka (.dK (kvH fun d => if d = c then q else lo d))) p ka oa wa O m (fun d => if d = c then q else lo d) (fun d => if d = c then rs else ro d) ws :=
  ⟨h.hou.put c e py oq np nq hm hl hr, by rw [upd_ne nk]; exact h.oth, h.noa, ⟨by rw [upd_ne (fun z => by have := h.wds.at_; rw [z, h.hou.d] at this; cases this)]; exact h.wds.at_, h.wds.ne, h.wds.len, h.wds.ok⟩, fun d => by
    by_cases z : d = c
    · rw [if_pos z]; exact nw
    · rw [if_neg z]; exact h.nw d⟩
theorem ptA_rep (h : Pt H (rowD r) v) : ∀ n, PtA H ((List.replicate n r).map rowD) (List.replicate n [v]).flatten
  | 0 => .nil
  | n + 1 => by
    rw [List.replicate_succ, List.replicate_succ, List.map_cons, List.flatten_cons]
    exact .cons h (ptA_rep h n)
theorem len_rep (n : Nat) : (List.replicate n [v]).flatten.length = n := by
  induction n with
  | zero => rfl
  | succ n ih => rw [List.replicate_succ, List.flatten_cons, List.length_append, ih]; simp; omega
end
end Ro
namespace Ro
open PySem PySem.Spec PyProof.Rows L2 PySem.W
variable [TabsC]
/-- rows by their minutes -/
structure LogR (B : Log) : Prop where
  so : B.Pairwise fun a b => a.m ≤ b.m
  ok : ∀ r ∈ B, RO r
  len : B.length ≤ 15
def sortR (B : Log) : Log := B.mergeSort (dataLe false fun r => .int r.m)
theorem sortR_perm (B : Log) : (sortR B).Perm B := List.mergeSort_perm ..
theorem noL_log {B : Log} (h : ∀ r ∈ B, whatOk r.l r.w) : noL (logD B) = true := by
  show noLs (B.map rowD) = true
  exact noLs_map fun r hr => noL_row (h r hr)
theorem alike_m (B : Log) : AllAlike (B.map fun r => PyData.int r.m) := fun a ha b hb => by
  obtain ⟨x, _, rfl⟩ := List.mem_map.mp ha
  obtain ⟨y, _, rfl⟩ := List.mem_map.mp hb
  simp [alike]
theorem sortable_m (B : Log) : Sortable (B.map fun r => PyData.int r.m) := .inr fun a ha => by
  obtain ⟨x, _, rfl⟩ := List.mem_map.mp ha
  exact ⟨fun z => (by cases z), fun xs z => (by cases z)⟩
theorem logR_of {B : Log} (h : ∀ r ∈ B, RO r) (hl : B.length ≤ 15) : LogR (sortR B) := ⟨by
  unfold sortR
  rw [dataLe_int]
  have h := List.pairwise_mergeSort (le := fun a b : Row => decide (a.m ≤ b.m)) (by intro a b c h1 h2; simp only [decide_eq_true_eq] at *; omega) (by intro a b; simp only [Bool.or_eq_true, decide_eq_true_eq]; omega) B
  exact h.imp fun h => of_decide_eq_true h, fun r hr => h r ((sortR_perm B).mem_iff.mp hr), by rw [(sortR_perm B).length_eq]; exact hl⟩
def spTwo (K : PySem.W.Frag) : Sp := fun vs H Q _ => ∃ (p : Addr) (m : Nat) (lag d : Int), vs = [.ref p, .int 5, .int lag, .int d] ∧ PenAt H p m ∧ m ≤ 50000 ∧ 0 ≤ lag ∧ lag ≤ 60 ∧ -100 ≤ d ∧ d ≤ 100 ∧ Tb H (tabA K "_law_two") ∧
  ∀ B R v H', LogR B → LogR R → Kp (· = p) H H' → PenAt H' p (m + 500) → Pt H' (.list [logD B, logD R]) v → Q v H'
section
variable {P : Program} {w : World} {K : PySem.W.Frag} {mg : Str → Option Value} {base : Heap}
theorem sc_law_two : FnScope ["_law_pen", "_law_most", "_law_lag", "_law_d", "_law_houses", "_law_others", "_law_words", "_law_at", "_law_k", "_law_way", "_law_what", "_law_down", "_law_late", "_law_here", "_law_there", "_law_line", "_law_house"] ["_law_pen", "_law_most", "_law_lag", "_law_d"] (defScope (top 76)) := ⟨rfl, rfl, rfl, by decide +kernel, rfl, by decide +kernel, by decide +kernel⟩
theorem okF_law_two (T : Ty K mg w base) : ∃ fd, FunD K "_law_two" "_law_two" (defArgs (top 76)) (defBody (top 76)) (defScope (top 76)) [] [] (He.ga K "_law_two") fd ∧ FnOk P w K mg base (L2.CX P w) 8 (He.ga K "_law_two") fd ["_law_pen", "_law_most", "_law_lag", "_law_d"] (spTwo K) := by
  have C1 : Cal P w K mg base 1 "_law_draw" ["_law_pen", "_law_many"] spDraw := ok_law_draw T.toTx
  have C2 : Cal P w K mg base 2 "_law_word" ["_law_pen"] spWord := ok_law_word T.toTx
  have C3 : Cal P w K mg base 2 "_law_row" ["_law_pen", "_law_minute", "_law_words"] spRow := ok_law_row T.toTx
  obtain ⟨g, fd, F⟩ := T.f_law_two
  refine ⟨fd, F, okC (p := ("_law_two", none)) F rfl sc_law_two (fun vs H Q E h => ?_) (fun cdv hcd A outer s H vs Q E hr h => ?_)⟩
  · obtain ⟨p, m, lag, d, rfl, _⟩ := h; rfl
  · obtain ⟨p, m, lag, d, rfl, pen, hm, g0, g1, d0, d1, tb, k⟩ := h
    have nd := sc_law_two.nd
    have hu := hr.units
    subst hcd
    refine ⟨_, (pss_cons (ps_set (i := 4) nd rfl (.inr rfl) (pe_disp (pps_cons pe_str (pe_lst pa_nil) (pps_cons pe_str (pe_lst pa_nil) pps_nil)) rfl rfl (by simp) (by decide))) (pss_cons (ps_set (i := 5) nd rfl (.inl rfl) (pe_disp (pps_cons pe_str pe_str (pps_cons pe_str pe_str (pps_cons pe_str pe_str (pps_cons pe_str pe_str (pps_cons pe_str pe_str (pps_cons pe_str pe_str pps_nil)))))) rfl rfl (by simp) (by decide))) (pss_cons (ps_set (i := 6) nd rfl (.inl rfl) (pe_lst (pa_cons (pe_str) (pa_cons (pe_str) (pa_cons (pe_cal C2 (hr.mono (by decide)) (pa_cons (pv 0) pa_nil)) pa_nil))))) (pss_cons (ps_set (i := 7) nd rfl (.inl rfl) (pe_op op_add (pe_int) (pe_cal C1 (hr.mono (by decide)) (pa_cons (pv 0) (pa_cons (pe_int) pa_nil))))) (pss_cons (ps_for (passes_of rfl) rfl (pi_range1 rfl T.n_range (pa_cons (pe_cal C1 (hr.mono (by decide)) (pa_cons (pv 0) (pa_cons (pe_op op_add (pv 1) (pe_int)) pa_nil))) pa_nil)) (pg_name (i := 8) nd rfl (.inl rfl))
        (pss_cons (ps_set (i := 9) nd rfl (.inl rfl) (pe_cal C1 (hr.mono (by decide)) (pa_cons (pv 0) (pa_cons (pe_int) pa_nil)))) (pss_cons (ps_set (i := 7) nd rfl (.inl rfl) (pe_op op_add (pv 7) (pe_ix ix_list (pe_lst (pa_cons (pe_int) (pa_cons (pe_int) (pa_cons (pe_cal C1 (hr.mono (by decide)) (pa_cons (pv 0) (pa_cons (pe_int) pa_nil))) (pa_cons (pe_cal C1 (hr.mono (by decide)) (pa_cons (pv 0) (pa_cons (pe_int) pa_nil))) pa_nil))))) (pe_cal C1 (hr.mono (by decide)) (pa_cons (pv 0) (pa_cons (pe_int) pa_nil))) (fun _ _ => rfl)))) (pss_cons (ps_set (i := 10) nd rfl (.inl rfl) (pe_cal C3 (hr.mono (by decide)) (pa_cons (pv 0) (pa_cons (pv 7) (pa_cons (pv 6) pa_nil))))) (pss_cons (ps_set (i := 11) nd rfl (.inl rfl) (pe_cmpR op_in_seq (pe_ix ix_tup (pv 10) (pe_int) (fun _ _ => rfl)) (pe_tup (pa_cons (pe_str) (pa_cons (pe_str) (pa_cons (pe_str) pa_nil)))) rfl)) (pss_cons (ps_set (i := 12) nd rfl (.inl rfl) (pe_op op_add (pe_op op_add (pv 7) (pe_cal C1 (hr.mono (by decide)) (pa_cons (pv 0) (pa_cons (pe_op op_add (pv 2) (pe_int)) pa_nil)))) (pe_op op_mul (pv 3) (pe_callTy call_int1 rfl T.n_int (by decide +kernel) (pa_cons (pv 11) pa_nil))))) (pss_cons (ps_asg (pe_ix ix_list (pe_lst (pa_cons (pe_tup (pa_cons (pe_str) (pa_cons (pe_str) pa_nil))) (pa_cons (pe_tup (pa_cons (pe_str) (pa_cons (pe_str) pa_nil))) pa_nil))) (pe_callTy call_int1 rfl T.n_int (by decide +kernel) (pa_cons (pv 11) pa_nil)) (fun _ _ => rfl)) (pg_tup rfl (pgs_cons (pg_name (i := 13) nd rfl (.inl rfl)) (pgs_cons (pg_name (i := 14) nd rfl (.inl rfl)) pgs_nil)))) (pss_cons (ps_if (pt_cmpR op_ne (pv 9) pe_int (nomark _)) (pss_one (ps_expr (pe_bm PySem.F.plainAttrs_list PySem.F.slot_list_append PySem.F.type_list_append mt_append (pe_dget hr.u1 (pv 4) (pv 13) (fun _ _ => rfl)) (pa_cons (pe_op op_catA (pe_tup (pa_cons (pe_op op_add (pv 7) (pe_op op_mul (pv 3) (pe_callTy call_int1 rfl T.n_int (by decide +kernel) (pa_cons (pe_not (pv 11)) pa_nil)))) pa_nil)) (pe_slice (r := rSlA K) sl_tupA (pv 10) (po_some pe_int) po_none)) pa_nil)))) pss_nil) (pss_one (ps_if (pt_cmpR op_ne (pv 9) pe_int (nomark _)) (pss_cons (ps_set (i := 15) nd rfl (.inl rfl) (pe_ix ix_list (pe_lst (pa_cons (pe_ix ix_tup (pv 10) (pe_int) (fun _ _ => rfl)) (pa_cons (pe_dget hr.u1 (pv 5) (pe_ix ix_tup (pv 10) (pe_int) (fun _ _ => rfl)) (fun _ _ => rfl)) pa_nil))) (pe_callTy call_int1 rfl T.n_int (by decide +kernel) (pa_cons (pe_cmpR op_eq (pv 9) pe_int (nomark _)) pa_nil)) (fun _ _ => rfl))) (pss_one (ps_dput hr.u1 (pv 4) (pv 14) (pe_op op_cat (pe_dget hr.u1 (pv 4) (pv 14) (fun _ _ => rfl)) (pe_op op_rep (pe_lst (pa_cons (pe_tup (pa_cons (pv 12) (pa_cons (pv 15) (pa_cons (pe_ix ix_tup (pv 10) (pe_int) (fun _ _ => rfl)) pa_nil)))) pa_nil)) (pe_op op_add (pe_int) (pe_callTy call_int1 rfl T.n_int (by decide +kernel) (pa_cons (pe_cmpR op_eq (pv 9) pe_int (nomark _)) pa_nil))))) rfl))) pss_nil)))))))))) (pss_one (ps_ret (pe_lc (own := [("_law_house", 16)]) (g := gName 16) (tt := tYes) rfl nd (pi_tup (pe_tup (pa_cons (pe_str) (pa_cons (pe_str) pa_nil)))) (blkOk_by (N := ["_law_pen", "_law_most", "_law_lag", "_law_d", "_law_houses", "_law_others", "_law_words", "_law_at", "_law_k", "_law_way", "_law_what", "_law_down", "_law_late", "_law_here", "_law_there", "_law_line", "_law_house"]) (sc := defScope (top 76)) (by decide +kernel)) (fun _ _ _ _ _ => pg_name (i := 16) nd rfl (.inl rfl)) (fun _ _ _ _ _ => pts_nil) (fun _ _ _ _ _ => pe_callTy (T := "tuple") (r := rTupOf K) call_tuple_of rfl T.n_tuple (by decide +kernel) (pa_cons (pe_sortLam (k := 6) (x := "_law_row_here") (KR := keyAt 0) hr rfl T.n_sorted (pa_cons (pe_dget hr.u1 (pv 4) (pv 16) (fun _ _ => rfl)) pa_nil) T.tb_two rfl T.nm_two rfl (lamOk_at rfl (by decide) rfl (fun _ _ _ => rfl) (by decide)) (fun _ _ _ _ => rfl) rfl rfl rfl rfl (by decide +kernel) rfl) pa_nil)))))))))), ?_⟩
    have e0 : ∀ {σ : L2.St} {H : Hp}, σ[0]? = some (some (.ref p)) → EvV (tVar 0) σ H (.ref p) := fun h => ev_var h
    have eI : ∀ {σ : L2.St} {H : Hp} {x : Nat} {z : Int}, σ[x]? = some (some (.int z)) → EvD (tVar x) σ H (.int z) := fun h => ed_var h (pt_int.mpr rfl)
    intro ka hka
    refine ⟨by show 0 ≤ sizeLine; decide, fun b0 hb0 => ⟨by show 0 ≤ sizeLine; decide, fun r0 hr0 => ?_⟩⟩
    have nkb : ka ≠ b0 := fun z => by rw [← z, upd_same] at hb0; cases hb0
    have nkr : ka ≠ r0 := fun z => by rw [← z, upd_ne nkb, upd_same] at hr0; cases hr0
    have nbr : b0 ≠ r0 := fun z => by rw [← z, upd_same] at hr0; cases hr0
    have hb0' : H b0 = none := (same_new hka).nn _ hb0
    have hr0' : H r0 = none := (same_new hka).nn _ ((same_new hb0).nn _ hr0)
    refine ⟨by rw [upd_ne nkr, upd_ne nkb, upd_same], [(.inr "bridge", .ref b0), (.inr "room", .ref r0)], rfl, by show 2 ≤ 15; omega, ?_⟩
    have sm4 : Same H (upd (upd (upd (upd H ka (.dK [])) b0 (.lst [])) r0 (.lst [])) ka (.dK (mergeK [] [(.inr "bridge", .ref b0), (.inr "room", .ref r0)]))) :=
      (((same_new hka).trans (same_new hb0)).trans (same_new hr0)).mut hka (u := .dK []) (by rw [upd_ne nkr, upd_ne nkb, upd_same]) True.intro
    have f1 : (upd (upd (upd (upd H ka (.dK [])) b0 (.lst [])) r0 (.lst [])) ka (.dK (mergeK [] [(.inr "bridge", .ref b0), (.inr "room", .ref r0)]))) ka = some (.dK (kvH fun c => if c = true then b0 else r0)) := upd_same
    have f2 : (upd (upd (upd (upd H ka (.dK [])) b0 (.lst [])) r0 (.lst [])) ka (.dK (mergeK [] [(.inr "bridge", .ref b0), (.inr "room", .ref r0)]))) b0 = some (.lst []) := by rw [upd_ne nkb.symm, upd_ne nbr, upd_same]
    have f3 : (upd (upd (upd (upd H ka (.dK [])) b0 (.lst [])) r0 (.lst [])) ka (.dK (mergeK [] [(.inr "bridge", .ref b0), (.inr "room", .ref r0)]))) r0 = some (.lst []) := by rw [upd_ne nkr.symm, upd_same]
    generalize upd (upd (upd (upd H ka (.dK [])) b0 (.lst [])) r0 (.lst [])) ka (.dK (mergeK [] [(.inr "bridge", .ref b0), (.inr "room", .ref r0)])) = H4 at sm4 f1 f2 f3
    have pen4 := pen.same sm4
    intro oa hoa
    refine ⟨upd_same, [(.inr "port", .str "star"), (.inr "star", .str "port"), (.inr "aport", .str "astar"), (.inr "astar", .str "aport"), (.inr "down", .str "down"), (.inr "up", .str "up")], rfl, by show 6 ≤ 15; omega, ?_⟩
    have sm5 : Same H4 (upd (upd H4 oa (.dK [])) oa (.dK (mergeK [] [(.inr "port", .str "star"), (.inr "star", .str "port"), (.inr "aport", .str "astar"), (.inr "astar", .str "aport"), (.inr "down", .str "down"), (.inr "up", .str "up")]))) := (same_new hoa).mut hoa (u := .dK []) upd_same True.intro
    have f5 : (upd (upd H4 oa (.dK [])) oa (.dK (mergeK [] [(.inr "port", .str "star"), (.inr "star", .str "port"), (.inr "aport", .str "astar"), (.inr "astar", .str "aport"), (.inr "down", .str "down"), (.inr "up", .str "up")]))) oa = some (.dK kvO) := upd_same
    generalize upd (upd H4 oa (.dK [])) oa (.dK (mergeK [] [(.inr "port", .str "star"), (.inr "star", .str "port"), (.inr "aport", .str "astar"), (.inr "astar", .str "aport"), (.inr "down", .str "down"), (.inr "up", .str "up")])) = H5 at sm5 f5
    have pen5 := pen4.same sm5
    have noap : oa ≠ p := pen4.ne hoa
    refine ⟨_, rfl, p, m, rfl, pen5, by omega, fun x H6 hx k6 p6 => ⟨by show 3 ≤ sizeLine; decide, fun wa hwa => ?_⟩⟩
    have hnp : ∀ {a : Addr}, H a = none → a ≠ p := fun h => pen.ne h
    have wds7 : Words (upd H6 wa (.lst [.str "stop", .str "port", .str x])) p wa ["stop", "port", x] := ⟨upd_same, p6.ne hwa, rfl, fun y hy => by
      simp only [List.mem_cons, List.not_mem_nil, or_false] at hy
      rcases hy with rfl | rfl | rfl
      · exact someWords_ok _ (by simp)
      · exact someWords_ok _ (by simp)
      · exact hx⟩
    have kp7 : Kp (· = p) H4 (upd H6 wa (.lst [.str "stop", .str "port", .str x])) := (sm5.kp.trans k6).new hwa
    have p7 := p6.same (same_new (o := .lst [.str "stop", .str "port", .str x]) hwa)
    have f5' : (upd H6 wa (.lst [.str "stop", .str "port", .str x])) oa = some (.dK kvO) := same_new hwa _ _ (k6.ob _ _ f5 (fun ps z => by cases z) noap)
    show tSeq _ _ _ _ (upd H6 wa (.lst [.str "stop", .str "port", .str x]))
    generalize upd H6 wa (.lst [.str "stop", .str "port", .str x]) = H7 at wds7 kp7 p7 f5'
    refine run_draw (e0 rfl) ed_int p7 (by omega) (by decide) (by decide) fun a0 H8 a1 a2 k8 p8 => ⟨1500, a0, rfl, rfl, ?_⟩
    refine q_forRng (run_draw (e0 rfl) (ed_op (eI rfl) ed_int rd_ii) p8 (by omega) (by decide) (by decide) fun j H9 j0 j1 k9 p9 => ⟨j, rfl, by omega, by omega, ?_⟩)
    have kp9 : Kp (· = p) H4 H9 := (kp7.trans k8).trans k9
    have S9 : Sx H9 p ka oa wa (fun a => (a = p ∨ a = ka ∨ a = b0 ∨ a = r0) ∨ H9 a = none) 0 (fun c => if c = true then b0 else r0) (fun _ => []) ["stop", "port", x] := by
      refine ⟨⟨kp9.ob _ _ f1 (fun ps z => by cases z) (hnp hka), fun c => ?_, by simpa using nbr, fun c => ?_, fun c => ?_, hnp hka, fun c => Nat.zero_le _, fun c r hr => by cases hr⟩, ?_, noap, ⟨?_, wds7.ne, rfl, wds7.ok⟩, fun c => ?_⟩
      · cases c with
        | true => exact ⟨[], kp9.ob _ _ f2 (fun ps z => by cases z) (hnp hb0'), .nil⟩
        | false => exact ⟨[], kp9.ob _ _ f3 (fun ps z => by cases z) (hnp hr0'), .nil⟩
      · cases c with
        | true => exact .inl (.inr (.inr (.inl rfl)))
        | false => exact .inl (.inr (.inr (.inr rfl)))
      · cases c with
        | true => exact hnp hb0'
        | false => exact hnp hr0'
      · exact (k8.trans k9).ob _ _ f5' (fun ps z => by cases z) noap
      · exact (k8.trans k9).ob _ _ wds7.at_ (fun ps z => by cases z) wds7.ne
      · have g2 : H6 b0 = some (.lst []) := (sm5.kp.trans k6).ob _ _ f2 (fun ps z => by cases z) (hnp hb0')
        have g3 : H6 r0 = some (.lst []) := (sm5.kp.trans k6).ob _ _ f3 (fun ps z => by cases z) (hnp hr0')
        cases c with
        | true => exact fun z => by rw [show b0 = wa from z, hwa] at g2; cases g2
        | false => exact fun z => by rw [show r0 = wa from z, hwa] at g3; cases g3
    refine for_in (N := fun a => a = p ∨ a = ka ∨ a = b0 ∨ a = r0) (List.range j.toNat) (fun k => .int (0 + (k : Nat))) wk_rng (fun i σ' H' => (∃ (at_ : Int) (x8 x9 x10 x11 x12 x13 x14 x15 x16 : Option V), σ' = [some (.ref p), some (.int 5), some (.int lag), some (.int d), some (.ref ka), some (.ref oa), some (.ref wa), some (.int at_), x8, x9, x10, x11, x12, x13, x14, x15, x16] ∧ 1500 ≤ at_ ∧ at_ ≤ 2500 + 40 * (i : Nat)) ∧
        PenAt H' p (m + 30 + 20 * i) ∧ ∃ lo ro, Sx H' p ka oa wa (fun a => (a = p ∨ a = ka ∨ a = b0 ∨ a = r0) ∨ H9 a = none) (3 * i) lo ro ["stop", "port", x])
      ⟨⟨_, _, _, _, _, _, _, _, _, _, rfl, by omega, by omega⟩, p9.le (by omega), _, _, S9⟩
      (fun i σ' H' H'' ⟨e, pa, lo, ro, S⟩ s => ⟨e, pa.same s, lo, ro, S.same s⟩) ?_ ?_
    · rintro i hi σ' H' u kp ⟨⟨at_, x8, x9, x10, x11, x12, x13, x14, x15, x16, rfl, t1, t2⟩, pA, lo, ro, S⟩ _
      rw [List.length_range] at hi
      refine run_draw (e0 rfl) ed_int pA (by omega) (by decide) (by decide) fun way H1 w0 w1 k1 p1 => ?_
      have S1 := S.far k1 pA.nok
      refine ⟨_, rfl, run_draw (e0 rfl) ed_int p1 (by omega) (by decide) (by decide) fun a5 H2 u0 u1 k2 p2 => run_draw (e0 rfl) ed_int p2 (by omega) (by decide) (by decide) fun a40 H3 u2 u3 k3 p3 => ⟨by show 4 ≤ sizeLine; decide, fun y hy => run_ixDraw upd_same (p3.ne hy) (e0 rfl) ed_int (p3.same (same_new hy)) (by omega) (by show 1 ≤ 4; decide) (by show 4 < 1000000; decide) fun v H4 mv k4 p4 => ?_⟩⟩
      obtain ⟨da, rfl, da0, da1⟩ : ∃ da, v = .int da ∧ 0 ≤ da ∧ da ≤ 40 := by
        simp only [List.mem_cons, List.not_mem_nil, or_false] at mv
        rcases mv with rfl | rfl | rfl | rfl
        · exact ⟨_, rfl, by omega, by omega⟩
        · exact ⟨_, rfl, by omega, by omega⟩
        · exact ⟨_, rfl, by omega, by omega⟩
        · exact ⟨_, rfl, by omega, by omega⟩
      have S4 := (((S1.far k2 p1.nok).far k3 p2.nok).same (same_new (o := .lst [.int 0, .int 1, .int a5, .int a40]) hy)).far k4 (p3.same (same_new (o := .lst [.int 0, .int 1, .int a5, .int a40]) hy)).nok
      have kp4 := (((k1.trans k2).trans k3).new (o := .lst [.int 0, .int 1, .int a5, .int a40]) hy).trans k4
      refine ⟨at_, da, rfl, rfl, ?_⟩
      refine ⟨_, rfl, _, rfl, _, rfl, p, wa, _, at_ + da, _, rfl, p4, by omega, S4.wds, fun r v H5 er1 er2 er3 k5 p5 pv => ?_⟩
      have S5 := S4.far k5 p4.nok
      refine q_set (d := .bool (decide (r.l = "port" ∨ r.l = "star" ∨ r.l = "down"))) (ed_inTup3 (ed_op (ed_var rfl pv) ed_int (rd_ixT (d := .str r.l) rfl))) fun vd H6 k6 pd => ?_
      cases pt_bl.mp pd
      generalize decide (r.l = "port" ∨ r.l = "star" ∨ r.l = "down") = dn at *
      have p6 := p5.same k6
      refine ⟨_, rfl, run_draw (e0 rfl) (ed_op (eI rfl) ed_int rd_ii) p6 (by omega) (by omega) (by omega) fun ld H7 l0 l1 k7 p7 => ⟨at_ + da, ld, rfl, rfl, ?_⟩⟩
      have hdd : ∀ b : Bool, -100 ≤ d * (if b then 1 else 0) ∧ d * (if b then 1 else 0) ≤ 100 := fun b => by cases b <;> simp <;> omega
      have hmul : CMul d 0 := .inl ⟨by omega, by omega⟩
      refine EvD.run (ed_op (eI rfl) (ed_intB (ed_var rfl (pt_bl.mpr rfl))) (rd_ci (C := CMul) (g := fun i j => i * j) (.inl ⟨by omega, by omega⟩))) fun v8 H8' k8' pv8 => ?_
      cases pt_int.mp pv8
      refine ⟨_, _, rfl, rfl, ?_⟩
      have kpN : Kp (fun a => a = p ∨ a = ka ∨ a = b0 ∨ a = r0) H9 H8' := kp.trans ((((kp4.trans k5).trans k6.kp).trans (k7.trans k8'.kp)).mono fun a h => .inl h)
      have S8 := ((S5.same k6).far k7 p6.nok).same k8'
      have p8' := p7.same k8'
      have pv8 : Pt H8' (rowD r) v := (Pt.keepT (p6.nok.tk k7) _ _ (noL_row er3) (pv.keep k6)).keep k8'
      have hl1 : 1300 ≤ at_ + da + ld + d * (if dn = true then 1 else 0) ∧ at_ + da + ld + d * (if dn = true then 1 else 0) ≤ 4000 := by have := hdd dn; omega
      refine q_unp2 (d := .str (nmH dn)) (e := .str (nmH (!dn))) (ed_op (en_lst (ea_cons (ed_tup (ea_cons ed_str (ea_one ed_str)) (by show 2 ≤ sizeLine; decide)) (ea_one (ed_tup (ea_cons ed_str (ea_one ed_str)) (by show 2 ≤ sizeLine; decide)))) (by show 2 ≤ sizeLine; decide)).dd (ed_intB (ed_var rfl (pt_bl.mpr rfl))) (rd_ixL (by cases dn <;> rfl))) fun xh xt H10 k10 ph pt => ?_
      cases pt_str.mp ph
      cases pt_str.mp pt
      refine q_cut (Iv := fun σ' H' => σ' = [some (.ref p), some (.int 5), some (.int lag), some (.int d), some (.ref ka), some (.ref oa), some (.ref wa), some (.int (at_ + da)), some u, some (.int way), some v, some (.bl dn), some (.int (at_ + da + ld + d * (if dn = true then 1 else 0))), some (.str (nmH dn)), some (.str (nmH (!dn))), x15, x16] ∧
        PenAt H' p (m + 30 + 20 * (i + 1)) ∧ Pt H' (rowD r) v ∧ (∃ lo ro, Sx H' p ka oa wa (fun a => (a = p ∨ a = ka ∨ a = b0 ∨ a = r0) ∨ H9 a = none) (3 * i + 1) lo ro ["stop", "port", x]) ∧ Kp (fun a => a = p ∨ a = ka ∨ a = b0 ∨ a = r0) H9 H') ?_ (fun go => ?_)
      · rintro σ' H' ⟨rfl, pA', pv', ⟨lo, ro, S⟩, kpN'⟩
        generalize at_ + da + ld + d * (if dn = true then 1 else 0) = late at *
        refine s_when (eb_T (ed_op (eI rfl) ed_int rd_neI)) (fun hc H10 k10 => ?_) (fun hc H10 k10 => ⟨kpN'.trans k10.kp, ⟨_, _, _, _, _, _, _, _, _, _, rfl, by omega, by omega⟩, (pA'.same k10).le (by omega), lo, ro, (S.same k10).le (by omega)⟩)
        have S10 := S.same k10
        obtain ⟨q1, q2, q3⟩ := kvO_at er2
        obtain ⟨l', hl'⟩ : ∃ l', l' = if way = 2 then otherOf r.l else r.l := ⟨_, rfl⟩
        have q4 : l' ∈ lines6 ∧ whatOk l' r.w := by
          rw [hl']
          split
          · exact ⟨q2, er3.other q3⟩
          · exact ⟨er2, er3⟩
        refine q_set (d := .str l') (ed_op (en_lst (ea_cons (ed_op (ed_var rfl (pv'.keep k10)) ed_int (rd_ixT (d := .str r.l) rfl)) (ea_one ((ev_dgetR (ev_var rfl) (ed_op (ed_var rfl (pv'.keep k10)) ed_int (rd_ixT (d := .str r.l) rfl)) S10.oth q1).toD (pt_str.mpr rfl)))) (by show 2 ≤ sizeLine; decide)).dd (ed_intB (ed_op (eI rfl) ed_int rd_eqI)) (rd_ixL (by
          rw [hl']
          by_cases z : way = 2
          · rw [decide_eq_true z, if_pos z]; rfl
          · rw [decide_eq_false z, if_neg z]; rfl))) fun vl H11 k11 pl => ?_
        cases pt_str.mp pl
        have S11 := S10.same k11
        obtain ⟨xs, exs, pxs⟩ := S11.hou.l (!dn)
        refine ⟨_, rfl, _, rfl, ka, .ref (lo (!dn)), rfl, .inl ⟨kvH lo, .inr (nmH (!dn)), .inl S11.hou.d, rfl, (val_kvH lo (!dn)).symm⟩, ?_⟩
        refine (en_lst (ea_one (ed_tup (ea_cons (eI rfl) (ea_cons (ed_var rfl (pt_str.mpr rfl)) (ea_one (ed_op (ed_var rfl (pv'.keep (k10.trans k11))) ed_int (rd_ixT (d := r.w) rfl))))) (by show 3 ≤ sizeLine; decide))) (by show 1 ≤ sizeLine; decide) : EvN _ _ H11 [rowD ⟨late, l', r.w⟩]) H11 (Same.refl _) _ fun y ys H12 hy k12 ey py => ?_
        refine EvD.run (ed_op ed_int (ed_intB (ed_op (eI rfl) ed_int rd_eqI)) rd_ii) fun vk H13 k13 pk => ?_
        cases pt_int.mp pk
        obtain ⟨v2, rfl, pv2⟩ := ptA1 py
        obtain ⟨n, hn, hn2⟩ : ∃ n : Nat, (1 + (if decide (way = 3) = true then 1 else 0) : Int) = (n : Int) ∧ n ≤ 2 := by
          by_cases z : way = 3
          · rw [decide_eq_true z]; exact ⟨2, rfl, by omega⟩
          · rw [decide_eq_false z]; exact ⟨1, rfl, by omega⟩
        refine ⟨y, (n : Int), [v2], rfl, congrArg V.int hn, k13 _ _ ey, by omega, by omega, by show 1 * (n : Int).toNat ≤ sizeLine; rw [sizeLine_eq]; omega, fun z hz => ?_⟩
        rw [Int.toNat_natCast]
        have e13 : H13 (lo (!dn)) = some (.lst xs) := (k12.trans k13) _ _ exs
        have hxl : xs.length ≤ 100 := by rw [pxs.length, List.length_map]; have := S11.hou.len (!dn); omega
        refine ⟨lo (!dn), z, xs, _, rfl, rfl, same_new hz _ _ e13, upd_same, by rw [len_rep, sizeLine_eq]; omega, fun q hq => ⟨_, rfl, _, rfl, ka, _, rfl, DPut.k (k := .inr (nmH (!dn))) (same_new hq _ _ (same_new hz _ _ ((k12.trans k13) _ _ S11.hou.d))) (by rw [sizeLine_eq]; show 2 < 16777216; decide), ?_⟩⟩
        rw [put_kvH]
        have kz : Same H13 (upd (upd H13 z (.lst (List.replicate n [v2]).flatten)) q (.lst (xs ++ (List.replicate n [v2]).flatten))) := (same_new hz).trans (same_new hq)
        have k1q := (((k10.trans k11).trans k12).trans k13).trans kz
        have Sq := S.same k1q
        have pq : PtA (upd (upd H13 z (.lst (List.replicate n [v2]).flatten)) q (.lst (xs ++ (List.replicate n [v2]).flatten))) ((ro (!dn) ++ List.replicate n (⟨late, l', r.w⟩ : Row)).map rowD) (xs ++ (List.replicate n [v2]).flatten) := by
          rw [List.map_append]
          exact (PtA.keep ((k12.trans k13).trans kz) _ _ pxs).append (ptA_rep (pv2.keep (k13.trans kz)) n)
        have hq13 : H13 q = none := (same_new hz).nn _ hq
        have hqH : H' q = none := (((k10.trans k11).trans k12).trans k13).nn _ hq13
        have Sp := Sq.put (q := q) (m := 3 * (i + 1)) (!dn) upd_same pq (.inr (kpN'.nn _ hqH)) (pA'.ne hqH) (fun c _ z => by
            obtain ⟨zs, e, _⟩ := S.hou.l c
            rw [← z, hqH] at e; cases e) (fun z => by have := S.wds.at_; rw [← z, hqH] at this; cases this) (fun z => by rw [z, f1] at hoa; cases hoa) (by omega)
          (by rw [List.length_append, List.length_replicate]; have := S.hou.len (!dn); omega)
          (fun r' hr' => by
            rcases List.mem_append.mp hr' with h | h
            · exact S.hou.ok (!dn) r' h
            · rw [(List.mem_replicate.mp h).2]
              exact ⟨⟨by show 0 ≤ late; omega, by show late ≤ 99999; omega, q4.1, q4.2⟩, by show 1 ≤ late; omega⟩)
        refine ⟨(kpN'.trans k1q.kp).step (M := (· = ka)) (Kp.refl.mut rfl Sq.hou.d True.intro) (fun a ha => .inl (.inr (.inl ha))), ⟨_, _, _, _, _, _, _, _, _, _, rfl, by omega, by omega⟩, ?_, _, _, Sp⟩
        exact (pA'.same k1q).far (N := (· = ka)) (Kp.refl.mut rfl Sq.hou.d True.intro) (nok1 Sq.hou.d True.intro) (fun z => S.hou.kp z.symm)
      · have S10 := S8.same k10
        refine q_when (eb_T (ed_op (eI rfl) ed_int rd_neI)) (fun hc H11 k11 => ?_) (fun hc H11 k11 => go _ _ ⟨rfl, (p8'.same (k10.trans k11)).le (by omega), pv8.keep (k10.trans k11), ⟨lo, ro, (S10.same k11).le (by omega)⟩, kpN.trans (k10.trans k11).kp⟩)
        have S11 := S10.same k11
        obtain ⟨xs, exs, pxs⟩ := S11.hou.l dn
        refine ⟨_, rfl, _, rfl, ka, .ref (lo dn), rfl, .inl ⟨kvH lo, .inr (nmH dn), .inl S11.hou.d, rfl, (val_kvH lo dn).symm⟩, .inl ⟨rfl, xs, SqL.of exs⟩, ?_⟩
        refine EvD.run (d := rowD ⟨at_ + da + d * (if (!dn) = true then 1 else 0), r.l, r.w⟩) ((ed_catA (ed_tup (ea_one (ed_op (eI rfl) (ed_op (eI rfl) (ed_intB (ed_notV (ed_var rfl (pt_bl.mpr rfl)))) (rd_ci (C := CMul) (g := fun i j => i * j) (.inl ⟨by omega, by omega⟩))) rd_ii)) (by show 1 ≤ sizeLine; decide)) (ed_slA (ed_var rfl (pv8.keep (k10.trans k11))) (eo_some ed_int) eo_none) (by show 1 + 2 ≤ 1000; decide)).to rfl) fun v1 H12 k12 pv12 => ?_
        have hr : RO ⟨at_ + da + d * (if (!dn) = true then 1 else 0), r.l, r.w⟩ := by
          have := hdd (!dn)
          exact ⟨⟨by show 0 ≤ at_ + da + _; omega, by show at_ + da + _ ≤ 99999; omega, er2, er3⟩, by show 1 ≤ at_ + da + _; omega⟩
        have hxl : xs.length ≤ 100 := by rw [pxs.length, List.length_map]; have := S11.hou.len dn; omega
        have S12 := (S11.same k12).app dn (k12 _ _ exs) (PtA.keep k12 _ _ pxs) hr pv12
        have olo := S11.hou.o dn
        have nlp := S11.hou.np dn
        refine ⟨lo dn, xs, v1, rfl, rfl, k12 _ _ exs, sizes1 (by omega), go _ _ ⟨rfl, ?_, ?_, ⟨lo, _, S12⟩, ?_⟩⟩
        · exact ((p8'.same ((k10.trans k11).trans k12)).far (N := (· = lo dn)) (Kp.refl.mut rfl (k12 _ _ exs) True.intro) (nok1 (k12 _ _ exs) True.intro) (fun z => nlp z.symm)).le (by omega)
        · exact Pt.keepT (tk_lst (k12 _ _ exs)) _ _ (noL_row er3) (pv8.keep ((k10.trans k11).trans k12))
        · exact (kpN.trans ((k10.trans k11).trans k12).kp).step (M := (· = lo dn)) (Kp.refl.mut rfl (k12 _ _ exs) True.intro) (fun a ha => by rw [show a = lo dn from ha]; exact olo)
    · rintro σ' H' kp ⟨⟨at_, x8, x9, x10, x11, x12, x13, x14, x15, x16, rfl, t1, t2⟩, pA, lo, ro, S⟩
      rw [List.length_range] at pA S
      have kpH : Kp (· = p) H H' := (sm4.kp.trans kp9).step kp fun a ha => by
        rcases ha with h | h | h | h
        · exact .inl h
        · exact .inr (h ▸ hka)
        · exact .inr (h ▸ hb0')
        · exact .inr (h ▸ hr0')
      have tb' := kpH.tb _ tb
      have hlen := S.hou.len
      have en := en_lc (t := tYes) (te := tCB (rTupOf K) (tCons (tSortLam (tabA K "_law_two") (keyAt 0) (tCons (tDGet (tVar 4) (tVar 16)) tNil)) tNil)) (gt := gName 16) (vs := [16]) (wi := iTup K (tTup (tCons (tC (.str "bridge")) (tCons (tC (.str "room")) tNil))))
        (σ := [some (.ref p), some (.int 5), some (.int lag), some (.int d), some (.ref ka), some (.ref oa), some (.ref wa), some (.int at_), x8, x9, x10, x11, x12, x13, x14, x15, x16]) (H := H') [true, false] (fun c => .str (nmH c)) (fun _ => true) (fun c => logD (sortR (ro c))) (by decide) (fun c _ _ => noL_log (fun r hr => (S.hou.ok c r ((sortR_perm _).mem_iff.mp hr)).ok.w))
        (ei_tup (ed_tup (ea_cons ed_str (ea_one ed_str)) (by show 2 ≤ sizeLine; decide))) (fun c hc v H2 k2 pv => ⟨_, fun Q q => q, rfl, fun H3 _ Q q => q H3 (Same.refl H3), fun _ => by
          obtain ⟨xs, exs, pxs⟩ := (S.hou.same k2).l c
          exact ed_tupOf (en_sortLam (key := fun r : Row => .int r.m) (l := ro c) (enc := rowD) (ea_one ((ev_dgetR (ev_var rfl) (ed_var rfl pv) (S.hou.same k2).d (val_kvH lo c)).toD (pt_lst.mpr ⟨lo c, xs, rfl, exs, pxs⟩))) (k2.tb _ tb') (alike_m _) (sortable_m _) fun x _ => ⟨by simp [PyData.depth], _, x.m, rfl, rfl, rfl⟩)⟩)
      refine s_ret en.dd fun v H2 k2 pv => k (sortR (ro true)) (sortR (ro false)) v H2 (logR_of (S.hou.ok true) (by have := hlen true; omega)) (logR_of (S.hou.ok false) (by have := hlen false; omega)) (kpH.trans k2.kp) ((pA.same k2).le (by omega)) pv
theorem ok_law_two (T : Ty K mg w base) : Cal P w K mg base 8 "_law_two" ["_law_pen", "_law_most", "_law_lag", "_law_d"] (spTwo K) := by
  obtain ⟨fd, F, G⟩ := okF_law_two (P := P) (base := base) T
  exact ⟨(T.f_law_two).1, ⟨fd, G, F.bindsN fun _ _ _ _ _ _ us hl => match us, hl with | [_, _, _, _], _ => rfl⟩, F.kp⟩
end
end Ro
/-! deeds: what is told, in plain Lean -/
namespace Ro
open PySem PySem.Spec PyProof.Rows L2 PySem.W
variable [TabsC]
structure Deed where
  h : Str
  n : Int
  r : Row
def deedD (d : Deed) : PyData := .tuple [.str d.h, .int d.n, rowD d.r]
structure DeedsOk (ds : List Deed) : Prop where
  one : ∀ d ∈ ds, isHouse d.h ∧ 0 ≤ d.n ∧ d.n ≤ 999 ∧ RO d.r
  nd : (ds.map fun d => (d.h, d.n)).Nodup
  mo : ∀ d ∈ ds, ∀ e ∈ ds, d.h = e.h → d.n < e.n → d.r.m ≤ e.r.m
  len : ds.length ≤ 30
theorem DeedsOk.perm {ds es : List Deed} (h : DeedsOk ds) (p : ds.Perm es) : DeedsOk es := ⟨fun d hd => h.one d (p.mem_iff.mpr hd), (p.map _).nodup_iff.mp h.nd, fun d hd e he => h.mo d (p.mem_iff.mpr hd) e (p.mem_iff.mpr he), by rw [← p.length_eq]; exact h.len⟩
theorem DeedsOk.sub {ds es : List Deed} (h : DeedsOk (ds ++ es)) : DeedsOk ds := ⟨fun d hd => h.one d (List.mem_append_left _ hd), by
  have := h.nd
  rw [List.map_append] at this
  exact (List.nodup_append.mp this).1, fun d hd e he => h.mo d (List.mem_append_left _ hd) e (List.mem_append_left _ he), by have := h.len; rw [List.length_append] at this; omega⟩
theorem DeedsOk.nil : DeedsOk [] := ⟨fun d h => (by cases h), .nil, fun d h => (by cases h), Nat.zero_le _⟩
theorem deed_uniq : ∀ {ds : List Deed}, (ds.map fun d => (d.h, d.n)).Nodup → ∀ d ∈ ds, ∀ e ∈ ds, d.h = e.h → d.n = e.n → d = e
  | [], _, d, hd, _, _, _, _ => by cases hd
  | a :: ds, nd, d, hd, e, he, h1, h2 => by
    rw [List.map_cons] at nd
    obtain ⟨n1, n2⟩ := List.nodup_cons.mp nd
    rcases List.mem_cons.mp hd with z | hd' <;> rcases List.mem_cons.mp he with z2 | he'
    · rw [z, z2]
    · exact (n1 (List.mem_map.mpr ⟨e, he', by rw [← h1, ← h2, z]⟩)).elim
    · exact (n1 (List.mem_map.mpr ⟨d, hd', by rw [h1, h2, z2]⟩)).elim
    · exact deed_uniq n2 d hd' e he' h1 h2
def rowsOf (h : Str) (ds : List Deed) : KD := (ds.filter fun d => decide (d.h = h)).map fun d => (d.n, d.r)
def keptOf (ds : List Deed) : KD × KD := (rowsOf "bridge" ds, rowsOf "room" ds)
theorem mem_rowsOf {h : Str} {ds : List Deed} {q : Int × Row} (m : q ∈ rowsOf h ds) : ∃ d ∈ ds, d.h = h ∧ q = (d.n, d.r) := by
  obtain ⟨d, hd, rfl⟩ := List.mem_map.mp m
  obtain ⟨h1, h2⟩ := List.mem_filter.mp hd
  exact ⟨d, h1, of_decide_eq_true h2, rfl⟩
theorem rowsOf_mem {ds : List Deed} {d : Deed} (m : d ∈ ds) : (d.n, d.r) ∈ rowsOf d.h ds := List.mem_map.mpr ⟨d, List.mem_filter.mpr ⟨m, decide_eq_true rfl⟩, rfl⟩
theorem rowsOf_app (h : Str) (ds es : List Deed) : rowsOf h (ds ++ es) = rowsOf h ds ++ rowsOf h es := by
  unfold rowsOf
  rw [List.filter_append, List.map_append]
theorem rowsOf_one (h : Str) (d : Deed) : rowsOf h [d] = if d.h = h then [(d.n, d.r)] else [] := by
  unfold rowsOf
  by_cases e : d.h = h
  · rw [if_pos e, List.filter_cons, if_pos (decide_eq_true e)]; rfl
  · rw [if_neg e, List.filter_cons, if_neg (by simpa using e)]; rfl
theorem rowsOf_nd {ds : List Deed} (nd : (ds.map fun d => (d.h, d.n)).Nodup) (h : Str) : ((rowsOf h ds).map (·.1)).Nodup := by
  induction ds with
  | nil => exact .nil
  | cons a ds ih =>
    rw [List.map_cons] at nd
    obtain ⟨n1, n2⟩ := List.nodup_cons.mp nd
    rw [show a :: ds = [a] ++ ds from rfl, rowsOf_app, rowsOf_one]
    split
    · rename_i e
      rw [List.singleton_append, List.map_cons]
      refine List.nodup_cons.mpr ⟨fun m => ?_, ih n2⟩
      obtain ⟨q, hq, e2⟩ := List.mem_map.mp m
      obtain ⟨d, hd, e3, rfl⟩ := mem_rowsOf hq
      exact n1 (List.mem_map.mpr ⟨d, hd, by rw [e3, ← e, show d.n = a.n from e2]⟩)
    · exact ih n2
theorem rowsOf_ok {ds : List Deed} (h : DeedsOk ds) (x : Str) : KOk (rowsOf x ds) := ⟨rowsOf_nd h.nd x, fun q hq => by
  obtain ⟨d, hd, e, rfl⟩ := mem_rowsOf hq
  exact ⟨(h.one d hd).2.1, (h.one d hd).2.2.1⟩, fun q hq => by
  obtain ⟨d, hd, e, rfl⟩ := mem_rowsOf hq
  exact (h.one d hd).2.2.2.ok, fun q hq q' hq' => by
  obtain ⟨d, hd, e, rfl⟩ := mem_rowsOf hq
  obtain ⟨d', hd', e', rfl⟩ := mem_rowsOf hq'
  exact h.mo d hd d' hd' (e.trans e'.symm), by
  have h1 : (rowsOf x ds).length ≤ ds.length := by
    unfold rowsOf
    rw [List.length_map]
    exact List.length_filter_le ..
  have := h.len
  omega⟩
theorem keptOf_ok {ds : List Deed} (h : DeedsOk ds) : KK (keptOf ds) := ⟨rowsOf_ok h _, rowsOf_ok h _⟩
theorem ofH_kept {ds : List Deed} {h : Str} (hh : isHouse h) : ofH (keptOf ds) h = rowsOf h ds := by
  rcases hh with rfl | rfl <;> rfl
theorem setH_kept {ds : List Deed} {d : Deed} (hh : isHouse d.h) : setH (keptOf ds) d.h (rowsOf d.h ds ++ [(d.n, d.r)]) = keptOf (ds ++ [d]) := by
  unfold setH keptOf
  rw [rowsOf_app, rowsOf_app, rowsOf_one, rowsOf_one]
  rcases hh with e | e
  · rw [if_pos e, if_pos e, if_neg (by rw [e]; decide), List.append_nil, e]
  · rw [if_neg (by rw [e]; decide), if_neg (by rw [e]; decide), if_pos e, List.append_nil, e]
theorem aget_none {k : KD} {n : Int} (h : ∀ q ∈ k, q.1 ≠ n) : aget k n = none := by
  unfold aget
  rw [List.find?_eq_none.mpr fun q hq => by simpa using h q hq]
  rfl
theorem aget_some {k : KD} {q : Int × Row} (nd : (k.map (·.1)).Nodup) (m : q ∈ k) : aget k q.1 = some q.2 := by
  induction k with
  | nil => cases m
  | cons a k ih =>
    rw [List.map_cons] at nd
    obtain ⟨n1, n2⟩ := List.nodup_cons.mp nd
    rcases List.mem_cons.mp m with rfl | hm
    · simp [aget]
    · have ne : a.1 ≠ q.1 := fun z => n1 (by rw [z]; exact List.mem_map.mpr ⟨q, hm, rfl⟩)
      rw [← ih n2 hm]
      simp [aget, ne]
theorem fresh_aget {ds : List Deed} {d : Deed} (h : DeedsOk (ds ++ [d])) : aget (rowsOf d.h ds) d.n = none := aget_none fun q hq e => by
  obtain ⟨d', hd', e', rfl⟩ := mem_rowsOf hq
  have nd := h.nd
  rw [List.map_append] at nd
  exact (List.nodup_append.mp nd).2.2 _ (List.mem_map.mpr ⟨d', hd', rfl⟩) _ (List.mem_map.mpr ⟨d, List.mem_singleton.mpr rfl, rfl⟩) (by rw [e', show d'.n = d.n from e])
theorem fits_of {ds : List Deed} {d : Deed} (h : DeedsOk (ds ++ [d])) : Fits (rowsOf d.h ds) d.n d.r.m := ⟨fun q hq hlt => by
  obtain ⟨d', hd', e', rfl⟩ := mem_rowsOf hq
  exact h.mo d' (List.mem_append_left _ hd') d (List.mem_append_right _ (List.mem_singleton.mpr rfl)) e' hlt, fun q hq hlt => by
  obtain ⟨d', hd', e', rfl⟩ := mem_rowsOf hq
  exact h.mo d (List.mem_append_right _ (List.mem_singleton.mpr rfl)) d' (List.mem_append_left _ hd') e'.symm hlt⟩
theorem aget_of {ds : List Deed} {d : Deed} (h : DeedsOk ds) (m : d ∈ ds) : aget (rowsOf d.h ds) d.n = some d.r := aget_some (q := (d.n, d.r)) (rowsOf_ok h _).nd (rowsOf_mem m)
/-! the same rows, told in another order -/
theorem rowsOf_perm {ds es : List Deed} (p : ds.Perm es) (h : Str) : (rowsOf h ds).Perm (rowsOf h es) := (p.filter _).map _
theorem mapEq_of {ds es : List Deed} (h : DeedsOk ds) (p : ds.Perm es) (x : Str) : MapEq (rowsOf x ds) (rowsOf x es) := ⟨(rowsOf_perm p x).length_eq, fun q hq => aget_some (rowsOf_ok (h.perm p) x).nd ((rowsOf_perm p x).mem_iff.mp hq)⟩
theorem aget_perm {k l : KD} (p : k.Perm l) (nd : (k.map (·.1)).Nodup) (n : Int) : aget k n = aget l n := by
  by_cases h : ∃ q ∈ k, q.1 = n
  · obtain ⟨q, hq, rfl⟩ := h
    rw [aget_some nd hq, aget_some ((p.map _).nodup_iff.mp nd) (p.mem_iff.mp hq)]
  · rw [aget_none fun q hq e => h ⟨q, hq, e⟩, aget_none fun q hq e => h ⟨q, p.mem_iff.mpr hq, e⟩]
theorem key_inj : ∀ {k : KD}, (k.map (·.1)).Nodup → ∀ a ∈ k, ∀ b ∈ k, a.1 = b.1 → a = b := fun {k} nd a ha b hb e => by
  have h1 := aget_some nd ha
  have h2 := aget_some nd hb
  rw [e, h2] at h1
  exact Prod.ext e (Option.some.inj h1).symm
theorem sortK_perm2 {k l : KD} (p : k.Perm l) (nd : (k.map (·.1)).Nodup) : sortK k = sortK l := by
  have p1 : (sortK k).Perm (sortK l) := ((sortK_perm k).trans p).trans (sortK_perm l).symm
  have s1 := List.pairwise_map.mp (sortK_sorted k)
  have s2 := List.pairwise_map.mp (sortK_sorted l)
  refine p1.eq_of_pairwise (fun a b ha hb h h' => ?_) s1 s2
  exact key_inj nd a ((sortK_perm k).mem_iff.mp ha) b (p.mem_iff.mpr ((sortK_perm l).mem_iff.mp hb)) (Int.le_antisymm h h')
structure KEq (kk ll : KD × KD) : Prop where
  s1 : sortK kk.1 = sortK ll.1
  s2 : sortK kk.2 = sortK ll.2
  g1 : ∀ n, aget kk.1 n = aget ll.1 n
theorem KEq.of {ds es : List Deed} (h : DeedsOk ds) (p : ds.Perm es) : KEq (keptOf ds) (keptOf es) := ⟨sortK_perm2 (rowsOf_perm p _) (rowsOf_ok h _).nd, sortK_perm2 (rowsOf_perm p _) (rowsOf_ok h _).nd, aget_perm (rowsOf_perm p _) (rowsOf_ok h _).nd⟩
/-- all that a watch tells -/
def allD (S : WS) (ns : List Int) : PyData := .list [logD (logOf S.kk.1), logD (logOf S.kk.2), bestW S, lotW S, .list (ns.map (askD S))]
theorem allD_eq {S U : WS} (e1 : S.lag = U.lag) (e2 : S.low = U.low) (e3 : S.high = U.high) (k : KEq S.kk U.kk) (ns : List Int) : allD S ns = allD U ns := by
  have l1 : logOf S.kk.1 = logOf U.kk.1 := by unfold logOf; rw [k.s1]
  have l2 : logOf S.kk.2 = logOf U.kk.2 := by unfold logOf; rw [k.s2]
  have n1 : numsOf S.kk.1 = numsOf U.kk.1 := by unfold numsOf; rw [k.s1]
  have n2 : numsOf S.kk.2 = numsOf U.kk.2 := by unfold numsOf; rw [k.s2]
  have j : jW S = jW U := by unfold jW; rw [l1, l2, e1, e2, e3]
  have a : askD S = askD U := by
    funext n
    unfold askD answerM answerL isRingM
    simp only [l1, l2, n1, n2, j, k.g1]
  unfold allD bestW lotW
  rw [l1, l2, e1, e2, e3, a]
/-! rings -/
def isRingD (d : Deed) : Bool := decide (d.h = "bridge") && decide (d.r.l = "port" ∨ d.r.l = "star")
def ringsOf (ds : List Deed) : List Int := (ds.filter isRingD).map (·.n)
theorem ringsOf_perm {ds es : List Deed} (p : ds.Perm es) : (ringsOf ds).Perm (ringsOf es) := (p.filter _).map _
theorem ringsOf_app (ds es : List Deed) : ringsOf (ds ++ es) = ringsOf ds ++ ringsOf es := by
  unfold ringsOf
  rw [List.filter_append, List.map_append]
theorem ringsOf_len (ds : List Deed) : (ringsOf ds).length ≤ ds.length := by
  unfold ringsOf
  rw [List.length_map]
  exact List.length_filter_le ..
theorem ring_isRing {ds : List Deed} (h : DeedsOk ds) {n : Int} (m : n ∈ ringsOf ds) : isRingM (keptOf ds).1 n = true := by
  obtain ⟨d, hd, rfl⟩ := List.mem_map.mp m
  obtain ⟨h1, h2⟩ := List.mem_filter.mp hd
  unfold isRingD at h2
  rw [Bool.and_eq_true] at h2
  have e : d.h = "bridge" := of_decide_eq_true h2.1
  have := aget_of h h1
  rw [e] at this
  unfold isRingM keptOf
  simp only [this]
  exact h2.2
/-- deed in the list, its number that of a ring -/
theorem ring_of_num {ds : List Deed} (h : DeedsOk ds) {d : Deed} (m : d ∈ ds) : (d.n ∈ ringsOf ds ∧ d.h = "bridge") ↔ isRingD d = true := by
  constructor
  · rintro ⟨h1, h2⟩
    obtain ⟨e, he, en⟩ := List.mem_map.mp h1
    obtain ⟨m1, m2⟩ := List.mem_filter.mp he
    have eb : e.h = "bridge" := by
      unfold isRingD at m2
      rw [Bool.and_eq_true] at m2
      exact of_decide_eq_true m2.1
    rw [deed_uniq h.nd d m e m1 (h2.trans eb.symm) en.symm]
    exact m2
  · intro h1
    refine ⟨List.mem_map.mpr ⟨d, List.mem_filter.mpr ⟨m, h1⟩, rfl⟩, ?_⟩
    unfold isRingD at h1
    rw [Bool.and_eq_true] at h1
    exact of_decide_eq_true h1.1
theorem ringsOf_nd {ds : List Deed} (h : DeedsOk ds) : (ringsOf ds).Nodup := by
  have h1 := (rowsOf_ok h "bridge").nd
  have key : ∀ ds : List Deed, (ringsOf ds).Sublist ((rowsOf "bridge" ds).map (·.1)) := by
    intro ds
    induction ds with
    | nil => exact .slnil
    | cons a ds ih =>
      rw [show a :: ds = [a] ++ ds from rfl, ringsOf_app, rowsOf_app, rowsOf_one, List.map_append]
      refine List.Sublist.append ?_ ih
      unfold ringsOf isRingD
      rw [List.filter_cons]
      by_cases e : a.h = "bridge"
      · rw [if_pos e, decide_eq_true e, Bool.true_and]
        split
        · exact List.Sublist.refl _
        · exact List.nil_sublist _
      · rw [if_neg e, decide_eq_false e, Bool.false_and]
        exact List.nil_sublist _
  exact h1.sublist (key ds)
end Ro
namespace Ro
open PySem PySem.Spec PyProof.Rows L2 PySem.W
variable [TabsC]
structure NumOk (ns : List Int) (n : Nat) : Prop where
  len : ns.length = n
  pw : ns.Pairwise (· < ·)
  rg : ∀ x ∈ ns, 0 ≤ x ∧ x ≤ 999
def spNumbers : Sp := fun vs H Q _ => ∃ (p : Addr) (m n : Nat), vs = [.ref p, .int (n : Nat)] ∧ PenAt H p m ∧ m ≤ 70000 ∧ n ≤ 15 ∧
  ∀ ns q xs H', NumOk ns n → Kp (· = p) H H' → H q = none → H' q = some (.lst xs) → PtA H' (ns.map .int) xs → PenAt H' p (m + 50) → Q (.ref q) H'
theorem sorted_lt {ns : List Int} (nd : ns.Nodup) : (sortI ns).Pairwise (· < ·) := by
  have h1 := sortI_sorted ns
  have h2 : (sortI ns).Nodup := (sortI_perm ns).nodup_iff.mpr nd
  exact (List.pairwise_and_iff.mpr ⟨h1, h2⟩).imp fun ⟨a, b⟩ => by omega
section
variable {K : PySem.W.Frag} {σ : L2.St} {H H' : Hp} {N : Addr → Prop} {p a : Addr} {ns : List Int} {te : TE}
/-- sorted(xs), xs a list that stands -/
theorem en_sortIS (h : EvV te σ H (.ref a)) (hs : ∀ H1, Same H H1 → SqL K H1 a (ns.map V.int)) : EvN (tCB (rSortedI K) (tCons te tNil)) σ H ((sortI ns).map .int) := fun H1 s Q q => h H1 s _ fun H2 k => by
  refine ⟨a, ns, rfl, hs H2 (s.trans k), fun ys l hp2 hs hl => ?_⟩
  have e1 : ys = sortI ns := sortedI_uniq (hp2.trans (sortI_perm ns).symm) hs (sortI_sorted ns)
  subst e1
  exact q l _ _ (k.free hl) (k.trans (same_new hl)) upd_same (PtA.ints _)
end
section
variable {P : Program} {w : World} {K : PySem.W.Frag} {mg : Str → Option Value} {base : Heap}
theorem sc_law_numbers : FnScope ["_law_pen", "_law_many", "_law_way", "_law_at", "_law_found", "_law_k"] ["_law_pen", "_law_many"] (defScope (top 77)) := ⟨rfl, rfl, rfl, by decide +kernel, rfl, by decide +kernel, by decide +kernel⟩
theorem okF_law_numbers (T : Tx K mg w) : ∃ fd, FunD K "_law_numbers" "_law_numbers" (defArgs (top 77)) (defBody (top 77)) (defScope (top 77)) [] [] (He.ga K "_law_numbers") fd ∧ FnOk P w K mg base (L2.CX P w) 2 (He.ga K "_law_numbers") fd ["_law_pen", "_law_many"] spNumbers := by
  have C1 : Cal P w K mg base 1 "_law_draw" ["_law_pen", "_law_many"] spDraw := ok_law_draw T
  obtain ⟨g, fd, F⟩ := T.f_law_numbers
  refine ⟨fd, F, F.ok sc_law_numbers (fun vs H Q E h => ?_) (fun cdv A outer s H vs Q E hr h => ?_)⟩
  · obtain ⟨p, m, n, rfl, _⟩ := h; rfl
  · obtain ⟨p, m, n, rfl, pen, hm, hn, k⟩ := h
    have nd := sc_law_numbers.nd
    have hu := hr.units
    refine ⟨_, (pss_cons (ps_set (i := 2) nd rfl (.inl rfl) (pe_cal C1 hr (pa_cons (pv 0) (pa_cons (pe_int) pa_nil)))) (pss_cons (ps_set (i := 3) nd rfl (.inl rfl) (pe_ix ix_list (pe_lst (pa_cons (pe_int) (pa_cons (pe_cal C1 hr (pa_cons (pv 0) (pa_cons (pe_int) pa_nil))) (pa_cons (pe_int) pa_nil)))) (pv 2) (fun _ _ => rfl))) (pss_cons (ps_set (i := 4) nd rfl (.inl rfl) (pe_lst pa_nil)) (pss_cons (ps_for (passes_of rfl) rfl (pi_range1 rfl T.n_range (pa_cons (pv 1) pa_nil)) (pg_name (i := 5) nd rfl (.inl rfl))
        (pss_cons (ps_expr (pe_bm PySem.F.plainAttrs_list PySem.F.slot_list_append PySem.F.type_list_append mt_append (pv 4) (pa_cons (pv 3) pa_nil))) (pss_one (ps_set (i := 3) nd rfl (.inl rfl) (pe_op op_add (pv 3) (pe_ix ix_list (pe_lst (pa_cons (pe_int) (pa_cons (pe_op op_add pe_int (pe_cal C1 hr (pa_cons (pv 0) (pa_cons (pe_int) pa_nil)))) (pa_cons (pe_un un_neg pe_int) pa_nil)))) (pv 2) (fun _ _ => rfl))))))) (pss_one (ps_ret (pe_callB cr_sortedI rfl T.n_sorted (by decide +kernel) (pa_cons (pv 4) pa_nil)))))))), ?_⟩
    have e0 : ∀ {σ : L2.St} {H : Hp}, σ[0]? = some (some (.ref p)) → EvV (tVar 0) σ H (.ref p) := fun h => ev_var h
    have eI : ∀ {σ : L2.St} {H : Hp} {x : Nat} {z : Int}, σ[x]? = some (some (.int z)) → EvD (tVar x) σ H (.int z) := fun h => ed_var h (pt_int.mpr rfl)
    refine run_draw (e0 rfl) ed_int pen (by omega) (by decide) (by decide) fun way H1 w0 w1 k1 p1 => ?_
    refine run_draw (e0 rfl) ed_int p1 (by omega) (by decide) (by decide) fun a3 H2 a0 a1 k2 p2 => ⟨by show 3 ≤ sizeLine; decide, fun x hx => ⟨_, rfl, ?_⟩⟩
    obtain ⟨v, hv, at0, rfl, hat⟩ : ∃ v, L2.atI [V.int 0, .int a3, .int 999] way = some v ∧ ∃ at0 : Int, v = .int at0 ∧ (way = 2 ∧ at0 = 999 ∨ way ≤ 1 ∧ 0 ≤ at0 ∧ at0 ≤ 300) := by
      have : way = 0 ∨ way = 1 ∨ way = 2 := by omega
      rcases this with z | z | z <;> subst z
      · exact ⟨_, rfl, 0, rfl, .inr ⟨by decide, by decide, by decide⟩⟩
      · exact ⟨_, rfl, a3, rfl, .inr ⟨by decide, a0, by omega⟩⟩
      · exact ⟨_, rfl, 999, rfl, .inl ⟨rfl, rfl⟩⟩
    refine ⟨x, _, way, .int at0, rfl, rfl, SqL.of upd_same, hv, ?_⟩
    have p3 := p2.same (same_new (o := .lst [V.int 0, .int a3, .int 999]) hx)
    have kp3 : Kp (· = p) H (upd H2 x (.lst [V.int 0, .int a3, .int 999])) := (k1.trans k2).new hx
    show tSeq _ _ _ _ (upd H2 x (.lst [V.int 0, .int a3, .int 999]))
    generalize upd H2 x (.lst [V.int 0, .int a3, .int 999]) = H3 at p3 kp3
    refine q_setN (en_lst ea_nil (by show 0 ≤ sizeLine; decide)) fun F xF H4 hF k4 eF pxF => ?_
    cases ptA_nil.mp pxF
    have p4 := p3.same k4
    have nFp : F ≠ p := p3.ne hF
    have kp4 := kp3.trans k4.kp
    have hF0 : H F = none := kp3.nn _ hF
    refine q_forRng (tj := tVar 1) ⟨_, rfl, n, rfl, by omega, by omega, ?_⟩
    refine for_in (N := fun a => a = p ∨ a = F) (List.range (n : Int).toNat) (fun k => .int (0 + (k : Nat))) wk_rng (fun i σ' H' => (∃ (at_ : Int) (x5 : Option V) (fs : List Int), σ' = [some (.ref p), some (.int (n : Nat)), some (.int way), some (.int at_), some (.ref F), x5] ∧ H' F = some (.lst (fs.map .int)) ∧ fs.length = i ∧ fs.Nodup ∧ (∀ x ∈ fs, 0 ≤ x ∧ x ≤ 999) ∧
        (way = 2 ∧ at_ = 999 - (i : Nat) ∧ (∀ x ∈ fs, at_ < x) ∨ way ≤ 1 ∧ 0 ≤ at_ ∧ at_ ≤ 300 + 15 * (i : Nat) ∧ ∀ x ∈ fs, x < at_)) ∧ PenAt H' p (m + 10 + i))
      ⟨⟨at0, _, [], rfl, eF, rfl, .nil, fun x h => (by cases h), by
        rcases hat with ⟨z1, z2⟩ | ⟨z1, z2, z3⟩
        · exact .inl ⟨z1, by omega, fun x h => (by cases h)⟩
        · exact .inr ⟨z1, z2, by omega, fun x h => (by cases h)⟩⟩, p4.le (by omega)⟩
      (fun i σ' H' H'' ⟨⟨at_, x5, fs, e, f, g⟩, pa⟩ s => ⟨⟨at_, x5, fs, e, s _ _ f, g⟩, pa.same s⟩) ?_ ?_
    · rintro i hi σ' H' u kp ⟨⟨at_, x5, fs, rfl, ef, hl, hnd, hrg, hat⟩, pA⟩ _
      rw [List.length_range, Int.toNat_natCast] at hi
      have hl2 : fs.length ≤ 15 := by omega
      refine ⟨_, rfl, .inl ⟨rfl, _, SqL.of ef⟩, _, rfl, F, _, .int at_, rfl, rfl, ef, by rw [List.length_map]; exact sizes1 (by omega), ?_⟩
      have p5 : PenAt (upd H' F (.lst (fs.map V.int ++ [.int at_]))) p (m + 10 + i) := pA.far (N := (· = F)) (Kp.refl.mut rfl ef True.intro) (nok1 ef True.intro) (fun z => nFp z.symm)
      have kp5 : Kp (fun a => a = p ∨ a = F) H4 (upd H' F (.lst (fs.map V.int ++ [.int at_]))) := kp.mut (.inr rfl) ef True.intro
      have ef5 : (upd H' F (.lst (fs.map V.int ++ [.int at_]))) F = some (.lst (fs.map V.int ++ [.int at_])) := upd_same
      generalize upd H' F (.lst (fs.map V.int ++ [.int at_])) = H5 at p5 kp5 ef5 ⊢
      refine ⟨_, rfl, run_draw (e0 rfl) ed_int p5 (by omega) (by decide) (by decide) fun r15 H6 r0 r1 k6 p6 => ⟨1, r15, rfl, rfl, 1, rfl, by show 3 ≤ sizeLine; decide, fun y hy => ⟨_, rfl, ?_⟩⟩⟩
      obtain ⟨v, hv, st, rfl, hst⟩ : ∃ v, L2.atI [V.int 1, .int (1 + r15), .int (-1)] way = some v ∧ ∃ st : Int, v = .int st ∧ (way = 2 ∧ st = -1 ∨ way ≤ 1 ∧ 1 ≤ st ∧ st ≤ 15) := by
        have : way = 0 ∨ way = 1 ∨ way = 2 := by omega
        rcases this with z | z | z <;> subst z
        · exact ⟨_, rfl, 1, rfl, .inr ⟨by decide, by decide, by decide⟩⟩
        · exact ⟨_, rfl, 1 + r15, rfl, .inr ⟨by decide, by omega, by omega⟩⟩
        · exact ⟨_, rfl, -1, rfl, .inl ⟨rfl, rfl⟩⟩
      refine ⟨y, _, way, .int st, rfl, rfl, SqL.of upd_same, hv, at_, st, rfl, rfl, ?_⟩
      have ef6 := k6.ob _ _ ef5 (fun ps z => by cases z) nFp
      refine ⟨(kp5.trans (k6.mono fun a h => .inl h)).new hy, ⟨_, _, fs ++ [at_], rfl, by rw [List.map_append]; exact same_new hy _ _ ef6, by rw [List.length_append, hl]; rfl, ?_, ?_, ?_⟩, (p6.same (same_new hy)).le (by omega)⟩
      · refine List.nodup_append.mpr ⟨hnd, by simp, fun a ha b hb => ?_⟩
        rw [List.mem_singleton.mp hb]
        rcases hat with ⟨_, _, z⟩ | ⟨_, _, _, z⟩
        · have := z a ha; omega
        · have := z a ha; omega
      · intro x hx
        rcases List.mem_append.mp hx with hx | hx
        · exact hrg x hx
        · rw [List.mem_singleton.mp hx]
          rcases hat with ⟨_, z, _⟩ | ⟨_, z, z2, _⟩ <;> omega
      · rcases hat with ⟨z0, z, z1⟩ | ⟨z0, z, z2, z1⟩
        · refine .inl ⟨z0, by omega, fun x hx => ?_⟩
          rcases List.mem_append.mp hx with hx | hx
          · have := z1 x hx; omega
          · rw [List.mem_singleton.mp hx]; omega
        · refine .inr ⟨z0, by omega, by omega, fun x hx => ?_⟩
          rcases List.mem_append.mp hx with hx | hx
          · have := z1 x hx; omega
          · rw [List.mem_singleton.mp hx]; omega
    · rintro σ' H' kp ⟨⟨at_, x5, fs, rfl, ef, hl, hnd, hrg, _⟩, pA⟩
      rw [List.length_range, Int.toNat_natCast] at hl pA
      refine s_retN (en_sortIS (ns := fs) (ev_var rfl) fun H6 s => SqL.of (s _ _ ef)) fun q xs H6 hq k6 eq px => ?_
      have kpH : Kp (· = p) H H' := kp4.step kp fun a ha => by
        rcases ha with h | h
        · exact .inl h
        · exact .inr (h ▸ hF0)
      exact k (sortI fs) q xs H6 ⟨by rw [(sortI_perm fs).length_eq]; exact hl, sorted_lt hnd, fun x hx => hrg x ((sortI_perm fs).mem_iff.mp hx)⟩ (kpH.trans k6.kp) (kpH.nn _ hq) eq px ((pA.same k6).le (by omega))
theorem ok_law_numbers (T : Tx K mg w) : Cal P w K mg base 2 "_law_numbers" ["_law_pen", "_law_many"] spNumbers := by
  obtain ⟨fd, F, G⟩ := okF_law_numbers (P := P) (base := base) T
  exact ⟨(T.f_law_numbers).1, ⟨fd, G, F.bindsN fun _ _ _ _ _ _ us hl => match us, hl with | [_, _], _ => rfl⟩, F.kp⟩
end
end Ro
namespace Ro
open PySem PySem.Spec PyProof.Rows L2 PySem.W
variable [TabsC]
def mkDeeds (h : Str) (ns : List Int) (B : Log) : List Deed := (ns.zip B).map fun q => ⟨h, q.1, q.2⟩
theorem map_erase {α β : Type} (f : α → β) : ∀ (l : List α) (j : Nat), (l.map f).eraseIdx j = (l.eraseIdx j).map f
  | [], _ => rfl
  | a :: l, 0 => rfl
  | a :: l, j + 1 => by
    show f a :: (l.map f).eraseIdx j = f a :: (l.eraseIdx j).map f
    rw [map_erase f l j]
theorem erase_perm {α : Type} : ∀ (l : List α) (j : Nat) (h : j < l.length), (l[j] :: l.eraseIdx j).Perm l
  | [], _, h => by cases h
  | a :: l, 0, _ => List.Perm.refl _
  | a :: l, j + 1, h => by
    have h' : j < l.length := by simpa using h
    show (l[j] :: a :: l.eraseIdx j).Perm (a :: l)
    exact (List.Perm.swap a l[j] _).trans ((erase_perm l j h').cons a)
theorem zipD_eq : ∀ (ns : List Int) (B : Log), zipD (ns.map .int) (B.map rowD) = (ns.zip B).map fun q => .tuple [.int q.1, rowD q.2]
  | [], _ => rfl
  | _ :: _, [] => rfl
  | n :: ns, r :: B => by
    have := zipD_eq ns B
    unfold zipD at *
    simp only [List.map_cons, List.zipWith_cons_cons, List.zip_cons_cons, this]
theorem pwd_mem {α : Type} {R : α → α → Prop} : ∀ {l : List α}, l.Pairwise R → ∀ a ∈ l, ∀ b ∈ l, a = b ∨ R a b ∨ R b a
  | [], _, a, h, _, _ => by cases h
  | x :: l, p, a, ha, b, hb => by
    obtain ⟨p1, p2⟩ := List.pairwise_cons.mp p
    rcases List.mem_cons.mp ha with z | ha' <;> rcases List.mem_cons.mp hb with z2 | hb'
    · exact .inl (z.trans z2.symm)
    · exact .inr (.inl (z ▸ p1 b hb'))
    · exact .inr (.inr (z2 ▸ p1 a ha'))
    · exact pwd_mem p2 a ha' b hb'
theorem zip_pw : ∀ {ns : List Int} {B : Log}, ns.Pairwise (· < ·) → B.Pairwise (fun a b => a.m ≤ b.m) → (ns.zip B).Pairwise fun a b => a.1 < b.1 ∧ a.2.m ≤ b.2.m
  | [], _, _, _ => .nil
  | _ :: _, [], _, _ => .nil
  | n :: ns, r :: B, h1, h2 => by
    obtain ⟨a1, a2⟩ := List.pairwise_cons.mp h1
    obtain ⟨b1, b2⟩ := List.pairwise_cons.mp h2
    rw [List.zip_cons_cons]
    refine List.pairwise_cons.mpr ⟨fun q hq => ?_, zip_pw a2 b2⟩
    exact ⟨a1 _ (List.of_mem_zip (a := q.1) (b := q.2) hq).1, b1 _ (List.of_mem_zip (a := q.1) (b := q.2) hq).2⟩
theorem mem_mk {h : Str} {ns : List Int} {B : Log} {d : Deed} (m : d ∈ mkDeeds h ns B) : d.h = h ∧ (d.n, d.r) ∈ ns.zip B := by
  obtain ⟨q, hq, rfl⟩ := List.mem_map.mp m
  exact ⟨rfl, hq⟩
theorem mk_ok {ns ms : List Int} {B R : Log} (n1 : NumOk ns B.length) (n2 : NumOk ms R.length) (hB : LogR B) (hR : LogR R) : DeedsOk (mkDeeds "bridge" ns B ++ mkDeeds "room" ms R) := by
  have one : ∀ {h : Str} {ns : List Int} {B : Log}, isHouse h → NumOk ns B.length → LogR B → ∀ d ∈ mkDeeds h ns B, isHouse d.h ∧ 0 ≤ d.n ∧ d.n ≤ 999 ∧ RO d.r := fun {h ns B} hh hn hB d hd => by
    obtain ⟨e, m⟩ := mem_mk hd
    obtain ⟨m1, m2⟩ := List.of_mem_zip m
    exact ⟨e ▸ hh, (hn.rg _ m1).1, (hn.rg _ m1).2, hB.ok _ m2⟩
  have nd1 : ∀ {h : Str} {ns : List Int} {B : Log}, NumOk ns B.length → LogR B → ((mkDeeds h ns B).map fun d => (d.h, d.n)).Nodup := fun {h ns B} hn hB => by
    unfold mkDeeds
    rw [List.map_map]
    refine List.pairwise_map.mpr ((zip_pw hn.pw hB.so).imp fun {a b} hab e => ?_)
    have : a.1 = b.1 := congrArg Prod.snd e
    omega
  have mo1 : ∀ {h : Str} {ns : List Int} {B : Log}, NumOk ns B.length → LogR B → ∀ d ∈ mkDeeds h ns B, ∀ e ∈ mkDeeds h ns B, d.n < e.n → d.r.m ≤ e.r.m := fun {h ns B} hn hB d hd e he hlt => by
    rcases pwd_mem (zip_pw hn.pw hB.so) _ (mem_mk hd).2 _ (mem_mk he).2 with z | z | z
    · have : d.n = e.n := congrArg Prod.fst z
      omega
    · exact z.2
    · have := z.1
      simp only at this
      omega
  refine ⟨fun d hd => ?_, ?_, fun d hd e he heq hlt => ?_, ?_⟩
  · rcases List.mem_append.mp hd with hd | hd
    · exact one (.inl rfl) n1 hB d hd
    · exact one (.inr rfl) n2 hR d hd
  · rw [List.map_append]
    refine List.nodup_append.mpr ⟨nd1 n1 hB, nd1 n2 hR, fun a ha b hb z => ?_⟩
    obtain ⟨d, hd, rfl⟩ := List.mem_map.mp ha
    obtain ⟨e, he, rfl⟩ := List.mem_map.mp hb
    have : d.h = e.h := congrArg Prod.fst z
    rw [(mem_mk hd).1, (mem_mk he).1] at this
    revert this
    decide
  · rcases List.mem_append.mp hd with hd | hd <;> rcases List.mem_append.mp he with he | he
    · exact mo1 n1 hB d hd e he hlt
    · rw [(mem_mk hd).1, (mem_mk he).1] at heq
      exact absurd heq (by decide)
    · rw [(mem_mk hd).1, (mem_mk he).1] at heq
      exact absurd heq (by decide)
    · exact mo1 n2 hR d hd e he hlt
  · unfold mkDeeds
    have a := hB.len
    have b := hR.len
    rw [List.length_append, List.length_map, List.length_map, List.length_zip, List.length_zip]
    omega
theorem noL_deed {d : Deed} (h : whatOk d.r.l d.r.w) : noL (deedD d) = true := by
  have := noL_row h
  simp only [deedD, noL, noLs, this, Bool.and_self]
theorem noL_deeds {ds : List Deed} (h : ∀ d ∈ ds, RO d.r) : noLs (ds.map deedD) = true := noLs_map fun d hd => noL_deed (h d hd).ok.w
section
variable {K : PySem.W.Frag} {N : Addr → Prop} {σ : L2.St} {H H' : Hp} {g : TG} {tb tz : TS} {D : Ends} {wi : TI} {te tn tl : TE} {vs : List Nat} {Q : VK} {p L : Addr} {m a b : Nat} {xs : List V} {ls : List Deed}
theorem q_forOf (h : wi σ H fun J H1 => ForIn J g tb { D with nx := tz D } σ H1) : tSeq (tFor wi g tb) tz D σ H := h
theorem run_lcOf (h : wi σ H fun J H1 => LcIn J g te vs σ H1 Q) : tLc wi g tYes te vs σ H Q := h
theorem q_while {c : TT} (h : tWhile c tb { D with nx := tz D } σ H) : tSeq (tWhile c tb) tz D σ H := h
theorem seqD_false {ds : List PyData} : seqD false ds = .tuple ds := rfl
theorem seqD_true {ds : List PyData} : seqD true ds = .list ds := rfl
/-- left.pop(_law_draw(pen, len(left))) -/
theorem run_popDraw (hL : σ[a]? = some (some (.ref L))) (eL : H L = some (.lst xs)) (px : PtA H (ls.map deedD) xs) (hr : ∀ d ∈ ls, RO d.r) (nLp : L ≠ p) (hp : σ[b]? = some (some (.ref p))) (hn : EvD tn σ H (.int xs.length)) (i : PenAt H p m) (hm : m ≤ 100000) (h1 : 1 ≤ ls.length) (h2 : ls.length ≤ 1000)
    (k : ∀ j (hj : j < ls.length) y H', Kp (· = p) H H' → PenAt H' p (m + 1) → Pt H' (deedD ls[j]) y → H' L = some (.lst xs) → PtA H' (ls.map deedD) xs → Q y (upd H' L (.lst (xs.eraseIdx j)))) :
    tBM K "list" rPopAt (tVar a) (tCons (tCall spDraw [] E0 (tCons (tVar b) (tCons tn tNil))) tNil) σ H Q := by
  have hl : xs.length = ls.length := by rw [px.length, List.length_map]
  refine ⟨_, hL, .inl ⟨rfl, _, SqL.of eL⟩, run_draw (ev_var hp) hn i hm (by omega) (by omega) fun r H' r0 r1 kp pa => ?_⟩
  have eL' := kp.ob _ _ eL (fun ps z => by cases z) nLp
  have px' := PtA.keepT (i.nok.tk kp) _ _ (noL_deeds hr) px
  obtain ⟨v, hv, _⟩ := atI_nn (xs := xs) r0 r1
  obtain ⟨j, hj, hg, hlt, _, _⟩ := atI_get hv
  obtain ⟨d, hd, pv⟩ := px'.get hg
  have hj' : j < ls.length := by omega
  rw [List.getElem?_map, List.getElem?_eq_getElem hj', Option.map_some, Option.some.injEq] at hd
  subst hd
  exact ⟨L, xs, r, j, v, rfl, rfl, eL', by omega, by omega, hj, hg, k j hj' v H' kp pa pv eL' px'⟩
end
/-- what is left after i turns of the outer loop -/
def Tl (B R : Log) (i : Nat) (ds : List Deed) : Prop := (i = 0 ∧ ds = []) ∨ (i = 1 ∧ ∃ ns, NumOk ns B.length ∧ ds = mkDeeds "bridge" ns B) ∨ (i = 2 ∧ ∃ ns ms, NumOk ns B.length ∧ NumOk ms R.length ∧ ds = mkDeeds "bridge" ns B ++ mkDeeds "room" ms R)
def lgOf (B R : Log) (c : Bool) : Log := match c with
  | true => B
  | false => R
theorem Tl.next {B R : Log} {i : Nat} {ds : List Deed} (h : Tl B R i ds) (hi : i < 2) {ns : List Int} (hn : NumOk ns (lgOf B R ([true, false][i])).length) : Tl B R (i + 1) (ds ++ mkDeeds (nmH ([true, false][i])) ns (lgOf B R ([true, false][i]))) := by
  rcases h with ⟨rfl, rfl⟩ | ⟨rfl, ms, hm, rfl⟩ | ⟨rfl, _⟩
  · exact .inr (.inl ⟨rfl, ns, hn, rfl⟩)
  · exact .inr (.inr ⟨rfl, ms, ns, hm, hn, rfl⟩)
  · omega
theorem Tl.ro {B R : Log} {i : Nat} {ds : List Deed} (h : Tl B R i ds) (hB : LogR B) (hR : LogR R) : (∀ d ∈ ds, RO d.r) ∧ ds.length ≤ 30 := by
  have key : ∀ {h : Str} {ns : List Int} {B : Log}, LogR B → (∀ d ∈ mkDeeds h ns B, RO d.r) ∧ (mkDeeds h ns B).length ≤ 15 := fun {h ns B} hB => ⟨fun d hd => hB.ok _ (List.of_mem_zip (mem_mk hd).2).2, by
    unfold mkDeeds
    have := hB.len
    rw [List.length_map, List.length_zip]
    omega⟩
  rcases h with ⟨rfl, rfl⟩ | ⟨rfl, ms, hm, rfl⟩ | ⟨rfl, ns, ms, _, _, rfl⟩
  · exact ⟨fun d h => (by cases h), Nat.zero_le _⟩
  · exact ⟨(key hB).1, Nat.le_trans (key hB).2 (by decide)⟩
  · have h1 := key (h := "bridge") (ns := ns) hB
    have h2 := key (h := "room") (ns := ms) hR
    refine ⟨fun d hd => ?_, by rw [List.length_append]; omega⟩
    rcases List.mem_append.mp hd with hd | hd
    · exact h1.1 d hd
    · exact h2.1 d hd
def spTellings : Sp := fun vs H Q _ => ∃ (p lg : Addr) (m : Nat) (B R : Log), vs = [.ref p, .ref lg] ∧ PenAt H p m ∧ m ≤ 60000 ∧ lg ≠ p ∧ Pt H (.list [logD B, logD R]) (.ref lg) ∧ LogR B ∧ LogR R ∧
  ∀ ds q xs H', DeedsOk ds → Kp (· = p) H H' → H q = none → H' q = some (.lst xs) → PtA H' (ds.map deedD) xs → PenAt H' p (m + 200) → Q (.ref q) H'
section
variable {P : Program} {w : World} {K : PySem.W.Frag} {mg : Str → Option Value} {base : Heap}
theorem sc_law_tellings : FnScope ["_law_pen", "_law_logs", "_law_left", "_law_house", "_law_log", "_law_found", "_law_number", "_law_row_here"] ["_law_pen", "_law_logs"] (defScope (top 78)) := ⟨rfl, rfl, rfl, by decide +kernel, rfl, by decide +kernel, by decide +kernel⟩
theorem okF_law_tellings (T : Tx K mg w) : ∃ fd, FunD K "_law_tellings" "_law_tellings" (defArgs (top 78)) (defBody (top 78)) (defScope (top 78)) [] [] (He.ga K "_law_tellings") fd ∧ FnOk P w K mg base (L2.CX P w) 3 (He.ga K "_law_tellings") fd ["_law_pen", "_law_logs"] spTellings := by
  have C1 : Cal P w K mg base 1 "_law_draw" ["_law_pen", "_law_many"] spDraw := ok_law_draw T
  have C2 : Cal P w K mg base 2 "_law_numbers" ["_law_pen", "_law_many"] spNumbers := ok_law_numbers T
  obtain ⟨g, fd, F⟩ := T.f_law_tellings
  refine ⟨fd, F, F.ok sc_law_tellings (fun vs H Q E h => ?_) (fun cdv A outer s H vs Q E hr h => ?_)⟩
  · obtain ⟨p, lg, m, B, R, rfl, _⟩ := h; rfl
  · obtain ⟨p, lg, m, B, R, rfl, pen, hm, nlp, plg, hB, hR, k⟩ := h
    have nd := sc_law_tellings.nd
    have hu := hr.units
    refine ⟨_, (pss_cons (ps_set (i := 2) nd rfl (.inl rfl) (pe_lst pa_nil)) (pss_cons (ps_for (passes_of rfl) rfl (pi_zipX false true rfl T.n_zip (pa_cons (pe_tup (pa_cons (pe_str) (pa_cons (pe_str) pa_nil))) (pa_cons (pv 1) pa_nil))) (pg_tup rfl (pgs_cons (pg_name (i := 3) nd rfl (.inr rfl)) (pgs_cons (pg_name (i := 4) nd rfl (.inl rfl)) pgs_nil)))
        (pss_one (ps_set (i := 2) nd rfl (.inl rfl) (pe_op op_cat (pv 2) (pe_lc (own := [("_law_number", 6), ("_law_row_here", 7)]) (g := gTup _ 2 (gCons (gName 6) (gCons (gName 7) gNil))) (tt := tYes) rfl nd (pi_zipX true false rfl T.n_zip (pa_cons (pe_cal C2 (hr.mono (by decide)) (pa_cons (pv 0) (pa_cons (pe_callB call_len_seq rfl T.n_len PySem.boot_len (pa_cons (pv 4) pa_nil)) pa_nil))) (pa_cons (pv 4) pa_nil)))
            (blkOk_by (N := ["_law_pen", "_law_logs", "_law_left", "_law_house", "_law_log", "_law_found", "_law_number", "_law_row_here"]) (sc := defScope (top 78)) (by decide +kernel)) (fun _ _ _ _ _ => pg_tup rfl (pgs_cons (pg_name (i := 6) nd rfl (.inl rfl)) (pgs_cons (pg_name (i := 7) nd rfl (.inl rfl)) pgs_nil)))
            (fun _ _ _ _ _ => pts_nil) (fun _ _ _ _ _ => pe_tup (pa_cons (pv 3) (pa_cons (pv 6) (pa_cons (pv 7) pa_nil))))))))) (pss_cons (ps_set (i := 5) nd rfl (.inl rfl) (pe_lst pa_nil)) (pss_cons (ps_while (passes_of rfl) (pt_cmpR op_gt (pe_callB call_len_seq rfl T.n_len PySem.boot_len (pa_cons (pv 2) pa_nil)) pe_int (nomark _))
        (pss_one (ps_expr (pe_bm PySem.F.plainAttrs_list PySem.F.slot_list_append PySem.F.type_list_append mt_append (pv 5) (pa_cons (pe_bm PySem.F.plainAttrs_list PySem.F.slot_list_pop PySem.F.type_list_pop mt_popAt (pv 2) (pa_cons (pe_cal C1 (hr.mono (by decide)) (pa_cons (pv 0) (pa_cons (pe_callB call_len_seq rfl T.n_len PySem.boot_len (pa_cons (pv 2) pa_nil)) pa_nil))) pa_nil)) pa_nil))))) (pss_one (ps_ret (pv 5))))))), ?_⟩
    have e0 : ∀ {σ : L2.St} {H : Hp}, σ[0]? = some (some (.ref p)) → EvV (tVar 0) σ H (.ref p) := fun h => ev_var h
    have eI : ∀ {σ : L2.St} {H : Hp} {x : Nat} {z : Int}, σ[x]? = some (some (.int z)) → EvD (tVar x) σ H (.int z) := fun h => ed_var h (pt_int.mpr rfl)
    refine q_setN (en_lst ea_nil (by show 0 ≤ sizeLine; decide)) fun L0 xL H1 hL0 k1 eL0 pxL => ?_
    cases ptA_nil.mp pxL
    have p1 := pen.same k1
    refine q_forOf ?_
    refine EvD.run (ed_tup (ea_cons ed_str (ea_one ed_str)) (by show 2 ≤ sizeLine; decide)) fun vt H2 k2 pt => ?_
    obtain ⟨ta, hta, rfl, eta, pta⟩ := pt_tup.mp pt
    have p2 := p1.same k2
    have plg2 := plg.keep (k1.trans k2)
    obtain ⟨lg', lxs, e9, elg, plx⟩ := pt_lst.mp plg2
    cases e9
    refine ⟨_, rfl, ta, lg, _, lxs, rfl, SqT.of eta, SqL.of elg, ?_⟩
    have w2 : WkD (ItZ K false true ta lg) ([true, false].map fun c => PyData.tuple [.str (nmH c), logD (lgOf B R c)]) (Kp (· = p) H2) :=
      wk_zipX (K := K) (N := (· = p)) (l1 := false) (l2 := true) (ds := [.str "bridge", .str "room"]) (es := [logD B, logD R]) (Pt.intoN p2.nok (pt_tup.mpr ⟨ta, _, rfl, eta, pta⟩) rfl) (Pt.intoL p2.nok nlp (pt_lst.mpr ⟨lg, lxs, rfl, elg, plx⟩) (by
        have h1 := noL_log fun r hr => (hB.ok r hr).ok.w
        have h2 := noL_log fun r hr => (hR.ok r hr).ok.w
        simp only [noLs, h1, h2, Bool.and_self])) rfl
    refine for_in (N := (· = p)) [true, false] (fun c => .tuple [.str (nmH c), logD (lgOf B R c)]) w2 (fun i σ' H' => (∃ (L : Addr) (x3 x4 : Option V) (ds : List Deed) (xs : List V), σ' = [some (.ref p), some (.ref lg), some (.ref L), x3, x4, none, none, none] ∧ H L = none ∧ H' L = some (.lst xs) ∧ PtA H' (ds.map deedD) xs ∧ Tl B R i ds) ∧ PenAt H' p (m + 60 * i))
      ⟨⟨L0, none, none, [], [], rfl, hL0, k2 _ _ eL0, .nil, .inl ⟨rfl, rfl⟩⟩, p2.le (by omega)⟩
      (fun i σ' H' H'' ⟨⟨L, x3, x4, ds, xs, e, e1, e2, e3, e4⟩, pa⟩ s => ⟨⟨L, x3, x4, ds, xs, e, e1, s _ _ e2, PtA.keep s _ _ e3, e4⟩, pa.same s⟩) ?_ ?_
    · rintro i hi σ' H' v kp ⟨⟨L, x3, x4, ds, xs, rfl, hLn, eL, pxs, tl⟩, pA⟩ pv
      have hi2 : i < 2 := hi
      have nLp : L ≠ p := pen.ne hLn
      obtain ⟨ro1, ro2⟩ := tl.ro hB hR
      have tln := fun ns => tl.next (ns := ns) hi2
      generalize [true, false][i] = c at pv tln
      have lgc : LogR (lgOf B R c) := by cases c; exact hR; exact hB
      refine gt2 (d := .str (nmH c)) (e := logD (lgOf B R c)) pv fun x y px py => ?_
      cases pt_str.mp px
      refine ⟨_, rfl, run_lcOf ?_⟩
      obtain ⟨lb, ylb, rfl, elb, plb⟩ := pt_tup.mp (show Pt H' (.tuple ((lgOf B R c).map rowD)) y from py)
      refine ⟨_, rfl, EvD.run (d := .int (((lgOf B R c).length : Nat) : Int)) ((ed_cb (ea_one (ed_var rfl (show Pt H' (.tuple ((lgOf B R c).map rowD)) (.ref lb) from py))) (rc_lenT (K := K))).to (by rw [List.length_map])) fun vn H5 k5 pn => ?_⟩
      cases pt_int.mp pn
      have p5 := pA.same k5
      refine ⟨p, m + 60 * i, (lgOf B R c).length, rfl, p5, by omega, lgc.len, fun ns q xq H6 hns k6 hq eq pq p6 => ?_⟩
      have elb6 : H6 lb = some (.tup ylb) := p5.nok.tk k6 _ _ (k5 _ _ elb)
      have plb6 : PtA H6 ((lgOf B R c).map rowD) ylb := PtA.keepT (p5.nok.tk k6) _ _ (noLs_map fun r hr => noL_row (lgc.ok r hr).ok.w) (PtA.keep k5 _ _ plb)
      have eL6 : H6 L = some (.lst xs) := k6.ob _ _ (k5 _ _ eL) (fun ps z => by cases z) nLp
      have pxs6 : PtA H6 (ds.map deedD) xs := PtA.keepT (p5.nok.tk k6) _ _ (noL_deeds ro1) (PtA.keep k5 _ _ pxs)
      refine ⟨_, rfl, q, lb, xq, ylb, rfl, SqL.of eq, SqT.of elb6, ?_⟩
      have eb : but N0 H6 = H6 := funext fun a => but_of (fun z => z)
      have w6 : WkD (ItZ K true false q lb) ((ns.zip (lgOf B R c)).map fun q => PyData.tuple [.int q.1, rowD q.2]) (Kp N0 H6) := by
        have := wk_zipX (K := K) (N := N0) (H := H6) (l1 := true) (l2 := false) (ds := ns.map .int) (es := (lgOf B R c).map rowD) (a := q) (b := lb) (by rw [eb]; exact pt_lst.mpr ⟨q, xq, rfl, eq, pq⟩) (by rw [eb]; exact pt_tup.mpr ⟨lb, ylb, rfl, elb6, plb6⟩) (by rw [List.length_map, List.length_map, hns.len])
        rw [zipD_eq] at this
        exact this
      have hzl : (ns.zip (lgOf B R c)).length ≤ 15 := by rw [List.length_zip]; have := lgc.len; omega
      refine lcN_in (N := N0) (ns.zip (lgOf B R c)) (fun q => .tuple [.int q.1, rowD q.2]) (by omega) w6 (fun j ds H' => ds = ((ns.zip (lgOf B R c)).take j).map fun q => deedD ⟨nmH c, q.1, q.2⟩) NOk.nil (fun H1 _ => rfl) (fun _ _ _ _ _ => NOk.nil) (fun j ds H' H'' D _ _ e _ _ => e) ?_ ?_
      · rintro j hj H7 ds7 v7 k7 rfl pv7
        have hro : RO (ns.zip (lgOf B R c))[j].2 := lgc.ok _ (List.of_mem_zip (a := (ns.zip (lgOf B R c))[j].1) (b := (ns.zip (lgOf B R c))[j].2) (List.getElem_mem hj)).2
        obtain ⟨a, x, y, rfl, ha, px, py⟩ := pt_2.mp pv7
        refine ⟨_, fun Q q => ⟨a, [x, y], rfl, SqT.of ha, rfl, x, [y], rfl, y, [], rfl, rfl, q⟩, rfl, fun Q q => ?_⟩
        refine EvD.run (d := deedD ⟨nmH c, (ns.zip (lgOf B R c))[j].1, (ns.zip (lgOf B R c))[j].2⟩) (ed_tup (ea_cons (ed_var rfl (pt_str.mpr rfl)) (ea_cons (ed_var rfl px) (ea_one (ed_var rfl py)))) (by show 3 ≤ sizeLine; decide)) fun v8 H8 k8 p8 => q v8 _ H8 k8.kp p8 (noL_deed hro.ok.w) ?_
        rw [List.take_add_one, List.getElem?_eq_getElem hj, List.map_append]
        rfl
      · rintro D xs8 H8 ds8 hD kD hx8 px8 nl8 rfl
        have s68 : Same H6 H8 := kD.same fun a h => h.elim
        have eds : ((ns.zip (lgOf B R c)).take (ns.zip (lgOf B R c)).length).map (fun q => deedD ⟨nmH c, q.1, q.2⟩) = (mkDeeds (nmH c) ns (lgOf B R c)).map deedD := by
          rw [List.take_length]
          unfold mkDeeds
          rw [List.map_map]
          rfl
        rw [eds] at px8
        have hx1 : xs.length ≤ 30 := by rw [pxs.length, List.length_map]; omega
        have hx2 : xs8.length ≤ 15 := by
          rw [px8.length, List.length_map]
          unfold mkDeeds
          rw [List.length_map]
          omega
        refine ⟨L, D, xs, xs8, rfl, rfl, s68 _ _ eL6, hx8, by rw [sizeLine_eq]; omega, fun z hz => ?_⟩
        have kz : Kp (· = p) H2 H8 := (kp.trans (k5.kp.trans k6)).trans s68.kp
        refine ⟨kz.new hz, ⟨z, _, _, ds ++ mkDeeds (nmH c) ns (lgOf B R c), xs ++ xs8, rfl, (k1.trans k2).nn _ (kz.nn _ hz), upd_same, ?_, tln ns hns⟩, (p6.same (s68.trans (same_new hz))).le (by omega)⟩
        rw [List.map_append]
        exact (PtA.keep (s68.trans (same_new hz)) _ _ pxs6).append (PtA.keep (same_new hz) _ _ px8)
    · rintro σ' H3 kp ⟨⟨L, x3, x4, ds, xs, rfl, hLn, eL, pxs, tl⟩, pA⟩
      have hds : DeedsOk ds := by
        rcases tl with ⟨z, _⟩ | ⟨z, _⟩ | ⟨_, ns, ms, hn, hm, rfl⟩
        · exact absurd z (by decide)
        · exact absurd z (by decide)
        · exact mk_ok hn hm hB hR
      have nLp : L ≠ p := pen.ne hLn
      have kp3 : Kp (· = p) H H3 := (k1.trans k2).kp.trans kp
      refine q_setN (en_lst ea_nil (by show 0 ≤ sizeLine; decide)) fun F xF H4 hF k4 eF pxF => ?_
      cases ptA_nil.mp pxF
      have hFn : H F = none := kp3.nn _ hF
      have nFp : F ≠ p := pen.ne hFn
      have nLF : L ≠ F := fun z => by rw [z, hF] at eL; cases eL
      refine q_while (s_while (fun mm σ' H' => ∃ (ls fs : List Deed) (xs ys : List V), σ' = [some (.ref p), some (.ref lg), some (.ref L), x3, x4, some (.ref F), none, none] ∧ mm = ls.length ∧ H' L = some (.lst xs) ∧ PtA H' (ls.map deedD) xs ∧ H' F = some (.lst ys) ∧ PtA H' (fs.map deedD) ys ∧ (fs ++ ls).Perm ds ∧ PenAt H' p (m + 150 + fs.length) ∧ Kp (· = p) H H')
        ds.length ⟨ds, [], xs, [], rfl, rfl, k4 _ _ eL, PtA.keep k4 _ _ pxs, eF, .nil, List.Perm.refl _, (pA.same k4).le (by show m + 60 * 2 ≤ m + 150 + 0; omega), kp3.trans k4.kp⟩ ?_)
      rintro mm σ' H' ⟨ls, fs, xs, ys, rfl, rfl, eL', px, eF', py, perm, pA', kpH⟩
      have hlen : fs.length + ls.length ≤ 30 := by have := perm.length_eq; rw [List.length_append] at this; have := hds.len; omega
      have hxl : xs.length = ls.length := by rw [px.length, List.length_map]
      have hyl : ys.length = fs.length := by rw [py.length, List.length_map]
      have hro : ∀ d ∈ fs ++ ls, RO d.r := fun d hd => (hds.one d (perm.mem_iff.mp hd)).2.2.2
      refine ⟨_, eb_T (ed_op (ed_lenV (ev_var rfl) eL') ed_int rd_ib), fun hb H5 k5 => ?_, fun hb H5 k5 => ?_⟩
      · have hb' := of_decide_eq_true hb
        have p5 := pA'.same k5
        refine ⟨_, rfl, .inl ⟨rfl, _, SqL.of (k5 _ _ eF')⟩, run_popDraw rfl (k5 _ _ eL') (PtA.keep k5 _ _ px) (fun d hd => hro d (List.mem_append_right _ hd)) nLp rfl (ed_lenV (ev_var rfl) (k5 _ _ eL')) p5 (by omega) (by omega) (by omega) fun j hj y H6 k6 p6 py6 eL6 pL6 => ?_⟩
        have eF6 : H6 F = some (.lst ys) := k6.ob _ _ (k5 _ _ eF') (fun ps z => by cases z) nFp
        have nl1 : noLs (ls.map deedD) = true := noL_deeds fun d hd => hro d (List.mem_append_right _ hd)
        have nl2 : noLs (fs.map deedD) = true := noL_deeds fun d hd => hro d (List.mem_append_left _ hd)
        have nlj : noL (deedD ls[j]) = true := noL_deed (hro _ (List.mem_append_right _ (List.getElem_mem hj))).ok.w
        have py' : PtA H6 (fs.map deedD) ys := PtA.keepT (p5.nok.tk k6) _ _ nl2 (PtA.keep k5 _ _ py)
        have t1 : Tk H6 (upd H6 L (.lst (xs.eraseIdx j))) := tk_lst eL6
        have eF7 : (upd H6 L (.lst (xs.eraseIdx j))) F = some (.lst ys) := by rw [upd_ne nLF.symm]; exact eF6
        have t2 : Tk (upd H6 L (.lst (xs.eraseIdx j))) (upd (upd H6 L (.lst (xs.eraseIdx j))) F (.lst (ys ++ [y]))) := tk_lst eF7
        refine ⟨F, ys, y, rfl, rfl, eF7, sizes1 (by omega), (ls.eraseIdx j).length, by rw [List.length_eraseIdx_of_lt hj]; omega, ls.eraseIdx j, fs ++ [ls[j]], xs.eraseIdx j, ys ++ [y], rfl, rfl, ?_, ?_, upd_same, ?_, ?_, ?_, ?_⟩
        · rw [upd_ne nLF]; exact upd_same
        · rw [← map_erase]
          exact PtA.keepT (t1.trans t2) _ _ (by rw [map_erase]; exact noL_deeds fun d hd => hro d (List.mem_append_right _ (List.mem_of_mem_eraseIdx hd))) (pL6.eraseIdx j)
        · rw [List.map_append]
          exact (PtA.keepT (t1.trans t2) _ _ nl2 py').append (.one (Pt.keepT (t1.trans t2) _ _ nlj py6))
        · refine List.Perm.trans ?_ perm
          rw [List.append_assoc]
          exact (erase_perm ls j hj).append_left fs
        · rw [List.length_append]
          have q1 : PenAt (upd H6 L (.lst (xs.eraseIdx j))) p (m + 150 + fs.length + 1) := p6.far (N := (· = L)) (Kp.refl.mut rfl eL6 True.intro) (nok1 eL6 True.intro) (fun z => nLp z.symm)
          exact q1.far (N := (· = F)) (Kp.refl.mut rfl eF7 True.intro) (nok1 eF7 True.intro) (fun z => nFp z.symm)
        · exact (((kpH.trans k5.kp).trans k6).mut0 hLn eL6 True.intro).mut0 hFn eF7 True.intro
      · have hl0 : ls = [] := by
          have := of_decide_eq_false hb
          exact List.length_eq_zero_iff.mp (by omega)
        subst hl0
        rw [List.append_nil] at perm
        have hfs : fs.length ≤ 30 := by simpa using hlen
        refine s_retV (ev_var rfl) fun H6 k6 => ?_
        have s6 := k5.trans k6
        exact k fs F ys H6 (hds.perm perm.symm) (kpH.trans s6.kp) hFn (s6 _ _ eF') (PtA.keep s6 _ _ py) ((pA'.same s6).le (by omega))
theorem ok_law_tellings (T : Tx K mg w) : Cal P w K mg base 3 "_law_tellings" ["_law_pen", "_law_logs"] spTellings := by
  obtain ⟨fd, F, G⟩ := okF_law_tellings (P := P) (base := base) T
  exact ⟨(T.f_law_tellings).1, ⟨fd, G, F.bindsN fun _ _ _ _ _ _ us hl => match us, hl with | [_, _], _ => rfl⟩, F.kp⟩
end
end Ro
namespace Ro
open PySem PySem.Spec PyProof.Rows L2 PySem.W
variable [TabsC]
section
variable {K : PySem.W.Frag} {N : Addr → Prop} {σ : L2.St} {H H' : Hp} {ta tb tc : TE} {Q : VK} {lag low high : Int} {a : Addr} {od : Obj} {ns : List Int}
/-- Watch(lag, low, high) -/
theorem run_newWatch (ha : EvD ta σ H (.int lag)) (hb : EvD tb σ H (.int low)) (hc : EvD tc σ H (.int high)) (tri : TriOk lag low high)
    (k : ∀ (B : WA) H', (∀ a, B.N a → H a = none) → Same H H' → WatchAt K H' B (.new lag low high) → Q (.ref B.p) H') : tMake (CW K) (spInit K) [] E0 (tCons ta (tCons tb (tCons tc tNil))) σ H Q :=
  (ea_cons ha (ea_cons hb (ea_one hc))) H (Same.refl H) _ fun vs H1 k1 p x dy hx hdy hne => by
    obtain ⟨v1, v2, v3, rfl, p1, p2, p3⟩ := ptA3 p
    cases pt_int.mp p1
    cases pt_int.mp p2
    cases pt_int.mp p3
    have hdx0 : upd H1 dy (.own x) x = none := by rw [upd_ne hne.symm]; exact hx
    have sm0 : Same H1 (upd (upd H1 dy (.own x)) x (.ins (CW K) dy [])) := (same_new hdy).trans (same_new hdx0)
    refine ⟨x, dy, lag, low, high, rfl, upd_same, tri, fun H2 pl cl tl kp hpl hcl htl wB => ⟨rfl, ?_⟩⟩
    have sm1 : Same H1 H2 := Kp.same (N := (· = x)) (sm0.kp.trans kp) (fun a ha => (show a = x from ha) ▸ hx)
    refine k ⟨x, pl, cl, tl⟩ H2 (fun a ha => k1.nn a ?_) (k1.trans sm1) wB
    rcases ha with h | h | h | h
    · exact (show a = x from h) ▸ hx
    · exact (show a = pl from h) ▸ sm0.nn _ hpl
    · exact (show a = cl from h) ▸ sm0.nn _ hcl
    · exact (show a = tl from h) ▸ sm0.nn _ htl
theorem q_of {te : TE} {g : TG} {tz : TS} {D : Ends} (h : te σ H fun v H1 => g v σ H1 (tz D)) : tSeq (tAsg te g) tz D σ H := h
/-- a locked list of ints, walked -/
theorem wk_frz (n : NOk N H) (e : H a = some (.frz od (.lst (ns.map V.int)))) : WkD (Itl K a) (ns.map PyData.int) (Kp N H) := by
  have w : Walk (Itl K a) (ns.map PyData.int).length (fun H' => SqL K H' a (ns.map V.int)) (YAt (ns.map V.int)) := by rw [List.length_map, ← List.length_map (f := V.int)]; exact walk_list
  refine w.mono (fun H' s => SqL.frz ((s.fz n).fz _ _ _ e)) fun i H1 v H' hi s y => ?_
  obtain ⟨rfl, e⟩ := y
  rw [List.getElem?_map] at e
  cases hz : ns[i]? with
  | none => rw [hz] at e; cases e
  | some z =>
    rw [hz] at e
    cases e
    exact ⟨Same.refl _, .int z, by rw [List.getElem?_map, hz]; rfl, pt_int.mpr rfl⟩
end
/-- what a watch is that was told these deeds -/
structure Kn (lag low high : Int) (ds : List Deed) (S : WS) : Prop where
  lag : S.lag = lag
  low : S.low = low
  high : S.high = high
  kk : S.kk = keptOf ds
  ok : WOk S
theorem Kn.tell {lag low high : Int} {ds : List Deed} {d : Deed} {S : WS} (k : Kn lag low high ds S) (h : DeedsOk (ds ++ [d])) : Kn lag low high (ds ++ [d]) (S.on d.h (ofH S.kk d.h ++ [(d.n, d.r)])) := by
  have hh := (h.one d (List.mem_append_right _ (List.mem_singleton.mpr rfl))).1
  have e : setH S.kk d.h (ofH S.kk d.h ++ [(d.n, d.r)]) = keptOf (ds ++ [d]) := by
    rw [k.kk, ofH_kept hh]
    exact setH_kept hh
  refine ⟨k.lag, k.low, k.high, e, ⟨?_, k.ok.st, fun kk hkk => ?_, fun kk h => (by cases h), k.ok.told, k.ok.nd⟩⟩
  · show KK (setH S.kk d.h (ofH S.kk d.h ++ [(d.n, d.r)]))
    rw [e]
    exact keptOf_ok h
  · rcases List.mem_append.mp hkk with hm | hm
    · exact k.ok.past kk hm
    · rw [List.mem_singleton.mp hm]
      exact k.ok.now
structure Tri (lag low high : Int) : Prop where
  t : TriOk lag low high
  s : StrOk lag low high
theorem Kn.new {lag low high : Int} (t : Tri lag low high) : Kn lag low high [] (.new lag low high) := ⟨rfl, rfl, rfl, rfl, ⟨keptOf_ok .nil, t.s, fun kk h => (by cases h), fun kk h => (by cases h), Nat.zero_le _, .nil⟩⟩
/-- a deed that can be told -/
theorem tell_pre {lag low high : Int} {ds : List Deed} {d : Deed} {S : WS} (k : Kn lag low high ds S) (h : DeedsOk (ds ++ [d])) : 0 ≤ d.n ∧ d.n ≤ 999 ∧ aget (ofH S.kk d.h) d.n = none ∧ Fits (ofH S.kk d.h) d.n d.r.m ∧ isHouse d.h ∧ RO d.r := by
  obtain ⟨hh, n0, n1, ro⟩ := h.one d (List.mem_append_right _ (List.mem_singleton.mpr rfl))
  rw [k.kk, ofH_kept hh]
  exact ⟨n0, n1, fresh_aget h, fits_of h, hh, ro⟩
def Lock3 (H : Hp) (t : Addr) (lag low high : Int) : Prop := ∃ od, H t = some (.frz od (.lst ([lag, low, high].map V.int)))
theorem Lock3.fz {H H' : Hp} {t : Addr} {lag low high : Int} (h : Lock3 H t lag low high) (f : Fz H H') : Lock3 H' t lag low high := let ⟨od, e⟩ := h; ⟨od, f.fz _ _ _ e⟩
def spMade (K : PySem.W.Frag) : Sp := fun vs H Q _ => ∃ (t da : Addr) (lag low high : Int) (ds : List Deed), vs = [.ref t, .ref da] ∧ Lock3 H t lag low high ∧ Tri lag low high ∧ Pt H (.list (ds.map deedD)) (.ref da) ∧ DeedsOk ds ∧ Tb H (tabA K "ranks") ∧
  ∀ (A : WA) (S : WS) H', (∀ a, A.N a → H a = none) → Same H H' → WatchAt K H' A S → Kn lag low high ds S → S.told = [] → Q (.ref A.p) H'
theorem co_step {B : WA} {c : Addr} {H : Hp} (hc : c = B.cl ∨ H c = none) : ∀ a, (B.co c).N a → B.N a ∨ H a = none := fun a ha => by
  rcases ha with h | h | h | h
  · exact .inl (.inl h)
  · exact .inl (.inr (.inl h))
  · rcases hc with z | z
    · exact .inl (.inr (.inr (.inl ((show a = c from h).trans z))))
    · exact .inr ((show a = c from h) ▸ z)
  · exact .inl (.inr (.inr (.inr h)))
section
variable {P : Program} {w : World} {K : PySem.W.Frag} {mg : Str → Option Value} {base : Heap}
theorem sc_law_made : FnScope ["_law_three", "_law_deeds", "_law_found", "_law_house", "_law_number", "_law_row_here"] ["_law_three", "_law_deeds"] (defScope (top 80)) := ⟨rfl, rfl, rfl, by decide +kernel, rfl, by decide +kernel, by decide +kernel⟩
theorem okF_law_made (T : Tv K mg w base) : ∃ fd, FunD K "_law_made" "_law_made" (defArgs (top 80)) (defBody (top 80)) (defScope (top 80)) [] [] (He.ga K "_law_made") fd ∧ FnOk P w K mg base (L2.CX P w) 14 (He.ga K "_law_made") fd ["_law_three", "_law_deeds"] (spMade K) := by
  have C1 : CalM P w K mg base 13 "tell" ["self", "house", "number", "row"] (spTell K) := ok_tell T.toTw
  obtain ⟨fdI, GI, BI⟩ := (ok_init (P := P) (base := base) T.toTw).ex
  obtain ⟨g, fd, F⟩ := T.f_law_made
  refine ⟨fd, F, F.ok sc_law_made (fun vs H Q E h => ?_) (fun cdv A outer s H vs Q E hr h => ?_)⟩
  · obtain ⟨t, da, lag, low, high, ds, rfl, _⟩ := h; rfl
  · obtain ⟨t, da, lag, low, high, ds, rfl, h3, tri, pda, hds, tb, k⟩ := h
    have nd := sc_law_made.nd
    refine ⟨_, (pss_cons (ps_set (i := 2) nd rfl (.inl rfl) (pe_make T.mkr GI (hr.mono (by decide)) rfl T.gW BI .nil passL (pa_cons (pe_ix ix_list (pv 0) pe_int (fun _ _ => rfl)) (pa_cons (pe_ix ix_list (pv 0) pe_int (fun _ _ => rfl)) (pa_cons (pe_ix ix_list (pv 0) pe_int (fun _ _ => rfl)) pa_nil))))) (pss_cons (ps_for (passes_of rfl) rfl (pi_list (pv 1)) (pg_tup rfl (pgs_cons (pg_name (i := 3) nd rfl (.inl rfl)) (pgs_cons (pg_name (i := 4) nd rfl (.inl rfl)) (pgs_cons (pg_name (i := 5) nd rfl (.inl rfl)) pgs_nil))))
        (pss_one (ps_expr (pe_calm (pv 2) T.cls C1 hr (pa_cons (pv 3) (pa_cons (pv 4) (pa_cons (pv 5) pa_nil))))))) (pss_one (ps_ret (pv 2))))), ?_⟩
    obtain ⟨od3, e3⟩ := h3
    have ix3 : ∀ {j z : Int}, L2.atI [lag, low, high] j = some z → EvD (tOp (rIxL K) (tVar 0) (tC (.int j))) (start ["_law_three", "_law_deeds", "_law_found", "_law_house", "_law_number", "_law_row_here"] [.ref t, .ref da]) H (.int z) := fun hz => ed_ixF (ev_var rfl) e3 ed_int hz
    refine q_of (run_newWatch (K := K) (ix3 (j := 0) rfl) (ix3 (j := 1) rfl) (ix3 (j := 2) rfl) tri.t fun B H1 hB k1 w1 => ?_)
    have pda1 := pda.keep k1
    obtain ⟨da', xs, e9, eda, pxs⟩ := pt_lst.mp pda1
    cases e9
    have nda : ¬ B.N da := fun z => by
      obtain ⟨_, _, e, e0, _⟩ := pt_lst.mp pda
      cases e
      rw [hB da z] at e0
      cases e0
    refine q_forOf ⟨_, rfl, da, rfl, ⟨xs, SqL.of eda⟩, ?_⟩
    have nl : noLs (ds.map deedD) = true := noL_deeds fun d hd => (hds.one d hd).2.2.2
    refine for_in (N := B.N) ds deedD (wk_seq (l := true) (Pt.intoL w1.nok nda pda1 nl)) (fun i σ' H' => (∃ (c : Addr) (S : WS) (x3 x4 x5 : Option V), σ' = [some (.ref t), some (.ref da), some (.ref B.p), x3, x4, x5] ∧ WatchAt K H' (B.co c) S ∧ (c = B.cl ∨ H1 c = none) ∧ Kn lag low high (ds.take i) S ∧ S.told = [] ∧ S.past.length ≤ i) ∧ Tb H' (tabA K "ranks"))
      ⟨⟨B.cl, _, _, _, _, rfl, w1, .inl rfl, Kn.new tri, rfl, Nat.le_refl _⟩, k1.tb _ tb⟩
      (fun i σ' H' H'' ⟨⟨c, S, x3, x4, x5, e, w, r⟩, t⟩ s => ⟨⟨c, S, x3, x4, x5, e, w.same s, r⟩, s.tb _ t⟩) ?_ ?_
    · rintro i hi σ' H' u kp ⟨⟨c, S, x3, x4, x5, rfl, wat, hc, kn, htold, hpl⟩, tb'⟩ pu
      have et : ds.take (i + 1) = ds.take i ++ [ds[i]] := by rw [List.take_add_one, List.getElem?_eq_getElem hi]; rfl
      have hok : DeedsOk (ds.take i ++ [ds[i]]) := by
        rw [← et]
        refine DeedsOk.sub (es := ds.drop (i + 1)) ?_
        rw [List.take_append_drop]
        exact hds
      have knn := kn.tell hok
      obtain ⟨n0, n1, hg, hf, hh, ro⟩ := tell_pre kn hok
      rw [et]
      generalize ds[i] = d at pu hok knn n0 n1 hg hf hh ro
      have hil : i ≤ 30 := by have := hds.len; omega
      refine gt3 (d := .str d.h) (e := .int d.n) (f := rowD d.r) pu fun x y z px py pz => ?_
      cases pt_str.mp px
      cases pt_int.mp py
      refine run_meth (A := B.co c) (ev_var rfl) wat (fun _ _ _ _ _ _ _ => rfl) (ea_cons (ed_var rfl (pt_str.mpr rfl)) (ea_cons (ed_var rfl (pt_int.mpr rfl)) (ea_one (ed_var rfl pz)))) fun vs H2 k2 pvs => ?_
      obtain ⟨v1, v2, v3, rfl, q1, q2, q3⟩ := ptA3 pvs
      cases pt_str.mp q1
      cases pt_int.mp q2
      refine ⟨B.co c, S, d.h, d.n, d.r, v3, rfl, .inl q3, ro.ok, wat.same k2, hh, kn.ok.now, .inl ⟨n0, n1, hg, hf, knn.ok, by omega, k2.tb _ tb', fun v H3 c' kp3 hc' w3 => ?_⟩⟩
      have kpa : Kp B.N H1 H2 := kp.trans k2.kp
      exact ⟨kpa.step kp3 (co_step hc), ⟨c', _, _, _, _, rfl, w3, .inr (kpa.nn _ hc'), knn, htold, by show (S.past ++ [S.kk]).length ≤ i + 1; rw [List.length_append]; simp; omega⟩, kp3.tb _ (k2.tb _ tb')⟩
    · rintro σ' H' kp ⟨⟨c, S, x3, x4, x5, rfl, wat, hc, kn, htold, hpl⟩, tb'⟩
      rw [List.take_length] at kn
      refine s_retV (ev_var rfl) fun H2 k2 => k (B.co c) S H2 (fun a ha => ?_) (Same.trans (Kp.same (k1.kp.trans kp) hB) k2) (wat.same k2) kn htold
      rcases co_step hc a ha with h | h
      · exact hB a h
      · exact k1.nn a h
theorem ok_law_made (T : Tv K mg w base) : Cal P w K mg base 14 "_law_made" ["_law_three", "_law_deeds"] (spMade K) := by
  obtain ⟨fd, F, G⟩ := okF_law_made (P := P) (base := base) T
  exact ⟨(T.f_law_made).1, ⟨fd, G, F.bindsN fun _ _ _ _ _ _ us hl => match us, hl with | [_, _], _ => rfl⟩, F.kp⟩
end
end Ro
namespace Ro
open PySem PySem.Spec PyProof.Rows L2 PySem.W
variable [TabsC]
def LockI (H : Hp) (a : Addr) (ns : List Int) : Prop := ∃ od, H a = some (.frz od (.lst (ns.map V.int)))
theorem LockI.fz {H H' : Hp} {a : Addr} {ns : List Int} (h : LockI H a ns) (f : Fz H H') : LockI H' a ns := let ⟨od, e⟩ := h; ⟨od, f.fz _ _ _ e⟩
def spAll (K : PySem.W.Frag) : Sp := fun vs H Q _ => ∃ (A : WA) (S : WS) (ra : Addr) (ns : List Int), vs = [.ref A.p, .ref ra] ∧ WatchAt K H A S ∧ WOk S ∧ TriOk S.lag S.low S.high ∧ S.told.length ≤ 30 ∧ LockI H ra ns ∧ ns.length ≤ 30 ∧ (∀ n ∈ ns, isRingM S.kk.1 n = true) ∧ Tb H (tabA K "ranks") ∧
  ∀ v H', Same H H' → Pt H' (allD S ns) v → Q v H'
theorem addN_len (ns : List Int) (n : Int) : (addN ns n).length ≤ ns.length + 1 := by
  unfold addN
  split
  · omega
  · rw [List.length_append]; simp
theorem addN_nd {ns : List Int} {n : Int} (h : ns.Nodup) : (addN ns n).Nodup := by
  unfold addN
  split
  · exact h
  · rename_i hn
    exact List.nodup_append.mpr ⟨h, by simp, fun a ha b hb z => hn (by rw [List.mem_singleton.mp hb] at z; rw [← z]; exact ha)⟩
theorem WOk.told_ {S : WS} (h : WOk S) {ts : List Int} (h1 : ts.length ≤ 60) (h2 : ts.Nodup) : WOk { S with told := ts } := ⟨h.now, h.st, h.past, h.coming, h1, h2⟩
/-- lists and tuples stay where a dict changes -/
theorem lt_of {H H' : Hp} {a : Addr} {kvs : List (L2.Key × V)} (k : Kp (· = a) H H') (e : H a = some (.dK kvs)) : Lt H H' := fun b o eb ho => k.ob b o eb (fun ps z => by rcases ho with ⟨_, h⟩ | ⟨_, h⟩ <;> rw [h] at z <;> cases z) fun z => by
  rw [show b = a from z, e] at eb
  rcases ho with ⟨_, h⟩ | ⟨_, h⟩ <;> rw [h] at eb <;> cases eb
theorem nok_sub {N M : Addr → Prop} {H : Hp} (h : NOk N H) (s : ∀ a, M a → N a) : NOk M H := fun b hb => h b (s b hb)
section
variable {P : Program} {w : World} {K : PySem.W.Frag} {mg : Str → Option Value} {base : Heap}
theorem sc_law_all : FnScope ["_law_watch", "_law_rings", "_law_twin", "_law_number"] ["_law_watch", "_law_rings"] (defScope (top 79)) := ⟨rfl, rfl, rfl, by decide +kernel, rfl, by decide +kernel, by decide +kernel⟩
theorem okF_law_all (T : Tv K mg w base) : ∃ fd, FunD K "_law_all" "_law_all" (defArgs (top 79)) (defBody (top 79)) (defScope (top 79)) [] [] (He.ga K "_law_all") fd ∧ FnOk P w K mg base (L2.CX P w) 12 (He.ga K "_law_all") fd ["_law_watch", "_law_rings"] (spAll K) := by
  have C1 : CalM P w K mg base 6 "twin" ["self"] (spTwin K) := ok_twin T
  have C2 : CalM P w K mg base 2 "log" ["self", "house"] (spLog K) := ok_log T.toTw
  have C3 : CalM P w K mg base 10 "best" ["self"] (spWBest K) := ok_wbest T.toTw
  have C4 : CalM P w K mg base 11 "lot" ["self"] (spWLot K) := ok_wlot T.toTw
  have C5 : CalM P w K mg base 11 "ask" ["self", "number"] (spAsk K) := ok_ask T.toTw
  obtain ⟨g, fd, F⟩ := T.f_law_all
  refine ⟨fd, F, F.ok sc_law_all (fun vs H Q E h => ?_) (fun cdv A outer s H vs Q E hr h => ?_)⟩
  · obtain ⟨A, S, ra, ns, rfl, _⟩ := h; rfl
  · obtain ⟨A, S, ra, ns, rfl, wat, ok, tri, htl, hra, hnl, hring, tb, k⟩ := h
    have nd := sc_law_all.nd
    refine ⟨_, (pss_cons (ps_set (i := 2) nd rfl (.inr rfl) (pe_calm0 (pv 0) T.cls C1 (hr.mono (by decide)))) (pss_one (ps_ret (pe_lst (pa_cons (pe_calm (pv 0) T.cls C2 (hr.mono (by decide)) (pa_cons (pe_str) pa_nil)) (pa_cons (pe_calm (pv 0) T.cls C2 (hr.mono (by decide)) (pa_cons (pe_str) pa_nil)) (pa_cons (pe_calm0 (pv 0) T.cls C3 (hr.mono (by decide))) (pa_cons (pe_calm0 (pv 0) T.cls C4 hr) (pa_cons (pe_lc (own := [("_law_number", 3)]) (g := gName 3) (tt := tYes) (te := tMeth (CW K) "ask" (spAsk K) [] E0 (tVar 2) (tCons (tVar 3) tNil)) rfl nd (pi_list (pv 1)) (blkOk_by (N := ["_law_watch", "_law_rings", "_law_twin", "_law_number"]) (sc := defScope (top 79)) (by decide +kernel)) (fun _ _ _ _ _ => pg_name (i := 3) nd rfl (.inl rfl)) (fun _ _ _ _ _ => pts_nil)
          (fun _ _ _ _ _ => pe_calm (pv 2) T.cls C5 hr (pa_cons (pv 3) pa_nil))) pa_nil))))))))), ?_⟩
    refine q_of (run_meth (ev_var rfl) wat (fun _ _ _ _ _ _ _ => rfl) ea_nil fun vs H1 k1 p => ?_)
    cases ptA_nil.mp p
    refine ⟨A, S, rfl, wat.same k1, tri, fun B H2 hB k2 wB => ?_⟩
    have s2 := k1.trans k2
    have wA2 := wat.same s2
    have tb2 := s2.tb _ tb
    have ra2 := hra.fz s2.fz
    have hB0 : ∀ a, B.N a → H a = none := fun a ha => k1.nn a (hB a ha)
    refine EvD.run (ed_log (h := "bridge") wA2 ok.now (ev_var rfl) (.inl rfl)) fun v1 H3 k3 p1 => EvD.run (ed_log (h := "room") (wA2.same k3) ok.now (ev_var rfl) (.inr rfl)) fun v2 H4 k4 p2 => EvD.run (ed_wbest ((wA2.same k3).same k4) ok ((k3.trans k4).tb _ tb2) (ev_var rfl)) fun v3 H5 k5 p3 => ?_
    have k25 := (k3.trans k4).trans k5
    refine EvD.run (d := lotW S) (ed_meth (ev_var rfl) (wA2.same k25) (fun _ _ _ _ _ _ _ => rfl) ea_nil fun vs H9 k9 p Q q => by
        cases ptA_nil.mp p
        exact ⟨A, S, rfl, (wA2.same k25).same k9, ok, (k25.trans k9).tb _ tb2, q⟩) fun v4 H6 k6 p4 => ?_
    have k26 := k25.trans k6
    obtain ⟨odr, era⟩ := ra2.fz k26.fz
    refine run_lcOf ⟨_, rfl, ra, rfl, ⟨_, SqL.frz era⟩, ?_⟩
    have wB6 := wB.same k26
    have tb6 := k26.tb _ tb2
    obtain ⟨dxB, kaB, pkB, ckB, kvB, iB⟩ := id wB6
    have nokT : NOk (· = B.tl) H6 := nok1 iB.tl True.intro
    have bt : B.N B.tl := .inr (.inr (.inr rfl))
    refine lcN_in (N := (· = B.tl)) ns PyData.int (by omega) (wk_frz nokT era) (fun i ds H' => (∃ ts : List Int, WatchAt K H' B { S with told := ts } ∧ ts.length ≤ S.told.length + i ∧ ts.Nodup) ∧ ds = (ns.take i).map (askD S) ∧ Tb H' (tabA K "ranks")) nokT
      (fun H7 k7 => ⟨⟨S.told, wB6.same k7, by omega, ok.nd⟩, rfl, k7.tb _ tb6⟩) (fun i ds H' _ ⟨⟨ts, w, _⟩, _⟩ => nok_sub w.nok fun a ha => (show a = B.tl from ha) ▸ bt)
      (fun i ds H' H'' D hD kD ⟨⟨ts, w, h1, h2⟩, h3, h4⟩ nD kD2 => ⟨⟨ts, w.far kD2 nD (fun a ha z => by
          obtain ⟨o, e, _⟩ := wB6.nok a ha
          rw [show a = D from z, hD] at e
          cases e), h1, h2⟩, h3, kD2.tb _ h4⟩) ?_ ?_
    · rintro i hi H' ds u kp ⟨⟨ts, w, h1, h2⟩, rfl, h4⟩ pu
      cases pt_int.mp pu
      refine ⟨_, fun Q q => q, rfl, fun Q q => ?_⟩
      refine run_meth (ev_var rfl) w (fun _ _ _ _ _ _ _ => rfl) (ea_one (ed_var rfl (pt_int.mpr rfl))) fun vs H8 k8 pvs => ?_
      obtain ⟨v, rfl, pv8⟩ := ptA1 pvs
      cases pt_int.mp pv8
      refine ⟨B, _, ns[i], rfl, w.same k8, ok.told_ (by omega) h2, k8.tb _ h4, hring _ (List.getElem_mem hi), fun v H9 kp9 w9 p9 => q v _ H9 (k8.kp.trans kp9) p9 (answerM_ok S.kk (jW S) ns[i]).1 ⟨⟨addN ts ns[i], w9, by have := addN_len ts ns[i]; omega, addN_nd h2⟩, ?_, kp9.tb _ (k8.tb _ h4)⟩⟩
      rw [List.take_add_one, List.getElem?_eq_getElem hi, List.map_append]
      rfl
    · rintro D xs H' ds hD kD hx px nl ⟨_, rfl, _⟩
      rw [List.take_length] at px
      have lt := lt_of kD iB.tl
      refine ⟨by show 5 ≤ sizeLine; decide, fun z hz => k _ _ ?_ (pt_lst.mpr ⟨z, _, rfl, upd_same, ?_⟩)⟩
      · have kp0 : Kp (· = B.tl) H H' := (s2.trans k26).kp.trans kD
        exact (Kp.same kp0 fun a ha => (show a = B.tl from ha) ▸ hB0 _ bt).trans (same_new hz)
      · have sz := same_new (o := .lst [v1, v2, v3, v4, .ref D]) hz
        exact .cons (Pt.keep sz _ _ (Pt.keepL lt _ _ (p1.keep ((k4.trans k5).trans k6)))) (.cons (Pt.keep sz _ _ (Pt.keepL lt _ _ (p2.keep (k5.trans k6)))) (.cons (Pt.keep sz _ _ (Pt.keepL lt _ _ (p3.keep k6))) (.cons (Pt.keep sz _ _ (Pt.keepL lt _ _ p4)) (.one (Pt.keep sz _ _ (pt_lst.mpr ⟨D, xs, rfl, hx, px⟩))))))
theorem ok_law_all (T : Tv K mg w base) : Cal P w K mg base 12 "_law_all" ["_law_watch", "_law_rings"] (spAll K) := by
  obtain ⟨fd, F, G⟩ := okF_law_all (P := P) (base := base) T
  exact ⟨(T.f_law_all).1, ⟨fd, G, F.bindsN fun _ _ _ _ _ _ us hl => match us, hl with | [_, _], _ => rfl⟩, F.kp⟩
end
end Ro
namespace Ro
open PySem PySem.Spec PyProof.Rows L2 PySem.W
variable [TabsC]
/-- Tv, and which clause takes what -/
structure Tu (K : PySem.W.Frag) (mg : Str → Option Value) (w : World) (base : Heap) : Prop extends Tv K mg w base where
  e_TT : exmOne K (.ref (CT K)) (.ref (CT K)) = some true
  e_NN : exmOne K (.ref (CN K)) (.ref (CN K)) = some true
  e_LL : exmOne K (.ref (CL K)) (.ref (CL K)) = some true
  e_TL : exmOne K (.ref (CT K)) (.ref (CL K)) = some false
  e_NL : exmOne K (.ref (CN K)) (.ref (CL K)) = some false
  e_NT : exmOne K (.ref (CN K)) (.ref (CT K)) = some false
section
variable {K : PySem.W.Frag} {σ : L2.St} {H H' : Hp} {ta : TE} {t : TA} {A : WA} {S : WS} {m : Str} {sp : Sp} {E : L2.St → XK} {Q : VK} {ds : List PyData}
theorem run_methS (h : EvV ta σ H (.ref A.p)) (w : WatchAt K H A S) (hm : NoFld m) (ha : EvA t σ H ds) (k : ∀ vs H1, Same H H1 → PtA H1 ds vs → sp (.ref A.p :: vs) H1 Q (E σ)) : tMethS (CW K) m sp E ta t σ H Q :=
  h H (Same.refl H) _ fun H1 k1 => by
    obtain ⟨dx, ka, pks, cks, kvs, i⟩ := w
    exact ⟨A.p, dx, _, rfl, k1 _ _ i.ins, hm .., ha H1 k1 _ fun vs H2 k2 p => k vs H2 (k1.trans k2) p⟩
end
def spVain (K : PySem.W.Frag) : Sp := fun vs H Q _ => ∃ (A : WA) (S : WS) (dv : V) (ds : List Deed) (d : Deed), vs = [.ref A.p, dv] ∧ WatchAt K H A S ∧ S.kk = keptOf ds ∧ DeedsOk ds ∧ d ∈ ds ∧ Pt H (deedD d) dv ∧ ∀ H', Same H H' → Q (.bl true) H'
theorem late_ok : (⟨0, "up", .str "late"⟩ : Row).Ok := ⟨by decide, by decide, by decide +kernel, .inl ⟨.inr rfl, "late", rfl, by unfold nameOk; decide +kernel⟩⟩
section
variable {P : Program} {w : World} {K : PySem.W.Frag} {mg : Str → Option Value} {base : Heap}
theorem sc_law_in_vain : FnScope ["_law_watch", "_law_deed", "_law_house", "_law_number", "_law_row_here", "_law_refused"] ["_law_watch", "_law_deed"] (defScope (top 81)) := ⟨rfl, rfl, rfl, by decide +kernel, rfl, by decide +kernel, by decide +kernel⟩
theorem okF_law_in_vain (T : Tu K mg w base) : ∃ fd, FunD K "_law_in_vain" "_law_in_vain" (defArgs (top 81)) (defBody (top 81)) (defScope (top 81)) [] [] (He.ga K "_law_in_vain") fd ∧ FnOk P w K mg base (L2.CX P w) 14 (He.ga K "_law_in_vain") fd ["_law_watch", "_law_deed"] (spVain K) := by
  have C1 : CalM P w K mg base 13 "tell" ["self", "house", "number", "row"] (spTell K) := ok_tell T.toTw
  have C2 : CalM P w K mg base 13 "drop" ["self", "house", "number"] (spDrop K) := ok_drop T.toTw
  obtain ⟨g, fd, F⟩ := T.f_law_in_vain
  refine ⟨fd, F, F.ok sc_law_in_vain (fun vs H Q E h => ?_) (fun cdv A outer s H vs Q E hr h => ?_)⟩
  · obtain ⟨A, S, dv, ds, d, rfl, _⟩ := h; rfl
  · obtain ⟨A, S, dv, ds, d, rfl, wat, hkk, hds, md, pd, k⟩ := h
    have nd := sc_law_in_vain.nd
    refine ⟨_, (pss_cons (ps_asg (pv 1) (pg_tup rfl (pgs_cons (pg_name (i := 2) nd rfl (.inl rfl)) (pgs_cons (pg_name (i := 3) nd rfl (.inl rfl)) (pgs_cons (pg_name (i := 4) nd rfl (.inl rfl)) pgs_nil))))) (pss_cons (ps_set (i := 5) nd rfl (.inl rfl) pe_int) (pss_cons (ps_try_many (tb := fun W => tDrop (tMethS (CW K) "tell" (spTell K) (WE W) (tVar 0) (tCons (tVar 2) (tCons (tVar 3) (tCons (tVar 4) tNil))))) rfl rfl takes_none5 (fun W pn xe tk _ => (pss_one (ps_expr (pe_calmS (pv 0) T.cls C1 hr tk (pa_cons (pv 2) (pa_cons (pv 3) (pa_cons (pv 4) pa_nil)))))))
        (.cons ⟨rfl, by decide, .inl T.x_Taken.g⟩ (fun a oe cls d pn _ _ => (pss_one (ps_set (i := 5) nd rfl (.inl rfl) (pe_op op_add (pv 5) pe_int)))) .nil)) (pss_cons (ps_try_many (tb := fun W => tDrop (tMethS (CW K) "drop" (spDrop K) (WE W) (tVar 0) (tCons (tVar 2) (tCons (tC (.int 1000)) tNil)))) rfl rfl takes_none5 (fun W pn xe tk _ => (pss_one (ps_expr (pe_calmS (pv 0) T.cls C2 hr tk (pa_cons (pv 2) (pa_cons (pe_int) pa_nil))))))
        (.cons ⟨rfl, by decide, .inl T.x_NoNumber.g⟩ (fun a oe cls d pn _ _ => (pss_one (ps_set (i := 5) nd rfl (.inl rfl) (pe_op op_add (pv 5) pe_int)))) .nil)) (pss_cons (ps_try_many (tb := fun W => tDrop (tMethS (CW K) "tell" (spTell K) (WE W) (tVar 0) (tCons (tVar 2) (tCons (tOp (rI0 fun i j => .int (i + j)) (tVar 3) (tC (.int 1))) (tCons (tTup (tCons (tC (.int 0)) (tCons (tC (.str "up")) (tCons (tC (.str "late")) tNil)))) tNil))))) rfl rfl takes_none5 (fun W pn xe tk _ => (pss_one (ps_expr (pe_calmS (pv 0) T.cls C1 hr tk (pa_cons (pv 2) (pa_cons (pe_op op_add (pv 3) pe_int) (pa_cons (pe_tup (pa_cons (pe_int) (pa_cons (pe_str) (pa_cons (pe_str) pa_nil)))) pa_nil)))))))
        (.cons ⟨rfl, by decide, .inl T.g_late⟩ (fun a oe cls d pn _ _ => (pss_one (ps_set (i := 5) nd rfl (.inl rfl) (pe_op op_add (pv 5) pe_int))))
        (.cons ⟨rfl, by decide, .inl T.x_Taken.g⟩ (fun a oe cls d pn _ _ => (pss_one (ps_set (i := 5) nd rfl (.inl rfl) (pe_op op_add (pv 5) pe_int))))
        (.cons ⟨rfl, by decide, .inl T.x_NoNumber.g⟩ (fun a oe cls d pn _ _ => (pss_one (ps_set (i := 5) nd rfl (.inl rfl) (pe_op op_add (pv 5) pe_int)))) .nil)))) (pss_one (ps_ret (pe_cmpR op_eq (pv 5) pe_int (nomark _))))))))), ?_⟩
    have eI : ∀ {σ : L2.St} {H : Hp} {x : Nat} {z : Int}, σ[x]? = some (some (.int z)) → EvD (tVar x) σ H (.int z) := fun h => ed_var h (pt_int.mpr rfl)
    obtain ⟨hh, n0, n1, ro⟩ := hds.one d md
    have hkd : KK S.kk := by rw [hkk]; exact keptOf_ok hds
    have hag : aget (ofH S.kk d.h) d.n = some d.r := by rw [hkk, ofH_kept hh]; exact aget_of hds md
    refine q_unp3 (d := .str d.h) (e := .int d.n) (f := rowD d.r) (ed_var rfl pd) fun x y z H1 k1 px py pz => ?_
    cases pt_str.mp px
    cases pt_int.mp py
    refine q_set ed_int fun v H2 k2 pv => ?_
    cases pt_int.mp pv
    have w2 := wat.same (k1.trans k2)
    have pz2 := pz.keep k2
    refine run_methS (A := A) (ev_var rfl) w2 (fun _ _ _ _ _ _ _ => rfl) (ea_cons (ed_var rfl (pt_str.mpr rfl)) (ea_cons (ed_var rfl (pt_int.mpr rfl)) (ea_one (ed_var rfl pz2)))) fun vs H3 k3 pvs => ?_
    obtain ⟨v1, v2, v3, rfl, q1, q2, q3⟩ := ptA3 pvs
    cases pt_str.mp q1
    cases pt_int.mp q2
    refine ⟨A, S, d.h, d.n, d.r, v3, rfl, .inl q3, ro.ok, w2.same k3, hh, hkd, .inr (.inr (.inl ⟨n0, n1, ⟨_, hag⟩, fun H4 k4 => ⟨true, T.e_TT, fun _ a ha => ?_, fun z => by cases z⟩⟩))⟩
    have s4 := k3.trans k4
    refine q_set (ed_op (eI rfl) ed_int rd_ii) fun v5 H5 k5 p5 => ?_
    cases pt_int.mp p5
    have w5 := w2.same (s4.trans k5)
    refine run_methS (A := A) (ev_var rfl) w5 (fun _ _ _ _ _ _ _ => rfl) (ea_cons (ed_var rfl (pt_str.mpr rfl)) (ea_one ed_int)) fun vs H6 k6 pvs => ?_
    obtain ⟨v1, v2, rfl, q1, q2⟩ := ptA2 pvs
    cases pt_str.mp q1
    cases pt_int.mp q2
    refine ⟨A, S, d.h, 1000, rfl, w5.same k6, hh, hkd, .inr ⟨by decide, fun H7 k7 => ⟨true, T.e_NN, fun _ a ha => ?_, fun z => by cases z⟩⟩⟩
    refine q_set (ed_op (eI rfl) ed_int rd_ii) fun v8 H8 k8 p8 => ?_
    cases pt_int.mp p8
    have s8 := (((k1.trans k2).trans s4).trans k5).trans ((k6.trans k7).trans k8)
    have w8 := wat.same s8
    refine q_cut (Iv := fun σ' H' => (∃ x0 x1 x2 x3 x4, σ' = [x0, x1, x2, x3, x4, some (.int 3)]) ∧ Same H H') ?_ (fun go => ?_)
    · rintro σ' H' ⟨⟨x0, x1, x2, x3, x4, rfl⟩, sm⟩
      exact s_ret (ed_op (eI rfl) ed_int rd_eqI) fun v9 H9 k9 p9 => by
        cases pt_bl.mp p9
        exact k H9 (sm.trans k9)
    have suite : ∀ {H9 : Hp}, Same H8 H9 → ∀ a : Addr, _ := fun {H9} k9 a => q_set (σ := [some (.ref A.p), some dv, some (.str d.h), some (.int d.n), some z, some (.int (0 + 1 + 1))]) (H := H9) (te := tOp (rI0 fun i j => .int (i + j)) (tVar 5) (tC (.int 1))) (n := 5) (ed_op (eI rfl) ed_int rd_ii) fun v H10 k10 p10 => by
      cases pt_int.mp p10
      exact go _ _ ⟨⟨_, _, _, _, _, rfl⟩, s8.trans (k9.trans k10)⟩
    refine run_methS (A := A) (ev_var rfl) w8 (fun _ _ _ _ _ _ _ => rfl) (ea_cons (ed_var rfl (pt_str.mpr rfl)) (ea_cons (ed_op (eI rfl) ed_int rd_ii) (ea_one (ed_tup (ea_cons ed_int (ea_cons ed_str (ea_one ed_str))) (by show 3 ≤ sizeLine; decide))))) fun vs H9 k9 pvs => ?_
    obtain ⟨v1, v2, v3, rfl, q1, q2, q3⟩ := ptA3 pvs
    cases pt_str.mp q1
    cases pt_int.mp q2
    refine ⟨A, S, d.h, d.n + 1, ⟨0, "up", .str "late"⟩, v3, rfl, .inl q3, late_ok, w8.same k9, hh, hkd, ?_⟩
    by_cases h1 : 999 < d.n + 1
    · exact .inr (.inl ⟨h1, fun H10 k10 => ⟨false, T.e_NL, fun z => (by cases z), fun _ => ⟨false, T.e_NT, fun z => (by cases z), fun _ => ⟨true, T.e_NN, fun _ a ha => suite (k9.trans k10) a, fun z => by cases z⟩⟩⟩⟩)
    · cases hg : aget (ofH S.kk d.h) (d.n + 1) with
      | some r' => exact .inr (.inr (.inl ⟨by omega, by omega, ⟨r', rfl⟩, fun H10 k10 => ⟨false, T.e_TL, fun z => (by cases z), fun _ => ⟨true, T.e_TT, fun _ a ha => suite (k9.trans k10) a, fun z => by cases z⟩⟩⟩))
      | none =>
        refine .inr (.inr (.inr ⟨by omega, by omega, rfl, ⟨?_, fun q hq hlt => ?_⟩, fun dd H10 k10 => ⟨true, T.e_LL, fun _ a ha => suite (k9.trans k10) a, fun z => by cases z⟩⟩))
        · obtain ⟨q, hq, e⟩ := aget_in hag
          exact ⟨q, hq, by rw [e]; show d.n < d.n + 1; omega⟩
        · rw [hkk, ofH_kept hh] at hq
          obtain ⟨e, he, _, rfl⟩ := mem_rowsOf hq
          have := (hds.one e he).2.2.2.pos
          show (0 : Int) < e.r.m
          omega
theorem ok_law_in_vain (T : Tu K mg w base) : Cal P w K mg base 14 "_law_in_vain" ["_law_watch", "_law_deed"] (spVain K) := by
  obtain ⟨fd, F, G⟩ := okF_law_in_vain (P := P) (base := base) T
  exact ⟨(T.f_law_in_vain).1, ⟨fd, G, F.bindsN fun _ _ _ _ _ _ us hl => match us, hl with | [_, _], _ => rfl⟩, F.kp⟩
end
end Ro
namespace Ro
open PySem PySem.Spec PyProof.Rows L2 PySem.W
variable [TabsC]
theorem Kn.drop {lag low high : Int} {ds : List Deed} {d : Deed} {S : WS} (k : Kn lag low high (ds ++ [d]) S) (h : DeedsOk (ds ++ [d])) : Kn lag low high ds (S.on d.h (kdrop (ofH S.kk d.h) d.n)) := by
  have hh := (h.one d (List.mem_append_right _ (List.mem_singleton.mpr rfl))).1
  have e1 : kdrop (rowsOf d.h (ds ++ [d])) d.n = rowsOf d.h ds := by
    rw [rowsOf_app, rowsOf_one, if_pos rfl]
    unfold kdrop
    rw [List.filter_append, List.filter_eq_self.mpr, List.filter_cons, if_neg (by simp)]
    · simp
    · intro q hq
      have := fresh_aget h
      refine decide_eq_true fun z => ?_
      have h2 := aget_some (rowsOf_ok h.sub d.h).nd hq
      rw [z, this] at h2
      cases h2
  have e : setH S.kk d.h (kdrop (ofH S.kk d.h) d.n) = keptOf ds := by
    rw [k.kk, ofH_kept hh, e1]
    unfold setH keptOf
    rw [rowsOf_app, rowsOf_app, rowsOf_one, rowsOf_one]
    rcases hh with z | z
    · have hne : ¬ d.h = ("room" : Str) := by rw [z]; decide
      rw [if_pos z]
      dsimp only
      rw [if_neg hne, List.append_nil, z]
    · have hne : ¬ d.h = ("bridge" : Str) := by rw [z]; decide
      rw [if_neg hne]
      dsimp only
      rw [if_neg hne, List.append_nil, z]
  refine ⟨k.lag, k.low, k.high, e, ⟨?_, k.ok.st, fun kk hkk => ?_, fun kk h => (by cases h), k.ok.told, k.ok.nd⟩⟩
  · show KK (setH S.kk d.h (kdrop (ofH S.kk d.h) d.n))
    rw [e]
    exact keptOf_ok h.sub
  · rcases List.mem_append.mp hkk with hm | hm
    · exact k.ok.past kk hm
    · rw [List.mem_singleton.mp hm]
      exact k.ok.now
/-- the watch amid the deeds of one turn -/
structure Gd (K : PySem.W.Frag) (H H' : Hp) (p : Addr) (A : WA) (S : WS) (lag low high : Int) (ds : List Deed) (m n : Nat) (c : Addr) (U : WS) : Prop where
  w : WatchAt K H' (A.co c) U
  hc : c = A.cl ∨ H c = none
  kn : Kn lag low high ds U
  told : U.told = S.told
  past : U.past.length ≤ S.past.length + n
  ne : U.past ≠ []
  com : U.coming.length ≤ n
  pen : PenAt H' p m
  fr : Kp (fun a => a = p ∨ A.N a) H H'
  tb : Tb H' (tabA K "ranks")
section
variable {K : PySem.W.Frag} {H H' H'' : Hp} {p : Addr} {A : WA} {S U : WS} {lag low high : Int} {ds : List Deed} {m n n' : Nat} {c : Addr}
theorem Gd.same (g : Gd K H H' p A S lag low high ds m n c U) (k : Same H' H'') : Gd K H H'' p A S lag low high ds m n c U := ⟨g.w.same k, g.hc, g.kn, g.told, g.past, g.ne, g.com, g.pen.same k, g.fr.trans k.kp, k.tb _ g.tb⟩
theorem Gd.le (g : Gd K H H' p A S lag low high ds m n c U) (k : n ≤ n') : Gd K H H' p A S lag low high ds m n' c U := ⟨g.w, g.hc, g.kn, g.told, Nat.le_trans g.past (by omega), g.ne, Nat.le_trans g.com k, g.pen, g.fr, g.tb⟩
theorem not_co (pen : PenAt H p m) (hp : ¬ A.N p) (hc : c = A.cl ∨ H c = none) : ¬ (A.co c).N p := fun z => by
  rcases z with z | z | z | z
  · exact hp (.inl z)
  · exact hp (.inr (.inl z))
  · rcases hc with e | e
    · exact hp (.inr (.inr (.inl (z.trans e))))
    · exact pen.ne e z.symm
  · exact hp (.inr (.inr (.inr z)))
/-- the frame: what the watch at hand changes -/
theorem fr_co (fr : Kp (fun a => a = p ∨ A.N a) H H') (k : Kp (A.co c).N H' H'') (hc : c = A.cl ∨ H c = none) : Kp (fun a => a = p ∨ A.N a) H H'' := fr.step k fun a ha => by
  rcases co_step hc a ha with h | h
  · exact .inl (.inr h)
  · exact .inr h
end
theorem ed_listOf {K : PySem.W.Frag} {σ : L2.St} {H : Hp} {te : TE} {r : Row} (h : EvD te σ H (rowD r)) : EvD (tCB (fun xs H Q => ∃ p ys, xs = [V.ref p] ∧ (SqL K H p ys ∨ SqT K H p ys) ∧ ∀ l, H l = none → Q (.ref l) (upd H l (.lst ys))) (tCons te tNil)) σ H (rowL r) := fun H1 s Q q => h H1 s _ fun v H2 k pv => by
  obtain ⟨a, xs, rfl, ha, px⟩ := pt_tup.mp (show Pt H2 (.tuple [.int r.m, .str r.l, r.w]) v from pv)
  exact ⟨a, xs, rfl, .inr (SqT.of ha), fun l hl => q _ _ (k.trans (same_new hl)) (pt_lst.mpr ⟨l, xs, rfl, upd_same, PtA.keep (same_new hl) _ _ px⟩)⟩
def spLed (K : PySem.W.Frag) : Sp := fun vs H Q _ => ∃ (p : Addr) (m : Nat) (A : WA) (S : WS) (dv : V) (lag low high : Int) (ds : List Deed) (d : Deed), vs = [.ref p, .ref A.p, dv] ∧ PenAt H p m ∧ m ≤ 90000 ∧ WatchAt K H A S ∧ ¬ A.N p ∧ Kn lag low high ds S ∧ DeedsOk (ds ++ [d]) ∧ S.past.length ≤ 5000 ∧ Pt H (deedD d) dv ∧ Tb H (tabA K "ranks") ∧
  ∀ c U H', Gd K H H' p A S lag low high (ds ++ [d]) (m + 1) 20 c U → Q (.bl true) H'
section
variable {P : Program} {w : World} {K : PySem.W.Frag} {mg : Str → Option Value} {base : Heap}
theorem sc_law_led : FnScope ["_law_pen", "_law_watch", "_law_deed", "_law_house", "_law_number", "_law_row_here", "_law_way"] ["_law_pen", "_law_watch", "_law_deed"] (defScope (top 82)) := ⟨rfl, rfl, rfl, by decide +kernel, rfl, by decide +kernel, by decide +kernel⟩
theorem okF_law_led (T : Tu K mg w base) : ∃ fd, FunD K "_law_led" "_law_led" (defArgs (top 82)) (defBody (top 82)) (defScope (top 82)) [] [] (He.ga K "_law_led") fd ∧ FnOk P w K mg base (L2.CX P w) 15 (He.ga K "_law_led") fd ["_law_pen", "_law_watch", "_law_deed"] (spLed K) := by
  have C0 : Cal P w K mg base 1 "_law_draw" ["_law_pen", "_law_many"] spDraw := ok_law_draw T.toTx
  have C1 : CalM P w K mg base 13 "tell" ["self", "house", "number", "row"] (spTell K) := ok_tell T.toTw
  have C2 : CalM P w K mg base 13 "drop" ["self", "house", "number"] (spDrop K) := ok_drop T.toTw
  have C3 : CalM P w K mg base 12 "back" ["self"] (spBack K) := ok_back T.toTw
  have C4 : CalM P w K mg base 12 "again" ["self"] (spAgain K) := ok_again T.toTw
  have C5 : Cal P w K mg base 14 "_law_in_vain" ["_law_watch", "_law_deed"] (spVain K) := ok_law_in_vain T
  obtain ⟨g, fd, F⟩ := T.f_law_led
  refine ⟨fd, F, F.ok sc_law_led (fun vs H Q E h => ?_) (fun cdv A outer s H vs Q E hr h => ?_)⟩
  · obtain ⟨p, m, A, S, dv, lag, low, high, ds, d, rfl, _⟩ := h; rfl
  · obtain ⟨p, m, A, S, dv, lag, low, high, ds, d, rfl, pen, hm, wat, nAp, kn, hds, hpl, pd, tb, k⟩ := h
    have nd := sc_law_led.nd
    refine ⟨_, (pss_cons (ps_asg (pv 2) (pg_tup rfl (pgs_cons (pg_name (i := 3) nd rfl (.inl rfl)) (pgs_cons (pg_name (i := 4) nd rfl (.inl rfl)) (pgs_cons (pg_name (i := 5) nd rfl (.inl rfl)) pgs_nil))))) (pss_cons (ps_set (i := 6) nd rfl (.inl rfl) (pe_cal C0 (hr.mono (by decide)) (pa_cons (pv 0) (pa_cons (pe_int) pa_nil)))) (pss_cons (ps_expr (pe_calm (pv 1) T.cls C1 (hr.mono (by decide)) (pa_cons (pv 3) (pa_cons (pv 4) (pa_cons (pe_callTy call_list_of rfl T.n_list (by decide +kernel) (pa_cons (pv 5) pa_nil)) pa_nil))))) (pss_cons (ps_if (pt_cmpR op_eq (pv 6) pe_int (nomark _)) (pss_cons (ps_expr (pe_calm (pv 1) T.cls C2 (hr.mono (by decide)) (pa_cons (pv 3) (pa_cons (pv 4) pa_nil)))) (pss_one (ps_expr (pe_calm0 (pv 1) T.cls C3 (hr.mono (by decide)))))) pss_nil) (pss_cons (ps_if (pt_cmpR op_eq (pv 6) pe_int (nomark _)) (pss_cons (ps_expr (pe_calm (pv 1) T.cls C2 (hr.mono (by decide)) (pa_cons (pv 3) (pa_cons (pv 4) pa_nil)))) (pss_one (ps_expr (pe_calm (pv 1) T.cls C1 (hr.mono (by decide)) (pa_cons (pv 3) (pa_cons (pv 4) (pa_cons (pv 5) pa_nil))))))) pss_nil) (pss_cons (ps_if (pt_cmpR op_eq (pv 6) pe_int (nomark _)) (pss_cons (ps_expr (pe_calm0 (pv 1) T.cls C3 (hr.mono (by decide)))) (pss_one (ps_expr (pe_calm0 (pv 1) T.cls C4 (hr.mono (by decide)))))) pss_nil) (pss_one (ps_ret (pe_cal C5 hr (pa_cons (pv 1) (pa_cons (pv 2) pa_nil))))))))))), ?_⟩
    have eI : ∀ {σ : L2.St} {H : Hp} {x : Nat} {z : Int}, σ[x]? = some (some (.int z)) → EvD (tVar x) σ H (.int z) := fun h => ed_var h (pt_int.mpr rfl)
    obtain ⟨n0, n1, hg, hf, hh, ro⟩ := tell_pre kn hds
    have nld : noL (deedD d) = true := noL_deed ro.ok.w
    refine q_unp3 (d := .str d.h) (e := .int d.n) (f := rowD d.r) (ed_var rfl pd) fun x y z H1 k1 px py pz => ?_
    cases pt_str.mp px
    cases pt_int.mp py
    have p1 := pen.same k1
    refine q_of (run_draw (ev_var rfl) ed_int p1 (by omega) (by decide) (by decide) fun way H2 w0 w1 k2 p2 => ?_)
    have w2 : WatchAt K H2 A S := (wat.same k1).far k2 p1.nok fun a ha z => nAp ((show a = p from z) ▸ ha)
    have pz2 : Pt H2 (rowD d.r) z := Pt.keepT (p1.nok.tk k2) _ _ (noL_row ro.ok.w) pz
    have pd2 : Pt H2 (deedD d) dv := Pt.keepT (p1.nok.tk k2) _ _ nld (pd.keep k1)
    have fr2 : Kp (fun a => a = p ∨ A.N a) H H2 := k1.kp.trans (k2.mono fun a h => .inl h)
    have tb2 := fr2.tb _ tb
    have hag : ∀ {U : WS}, Kn lag low high (ds ++ [d]) U → aget (ofH U.kk d.h) d.n = some d.r := fun {U} kn => by rw [kn.kk, ofH_kept hh]; exact aget_of hds (List.mem_append_right _ (List.mem_singleton.mpr rfl))
    /- the telling -/
    refine (run_meth (A := A) (ev_var rfl) w2 (fun _ _ _ _ _ _ _ => rfl) (ea_cons (ed_var rfl (pt_str.mpr rfl)) (ea_cons (ed_var rfl (pt_int.mpr rfl)) (ea_one (d := rowL d.r) (ed_listOf (ed_var rfl pz2))))) fun vs H3 k3 pvs => ?_)
    obtain ⟨v1, v2, v3, rfl, q1, q2, q3⟩ := ptA3 pvs
    cases pt_str.mp q1
    cases pt_int.mp q2
    refine ⟨A, S, d.h, d.n, d.r, v3, rfl, .inr q3, ro.ok, w2.same k3, hh, kn.ok.now, .inl ⟨n0, n1, hg, hf, (kn.tell hds).ok, by omega, k3.tb _ tb2, fun v4 H4 c kp4 hc w4 => ?_⟩⟩
    have w3 := w2.same k3
    have fr4 : Kp (fun a => a = p ∨ A.N a) H H4 := (fr2.trans k3.kp).trans (kp4.mono fun a h => .inr h)
    have hcH : H c = none := (fr2.trans k3.kp).nn _ hc
    have f34 : Fz H3 H4 := kp4.fz w3.nok
    have g4 : Gd K H H4 p A S lag low high (ds ++ [d]) (m + 1) 3 c (S.on d.h (ofH S.kk d.h ++ [(d.n, d.r)])) := ⟨w4, .inr hcH, kn.tell hds, rfl, by show (S.past ++ [S.kk]).length ≤ _; rw [List.length_append]; simp, by show S.past ++ [S.kk] ≠ []; simp, Nat.zero_le _, (p2.same k3).far kp4 w3.nok nAp, fr4, kp4.tb _ (k3.tb _ tb2)⟩
    have pz4 : Pt H4 (rowD d.r) z := Pt.keepT f34.tk _ _ (noL_row ro.ok.w) (pz2.keep k3)
    have pd4 : Pt H4 (deedD d) dv := Pt.keepT f34.tk _ _ nld (pd2.keep k3)
    /- dropped, taken back -/
    refine q_cut (ta := tIfS (tTest (tOp rEq (tVar 6) (tC (.int 1)))) _ tNext) (Iv := fun σ' H' => σ' = [some (.ref p), some (.ref A.p), some dv, some (.str d.h), some (.int d.n), some z, some (.int way)] ∧ Pt H' (rowD d.r) z ∧ Pt H' (deedD d) dv ∧ ∃ c U, Gd K H H' p A S lag low high (ds ++ [d]) (m + 1) 5 c U) ?_ (fun go => ?_)
    · rintro σ' H4 ⟨rfl, pz4, pd4, c, U, g4⟩
      refine q_cut (ta := tIfS (tTest (tOp rEq (tVar 6) (tC (.int 2)))) _ tNext) (Iv := fun σ' H' => σ' = [some (.ref p), some (.ref A.p), some dv, some (.str d.h), some (.int d.n), some z, some (.int way)] ∧ Pt H' (rowD d.r) z ∧ Pt H' (deedD d) dv ∧ ∃ c U, Gd K H H' p A S lag low high (ds ++ [d]) (m + 1) 8 c U) ?_ (fun go => ?_)
      · rintro σ' H4 ⟨rfl, pz4, pd4, c, U, g4⟩
        refine q_cut (ta := tIfS (tTest (tOp rEq (tVar 6) (tC (.int 3)))) _ tNext) (Iv := fun σ' H' => σ' = [some (.ref p), some (.ref A.p), some dv, some (.str d.h), some (.int d.n), some z, some (.int way)] ∧ Pt H' (rowD d.r) z ∧ Pt H' (deedD d) dv ∧ ∃ c U, Gd K H H' p A S lag low high (ds ++ [d]) (m + 1) 12 c U) ?_ (fun go => ?_)
        · intro σ' H5 hiv
          obtain ⟨rfl, pz5, pd5, c, U, g5⟩ := hiv
          exact ⟨_, rfl, _, rfl, A.co c, U, dv, ds ++ [d], d, rfl, g5.w, g5.kn.kk, hds, List.mem_append_right _ (List.mem_singleton.mpr rfl), pd5, fun H6 k6 => k c U H6 ((g5.same k6).le (by omega))⟩
        · refine q_when (eb_T (ed_op (eI rfl) ed_int rd_eqI)) (fun hb H5 k5 => ?_) (fun hb H5 k5 => go _ _ ⟨rfl, pz4.keep k5, pd4.keep k5, c, _, (g4.same k5).le (by omega)⟩)
          have g5 := g4.same k5
          obtain ⟨pa, kk0, epa⟩ : ∃ pa kk0, U.past = pa ++ [kk0] := ⟨_, _, (List.dropLast_concat_getLast g5.ne).symm⟩
          refine run_meth (A := A.co c) (ev_var rfl) g5.w (fun _ _ _ _ _ _ _ => rfl) ea_nil fun vs H6 k6 pvs => ?_
          cases ptA_nil.mp pvs
          have g6 := g5.same k6
          have okp : ∀ kk ∈ pa ++ [kk0], KK kk := fun kk h => g6.kn.ok.past kk (by rw [epa]; exact h)
          have hpl6 : (pa ++ [kk0]).length ≤ S.past.length + 8 := by rw [← epa]; exact g6.past
          rw [List.length_append] at hpl6
          refine ⟨A.co c, U, pa, kk0, rfl, g6.w, epa, ⟨okp kk0 (by simp), g6.kn.ok.st, fun kk h => okp kk (List.mem_append_left _ h), fun kk h => ?_, g6.kn.ok.told, g6.kn.ok.nd⟩, by have := g6.com; omega, g6.tb, fun v7 H7 kp7 w7 => ?_⟩
          · rcases List.mem_append.mp h with h | h
            · exact g6.kn.ok.coming kk h
            · rw [List.mem_singleton.mp h]; exact g6.kn.ok.now
          have fr7 := fr_co g6.fr kp7 g6.hc
          have pen7 := g6.pen.far kp7 g6.w.nok (not_co pen nAp g6.hc)
          have f57 : Fz H5 H7 := k6.fz.trans (kp7.fz g6.w.nok)
          have tb7 := kp7.tb _ g6.tb
          refine run_meth (A := A.co c) (ev_var rfl) w7 (fun _ _ _ _ _ _ _ => rfl) ea_nil fun vs H8 k8 pvs => ?_
          cases ptA_nil.mp pvs
          have w8 := w7.same k8
          have okU : WOk { U with past := pa ++ [kk0] } := ⟨g6.kn.ok.now, g6.kn.ok.st, okp, g6.kn.ok.coming, g6.kn.ok.told, g6.kn.ok.nd⟩
          refine ⟨A.co c, _, U.coming, U.kk, rfl, w8, rfl, okU, by show pa.length ≤ 10000; omega, k8.tb _ tb7, fun v9 H9 kp9 w9 => ?_⟩
          have f59 : Fz H5 H9 := (f57.trans k8.fz).trans (kp9.fz w8.nok)
          exact go _ _ ⟨rfl, Pt.keepT f59.tk _ _ (noL_row ro.ok.w) (pz4.keep k5), Pt.keepT f59.tk _ _ nld (pd4.keep k5), c, _, ⟨w9, g6.hc, ⟨g6.kn.lag, g6.kn.low, g6.kn.high, g6.kn.kk, okU⟩, g6.told, by show (pa ++ [kk0]).length ≤ _; rw [List.length_append]; omega, by show pa ++ [kk0] ≠ []; simp, by have := g6.com; show U.coming.length ≤ _; omega, (pen7.same k8).far kp9 w8.nok (not_co pen nAp g6.hc), fr_co (fr7.trans k8.kp) kp9 g6.hc, kp9.tb _ (k8.tb _ tb7)⟩⟩
      · refine q_when (eb_T (ed_op (eI rfl) ed_int rd_eqI)) (fun hb H5 k5 => ?_) (fun hb H5 k5 => go _ _ ⟨rfl, pz4.keep k5, pd4.keep k5, c, _, (g4.same k5).le (by omega)⟩)
        have g5 := g4.same k5
        refine run_meth (A := A.co c) (ev_var rfl) g5.w (fun _ _ _ _ _ _ _ => rfl) (ea_cons (ed_var rfl (pt_str.mpr rfl)) (ea_one (eI rfl))) fun vs H6 k6 pvs => ?_
        obtain ⟨v1, v2, rfl, q1, q2⟩ := ptA2 pvs
        cases pt_str.mp q1
        cases pt_int.mp q2
        have g6 := g5.same k6
        refine ⟨A.co c, U, d.h, d.n, rfl, g6.w, hh, g6.kn.ok.now, .inl ⟨d.r, hag g6.kn, (g6.kn.drop hds).ok, by have := g6.past; omega, g6.tb, fun v7 H7 c' kp7 hc' w7 => ?_⟩⟩
        have kn7 := g6.kn.drop hds
        have fr7 := fr_co g6.fr kp7 g6.hc
        have hcn : c' = A.cl ∨ H c' = none := .inr (g6.fr.nn _ hc')
        have pen7 := g6.pen.far kp7 g6.w.nok (not_co pen nAp g6.hc)
        have f57 : Fz H5 H7 := k6.fz.trans (kp7.fz g6.w.nok)
        have tb7 := kp7.tb _ g6.tb
        have pz7 := Pt.keepT f57.tk _ _ (noL_row ro.ok.w) (pz4.keep k5)
        refine run_meth (A := A.co c') (ev_var rfl) w7 (fun _ _ _ _ _ _ _ => rfl) (ea_cons (ed_var rfl (pt_str.mpr rfl)) (ea_cons (eI rfl) (ea_one (ed_var rfl pz7)))) fun vs H8 k8 pvs => ?_
        obtain ⟨v1, v2, v3, rfl, q1, q2, q3⟩ := ptA3 pvs
        cases pt_str.mp q1
        cases pt_int.mp q2
        have w8 := w7.same k8
        obtain ⟨_, _, hg8, hf8, _, _⟩ := tell_pre kn7 hds
        refine ⟨A.co c', _, d.h, d.n, d.r, v3, rfl, .inl q3, ro.ok, w8, hh, kn7.ok.now, .inl ⟨n0, n1, hg8, hf8, (kn7.tell hds).ok, by have := g6.past; show (U.past ++ [U.kk]).length ≤ 10000; rw [List.length_append]; simp; omega, k8.tb _ tb7, fun v9 H9 c2 kp9 hc9 w9 => ?_⟩⟩
        have f59 : Fz H5 H9 := (f57.trans k8.fz).trans (kp9.fz w8.nok)
        have fr8 := fr7.trans k8.kp
        exact go _ _ ⟨rfl, Pt.keepT f59.tk _ _ (noL_row ro.ok.w) (pz4.keep k5), Pt.keepT f59.tk _ _ nld (pd4.keep k5), c2, _, ⟨w9, .inr (fr8.nn _ hc9), kn7.tell hds, g6.told, by have := g6.past; show ((U.past ++ [U.kk]) ++ [_]).length ≤ _; rw [List.length_append, List.length_append]; simp; omega, by show (U.past ++ [U.kk]) ++ [_] ≠ []; simp, Nat.zero_le _, (pen7.same k8).far kp9 w8.nok (not_co pen nAp hcn), fr_co fr8 kp9 hcn, kp9.tb _ (k8.tb _ tb7)⟩⟩
    · refine q_when (eb_T (ed_op (eI rfl) ed_int rd_eqI)) (fun hb H5 k5 => ?_) (fun hb H5 k5 => go _ _ ⟨rfl, pz4.keep k5, pd4.keep k5, c, _, (g4.same k5).le (by omega)⟩)
      obtain ⟨U, g5⟩ : ∃ U, Gd K H H5 p A S lag low high (ds ++ [d]) (m + 1) 3 c U := ⟨_, g4.same k5⟩
      refine run_meth (A := A.co c) (ev_var rfl) g5.w (fun _ _ _ _ _ _ _ => rfl) (ea_cons (ed_var rfl (pt_str.mpr rfl)) (ea_one (eI rfl))) fun vs H6 k6 pvs => ?_
      obtain ⟨v1, v2, rfl, q1, q2⟩ := ptA2 pvs
      cases pt_str.mp q1
      cases pt_int.mp q2
      have g6 := g5.same k6
      refine ⟨A.co c, U, d.h, d.n, rfl, g6.w, hh, g6.kn.ok.now, .inl ⟨d.r, hag g6.kn, (g6.kn.drop hds).ok, by have := g6.past; omega, g6.tb, fun v7 H7 c' kp7 hc' w7 => ?_⟩⟩
      have kn7 := g6.kn.drop hds
      have fr7 := fr_co g6.fr kp7 g6.hc
      have hcn : c' = A.cl ∨ H c' = none := .inr (g6.fr.nn _ hc')
      have pen7 := g6.pen.far kp7 g6.w.nok (not_co pen nAp g6.hc)
      have f57 : Fz H5 H7 := k6.fz.trans (kp7.fz g6.w.nok)
      have tb7 := kp7.tb _ g6.tb
      refine run_meth (A := A.co c') (ev_var rfl) w7 (fun _ _ _ _ _ _ _ => rfl) ea_nil fun vs H8 k8 pvs => ?_
      cases ptA_nil.mp pvs
      have w8 := w7.same k8
      refine ⟨A.co c', _, U.past, U.kk, rfl, w8, rfl, ⟨g6.kn.ok.now, g6.kn.ok.st, g6.kn.ok.past, fun kk h => ?_, g6.kn.ok.told, g6.kn.ok.nd⟩, Nat.zero_le _, k8.tb _ tb7, fun v9 H9 kp9 w9 => ?_⟩
      · rcases List.mem_append.mp h with h | h
        · cases h
        · rw [List.mem_singleton.mp h]; exact kn7.ok.now
      · have f59 : Fz H5 H9 := (f57.trans k8.fz).trans (kp9.fz w8.nok)
        refine go _ _ ⟨rfl, Pt.keepT f59.tk _ _ (noL_row ro.ok.w) (pz4.keep k5), Pt.keepT f59.tk _ _ nld (pd4.keep k5), c', _, ⟨w9, hcn, ⟨g6.kn.lag, g6.kn.low, g6.kn.high, g6.kn.kk, ⟨g6.kn.ok.now, g6.kn.ok.st, g6.kn.ok.past, fun kk h => ?_, g6.kn.ok.told, g6.kn.ok.nd⟩⟩, g6.told, by have := g6.past; show U.past.length ≤ _; omega, g6.ne, by show 1 ≤ 5; decide, (pen7.same k8).far kp9 w8.nok (not_co pen nAp hcn), fr_co (fr7.trans k8.kp) kp9 hcn, kp9.tb _ (k8.tb _ tb7)⟩⟩
        rcases List.mem_append.mp h with h | h
        · cases h
        · rw [List.mem_singleton.mp h]; exact kn7.ok.now
theorem ok_law_led (T : Tu K mg w base) : Cal P w K mg base 15 "_law_led" ["_law_pen", "_law_watch", "_law_deed"] (spLed K) := by
  obtain ⟨fd, F, G⟩ := okF_law_led (P := P) (base := base) T
  exact ⟨(T.f_law_led).1, ⟨fd, G, F.bindsN fun _ _ _ _ _ _ us hl => match us, hl with | [_, _, _], _ => rfl⟩, F.kp⟩
end
end Ro
/-! tools for the law -/
namespace Ro
open PySem PySem.Spec PyProof.Rows L2 PySem.W
variable [TabsC]
/-- behind a statement an object is locked for good -/
def tLkAfter (t : TS) : TS := fun D σ H => t { D with nx := fun σ' H' => ∃ d u, H' d = some u ∧ Mut (some u) ∧ ∀ od, D.nx σ' (upd H' d (.frz od u)) } σ H
theorem ps_lkAfter {X : Cx} {st : Stmt} {t : TS} (h : PS X st t) : PS X st (tLkAfter t) := by
  refine ⟨fun pins s σ H D I q => ?_⟩
  refine wpAny_mono (h.run pins s σ H _ I q) (fun f s1 hsp => ?_) (fun e s1 he => he)
  cases f with
  | next =>
    obtain ⟨σ', H', J, d, u, hd, mu, q⟩ := hsp
    obtain ⟨od, J2⟩ := J.lock hd mu
    exact ⟨σ', _, J2, q od⟩
  | brk => exact hsp
  | cont => exact hsp
  | ret u => exact hsp
theorem depthAll_le {n : Nat} : ∀ {ds : List PyData}, (∀ d ∈ ds, d.depth ≤ n) → PyData.depthAll ds ≤ n
  | [], _ => Nat.zero_le _
  | d :: ds, h => by
    have h1 := h d (List.mem_cons_self ..)
    have h2 := depthAll_le fun x hx => h x (List.mem_cons_of_mem _ hx)
    simp only [PyData.depthAll]
    omega
theorem depth_allD {S : WS} (ok : KK S.kk) (ns : List Int) : (allD S ns).depth ≤ 64 := by
  have hl : ∀ k : KD, KOk k → (logD (logOf k)).depth ≤ 21 := fun k hk => by
    show PyData.depthAll ((logOf k).map rowD) + 1 ≤ 21
    have : PyData.depthAll ((logOf k).map rowD) ≤ 20 := depthAll_le fun d hd => by
      obtain ⟨r, hr, rfl⟩ := List.mem_map.mp hd
      exact depth_row (hk.log.ok r hr)
    omega
  have hb : (bestW S).depth ≤ 21 := by
    have := depth_pairs (bestJ (logOf S.kk.1) (logOf S.kk.2) S.lag S.low S.high)
    simp only [bestW, bestP, PyData.depth, PyData.depthAll]
    omega
  have ha : PyData.depthAll (ns.map (askD S)) ≤ 20 := depthAll_le fun d hd => by
    obtain ⟨n, _, rfl⟩ := List.mem_map.mp hd
    exact (answerM_ok S.kk (jW S) n).2
  have h1 := hl _ ok.b
  have h2 := hl _ ok.r
  show PyData.depthAll _ + 1 ≤ 64
  have : PyData.depthAll [logD (logOf S.kk.1), logD (logOf S.kk.2), bestW S, lotW S, .list (ns.map (askD S))] ≤ 21 := depthAll_le fun d hd => by
    simp only [List.mem_cons, List.not_mem_nil, or_false] at hd
    rcases hd with rfl | rfl | rfl | rfl | rfl
    · exact h1
    · exact h2
    · exact hb
    · exact Nat.zero_le _
    · show PyData.depthAll (ns.map (askD S)) + 1 ≤ 21
      omega
  omega
section
variable {K : PySem.W.Frag} {σ : L2.St} {H H' : Hp} {ta tb te : TE} {d : PyData} {a : Addr} {od : Obj} {ns : List Int} {n : Int} {xs : List V} {ls : List Deed}
theorem ed_eqSame (ha : EvD ta σ H d) (hb : EvD tb σ H d) (hd : d.depth ≤ 64) : EvD (tOp (rEqP K) ta tb) σ H (.bool true) := fun H1 s Q q => ha H1 s _ fun v H2 k p => hb H2 (s.trans k) _ fun u H3 k3 p3 =>
  ⟨d, d, (p.keep k3).dp, p3.dp, p3.plain, p3.plain, hd, by rw [SeqAt.eqv_refl_plain d p3.plain]; exact q _ H3 (k.trans k3) (pt_bl.mpr rfl)⟩
theorem ed_neSame (ha : EvD ta σ H d) (hb : EvD tb σ H d) (hd : d.depth ≤ 64) : EvD (tOp (rNeP K) ta tb) σ H (.bool false) := fun H1 s Q q => ha H1 s _ fun v H2 k p => hb H2 (s.trans k) _ fun u H3 k3 p3 =>
  ⟨d, d, (p.keep k3).dp, p3.dp, p3.plain, p3.plain, hd, by rw [SeqAt.eqv_refl_plain d p3.plain]; exact q _ H3 (k.trans k3) (pt_bl.mpr rfl)⟩
theorem inV_int : ∀ ns : List Int, inV (.int n) (ns.map V.int) = decide (n ∈ ns)
  | [] => rfl
  | m :: ns => by
    have ih := inV_int ns
    unfold inV at ih ⊢
    rw [List.map_cons, List.any_cons, ih]
    show ((m == n) || decide (n ∈ ns)) = decide (n ∈ m :: ns)
    by_cases e : n = m
    · subst e; simp
    · have e' : (m == n) = false := beq_eq_false_iff_ne.mpr fun z => e z.symm
      rw [e', Bool.false_or]
      simp [e]
/-- n in a locked list of ints -/
theorem ed_inI (hn : EvD te σ H (.int n)) (ha : EvV ta σ H (.ref a)) (e : LockI H a ns) : EvD (tOp (rIn K false) te ta) σ H (.bool (decide (n ∈ ns))) := fun H1 s Q q => hn H1 s _ fun v H2 k p => ha H2 (s.trans k) _ fun H3 k3 => by
  cases pt_int.mp p
  obtain ⟨od, e⟩ := e.fz ((s.trans k).trans k3).fz
  refine ⟨a, _, rfl, .inl (SqL.frz e), rfl, ?_, ?_⟩
  · rw [List.all_map]; exact List.all_eq_true.mpr fun _ _ => rfl
  · show Q (.bl (inV (.int n) (ns.map V.int))) H3
    rw [inV_int]
    exact q _ H3 (k.trans k3) (pt_bl.mpr rfl)
/-- the numbers of the rings -/
theorem en_rings {wi : TI} {ds : List Deed} (hi : EvI wi σ H (ds.map deedD)) (hl : ds.length ≤ 1000) (h1 : ∀ v, ((wipe σ [16]).set 16 (some v))[16]? = some (some v)) (h2 : ∀ v, wipe ((wipe σ [16]).set 16 (some v)) [16] = wipe σ [16]) :
    EvN (tLc wi (gName 16) (tAnd (tTest (tOp rEq (tOp (rIxT K) (tVar 16) (tC (.int 0))) (tC (.str "bridge")))) (tTest (tOp (rIn K false) (tOp (rIxT K) (tOp (rIxT K) (tVar 16) (tC (.int 2))) (tC (.int 1))) (tTup (tCons (tC (.str "port")) (tCons (tC (.str "star")) tNil)))))) (tOp (rIxT K) (tVar 16) (tC (.int 1))) [16]) σ H ((ringsOf ds).map .int) := by
  have := en_lc (wi := wi) (gt := gName 16) (vs := [16]) (te := tOp (rIxT K) (tVar 16) (tC (.int 1))) (t := tAnd (tTest (tOp rEq (tOp (rIxT K) (tVar 16) (tC (.int 0))) (tC (.str "bridge")))) (tTest (tOp (rIn K false) (tOp (rIxT K) (tOp (rIxT K) (tVar 16) (tC (.int 2))) (tC (.int 1))) (tTup (tCons (tC (.str "port")) (tCons (tC (.str "star")) tNil))))))
    ds deedD isRingD (fun d => .int d.n) (by omega) (fun _ _ _ => rfl) hi fun d hd v H2 k2 pv => ⟨_, fun Q q => q, h2 v, eb_and (eb_T (ed_op (ed_op (ed_var (h1 v) pv) ed_int (rd_ixT (d := .str d.h) rfl)) ed_str rd_eqS)) fun _ => eb_T (ed_inTup2 (ed_op (ed_op (ed_var (h1 v) pv) ed_int (rd_ixT (d := rowD d.r) rfl)) ed_int (rd_ixT (d := .str d.r.l) rfl))), fun _ => ed_op (ed_var (h1 v) pv) ed_int (rd_ixT rfl)⟩
  unfold ringsOf
  rw [List.map_map]
  exact this
theorem alike_k {α : Type} (l : List α) (k : α → Int) : AllAlike (l.map fun x => PyData.int (k x)) := fun a ha b hb => by
  obtain ⟨x, _, rfl⟩ := List.mem_map.mp ha
  obtain ⟨y, _, rfl⟩ := List.mem_map.mp hb
  simp [alike]
theorem sortable_k {α : Type} (l : List α) (k : α → Int) : Sortable (l.map fun x => PyData.int (k x)) := .inr fun a ha => by
  obtain ⟨x, _, rfl⟩ := List.mem_map.mp ha
  exact ⟨fun z => (by cases z), fun xs z => (by cases z)⟩
/-- x = a new list of ints, locked for good -/
theorem q_lkI {m : Nat} {D : Ends} {tz : TS} (h : EvN te σ H (ns.map .int)) (k : ∀ p H2, H p = none → Same H H2 → LockI H2 p ns → tz D (σ.set m (some (.ref p))) H2) : tSeq (tLkAfter (tAsg te (gName m))) tz D σ H :=
  h H (Same.refl H) _ fun p xs H1 hp s e px => by
    have ex := px.intsV
    subst ex
    exact ⟨p, _, e, True.intro, fun od => k p _ hp (s.mut hp e True.intro) ⟨od, upd_same⟩⟩
/-- left != [] -/
theorem eb_neNil (h : EvV te σ H (.ref a)) (e : H a = some (.lst xs)) (px : PtA H (ls.map deedD) xs) (hd : ∀ d ∈ ls, (deedD d).depth ≤ 30) : EvB (tTest (tOp (rNeP K) te (tLst tNil))) σ H (!ls.isEmpty) := fun H1 s Q q => h H1 s _ fun H2 k => ⟨by show 0 ≤ sizeLine; decide, fun x hx => by
  have kx := (s.trans k).trans (same_new (o := .lst []) hx)
  have px2 := PtA.keep kx _ _ px
  have hdd : PyData.depthAll (ls.map deedD) ≤ 30 := depthAll_le fun d hd' => by
    obtain ⟨z, hz, rfl⟩ := List.mem_map.mp hd'
    exact hd z hz
  refine ⟨_, _, .lst (SqL.of (kx _ _ e)) (PtA.dp _ _ px2), .lst (SqL.of upd_same) .nil, ?_, rfl, ?_, _, rfl, ?_⟩
  · exact PtA.plain _ _ px2
  · simp only [PyData.depth]; omega
  · have e2 : (!PyData.eqv (.list (ls.map deedD)) (.list [])) = !ls.isEmpty := by
      cases ls with
      | nil => rfl
      | cons d ls => simp [PyData.eqv, PyData.eqvAll]
    rw [e2]
    exact q _ (k.trans (same_new hx))⟩
/-- two watches, by their own == -/
theorem EqWat.same {a b : Addr} (e : EqWat K a b H) (k : Same H H') : EqWat K a b H' := let ⟨A, B, S, U, h1, h2, w1, w2, r⟩ := e; ⟨A, B, S, U, h1, h2, w1.same k, w2.same k, r⟩
theorem same_ext (k : Ext H H') : Same H H' := .of k
theorem ed_eqW {A B : WA} (ha : EvV ta σ H (.ref A.p)) (hb : EvV tb σ H (.ref B.p)) (e : EqWat K A.p B.p H) : EvD (tOp (rEqG (DIns (CW K) (EqWat K))) ta tb) σ H (.bool true) := fun H1 s Q q => ha H1 s _ fun H2 k => hb H2 (s.trans k) _ fun H3 k3 => by
  have e3 := e.same ((s.trans k).trans k3)
  obtain ⟨A', B', S, U, h1, h2, ⟨dx, _, _, _, _, i⟩, ⟨dy, _, _, _, _, j⟩, _⟩ := id e3
  refine ⟨⟨A.p, B.p, dx, dy, _, _, rfl, rfl, by rw [h1]; exact i.ins, by rw [h2]; exact j.ins, e3⟩, fun H4 k4 => q _ H4 ((k.trans k3).trans (same_ext k4)) (pt_bl.mpr rfl)⟩
end
theorem next_of {D : Ends} {σ : L2.St} {H : Hp} (h : D.nx σ H) : tNext D σ H := h
theorem ringsOf_snoc (fs : List Deed) (d : Deed) : ringsOf (fs ++ [d]) = ringsOf fs ++ (if isRingD d = true then [d.n] else []) := by
  rw [ringsOf_app]
  congr 1
  unfold ringsOf
  rw [List.filter_cons]
  split <;> rfl
theorem sortI_eq {a b : List Int} (p : a.Perm b) : sortI a = sortI b := sortedI_uniq (((sortI_perm a).trans p).trans (sortI_perm b).symm) (sortI_sorted a) (sortI_sorted b)
/-! the law's loop -/
def LsAt (H : Hp) (l : Addr) (ds : List Deed) : Prop := ∃ xs, H l = some (.lst xs) ∧ PtA H (ds.map deedD) xs
theorem LsAt.same {H H' : Hp} {l : Addr} {ds : List Deed} (h : LsAt H l ds) (k : Same H H') : LsAt H' l ds := let ⟨xs, e, px⟩ := h; ⟨xs, k _ _ e, PtA.keep k _ _ px⟩
theorem LsAt.far {H H' : Hp} {l : Addr} {ds : List Deed} {M : Addr → Prop} (h : LsAt H l ds) (k : Kp M H H') (n : NOk M H) (hm : ¬ M l) (ro : ∀ d ∈ ds, RO d.r) : LsAt H' l ds := let ⟨xs, e, px⟩ := h; ⟨xs, k.ob _ _ e (fun ps z => by cases z) hm, PtA.keepT (n.tk k) _ _ (noL_deeds ro) px⟩
theorem LsAt.pt {H : Hp} {l : Addr} {ds : List Deed} (h : LsAt H l ds) : Pt H (.list (ds.map deedD)) (.ref l) := let ⟨xs, e, px⟩ := h; pt_lst.mpr ⟨l, xs, rfl, e, px⟩
/-- the third watch, told fs, while the lists at la and da change -/
structure Th (K : PySem.W.Frag) (HB H : Hp) (p la da : Addr) (A : WA) (lag low high : Int) (fs : List Deed) (m : Nat) (c : Addr) (U : WS) : Prop where
  w : WatchAt K H (A.co c) U
  hc : c = A.cl ∨ HB c = none
  kn : Kn lag low high fs U
  told : U.told = ringsOf fs
  past : U.past.length ≤ 20 * fs.length
  pen : PenAt H p m
  fr : Kp (fun a => a = p ∨ A.N a ∨ a = la ∨ a = da) HB H
  tb : Tb H (tabA K "ranks")
theorem Th.same {K : PySem.W.Frag} {HB H H' : Hp} {p la da : Addr} {A : WA} {lag low high : Int} {fs : List Deed} {m : Nat} {c : Addr} {U : WS} (h : Th K HB H p la da A lag low high fs m c U) (k : Same H H') : Th K HB H' p la da A lag low high fs m c U := ⟨h.w.same k, h.hc, h.kn, h.told, h.past, h.pen.same k, h.fr.trans k.kp, k.tb _ h.tb⟩
section
variable {K : PySem.W.Frag} {σ : L2.St} {H H' : Hp} {te tr tt td : TE} {A : WA} {S U : WS} {ra t da : Addr} {ns : List Int} {lag low high : Int} {fs : List Deed}
/-- _law_all(watch, rings) -/
theorem ed_all (h : EvV te σ H (.ref A.p)) (hr : EvV tr σ H (.ref ra)) (w : WatchAt K H A S) (ok : WOk S) (tri : TriOk S.lag S.low S.high) (htl : S.told.length ≤ 30) (hra : LockI H ra ns) (hnl : ns.length ≤ 30) (hring : ∀ n ∈ ns, isRingM S.kk.1 n = true) (tb : Tb H (tabA K "ranks")) :
    EvD (tCall (spAll K) [] E0 (tCons te (tCons tr tNil))) σ H (allD S ns) := fun H1 s Q q => h H1 s _ fun H2 k2 => hr H2 (s.trans k2) _ fun H3 k3 => by
  have s3 := (s.trans k2).trans k3
  exact ⟨A, S, ra, ns, rfl, w.same s3, ok, tri, htl, hra.fz s3.fz, hnl, hring, s3.tb _ tb, fun v H4 k4 p4 => q v H4 ((k2.trans k3).trans k4) p4⟩
/-- .. of a watch that is made of deeds: what U tells that was told them -/
theorem ed_allMade (ht : EvV tt σ H (.ref t)) (hd : EvV td σ H (.ref da)) (hr : EvV tr σ H (.ref ra)) (h3 : Lock3 H t lag low high) (tri : Tri lag low high) (pd : Pt H (.list (fs.map deedD)) (.ref da)) (hds : DeedsOk fs) (hra : LockI H ra ns) (hnl : ns.length ≤ 30) (hring : ∀ n ∈ ns, isRingM (keptOf fs).1 n = true) (tb : Tb H (tabA K "ranks"))
    (kn : Kn lag low high fs U) : EvD (tCall (spAll K) [] E0 (tCons (tCall (spMade K) [] E0 (tCons tt (tCons td tNil))) (tCons tr tNil))) σ H (allD U ns) := fun H1 s Q q => ht H1 s _ fun H2 k2 => hd H2 (s.trans k2) _ fun H3 k3 => by
  have s3 := (s.trans k2).trans k3
  refine ⟨t, da, lag, low, high, fs, rfl, h3.fz s3.fz, tri, pd.keep s3, hds, s3.tb _ tb, fun A S H4 hA k4 w4 kn4 told4 => ?_⟩
  have s4 := s3.trans k4
  refine hr H4 s4 _ fun H5 k5 => ⟨A, S, ra, ns, rfl, w4.same k5, kn4.ok, ?_, by rw [told4]; exact Nat.zero_le _, hra.fz (s4.trans k5).fz, hnl, by rw [kn4.kk]; exact hring, (s4.trans k5).tb _ tb, fun v H6 k6 p6 => q v H6 (((k2.trans k3).trans k4).trans (k5.trans k6)) ?_⟩
  · rw [kn4.lag, kn4.low, kn4.high]; exact tri.t
  · rw [allD_eq (S := U) (U := S) (by rw [kn.lag, kn4.lag]) (by rw [kn.low, kn4.low]) (by rw [kn.high, kn4.high]) (by rw [kn.kk, kn4.kk]; exact ⟨rfl, rfl, fun _ => rfl⟩)]
    exact p6
/-- watch.asked() -/
theorem ed_asked (h : EvV te σ H (.ref A.p)) (w : WatchAt K H A S) : EvD (tMeth (CW K) "asked" (spAsked K) [] E0 te tNil) σ H (.list ((sortI S.told).map .int)) :=
  ed_meth h w (fun _ _ _ _ _ _ _ => rfl) ea_nil fun vs H1 k1 p Q q => by
    cases ptA_nil.mp p
    exact ⟨A, S, rfl, w.same k1, fun p xs H' hp s e px => q _ H' s (pt_lst.mpr ⟨p, xs, rfl, e, px⟩)⟩
end
theorem op_eqW {X : Cx} (C : CalM X.prog X.w X.K X.mg X.base 1 "__eq__" ["self", "other"] (spEq (EqWat X.K))) (hr : Room 1 X.A) (tk : Passes (L2.CX X.prog X.w) X fun _ _ _ => False) : OpR X (compareOp .Eq) (rEqG (DIns (CW X.K) (EqWat X.K))) := by
  obtain ⟨fd, F, b⟩ := C.ex
  exact op_eqG (rcG_ins F C.me.at_ C.me.fn b tk) hr
theorem depth_deed {d : Deed} (h : d.r.Ok) : (deedD d).depth ≤ 30 := by
  have := depth_row h
  simp only [deedD, PyData.depth, PyData.depthAll]
  omega
end Ro
namespace Ro
open PySem PySem.Spec PyProof.Rows L2 PySem.W
variable [TabsC]
def spLaw (K : PySem.W.Frag) : Sp := fun vs H Q _ => ∃ (a : Addr) (ns : List Int), vs = [.ref a] ∧ SqL K H a (ns.map V.int) ∧ ns.length ≤ 63 ∧ Tb H (tabA K "ranks") ∧ Tb H (tabA K "_law_two") ∧ Tb H (tabA K "law") ∧ ∀ H', Q (.bl true) H'
section
variable {P : Program} {w : World} {K : PySem.W.Frag} {mg : Str → Option Value} {base : Heap}
theorem sc_law : FnScope ["_law_script", "_law_pen", "_law_lag", "_law_low", "_law_three", "_law_deeds", "_law_rings", "_law_first", "_law_second", "_law_third", "_law_left", "_law_spot", "_law_done", "_law_deed", "_law_there", "_law_due", "_law_one"] ["_law_script"] (defScope (top 83)) := ⟨rfl, rfl, rfl, by decide +kernel, rfl, by decide +kernel, by decide +kernel⟩
theorem okF_law (T : Tu K mg w base) : ∃ fd, FunD K "law" "law" (defArgs (top 83)) (defBody (top 83)) (defScope (top 83)) [] [] (He.ga K "law") fd ∧ FnOk P w K mg base (L2.CX P w) 17 (He.ga K "law") fd ["_law_script"] (spLaw K) := by
  have C0 : Cal P w K mg base 1 "_law_draw" ["_law_pen", "_law_many"] spDraw := ok_law_draw T.toTx
  have C1 : Cal P w K mg base 8 "_law_two" ["_law_pen", "_law_most", "_law_lag", "_law_d"] (spTwo K) := ok_law_two T.toTy
  have C2 : Cal P w K mg base 3 "_law_tellings" ["_law_pen", "_law_logs"] spTellings := ok_law_tellings T.toTx
  have C3 : Cal P w K mg base 14 "_law_made" ["_law_three", "_law_deeds"] (spMade K) := ok_law_made T.toTv
  have C4 : Cal P w K mg base 15 "_law_led" ["_law_pen", "_law_watch", "_law_deed"] (spLed K) := ok_law_led T
  have C5 : Cal P w K mg base 12 "_law_all" ["_law_watch", "_law_rings"] (spAll K) := ok_law_all T.toTv
  have C6 : CalM P w K mg base 11 "ask" ["self", "number"] (spAsk K) := ok_ask T.toTw
  have C7 : CalM P w K mg base 1 "asked" ["self"] (spAsked K) := ok_asked T.toTw
  have C8 : CalM P w K mg base 1 "__eq__" ["self", "other"] (spEq (EqWat K)) := ok_eq T.toTv
  obtain ⟨fdI, GI, BI⟩ := (ok_init (P := P) (base := base) T.toTw).ex
  obtain ⟨g, fd, F⟩ := T.f_law
  refine ⟨fd, F, okC (p := ("law", none)) F rfl sc_law (fun vs H Q E h => ?_) (fun cdv hcd A outer s H vs Q E hr h => ?_)⟩
  · obtain ⟨a, ns, rfl, _⟩ := h; rfl
  · obtain ⟨a, ns, rfl, ea, hns, tb1, tb2, tb3, k⟩ := h
    have nd := sc_law.nd
    have hu := hr.units
    subst hcd
    refine ⟨_, (pss_cons (ps_set (i := 1) nd rfl (.inl rfl) (pe_lst (pa_cons (pe_lk (pe_callTy call_list_of rfl T.n_list (by decide +kernel) (pa_cons (pe_slice (r := rSlL K) sl_list (pv 0) po_none (po_some pe_int)) pa_nil))) (pa_cons (pe_int) (pa_cons (pe_int) pa_nil))))) (pss_cons (ps_set (i := 2) nd rfl (.inl rfl) (pe_cal C0 (hr.mono (by decide)) (pa_cons (pv 1) (pa_cons (pe_int) pa_nil)))) (pss_cons (ps_set (i := 3) nd rfl (.inl rfl) (pe_op op_sub (pe_cal C0 (hr.mono (by decide)) (pa_cons (pv 1) (pa_cons (pe_int) pa_nil))) pe_int)) (pss_cons (ps_set (i := 4) nd rfl (.inl rfl) (pe_lk (pe_lst (pa_cons (pv 2) (pa_cons (pv 3) (pa_cons (pe_op op_add (pv 3) (pe_cal C0 (hr.mono (by decide)) (pa_cons (pv 1) (pa_cons (pe_int) pa_nil)))) pa_nil)))))) (pss_cons (ps_set (i := 5) nd rfl (.inl rfl) (pe_cal C2 (hr.mono (by decide)) (pa_cons (pv 1) (pa_cons (pe_cal C1 (hr.mono (by decide)) (pa_cons (pv 1) (pa_cons (pe_int) (pa_cons (pv 2) (pa_cons (pe_op op_add (pv 3) (pe_cal C0 (hr.mono (by decide)) (pa_cons (pv 1) (pa_cons (pe_int) pa_nil)))) pa_nil))))) pa_nil)))) (pss_cons (ps_lkAfter (ps_setLc (i := 6) (own := [("_law_one", 16)]) (g := gName 16) (te := tOp (rIxT K) (tVar 16) (tC (.int 1))) (tt := tAnd (tTest (tOp rEq (tOp (rIxT K) (tVar 16) (tC (.int 0))) (tC (.str "bridge")))) (tTest (tOp (rIn K false) (tOp (rIxT K) (tOp (rIxT K) (tVar 16) (tC (.int 2))) (tC (.int 1))) (tTup (tCons (tC (.str "port")) (tCons (tC (.str "star")) tNil)))))) rfl nd rfl rfl (sw_true rfl rfl rfl (by decide +kernel)) (pi_list (pv 5))
        (blkOk_by (N := ["_law_script", "_law_pen", "_law_lag", "_law_low", "_law_three", "_law_deeds", "_law_rings", "_law_first", "_law_second", "_law_third", "_law_left", "_law_spot", "_law_done", "_law_deed", "_law_there", "_law_due", "_law_one"]) (sc := defScope (top 83)) (by decide +kernel)) (fun _ _ _ _ _ => pg_name (i := 16) nd rfl (.inl rfl))
        (fun _ _ _ _ _ => pts_one (PW.pt (pw_and (pt_cmpR op_eq (pe_ix (r := rIxT K) ix_tup (pv 16) pe_int (fun _ _ => rfl)) pe_str (nomark _)) (pw_and1 (pt_cmpR (r := rIn K false) op_in_seq (pe_ix (r := rIxT K) ix_tup (pe_ix (r := rIxT K) ix_tup (pv 16) pe_int (fun _ _ => rfl)) pe_int (fun _ _ => rfl)) (pe_tup (pa_cons (pe_str) (pa_cons (pe_str) pa_nil))) rfl)))))
        (fun _ _ _ _ _ => pe_ix (r := rIxT K) ix_tup (pv 16) pe_int (fun _ _ => rfl)))) (pss_cons (ps_set (i := 7) nd rfl (.inl rfl) (pe_cal C3 (hr.mono (by decide)) (pa_cons (pv 4) (pa_cons (pe_sortLam (k := 10) (x := "_law_one") (KR := keyAt 1) (hr.mono (by decide)) rfl T.n_sorted (pa_cons (pv 5) pa_nil) T.tb_law rfl T.nm_law rfl (lamOk_at rfl (by decide) rfl (fun _ _ _ => rfl) (by decide)) (fun _ _ _ _ => rfl) rfl rfl rfl rfl (by decide +kernel) rfl) pa_nil)))) (pss_cons (ps_set (i := 8) nd rfl (.inl rfl) (pe_cal C3 (hr.mono (by decide)) (pa_cons (pv 4) (pa_cons (pv 5) pa_nil)))) (pss_cons (ps_set (i := 9) nd rfl (.inl rfl) (pe_make T.mkr GI (hr.mono (by decide)) rfl T.gW BI .nil passL (pa_cons (pe_ix ix_list (pv 4) pe_int (fun _ _ => rfl)) (pa_cons (pe_ix ix_list (pv 4) pe_int (fun _ _ => rfl)) (pa_cons (pe_ix ix_list (pv 4) pe_int (fun _ _ => rfl)) pa_nil))))) (pss_cons (ps_set (i := 10) nd rfl (.inl rfl) (pe_callTy call_list_of rfl T.n_list (by decide +kernel) (pa_cons (pv 5) pa_nil))) (pss_cons (ps_set (i := 11) nd rfl (.inl rfl) (pe_cal C0 (hr.mono (by decide)) (pa_cons (pv 1) (pa_cons (pe_op op_add (pe_callB call_len_seq rfl T.n_len PySem.boot_len (pa_cons (pv 5) pa_nil)) pe_int) pa_nil)))) (pss_cons (ps_set (i := 12) nd rfl (.inl rfl) (pe_lst pa_nil)) (pss_cons (ps_while (passes_of rfl) (pt_cmpR (op_neP hu) (pv 10) (pe_lst pa_nil) (nomark _))
        (pss_cons (ps_set (i := 13) nd rfl (.inl rfl) (pe_bm PySem.F.plainAttrs_list PySem.F.slot_list_pop PySem.F.type_list_pop mt_popAt (pv 10) (pa_cons (pe_cal C0 (hr.mono (by decide)) (pa_cons (pv 1) (pa_cons (pe_callB call_len_seq rfl T.n_len PySem.boot_len (pa_cons (pv 10) pa_nil)) pa_nil))) pa_nil))) (pss_cons (ps_expr (pe_bm PySem.F.plainAttrs_list PySem.F.slot_list_append PySem.F.type_list_append mt_append (pv 12) (pa_cons (pv 13) pa_nil))) (pss_cons (ps_if (pt_not (pt_val (pe_cal C4 (hr.mono (by decide)) (pa_cons (pv 1) (pa_cons (pv 9) (pa_cons (pv 13) pa_nil)))))) (pss_one (ps_ret pe_bl)) pss_nil) (pss_cons (ps_if (PW.pt (pw_and (pt_cmpR op_in_seq (pe_ix ix_tup (pv 13) pe_int (fun _ _ => rfl)) (pv 6) rfl) (pw_and1 (pt_cmpR op_eq (pe_ix ix_tup (pv 13) pe_int (fun _ _ => rfl)) pe_str (nomark _))))) (pss_one (ps_expr (pe_calm (pv 9) T.cls C6 (hr.mono (by decide)) (pa_cons (pe_ix ix_tup (pv 13) pe_int (fun _ _ => rfl)) pa_nil)))) pss_nil) (pss_one (ps_if (pt_cmpR op_eq (pe_callB call_len_seq rfl T.n_len PySem.boot_len (pa_cons (pv 10) pa_nil)) (pv 11) (nomark _))
            (pss_cons (ps_lkAfter (ps_setLc (i := 14) (own := [("_law_one", 16)]) (g := gName 16) (te := tOp (rIxT K) (tVar 16) (tC (.int 1))) (tt := tAnd (tTest (tOp rEq (tOp (rIxT K) (tVar 16) (tC (.int 0))) (tC (.str "bridge")))) (tTest (tOp (rIn K false) (tOp (rIxT K) (tOp (rIxT K) (tVar 16) (tC (.int 2))) (tC (.int 1))) (tTup (tCons (tC (.str "port")) (tCons (tC (.str "star")) tNil)))))) rfl nd rfl rfl (sw_true rfl rfl rfl (by decide +kernel)) (pi_list (pv 12))
                (blkOk_by (N := ["_law_script", "_law_pen", "_law_lag", "_law_low", "_law_three", "_law_deeds", "_law_rings", "_law_first", "_law_second", "_law_third", "_law_left", "_law_spot", "_law_done", "_law_deed", "_law_there", "_law_due", "_law_one"]) (sc := defScope (top 83)) (by decide +kernel)) (fun _ _ _ _ _ => pg_name (i := 16) nd rfl (.inl rfl))
                (fun _ _ _ _ _ => pts_one (PW.pt (pw_and (pt_cmpR op_eq (pe_ix (r := rIxT K) ix_tup (pv 16) pe_int (fun _ _ => rfl)) pe_str (nomark _)) (pw_and1 (pt_cmpR (r := rIn K false) op_in_seq (pe_ix (r := rIxT K) ix_tup (pe_ix (r := rIxT K) ix_tup (pv 16) pe_int (fun _ _ => rfl)) pe_int (fun _ _ => rfl)) (pe_tup (pa_cons (pe_str) (pa_cons (pe_str) pa_nil))) rfl)))))
                (fun _ _ _ _ _ => pe_ix (r := rIxT K) ix_tup (pv 16) pe_int (fun _ _ => rfl)))) (pss_one (ps_if (pt_cmpR (op_neP hu) (pe_cal C5 (hr.mono (by decide)) (pa_cons (pv 9) (pa_cons (pv 14) pa_nil))) (pe_cal C5 (hr.mono (by decide)) (pa_cons (pe_cal C3 (hr.mono (by decide)) (pa_cons (pv 4) (pa_cons (pv 12) pa_nil))) (pa_cons (pv 14) pa_nil))) (nomark _)) (pss_one (ps_ret pe_bl)) pss_nil))) pss_nil))))))) (pss_cons (ps_if (PW.pt (pw_or (pt_not (pt_cmpR (op_eqW C8 (hr.mono (by decide)) passL) (pv 7) (pv 8) (nomark _))) (pw_or (pt_not (pt_cmpR (op_eqW C8 (hr.mono (by decide)) passL) (pv 8) (pv 9) (nomark _))) (pw_or1 (pt_not (pt_cmpR (op_eqW C8 (hr.mono (by decide)) passL) (pv 7) (pv 9) (nomark _))))))) (pss_one (ps_ret pe_bl)) pss_nil) (pss_cons (ps_set (i := 15) nd rfl (.inl rfl) (pe_cal C5 (hr.mono (by decide)) (pa_cons (pv 7) (pa_cons (pv 6) pa_nil)))) (pss_one (ps_ret (pe_and (pe_cmpR (op_eqP hu) (pe_cal C5 (hr.mono (by decide)) (pa_cons (pv 8) (pa_cons (pv 6) pa_nil))) (pv 15) (nomark _)) (pe_and (pe_cmpR (op_eqP hu) (pe_cal C5 (hr.mono (by decide)) (pa_cons (pv 9) (pa_cons (pv 6) pa_nil))) (pv 15) (nomark _)) (pe_one (pe_cmpR (op_eqP hu) (pe_calm0 (pv 9) T.cls C7 (hr.mono (by decide))) (pe_callB cr_sortedI rfl T.n_sorted (by decide +kernel) (pa_cons (pv 6) pa_nil)) (nomark _)))))))))))))))))))))), ?_⟩
    have eI : ∀ {σ : L2.St} {H : Hp} {x : Nat} {z : Int}, σ[x]? = some (some (.int z)) → EvD (tVar x) σ H (.int z) := fun h => ed_var h (pt_int.mpr rfl)
    /- the pen -/
    obtain ⟨cells, hcells, hcl⟩ : ∃ cells : List Int, cutV (ns.map V.int) none (some 63) = cells.map V.int ∧ cells.length ≤ 63 := by
      refine ⟨(ns.drop (HT.sIx ns.length 0 none)).take (HT.sIx ns.length ns.length (some 63) - HT.sIx ns.length 0 none), ?_, ?_⟩
      · unfold cutV
        rw [List.length_map, List.map_take, List.map_drop]
      · rw [List.length_take, List.length_drop]; omega
    refine ⟨_, rfl, 63, rfl, a, _, rfl, ea, fun p0 hp0 => ⟨p0, _, rfl, .inl (SqL.of upd_same), fun c hc => ⟨c, _, rfl, upd_same, True.intro, fun od => ⟨by show 3 ≤ sizeLine; decide, fun p hp => ?_⟩⟩⟩⟩
    rw [hcells] at hc hp ⊢
    have hcH : H c = none := (same_new hp0).nn _ hc
    have sm1 : Same H (upd (upd (upd (upd H p0 (.lst (cells.map V.int))) c (.lst (cells.map V.int))) c (.frz od (.lst (cells.map V.int)))) p (.lst [.ref c, .int 0, .int 0])) :=
      (((same_new hp0).trans (same_new hc)).mut hcH (u := .lst (cells.map V.int)) upd_same True.intro).trans (same_new hp)
    have ncp : c ≠ p := fun z => by rw [← z, upd_same] at hp; cases hp
    have pen1 : PenAt (upd (upd (upd (upd H p0 (.lst (cells.map V.int))) c (.lst (cells.map V.int))) c (.frz od (.lst (cells.map V.int)))) p (.lst [.ref c, .int 0, .int 0])) p 0 := ⟨c, od, cells, 0, 0, Nat.le_refl _, Int.le_refl _, upd_same, by rw [upd_ne ncp]; exact upd_same, by omega⟩
    generalize upd (upd (upd (upd H p0 (.lst (cells.map V.int))) c (.lst (cells.map V.int))) c (.frz od (.lst (cells.map V.int)))) p (.lst [.ref c, .int 0, .int 0]) = H1 at sm1 pen1 ⊢
    /- lag, low, three -/
    refine q_of (run_draw (ev_var rfl) ed_int pen1 (by omega) (by decide) (by decide) fun lag H2 l0 l1 k2 p2 => ?_)
    refine run_draw (ev_var rfl) ed_int p2 (by omega) (by decide) (by decide) fun low' H3 w0 w1 k3 p3 => ⟨low', 20, rfl, rfl, ?_⟩
    refine ⟨_, rfl, _, rfl, _, rfl, run_draw (ev_var rfl) ed_int p3 (by omega) (by decide) (by decide) fun hi' H4 h0 h1 k4 p4 => ⟨low' - 20, hi', rfl, rfl, by show 3 ≤ sizeLine; decide, fun t ht => ⟨t, _, rfl, upd_same, True.intro, fun odt => ?_⟩⟩⟩
    have hg : low' - 20 + hi' = low' - 20 + hi' := rfl
    have tri : Tri lag (low' - 20) (low' - 20 + hi') := ⟨⟨by omega, by omega, by omega, by omega, by omega, by omega⟩, ⟨by omega, by omega, by omega⟩⟩
    have s45 : Same H4 (upd (upd H4 t (.lst [.int lag, .int (low' - 20), .int (low' - 20 + hi')])) t (.frz odt (.lst [.int lag, .int (low' - 20), .int (low' - 20 + hi')]))) := (same_new ht).mut ht (u := .lst [.int lag, .int (low' - 20), .int (low' - 20 + hi')]) upd_same True.intro
    have h35 : Lock3 (upd (upd H4 t (.lst [.int lag, .int (low' - 20), .int (low' - 20 + hi')])) t (.frz odt (.lst [.int lag, .int (low' - 20), .int (low' - 20 + hi')]))) t lag (low' - 20) (low' - 20 + hi') := ⟨odt, upd_same⟩
    have p5 := p4.same s45
    have kp5 : Kp (· = p) H1 (upd (upd H4 t (.lst [.int lag, .int (low' - 20), .int (low' - 20 + hi')])) t (.frz odt (.lst [.int lag, .int (low' - 20), .int (low' - 20 + hi')]))) := ((k2.trans k3).trans k4).trans s45.kp
    generalize upd (upd H4 t (.lst [.int lag, .int (low' - 20), .int (low' - 20 + hi')])) t (.frz odt (.lst [.int lag, .int (low' - 20), .int (low' - 20 + hi')])) = H5 at h35 p5 kp5 ⊢
    have kpH5 : Kp (· = p) H H5 := sm1.kp.trans kp5
    /- the deeds -/
    refine ⟨_, rfl, _, rfl, _, rfl, _, rfl, run_draw (ev_var rfl) ed_int p5 (by omega) (by decide) (by decide) fun dd H6 d0 d1 k6 p6 => ⟨low' - 20, dd, rfl, rfl, p, _, lag, low' - 20 + dd, rfl, p6, by omega, l0, by omega, by omega, by omega, (kpH5.trans k6).tb _ tb2, fun B R v H7 hB hR k7 p7 pv => ?_⟩⟩
    obtain ⟨lg, lxs, rfl, elg, plx⟩ := pt_lst.mp pv
    have nlg : lg ≠ p := fun z => by
      obtain ⟨c', od', l', a', r', i'⟩ := id p7
      have := i'.ls
      rw [← z, elg] at this
      have e2 := plx.length
      cases this
      simp at e2
    refine ⟨p, lg, _, B, R, rfl, p7, by omega, nlg, pv, hB, hR, fun ds dea xs H8 hds k8 hdea edea pxs p8 => ?_⟩
    have kpH8 : Kp (· = p) H H8 := ((kpH5.trans k6).trans k7).trans k8
    have h38 := (h35.fz (k6.fz p5.nok)).fz ((k7.trans k8).fz p6.nok)
    have hnp : ∀ {x : Addr}, H1 x = none → x ≠ p := fun h => pen1.ne h
    have ndea : dea ≠ p := p7.ne hdea
    /- the rings -/
    refine q_lkI (ns := ringsOf ds) (en_rings (ei_list (ed_var rfl (pt_lst.mpr ⟨dea, xs, rfl, edea, pxs⟩))) (by have := hds.len; omega) (fun v => rfl) (fun v => rfl)) fun ra H10 hra s10 hr10 => ?_
    have pds10 : Pt H10 (.list (ds.map deedD)) (.ref dea) := (pt_lst.mpr ⟨dea, xs, rfl, edea, pxs⟩ : Pt H8 _ _).keep s10
    /- the first, the second, the third -/
    refine ⟨_, rfl, en_sortLam (P := tabA K "law") (KR := keyAt 1) (ta := tCons (tVar 5) tNil) (σ := [some (.ref a), some (.ref p), some (.int lag), some (.int (low' - 20)), some (.ref t), some (.ref dea), some (.ref ra), none, none, none, none, none, none, none, none, none, none]) (key := fun d : Deed => .int d.n) (l := ds) (enc := deedD) (ea_one (ed_var rfl pds10)) ((kpH8.trans s10.kp).tb _ tb3) (alike_k _ _) (sortable_k _ _) (fun d _ => ⟨by simp [PyData.depth], _, d.n, rfl, rfl, rfl⟩) H10 (Same.refl _) _ fun sd xs1 H11 hsd k11 esd pxs1 => ?_⟩
    have perm1 : (ds.mergeSort (dataLe false fun d : Deed => .int d.n)).Perm ds := List.mergeSort_perm ..
    generalize ds.mergeSort (dataLe false fun d : Deed => .int d.n) = es at perm1 pxs1
    have s811 := s10.trans k11
    refine ⟨t, sd, lag, low' - 20, low' - 20 + hi', es, rfl, h38.fz s811.fz, tri, pt_lst.mpr ⟨sd, xs1, rfl, esd, pxs1⟩, hds.perm perm1.symm, (kpH8.trans s811.kp).tb _ tb1, fun B1 S1 H12 hB1 k12 wB1 kn1 told1 => ?_⟩
    have s812 := s811.trans k12
    refine ⟨_, rfl, _, rfl, t, dea, lag, low' - 20, low' - 20 + hi', ds, rfl, h38.fz s812.fz, tri, pds10.keep (k11.trans k12), hds, (kpH8.trans s812.kp).tb _ tb1, fun B2 S2 H13 hB2 k13 wB2 kn2 told2 => ?_⟩
    have s813 := s812.trans k13
    obtain ⟨od3, e3⟩ := h38.fz s813.fz
    refine q_of (run_newWatch (K := K) (ed_ixF (ns := [lag, low' - 20, low' - 20 + hi']) (j := 0) (ev_var rfl) e3 ed_int rfl) (ed_ixF (ns := [lag, low' - 20, low' - 20 + hi']) (j := 1) (ev_var rfl) e3 ed_int rfl) (ed_ixF (ns := [lag, low' - 20, low' - 20 + hi']) (j := 2) (ev_var rfl) e3 ed_int rfl) tri.t fun A H14 hA k14 wA => ?_)
    have s814 := s813.trans k14
    have edea14 : H14 dea = some (.lst xs) := s814 _ _ edea
    refine ⟨_, rfl, dea, xs, rfl, .inl (SqL.of edea14), fun la hla => ?_⟩
    have s15 := same_new (o := .lst xs) hla
    have s815 := s814.trans s15
    have ela : (upd H14 la (.lst xs)) la = some (.lst xs) := upd_same
    generalize upd H14 la (.lst xs) = H15 at s15 s815 ela ⊢
    have p15 := p8.same s815
    have hxl : xs.length = ds.length := by rw [pxs.length, List.length_map]
    have hdl := hds.len
    refine q_of (run_draw (ev_var rfl) (ed_op (ed_lenV (ev_var rfl) (s15 _ _ edea14)) ed_int rd_ii) p15 (by omega) (by omega) (by omega) fun spot H16 sp0 sp1 k16 p16 => ?_)
    refine q_setN (en_lst ea_nil (by show 0 ≤ sizeLine; decide)) fun da xd H17 hda k17 eda pxd => ?_
    cases ptA_nil.mp pxd
    /- the loop -/
    have s1516 := k16
    have pen17 : PenAt H17 p 2000 := (p16.same k17).le (by omega)
    have k1517 : Kp (· = p) H15 H17 := k16.trans k17.kp
    have nok15 := p15.nok
    have nAp : ∀ x, A.N x → x ≠ p := fun x hx => (p8.same s813).ne (hA x hx)
    have nBp1 : ∀ x, B1.N x → x ≠ p := fun x hx => (p8.same s811).ne (hB1 x hx)
    have nBp2 : ∀ x, B2.N x → x ≠ p := fun x hx => (p8.same s812).ne (hB2 x hx)
    have wA17 : WatchAt K H17 A (.new lag (low' - 20) (low' - 20 + hi')) := (wA.same s15).far k1517 nok15 nAp
    have wB117 : WatchAt K H17 B1 S1 := (((wB1.same k13).same k14).same s15).far k1517 nok15 nBp1
    have wB217 : WatchAt K H17 B2 S2 := ((wB2.same k14).same s15).far k1517 nok15 nBp2
    have ela17 : H17 la = some (.lst xs) := k1517.ob _ _ ela (fun ps z => by cases z) ((p8.same s814).ne hla)
    have nlap : la ≠ p := (p8.same s814).ne hla
    have ndap : da ≠ p := p16.ne hda
    have nlda : la ≠ da := fun z => by rw [← z] at hda; have := k16.ob _ _ ela (fun ps z => by cases z) nlap; rw [hda] at this; cases this
    have nlaA : ¬ A.N la := fun z => by obtain ⟨o, e, _⟩ := wA.nok la z; rw [hla] at e; cases e
    have ndaA : ¬ A.N da := fun z => by obtain ⟨o, e, _⟩ := ((wA.same s15).far k16 nok15 nAp).nok da z; rw [hda] at e; cases e
    have f1017 : Fz H10 H17 := ((((k11.trans k12).trans (k13.trans k14)).trans s15).fz).trans (k1517.fz nok15)
    have f817 : Fz H8 H17 := s10.fz.trans f1017
    have hra17 : LockI H17 ra (ringsOf ds) := hr10.fz f1017
    have h317 := h38.fz f817
    have kpH17 : Kp (· = p) H H17 := (kpH8.trans s815.kp).trans k1517
    have ls17 : LsAt H17 la ds := ⟨xs, ela17, PtA.keepT ((s815.tk).trans (nok15.tk k1517)) _ _ (noL_deeds fun d hd => (hds.one d hd).2.2.2) pxs⟩
    have th17 : Th K H17 H17 p la da A lag (low' - 20) (low' - 20 + hi') [] 2000 A.cl (.new lag (low' - 20) (low' - 20 + hi')) := ⟨wA17, .inl rfl, Kn.new tri, rfl, Nat.zero_le _, pen17, Kp.refl, kpH17.tb _ tb1⟩
    have nB1N : ∀ x, B1.N x → ¬ (x = p ∨ A.N x ∨ x = la ∨ x = da) := fun x hx z => by
      rcases z with z | z | z | z
      · exact nBp1 x hx z
      · obtain ⟨o, e, _⟩ := (wB1.same k13).nok x hx
        rw [hA x z] at e; cases e
      · obtain ⟨o, e, _⟩ := ((wB1.same k13).same k14).nok x hx
        rw [z, hla] at e; cases e
      · obtain ⟨o, e, _⟩ := ((((wB1.same k13).same k14).same s15).far k16 nok15 nBp1).nok x hx
        rw [z, hda] at e; cases e
    have nB2N : ∀ x, B2.N x → ¬ (x = p ∨ A.N x ∨ x = la ∨ x = da) := fun x hx z => by
      rcases z with z | z | z | z
      · exact nBp2 x hx z
      · obtain ⟨o, e, _⟩ := wB2.nok x hx
        rw [hA x z] at e; cases e
      · obtain ⟨o, e, _⟩ := (wB2.same k14).nok x hx
        rw [z, hla] at e; cases e
      · obtain ⟨o, e, _⟩ := (((wB2.same k14).same s15).far k16 nok15 nBp2).nok x hx
        rw [z, hda] at e; cases e
    have nok17 : NOk (fun x => x = p ∨ A.N x ∨ x = la ∨ x = da) H17 := fun x hx => by
      rcases hx with hx | hx | hx | hx
      · exact pen17.nok x hx
      · exact wA17.nok x hx
      · rw [show x = la from hx]; exact ⟨_, ela17, True.intro⟩
      · rw [show x = da from hx]; exact ⟨_, eda, True.intro⟩
    have hro : ∀ {l : List Deed}, (∀ d ∈ l, d ∈ ds) → ∀ d ∈ l, RO d.r := fun h d hd => (hds.one d (h d hd)).2.2.2
    refine q_while (s_while (fun mm σ' H' => ∃ (ls fs : List Deed) (c : Addr) (U : WS) (x13 x14 : Option V), σ' = [some (.ref a), some (.ref p), some (.int lag), some (.int (low' - 20)), some (.ref t), some (.ref dea), some (.ref ra), some (.ref B1.p), some (.ref B2.p), some (.ref A.p), some (.ref la), some (.int spot), some (.ref da), x13, x14, none, none] ∧ mm = ls.length ∧ (fs ++ ls).Perm ds ∧ LsAt H' la ls ∧ LsAt H' da fs ∧ Th K H17 H' p la da A lag (low' - 20) (low' - 20 + hi') fs (2000 + 2 * fs.length) c U)
      ds.length ⟨ds, [], _, _, none, none, rfl, rfl, List.Perm.refl _, ls17, ⟨[], eda, .nil⟩, th17⟩ ?_)
    rintro mm σ' H' ⟨ls, fs, c, U, x13, x14, rfl, rfl, perm, lsL, lsF, th⟩
    have hlen : fs.length + ls.length ≤ 30 := by have := perm.length_eq; rw [List.length_append] at this; omega
    have hml : ∀ d ∈ ls, d ∈ ds := fun d hd => perm.mem_iff.mp (List.mem_append_right _ hd)
    have hmf : ∀ d ∈ fs, d ∈ ds := fun d hd => perm.mem_iff.mp (List.mem_append_left _ hd)
    obtain ⟨xs', eL, pL⟩ := id lsL
    refine ⟨_, eb_neNil (ev_var rfl) eL pL (fun d hd => depth_deed (hro hml d hd).ok), fun hb H18 k18 => ?_, fun hb H18 k18 => ?_⟩
    · have hb' : ls ≠ [] := by
        intro z
        rw [z] at hb
        cases hb
      have hl1 : 1 ≤ ls.length := List.length_pos_iff.mpr hb'
      have th18 := th.same k18
      obtain ⟨xs18, eL18, pL18⟩ := lsL.same k18
      refine q_of (run_popDraw (ls := ls) rfl eL18 pL18 (hro hml) nlap rfl (ed_lenV (ev_var rfl) eL18) th18.pen (by omega) hl1 (by omega) fun j hj y H19 k19 p19 py eL19 pL19 => ?_)
      have hd : ls[j] ∈ ds := hml _ (List.getElem_mem hj)
      have perm2 : ((fs ++ [ls[j]]) ++ ls.eraseIdx j).Perm ds := by
        refine List.Perm.trans ?_ perm
        rw [List.append_assoc]
        exact (erase_perm ls j hj).append_left fs
      have hml2 : ∀ d ∈ ls.eraseIdx j, d ∈ ds := fun d hd => hml d (List.mem_of_mem_eraseIdx hd)
      have hel : (ls.eraseIdx j).length < ls.length := by rw [List.length_eraseIdx_of_lt hj]; omega
      generalize ls[j] = d at py hd perm2
      have hdsF : DeedsOk (fs ++ [d]) := (hds.perm perm2.symm).sub
      have hmF : ∀ e ∈ fs ++ [d], e ∈ ds := fun e he => perm2.mem_iff.mp (List.mem_append_left _ he)
      have nld : noL (deedD d) = true := noL_deed (hds.one d hd).2.2.2.ok.w
      have nAc : ∀ x, (A.co c).N x → A.N x ∨ H17 x = none := co_step th.hc
      have nAcp : ¬ (A.co c).N p := fun z => by
        rcases nAc p z with h | h
        · exact nAp p h rfl
        · exact pen17.ne h rfl
      have nlaAc : ¬ (A.co c).N la := fun z => by
        rcases nAc la z with h | h
        · exact nlaA h
        · rw [ela17] at h; cases h
      have ndaAc : ¬ (A.co c).N da := fun z => by
        rcases nAc da z with h | h
        · exact ndaA h
        · rw [eda] at h; cases h
      have nok18 := th18.pen.nok
      have w19 : WatchAt K H19 (A.co c) U := th18.w.far k19 nok18 fun x hx z => nAcp ((show x = p from z) ▸ hx)
      have lsF19 : LsAt H19 da fs := (lsF.same k18).far k19 nok18 ndap (hro hmf)
      /- left.pop -/
      have t1 : Kp (· = la) H19 (upd H19 la (.lst (xs18.eraseIdx j))) := Kp.refl.mut rfl eL19 True.intro
      have n1 : NOk (· = la) H19 := nok1 eL19 True.intro
      have ls20 : LsAt (upd H19 la (.lst (xs18.eraseIdx j))) la (ls.eraseIdx j) := ⟨_, upd_same, by
        rw [← map_erase]
        exact PtA.keepT (n1.tk t1) _ _ (by rw [map_erase]; exact noL_deeds (hro hml2)) (pL19.eraseIdx j)⟩
      have lsF20 := lsF19.far t1 n1 (fun z => nlda z.symm) (hro hmf)
      have w20 := w19.far t1 n1 (fun x hx z => nlaAc ((show x = la from z) ▸ hx))
      have p20 := p19.far t1 n1 (fun z => nlap z.symm)
      have py20 := Pt.keepT (n1.tk t1) _ _ nld py
      have fr20 := (th18.fr.trans (k19.mono fun x h => .inl h)).trans (t1.mono (M := fun x => x = p ∨ A.N x ∨ x = la ∨ x = da) fun x h => .inr (.inr (.inl h)))
      have tb20 := t1.tb _ (k19.tb _ th18.tb)
      generalize upd H19 la (.lst (xs18.eraseIdx j)) = H20 at ls20 lsF20 w20 p20 py20 fr20 tb20 ⊢
      /- done.append -/
      obtain ⟨ys, eF20, pF20⟩ := id lsF20
      have hyl : ys.length = fs.length := by rw [pF20.length, List.length_map]
      refine ⟨_, rfl, .inl ⟨rfl, _, SqL.of eF20⟩, _, rfl, da, ys, y, rfl, rfl, eF20, sizes1 (by omega), ?_⟩
      have t2 : Kp (· = da) H20 (upd H20 da (.lst (ys ++ [y]))) := Kp.refl.mut rfl eF20 True.intro
      have n2 : NOk (· = da) H20 := nok1 eF20 True.intro
      have ls21 := ls20.far t2 n2 nlda (hro hml2)
      have lsF21 : LsAt (upd H20 da (.lst (ys ++ [y]))) da (fs ++ [d]) := ⟨_, upd_same, by
        rw [List.map_append]
        exact PtA.keepT (n2.tk t2) _ _ (noLs_app (noL_deeds (hro hmf)) (noLs_one nld)) (pF20.append (.one py20))⟩
      have w21 := w20.far t2 n2 (fun x hx z => ndaAc ((show x = da from z) ▸ hx))
      have p21 := p20.far t2 n2 (fun z => ndap z.symm)
      have py21 := Pt.keepT (n2.tk t2) _ _ nld py20
      have fr21 := fr20.trans (t2.mono (M := fun x => x = p ∨ A.N x ∨ x = la ∨ x = da) fun x h => .inr (.inr (.inr h)))
      have tb21 := t2.tb _ tb20
      generalize upd H20 da (.lst (ys ++ [y])) = H21 at ls21 lsF21 w21 p21 py21 fr21 tb21 ⊢
      /- led -/
      refine ⟨_, rfl, _, rfl, _, rfl, p, _, A.co c, U, y, lag, low' - 20, low' - 20 + hi', fs, d, rfl, p21, by omega, w21, nAcp, th.kn, hdsF, by have := th.past; omega, py21, tb21, fun c' U' H22 g => ⟨true, rfl, ?_⟩⟩
      dsimp only
      rw [if_neg (by decide)]
      have nokM : NOk (fun x => x = p ∨ (A.co c).N x) H21 := fun x hx => by
        rcases hx with h | h
        · exact p21.nok x h
        · exact w21.nok x h
      have ls22 := ls21.far g.fr nokM (fun z => by rcases z with z | z; exact nlap z; exact nlaAc z) (hro hml2)
      have lsF22 := lsF21.far g.fr nokM (fun z => by rcases z with z | z; exact ndap z; exact ndaAc z) (hro hmF)
      have py22 := Pt.keepT (nokM.tk g.fr) _ _ nld py21
      have hc22 : c' = A.cl ∨ H17 c' = none := by
        rcases g.hc with h | h
        · rcases th.hc with h2 | h2
          · exact .inl ((show c' = c from h).trans h2)
          · exact .inr ((show c' = c from h) ▸ h2)
        · exact .inr (fr21.nn _ h)
      have fr22 : Kp (fun x => x = p ∨ A.N x ∨ x = la ∨ x = da) H17 H22 := fr21.step g.fr fun x hx => by
        rcases hx with h | h
        · exact .inl (.inl h)
        · rcases nAc x h with h | h
          · exact .inl (.inr (.inl h))
          · exact .inr h
      have hra22 := hra17.fz (fr22.fz nok17)
      have w22 : WatchAt K H22 (A.co c') U' := g.w
      have told22 : U'.told = ringsOf fs := g.told.trans th.told
      have past22 : U'.past.length ≤ 20 * (fs ++ [d]).length := by have h1 := g.past; have h2 := th.past; rw [List.length_append]; simp; omega
      have pen22 : PenAt H22 p (2000 + 2 * (fs ++ [d]).length) := g.pen.le (by rw [List.length_append]; simp; omega)
      have hrn := ring_of_num hds hd
      refine next_of ?_
      dsimp only
      refine q_cut (Iv := fun σ' H' => σ' = [some (.ref a), some (.ref p), some (.int lag), some (.int (low' - 20)), some (.ref t), some (.ref dea), some (.ref ra), some (.ref B1.p), some (.ref B2.p), some (.ref A.p), some (.ref la), some (.int spot), some (.ref da), some y, x14, none, none] ∧ LsAt H' la (ls.eraseIdx j) ∧ LsAt H' da (fs ++ [d]) ∧ ∃ c U, Th K H17 H' p la da A lag (low' - 20) (low' - 20 + hi') (fs ++ [d]) (2000 + 2 * (fs ++ [d]).length) c U) ?_ (fun go => ?_)
      · rintro σ' H23 ⟨rfl, ls23, lsF23, c3, U3, th23⟩
        obtain ⟨xs23, eL23, pL23⟩ := id ls23
        have fin : ∀ (x14 : Option V) (H24 : Hp), Same H23 H24 → _ := fun x14 H24 k24 => (⟨(ls.eraseIdx j).length, hel, ls.eraseIdx j, fs ++ [d], c3, U3, some y, x14, rfl, rfl, perm2, ls23.same k24, lsF23.same k24, th23.same k24⟩ : ∃ m', m' < ls.length ∧ ∃ (ls2 fs2 : List Deed) (c : Addr) (U : WS) (x13 x14' : Option V), [some (.ref a), some (.ref p), some (.int lag), some (.int (low' - 20)), some (.ref t), some (.ref dea), some (.ref ra), some (.ref B1.p), some (.ref B2.p), some (.ref A.p), some (.ref la), some (.int spot), some (.ref da), some y, x14, none, none] = [some (.ref a), some (.ref p), some (.int lag), some (.int (low' - 20)), some (.ref t), some (.ref dea), some (.ref ra), some (.ref B1.p), some (.ref B2.p), some (.ref A.p), some (.ref la), some (.int spot), some (.ref da), x13, x14', none, none] ∧ m' = ls2.length ∧ (fs2 ++ ls2).Perm ds ∧ LsAt H24 la ls2 ∧ LsAt H24 da fs2 ∧ Th K H17 H24 p la da A lag (low' - 20) (low' - 20 + hi') fs2 (2000 + 2 * fs2.length) c U)
        refine s_when (eb_T (ed_op (ed_lenV (ev_var rfl) eL23) (eI rfl) rd_eqI)) (fun hb H24 k24 => ?_) (fun hb H24 k24 => fin x14 H24 k24)
        have th24 := th23.same k24
        have lsF24 := lsF23.same k24
        refine q_lkI (ns := ringsOf (fs ++ [d])) (en_rings (ei_list (ed_var rfl lsF24.pt)) (by have := hdsF.len; omega) (fun v => rfl) (fun v => rfl)) fun tha H25 hth k25 hth25 => ?_
        have th25 := th24.same k25
        have f1725 : Fz H17 H25 := th25.fr.fz nok17
        have hrl : (ringsOf (fs ++ [d])).length ≤ 30 := Nat.le_trans (ringsOf_len _) hdsF.len
        refine s_when (b := false) (eb_T (ed_neSame (d := allD U3 (ringsOf (fs ++ [d]))) (ed_all (A := A.co c3) (ev_var rfl) (ev_var rfl) th25.w th25.kn.ok (by rw [th25.kn.lag, th25.kn.low, th25.kn.high]; exact tri.t) (by rw [th25.told]; exact hrl) hth25 hrl (fun n hn => by rw [th25.kn.kk]; exact ring_isRing hdsF hn) th25.tb)
          (ed_allMade (t := t) (da := da) (fs := fs ++ [d]) (ev_var rfl) (ev_var rfl) (ev_var rfl) (h317.fz f1725) tri (lsF24.same k25).pt hdsF hth25 hrl (fun n hn => ring_isRing hdsF hn) th25.tb th25.kn) (depth_allD th25.kn.ok.now _))) (fun z => by cases z) (fun _ H26 k26 => fin (some (.ref tha)) H26 ((k24.trans k25).trans k26))
      · refine q_when (eb_and (eb_T (ed_inI (ed_op (ed_var rfl py22) ed_int (rd_ixT (d := .int d.n) rfl)) (ev_var rfl) hra22)) fun _ => eb_T (ed_op (ed_op (ed_var rfl py22) ed_int (rd_ixT (d := .str d.h) rfl)) ed_str rd_eqS)) (fun hb H23 k23 => ?_) (fun hb H23 k23 => ?_)
        · have hR : isRingD d = true := hrn.mp (by
            rw [Bool.and_eq_true] at hb
            exact ⟨of_decide_eq_true hb.1, of_decide_eq_true hb.2⟩)
          have esn : ringsOf (fs ++ [d]) = ringsOf fs ++ [d.n] := by rw [ringsOf_snoc, if_pos hR]
          have hnd := ringsOf_nd hdsF
          have hrl : (ringsOf (fs ++ [d])).length ≤ 30 := Nat.le_trans (ringsOf_len _) hdsF.len
          have hni : addN U'.told d.n = ringsOf (fs ++ [d]) := by
            rw [told22, esn]
            rw [esn] at hnd
            unfold addN
            rw [if_neg fun z => (List.nodup_append.mp hnd).2.2 _ z _ (List.mem_singleton.mpr rfl) rfl]
          have w23 := w22.same k23
          refine run_meth (A := A.co c') (ev_var rfl) w23 (fun _ _ _ _ _ _ _ => rfl) (ea_one (ed_op (ed_var rfl (py22.keep k23)) ed_int (rd_ixT (d := .int d.n) rfl))) fun vs H24 k24 pvs => ?_
          obtain ⟨v, rfl, pv⟩ := ptA1 pvs
          cases pt_int.mp pv
          have w24 := w23.same k24
          have s24 := k23.trans k24
          refine ⟨A.co c', U', d.n, rfl, w24, g.kn.ok, s24.tb _ g.tb, by rw [g.kn.kk]; exact ring_isRing hdsF (by rw [esn]; simp), fun v25 H25 kp25 w25 p25 => ?_⟩
          obtain ⟨dxa, kaa, pka, cka, kva, ia⟩ := id w24
          have n24 : NOk (· = (A.co c').tl) H24 := nok1 ia.tl True.intro
          have atl : A.N A.tl := .inr (.inr (.inr rfl))
          rw [hni] at w25
          exact go _ _ ⟨rfl, (ls22.same s24).far kp25 n24 (fun z => nlaA ((show la = A.tl from z) ▸ atl)) (hro hml2), (lsF22.same s24).far kp25 n24 (fun z => ndaA ((show da = A.tl from z) ▸ atl)) (hro hmF), c', _, ⟨w25, hc22, ⟨g.kn.lag, g.kn.low, g.kn.high, g.kn.kk, g.kn.ok.told_ (by omega) hnd⟩, rfl, past22, (pen22.same s24).far kp25 n24 (fun z => nAp _ atl (show p = A.tl from z).symm), (fr22.trans s24.kp).trans (kp25.mono fun x h => .inr (.inl ((show x = A.tl from h) ▸ atl))), kp25.tb _ (s24.tb _ g.tb)⟩⟩
        · have hR : ¬ isRingD d = true := fun z => by
            have h := hrn.mpr z
            rw [decide_eq_true h.1, decide_eq_true h.2] at hb
            cases hb
          have esn : ringsOf (fs ++ [d]) = ringsOf fs := by rw [ringsOf_snoc, if_neg hR, List.append_nil]
          exact go _ _ ⟨rfl, ls22.same k23, lsF22.same k23, c', U', ⟨w22.same k23, hc22, g.kn, told22.trans esn.symm, past22, pen22.same k23, fr22.trans k23.kp, k23.tb _ g.tb⟩⟩
    · have hl0 : ls = [] := by
        cases ls with
        | nil => rfl
        | cons _ _ => cases hb
      subst hl0
      rw [List.append_nil] at perm
      have th18 := th.same k18
      have kpB := th18.fr
      have wB18 := wB117.far kpB nok17 nB1N
      have wB28 := wB217.far kpB nok17 nB2N
      have hra18 := hra17.fz (kpB.fz nok17)
      have hes : DeedsOk es := hds.perm perm1.symm
      have hfs : DeedsOk fs := hds.perm perm.symm
      have e12 : EqWat K B1.p B2.p H18 := ⟨B1, B2, S1, S2, rfl, rfl, wB18, wB28, kn1.lag.trans kn2.lag.symm, kn1.low.trans kn2.low.symm, kn1.high.trans kn2.high.symm, by rw [kn1.kk, kn2.kk]; exact mapEq_of hes perm1 _, by rw [kn1.kk, kn2.kk]; exact mapEq_of hes perm1 _, kn1.ok.now⟩
      have e23 : EqWat K B2.p A.p H18 := ⟨B2, A.co c, S2, U, rfl, rfl, wB28, th18.w, kn2.lag.trans th.kn.lag.symm, kn2.low.trans th.kn.low.symm, kn2.high.trans th.kn.high.symm, by rw [kn2.kk, th.kn.kk]; exact mapEq_of hds perm.symm _, by rw [kn2.kk, th.kn.kk]; exact mapEq_of hds perm.symm _, kn2.ok.now⟩
      have e13 : EqWat K B1.p A.p H18 := ⟨B1, A.co c, S1, U, rfl, rfl, wB18, th18.w, kn1.lag.trans th.kn.lag.symm, kn1.low.trans th.kn.low.symm, kn1.high.trans th.kn.high.symm, by rw [kn1.kk, th.kn.kk]; exact mapEq_of hes (perm1.trans perm.symm) _, by rw [kn1.kk, th.kn.kk]; exact mapEq_of hes (perm1.trans perm.symm) _, kn1.ok.now⟩
      refine q_when (b := false) (EvB.to (eb_or (eb_not (eb_T (ed_eqW (A := B1) (B := B2) (ev_var rfl) (ev_var rfl) e12))) fun _ => eb_or (eb_not (eb_T (ed_eqW (A := B2) (B := A) (ev_var rfl) (ev_var rfl) e23))) fun _ => eb_not (eb_T (ed_eqW (A := B1) (B := A) (ev_var rfl) (ev_var rfl) e13))) rfl) (fun z => by cases z) (fun _ H19 k19 => ?_)
      have hrl : (ringsOf ds).length ≤ 30 := Nat.le_trans (ringsOf_len _) hds.len
      have tb19 := k19.tb _ th18.tb
      refine q_set (ed_all (A := B1) (S := S1) (ev_var rfl) (ev_var rfl) (wB18.same k19) kn1.ok (by rw [kn1.lag, kn1.low, kn1.high]; exact tri.t) (by rw [told1]; exact Nat.zero_le _) (hra18.fz k19.fz) hrl (fun n hn => by rw [kn1.kk]; exact ring_isRing hes ((ringsOf_perm perm1).mem_iff.mpr hn)) tb19) fun vd H20 k20 pd => ?_
      have s20 := k19.trans k20
      have dep := depth_allD kn1.ok.now (ringsOf ds)
      refine s_ret (ed_andV (ed_eqSame (d := allD S1 (ringsOf ds)) ((ed_all (A := B2) (S := S2) (ev_var rfl) (ev_var rfl) (wB28.same s20) kn2.ok (by rw [kn2.lag, kn2.low, kn2.high]; exact tri.t) (by rw [told2]; exact Nat.zero_le _) (hra18.fz s20.fz) hrl (fun n hn => by rw [kn2.kk]; exact ring_isRing hds hn) (k20.tb _ tb19)).to (allD_eq (kn2.lag.trans kn1.lag.symm) (kn2.low.trans kn1.low.symm) (kn2.high.trans kn1.high.symm) (by rw [kn2.kk, kn1.kk]; exact KEq.of hds perm1.symm) _)) (ed_var rfl pd) dep) fun _ =>
        ed_andV (ed_eqSame (d := allD S1 (ringsOf ds)) ((ed_all (A := A.co c) (S := U) (ev_var rfl) (ev_var rfl) (th18.w.same s20) th.kn.ok (by rw [th.kn.lag, th.kn.low, th.kn.high]; exact tri.t) (by rw [th.told]; exact Nat.le_trans (ringsOf_len _) hfs.len) (hra18.fz s20.fz) hrl (fun n hn => by rw [th.kn.kk]; exact ring_isRing hfs ((ringsOf_perm perm).mem_iff.mpr hn)) (k20.tb _ tb19)).to (allD_eq (th.kn.lag.trans kn1.lag.symm) (th.kn.low.trans kn1.low.symm) (th.kn.high.trans kn1.high.symm) (by rw [th.kn.kk, kn1.kk]; exact KEq.of hfs (perm.trans perm1.symm)) _)) (ed_var rfl pd) dep) fun _ =>
        ed_eqSame (d := .list ((sortI U.told).map .int)) (ed_asked (A := A.co c) (ev_var rfl) (th18.w.same s20)) ((en_sortIS (a := ra) (ns := ringsOf ds) (ev_var rfl) fun H1 s => by obtain ⟨od9, e9⟩ := (hra18.fz s20.fz).fz s.fz; exact SqL.frz e9).dd.to (by rw [th.told, sortI_eq (ringsOf_perm perm)])) (by simp only [PyData.depth]; have := depth_ints (sortI U.told); omega)) fun v H21 k21 pv => ?_
      cases pt_bl.mp pv
      exact k H21
theorem ok_law (T : Tu K mg w base) : Cal P w K mg base 17 "law" ["_law_script"] (spLaw K) := by
  obtain ⟨fd, F, G⟩ := okF_law (P := P) (base := base) T
  exact ⟨(T.f_law).1, ⟨fd, G, F.bindsN fun _ _ _ _ _ _ us hl => match us, hl with | [_], _ => rfl⟩, F.kp⟩
end
end Ro
/-! the head: facts by one run, the joining -/
namespace Ro
open PySem PySem.Spec PyProof.Rows L2
def dG (x : Str) (i : Nat) (dv : List He.Dv) : He.DefD := ⟨(x, none), x, x, defArgs (top i), defBody (top i), defScope (top i), dv, []⟩
def dM (m q : Str) (j : Nat) (dv : List He.Dv) : He.DefD := ⟨("Watch", some m), m, q, defArgs (sM j), defBody (sM j), defScope (sM j), dv, []⟩
def dLt : He.DefD := ⟨("Late", some "__init__"), "__init__", "Late.__init__", defArgs sL, defBody sL, defScope sL, [], []⟩
def hFn : List He.DefD := [dG "is_whole" 17 [],
  dG "is_from_to" 18 [],
  dG "is_minute" 19 [],
  dG "is_order" 20 [],
  dG "is_name" 21 [],
  dG "dial_of" 26 [],
  dG "sent_from" 27 [],
  dG "is_what" 28 [],
  dG "is_row" 29 [],
  dG "row_of" 30 [],
  dG "is_pair" 32 [],
  dG "span" 33 [.int 0],
  dG "meets" 34 [],
  dG "pairs_within" 35 [],
  dG "pairs_at" 36 [.int 0, .int 0],
  dG "by_lines" 38 [],
  dG "ranks" 40 [],
  dG "longest" 41 [],
  dG "greatest" 43 [.int 0, .int 0],
  dG "joining" 45 [.int 0, .int 0],
  dG "fits" 47 [],
  dG "changes" 48 [],
  dG "counts" 49 [.int 0, .int 0, .int 0],
  dG "best" 50 [.int 0, .int 0, .int 0],
  dG "lot" 54 [],
  dG "fate" 57 [],
  dG "need_ring" 60 [],
  dG "ring_of" 61 [],
  dG "is_stretch" 68 [],
  dG "need_fit" 69 [],
  dG "named" 70 [],
  dG "_law_draw" 73 [],
  dG "_law_word" 74 [],
  dG "_law_row" 75 [],
  dG "_law_two" 76 [],
  dG "_law_numbers" 77 [],
  dG "_law_tellings" 78 [],
  dG "_law_all" 79 [],
  dG "_law_made" 80 [],
  dG "_law_in_vain" 81 [],
  dG "_law_led" 82 [],
  dG "law" 83 [],
  dM "__init__" "Watch.__init__" 0 [.int 0, .int 0, .int 0],
  dM "__eq__" "Watch.__eq__" 2 [],
  dM "need_house" "Watch.need_house" 3 [],
  dM "tell" "Watch.tell" 4 [],
  dM "drop" "Watch.drop" 5 [],
  dM "led_on" "Watch.led_on" 6 [],
  dM "led_to" "Watch.led_to" 7 [],
  dM "back" "Watch.back" 8 [],
  dM "again" "Watch.again" 9 [],
  dM "log" "Watch.log" 10 [],
  dM "best" "Watch.best" 11 [],
  dM "lot" "Watch.lot" 12 [],
  dM "is_ring" "Watch.is_ring" 13 [],
  dM "answer_of" "Watch.answer_of" 14 [],
  dM "ask" "Watch.ask" 15 [],
  dM "asked" "Watch.asked" 17 [],
  dM "twin" "Watch.twin" 18 [],
  dLt]
def hFa : List He.Fa := [.glo "is_whole", .glo "is_from_to", .glo "is_minute", .glo "is_order", .glo "is_name", .glo "dial_of", .glo "sent_from", .glo "is_what", .glo "is_row", .glo "row_of", .glo "is_pair", .glo "span", .glo "meets", .glo "pairs_within", .glo "pairs_at", .glo "by_lines", .glo "ranks", .glo "longest", .glo "greatest", .glo "joining", .glo "fits", .glo "changes", .glo "counts", .glo "best", .glo "lot", .glo "fate", .glo "need_ring", .glo "ring_of", .glo "is_stretch", .glo "need_fit", .glo "named", .glo "_law_draw", .glo "_law_word", .glo "_law_row", .glo "_law_two", .glo "_law_numbers", .glo "_law_tellings", .glo "_law_all", .glo "_law_made", .glo "_law_in_vain", .glo "_law_led", .glo "law", .glo "WORDED", .glo "BELLS_rings", .glo "BELLS_watch", .glo "SENT", .glo "DIALS", .glo "Watch", .glo "Taken", .glo "NoNumber", .glo "Late", .free "isinstance", .free "int", .free "bool", .free "str", .free "tuple", .free "list", .free "dict", .free "len", .free "all", .free "sorted", .free "max", .free "min", .free "sum", .free "enumerate", .free "zip", .free "range", .free "abs", .free "LookupError", .int "MOST_MINUTE" 99999, .int "MOST_ORDER" 4, .int "MOST_LETTERS" 8, .int "MOST_ROWS" 40, .int "MOST_LAG" 60, .int "MOST_APART" 1440, .int "MOST_WIDE" 240, .int "MOST_NUMBER" 999, .str "LETTERS" "abcdefghijklmnopqrstuvwxyz", .cls "Watch", .mkr "Watch", .noat "Watch" "lag", .noat "Watch" "low", .noat "Watch" "high", .noat "Watch" "kept", .noat "Watch" "past", .noat "Watch" "coming", .noat "Watch" "told", .meth "Watch" "__init__", .meth "Watch" "__eq__", .meth "Watch" "need_house", .meth "Watch" "tell", .meth "Watch" "drop", .meth "Watch" "led_on", .meth "Watch" "led_to", .meth "Watch" "back", .meth "Watch" "again", .meth "Watch" "log", .meth "Watch" "best", .meth "Watch" "lot", .meth "Watch" "is_ring", .meth "Watch" "answer_of", .meth "Watch" "ask", .meth "Watch" "asked", .meth "Watch" "twin"]
def hTs : List He.Tab := [(fun K => He.ga K "SENT", ["port", "star", "down", "aport", "astar", "up"]), (fun K => He.ga K "DIALS", ["port", "star"])]
def hTf : List He.Defn := [("ranks", none), ("_law_two", none), ("law", none)]
abbrev sentDv : List (Str × He.Dv) := sentKV.map fun q => (q.1, .str q.2)
abbrev dialDv : List (Str × He.Dv) := dialKV.map fun q => (q.1, .str q.2)
def initB (K : PySem.W.Frag) : Bool := match PySem.W.findCls K (.type "LookupError") (.type "type") "__init__" with
  | some (.val (.builtin i)) => decide (i = "LookupError.__init__")
  | _ => false
theorem initB_ok {K : PySem.W.Frag} (h : initB K = true) : PySem.W.findCls K (.type "LookupError") (.type "type") "__init__" = some (.val (.builtin "LookupError.__init__")) := by
  unfold initB at h
  split at h
  · rename_i i e
    rw [e, of_decide_eq_true h]
  · cases h
def hExL (K : PySem.W.Frag) : List Bool := [He.tupB K "WORDED" [.str "down", .str "up"],
  He.tupB K "BELLS_rings" [.str "port", .str "star"],
  He.tupB K "BELLS_watch" [.str "port", .str "star"],
  He.valsB K (He.ga K "SENT") sentDv,
  He.valsB K (He.ga K "DIALS") dialDv,
  He.eqO (PySem.W.nsIn K mainGlobals "best_counts") (some (some (.ref (He.ga K "best")))),
  He.eqO (PySem.W.nsIn K mainGlobals "lot_lots") (some (some (.ref (He.ga K "lot")))),
  PySem.W.excIn K (He.ga K "Taken") He.veBase "ValueError.__new__",
  PySem.W.keepIn K (.ref (He.ga K "Taken")),
  decide (PySem.W.subIn K (.ref (He.ga K "Taken")) (.type "BaseException") = some true),
  decide (PySem.W.typeIn K (.ref (He.ga K "Taken")) = some (.type "type")),
  PySem.W.excIn K (He.ga K "NoNumber") ieBase "IndexError.__new__",
  PySem.W.keepIn K (.ref (He.ga K "NoNumber")),
  decide (PySem.W.subIn K (.ref (He.ga K "NoNumber")) (.type "BaseException") = some true),
  decide (PySem.W.typeIn K (.ref (He.ga K "NoNumber")) = some (.type "type")),
  PySem.W.excInitIn K (CL K) leB "LookupError.__new__",
  PySem.W.excOver K (CL K) leB,
  PySem.W.hasDictIn K (CL K),
  He.eqO (PySem.W.findIn K (.ref (CL K)) "__setattr__") (some (some (.builtin "object.__setattr__"))),
  He.eqO (PySem.W.takerIn K (CL K) "number") (some none),
  decide (PySem.W.subIn K (.ref (CL K)) (.type "BaseException") = some true),
  decide (PySem.W.typeIn K (.ref (CL K)) = some (.type "type")),
  PySem.W.keepIn K (.ref (CL K)),
  He.eqO (PySem.W.findIn K (.ref (CL K)) "__init__") (some (some (.ref (fL K)))),
  decide (PySem.W.typeIn K (.ref (fL K)) = some (.type "function")),
  initB K,
  He.eqO (PySem.W.findIn K (.ref (CW K)) "__class__") (some (some (.builtin "object.__class__"))),
  He.eqO (PySem.W.specialIn K (.builtin "object.__class__") "__get__") (some (some (.builtin "getset_descriptor.__get__"))),
  decide (PySem.W.takesIn K (.builtin "object.__class__") = some true),
  decide (PySem.W.mroIn K (CW K) (.type "object") = some true),
  decide (PySem.W.exmOne K (.ref (CT K)) (.ref (CT K)) = some true),
  decide (PySem.W.exmOne K (.ref (CN K)) (.ref (CN K)) = some true),
  decide (PySem.W.exmOne K (.ref (CL K)) (.ref (CL K)) = some true),
  decide (PySem.W.exmOne K (.ref (CT K)) (.ref (CL K)) = some false),
  decide (PySem.W.exmOne K (.ref (CN K)) (.ref (CL K)) = some false),
  decide (PySem.W.exmOne K (.ref (CN K)) (.ref (CT K)) = some false),
  decide (tabA K "_law_two" ≠ tabA K "ranks"),
  decide (tabA K "law" ≠ tabA K "ranks"),
  decide (tabA K "law" ≠ tabA K "_law_two")]
def hEx (K : PySem.W.Frag) : Bool := (hExL K).all id
theorem ex_at {K : PySem.W.Frag} (h : hEx K = true) (i : Nat) {b : Bool} (e : (hExL K)[i]? = some b) : b = true := List.all_eq_true.mp h b (List.mem_of_getElem? e)
/-- one lambda a def -/
@[reducible] def tabsC (K : PySem.W.Frag) : TabsC := ⟨fun a => if a = tabA K "ranks" then "ranks.<locals>.<lambda>" else if a = tabA K "_law_two" then "_law_two.<locals>.<lambda>" else "law.<locals>.<lambda>"⟩
abbrev hSays (w : World) (h : Heap) (K : PySem.W.Frag) : Prop := He.SaysX hFa hFn hTs hTf hEx w h K
section
variable {w : World} {K : PySem.W.Frag} {h base : Heap} {mg : Str → Option Value}
theorem hf (c : hSays w h K) (i : Nat) {f : He.Fa} (e : hFa[i]? = some f) : f.ok K = true := c.t.d.fact i e
theorem hd (c : hSays w h K) (i : Nat) {d : He.DefD} (e : hFn[i]? = some d) : ∃ fd, FunD K d.name d.qual d.params d.body d.scope (d.dvs K) (d.kws K) (He.fAd K d.at_) fd := c.t.d.def_ i e
theorem hx (c : hSays w h K) (i : Nat) {b : Bool} (e : (hExL K)[i]? = some b) : b = true := ex_at c.more i e
theorem hglo (X : K.In h) (G : h.Ns mainGlobals mg) (c : hSays w h K) {x : Str} (i : Nat) (e : hFa[i]? = some (.glo x)) : mg x = some (.ref (He.ga K x)) := He.glo_ok X G (hf c i e)
theorem hfree (X : K.In h) (G : h.Ns mainGlobals mg) (c : hSays w h K) {x : Str} (i : Nat) (e : hFa[i]? = some (.free x)) : mg x = none := He.free_ok X G (hf c i e)
theorem hdic {x : Str} {kvs : List (Str × Str)} (g : mg x = some (.ref (He.ga K x))) (d : ∃ es n, KDict K w (He.ga K x) es n) (v : He.valsB K (He.ga K x) (kvs.map fun q => (q.1, He.Dv.str q.2)) = true) : DicK K mg w x kvs := ⟨g, d, fun q hq => He.valsB_ok v (q := (q.1, .str q.2)) (List.mem_map.mpr ⟨q, hq, rfl⟩)⟩
theorem hTx (X : K.In h) (G : h.Ns mainGlobals mg) (c : hSays w h K) : Tx K mg w where
  f_is_whole := ⟨hglo X G c 0 rfl, hd c 0 (d := dG "is_whole" 17 []) rfl⟩
  f_is_from_to := ⟨hglo X G c 1 rfl, hd c 1 (d := dG "is_from_to" 18 []) rfl⟩
  f_is_minute := ⟨hglo X G c 2 rfl, hd c 2 (d := dG "is_minute" 19 []) rfl⟩
  f_is_order := ⟨hglo X G c 3 rfl, hd c 3 (d := dG "is_order" 20 []) rfl⟩
  f_is_name := ⟨hglo X G c 4 rfl, hd c 4 (d := dG "is_name" 21 []) rfl⟩
  f_dial_of := ⟨hglo X G c 5 rfl, hd c 5 (d := dG "dial_of" 26 []) rfl⟩
  f_sent_from := ⟨hglo X G c 6 rfl, hd c 6 (d := dG "sent_from" 27 []) rfl⟩
  f_is_what := ⟨hglo X G c 7 rfl, hd c 7 (d := dG "is_what" 28 []) rfl⟩
  f_is_row := ⟨hglo X G c 8 rfl, hd c 8 (d := dG "is_row" 29 []) rfl⟩
  f_row_of := ⟨hglo X G c 9 rfl, hd c 9 (d := dG "row_of" 30 []) rfl⟩
  f_is_pair := ⟨hglo X G c 10 rfl, hd c 10 (d := dG "is_pair" 32 []) rfl⟩
  f_span := ⟨hglo X G c 11 rfl, hd c 11 (d := dG "span" 33 [.int 0]) rfl⟩
  f_meets := ⟨hglo X G c 12 rfl, hd c 12 (d := dG "meets" 34 []) rfl⟩
  f_pairs_within := ⟨hglo X G c 13 rfl, hd c 13 (d := dG "pairs_within" 35 []) rfl⟩
  f_pairs_at := ⟨hglo X G c 14 rfl, hd c 14 (d := dG "pairs_at" 36 [.int 0, .int 0]) rfl⟩
  f_by_lines := ⟨hglo X G c 15 rfl, hd c 15 (d := dG "by_lines" 38 []) rfl⟩
  f_ranks := ⟨hglo X G c 16 rfl, hd c 16 (d := dG "ranks" 40 []) rfl⟩
  f_longest := ⟨hglo X G c 17 rfl, hd c 17 (d := dG "longest" 41 []) rfl⟩
  f_greatest := ⟨hglo X G c 18 rfl, hd c 18 (d := dG "greatest" 43 [.int 0, .int 0]) rfl⟩
  f_joining := ⟨hglo X G c 19 rfl, hd c 19 (d := dG "joining" 45 [.int 0, .int 0]) rfl⟩
  f_fits := ⟨hglo X G c 20 rfl, hd c 20 (d := dG "fits" 47 []) rfl⟩
  f_changes := ⟨hglo X G c 21 rfl, hd c 21 (d := dG "changes" 48 []) rfl⟩
  f_counts := ⟨hglo X G c 22 rfl, hd c 22 (d := dG "counts" 49 [.int 0, .int 0, .int 0]) rfl⟩
  f_best := ⟨hglo X G c 23 rfl, hd c 23 (d := dG "best" 50 [.int 0, .int 0, .int 0]) rfl⟩
  f_lot := ⟨hglo X G c 24 rfl, hd c 24 (d := dG "lot" 54 []) rfl⟩
  f_fate := ⟨hglo X G c 25 rfl, hd c 25 (d := dG "fate" 57 []) rfl⟩
  f_need_ring := ⟨hglo X G c 26 rfl, hd c 26 (d := dG "need_ring" 60 []) rfl⟩
  f_ring_of := ⟨hglo X G c 27 rfl, hd c 27 (d := dG "ring_of" 61 []) rfl⟩
  f_is_stretch := ⟨hglo X G c 28 rfl, hd c 28 (d := dG "is_stretch" 68 []) rfl⟩
  f_need_fit := ⟨hglo X G c 29 rfl, hd c 29 (d := dG "need_fit" 69 []) rfl⟩
  f_named := ⟨hglo X G c 30 rfl, hd c 30 (d := dG "named" 70 []) rfl⟩
  f_law_draw := ⟨hglo X G c 31 rfl, hd c 31 (d := dG "_law_draw" 73 []) rfl⟩
  f_law_word := ⟨hglo X G c 32 rfl, hd c 32 (d := dG "_law_word" 74 []) rfl⟩
  f_law_row := ⟨hglo X G c 33 rfl, hd c 33 (d := dG "_law_row" 75 []) rfl⟩
  f_law_two := ⟨hglo X G c 34 rfl, hd c 34 (d := dG "_law_two" 76 []) rfl⟩
  f_law_numbers := ⟨hglo X G c 35 rfl, hd c 35 (d := dG "_law_numbers" 77 []) rfl⟩
  f_law_tellings := ⟨hglo X G c 36 rfl, hd c 36 (d := dG "_law_tellings" 78 []) rfl⟩
  f_law_all := ⟨hglo X G c 37 rfl, hd c 37 (d := dG "_law_all" 79 []) rfl⟩
  f_law_made := ⟨hglo X G c 38 rfl, hd c 38 (d := dG "_law_made" 80 []) rfl⟩
  f_law_in_vain := ⟨hglo X G c 39 rfl, hd c 39 (d := dG "_law_in_vain" 81 []) rfl⟩
  f_law_led := ⟨hglo X G c 40 rfl, hd c 40 (d := dG "_law_led" 82 []) rfl⟩
  f_law := ⟨hglo X G c 41 rfl, hd c 41 (d := dG "law" 83 []) rfl⟩
  m_init := ⟨He.meth_ok (hf c 87 (f := .meth "Watch" "__init__") rfl), hd c 42 (d := dM "__init__" "Watch.__init__" 0 [.int 0, .int 0, .int 0]) rfl⟩
  m_eq := ⟨He.meth_ok (hf c 88 (f := .meth "Watch" "__eq__") rfl), hd c 43 (d := dM "__eq__" "Watch.__eq__" 2 []) rfl⟩
  m_need_house := ⟨He.meth_ok (hf c 89 (f := .meth "Watch" "need_house") rfl), hd c 44 (d := dM "need_house" "Watch.need_house" 3 []) rfl⟩
  m_tell := ⟨He.meth_ok (hf c 90 (f := .meth "Watch" "tell") rfl), hd c 45 (d := dM "tell" "Watch.tell" 4 []) rfl⟩
  m_drop := ⟨He.meth_ok (hf c 91 (f := .meth "Watch" "drop") rfl), hd c 46 (d := dM "drop" "Watch.drop" 5 []) rfl⟩
  m_led_on := ⟨He.meth_ok (hf c 92 (f := .meth "Watch" "led_on") rfl), hd c 47 (d := dM "led_on" "Watch.led_on" 6 []) rfl⟩
  m_led_to := ⟨He.meth_ok (hf c 93 (f := .meth "Watch" "led_to") rfl), hd c 48 (d := dM "led_to" "Watch.led_to" 7 []) rfl⟩
  m_back := ⟨He.meth_ok (hf c 94 (f := .meth "Watch" "back") rfl), hd c 49 (d := dM "back" "Watch.back" 8 []) rfl⟩
  m_again := ⟨He.meth_ok (hf c 95 (f := .meth "Watch" "again") rfl), hd c 50 (d := dM "again" "Watch.again" 9 []) rfl⟩
  m_log := ⟨He.meth_ok (hf c 96 (f := .meth "Watch" "log") rfl), hd c 51 (d := dM "log" "Watch.log" 10 []) rfl⟩
  m_best := ⟨He.meth_ok (hf c 97 (f := .meth "Watch" "best") rfl), hd c 52 (d := dM "best" "Watch.best" 11 []) rfl⟩
  m_lot := ⟨He.meth_ok (hf c 98 (f := .meth "Watch" "lot") rfl), hd c 53 (d := dM "lot" "Watch.lot" 12 []) rfl⟩
  m_is_ring := ⟨He.meth_ok (hf c 99 (f := .meth "Watch" "is_ring") rfl), hd c 54 (d := dM "is_ring" "Watch.is_ring" 13 []) rfl⟩
  m_answer_of := ⟨He.meth_ok (hf c 100 (f := .meth "Watch" "answer_of") rfl), hd c 55 (d := dM "answer_of" "Watch.answer_of" 14 []) rfl⟩
  m_ask := ⟨He.meth_ok (hf c 101 (f := .meth "Watch" "ask") rfl), hd c 56 (d := dM "ask" "Watch.ask" 15 []) rfl⟩
  m_asked := ⟨He.meth_ok (hf c 102 (f := .meth "Watch" "asked") rfl), hd c 57 (d := dM "asked" "Watch.asked" 17 []) rfl⟩
  m_twin := ⟨He.meth_ok (hf c 103 (f := .meth "Watch" "twin") rfl), hd c 58 (d := dM "twin" "Watch.twin" 18 []) rfl⟩
  n_isinstance := hfree X G c 51 rfl
  n_int := hfree X G c 52 rfl
  n_bool := hfree X G c 53 rfl
  n_str := hfree X G c 54 rfl
  n_tuple := hfree X G c 55 rfl
  n_list := hfree X G c 56 rfl
  n_dict := hfree X G c 57 rfl
  n_len := hfree X G c 58 rfl
  n_all := hfree X G c 59 rfl
  n_sorted := hfree X G c 60 rfl
  n_max := hfree X G c 61 rfl
  n_min := hfree X G c 62 rfl
  n_sum := hfree X G c 63 rfl
  n_enumerate := hfree X G c 64 rfl
  n_zip := hfree X G c 65 rfl
  n_range := hfree X G c 66 rfl
  n_abs := hfree X G c 67 rfl
  n_LookupError := hfree X G c 68 rfl
  i_MOST_MINUTE := He.int_ok X G (hf c 69 (f := .int "MOST_MINUTE" 99999) rfl)
  i_MOST_ORDER := He.int_ok X G (hf c 70 (f := .int "MOST_ORDER" 4) rfl)
  i_MOST_LETTERS := He.int_ok X G (hf c 71 (f := .int "MOST_LETTERS" 8) rfl)
  i_MOST_ROWS := He.int_ok X G (hf c 72 (f := .int "MOST_ROWS" 40) rfl)
  i_MOST_LAG := He.int_ok X G (hf c 73 (f := .int "MOST_LAG" 60) rfl)
  i_MOST_APART := He.int_ok X G (hf c 74 (f := .int "MOST_APART" 1440) rfl)
  i_MOST_WIDE := He.int_ok X G (hf c 75 (f := .int "MOST_WIDE" 240) rfl)
  i_MOST_NUMBER := He.int_ok X G (hf c 76 (f := .int "MOST_NUMBER" 999) rfl)
  s_LETTERS := He.str_ok X G (hf c 77 (f := .str "LETTERS" "abcdefghijklmnopqrstuvwxyz") rfl)
  t_WORDED := ⟨hglo X G c 42 rfl, fun H => He.tupB_ok (hx c 0 rfl) H⟩
  t_BELLS_rings := ⟨hglo X G c 43 rfl, fun H => He.tupB_ok (hx c 1 rfl) H⟩
  t_BELLS_watch := ⟨hglo X G c 44 rfl, fun H => He.tupB_ok (hx c 2 rfl) H⟩
  d_SENT := hdic (hglo X G c 45 rfl) (c.t.tab 0 (t := (fun K => He.ga K "SENT", ["port", "star", "down", "aport", "astar", "up"])) rfl) (hx c 3 rfl)
  d_DIALS := hdic (hglo X G c 46 rfl) (c.t.tab 1 (t := (fun K => He.ga K "DIALS", ["port", "star"])) rfl) (hx c 4 rfl)
  g_best_counts := PySem.W.mg_of X G (He.eqO_ok (hx c 5 rfl))
  g_lot_lots := PySem.W.mg_of X G (He.eqO_ok (hx c 6 rfl))
  cls := He.cls_ok (hf c 78 (f := .cls "Watch") rfl)
  mkr := He.mkr_ok (hf c 79 (f := .mkr "Watch") rfl)
  gW := hglo X G c 47 rfl
  a_lag := He.noat_ok (hf c 80 (f := .noat "Watch" "lag") rfl)
  a_low := He.noat_ok (hf c 81 (f := .noat "Watch" "low") rfl)
  a_high := He.noat_ok (hf c 82 (f := .noat "Watch" "high") rfl)
  a_kept := He.noat_ok (hf c 83 (f := .noat "Watch" "kept") rfl)
  a_past := He.noat_ok (hf c 84 (f := .noat "Watch" "past") rfl)
  a_coming := He.noat_ok (hf c 85 (f := .noat "Watch" "coming") rfl)
  a_told := He.noat_ok (hf c 86 (f := .noat "Watch" "told") rfl)
  x_Taken := ⟨hglo X G c 48 rfl, hx c 7 rfl, hx c 8 rfl, of_decide_eq_true (hx c 9 rfl), of_decide_eq_true (hx c 10 rfl)⟩
  x_NoNumber := ⟨hglo X G c 49 rfl, hx c 11 rfl, hx c 12 rfl, of_decide_eq_true (hx c 13 rfl), of_decide_eq_true (hx c 14 rfl)⟩
theorem hLate (c : hSays w h K) : LateC K (CL K) (fL K) := ⟨hx c 15 rfl, hx c 16 rfl, hx c 17 rfl, He.eqO_ok (hx c 18 rfl), He.eqO_ok (hx c 19 rfl), of_decide_eq_true (hx c 20 rfl), of_decide_eq_true (hx c 21 rfl), hx c 22 rfl, He.eqO_ok (hx c 23 rfl), of_decide_eq_true (hx c 24 rfl), initB_ok (hx c 25 rfl)⟩
theorem hTu (X : K.In h) (G : h.Ns mainGlobals mg) (c : hSays w h K) (B : ∀ p ∈ hTf, LamX.TabB base mg (He.cT K p).1 (He.cT K p).2) : @Tu (tabsC K) K mg w base := by
  letI : TabsC := tabsC K
  exact {
    toTx := hTx X G c
    tb_ranks := B _ (by simp [hTf])
    nm_ranks := if_pos rfl
    tb_two := B _ (by simp [hTf])
    nm_two := (if_neg (of_decide_eq_true (hx c 36 rfl))).trans (if_pos rfl)
    tb_law := B _ (by simp [hTf])
    nm_law := (if_neg (of_decide_eq_true (hx c 37 rfl))).trans (if_neg (of_decide_eq_true (hx c 38 rfl)))
    f_late := hd c 59 (d := dLt) rfl
    late := hLate c
    g_late := hglo X G c 50 rfl
    cC := He.eqO_ok (hx c 26 rfl)
    cG := He.eqO_ok (hx c 27 rfl)
    cT := of_decide_eq_true (hx c 28 rfl)
    cM := of_decide_eq_true (hx c 29 rfl)
    e_TT := of_decide_eq_true (hx c 30 rfl)
    e_NN := of_decide_eq_true (hx c 31 rfl)
    e_LL := of_decide_eq_true (hx c 32 rfl)
    e_TL := of_decide_eq_true (hx c 33 rfl)
    e_NL := of_decide_eq_true (hx c 34 rfl)
    e_NT := of_decide_eq_true (hx c 35 rfl) }
end
/-! the run -/
abbrev hR : PySem.W.OpenRow := PySem.W.OpenLaw.row PySem.Challenge.rw_ringorders_k73_whole_told_late_as_in_tim
abbrev hQ : Program := PySem.W.view hR.prog [83]
abbrev hHk : PySem.W.Hook := He.hookX 4 hFa hFn hTs hTf hEx
def hOb (s : PySem.W.SharedT) : He.AlX := He.obsX 4 hFa hFn hTs hTf hEx (HandSHeadRun.getT s)
theorem hOb_eq (s : PySem.W.SharedT) : hOb s = hHk.obs s.abs := He.obsX_eq (HandSHeadRun.getT_eq s)
def hNm0 : List Str := ["_wall", "__name__", "RingError", "NoPair", "NoStretch", "NoRow", "Taken", "Unknown", "NoNumber", "Nothing", "Full", "Late", "MOST_MINUTE", "MOST_ORDER", "MOST_LETTERS", "LETTERS", "is_whole", "is_from_to", "is_minute", "is_order", "is_name", "DIALS", "SENT", "WORDED", "dial_of", "sent_from", "is_what", "is_row", "row_of", "is_pair"]
def hNm1 : List Str := ["span", "meets", "pairs_within", "pairs_at", "by_lines", "ranks", "longest", "greatest", "joining", "fits", "changes", "counts", "best", "best_counts", "MOST_ROWS", "lot", "lot_lots", "fate", "BELLS_rings", "need_ring", "ring_of", "MOST_LAG", "MOST_APART", "MOST_WIDE", "MOST_NUMBER", "BELLS_watch", "is_stretch", "need_fit", "named", "Watch"]
def hNm2 : List Str := ["_law_draw", "_law_word", "_law_row", "_law_two", "_law_numbers", "_law_tellings", "_law_all", "_law_made", "_law_in_vain", "_law_led"]
def hNames : List Str := hNm0 ++ hNm1 ++ hNm2
end Ro
namespace Ro
open PySem PySem.Spec PyProof.Rows L2
noncomputable abbrev hEnd (w : World) (os : OsState) : Option PySem.W.SharedT := HandSHeadRun.endF (HandSHeadRun.stepQ (HandSHeadRun.denQ HandSHeadRun.tabQ) hR.prog w) 6000 hR.prog w os
abbrev hK (s : PySem.W.SharedT) : PySem.W.Frag := He.frT (HandSHeadRun.getT s) (He.asD (HandSHeadRun.getT s) 4)
def hP1 (w : World) : Prop := HandSHeadRun.RunEq hR hQ PySem.W.Hook.none (fun _ => ()) 6000 hNames w
def hP2 (w : World) : Prop := ∀ os : OsState, (hEnd w os).map (fun s => ((((hFa.all fun f => f.ok (hK s)) && hFn.all fun d => d.ok (hK s)) && (hEx (hK s) && He.tabsB (HandSHeadRun.getT s) hTf (hK s))), hFn.map fun d => He.fnW (hK s) d.at_, hTs.map fun t => He.dicW (hK s) (t.1 (hK s)))) = some (true, hFn.map He.DefD.val, hTs.map fun t => some (He.keysIn w.params t.2))
theorem hJoin (w : World) (a : hP1 w) (b : hP2 w) : HandSHeadRun.RunEq hR hQ hHk hOb 6000 hNames w := fun os => by
  have a := a os
  have b := b os
  unfold hEnd at b
  revert a b
  generalize HandSHeadRun.endF (HandSHeadRun.stepQ (HandSHeadRun.denQ HandSHeadRun.tabQ) hR.prog w) 6000 hR.prog w os = o
  intro a b
  cases o with
  | none => cases a
  | some s =>
    have a := Option.some.inj a
    have b := Option.some.inj b
    have b1 := congrArg (fun z => z.1) b
    have b2 := congrArg (fun z => z.2.1) b
    have b3 := congrArg (fun z => z.2.2) b
    dsimp only at b1 b2 b3
    obtain ⟨b4, b5⟩ := He.ba b1
    have b6 : hOb s = He.valX hFn hTs w := by
      unfold hOb He.obsX He.valX He.obsT He.valT He.obsD He.valD
      rw [b2, b3, b4, b5]
    refine congrArg some (Prod.ext (congrArg (fun z => z.1) a) (Prod.ext (congrArg (fun z => z.2.1) a) b6))
end Ro
namespace Ro
open PySem PySem.Spec PyProof.Rows L2
theorem hP1F (w : World) : hP1 (w.withFollow "special-get-raises" false) := fun os => by
  kernel_rfl
theorem hP1T (w : World) : hP1 (w.withFollow "special-get-raises" true) := fun os => by
  kernel_rfl
theorem hP2F (w : World) : hP2 (w.withFollow "special-get-raises" false) := fun os => by
  kernel_rfl
theorem hP2T (w : World) : hP2 (w.withFollow "special-get-raises" true) := fun os => by
  kernel_rfl
theorem hRun (w : World) : HandSHeadRun.RunEq hR hQ hHk hOb 6000 hNames w :=
  PySem.W.byRow2 "special-get-raises" (P := fun w => HandSHeadRun.RunEq hR hQ hHk hOb 6000 hNames w) (fun w => hJoin _ (hP1F w) (hP2F w)) (fun w => hJoin _ (hP1T w) (hP2T w)) w
/-- the law's promise, at the head's heap -/
theorem hLawAt {w : World} {h : Heap} {mg : Str → Option Value} {fa : Addr} {K : PySem.W.Frag} (X : K.In h) (G : h.Ns mainGlobals mg) (hmg : mg ("law" : Str) = some (.ref fa)) (c : hSays w h K) :
    LamX.LawAtS PySem.Challenge.rw_ringorders_k73_whole_told_late_as_in_tim w K (L2.CX PySem.Challenge.rw_ringorders_k73_whole_told_late_as_in_tim.prog w) 17 63 "_law_script" mg fa h := by
  letI : TabsC := tabsC K
  have e := hmg.symm.trans (hTx X G c).f_law.1
  cases e
  obtain ⟨fd, F⟩ := (hTx X G c).f_law.2
  refine ⟨fd, hTf.map (He.cT K), spLaw K, fun p hp => ?_, fun p hp => ?_, fun p hp => ?_, fun s u => ?_, fun H a ns hl _ hT hS => ⟨a, ns, rfl, hS, hl, ?_, ?_, ?_, fun _ => rfl⟩, fun base KX bN hB => ?_⟩
  · obtain ⟨q, hq, rfl⟩ := List.mem_map.mp hp
    exact c.empty q hq
  · obtain ⟨q, hq, rfl⟩ := List.mem_map.mp hp
    exact c.out q hq
  · obtain ⟨q, hq, rfl⟩ := List.mem_map.mp hp
    exact PySem.W.codeHd_of_K X (c.hd q hq)
  · exact FunD.bindsA (ps := ["_law_script"]) F (fun _ _ _ _ _ _ us hl => match us, hl with | [_], _ => rfl) s [u] rfl
  · exact LamX.TabS.nil (hT _ (List.mem_map.mpr ⟨("ranks", none), by simp [hTf], rfl⟩))
  · exact LamX.TabS.nil (hT _ (List.mem_map.mpr ⟨("_law_two", none), by simp [hTf], rfl⟩))
  · exact LamX.TabS.nil (hT _ (List.mem_map.mpr ⟨("law", none), by simp [hTf], rfl⟩))
  · have T : Tu K mg w base := hTu X G c fun p hp => hB _ (List.mem_map.mpr ⟨p, hp, rfl⟩)
    obtain ⟨fd', F', O⟩ := okF_law (P := PySem.Challenge.rw_ringorders_k73_whole_told_late_as_in_tim.prog) T
    have eu : fd' = fd := by
      obtain ⟨oc, od, dV, kV, doc, pm, an, cdv, ct, osl, rfl, lk, _⟩ := F.ex
      obtain ⟨oc', od', dV', kV', doc', pm', an', cdv', ct', osl', rfl, lk', _⟩ := F'.ex
      have e := lk.symm.trans lk'
      injection e with e
      injection e with _ _ e
      injection e with e
      exact e.symm
    subst eu
    exact O
end Ro
open PySem PySem.W PySem.Calls PyProof.Rows
theorem PySem.Challenge.cw_ringorders_k73_whole_told_late_as_in_tim_holds : PySem.Challenge.rw_ringorders_k73_whole_told_late_as_in_tim.Holds := by
  w_on; o_law
  refine HandSHeadRun.head_any (r := Ro.hR) (q := Ro.hQ) (H := Ro.hHk) (ob := Ro.hOb) (M := 6000) (loose := Ro.hNames) (d := HandSHeadRun.topDef Ro.hR.prog 83) (kwd := []) Ro.hOb_eq
    (by kernel_rfl) (fun s => by kernel_rfl) Ro.hRun (by kernel_rfl) (by kernel_rfl) (by kernel_rfl) (by rfl) (by first | assumption | decide +kernel) (by decide +kernel) ⟨rfl, rfl, rfl, rfl, rfl, by decide +kernel⟩ ?hw ?hc
  case hw => w_witness2
  case hc =>
    refine LamX.walk_ofTsE (l := PySem.Challenge.rw_ringorders_k73_whole_told_late_as_in_tim) (n := 63) (k := 17) (x := "_law_script") (CX := fun w => L2.CX PySem.Challenge.rw_ringorders_k73_whole_told_late_as_in_tim.prog w) rfl (by decide) (by kernel_rfl) ⟨rfl, by decide, by decide⟩ ?F (fun _ _ _ _ _ z => by obtain ⟨_, _, _, _, _, _, _, _, _, _, _, _, f⟩ := z; exact f)
    intro w mg fa h Y G hmg0
    obtain ⟨K, KX, c⟩ := Y
    have hmg : mg ("law" : PySem.Str) = some (.ref fa) := by
      have e : (HandSHeadRun.topDef Ro.hR.prog 83).name = ("law" : PySem.Str) := by kernel_rfl
      rw [← e]
      exact hmg0
    exact ⟨K, KX, Ro.hLawAt KX G hmg c⟩
