import PyProof.Rows.All
import Wide.All
import OpenK.AllK
import Wide.FinOn
import HandS.Base
import HandS.Call
import HandS.List
import HandS.Comp
import HandS.Ends
import HandS.Dict
import HandS.Iter
import HandS.Text
import HandS.Words
import HandS.WordsList
import HandS.Evl
import HandS.Conv
import HandS.Strs
import HandS.TupAny
import HandS.Rev
import HandS.SortInts
import HandS.Deep
import HandS.Style
import HandS.IsInst
import HandS.Exc
import HandS.ExcOwn
import HandS.WordsExc
import KE.KSortedM
import HandS.TupSets
import HandS.Walk
import PyProof.Rows.TupDisplay
import HandS.MapJoin
import KE.KxText
import HandS.TupMul
import HandS.ExcIs
import KE.GoesRaise
import HandS.SuiteRaise
import HandS.Replace
import HandS.DictSubView0
import PyProof.CollectStr
import PySem.Challenge.RW_beatmakers_k07_voters_written
set_option Elab.async false
set_option linter.all false
set_option maxRecDepth 100000
set_option maxHeartbeats 4000000
/-! Data (PyData) in the abstract heap, and what a reading evaluates to as data. -/
namespace Bm
open PySem PySem.Spec PyProof.Rows L2 Evl

/-! ### a value that is this data; lists and tuples are tracked objects -/
mutual
def Rp (H : Hp) : PyData → V → Prop
  | .none, v => v = .non
  | .bool b, v => v = .bl b
  | .int i, v => v = .int i
  | .str s, v => v = .str s
  | .list ds, v => ∃ a xs, v = .ref a ∧ H a = some (.lst xs) ∧ RpA H ds xs
  | .tuple ds, v => ∃ a xs o, v = .ref a ∧ H a = some (.frz o (.tup xs)) ∧ o.dict = Option.none ∧ RpA H ds xs
  | .dict _, _ => False
def RpA (H : Hp) : List PyData → List V → Prop
  | [], vs => vs = []
  | d :: ds, vs => ∃ v r, vs = v :: r ∧ Rp H d v ∧ RpA H ds r
end

mutual
theorem Rp.ex {H H' : Hp} (e : Ex H H') : ∀ {d : PyData} {v : V}, Rp H d v → Rp H' d v
  | .none, _, h => h
  | .bool _, _, h => h
  | .int _, _, h => h
  | .str _, _, h => h
  | .list _, _, h => by
    obtain ⟨a, xs, e1, e2, e3⟩ := h
    exact ⟨a, xs, e1, e a _ e2, RpA.ex e e3⟩
  | .tuple _, _, h => by
    obtain ⟨a, xs, o, e1, e2, e4, e3⟩ := h
    exact ⟨a, xs, o, e1, e a _ e2, e4, RpA.ex e e3⟩
  | .dict _, _, h => h
theorem RpA.ex {H H' : Hp} (e : Ex H H') : ∀ {ds : List PyData} {vs : List V}, RpA H ds vs → RpA H' ds vs
  | [], _, h => h
  | _ :: _, _, h => by
    obtain ⟨v, r, e1, e2, e3⟩ := h
    exact ⟨v, r, e1, Rp.ex e e2, RpA.ex e e3⟩
end

/-! data without a list in it -/
mutual
def imm : PyData → Bool
  | .list _ => false
  | .dict _ => false
  | .tuple ds => immA ds
  | _ => true
def immA : List PyData → Bool
  | [] => true
  | d :: ds => imm d && immA ds
end
theorem immA_iff : ∀ {ds : List PyData}, immA ds = true ↔ ∀ d ∈ ds, imm d = true
  | [] => by simp [immA]
  | d :: ds => by
    rw [immA, Bool.and_eq_true, immA_iff (ds := ds), List.forall_mem_cons]
/-- the tuples stay -/
def KT (H H' : Hp) : Prop := ∀ a o xs, H a = some (.frz o (.tup xs)) → H' a = some (.frz o (.tup xs))
theorem KT.refl (H : Hp) : KT H H := fun _ _ _ h => h
theorem KT.trans {H H1 H2 : Hp} (a : KT H H1) (b : KT H1 H2) : KT H H2 := fun x o xs h => b x o xs (a x o xs h)
theorem KT.of {H H' : Hp} (e : Ex H H') : KT H H' := fun a _ xs h => e a _ h
theorem KT.upd {H : Hp} {l : Addr} {u o : HO} (h : H l = some u) (n : ∀ ob xs, u ≠ .frz ob (.tup xs)) : KT H (L2.upd H l o) := fun a ob ys e => by
  rw [upd_ne (ne_of e h (fun z => n ob ys z.symm))]
  exact e
theorem KT.lst {H : Hp} {l : Addr} {xs : List V} {o : HO} (h : H l = some (.lst xs)) : KT H (L2.upd H l o) := KT.upd h fun _ _ z => by cases z
mutual
theorem Rp.keep {H H' : Hp} (e : KT H H') : ∀ {d : PyData} {v : V}, imm d = true → Rp H d v → Rp H' d v
  | .none, _, _, h => h
  | .bool _, _, _, h => h
  | .int _, _, _, h => h
  | .str _, _, _, h => h
  | .list _, _, i, _ => by cases i
  | .tuple _, _, i, h => by
    obtain ⟨a, xs, o, e1, e2, e4, e3⟩ := h
    exact ⟨a, xs, o, e1, e a _ _ e2, e4, RpA.keep e i e3⟩
  | .dict _, _, _, h => h
theorem RpA.keep {H H' : Hp} (e : KT H H') : ∀ {ds : List PyData} {vs : List V}, immA ds = true → RpA H ds vs → RpA H' ds vs
  | [], _, _, h => h
  | _ :: _, _, i, h => by
    obtain ⟨v, r, e1, e2, e3⟩ := h
    rw [immA, Bool.and_eq_true] at i
    exact ⟨v, r, e1, Rp.keep e i.1 e2, RpA.keep e i.2 e3⟩
end

mutual
theorem Rp.dp {K : PySem.W.Frag} {H : Hp} : ∀ {d : PyData} {v : V}, Rp H d v → Dp K H v d
  | .none, _, h => by cases h; exact .non
  | .bool _, _, h => by cases h; exact .bl _
  | .int _, _, h => by cases h; exact .int _
  | .str _, _, h => by cases h; exact .str _
  | .list _, _, h => by
    obtain ⟨a, xs, e1, e2, e3⟩ := h
    rw [e1]
    exact .lst (SqL.of e2) (RpA.dp e3)
  | .tuple _, _, h => by
    obtain ⟨a, xs, o, e1, e2, e4, e3⟩ := h
    rw [e1]
    exact .tup (.inl (.inr ⟨o, e2⟩)) (RpA.dp e3)
  | .dict _, _, h => h.elim
theorem RpA.dp {K : PySem.W.Frag} {H : Hp} : ∀ {ds : List PyData} {vs : List V}, RpA H ds vs → DpAll K H vs ds
  | [], _, h => by cases h; exact .nil
  | _ :: _, _, h => by
    obtain ⟨v, r, e1, e2, e3⟩ := h
    rw [e1]
    exact .cons (Rp.dp e2) (RpA.dp e3)
end

/-! ### lists of data -/
section
variable {H H' : Hp}
theorem RpA.nil : RpA H [] [] := rfl
theorem RpA.cons {d : PyData} {ds : List PyData} {v : V} {vs : List V} (h : Rp H d v) (t : RpA H ds vs) : RpA H (d :: ds) (v :: vs) := ⟨v, vs, rfl, h, t⟩
theorem RpA.len : ∀ {ds : List PyData} {vs : List V}, RpA H ds vs → vs.length = ds.length
  | [], _, h => by cases h; rfl
  | _ :: _, _, h => by
    obtain ⟨v, r, rfl, _, e3⟩ := h
    rw [List.length_cons, List.length_cons, RpA.len e3]
theorem RpA.get : ∀ {ds : List PyData} {vs : List V} {i : Nat} {d : PyData}, RpA H ds vs → ds[i]? = some d → ∃ v, vs[i]? = some v ∧ Rp H d v
  | [], _, _, _, _, e => by simp at e
  | _ :: _, _, 0, _, h, e => by
    obtain ⟨v, r, rfl, e2, _⟩ := h
    cases e
    exact ⟨v, rfl, e2⟩
  | _ :: _, _, i + 1, _, h, e => by
    obtain ⟨v, r, rfl, _, e3⟩ := h
    exact RpA.get (i := i) e3 e
theorem RpA.getv : ∀ {ds : List PyData} {vs : List V} {i : Nat} {v : V}, RpA H ds vs → vs[i]? = some v → ∃ d, ds[i]? = some d ∧ Rp H d v
  | [], _, _, _, h, e => by cases h; simp at e
  | d :: _, _, 0, _, h, e => by
    obtain ⟨v, r, rfl, e2, _⟩ := h
    cases e
    exact ⟨d, rfl, e2⟩
  | _ :: _, _, i + 1, _, h, e => by
    obtain ⟨v, r, rfl, _, e3⟩ := h
    exact RpA.getv (i := i) e3 e
theorem RpA.get2 {ds : List PyData} {vs : List V} {i : Nat} {d : PyData} {v : V} (h : RpA H ds vs) (e : ds[i]? = some d) (e' : vs[i]? = some v) : Rp H d v := by
  obtain ⟨u, q, r⟩ := h.get e
  rw [e'] at q; cases q
  exact r
theorem RpA.app : ∀ {ds es : List PyData} {vs ws : List V}, RpA H ds vs → RpA H es ws → RpA H (ds ++ es) (vs ++ ws)
  | [], _, _, _, h, t => by cases h; exact t
  | _ :: _, _, _, _, h, t => by
    obtain ⟨v, r, rfl, e2, e3⟩ := h
    exact ⟨v, _, rfl, e2, RpA.app e3 t⟩
theorem RpA.snoc {ds : List PyData} {d : PyData} {vs : List V} {v : V} (h : RpA H ds vs) (t : Rp H d v) : RpA H (ds ++ [d]) (vs ++ [v]) := h.app (RpA.cons t RpA.nil)
theorem RpA.take : ∀ {ds : List PyData} {vs : List V} (n : Nat), RpA H ds vs → RpA H (ds.take n) (vs.take n)
  | _, _, 0, _ => by simp only [List.take_zero]; exact RpA.nil
  | [], _, n + 1, h => by cases h; exact RpA.nil
  | _ :: _, _, n + 1, h => by
    obtain ⟨v, r, rfl, e2, e3⟩ := h
    exact ⟨v, _, rfl, e2, RpA.take n e3⟩
theorem RpA.drop : ∀ {ds : List PyData} {vs : List V} (n : Nat), RpA H ds vs → RpA H (ds.drop n) (vs.drop n)
  | _, _, 0, h => h
  | [], _, n + 1, h => by cases h; exact RpA.nil
  | _ :: _, _, n + 1, h => by
    obtain ⟨v, r, rfl, e2, e3⟩ := h
    exact RpA.drop n e3
theorem RpA.rev : ∀ {ds : List PyData} {vs : List V}, RpA H ds vs → RpA H ds.reverse vs.reverse
  | [], _, h => by cases h; exact RpA.nil
  | _ :: _, _, h => by
    obtain ⟨v, r, rfl, e2, e3⟩ := h
    rw [List.reverse_cons, List.reverse_cons]
    exact (RpA.rev e3).snoc e2
theorem RpA.erase : ∀ {ds : List PyData} {vs : List V} (n : Nat), RpA H ds vs → RpA H (ds.eraseIdx n) (vs.eraseIdx n)
  | [], _, _, h => by cases h; exact RpA.nil
  | _ :: _, _, 0, h => by
    obtain ⟨v, r, rfl, e2, e3⟩ := h
    exact e3
  | _ :: _, _, n + 1, h => by
    obtain ⟨v, r, rfl, e2, e3⟩ := h
    exact ⟨v, _, rfl, e2, RpA.erase n e3⟩
theorem RpA.rep {ds : List PyData} {vs : List V} (h : RpA H ds vs) : ∀ k : Nat, RpA H (List.replicate k ds).flatten (List.replicate k vs).flatten
  | 0 => RpA.nil
  | k + 1 => by
    rw [List.replicate_succ, List.replicate_succ, List.flatten_cons, List.flatten_cons]
    exact h.app (RpA.rep h k)
theorem rpa_map {α : Type} {f : α → PyData} {g : α → V} (h : ∀ x, Rp H (f x) (g x)) : ∀ xs : List α, RpA H (xs.map f) (xs.map g)
  | [] => RpA.nil
  | x :: xs => ⟨g x, _, rfl, h x, rpa_map h xs⟩
theorem rpa_map_inv {α : Type} {f : α → PyData} {g : α → V} (h : ∀ x v, Rp H (f x) v → v = g x) : ∀ {xs : List α} {vs : List V}, RpA H (xs.map f) vs → vs = xs.map g
  | [], _, r => r
  | x :: xs, _, r => by
    obtain ⟨v, t, rfl, e2, e3⟩ := r
    rw [List.map_cons, h x v e2, rpa_map_inv h e3]
theorem rpa_ints (ns : List Int) : RpA H (ns.map PyData.int) (ns.map V.int) := rpa_map (f := PyData.int) (g := V.int) (fun _ => rfl) ns
theorem RpA.ints {ns : List Int} {vs : List V} (h : RpA H (ns.map PyData.int) vs) : vs = ns.map V.int := rpa_map_inv (f := PyData.int) (g := V.int) (fun _ _ e => e) h
theorem rpa_strs (ns : List Str) : RpA H (ns.map PyData.str) (ns.map V.str) := rpa_map (f := PyData.str) (g := V.str) (fun _ => rfl) ns
theorem RpA.strs {ns : List Str} {vs : List V} (h : RpA H (ns.map PyData.str) vs) : vs = ns.map V.str := rpa_map_inv (f := PyData.str) (g := V.str) (fun _ _ e => e) h
theorem rpa_bls (ns : List Bool) : RpA H (ns.map PyData.bool) (ns.map V.bl) := rpa_map (f := PyData.bool) (g := V.bl) (fun _ => rfl) ns
theorem RpA.bls {ns : List Bool} {vs : List V} (h : RpA H (ns.map PyData.bool) vs) : vs = ns.map V.bl := rpa_map_inv (f := PyData.bool) (g := V.bl) (fun _ _ e => e) h
/-- another row of data is the same data -/
theorem RpA.mem : ∀ {ds : List PyData} {vs : List V} {d : PyData}, RpA H ds vs → d ∈ ds → ∃ v ∈ vs, Rp H d v
  | d :: ds, _, x, h, m => by
    obtain ⟨v, r, rfl, e2, e3⟩ := h
    rcases List.mem_cons.mp m with rfl | m
    · exact ⟨v, List.mem_cons_self, e2⟩
    · obtain ⟨u, hu, q⟩ := RpA.mem e3 m
      exact ⟨u, List.mem_cons_of_mem _ hu, q⟩
end

/-! ### short words for data -/
abbrev iD (ns : List Int) : PyData := .tuple (ns.map .int)
abbrev iL (ns : List Int) : PyData := .list (ns.map .int)
abbrev pD (p : Int × Int) : PyData := .tuple [.int p.1, .int p.2]
abbrev vD (vs : List (List Int)) : PyData := .list (vs.map iD)
abbrev wD (ps : List (Int × Int)) : PyData := .list (ps.map pD)
theorem imm_ints (ns : List Int) : immA (ns.map .int) = true := immA_iff.mpr fun d h => by
  obtain ⟨x, _, rfl⟩ := List.mem_map.mp h
  rfl
theorem imm_iD (ns : List Int) : imm (iD ns) = true := imm_ints ns
theorem imm_vD (vs : List (List Int)) : immA (vs.map iD) = true := immA_iff.mpr fun d h => by
  obtain ⟨x, _, rfl⟩ := List.mem_map.mp h
  exact imm_iD x
theorem imm_wD (ps : List (Int × Int)) : immA (ps.map pD) = true := immA_iff.mpr fun d h => by
  obtain ⟨x, _, rfl⟩ := List.mem_map.mp h
  rfl
theorem Rp.iD {H : Hp} {v : V} {ns : List Int} (h : Rp H (iD ns) v) : ∃ a o, v = .ref a ∧ H a = some (.frz o (.tup (ns.map V.int))) ∧ o.dict = Option.none := by
  obtain ⟨a, xs, o, e1, e2, e4, e3⟩ := h
  exact ⟨a, o, e1, by rw [e2, e3.ints], e4⟩
theorem Rp.seqT {K : PySem.W.Frag} {H : Hp} {v : V} {ds : List PyData} (h : Rp H (.tuple ds) v) : ∃ a xs, v = .ref a ∧ SqT K H a xs ∧ RpA H ds xs := by
  obtain ⟨a, xs, o, e1, e2, e4, e3⟩ := h
  exact ⟨a, xs, e1, .inl (.inr ⟨o, e2⟩), e3⟩
theorem Rp.seqL {K : PySem.W.Frag} {H : Hp} {v : V} {ds : List PyData} (h : Rp H (.list ds) v) : ∃ a xs, v = .ref a ∧ SqL K H a xs ∧ RpA H ds xs := by
  obtain ⟨a, xs, e1, e2, e3⟩ := h
  exact ⟨a, xs, e1, SqL.of e2, e3⟩
theorem Rp.iL {H : Hp} {v : V} {ns : List Int} (h : Rp H (iL ns) v) : ∃ a, v = .ref a ∧ H a = some (.lst (ns.map V.int)) := by
  obtain ⟨a, xs, e1, e2, e3⟩ := h
  exact ⟨a, e1, by rw [e2, e3.ints]⟩
theorem Rp.pD {H : Hp} {v : V} {p : Int × Int} (h : Rp H (pD p) v) : ∃ a o, v = .ref a ∧ H a = some (.frz o (.tup [.int p.1, .int p.2])) ∧ o.dict = Option.none := by
  obtain ⟨a, xs, o, e1, e2, e4, v1, r1, rfl, q1, v2, r2, rfl, q2, q3⟩ := h
  cases q1
  cases q2
  cases q3
  exact ⟨a, o, e1, e2, e4⟩

/-! ### what an expression evaluates to -/
def EvD (te : TE) (σ : L2.St) (H : Hp) (d : PyData) : Prop := ∀ H1, Ex H H1 → ∀ Q : VK, (∀ v H2, Ex H1 H2 → Rp H2 d v → Q v H2) → te σ H1 Q
/-- a new list -/
def EvN (te : TE) (σ : L2.St) (H : Hp) (ds : List PyData) : Prop := ∀ H1, Ex H H1 → ∀ Q : VK, (∀ p vs H2, H1 p = none → Ex H1 H2 → H2 p = some (.lst vs) → RpA H2 ds vs → Q (.ref p) H2) → te σ H1 Q
def EvS (ta : TA) (σ : L2.St) (H : Hp) (ds : List PyData) : Prop := ∀ H1, Ex H H1 → ∀ Q : List V → Hp → Prop, (∀ vs H2, Ex H1 H2 → RpA H2 ds vs → Q vs H2) → ta σ H1 Q
section
variable {K : PySem.W.Frag} {σ : L2.St} {H H' : Hp} {ta tb te tx : TE} {t u : TT} {d x y z : PyData} {ds : List PyData}
theorem EvD.mono (e : Ex H H') (h : EvD te σ H d) : EvD te σ H' d := fun H1 a Q q => h H1 (e.trans a) Q q
theorem EvN.mono (e : Ex H H') (h : EvN te σ H ds) : EvN te σ H' ds := fun H1 a Q q => h H1 (e.trans a) Q q
theorem EvS.mono {ta : TA} (e : Ex H H') (h : EvS ta σ H ds) : EvS ta σ H' ds := fun H1 a Q q => h H1 (e.trans a) Q q
theorem EvN.toD (h : EvN te σ H ds) : EvD te σ H (.list ds) := fun H1 e Q q => h H1 e Q fun p vs H2 _ e2 h2 h3 => q _ H2 e2 ⟨p, vs, rfl, h2, h3⟩
theorem EvD.is {d' : PyData} (h : EvD te σ H d) (e : d = d') : EvD te σ H d' := e ▸ h
theorem evd_var {i : Nat} {v : V} (h : σ[i]? = some (some v)) (r : Rp H d v) : EvD (tVar i) σ H d := fun H1 e _ q => ⟨v, h, q v H1 (Ex.refl H1) (r.ex e)⟩
theorem evd_int {i : Int} : EvD (tC (.int i)) σ H (.int i) := fun H1 _ _ q => q _ H1 (Ex.refl H1) rfl
theorem evd_str {i : Str} : EvD (tC (.str i)) σ H (.str i) := fun H1 _ _ q => q _ H1 (Ex.refl H1) rfl
theorem evd_bl {b : Bool} : EvD (tC (.bl b)) σ H (.bool b) := fun H1 _ _ q => q _ H1 (Ex.refl H1) rfl
theorem evd_non : EvD (tC .non) σ H .none := fun H1 _ _ q => q _ H1 (Ex.refl H1) rfl
/-- a two-place operation on data -/
def RD (r : R2) (x y : PyData) (H : Hp) (z : PyData) : Prop := ∀ H1 v u, Ex H H1 → Rp H1 x v → Rp H1 y u → ∀ Q : VK, (∀ w H2, Ex H1 H2 → Rp H2 z w → Q w H2) → r v u H1 Q
theorem evd_op {r : R2} (ha : EvD ta σ H x) (hb : EvD tb σ H y) (hr : RD r x y H z) : EvD (tOp r ta tb) σ H z := fun H1 e Q q =>
  ha H1 e _ fun v H2 e2 r2 => hb H2 (e.trans e2) _ fun u H3 e3 r3 => hr H3 v u ((e.trans e2).trans e3) (r2.ex e3) r3 Q fun w H4 e4 r4 => q w H4 ((e2.trans e3).trans e4) r4
theorem rd_val {r : R2} (h : ∀ H1 v u, Ex H H1 → Rp H1 x v → Rp H1 y u → ∃ w, Rp H1 z w ∧ ∀ Q : VK, Q w H1 → r v u H1 Q) : RD r x y H z := fun H1 v u e r1 r2 Q q => by
  obtain ⟨w, rw_, k⟩ := h H1 v u e r1 r2
  exact k Q (q w H1 (Ex.refl H1) rw_)
end

/-! ### operations on ints, bools, texts -/
def rAddI : R2 := rI0 fun i j => .int (i + j)
def rSubI : R2 := rI0 fun i j => .int (i - j)
def rMulI : R2 := rI CMul fun i j => .int (i * j)
def rDivI : R2 := rI CDiv fun i j => .int (i / j)
def rModI : R2 := rI (fun _ j => 0 < j) fun i j => .int (i % j)
def rPowI : R2 := rI CPow fun i j => .int (i ^ j.toNat)
def rLtI : R2 := rI0 fun i j => .bl (decide (i < j))
def rLeI : R2 := rI0 fun i j => .bl (decide (i ≤ j))
def rGtI : R2 := rI0 fun i j => .bl (decide (j < i))
def rGeI : R2 := rI0 fun i j => .bl (decide (j ≤ i))
def rEqI : R2 := fun x y H Q => ∃ i j, x = .int i ∧ y = .int j ∧ Q (.bl (decide (i = j))) H
def rNeI : R2 := fun x y H Q => ∃ i j, x = .int i ∧ y = .int j ∧ Q (.bl (!decide (i = j))) H
def rEqB : R2 := fun x y H Q => ∃ i j, x = .bl i ∧ y = .bl j ∧ Q (.bl (decide (i = j))) H
def rNeB : R2 := fun x y H Q => ∃ i j, x = .bl i ∧ y = .bl j ∧ Q (.bl (!decide (i = j))) H
def rEqT : R2 := fun x y H Q => ∃ i j, x = .str i ∧ y = .str j ∧ Q (.bl (decide (i = j))) H
def rNeT : R2 := fun x y H Q => ∃ i j, x = .str i ∧ y = .str j ∧ Q (.bl (!decide (i = j))) H
def rIsNo : R2 := fun x y H Q => y = .non ∧ Q (.bl (decide (x = .non))) H
def rNotNo : R2 := fun x y H Q => y = .non ∧ Q (.bl (!decide (x = .non))) H
section
variable {X : Cx}
theorem op_addI : OpR X (binaryOp .Add) rAddI := op_add
theorem op_subI : OpR X (binaryOp .Sub) rSubI := op_sub
theorem op_mulI : OpR X (binaryOp .Mult) rMulI := op_mul
theorem op_divI : OpR X (binaryOp .FloorDiv) rDivI := op_fdiv
theorem op_modI : OpR X (binaryOp .Mod) rModI := op_mod
theorem op_powI : OpR X (binaryOp .Pow) rPowI := op_pow
theorem op_ltI : OpR X (compareOp .Lt) rLtI := op_lt
theorem op_leI : OpR X (compareOp .LtE) rLeI := op_le
theorem op_gtI : OpR X (compareOp .Gt) rGtI := op_gt
theorem op_geI : OpR X (compareOp .GtE) rGeI := op_ge
theorem opr_imp {f : Value → Value → Sem Value} {r r' : R2} (h : OpR X f r) (i : ∀ x y H Q, r' x y H Q → r x y H Q) : OpR X f r' := fun pins s σ H x y v u Q I rx ry q => h pins s σ H x y v u Q I rx ry (i x y H Q q)
theorem dec_inj {α : Type} [DecidableEq α] {f : α → V} (hf : ∀ i j, f i = f j → i = j) (i j : α) : decide (f i = f j) = decide (i = j) := by
  by_cases h : i = j
  · subst h; simp
  · rw [decide_eq_false h, decide_eq_false fun z => h (hf _ _ z)]
theorem op_eqI : OpR X (compareOp .Eq) rEqI := opr_imp op_eq fun x y H Q ⟨i, j, ex, ey, q⟩ => by
  subst ex; subst ey
  exact ⟨rfl, by rw [dec_inj (f := V.int) (fun _ _ z => V.int.inj z)]; exact q⟩
theorem op_neI : OpR X (compareOp .NotEq) rNeI := opr_imp op_ne fun x y H Q ⟨i, j, ex, ey, q⟩ => by
  subst ex; subst ey
  exact ⟨rfl, by rw [dec_inj (f := V.int) (fun _ _ z => V.int.inj z)]; exact q⟩
theorem op_eqB : OpR X (compareOp .Eq) rEqB := opr_imp op_eq fun x y H Q ⟨i, j, ex, ey, q⟩ => by
  subst ex; subst ey
  exact ⟨rfl, by rw [dec_inj (f := V.bl) (fun _ _ z => V.bl.inj z)]; exact q⟩
theorem op_neB : OpR X (compareOp .NotEq) rNeB := opr_imp op_ne fun x y H Q ⟨i, j, ex, ey, q⟩ => by
  subst ex; subst ey
  exact ⟨rfl, by rw [dec_inj (f := V.bl) (fun _ _ z => V.bl.inj z)]; exact q⟩
theorem op_eqT : OpR X (compareOp .Eq) rEqT := opr_imp op_eq fun x y H Q ⟨i, j, ex, ey, q⟩ => by
  subst ex; subst ey
  exact ⟨rfl, by rw [dec_inj (f := V.str) (fun _ _ z => V.str.inj z)]; exact q⟩
theorem op_neT : OpR X (compareOp .NotEq) rNeT := opr_imp op_ne fun x y H Q ⟨i, j, ex, ey, q⟩ => by
  subst ex; subst ey
  exact ⟨rfl, by rw [dec_inj (f := V.str) (fun _ _ z => V.str.inj z)]; exact q⟩
theorem op_isNo : OpR X (compareOp .Is) rIsNo := op_isN
theorem op_notNo : OpR X (compareOp .IsNot) rNotNo := op_notN
end
section
variable {H : Hp} {i j : Int} {a b : Bool} {s t : Str} {d : PyData}
theorem rd_addI : RD rAddI (.int i) (.int j) H (.int (i + j)) := rd_val fun H1 v u e r1 r2 => ⟨.int (i + j), rfl, fun Q q => ⟨i, j, r1, r2, q⟩⟩
theorem rd_subI : RD rSubI (.int i) (.int j) H (.int (i - j)) := rd_val fun H1 v u e r1 r2 => ⟨.int (i - j), rfl, fun Q q => ⟨i, j, r1, r2, q⟩⟩
theorem rd_mulI (h : CMul i j) : RD rMulI (.int i) (.int j) H (.int (i * j)) := rd_val fun H1 v u e r1 r2 => ⟨.int (i * j), rfl, fun Q q => ⟨i, j, r1, r2, h, q⟩⟩
theorem rd_divI (h : CDiv i j) : RD rDivI (.int i) (.int j) H (.int (i / j)) := rd_val fun H1 v u e r1 r2 => ⟨.int (i / j), rfl, fun Q q => ⟨i, j, r1, r2, h, q⟩⟩
theorem rd_modI (h : 0 < j) : RD rModI (.int i) (.int j) H (.int (i % j)) := rd_val fun H1 v u e r1 r2 => ⟨.int (i % j), rfl, fun Q q => ⟨i, j, r1, r2, h, q⟩⟩
theorem rd_powI (h : CPow i j) : RD rPowI (.int i) (.int j) H (.int (i ^ j.toNat)) := rd_val fun H1 v u e r1 r2 => ⟨.int (i ^ j.toNat), rfl, fun Q q => ⟨i, j, r1, r2, h, q⟩⟩
theorem rd_ltI : RD rLtI (.int i) (.int j) H (.bool (decide (i < j))) := rd_val fun H1 v u e r1 r2 => ⟨.bl (decide (i < j)), rfl, fun Q q => ⟨i, j, r1, r2, q⟩⟩
theorem rd_leI : RD rLeI (.int i) (.int j) H (.bool (decide (i ≤ j))) := rd_val fun H1 v u e r1 r2 => ⟨.bl (decide (i ≤ j)), rfl, fun Q q => ⟨i, j, r1, r2, q⟩⟩
theorem rd_gtI : RD rGtI (.int i) (.int j) H (.bool (decide (j < i))) := rd_val fun H1 v u e r1 r2 => ⟨.bl (decide (j < i)), rfl, fun Q q => ⟨i, j, r1, r2, q⟩⟩
theorem rd_geI : RD rGeI (.int i) (.int j) H (.bool (decide (j ≤ i))) := rd_val fun H1 v u e r1 r2 => ⟨.bl (decide (j ≤ i)), rfl, fun Q q => ⟨i, j, r1, r2, q⟩⟩
theorem rd_eqI : RD rEqI (.int i) (.int j) H (.bool (decide (i = j))) := rd_val fun H1 v u e r1 r2 => ⟨.bl (decide (i = j)), rfl, fun Q q => ⟨i, j, r1, r2, q⟩⟩
theorem rd_neI : RD rNeI (.int i) (.int j) H (.bool (!decide (i = j))) := rd_val fun H1 v u e r1 r2 => ⟨.bl (!decide (i = j)), rfl, fun Q q => ⟨i, j, r1, r2, q⟩⟩
theorem rd_eqB : RD rEqB (.bool a) (.bool b) H (.bool (decide (a = b))) := rd_val fun H1 v u e r1 r2 => ⟨.bl (decide (a = b)), rfl, fun Q q => ⟨a, b, r1, r2, q⟩⟩
theorem rd_neB : RD rNeB (.bool a) (.bool b) H (.bool (!decide (a = b))) := rd_val fun H1 v u e r1 r2 => ⟨.bl (!decide (a = b)), rfl, fun Q q => ⟨a, b, r1, r2, q⟩⟩
theorem rd_eqT : RD rEqT (.str s) (.str t) H (.bool (decide (s = t))) := rd_val fun H1 v u e r1 r2 => ⟨.bl (decide (s = t)), rfl, fun Q q => ⟨s, t, r1, r2, q⟩⟩
theorem rd_neT : RD rNeT (.str s) (.str t) H (.bool (!decide (s = t))) := rd_val fun H1 v u e r1 r2 => ⟨.bl (!decide (s = t)), rfl, fun Q q => ⟨s, t, r1, r2, q⟩⟩
def isNo : PyData → Bool
  | .none => true
  | _ => false
theorem Rp.isNo {v : V} : ∀ {d : PyData}, Rp H d v → decide (v = .non) = isNo d
  | .none, h => by cases h; rfl
  | .bool _, h => by cases h; rfl
  | .int _, h => by cases h; rfl
  | .str _, h => by cases h; rfl
  | .list _, h => by obtain ⟨a, xs, rfl, _⟩ := h; rfl
  | .tuple _, h => by obtain ⟨a, xs, o, rfl, _⟩ := h; rfl
  | .dict _, h => h.elim
theorem rd_isNo : RD rIsNo d .none H (.bool (isNo d)) := rd_val fun H1 v u e r1 r2 => ⟨.bl (isNo d), rfl, fun Q q => ⟨r2, by rw [r1.isNo]; exact q⟩⟩
theorem rd_notNo : RD rNotNo d .none H (.bool (!isNo d)) := rd_val fun H1 v u e r1 r2 => ⟨.bl (!isNo d), rfl, fun Q q => ⟨r2, by rw [r1.isNo]; exact q⟩⟩
end

/-! ### tests, and, or, not -/
section
variable {K : PySem.W.Frag} {σ : L2.St} {H H' : Hp} {ta tb te tx : TE} {t u : TT} {d x y z : PyData} {ds : List PyData} {a b : Bool}
theorem ett (h : EvD te σ H (.bool b)) : EvT (tTest te) σ H b := fun H1 e _ q => h H1 e _ fun v H2 e2 r => ⟨b, r, q H2 e2⟩
theorem etB (h : EvD te σ H (.bool b)) : EvT (tB te) σ H b := fun H1 e _ q => h H1 e _ fun v H2 e2 r => ⟨b, r, q H2 e2⟩
theorem evd_and (h1 : EvD ta σ H (.bool a)) (h2 : a = true → EvD tb σ H (.bool b)) : EvD (tAndV ta tb) σ H (.bool (a && b)) := fun H1 e Q q => h1 H1 e _ fun v H2 e2 r => ⟨a, r, by
  cases a with
  | true => exact h2 rfl H2 (e.trans e2) Q fun w H3 e3 r3 => q w H3 (e2.trans e3) r3
  | false => exact q _ H2 e2 rfl⟩
theorem evd_or (h1 : EvD ta σ H (.bool a)) (h2 : a = false → EvD tb σ H (.bool b)) : EvD (tOrV ta tb) σ H (.bool (a || b)) := fun H1 e Q q => h1 H1 e _ fun v H2 e2 r => ⟨a, r, by
  cases a with
  | true => exact q _ H2 e2 rfl
  | false => exact h2 rfl H2 (e.trans e2) Q fun w H3 e3 r3 => q w H3 (e2.trans e3) r3⟩
theorem evd_not (h1 : EvD ta σ H (.bool a)) : EvD (tNotV ta) σ H (.bool (!a)) := fun H1 e Q q => h1 H1 e _ fun v H2 e2 r => ⟨a, r, q _ H2 e2 rfl⟩
theorem evd_chain {r r' : R2} {w : PyData} {tc : TE} (ha : EvD ta σ H x) (hb : EvD tb σ H y) (hr : RD r x y H (.bool a)) (hc : a = true → EvD tc σ H z) (hr' : a = true → RD r' y z H (.bool b)) : EvD (tChain r r' ta tb tc) σ H (.bool (a && b)) := fun H1 e Q q =>
  ha H1 e _ fun v H2 e2 r2 => hb H2 (e.trans e2) _ fun u H3 e3 r3 => hr H3 v u ((e.trans e2).trans e3) (r2.ex e3) r3 _ fun w H4 e4 r4 => ⟨a, r4, by
    cases a with
    | true => exact hc rfl H4 (((e.trans e2).trans e3).trans e4) _ fun w' H5 e5 r5 => hr' rfl H5 u w' ((((e.trans e2).trans e3).trans e4).trans e5) ((r3.ex e4).ex e5) r5 Q fun w2 H6 e6 r6 => q w2 H6 ((((e2.trans e3).trans e4).trans e5).trans e6) r6
    | false => exact q _ H4 ((e2.trans e3).trans e4) rfl⟩
/-! ### arguments, tuples, lists -/
theorem evs_nil : EvS tNil σ H [] := fun H1 _ _ q => q [] H1 (Ex.refl H1) RpA.nil
theorem evs_cons {tr : TA} (h : EvD ta σ H x) (hr : EvS tr σ H ds) : EvS (tCons ta tr) σ H (x :: ds) := fun H1 e _ q =>
  h H1 e _ fun v H2 e2 r2 => hr H2 (e.trans e2) _ fun vs H3 e3 r3 => q (v :: vs) H3 (e2.trans e3) (RpA.cons (r2.ex e3) r3)
/-- a tuple whose object bears no dict -/
def tTupF (t : TA) : TE := fun σ H Q => t σ H fun xs H1 => xs.length ≤ sizeLine ∧ ∀ p o, H1 p = Option.none → o.dict = Option.none → Q (.ref p) (upd H1 p (.frz o (.tup xs)))
theorem evd_tup {tr : TA} (h : EvS tr σ H ds) (hl : ds.length ≤ 100000) : EvD (tTupF tr) σ H (.tuple ds) := fun H1 e _ q =>
  h H1 e _ fun vs H2 e2 r2 => ⟨sz_of (by rw [r2.len]; exact hl), fun p o hp ho => q _ _ (e2.trans (Ex.new hp)) ⟨p, vs, o, rfl, upd_same, ho, r2.ex (Ex.new hp)⟩⟩
theorem evn_lst {tr : TA} (h : EvS tr σ H ds) (hl : ds.length ≤ 100000) : EvN (tLst tr) σ H ds := fun H1 e _ q =>
  h H1 e _ fun vs H2 e2 r2 => ⟨sz_of (by rw [r2.len]; exact hl), fun p hp => q p vs _ (fresh_back e2 hp) (e2.trans (Ex.new hp)) upd_same (r2.ex (Ex.new hp))⟩
/-- a def's call -/
theorem evd_call {sp : Sp} {E : XK} {tr : TA} (h : EvS tr σ H ds) (hs : ∀ H1 vs Q, Ex H H1 → RpA H1 ds vs → (∀ v H2, Ex H1 H2 → Rp H2 d v → Q v H2) → sp vs H1 Q E) : EvD (tCall sp [] E tr) σ H d := fun H1 e Q q =>
  h H1 e _ fun vs H2 e2 r2 => by
    show sp (vs ++ []) H2 Q E
    rw [List.append_nil]
    exact hs H2 vs Q (e.trans e2) r2 fun v H3 e3 r3 => q v H3 (e2.trans e3) r3
theorem evn_call {sp : Sp} {E : XK} {tr : TA} {es : List PyData} (h : EvS tr σ H ds) (hs : ∀ H1 vs Q, Ex H H1 → RpA H1 ds vs → (∀ p ws H2, H1 p = none → Ex H1 H2 → H2 p = some (.lst ws) → RpA H2 es ws → Q (.ref p) H2) → sp vs H1 Q E) : EvN (tCall sp [] E tr) σ H es := fun H1 e Q q =>
  h H1 e _ fun vs H2 e2 r2 => by
    show sp (vs ++ []) H2 Q E
    rw [List.append_nil]
    exact hs H2 vs Q (e.trans e2) r2 fun p ws H3 hp e3 h3 r3 => q p ws H3 (fresh_back e2 hp) (e2.trans e3) h3 r3
/-- a built-in's call -/
def CD (r : List V → Hp → VK → Prop) (ds : List PyData) (H : Hp) (z : PyData) : Prop := ∀ H1 vs, Ex H H1 → RpA H1 ds vs → ∀ Q : VK, (∀ w H2, Ex H1 H2 → Rp H2 z w → Q w H2) → r vs H1 Q
def CN (r : List V → Hp → VK → Prop) (ds : List PyData) (H : Hp) (zs : List PyData) : Prop := ∀ H1 vs, Ex H H1 → RpA H1 ds vs → ∀ Q : VK, (∀ p ws H2, H1 p = none → Ex H1 H2 → H2 p = some (.lst ws) → RpA H2 zs ws → Q (.ref p) H2) → r vs H1 Q
theorem evd_cb {r : List V → Hp → VK → Prop} {tr : TA} (h : EvS tr σ H ds) (hr : CD r ds H z) : EvD (tCB r tr) σ H z := fun H1 e Q q =>
  h H1 e _ fun vs H2 e2 r2 => hr H2 vs (e.trans e2) r2 Q fun w H3 e3 r3 => q w H3 (e2.trans e3) r3
theorem evn_cb {r : List V → Hp → VK → Prop} {tr : TA} {zs : List PyData} (h : EvS tr σ H ds) (hr : CN r ds H zs) : EvN (tCB r tr) σ H zs := fun H1 e Q q =>
  h H1 e _ fun vs H2 e2 r2 => hr H2 vs (e.trans e2) r2 Q fun p ws H3 hp e3 h3 r3 => q p ws H3 (fresh_back e2 hp) (e2.trans e3) h3 r3
/-- a built-in's method that changes nothing -/
def MD (K : PySem.W.Frag) (T : String) (r : V → List V → Hp → VK → Prop) (x : PyData) (ds : List PyData) (H : Hp) (z : PyData) : Prop :=
  (∀ H1 v, Ex H H1 → Rp H1 x v → tyV K T v H1) ∧ ∀ H1 v vs, Ex H H1 → Rp H1 x v → RpA H1 ds vs → ∀ Q : VK, (∀ w H2, Ex H1 H2 → Rp H2 z w → Q w H2) → r v vs H1 Q
theorem evd_bm {T : String} {r : V → List V → Hp → VK → Prop} {to : TE} {tr : TA} (ho : EvD to σ H x) (h : EvS tr σ H ds) (hr : MD K T r x ds H z) : EvD (tBM K T r to tr) σ H z := fun H1 e Q q =>
  ho H1 e _ fun v H2 e2 r2 => ⟨hr.1 H2 v (e.trans e2) r2, h H2 (e.trans e2) _ fun vs H3 e3 r3 => hr.2 H3 v vs ((e.trans e2).trans e3) (r2.ex e3) r3 Q fun w H4 e4 r4 => q w H4 ((e2.trans e3).trans e4) r4⟩
end
end Bm

/-! Tuples that are told with their object (it bears no dict): made, added, searched by index; sorted of a tuple. -/
namespace Bm
open PySem PySem.Spec PyProof.Rows L2 Evl
section
variable {X : Cx} {pins : List (Addr × Obj)} {σ : L2.St} {H : Hp} {s : Shared} {es : List Expr} {t : TA} {pos : Pos}
/-- a new tuple laid at the heap's end, told with its object -/
theorem tupNew (I : Inv X pins σ H s) {h2 : Heap} {tk : Nat} {xs : List V} {us : List Value} (kp : ∀ b o, s.heap.get? b = some o → h2.get? b = some o) (r : Vals xs us) (z : xs.length ≤ sizeLine) {Q : VK}
    (q : ∀ p o, H p = none → o.dict = none → Q (.ref p) (upd H p (.frz o (.tup xs)))) :
    EP X pins σ Q (.ref h2.objs.size) { s with heap := h2.push { cls := .type "tuple", data := .seq us.toArray }, toks := tk } := by
  have J : Inv X pins σ H { s with heap := h2, toks := tk } := I.kept (t' := tk) kp
  have fr : H h2.objs.size = none := J.hok.fresh (Nat.le_refl _)
  have at_ : (h2.push { cls := .type "tuple", data := .seq us.toArray }).get? h2.objs.size = some { cls := .type "tuple", data := .seq us.toArray } := Heap.get?_push_size _ rfl
  refine ⟨.ref h2.objs.size, upd H h2.objs.size (.frz { cls := .type "tuple", data := .seq us.toArray } (.tup xs)), ?_, rfl, q _ _ fr rfl⟩
  refine J.laid (t' := tk) (fun b o e => Heap.get?_push_of_some _ e) (Nat.le_refl _) ⟨at_, z, us, r, ⟨_, at_, rfl, _, rfl⟩⟩
theorem pe_tupF {k : Nat} (h : PA X es t) : PE X (.Tuple es k pos) (tTupF t) := by
  refine ⟨fun pins s σ H Q I hq => wpAny_Tuple_spliced (thn (h.run pos pins s σ H _ I hq) fun us s1 hh => ?_)⟩
  obtain ⟨xs, H1, I1, r, z, q⟩ := hh
  exact ⟨by rw [← r.length]; exact z, tupNew (tk := s1.toks) I1 (fun _ _ e => e) r z q⟩
end
def rTupL (K : PySem.W.Frag) : List V → Hp → VK → Prop := fun xs H Q => ∃ p ys, xs = [.ref p] ∧ SqL K H p ys ∧ ∀ l o, H l = none → o.dict = none → Q (.ref l) (upd H l (.frz o (.tup ys)))
/-- x + y of tuples -/
def rCatF (K : PySem.W.Frag) : R2 := fun x y H Q => ∃ a b xs ys, x = .ref a ∧ y = .ref b ∧ SqT K H a xs ∧ SqT K H b ys ∧ xs.length + ys.length ≤ sizeLine ∧
  (xs = [] → Q (.ref b) H) ∧ (ys = [] → Q (.ref a) H) ∧ ∀ p o, H p = none → o.dict = none → Q (.ref p) (upd H p (.frz o (.tup (xs ++ ys))))
section
variable {X : Cx}
theorem cr_tupL : CallR X (.type "tuple") (rTupL X.K) := by
  intro pins s σ H xs us Q I r h
  obtain ⟨p, ys, rfl, hq, q⟩ := h
  obtain ⟨u, rfl, ru⟩ := vals1 r
  cases ru
  obtain ⟨its, rv, pl, z⟩ := I.list hq
  exact call_tuple_list pl.isList (fun h2 kp => tupNew (tk := s.toks) I kp rv z q) (by rw [List.size_toArray, ← rv.length]; exact z)
theorem op_catF : OpR X (binaryOp .Add) (rCatF X.K) := by
  intro pins s σ H x y v u Q I rx ry h
  obtain ⟨a, b, xs, ys, rfl, rfl, ha, hb, z, q0, q1, q2⟩ := h
  cases rx
  cases ry
  obtain ⟨i1, r1, p1, _⟩ := I.tuple ha
  obtain ⟨i2, r2, p2, _⟩ := I.tuple hb
  by_cases e : xs = []
  · subst e
    cases r1
    have zc := op_catA pins s σ H (.ref a) (.ref b) (.ref a) (.ref b) Q I rfl rfl
    exact zc ⟨a, b, [], ys, rfl, rfl, ha, hb, z, q0, fun k => absurd rfl k, fun k => absurd rfl k⟩
  · exact HT.cat_tup p1 p2 (fun k => e (r1.nil_iff.mp k)) (fun k => ⟨.ref a, H, I, rfl, q1 (r2.nil_iff.mp k)⟩)
      (fun k => tupNew (tk := s.toks) I (fun _ _ q => q) (r1.append r2) (by rw [List.length_append]; exact z) q2) (by rw [← r1.length, ← r2.length]; exact z)
/-! ### t.index(x) of ints -/
theorem flat_ints (ns : List Int) : (ns.map V.int).all flatV = true := by
  rw [List.all_map]
  exact List.all_eq_true.mpr fun _ _ => rfl
def rIxI (K : PySem.W.Frag) : V → List V → Hp → VK → Prop := fun x xs H Q => ∃ (p : Addr) (ns : List Int) (z : Int) (j : Nat), x = .ref p ∧ xs = [.int z] ∧ SqT K H p (ns.map V.int) ∧ ns[j]? = some z ∧ (∀ m, m < j → ns[m]? ≠ some z) ∧ Q (.int (j : Nat)) H
theorem mt_tupIx : MtR X "tuple.index" (rIxI X.K) := by
  intro pins s σ H x xs v us Q I rx rs h
  obtain ⟨p, ns, z, j, rfl, rfl, hq, hz, hno, q⟩ := h
  cases rx
  obtain ⟨u, rfl, tk, rfl⟩ := vals1 rs
  obtain ⟨its, r, pl, _⟩ := I.tuple hq
  obtain ⟨⟨c, dd, dt, sl⟩, ho, hc, n, hd⟩ := pl
  obtain rfl : c = .type "tuple" := hc
  obtain rfl : dt = .seq its.toArray n := hd
  have hl : its.toArray.size = ns.length := by rw [List.size_toArray, ← r.length, List.length_map]
  have item : ∀ (m : Nat) (hm : m < its.toArray.size), ∃ y t2, ns[m]? = some y ∧ its.toArray[m] = Value.int y t2 := fun m hm => by
    have hm2 : m < ns.length := hl ▸ hm
    obtain ⟨w2, hw, t2, e2⟩ := r.get (i := m) (x := .int ns[m]) (by simp [hm2])
    obtain ⟨_, e3⟩ := List.getElem?_eq_some_iff.mp hw
    exact ⟨ns[m], t2, List.getElem?_eq_getElem hm2, by rw [← e2, ← e3]; simp⟩
  have hj : j < its.toArray.size := by rw [hl]; exact (List.getElem?_eq_some_iff.mp hz).1
  have eqi : ∀ (y : Int) (t2 : Tok), eqU (.int z) (Value.int y t2) = (y == z) := fun _ _ => rfl
  refine call_meets PySem.F.slot_tuple_index ⟨_, ho, rfl⟩ PySem.F.entry_tuple_index (PySem.F.args_tuple_index_2 _ _)
    (TI.tuple_indexAt p its.toArray n dd sl (.int z tk) (eqU (.int z)) j hj ?_ fun m hm hmj => ?_)
    ⟨ho, fun w2 hw => mem_eqAt (x := .int z) ⟨tk, rfl⟩ rfl r (flat_ints ns) w2 (by simpa using hw), ⟨.int (j : Nat), H, I.tok _, ⟨_, rfl⟩, q⟩⟩
  · obtain ⟨y, t2, h1, h2⟩ := item j hj
    rw [hz] at h1
    cases h1
    rw [h2, eqi]
    exact beq_self_eq_true z
  · obtain ⟨y, t2, h1, h2⟩ := item m hm
    rw [h2, eqi]
    exact beq_eq_false_iff_ne.mpr fun e => hno m hmj (by rw [h1, e])
/-- the call of a tuple's method, the tuple told with its object -/
def tTM (r : V → List V → Hp → VK → Prop) (to : TE) (t : TA) : TE := fun σ H Q => to σ H fun x H1 => (∃ a o xs, x = .ref a ∧ H1 a = some (.frz o (.tup xs)) ∧ o.dict = none) ∧ t σ H1 fun xs H2 => r x xs H2 Q
theorem pe_tm {o e : Expr} {es : List Expr} {to : TE} {t : TA} {name : Str} {apos cpos : Pos} {id : String} {r : V → List V → Hp → VK → Prop} (pa : PlainAttrs "tuple") (slot : Slot "tuple" name id)
    (hty : typeOf (.builtin id) = pure (.type "method_descriptor")) (hm : MtR X id r) (ho : PE X o to) (ha : PA X (e :: es) t) (hbase : attributeBase o name X.env (eval o X.env) = eval o X.env := by rfl)
    (hfew : ((backTo cpos (starEach (e :: es) X.env)).all (fun x => !x.1) && (backToKw cpos (keywordEach [] X.env)).all (fun x => x.1.isSome) && decide ((e :: es).length + ([] : List Keyword).length + (if ([] : List Keyword).isEmpty then 0 else 1) < 30)) = true := by rfl)
    (hline : (apos.endLine == cpos.line) = true := by rfl) (hs : starEach (e :: es) X.env = (false, eval e X.env) :: starEach es X.env := by rfl)
    (hpl : (backTo cpos (starEach es X.env)).any (·.1) = false := by rfl) : PE X (.Call (.Attribute o name apos) (e :: es) [] cpos) (tTM r to t) := by
  refine ⟨fun pins s σ H Q I h => wpAny_Call_method_late hbase hfew hline rfl (thn (ho.run pins s σ H _ I h) fun v s1 hh => ?_)⟩
  obtain ⟨x, H1, I1, r1, ⟨a, ob, xs, rfl, hf, hd⟩, q1⟩ := hh
  obtain ⟨g1, g2⟩ := I1.hok a _ hf
  obtain ⟨_, its, _, o2, g3, g4, _⟩ := g2
  cases r1
  rw [g1] at g3
  cases g3
  refine ⟨"tuple", id, pa, slot, hty, ⟨ob, g1, g4⟩, fun b e2 => ?_, ?_⟩
  · cases e2
    exact ⟨ob, g1, hd⟩
  · have hA := ha.run cpos pins s1 σ H1 _ I1 q1
    rw [hs] at hA ⊢
    refine Calls.callWith_builtin (by show (false || (backTo cpos (starEach es X.env)).any (·.1)) = false; rw [hpl] <;> rfl) (Calls.evalArgs_plain ?_)
    exact thn hA fun us s2 ⟨vs, H2, I2, r2, q2⟩ => hm pins s2 σ H2 (.ref a) vs (.ref a) us Q I2 rfl r2 q2
/-- tuple(reversed(a list)) -/
def tTupRevF (K : PySem.W.Frag) (te : TE) : TE := fun σ H Q => te σ H fun v H1 => ∃ (a : Addr) (xs : List V), v = .ref a ∧ SqL K H1 a xs ∧ ∀ p o, H1 p = none → o.dict = none → Q (.ref p) (upd H1 p (.frz o (.tup xs.reverse)))
end
end Bm

/-! Statements, owned lists, loops, comprehensions over data. -/
namespace Bm
open PySem PySem.Spec PyProof.Rows L2 Evl

/-! ### all but one object stays -/
def ExB (l : Addr) (H H' : Hp) : Prop := ∀ b o, b ≠ l → H b = some o → H' b = some o
theorem ExB.base {H0 H H' : Hp} {l : Addr} (x : ExB l H H') (n : H0 l = none) (e : Ex H0 H) : Ex H0 H' := fun b o h => x b o (ne_of_none h n) (e b o h)
theorem ExB.kt {H H' : Hp} {l : Addr} {xs : List V} (x : ExB l H H') (h : H l = some (.lst xs)) : KT H H' := fun b o ys e => x b _ (ne_of e h fun z => by cases z) e
theorem ExB.of {H H' : Hp} {l : Addr} (e : Ex H H') : ExB l H H' := fun b o _ h => e b o h
theorem ExB.trans {H H1 H2 : Hp} {l : Addr} (a : ExB l H H1) (b : ExB l H1 H2) : ExB l H H2 := fun c o n h => b c o n (a c o n h)
theorem ExB.upd {H : Hp} {l : Addr} {o : HO} : ExB l H (L2.upd H l o) := fun b u n h => by rw [upd_ne n]; exact h

/-- a list of ours, made since H0 -/
structure Own (H0 H : Hp) (l : Addr) (ds : List PyData) : Prop where
  new : H0 l = none
  ex : Ex H0 H
  has : ∃ vs, H l = some (.lst vs) ∧ RpA H ds vs
  im : immA ds = true
section
variable {H0 H H1 : Hp} {l l2 : Addr} {ds : List PyData}
theorem Own.step (o : Own H0 H l ds) (e : Ex H H1) : Own H0 H1 l ds := by
  obtain ⟨vs, h1, h2⟩ := o.has
  exact ⟨o.new, o.ex.trans e, ⟨vs, e _ _ h1, h2.ex e⟩, o.im⟩
theorem Own.lower {Hb : Hp} (o : Own H0 H l ds) (e : Ex Hb H0) : Own Hb H l ds := ⟨fresh_back e o.new, e.trans o.ex, o.has, o.im⟩
theorem Own.rp (o : Own H0 H l ds) : Rp H (.list ds) (.ref l) := by
  obtain ⟨vs, h1, h2⟩ := o.has
  exact ⟨l, vs, rfl, h1, h2⟩
/-- another list has changed -/
theorem Own.other {xs : List V} (o : Own H0 H l ds) (x : ExB l2 H H1) (ne : l ≠ l2) (n : H0 l2 = none) (h : H l2 = some (.lst xs)) : Own H0 H1 l ds := by
  obtain ⟨vs, h1, h2⟩ := o.has
  exact ⟨o.new, x.base n o.ex, ⟨vs, x _ _ ne h1, RpA.keep (x.kt h) o.im h2⟩, o.im⟩
theorem Own.len (o : Own H0 H l ds) : ∃ vs, H l = some (.lst vs) ∧ vs.length = ds.length := by
  obtain ⟨vs, h1, h2⟩ := o.has
  exact ⟨vs, h1, h2.len⟩
theorem Own.of {p : Addr} {vs : List V} (hp : H0 p = none) (e : Ex H0 H) (h : H p = some (.lst vs)) (r : RpA H ds vs) (i : immA ds = true) : Own H0 H p ds := ⟨hp, e, ⟨vs, h, r⟩, i⟩
end
theorem immA_app {ds es : List PyData} (h : immA ds = true) (h' : immA es = true) : immA (ds ++ es) = true := immA_iff.mpr fun d m => (List.mem_append.mp m).elim (immA_iff.mp h d) (immA_iff.mp h' d)
theorem immA_one {d : PyData} (h : imm d = true) : immA [d] = true := by simp [immA, h]

/-! ### statements -/
section
variable {K : PySem.W.Frag} {σ : L2.St} {H H' : Hp} {ta tb te tl : TE} {t u : TT} {d x y z : PyData} {ds es : List PyData} {D : Ends} {tu tw : TS} {g : TG}
theorem s_asgD {i : Nat} (h : EvD te σ H d) (k : ∀ v H1, Ex H H1 → Rp H1 d v → D.nx (σ.set i (some v)) H1) : tAsg te (gName i) D σ H := h H (Ex.refl H) _ fun v H1 e r => k v H1 e r
theorem s_asgI {i : Nat} {n : Int} (h : EvD te σ H (.int n)) (k : ∀ H1, Ex H H1 → D.nx (σ.set i (some (.int n))) H1) : tAsg te (gName i) D σ H := h H (Ex.refl H) _ fun v H1 e r => by
  obtain rfl : v = .int n := r
  exact k H1 e
theorem s_asgB {i : Nat} {b : Bool} (h : EvD te σ H (.bool b)) (k : ∀ H1, Ex H H1 → D.nx (σ.set i (some (.bl b))) H1) : tAsg te (gName i) D σ H := h H (Ex.refl H) _ fun v H1 e r => by
  obtain rfl : v = .bl b := r
  exact k H1 e
theorem s_asgT {i : Nat} {b : Str} (h : EvD te σ H (.str b)) (k : ∀ H1, Ex H H1 → D.nx (σ.set i (some (.str b))) H1) : tAsg te (gName i) D σ H := h H (Ex.refl H) _ fun v H1 e r => by
  obtain rfl : v = .str b := r
  exact k H1 e
theorem s_asgO {i : Nat} (h : EvN te σ H ds) (im : immA ds = true) (k : ∀ p H1, Ex H H1 → Own H H1 p ds → D.nx (σ.set i (some (.ref p))) H1) : tAsg te (gName i) D σ H :=
  h H (Ex.refl H) _ fun p vs H1 hp e h1 r => k p H1 e (Own.of hp e h1 r im)
theorem s_asgNw {i : Nat} (h : EvN te σ H ds) (k : ∀ p vs H1, H p = none → Ex H H1 → H1 p = some (.lst vs) → RpA H1 ds vs → D.nx (σ.set i (some (.ref p))) H1) : tAsg te (gName i) D σ H := h H (Ex.refl H) _ fun p vs H1 hp e h1 r => k p vs H1 hp e h1 r
theorem s_retD (h : EvD te σ H d) (k : ∀ v H1, Ex H H1 → Rp H1 d v → D.rt v H1) : tRet te D σ H := h H (Ex.refl H) _ k
theorem s_retNw (h : EvN te σ H ds) (k : ∀ p vs H1, H p = none → Ex H H1 → H1 p = some (.lst vs) → RpA H1 ds vs → D.rt (.ref p) H1) : tRet te D σ H := h H (Ex.refl H) _ k
theorem s_dropD (h : EvD te σ H d) (k : ∀ H1, Ex H H1 → D.nx σ H1) : tDrop te D σ H := h H (Ex.refl H) _ fun _ H1 e _ => k H1 e
/-- xs.append(e), xs a list of ours -/
theorem s_appO {H0 : Hp} {l : Addr} {i : Nat} (o : Own H0 H l ds) (hi : σ[i]? = some (some (.ref l))) (h : EvD te σ H d) (im : imm d = true) (hz : ds.length < 100000)
    (k : ∀ H2, ExB l H H2 → Own H0 H2 l (ds ++ [d]) → D.nx σ H2) : tDrop (tBM K "list" rAppend (tVar i) (tCons te tNil)) D σ H := by
  obtain ⟨vs, h1, h2⟩ := o.has
  refine ⟨.ref l, hi, .inl ⟨rfl, vs, SqL.of h1⟩, h H (Ex.refl H) _ fun v H1 e1 r1 => ⟨l, vs, v, rfl, rfl, e1 _ _ h1, sz_lt (by rw [h2.len]; exact hz), ?_⟩⟩
  have x : ExB l H (upd H1 l (.lst (vs ++ [v]))) := (ExB.of e1).trans ExB.upd
  refine k _ x ⟨o.new, x.base o.new o.ex, ⟨_, upd_same, ?_⟩, immA_app o.im (immA_one im)⟩
  have kt : KT H1 (upd H1 l (.lst (vs ++ [v]))) := KT.lst (e1 _ _ h1)
  exact (RpA.keep kt o.im (h2.ex e1)).snoc (Rp.keep kt im r1)
/-- xs.extend(e), e a new list -/
theorem s_extO {H0 : Hp} {l : Addr} {i : Nat} (o : Own H0 H l ds) (hi : σ[i]? = some (some (.ref l))) (h : EvN te σ H es) (im : immA es = true) (hz : ds.length + es.length ≤ 100000)
    (k : ∀ H2, ExB l H H2 → Own H0 H2 l (ds ++ es) → D.nx σ H2) : tDrop (tBM K "list" rExtend (tVar i) (tCons te tNil)) D σ H := by
  obtain ⟨vs, h1, h2⟩ := o.has
  refine ⟨.ref l, hi, .inl ⟨rfl, vs, SqL.of h1⟩, h H (Ex.refl H) _ fun p ws H1 hp e1 hw r1 => ⟨l, p, vs, ws, rfl, rfl, e1 _ _ h1, hw, sz_of (by rw [h2.len, r1.len]; exact hz), ?_⟩⟩
  have x : ExB l H (upd H1 l (.lst (vs ++ ws))) := (ExB.of e1).trans ExB.upd
  refine k _ x ⟨o.new, x.base o.new o.ex, ⟨_, upd_same, ?_⟩, immA_app o.im im⟩
  have kt : KT H1 (upd H1 l (.lst (vs ++ ws))) := KT.lst (e1 _ _ h1)
  exact (RpA.keep kt o.im (h2.ex e1)).app (RpA.keep kt im r1)

/-! ### for -/
theorem map_get {α β : Type} {f : α → β} {xs : List α} {i : Nat} {y : β} (h : (xs.map f)[i]? = some y) : ∃ x, xs[i]? = some x ∧ y = f x := by
  rw [List.getElem?_map] at h
  cases e : xs[i]? with
  | none => rw [e] at h; cases h
  | some x => rw [e] at h; cases h; exact ⟨x, rfl, rfl⟩
/-- over a list that stays -/
theorem s_forD {α : Type} {f : α → PyData} {xs : List α} (h : EvD tl σ H (.list (xs.map f)))
    (k : ∀ H1, Ex H H1 → ∃ Pv : Nat → L2.St → Hp → Prop, Pv 0 σ H1 ∧ (∀ i σ' H', Pv i σ' H' → Ex H1 H') ∧
      (∀ i x v σ' H', xs[i]? = some x → Rp H' (f x) v → Pv i σ' H' → g v σ' H' fun σ2 H2 => tu { D with nx := Pv (i + 1), ct := Pv (i + 1), bk := D.nx } σ2 H2) ∧ ∀ σ' H', Pv xs.length σ' H' → D.nx σ' H') :
    tFor (iList K tl) g tu D σ H := h H (Ex.refl H) _ fun v H1 e r => by
  obtain ⟨a, vs, e1, h1, h2⟩ := r
  obtain ⟨Pv, p0, pe, ps, pd⟩ := k H1 e
  have hl : vs.length = xs.length := by rw [h2.len, List.length_map]
  refine ⟨a, e1, ⟨vs, SqL.of h1⟩, for_list (xs := vs) Pv p0 (fun i σ' H' _ p => SqL.of (pe i σ' H' p a _ h1)) (fun i v2 σ' H' hi p => ?_) (fun σ' H' p => pd σ' H' (hl ▸ p))⟩
  obtain ⟨d2, q1, q2⟩ := h2.getv hi
  obtain ⟨x, q3, rfl⟩ := map_get q1
  exact ps i x v2 σ' H' q3 (q2.ex (pe i σ' H' p)) p
theorem s_forR {ta : TA} {n : Int} (h : EvS ta σ H [.int n]) (hn : -100000 ≤ n ∧ n ≤ 100000)
    (k : ∀ H1, Ex H H1 → ∃ Pv : Nat → L2.St → Hp → Prop, Pv 0 σ H1 ∧
      (∀ (i : Nat) σ' H', (i : Int) < n → Pv i σ' H' → g (.int (i : Int)) σ' H' fun σ2 H2 => tu { D with nx := Pv (i + 1), ct := Pv (i + 1), bk := D.nx } σ2 H2) ∧ ∀ σ' H', Pv n.toNat σ' H' → D.nx σ' H') :
    tFor (iRng1 ta) g tu D σ H := h H (Ex.refl H) _ fun vs H1 e r => by
  obtain rfl : vs = [.int n] := RpA.ints (ns := [n]) r
  obtain ⟨Pv, p0, ps, pd⟩ := k H1 e
  refine ⟨n, rfl, by omega, by omega, for_range (lo := 0) (n := n.toNat) Pv p0 (fun i σ' H' hi p => ?_) pd⟩
  rw [Int.zero_add]
  exact ps i σ' H' (by omega) p
theorem s_forR2 {ta : TA} {lo n : Int} (h : EvS ta σ H [.int lo, .int n]) (hn : -100000 ≤ lo ∧ lo ≤ 100000 ∧ -100000 ≤ n ∧ n ≤ 100000)
    (k : ∀ H1, Ex H H1 → ∃ Pv : Nat → L2.St → Hp → Prop, Pv 0 σ H1 ∧
      (∀ (i : Nat) σ' H', lo + (i : Int) < n → Pv i σ' H' → g (.int (lo + (i : Int))) σ' H' fun σ2 H2 => tu { D with nx := Pv (i + 1), ct := Pv (i + 1), bk := D.nx } σ2 H2) ∧ ∀ σ' H', Pv (n - lo).toNat σ' H' → D.nx σ' H') :
    tFor (iRng2 ta) g tu D σ H := h H (Ex.refl H) _ fun vs H1 e r => by
  obtain rfl : vs = [.int lo, .int n] := RpA.ints (ns := [lo, n]) r
  obtain ⟨Pv, p0, ps, pd⟩ := k H1 e
  exact ⟨lo, n, rfl, ⟨by omega, by omega, by omega, by omega⟩, for_range (lo := lo) (n := (n - lo).toNat) Pv p0 (fun i σ' H' hi p => ps i σ' H' (by omega) p) pd⟩

/-! ### a, b = a pair -/
theorem g_name {i : Nat} {v : V} {Q : L2.St → Hp → Prop} (q : Q (σ.set i (some v)) H) : gName i v σ H Q := q
theorem g_pair {p : Int × Int} {v : V} {i j : Nat} {Q : L2.St → Hp → Prop} (r : Rp H (pD p) v) (q : Q ((σ.set i (some (.int p.1))).set j (some (.int p.2))) H) : gTup K 2 (gCons (gName i) (gCons (gName j) gNil)) v σ H Q := by
  obtain ⟨a, o, rfl, h1, _⟩ := r.pD
  exact ⟨a, _, rfl, .inl (.inr ⟨o, h1⟩), rfl, .int p.1, [.int p.2], rfl, .int p.2, [], rfl, rfl, q⟩

/-! ### comprehensions: the items that pass, and what is made of them -/
def LcW (Hb : Hp) (Dl : Addr) (ds : List PyData) (H : Hp) : Prop := Own Hb H Dl ds
/-- over a list -/
theorem evn_lcL {α : Type} {f : α → PyData} {xs : List α} {vs : List Nat} {tt : TT} (c : α → Bool) (y : α → PyData) (h : EvD tl σ H (.list (xs.map f))) (hz : xs.length ≤ 50000)
    (turn : ∀ x v H1, x ∈ xs → Ex H H1 → Rp H1 (f x) v → ∃ σ2, (∀ Q : L2.St → Hp → Prop, Q σ2 H1 → g v (wipe σ vs) H1 Q) ∧ wipe σ2 vs = wipe σ vs ∧ EvT tt σ2 H1 (c x) ∧ (c x = true → EvD te σ2 H1 (y x)))
    (im : ∀ x ∈ xs, c x = true → imm (y x) = true) : EvN (tLc (iList K tl) g tt te vs) σ H ((xs.filter c).map y) := fun H0 e0 Q q => h H0 e0 _ fun v H1 e1 r => by
  obtain ⟨a, ws, ea, h1, h2⟩ := r
  have hl : ws.length = xs.length := by rw [h2.len, List.length_map]
  refine ⟨a, ea, ⟨ws, SqL.of h1⟩, fun Dl hD => lc_list (xs := ws) (fun i H' => Own H1 H' Dl (((xs.take i).filter c).map y)) ?_ (fun i H' _ o => SqL.of (o.ex a _ h1)) (fun i x2 H' hi o => ?_) fun H' o => ?_⟩
  · exact ⟨hD, Ex.new hD, ⟨[], upd_same, RpA.nil⟩, rfl⟩
  · obtain ⟨d2, q1, q2⟩ := h2.getv hi
    obtain ⟨x, q3, rfl⟩ := map_get q1
    have hx : x ∈ xs := List.mem_of_getElem? q3
    obtain ⟨σ2, g1, g2, g3, g4⟩ := turn x x2 H' hx ((e0.trans e1).trans o.ex) (q2.ex o.ex)
    have hlen : i < xs.length := (List.getElem?_eq_some_iff.mp q3).1
    refine g1 _ ⟨g2, g3 H' (Ex.refl H') _ fun H3 e3 => ?_⟩
    have et : xs.take (i + 1) = xs.take i ++ [x] := by rw [List.take_add_one, q3]; rfl
    have o3 := o.step e3
    cases hc : c x with
    | true =>
      rw [if_pos rfl]
      refine g4 hc H3 e3 _ fun w H4 e4 r4 => ?_
      obtain ⟨acc, k1, k2⟩ := (o3.step e4).has
      have kt : KT H4 (upd H4 Dl (.lst (acc ++ [w]))) := KT.lst k1
      have hb : acc.length ≤ i := by
        rw [k2.len, List.length_map]
        exact Nat.le_trans (List.length_filter_le _ _) (by rw [List.length_take]; omega)
      refine ⟨acc, k1, sz_lt (by omega), o.new, ?_, ⟨_, upd_same, ?_⟩, ?_⟩
      · exact Ex.mut (o3.step e4).ex o.new
      · rw [et, List.filter_append, List.filter_cons, if_pos hc, List.map_append]
        exact (RpA.keep kt o.im k2).snoc (Rp.keep kt (im x hx hc) r4)
      · rw [et, List.filter_append, List.filter_cons, if_pos hc, List.map_append]
        exact immA_app o.im (immA_one (im x hx hc))
    | false =>
      rw [if_neg Bool.false_ne_true, et, List.filter_append, List.filter_cons, if_neg (by rw [hc]; exact Bool.false_ne_true), List.filter_nil, List.append_nil]
      exact o3
  · rw [hl, List.take_length] at o
    obtain ⟨acc, k1, k2⟩ := o.has
    exact q Dl acc H' (fresh_back e1 o.new) (e1.trans o.ex) k1 k2
/-- the ints lo, lo + 1, .. -/
def rgI (lo : Int) (n : Nat) : List Int := (List.range n).map fun i : Nat => lo + (i : Int)
theorem rgI_len (lo : Int) (n : Nat) : (rgI lo n).length = n := by unfold rgI; rw [List.length_map, List.length_range]
theorem rgI_get {lo : Int} {n i : Nat} (h : i < n) : (rgI lo n)[i]? = some (lo + (i : Int)) := by
  unfold rgI
  rw [List.getElem?_map, List.getElem?_range h]
  rfl
theorem mem_rgI {lo : Int} {n : Nat} {x : Int} : x ∈ rgI lo n ↔ lo ≤ x ∧ x < lo + (n : Int) := by
  unfold rgI
  constructor
  · intro h
    obtain ⟨i, hi, rfl⟩ := List.mem_map.mp h
    rw [List.mem_range] at hi
    omega
  · intro h
    exact List.mem_map.mpr ⟨(x - lo).toNat, List.mem_range.mpr (by omega), by omega⟩
theorem rgI_snoc (lo : Int) (n : Nat) : rgI lo (n + 1) = rgI lo n ++ [lo + (n : Int)] := by
  unfold rgI
  rw [List.range_succ, List.map_append]
  rfl
/-- a comprehension's turns over ints -/
theorem lcR_core {vs : List Nat} {tt : TT} {lo : Int} {n : Nat} {H0 H1 : Hp} {Dl : Addr} {Qd : Hp → Prop} (c : Int → Bool) (y : Int → PyData) (hz : n ≤ 50000) (e : Ex H H1) (hD : H1 Dl = none)
    (turn : ∀ x H1, lo ≤ x → x < lo + (n : Int) → Ex H H1 → ∃ σ2, (∀ Q : L2.St → Hp → Prop, Q σ2 H1 → g (.int x) (wipe σ vs) H1 Q) ∧ wipe σ2 vs = wipe σ vs ∧ EvT tt σ2 H1 (c x) ∧ (c x = true → EvD te σ2 H1 (y x)))
    (im : ∀ x, lo ≤ x → x < lo + (n : Int) → c x = true → imm (y x) = true) (q : ∀ H', Own H1 H' Dl (((rgI lo n).filter c).map y) → Qd H') :
    ∃ W : Nat → Nat → Hp → Prop, (∃ m, W 0 m (upd H1 Dl (.lst []))) ∧ ∀ i m H, W i m H →
      ((Itr lo n).stop i H ∧ Qd H) ∨ ((Itr lo n).go i H ∧ ∃ Nx : Hp → Prop, (∀ H', Nx H' → ∃ m', m' < m ∧ W (i + 1) m' H') ∧ ∀ x H', (Itr lo n).yld i H x H' → g x (wipe σ vs) H' fun σ2 H2 => wipe σ2 vs = wipe σ vs ∧ tt σ2 H2 fun b H3 =>
        if b = true then te σ2 H3 fun y H4 => ∃ acc, H4 Dl = some (.lst acc) ∧ acc.length < sizeLine ∧ Nx (upd H4 Dl (.lst (acc ++ [y]))) else Nx H3) := by
  refine lc_range (lo := lo) (n := n) (fun i H' => Own H1 H' Dl (((rgI lo i).filter c).map y)) ⟨hD, Ex.new hD, ⟨[], upd_same, RpA.nil⟩, rfl⟩ (fun i H' hi o => ?_) fun H' o => q H' o
  obtain ⟨σ2, g1, g2, g3, g4⟩ := turn (lo + (i : Int)) H' (by omega) (by omega) (e.trans o.ex)
  refine g1 _ ⟨g2, g3 H' (Ex.refl H') _ fun H3 e3 => ?_⟩
  have o3 := o.step e3
  cases hc : c (lo + (i : Int)) with
  | true =>
    rw [if_pos rfl]
    refine g4 hc H3 e3 _ fun w H4 e4 r4 => ?_
    obtain ⟨acc, k1, k2⟩ := (o3.step e4).has
    have kt : KT H4 (upd H4 Dl (.lst (acc ++ [w]))) := KT.lst k1
    have i1 := im (lo + (i : Int)) (by omega) (by omega) hc
    have hb : acc.length ≤ i := by
      rw [k2.len, List.length_map]
      exact Nat.le_trans (List.length_filter_le _ _) (by rw [rgI_len]; omega)
    refine ⟨acc, k1, sz_lt (by omega), o.new, Ex.mut (o3.step e4).ex o.new, ⟨_, upd_same, ?_⟩, ?_⟩
    · rw [rgI_snoc, List.filter_append, List.filter_cons, if_pos hc, List.map_append]
      exact (RpA.keep kt o.im k2).snoc (Rp.keep kt i1 r4)
    · rw [rgI_snoc, List.filter_append, List.filter_cons, if_pos hc, List.map_append]
      exact immA_app o.im (immA_one i1)
  | false =>
    rw [if_neg Bool.false_ne_true, rgI_snoc, List.filter_append, List.filter_cons, if_neg (by rw [hc]; exact Bool.false_ne_true), List.filter_nil, List.append_nil]
    exact o3
/-- over range(n) -/
theorem evn_lcR {vs : List Nat} {tt : TT} {ta : TA} {n : Int} (c : Int → Bool) (y : Int → PyData) (h : EvS ta σ H [.int n]) (hz : -50000 ≤ n ∧ n ≤ 50000)
    (turn : ∀ x H1, 0 ≤ x → x < n → Ex H H1 → ∃ σ2, (∀ Q : L2.St → Hp → Prop, Q σ2 H1 → g (.int x) (wipe σ vs) H1 Q) ∧ wipe σ2 vs = wipe σ vs ∧ EvT tt σ2 H1 (c x) ∧ (c x = true → EvD te σ2 H1 (y x)))
    (im : ∀ x, 0 ≤ x → x < n → c x = true → imm (y x) = true) : EvN (tLc (iRng1 ta) g tt te vs) σ H (((rgI 0 n.toNat).filter c).map y) := fun H0 e0 Q q => h H0 e0 _ fun ws H1 e1 r => by
  obtain rfl : ws = [.int n] := RpA.ints (ns := [n]) r
  refine ⟨n, rfl, by omega, by omega, fun Dl hD => lcR_core (H := H) (H0 := H0) c y (by omega) (e0.trans e1) hD (fun x H2 l1 l2 e2 => turn x H2 l1 (by omega) e2) (fun x l1 l2 => im x l1 (by omega)) fun H' o => ?_⟩
  obtain ⟨acc, k1, k2⟩ := o.has
  exact q Dl acc H' (fresh_back e1 o.new) (e1.trans o.ex) k1 k2
/-- over range(lo, n) -/
theorem evn_lcR2 {vs : List Nat} {tt : TT} {ta : TA} {lo n : Int} (c : Int → Bool) (y : Int → PyData) (h : EvS ta σ H [.int lo, .int n]) (hz : -20000 ≤ lo ∧ lo ≤ 20000 ∧ -20000 ≤ n ∧ n ≤ 20000)
    (turn : ∀ x H1, lo ≤ x → x < n → Ex H H1 → ∃ σ2, (∀ Q : L2.St → Hp → Prop, Q σ2 H1 → g (.int x) (wipe σ vs) H1 Q) ∧ wipe σ2 vs = wipe σ vs ∧ EvT tt σ2 H1 (c x) ∧ (c x = true → EvD te σ2 H1 (y x)))
    (im : ∀ x, lo ≤ x → x < n → c x = true → imm (y x) = true) : EvN (tLc (iRng2 ta) g tt te vs) σ H (((rgI lo (n - lo).toNat).filter c).map y) := fun H0 e0 Q q => h H0 e0 _ fun ws H1 e1 r => by
  obtain rfl : ws = [.int lo, .int n] := RpA.ints (ns := [lo, n]) r
  refine ⟨lo, n, rfl, ⟨by omega, by omega, by omega, by omega⟩, fun Dl hD => lcR_core (H := H) (H0 := H0) c y (by omega) (e0.trans e1) hD (fun x H2 l1 l2 e2 => turn x H2 l1 (by omega) e2) (fun x l1 l2 => im x l1 (by omega)) fun H' o => ?_⟩
  obtain ⟨acc, k1, k2⟩ := o.has
  exact q Dl acc H' (fresh_back e1 o.new) (e1.trans o.ex) k1 k2
theorem et_yes : EvT tYes σ H true := fun H1 _ _ q => q H1 (Ex.refl H1)
end
end Bm

/-! Sequences as data: equality, in, len, items, slices, index, isinstance, list(..), tuple(..), int(..), +. -/
namespace Bm
open PySem PySem.Spec PyProof.Rows L2 Evl

/-! ### equality of data without bools -/
mutual
def pure1 : PyData → Bool
  | .int _ => true
  | .str _ => true
  | .none => true
  | .tuple ds => pureA ds
  | .list ds => pureA ds
  | _ => false
def pureA : List PyData → Bool
  | [] => true
  | d :: ds => pure1 d && pureA ds
end
mutual
theorem eqv_pure : ∀ (d e : PyData), pure1 d = true → pure1 e = true → (PyData.eqv d e = true ↔ d = e)
  | .int i, e, _, h => by cases e <;> simp_all [PyData.eqv, pure1]
  | .str i, e, _, h => by cases e <;> simp_all [PyData.eqv, pure1]
  | .none, e, _, h => by cases e <;> simp_all [PyData.eqv, pure1]
  | .tuple ds, e, h', h => by
    cases e with
    | tuple es => rw [PyData.eqv, eqvA_pure ds es (by simpa [pure1] using h') (by simpa [pure1] using h)]; simp
    | _ => simp [PyData.eqv]
  | .list ds, e, h', h => by
    cases e with
    | list es => rw [PyData.eqv, eqvA_pure ds es (by simpa [pure1] using h') (by simpa [pure1] using h)]; simp
    | _ => simp [PyData.eqv]
  | .bool _, _, h, _ => by simp [pure1] at h
  | .dict _, _, h, _ => by simp [pure1] at h
theorem eqvA_pure : ∀ (ds es : List PyData), pureA ds = true → pureA es = true → (PyData.eqvAll ds es = true ↔ ds = es)
  | [], [], _, _ => by simp [PyData.eqvAll]
  | [], _ :: _, _, _ => by simp [PyData.eqvAll]
  | _ :: _, [], _, _ => by simp [PyData.eqvAll]
  | d :: ds, e :: es, h, h' => by
    rw [pureA, Bool.and_eq_true] at h h'
    rw [PyData.eqvAll, Bool.and_eq_true, eqv_pure d e h.1 h'.1, eqvA_pure ds es h.2 h'.2, List.cons.injEq]
end
theorem pureA_iff : ∀ {ds : List PyData}, pureA ds = true ↔ ∀ d ∈ ds, pure1 d = true
  | [] => by simp [pureA]
  | d :: ds => by rw [pureA, Bool.and_eq_true, pureA_iff (ds := ds), List.forall_mem_cons]
theorem canLayA : ∀ {ds : List PyData}, (∀ d ∈ ds, d.canLay0 = true) → PyData.canLayAll0 ds = true
  | [], _ => by rw [PyData.canLayAll0]
  | d :: ds, h => by
    rw [PyData.canLayAll0, Bool.and_eq_true]
    exact ⟨h d List.mem_cons_self, canLayA fun x m => h x (List.mem_cons_of_mem _ m)⟩
theorem depthA : ∀ {ds : List PyData} {n : Nat}, (∀ d ∈ ds, d.depth ≤ n) → PyData.depthAll ds ≤ n
  | [], n, _ => by rw [PyData.depthAll]; exact Nat.zero_le _
  | d :: ds, n, h => by
    rw [PyData.depthAll]
    exact Nat.max_le.mpr ⟨h d List.mem_cons_self, depthA fun x m => h x (List.mem_cons_of_mem _ m)⟩
/-- data that may be compared: its depth at most n, no bool in it -/
structure Cmp (n : Nat) (d : PyData) : Prop where
  p : pure1 d = true
  l : d.canLay0 = true
  d : d.depth ≤ n
theorem Cmp.int (i : Int) : Cmp 0 (.int i) := ⟨rfl, by rw [PyData.canLay0], by rw [PyData.depth]; exact Nat.le_refl _⟩
theorem Cmp.non : Cmp 0 .none := ⟨rfl, by rw [PyData.canLay0], by rw [PyData.depth]; exact Nat.le_refl _⟩
theorem Cmp.mono {n m : Nat} {d : PyData} (h : Cmp n d) (e : n ≤ m) : Cmp m d := ⟨h.p, h.l, Nat.le_trans h.d e⟩
theorem Cmp.tup {n : Nat} {ds : List PyData} (h : ∀ d ∈ ds, Cmp n d) : Cmp (n + 1) (.tuple ds) :=
  ⟨pureA_iff.mpr fun d m => (h d m).p, by rw [PyData.canLay0]; exact canLayA fun d m => (h d m).l, by rw [PyData.depth]; exact Nat.succ_le_succ (depthA fun d m => (h d m).d)⟩
theorem Cmp.lst {n : Nat} {ds : List PyData} (h : ∀ d ∈ ds, Cmp n d) : Cmp (n + 1) (.list ds) :=
  ⟨pureA_iff.mpr fun d m => (h d m).p, by rw [PyData.canLay0]; exact canLayA fun d m => (h d m).l, by rw [PyData.depth]; exact Nat.succ_le_succ (depthA fun d m => (h d m).d)⟩
theorem mem_map_of {α : Type} {f : α → PyData} {P : PyData → Prop} {xs : List α} (h : ∀ x ∈ xs, P (f x)) : ∀ d ∈ xs.map f, P d := fun d m => by
  obtain ⟨x, hx, rfl⟩ := List.mem_map.mp m
  exact h x hx
theorem cmp_iD (ns : List Int) : Cmp 1 (iD ns) := Cmp.tup (mem_map_of fun i _ => Cmp.int i)
theorem cmp_iL (ns : List Int) : Cmp 1 (iL ns) := Cmp.lst (mem_map_of fun i _ => Cmp.int i)
theorem cmp_pD (p : Int × Int) : Cmp 1 (pD p) := cmp_iD [p.1, p.2]
theorem cmp_vD (vs : List (List Int)) : Cmp 2 (vD vs) := Cmp.lst (mem_map_of fun i _ => cmp_iD i)
theorem cmp_wD (vs : List (Int × Int)) : Cmp 2 (wD vs) := Cmp.lst (mem_map_of fun i _ => cmp_pD i)
theorem Cmp.shaped {n : Nat} {d : PyData} (h : Cmp n d) (hn : n ≤ 64) : SeqAt.shaped d = true := by
  show (d.canLay0 && decide (d.depth ≤ 64)) = true
  rw [h.l, decide_eq_true (Nat.le_trans h.d hn)]
  rfl
theorem eqv_dec {d e : PyData} {P : Prop} [Decidable P] {n m : Nat} (h : Cmp n d) (h' : Cmp m e) (i : d = e ↔ P) : PyData.eqv d e = decide P := by
  have q := (eqv_pure d e h.p h'.p).trans i
  by_cases p : P
  · rw [decide_eq_true p, q.mpr p]
  · rw [decide_eq_false p]
    exact Bool.eq_false_iff.mpr fun z => p (q.mp z)
theorem int_inj : ∀ {i j : Int}, PyData.int i = PyData.int j → i = j := fun h => PyData.int.inj h
theorem map_inj {α : Type} {f : α → PyData} (h : ∀ x y, f x = f y → x = y) : ∀ {xs ys : List α}, xs.map f = ys.map f → xs = ys
  | [], [], _ => rfl
  | [], _ :: _, e => by cases e
  | _ :: _, [], e => by cases e
  | x :: xs, y :: ys, e => by
    rw [List.map_cons, List.map_cons, List.cons.injEq] at e
    rw [h x y e.1, map_inj h e.2]
theorem iD_inj {a b : List Int} (h : iD a = iD b) : a = b := map_inj (fun _ _ => int_inj) (PyData.tuple.inj h)
theorem iL_inj {a b : List Int} (h : iL a = iL b) : a = b := map_inj (fun _ _ => int_inj) (PyData.list.inj h)
theorem pD_inj {a b : Int × Int} (h : pD a = pD b) : a = b := by
  have e := iD_inj (a := [a.1, a.2]) (b := [b.1, b.2]) h
  cases a; cases b
  simp at e
  rw [e.1, e.2]
theorem vD_inj {a b : List (List Int)} (h : vD a = vD b) : a = b := map_inj (fun _ _ => iD_inj) (PyData.list.inj h)
theorem wD_inj {a b : List (Int × Int)} (h : wD a = wD b) : a = b := map_inj (fun _ _ => pD_inj) (PyData.list.inj h)

section
variable {K : PySem.W.Frag} {σ : L2.St} {H H' : Hp} {ta tb te tl : TE} {d e x y z : PyData} {ds es : List PyData} {P : Prop} [Decidable P] {n m : Nat}
theorem rd_eqD (h : Cmp n d) (h' : Cmp m e) (i : d = e ↔ P) (hn : n ≤ 64 := by decide) (hm : m ≤ 64 := by decide) : RD (rEqD K) d e H (.bool (decide P)) := rd_val fun H1 v u ex r1 r2 =>
  ⟨.bl (decide P), rfl, fun Q q => ⟨d, e, r1.dp, r2.dp, h.shaped hn, h'.shaped hm, by rw [eqv_dec h h' i]; exact q⟩⟩
theorem rd_neD (h : Cmp n d) (h' : Cmp m e) (i : d = e ↔ P) (hn : n ≤ 64 := by decide) (hm : m ≤ 64 := by decide) : RD (rNeD K) d e H (.bool (!decide P)) := rd_val fun H1 v u ex r1 r2 =>
  ⟨.bl (!decide P), rfl, fun Q q => ⟨d, e, r1.dp, r2.dp, h.shaped hn, h'.shaped hm, by rw [eqv_dec h h' i]; exact q⟩⟩
theorem rd_eqV {a b : List (List Int)} : RD (rEqD K) (vD a) (vD b) H (.bool (decide (a = b))) := rd_eqD (cmp_vD a) (cmp_vD b) ⟨vD_inj, fun e => by rw [e]⟩
theorem rd_neV {a b : List (List Int)} : RD (rNeD K) (vD a) (vD b) H (.bool (!decide (a = b))) := rd_neD (cmp_vD a) (cmp_vD b) ⟨vD_inj, fun e => by rw [e]⟩
theorem rd_eqW {a b : List (Int × Int)} : RD (rEqD K) (wD a) (wD b) H (.bool (decide (a = b))) := rd_eqD (cmp_wD a) (cmp_wD b) ⟨wD_inj, fun e => by rw [e]⟩
theorem rd_neW {a b : List (Int × Int)} : RD (rNeD K) (wD a) (wD b) H (.bool (!decide (a = b))) := rd_neD (cmp_wD a) (cmp_wD b) ⟨wD_inj, fun e => by rw [e]⟩
theorem rd_eqIL {a b : List Int} : RD (rEqD K) (iL a) (iL b) H (.bool (decide (a = b))) := rd_eqD (cmp_iL a) (cmp_iL b) ⟨iL_inj, fun e => by rw [e]⟩
theorem rd_neIL {a b : List Int} : RD (rNeD K) (iL a) (iL b) H (.bool (!decide (a = b))) := rd_neD (cmp_iL a) (cmp_iL b) ⟨iL_inj, fun e => by rw [e]⟩
theorem rd_eqID {a b : List Int} : RD (rEqD K) (iD a) (iD b) H (.bool (decide (a = b))) := rd_eqD (cmp_iD a) (cmp_iD b) ⟨iD_inj, fun e => by rw [e]⟩
theorem rd_neID {a b : List Int} : RD (rNeD K) (iD a) (iD b) H (.bool (!decide (a = b))) := rd_neD (cmp_iD a) (cmp_iD b) ⟨iD_inj, fun e => by rw [e]⟩

/-! ### in -/
theorem inV_ints (k : Int) : ∀ ns : List Int, inV (.int k) (ns.map V.int) = decide (k ∈ ns)
  | [] => rfl
  | n :: ns => by
    have ih := inV_ints k ns
    show (eqV (.int n) (.int k) || inV (.int k) (ns.map V.int)) = _
    rw [ih, show eqV (.int n) (.int k) = (n == k) from rfl]
    by_cases h : n = k
    · subst h; simp
    · have h2 : ¬ k = n := fun z => h z.symm
      simp [h, h2]
def rInF (K : PySem.W.Frag) : R2 := rIn K false
def rNiF (K : PySem.W.Frag) : R2 := rIn K true
theorem op_inF {X : Cx} : OpR X (compareOp .In) (rInF X.K) := op_in_seq
theorem op_niF {X : Cx} : OpR X (compareOp .NotIn) (rNiF X.K) := op_notIn_seq
theorem rd_inIL {k : Int} {ns : List Int} : RD (rInF K) (.int k) (iL ns) H (.bool (decide (k ∈ ns))) := rd_val fun H1 v u ex r1 r2 => by
  obtain rfl : v = .int k := r1
  obtain ⟨a, rfl, h⟩ := r2.iL
  exact ⟨.bl (decide (k ∈ ns)), rfl, fun Q q => ⟨a, _, rfl, .inl (SqL.of h), rfl, flat_ints ns, by rw [if_neg (by decide), inV_ints]; exact q⟩⟩
theorem rd_niIL {k : Int} {ns : List Int} : RD (rNiF K) (.int k) (iL ns) H (.bool (!decide (k ∈ ns))) := rd_val fun H1 v u ex r1 r2 => by
  obtain rfl : v = .int k := r1
  obtain ⟨a, rfl, h⟩ := r2.iL
  exact ⟨.bl (!decide (k ∈ ns)), rfl, fun Q q => ⟨a, _, rfl, .inl (SqL.of h), rfl, flat_ints ns, by rw [if_pos rfl, inV_ints]; exact q⟩⟩
theorem rd_inID {k : Int} {ns : List Int} : RD (rInF K) (.int k) (iD ns) H (.bool (decide (k ∈ ns))) := rd_val fun H1 v u ex r1 r2 => by
  obtain rfl : v = .int k := r1
  obtain ⟨a, o, rfl, h, _⟩ := r2.iD
  exact ⟨.bl (decide (k ∈ ns)), rfl, fun Q q => ⟨a, _, rfl, .inr (.inl (.inr ⟨o, h⟩)), rfl, flat_ints ns, by rw [if_neg (by decide), inV_ints]; exact q⟩⟩
theorem rd_niID {k : Int} {ns : List Int} : RD (rNiF K) (.int k) (iD ns) H (.bool (!decide (k ∈ ns))) := rd_val fun H1 v u ex r1 r2 => by
  obtain rfl : v = .int k := r1
  obtain ⟨a, o, rfl, h, _⟩ := r2.iD
  exact ⟨.bl (!decide (k ∈ ns)), rfl, fun Q q => ⟨a, _, rfl, .inr (.inl (.inr ⟨o, h⟩)), rfl, flat_ints ns, by rw [if_pos rfl, inV_ints]; exact q⟩⟩
theorem any_eqv {α : Type} [DecidableEq α] {f : α → PyData} {k : Nat} (hc : ∀ a, Cmp k (f a)) (hi : ∀ a b, f a = f b → a = b) (x : α) : ∀ xs : List α, (xs.map f).any (fun z => PyData.eqv z (f x)) = decide (x ∈ xs)
  | [] => rfl
  | a :: xs => by
    rw [List.map_cons, List.any_cons, any_eqv hc hi x xs, eqv_dec (P := a = x) (hc a) (hc x) ⟨hi a x, fun e => by rw [e]⟩]
    by_cases h : a = x
    · subst h; simp
    · have h2 : ¬ x = a := fun z => h z.symm
      simp [h, h2]
/-- a pair in a web -/
theorem rd_inW {p : Int × Int} {ps : List (Int × Int)} : RD (rInD K) (pD p) (wD ps) H (.bool (decide (p ∈ ps))) := rd_val fun H1 v u ex r1 r2 =>
  ⟨.bl (decide (p ∈ ps)), rfl, fun Q q => ⟨pD p, ps.map pD, r1.dp, r2.dp, (cmp_pD p).shaped (by decide), (cmp_wD ps).shaped (by decide), by rw [show ((ps.map pD).any fun z => PyData.eqv z (pD p)) = decide (p ∈ ps) from (any_eqv cmp_pD (fun a b => pD_inj) p ps).trans (decide_eq_decide.mpr Iff.rfl)]; exact q⟩⟩

/-! ### len, items, slices -/
theorem cr_len {X : Cx} : CallR X (.builtin "len") (rLenS X.K) := call_len_seq
theorem cd_lenL : CD (rLenS K) [.list ds] H (.int ds.length) := fun H1 vs e r Q q => by
  obtain ⟨v, w, rfl, ⟨a, xs, rfl, h1, h2⟩, rfl⟩ := r
  exact ⟨a, xs, rfl, .inl (SqL.of h1), by rw [h2.len]; exact q _ H1 (Ex.refl H1) rfl⟩
theorem cd_lenT : CD (rLenS K) [.tuple ds] H (.int ds.length) := fun H1 vs e r Q q => by
  obtain ⟨v, w, rfl, ⟨a, xs, o, rfl, h1, _, h2⟩, rfl⟩ := r
  exact ⟨a, xs, rfl, .inr (.inl (.inr ⟨o, h1⟩)), by rw [h2.len]; exact q _ H1 (Ex.refl H1) rfl⟩
theorem atI_rp {vs : List V} {i : Int} (r : RpA H ds vs) (h : atI ds i = some d) : ∃ v, atI vs i = some v ∧ Rp H d v := by
  unfold atI at h ⊢
  rw [r.len]
  cases e : ixN ds.length i with
  | none => rw [e] at h; cases h
  | some j =>
    rw [e] at h
    exact r.get h
theorem atI_map {α β : Type} {f : α → β} {xs : List α} {i : Int} {x : α} (h : atI xs i = some x) : atI (xs.map f) i = some (f x) := by
  unfold atI at h ⊢
  rw [List.length_map]
  cases e : ixN xs.length i with
  | none => rw [e] at h; cases h
  | some j =>
    rw [e] at h
    show (xs.map f)[j]? = _
    have h2 : xs[j]? = some x := h
    rw [List.getElem?_map, h2]
    rfl
theorem rd_ixL {i : Int} (h : atI ds i = some d) : RD (rIxL K) (.list ds) (.int i) H d := rd_val fun H1 v u ex r1 r2 => by
  obtain rfl : u = .int i := r2
  obtain ⟨a, xs, rfl, h1, h2⟩ := r1
  obtain ⟨w, q1, q2⟩ := atI_rp h2 h
  exact ⟨w, q2, fun Q q => ⟨a, xs, i, w, rfl, rfl, SqL.of h1, q1, q⟩⟩
theorem rd_ixT {i : Int} (h : atI ds i = some d) : RD (rIxT K) (.tuple ds) (.int i) H d := rd_val fun H1 v u ex r1 r2 => by
  obtain rfl : u = .int i := r2
  obtain ⟨a, xs, o, rfl, h1, _, h2⟩ := r1
  obtain ⟨w, q1, q2⟩ := atI_rp h2 h
  exact ⟨w, q2, fun Q q => ⟨a, xs, i, w, rfl, rfl, .inl (.inr ⟨o, h1⟩), q1, q⟩⟩
/-- a part of a list -/
def cutA {α : Type} (xs : List α) (lo hi : Option Int) : List α := (xs.drop (HT.sIx xs.length 0 lo)).take (HT.sIx xs.length xs.length hi - HT.sIx xs.length 0 lo)
theorem cutA_rp {vs : List V} (r : RpA H ds vs) (lo hi : Option Int) : RpA H (cutA ds lo hi) (cutV vs lo hi) := by
  unfold cutA cutV
  rw [r.len]
  exact (r.drop _).take _
theorem cutA_map {α β : Type} (f : α → β) (xs : List α) (lo hi : Option Int) : cutA (xs.map f) lo hi = (cutA xs lo hi).map f := by
  unfold cutA
  rw [List.length_map, List.map_take, List.map_drop]
theorem cutA_to {α : Type} (xs : List α) (k : Nat) : cutA xs none (some (k : Int)) = xs.take k := by
  unfold cutA
  rw [HT.sIx_none, HT.sIx_nat, List.drop_zero, Nat.sub_zero]
  by_cases h : k ≤ xs.length
  · rw [Nat.min_eq_left h]
  · rw [Nat.min_eq_right (by omega), List.take_length, List.take_of_length_le (by omega)]
theorem cutA_from {α : Type} (xs : List α) (k : Nat) : cutA xs (some (k : Int)) none = xs.drop k := by
  unfold cutA
  rw [HT.sIx_none, HT.sIx_nat]
  by_cases h : k ≤ xs.length
  · rw [Nat.min_eq_left h, List.take_of_length_le (by rw [List.length_drop]; omega)]
  · rw [Nat.min_eq_right (by omega), List.drop_of_length_le (Nat.le_refl _), List.drop_of_length_le (by omega), List.take_nil]
def EvP (to : TO) (σ : L2.St) (H : Hp) (o : Option Int) : Prop := ∀ H1, Ex H H1 → ∀ Q : Option Int → Hp → Prop, (∀ H2, Ex H1 H2 → Q o H2) → to σ H1 Q
theorem evp_none : EvP tNoPart σ H none := fun H1 _ _ q => q H1 (Ex.refl H1)
theorem evp_some {i : Int} (h : EvD te σ H (.int i)) : EvP (tPart te) σ H (some i) := fun H1 e _ q => h H1 e _ fun v H2 e2 r => ⟨i, r, q H2 e2⟩
theorem evn_slL {tl th : TO} {lo hi : Option Int} (h : EvD te σ H (.list ds)) (h1 : EvP tl σ H lo) (h2 : EvP th σ H hi) : EvN (tSl (rSlL K) te tl th) σ H (cutA ds lo hi) := fun H0 e Q q =>
  h H0 e _ fun v H2 e2 r => h1 H2 (e.trans e2) _ fun H3 e3 => h2 H3 ((e.trans e2).trans e3) _ fun H4 e4 => by
    obtain ⟨a, xs, rfl, k1, k2⟩ := r
    have e24 := e3.trans e4
    exact ⟨a, xs, rfl, SqL.of (e24 _ _ k1), fun p hp => q p _ _ (fresh_back (e2.trans e24) hp) ((e2.trans e24).trans (Ex.new hp)) upd_same ((cutA_rp (k2.ex e24) lo hi).ex (Ex.new hp))⟩
/-! ### + and * of lists, + of tuples -/
theorem evn_cat (ha : EvD ta σ H (.list ds)) (hb : EvD tb σ H (.list es)) (hz : ds.length + es.length ≤ 100000) : EvN (tOp rCat ta tb) σ H (ds ++ es) := fun H0 e Q q =>
  ha H0 e _ fun v H2 e2 r2 => hb H2 (e.trans e2) _ fun u H3 e3 r3 => by
    obtain ⟨a, xs, rfl, k1, k2⟩ := r2.ex e3
    obtain ⟨b, ys, rfl, k3, k4⟩ := r3
    exact ⟨a, b, xs, ys, rfl, rfl, k1, k3, sz_of (by rw [k2.len, k4.len]; exact hz), fun p hp => q p _ _ (fresh_back (e2.trans e3) hp) ((e2.trans e3).trans (Ex.new hp)) upd_same ((k2.app k4).ex (Ex.new hp))⟩
theorem evn_rep {k : Int} (ha : EvD ta σ H (.list ds)) (hb : EvD tb σ H (.int k)) (hk : 0 ≤ k ∧ k ≤ 1000) (hz : ds.length ≤ 1000) : EvN (tOp rRep ta tb) σ H (List.replicate k.toNat ds).flatten := fun H0 e Q q =>
  ha H0 e _ fun v H2 e2 r2 => hb H2 (e.trans e2) _ fun u H3 e3 r3 => by
    obtain rfl : u = .int k := r3
    obtain ⟨a, xs, rfl, k1, k2⟩ := r2.ex e3
    have hm : xs.length * k.toNat ≤ 1000 * 1000 := Nat.mul_le_mul (by rw [k2.len]; exact hz) (by omega)
    refine ⟨a, k, xs, rfl, rfl, k1, by omega, by omega, Nat.le_trans hm (by decide), fun p hp => ?_⟩
    exact q p _ _ (fresh_back (e2.trans e3) hp) ((e2.trans e3).trans (Ex.new hp)) upd_same ((k2.rep k.toNat).ex (Ex.new hp))
theorem evd_catT (ha : EvD ta σ H (.tuple ds)) (hb : EvD tb σ H (.tuple es)) (hz : ds.length + es.length ≤ 100000) : EvD (tOp (rCatF K) ta tb) σ H (.tuple (ds ++ es)) := fun H0 e Q q =>
  ha H0 e _ fun v H2 e2 r2 => hb H2 (e.trans e2) _ fun u H3 e3 r3 => by
    obtain ⟨a, xs, rfl, k1, k2⟩ := (r2.ex e3).seqT (K := K)
    obtain ⟨b, ys, rfl, k3, k4⟩ := r3.seqT (K := K)
    refine ⟨a, b, xs, ys, rfl, rfl, k1, k3, sz_of (by rw [k2.len, k4.len]; exact hz), fun z => ?_, fun z => ?_, fun p o hp ho => ?_⟩
    · have hd : ds = [] := List.eq_nil_of_length_eq_zero (by rw [← k2.len, z]; rfl)
      refine q _ H3 (e2.trans e3) ?_
      rw [hd]
      exact r3
    · have hd : es = [] := List.eq_nil_of_length_eq_zero (by rw [← k4.len, z]; rfl)
      refine q _ H3 (e2.trans e3) ?_
      rw [hd, List.append_nil]
      exact r2.ex e3
    · exact q _ _ ((e2.trans e3).trans (Ex.new hp)) ⟨p, _, o, rfl, upd_same, ho, (k2.app k4).ex (Ex.new hp)⟩
/-! ### list(..), tuple(..) -/
theorem cr_list {X : Cx} : CallR X (.type "list") (rListS X.K) := call_list_of
theorem cn_listL : CN (rListS K) [.list ds] H ds := fun H1 vs e r Q q => by
  obtain ⟨v, w, rfl, ⟨a, xs, rfl, h1, h2⟩, rfl⟩ := r
  exact ⟨a, xs, rfl, .inl (SqL.of h1), fun l hl => q l xs _ hl (Ex.new hl) upd_same (h2.ex (Ex.new hl))⟩
theorem cn_listT : CN (rListS K) [.tuple ds] H ds := fun H1 vs e r Q q => by
  obtain ⟨v, w, rfl, ⟨a, xs, o, rfl, h1, _, h2⟩, rfl⟩ := r
  exact ⟨a, xs, rfl, .inr (.inl (.inr ⟨o, h1⟩)), fun l hl => q l xs _ hl (Ex.new hl) upd_same (h2.ex (Ex.new hl))⟩
theorem cd_tupL : CD (rTupL K) [.list ds] H (.tuple ds) := fun H1 vs e r Q q => by
  obtain ⟨v, w, rfl, ⟨a, xs, rfl, h1, h2⟩, rfl⟩ := r
  exact ⟨a, xs, rfl, SqL.of h1, fun l o hl ho => q _ _ (Ex.new hl) ⟨l, xs, o, rfl, upd_same, ho, h2.ex (Ex.new hl)⟩⟩
theorem evn_rng {te2 : TE} {n : Int} (h : EvD te2 σ H (.int n)) (hz : 0 ≤ n ∧ n ≤ 100000) : EvN (tLstRg (tRg1 te2)) σ H ((rgI 0 n.toNat).map PyData.int) := fun H0 e Q q =>
  h H0 e _ fun v H2 e2 r => ⟨n, r, RgOk.of_le (by omega) (by omega) (by omega) (by omega), fun p hp => by
    have ev : rgV 0 n = (rgI 0 n.toNat).map V.int := by
      unfold rgV rgI
      rw [List.map_map, Int.sub_zero]
      rfl
    exact q p _ _ (fresh_back e2 hp) (e2.trans (Ex.new hp)) upd_same (by rw [ev]; exact rpa_ints _)⟩
/-! ### int(a bool), str(an int) -/
def rIntB : List V → Hp → VK → Prop := fun xs H Q => ∃ k, xs = [.bl k] ∧ Q (.int (if k then 1 else 0)) H
theorem cr_intB {X : Cx} : CallR X (.type "int") rIntB := fun pins s σ H xs us Q I r h => call_int1 pins s σ H xs us Q I r (.inr h)
theorem cd_intB {b : Bool} : CD rIntB [.bool b] H (.int (if b then 1 else 0)) := fun H1 vs e r Q q => by
  obtain ⟨v, w, rfl, rfl, rfl⟩ := r
  exact ⟨b, rfl, q _ H1 (Ex.refl H1) rfl⟩
/-! ### t.index(x) -/
/-- the first place of x -/
def ixOf (x : Int) : List Int → Nat
  | [] => 0
  | y :: ys => if y = x then 0 else ixOf x ys + 1
theorem ixOf_get {x : Int} : ∀ {ns : List Int}, x ∈ ns → ns[ixOf x ns]? = some x
  | [], h => by simp at h
  | y :: ys, h => by
    unfold ixOf
    by_cases e : y = x
    · rw [if_pos e, e]; rfl
    · rw [if_neg e]
      exact ixOf_get ((List.mem_cons.mp h).resolve_left fun z => e z.symm)
theorem ixOf_min {x : Int} : ∀ {ns : List Int} {m : Nat}, m < ixOf x ns → ns[m]? ≠ some x
  | [], m, h => by simp [ixOf] at h
  | y :: ys, m, h => by
    unfold ixOf at h
    by_cases e : y = x
    · rw [if_pos e] at h; omega
    · rw [if_neg e] at h
      cases m with
      | zero => exact fun z => e (Option.some.inj z)
      | succ m => exact ixOf_min (ns := ys) (m := m) (by omega)
theorem evd_tix {ns : List Int} {k : Int} (ho : EvD te σ H (iD ns)) (hk : EvD tl σ H (.int k)) (m : k ∈ ns) : EvD (tTM (rIxI K) te (tCons tl tNil)) σ H (.int (ixOf k ns)) := fun H0 e Q q =>
  ho H0 e _ fun v H2 e2 r => by
    obtain ⟨a, o, rfl, h1, hd⟩ := r.iD
    exact ⟨⟨a, o, _, rfl, h1, hd⟩, hk H2 (e.trans e2) _ fun u H3 e3 r3 => by
      obtain rfl : u = .int k := r3
      exact ⟨a, ns, k, ixOf k ns, rfl, rfl, .inl (.inr ⟨o, e3 _ _ h1⟩), ixOf_get m, fun m2 hm => ixOf_min hm, q _ H3 (e2.trans e3) rfl⟩⟩
/-! ### isinstance of built-in types -/
def tyN : PyData → String
  | .none => "NoneType"
  | .bool _ => "bool"
  | .int _ => "int"
  | .str _ => "str"
  | .list _ => "list"
  | .tuple _ => "tuple"
  | .dict _ => "dict"
theorem Rp.ty {v : V} : ∀ {d : PyData}, Rp H d v → TyX K H v (.type (tyN d))
  | .none, h => by cases h; exact .base .non
  | .bool _, h => by cases h; exact .base (.bl _)
  | .int _, h => by cases h; exact .base (.int _)
  | .str _, h => by cases h; exact .base (.str _)
  | .list _, h => by obtain ⟨a, xs, rfl, h1, _⟩ := h; exact .base (.lst h1)
  | .tuple _, h => by obtain ⟨a, xs, o, rfl, h1, _⟩ := h; exact .fTuple h1
  | .dict _, h => h.elim
theorem evd_isi {T : String} {b : Bool} (h : EvD te σ H d) (hb : kitB (tyN d) T = some b) : EvD (tCB (rIsi K) (tCons te (tCons (tC (.ty T)) tNil))) σ H (.bool b) := fun H0 e Q q =>
  h H0 e _ fun v H2 e2 r => ⟨v, .ty T, .type (tyN d), .type T, b, rfl, .ty T, r.ty, kit_ty hb, q _ H2 e2 rfl⟩
end
end Bm

/-! A def's promise by data; what stands behind the top. -/
namespace Bm
open PySem PySem.Spec PyProof.Rows L2 Evl

/-- a def's answer: data, a new list, an error of the class at C -/
inductive Out where
  | val (d : PyData)
  | new (ds : List PyData)
  | exc (C : Addr)
  | pair (s : Str) (ds : List PyData)
  | duo (i : Int) (ds : List PyData)
  | some (P : List PyData → Prop)
def Gives (H : Hp) (Q : VK) (E : XK) : Out → Prop
  | .val d => ∀ v H', Ex H H' → Rp H' d v → Q v H'
  | .new ds => ∀ p ws H', H p = none → Ex H H' → H' p = some (.lst ws) → RpA H' ds ws → Q (.ref p) H'
  | .exc C => ∀ H', Ex H H' → E (.ref C) none H'
  | .pair s ds => ∀ p ws a o H', H p = none → Ex H H' → H' p = some (.lst ws) → RpA H' ds ws → H' a = some (.frz o (.tup [.str s, .ref p])) → o.dict = none → Q (.ref a) H'
  | .duo i ds => ∀ p ws a o H', H p = none → Ex H H' → H' p = some (.lst ws) → RpA H' ds ws → H' a = some (.frz o (.tup [.int i, .ref p])) → o.dict = none → Q (.ref a) H'
  | .some P => ∀ ds, P ds → ∀ p ws H', H p = none → Ex H H' → H' p = some (.lst ws) → RpA H' ds ws → Q (.ref p) H'
def spO {α : Type} (enc : α → List PyData) (pre : α → Prop) (out : α → Out) : Sp := fun vs H Q E => ∃ a : α, RpA H (enc a) vs ∧ pre a ∧ Gives H Q E (out a)
theorem spO_len {α : Type} {enc : α → List PyData} {pre : α → Prop} {out : α → Out} {n : Nat} (hn : ∀ a, (enc a).length = n) (vs : List V) (H : Hp) (Q : VK) (E : XK) (h : spO enc pre out vs H Q E) : vs.length = n := by
  obtain ⟨a, r, _⟩ := h
  rw [r.len, hn]
section
variable {K : PySem.W.Frag} {σ : L2.St} {H H' : Hp} {tr : TA} {d : PyData} {ds : List PyData} {E : XK} {α : Type} {enc : α → List PyData} {pre : α → Prop} {out : α → Out}
theorem evd_callO (a : α) (h : EvS tr σ H (enc a)) (hp : pre a) (ho : out a = .val d) : EvD (tCall (spO enc pre out) [] E tr) σ H d :=
  evd_call h fun H1 vs Q e r k => ⟨a, r, hp, by rw [ho]; exact k⟩
theorem evn_callO (a : α) (h : EvS tr σ H (enc a)) (hp : pre a) (ho : out a = .new ds) : EvN (tCall (spO enc pre out) [] E tr) σ H ds :=
  evn_call h fun H1 vs Q e r k => ⟨a, r, hp, by rw [ho]; exact k⟩
/-- a call that may raise, as a statement -/
theorem s_callX {D : Ends} {Es : L2.St → XK} (a : α) (h : EvS tr σ H (enc a)) (hp : pre a)
    (k : ∀ H1, Ex H H1 → Gives H1 (fun _ H2 => D.nx σ H2) (Es σ) (out a)) : tDrop (tCallS (spO enc pre out) Es tr) D σ H := h H (Ex.refl H) _ fun vs H1 e r => ⟨a, r, hp, k H1 e⟩
end
/-- a def of the text behind the top -/
structure Df (K : PySem.W.Frag) (mg : Str → Option Value) (x : Str) (st : Stmt) (ps : List Str) (f : Addr) (fd : FuncData) : Prop where
  F : Fun K x x st f fd
  b : Binds K fd ps []
  g : mg x = some (.ref f)
/-- an error class of the text behind the top -/
structure Xc (K : PySem.W.Frag) (mg : Str → Option Value) (x : Str) (C : Addr) : Prop where
  g : mg x = some (.ref C)
  x : PySem.W.excIn K C [.type "ValueError", .type "Exception", .type "BaseException", .type "object"] "ValueError.__new__" = true
  k : PySem.W.keepIn K (.ref C) = true
  b : PySem.W.subIn K (.ref C) (.type "BaseException") = some true
  t : PySem.W.typeIn K (.ref C) = some (.type "type")
/-- the built-ins' names are the built-ins' still -/
structure Bi (mg : Str → Option Value) : Prop where
  len : mg "len" = none
  range : mg "range" = none
  list : mg "list" = none
  tuple : mg "tuple" = none
  sorted : mg "sorted" = none
  int : mg "int" = none
  bool : mg "bool" = none
  str : mg "str" = none
  isinstance : mg "isinstance" = none
  reversed : mg "reversed" = none
  set : mg "set" = none
  all : mg "all" = none
  max : mg "max" = none
  min : mg "min" = none
  ValueError : mg "ValueError" = none
theorem rp_int {H : Hp} {i : Int} : Rp H (.int i) (.int i) := rfl
theorem rp_bl {H : Hp} {i : Bool} : Rp H (.bool i) (.bl i) := rfl
theorem rp_str {H : Hp} {i : Str} : Rp H (.str i) (.str i) := rfl
theorem rp_non {H : Hp} : Rp H .none .non := rfl
section
variable {K : PySem.W.Frag} {σ : L2.St} {H : Hp} {ta : TE}
def rNegI : V → Hp → VK → Prop := rU fun i => .int (-i)
theorem un_negI {X : Cx} : UnR X (unaryOp .USub) rNegI := un_neg
theorem evd_neg {i : Int} (h : EvD ta σ H (.int i)) : EvD (tUn rNegI ta) σ H (.int (-i)) := fun H1 e Q q => h H1 e _ fun v H2 e2 r => ⟨i, r, q _ H2 e2 rfl⟩
end
end Bm

/-! sorted of a tuple of ints, of a list of ints. -/
namespace Bm
open PySem PySem.Spec PyProof.Rows L2 Evl
/-- the same ints, rising -/
def insI (x : Int) : List Int → List Int
  | [] => [x]
  | y :: ys => if x ≤ y then x :: y :: ys else y :: insI x ys
def srt : List Int → List Int
  | [] => []
  | x :: xs => insI x (srt xs)
theorem insI_perm (x : Int) : ∀ ys : List Int, (insI x ys).Perm (x :: ys)
  | [] => .refl _
  | y :: ys => by
    unfold insI
    by_cases h : x ≤ y
    · rw [if_pos h]
    · rw [if_neg h]
      exact ((insI_perm x ys).cons y).trans (.swap x y ys)
theorem srt_perm : ∀ xs : List Int, (srt xs).Perm xs
  | [] => .refl _
  | x :: xs => (insI_perm x (srt xs)).trans ((srt_perm xs).cons x)
theorem insI_pw {x : Int} : ∀ {ys : List Int}, ys.Pairwise (· ≤ ·) → (insI x ys).Pairwise (· ≤ ·)
  | [], _ => by simp [insI]
  | y :: ys, h => by
    unfold insI
    obtain ⟨h1, h2⟩ := List.pairwise_cons.mp h
    by_cases e : x ≤ y
    · rw [if_pos e]
      refine List.pairwise_cons.mpr ⟨fun z m => ?_, h⟩
      rcases List.mem_cons.mp m with rfl | m
      · exact e
      · exact Int.le_trans e (h1 z m)
    · rw [if_neg e]
      refine List.pairwise_cons.mpr ⟨fun z m => ?_, insI_pw h2⟩
      rcases List.mem_cons.mp ((insI_perm x ys).mem_iff.mp m) with rfl | m
      · omega
      · exact h1 z m
theorem srt_pw : ∀ xs : List Int, (srt xs).Pairwise (· ≤ ·)
  | [] => .nil
  | _ :: xs => insI_pw (srt_pw xs)
theorem srt_of {a b : List Int} (h : a.Perm b) (p : a.Pairwise (· ≤ ·)) : a = srt b := PySem.W.ksm_same (h.trans (srt_perm b).symm) p (srt_pw b)
theorem srt_rgI (n : Nat) {lo : Int} {a : List Int} (h : a.Perm (rgI lo n)) : srt a = rgI lo n := by
  refine PySem.W.ksm_same ((srt_perm a).trans h) (srt_pw a) ?_
  unfold rgI
  rw [List.pairwise_map]
  exact List.pairwise_lt_range.imp fun {i j} l => by omega
theorem srt_iff {n : Nat} {lo : Int} {a : List Int} : srt a = rgI lo n ↔ a.Perm (rgI lo n) := ⟨fun h => by rw [← h]; exact (srt_perm a).symm, srt_rgI n⟩

section
variable {prog : Program} {w : World} {A : Around} {E : Value → Shared → Prop} {s : Shared}
theorem sortedTup {t : Addr} {vs : List Value} {ns : List Int} {Q : Value → Shared → Prop} (ht : IsTup s.heap t vs.toArray) (hz : vs.length ≤ sizeLine) (hi : IntsAre vs ns)
    (q : ∀ (h1 h2 : Heap) (out : List Value) (k : Nat), (∀ b o, s.heap.get? b = some o → h1.get? b = some o) → (∀ b o, h1.get? b = some o → h2.get? b = some o) → h2.get? h1.objs.size = some { cls := .type "list", data := .seq out.toArray k } → IntsAre out (srt ns) → Q (.ref h1.objs.size) { s with heap := h2 }) :
    wpAny (model prog w) A (call (.builtin "sorted") [.ref t]) Q E s := by
  obtain ⟨o, ho, hc, k, hd⟩ := ht
  refine Calls.call_function_entry kind_sorted plain_sorted entry_sorted (args_sorted1 _) ?_
  unfold Builtin.«sorted»
  refine wpAny_bind (m := checkCount "sorted" 1 1 _) (wpAny_pure ?_)
  refine wpAny_bind (wpAny_collect_seq t (.inr rfl) ho hc hd (fun h1 kp => ?_) (by rw [List.size_toArray]; exact hz))
  refine wpAny_bind (wpAny_newList ?_ hz)
  have at_ : (h1.push (seqObj "list" vs.toArray 0)).get? h1.objs.size = some (seqObj "list" vs.toArray 0) := Heap.get?_push_size _ rfl
  have kp2 : ∀ b u, h1.get? b = some u → (h1.push (seqObj "list" vs.toArray 0)).get? b = some u := fun b u e => Heap.get?_push_of_some _ e
  refine wpAny_bind (wpAny_holding (wpAny_call_entry slot_list_sort ⟨_, at_, rfl⟩ entry_list_sort (SrtO.list_sort_ord SrtO.swo_int at_ hz (fun h2 => SrtO.ints_sortable hi h2) fun out e1 e2 => ⟨_, rfl, ?_⟩) (args_list_sort _)))
  obtain ⟨i1, i2, i3⟩ := SrtO.ints_out hi e1 e2
  obtain ⟨ep, he⟩ := sortedHeap_at (vs := vs) (out := out.toArray) at_
  refine wpAny_pure ⟨_, rfl, q h1 _ out ep kp (fun b u e => ?_) he ?_⟩
  · have lt := Heap.lt_size e
    rw [sortedHeap_old (Nat.ne_of_lt lt) (Heap.lt_size (kp2 b u e))]
    exact kp2 b u e
  · rw [← srt_of i2 i3]
    exact i1
end
/-- sorted(a tuple of ints): a new list -/
def rSortTI (K : PySem.W.Frag) : List V → Hp → VK → Prop := fun vs H Q => ∃ (a : Addr) (ns : List Int), vs = [V.ref a] ∧ SqT K H a (ns.map V.int) ∧ ∀ p, H p = none → Q (.ref p) (upd H p (.lst ((srt ns).map V.int)))
section
variable {X : Cx} {K : PySem.W.Frag} {H : Hp}
theorem cr_sortedTI : CallR X (.builtin "sorted") (rSortTI X.K) := by
  intro pins s σ H vs us Q I r h
  obtain ⟨a, ns, rfl, hs, q⟩ := h
  obtain ⟨its, rv, pl, z⟩ := I.tuple hs
  rw [Vals.ref1 r]
  refine sortedTup pl (by rw [← rv.length]; exact z) rv.ints fun h1 h2 out k k1 k2 e i => ?_
  have J : Inv X pins σ H { s with heap := h1 } := I.kept (t' := s.toks) k1
  have zl : ((srt ns).map V.int).length ≤ sizeLine := by
    rw [List.length_map, (srt_perm ns).length_eq]
    rwa [List.length_map] at z
  exact ⟨.ref h1.objs.size, _, J.laid (t' := s.toks) k2 (Nat.le_refl _) (show ObjOk X.prog X.w _ _ _ (.lst ((srt ns).map V.int)) from ⟨zl, out, k, vals_of_ints i, e⟩), rfl, q _ (J.hok.fresh (Nat.le_refl _))⟩
theorem cn_sortTI {ns : List Int} : CN (rSortTI K) [iD ns] H ((srt ns).map PyData.int) := fun H1 vs e r Q q => by
  obtain ⟨v, t, rfl, hv, rfl⟩ := r
  obtain ⟨a, o, rfl, h1, _⟩ := hv.iD
  exact ⟨a, ns, rfl, .inl (.inr ⟨o, h1⟩), fun p hp => q p _ _ hp (Ex.new hp) upd_same (rpa_ints _)⟩
end
end Bm

/-! The script handed on; pop. -/
namespace Bm
open PySem PySem.Spec PyProof.Rows L2 Evl
/-- a def that gets the script first -/
def spS {α : Type} (K : PySem.W.Frag) (enc : α → List PyData) (pre : List Int → α → Prop) (out : List Int → α → Out) : Sp := fun vs H Q E => ∃ (ns : List Int) (a : α) (sa : Addr) (r : List V), vs = .ref sa :: r ∧ SqL K H sa (ns.map V.int) ∧ RpA H (enc a) r ∧ pre ns a ∧ Gives H Q E (out ns a)
section
variable {K : PySem.W.Frag} {σ : L2.St} {H H' : Hp} {ta tb te : TE} {tr : TA} {d : PyData} {ds : List PyData} {E : XK} {α : Type} {enc : α → List PyData} {pre : List Int → α → Prop} {out : List Int → α → Out} {ns : List Int} {sa : Addr} {i : Nat}
theorem evd_callS (a : α) (hs : SqL K H sa (ns.map V.int)) (hi : σ[i]? = some (some (.ref sa))) (h : EvS tr σ H (enc a)) (hp : pre ns a) (ho : out ns a = .val d) : EvD (tCall (spS K enc pre out) [] E (tCons (tVar i) tr)) σ H d := fun H1 e Q q =>
  ⟨.ref sa, hi, h H1 e _ fun vs H2 e2 r2 => by
    show spS K enc pre out (.ref sa :: vs ++ []) H2 Q E
    rw [List.append_nil]
    exact ⟨ns, a, sa, vs, rfl, ex_l (e.trans e2) hs, r2, hp, by rw [ho]; exact fun v H3 e3 r3 => q v H3 (e2.trans e3) r3⟩⟩
theorem evn_callS (a : α) (hs : SqL K H sa (ns.map V.int)) (hi : σ[i]? = some (some (.ref sa))) (h : EvS tr σ H (enc a)) (hp : pre ns a) (ho : out ns a = .new ds) : EvN (tCall (spS K enc pre out) [] E (tCons (tVar i) tr)) σ H ds := fun H1 e Q q =>
  ⟨.ref sa, hi, h H1 e _ fun vs H2 e2 r2 => by
    show spS K enc pre out (.ref sa :: vs ++ []) H2 Q E
    rw [List.append_nil]
    exact ⟨ns, a, sa, vs, rfl, ex_l (e.trans e2) hs, r2, hp, by rw [ho]; exact fun p ws H3 hp2 e3 h3 r3 => q p ws H3 (fresh_back e2 hp2) (e2.trans e3) h3 r3⟩⟩
theorem spS_len {n : Nat} (hn : ∀ a, (enc a).length = n) (vs : List V) (H : Hp) (Q : VK) (E : XK) (h : spS K enc pre out vs H Q E) : vs.length = n + 1 := by
  obtain ⟨ns, a, sa, r, rfl, _, h, _⟩ := h
  rw [List.length_cons, h.len, hn]
theorem evd_lenS (hs : SqL K H sa (ns.map V.int)) (hi : σ[i]? = some (some (.ref sa))) : EvD (tCB (rLenS K) (tCons (tVar i) tNil)) σ H (.int ns.length) := fun H1 e Q q =>
  ⟨.ref sa, hi, sa, _, rfl, .inl (ex_l e hs), by rw [List.length_map]; exact q _ H1 (Ex.refl H1) rfl⟩
theorem evd_ixS {k : Int} {z : Int} (hs : SqL K H sa (ns.map V.int)) (hi : σ[i]? = some (some (.ref sa))) (hk : EvD tb σ H (.int k)) (hz : atI ns k = some z) : EvD (tOp (rIxL K) (tVar i) tb) σ H (.int z) := fun H1 e Q q =>
  ⟨.ref sa, hi, hk H1 e _ fun v H2 e2 r => ⟨sa, _, k, .int z, rfl, r, ex_l (e.trans e2) hs, atI_map hz, q _ H2 e2 rfl⟩⟩
end
section
variable {K : PySem.W.Frag} {σ : L2.St} {H H0 : Hp} {D : Ends} {l : Addr} {ds : List PyData} {i : Nat}
/-- over a list that stood at Hb, whatever is made since -/
theorem s_forB {g : TG} {tu : TS} {α : Type} {f : α → PyData} {xs : List α} {v : V} {Hb : Hp} (hi : σ[i]? = some (some v)) (hb : Rp Hb (.list (xs.map f)) v) (eb : Ex Hb H) (Pv : Nat → L2.St → Hp → Prop) (p0 : Pv 0 σ H) (pe : ∀ i σ' H', Pv i σ' H' → Ex Hb H')
    (turn : ∀ i x v σ' H', xs[i]? = some x → Rp H' (f x) v → Pv i σ' H' → g v σ' H' fun σ2 H2 => tu { D with nx := Pv (i + 1), ct := Pv (i + 1), bk := D.nx } σ2 H2) (done : ∀ σ' H', Pv xs.length σ' H' → D.nx σ' H') :
    tFor (iList K (tVar i)) g tu D σ H := by
  obtain ⟨a, vs, rfl, h1, h2⟩ := hb
  have hl : vs.length = xs.length := by rw [h2.len, List.length_map]
  refine ⟨.ref a, hi, a, rfl, ⟨vs, SqL.of (eb _ _ h1)⟩, for_list (xs := vs) Pv p0 (fun i σ' H' _ p => SqL.of (pe i σ' H' p a _ h1)) (fun i v2 σ' H' hi p => ?_) (fun σ' H' p => done σ' H' (hl ▸ p))⟩
  obtain ⟨d2, q1, q2⟩ := h2.getv hi
  obtain ⟨x, q3, rfl⟩ := map_get q1
  exact turn i x v2 σ' H' q3 (q2.ex (pe i σ' H' p)) p
/-- xs.clear(), xs a list of ours -/
theorem s_clearO (o : Own H0 H l ds) (hi : σ[i]? = some (some (.ref l))) (k : ∀ H2, ExB l H H2 → Own H0 H2 l [] → D.nx σ H2) : tDrop (tBM0 K "list" rClear (tVar i)) D σ H := by
  obtain ⟨vs, h1, h2⟩ := o.has
  refine ⟨.ref l, hi, .inl ⟨rfl, vs, SqL.of h1⟩, l, vs, rfl, rfl, h1, k _ ExB.upd ⟨o.new, Ex.mut o.ex o.new, ⟨[], upd_same, RpA.nil⟩, rfl⟩⟩
end
/-- the cell at k, or nought -/
def cellF (ns : List Int) (k : Int) : Int := ns.getD k.toNat 0
end Bm

/-! The rules by the written part's name. -/
namespace Bm
open PySem PySem.Spec PyProof.Rows L2 Evl
section
variable {X : Cx} {K : PySem.W.Frag}
theorem cr_lenK (h : X.K = K := by rfl) : CallR X (.builtin "len") (rLenS K) := h ▸ cr_len
theorem cr_listK (h : X.K = K := by rfl) : CallR X (.type "list") (rListS K) := h ▸ cr_list
theorem cr_tupLK (h : X.K = K := by rfl) : CallR X (.type "tuple") (rTupL K) := h ▸ cr_tupL
theorem cr_sortedTIK (h : X.K = K := by rfl) : CallR X (.builtin "sorted") (rSortTI K) := h ▸ cr_sortedTI
theorem call_isiK2 (h : X.K = K := by rfl) : CallR X (.builtin "isinstance") (rIsi K) := h ▸ call_isi
theorem cr_allK (hc : X.calm = true) (h : X.K = K := by rfl) : CallR X (.builtin "all") (rAll K) := h ▸ cr_all hc
theorem ix_listK (h : X.K = K := by rfl) : IxR X (rIxL K) := h ▸ ix_list
theorem ix_tupK (h : X.K = K := by rfl) : IxR X (rIxT K) := h ▸ ix_tup
theorem sl_listK (h : X.K = K := by rfl) : SlR X (rSlL K) := h ▸ sl_list
theorem op_inFK (h : X.K = K := by rfl) : OpR X (compareOp .In) (rInF K) := h ▸ op_inF
theorem op_niFK (h : X.K = K := by rfl) : OpR X (compareOp .NotIn) (rNiF K) := h ▸ op_niF
theorem op_catFK (h : X.K = K := by rfl) : OpR X (binaryOp .Add) (rCatF K) := h ▸ op_catF
theorem op_eqDK (hu : X.A.units + 64 < cLine) (h : X.K = K := by rfl) : OpR X (compareOp .Eq) (rEqD K) := h ▸ op_eqD hu
theorem op_neDK (hu : X.A.units + 64 < cLine) (h : X.K = K := by rfl) : OpR X (compareOp .NotEq) (rNeD K) := h ▸ op_neD hu
theorem op_inDK (hu : X.A.units + 65 < cLine) (h : X.K = K := by rfl) : OpR X (compareOp .In) (rInD K) := h ▸ op_inD hu
theorem op_niDK (hu : X.A.units + 65 < cLine) (h : X.K = K := by rfl) : OpR X (compareOp .NotIn) (rNotInD K) := h ▸ op_notInD hu
theorem mt_tupIxK (h : X.K = K := by rfl) : MtR X "tuple.index" (rIxI K) := h ▸ mt_tupIx
theorem pi_listK {tg l : Expr} {tl : TE} (hl : PE X l tl) (h : X.K = K := by rfl) : PI X tg l (iList K tl) := h ▸ pi_list hl
theorem pi_tupK {tg l : Expr} {tl : TE} (hl : PE X l tl) (h : X.K = K := by rfl) : PI X tg l (iTup K tl) := h ▸ pi_tup hl
theorem pg_tupK {es : List Expr} {k : Nat} {t : TGs} {n : Nat} {pos : Pos} (hc : X.calm = true) (h : PGs X es t) (hn : (assignEach es X.env).length = n := by rfl) (hst : (assignEach es X.env).findIdx? (·.1) = none := by rfl) (hk : X.K = K := by rfl) :
    PG X (.Tuple es k pos) (gTup K n t) := hk ▸ pg_tup hc h hn hst
end
theorem hu65 {k : Nat} {A : Around} (hr : Room k A) : A.units + 65 < cLine := by have := hr.un; omega
end Bm

/-! What is walked is gathered into a list: once for every kind of thing that is walked. -/
namespace Bm
open PySem PySem.Spec PyProof.Rows L2 Evl
/-- an empty list at the heap's end -/
abbrev bare0 : Obj := { cls := .type "list", data := .seq ([] : List Value).toArray }
abbrev pushL (h : Heap) : Heap := h.push bare0
theorem pushL_at (h : Heap) : (pushL h).get? h.objs.size = some bare0 := Heap.get?_push_size _ rfl
theorem pushL_old {h : Heap} {b : Addr} {u : Obj} (e : h.get? b = some u) : (pushL h).get? b = some u := Heap.get?_push_of_some _ e
/-- from h₂ on the iterator I gives n items, of which R is told; the place S has no part in it -/
def Gives1 (P : Program) (w : World) (A : Around) (h₂ : Heap) (S I : Addr) (R : Array Value → Prop) : Prop :=
  ∃ fp n Pv St, Walks P w A I fp [I] n Pv St ∧ n ≤ sizeLine ∧ S ∉ fp ∧ St 0 h₂ ∧ ∀ acc, ItemsOf Pv acc n → R acc
section
variable {P : Program} {w : World} {A : Around} {E : Value → Shared → Prop} {s : Shared}
/-- the gathering loop, the list at S still empty -/
theorem gather_loop {I S : Addr} {h₂ : Heap} {tk c : Nat} {R : Array Value → Prop} {Z : Result → Shared → Prop} (g : Gives1 P w A.in1 h₂ S I R) (e : h₂.get? S = some { cls := .type "list", dict := none, data := .seq #[] c, slots := #[] })
    (z : ∀ (h3 : Heap) tk3 acc c3, R acc → h3.get? S = some { cls := .type "list", dict := none, data := .seq acc c3, slots := #[] } → (∀ b u, b ≠ S → b ≠ I → h₂.get? b = some u → h3.get? b = some u) → Z (.ok (.ret (.ref S))) { s with heap := h3, toks := tk3 }) :
    codeAny (model P w) A (.builtin "list.extend.loop" ⟨[.ref S, .ref I, .ref S], []⟩) Z { s with heap := h₂, toks := tk } := by
  obtain ⟨fp, n, Pv, St, W, nz, away, st, told⟩ := g
  refine codeAny_extend_loopS W.toS nz S away (.ref S) n 0 _ #[] c rfl (Nat.zero_le _) st e (ItemsOf.nil Pv) fun s3 acc c3 mv e3 it => ?_
  have kp : ∀ b u, b ≠ S → b ≠ I → h₂.get? b = some u → s3.heap.get? b = some u := fun b u nS nI q => mv.heap b u (by simp [nS, nI]) q
  have es := mv.eq_with
  obtain ⟨h3, g3, d3, t3, o3⟩ := s3
  cases es
  exact z h3 t3 acc c3 (told acc it) e3 kp
theorem gather {a I : Addr} {o : Obj} {T : String} {h₂ : Heap} {R : Array Value → Prop} {Q : List Value → Shared → Prop} (ho : s.heap.get? a = some o) (hc : o.cls = .type T) (nl : T ≠ "list") (nt : T ≠ "tuple")
    (iter : ∀ (E' : Value → Shared → Prop) (Q' : Value → Shared → Prop), Q' (.ref I) { s with heap := h₂ } → wpAny (model P w) A.in1 (pyIter (.ref a)) Q' E' { s with heap := pushL s.heap })
    (hint : ∀ (E' : Value → Shared → Prop) (Q' : Bool → Shared → Prop), (∀ b tk, Q' b { s with heap := h₂, toks := tk }) → wpAny (model P w) A.in1 (Builtin.List.listLengthHint (.ref a)) Q' E' { s with heap := h₂ })
    (kp : ∀ b u, (pushL s.heap).get? b = some u → h₂.get? b = some u) (g : ∀ h, (∀ b u, b ≠ s.heap.objs.size → h₂.get? b = some u → h.get? b = some u) → Gives1 P w A.in1 h s.heap.objs.size I R)
    (q : ∀ (h' : Heap) tk acc, R acc → s.heap.objs.size ≤ h'.objs.size → (∀ b u, b ≠ I → s.heap.get? b = some u → h'.get? b = some u) → Q acc.toList { s with heap := h', toks := tk }) : wpAny (model P w) A (collect (.ref a)) Q E s := by
  have na : s.heap.objs.size ≠ a := Nat.ne_of_gt (Heap.lt_size ho)
  have at2 := kp _ _ (pushL_at s.heap)
  -- behind the loop the list is read
  have last : ∀ (h4 : Heap) (tk c : Nat), h4.get? s.heap.objs.size = some { cls := .type "list", dict := none, data := .seq #[] c, slots := #[] } → (∀ b u, b ≠ s.heap.objs.size → h₂.get? b = some u → h4.get? b = some u) →
      codeAny (model P w) A (.builtin "list.extend.loop" ⟨[.ref s.heap.objs.size, .ref I, .ref s.heap.objs.size], []⟩)
        (fun r s' => match r with
          | .ok (.ret v) => wpAny (model P w) A (match v with
            | .ref x => load x >>= fun ob => match ob.data with
              | .seq xs _ => pure xs.toList
              | _ => unsupported "internal:collect"
            | _ => unsupported "internal:collect") Q E s'
          | .ok _ => False
          | .error e => E e s') { s with heap := h4, toks := tk } :=
    fun h4 tk c e4 k4 => gather_loop (g h4 k4) e4 fun h3 tk3 acc c3 r e3 k3 => by
      refine wpAny_bind (wpAny_load e3 (wpAny_pure (q h3 tk3 acc r (Nat.le_of_lt (Heap.lt_size e3)) fun b u nI e => ?_)))
      have nS : b ≠ s.heap.objs.size := Nat.ne_of_lt (Heap.lt_size e)
      exact k3 b u nS nI (k4 b u nS (kp b u (pushL_old e)))
  unfold collect
  refine wpAny_bind (wpAny_runValue (codeAny_builtin F.entry_proto_collect (by
    rw [Around.under_plainId F.plain_proto_collect _]
    refine wpAny_bind (m := newList []) (wpAny_newObj_type (wpAny_pure ⟨plainId_quiet F.plain_list_iadd _, codeAny_builtin F.entry_list_iadd ?_⟩))
    rw [Around.under_plainId F.plain_list_iadd _]
    show wpAny (model P w) A.in1 (Builtin.List.listExtendWith (.ref s.heap.objs.size) (.ref a) (.ref s.heap.objs.size)) _ _ { s with heap := pushL s.heap }
    unfold Builtin.List.listExtendWith
    refine wpAny_bind (wpAny_typeOf (T := T) ⟨o, pushL_old ho, hc⟩ ?_)
    have other : (Builtin.List.listSameRef (.ref s.heap.objs.size) (.ref a) || Value.type T == Value.type "list" || Value.type T == Value.type "tuple") = false := by
      simp [Builtin.List.listSameRef, na, nl, nt]
    simp only [other, Bool.false_eq_true, if_false]
    refine wpAny_bind (iter _ _ (wpAny_bind (wpAny_holding (hint _ _ fun b tk => ?_))))
    split
    · refine wpAny_bind (m := rule "list.extend.makes-room") (wpAny_rule (wpAny_bind (m := Builtin.List.listTouch (.ref s.heap.objs.size)) ?_))
      have at3 := Heap.get?_update_self (Obj.mapSeq (·.push Value.none)) at2 rfl
      refine wpAny_bind (m := updateSeq s.heap.objs.size (·.push .none)) (wpAny_updateSeq at2 rfl (wpAny_updateSeq at3 rfl (wpAny_pure ⟨plainId_quiet F.plain_extend_loop _, last _ tk _ (Heap.get?_update_self (Obj.mapSeq (·.pop)) at3 rfl) fun b u n e => ?_⟩)))
      rw [Heap.get?_update_other _ _ (Ne.symm n), Heap.get?_update_other _ _ (Ne.symm n)]
      exact e
    · exact wpAny_pure ⟨plainId_quiet F.plain_extend_loop _, last h₂ tk 0 at2 fun _ _ _ e => e⟩)))
end
end Bm

/-! tuple(reversed(x)), x a list or a tuple: told with its object. -/
namespace Bm
open PySem PySem.Spec PyProof.Rows L2 Evl
abbrev idH : String := "reversed.__length_hint__"
theorem rt_noLen : typeLookup (.type "reversed") "__len__" = pure none := by rw [typeLookup_type, builtinLookup_eq_fast]; kernel_rfl
theorem rt_slotH : Slot "reversed" "__length_hint__" idH := by
  refine .of (owner := "reversed") (n := "__length_hint__") ?_ ?_ ?_ ?_ ?_ ?_
  · rw [typeLookup_type, builtinLookup_eq_fast]
    kernel_rfl
  · decide +kernel
  · decide +kernel
  · decide +kernel
  · first | exact .inr (by decide +kernel) | exact .inl (by decide +kernel)
  · rw [isSubtype_type]
    kernel_rfl
theorem rt_entH : entryFor table idH = some Builtin.«reversed.__length_hint__» := entryFor_of_tree (by kernel_rfl)
theorem rt_argH (a : Value) : argsOk idH ⟨[a], []⟩ := by
  unfold argsOk; rw [signature?_of (id := "reversed.__length_hint__") (n := ['_', '_', 't', 'n', 'i', 'h', '_', 'h', 't', 'g', 'n', 'e', 'l', '_', '_']) (o := ['d', 'e', 's', 'r', 'e', 'v', 'e', 'r']) (by kernel_rfl) RT.owner_rt]; kernel_rfl
/-- an iterator at the end of a tuple, backwards -/
structure RtAt (h : Heap) (it t : Addr) (xs : Array Value) : Prop where
  rt : RT.IsRt h it t ((xs.size : Int) - 1)
  tp : IsTup h t xs
theorem RtAt.to {h h' : Heap} {it t : Addr} {xs : Array Value} (x : RtAt h it t xs) (k : ∀ b u, h.get? b = some u → h'.get? b = some u) : RtAt h' it t xs :=
  ⟨x.rt.at (k it), x.tp.imp fun o q => ⟨k t o q.1, q.2⟩⟩
/-- the items, backwards -/
def BackOf (xs acc : Array Value) : Prop := ItemsOf (fun i v => xs[xs.size - 1 - i]? = some v) acc xs.size
section
variable {prog : Program} {w : World} {A : Around} {E : Value → Shared → Prop} {s : Shared} {it t : Addr} {xs : Array Value}
theorem RtAt.type (x : RtAt s.heap it t xs) : s.TypeIs (.ref it) "reversed" := x.rt.typeIs
/-- how many are left: all -/
theorem RtAt.left {Q : Value → Shared → Prop} (x : RtAt s.heap it t xs) (few : xs.size ≤ 100000) (q : ∀ tk tk2, Q (.int xs.size tk) { s with toks := tk2 }) : wpAny (model prog w) A (call (.builtin idH) [.ref it]) Q E s := by
  obtain ⟨o, o1, o2, o3⟩ := id x.rt
  have no : (Value.ref t == Value.none) = false := rfl
  have back : (xs.size : Int) - 1 + 1 = (xs.size : Int) := by omega
  refine wpAny_call_entry rt_slotH x.type rt_entH ?_ (rt_argH _)
  unfold Builtin.«reversed.__length_hint__»
  refine wpAny_bind (wpAny_of_eq (a := Value.ref it) rfl (wpAny_bind (wpAny_field o1 o3 (x := .ref t) rfl ?_)))
  refine wp_if_neg (by rw [no]; simp) ?_
  refine wpAny_bind (PyProof.Rows.len_tuple x.tp (by omega) (wpAny_bind (wpAny_of_eq (a := some (xs.size : Int)) rfl ?_)))
  refine wpAny_bind (wpAny_field (s := { s with toks := s.toks + 1 + 1 }) o1 o3 (x := rawInt ((xs.size : Int) - 1)) rfl ?_)
  show wpAny _ _ (if (xs.size : Int) < (xs.size : Int) - 1 + 1 then _ else _) _ _ _
  rw [back, if_neg (Int.lt_irrefl _)]
  exact wpAny_bind (wpAny_mkInt (wpAny_pure ⟨_, rfl, q _ _⟩))
theorem RtAt.hint {Q : Bool → Shared → Prop} (x : RtAt s.heap it t xs) (few : xs.size ≤ 100000) (q : ∀ b tk2, Q b { s with toks := tk2 }) : wpAny (model prog w) A (Builtin.List.listLengthHint (.ref it)) Q E s := by
  have fit : Builtin.List.listFitsIndex (xs.size : Int) = true := by simp [Builtin.List.listFitsIndex]; omega
  have room : Builtin.List.listTooLong (xs.size : Int).toNat = false := by simp [Builtin.List.listTooLong, sizeLine_eq]; omega
  have int_ : ∀ tk, asInt? (Value.int (xs.size : Int) tk) = pure (some (xs.size : Int)) := fun _ => rfl
  unfold Builtin.List.listLengthHint
  refine wpAny_bind (wpAny_specialOf x.type rt_noLen ?_)
  refine wpAny_bind (m := specialOf (Value.ref it) (Str.ofString "__length_hint__")) (wpAny_specialOf x.type rt_slotH.lookup ?_)
  generalize hid : idH = id0
  wp_delta
  rw [show splitId id0 = some ("reversed", "__length_hint__") from by subst hid; decide +kernel]
  subst hid
  refine wpAny_bind (wpAny_isInstance (b := true) x.type (by rw [isSubtype_type]; kernel_rfl) ?_)
  refine wpAny_bind (m := rule "list.length-hint.hint") (wpAny_rule (wpAny_bind (wpAny_of_eq (rt_slotH.bind _) ?_)))
  refine wpAny_bind (wpAny_attempt (x.left few fun tk tk2 => ?_))
  try dsimp only
  rw [int_ tk, pure_bind]
  dsimp only
  rw [fit, room, if_neg (by decide), if_neg (by omega), if_neg (by decide)]
  exact wpAny_pure (q _ _)
theorem rt_steps (hh : A.handled = none) (ne : t ≠ it) (nz : xs.size ≤ sizeLine) :
    Walks prog w A it [it, t] [it] xs.size (fun i v => xs[xs.size - 1 - i]? = some v) (fun i h => i ≤ xs.size ∧ RT.IsRt h it t ((xs.size : Int) - 1 - (i : Int)) ∧ IsTup h t xs) where
  sub := fun b m => by rw [List.mem_singleton.mp m]; exact List.mem_cons_self
  frame := fun _ _ _ x k => ⟨x.1, x.2.1.at (k it List.mem_cons_self), x.2.2.imp fun o q => ⟨k t (List.mem_cons_of_mem _ List.mem_cons_self) o q.1, q.2⟩⟩
  item := fun i s Q E l x q => by
    obtain ⟨_, rt, tp⟩ := x
    have lt : xs.size - 1 - i < xs.size := by omega
    have at_ : xs[xs.size - 1 - i]? = some xs[xs.size - 1 - i] := Array.getElem?_eq_getElem lt
    rw [show (xs.size : Int) - 1 - (i : Int) = ((xs.size - 1 - i : Nat) : Int) by omega] at rt
    refine RT.next_rt_item rt tp at_ nz fun h' rt' same => ?_
    rw [show ((xs.size - 1 - i : Nat) : Int) - 1 = (xs.size : Int) - 1 - ((i + 1 : Nat) : Int) by omega] at rt'
    exact q _ h' _ at_ ⟨l, rt', tp.imp fun o z => ⟨(same.2 t ne).trans z.1, z.2⟩⟩ fun b u nb e => same.extBut b u (fun z => nb (List.mem_singleton.mpr z)) e
  done := fun s Q E x q => by
    have rt := x.2.1
    rw [show (xs.size : Int) - 1 - (xs.size : Int) = -1 by omega] at rt
    exact RT.next_rt_end hh rt fun h' k => q h' s.toks fun b u nb e => k b u (fun z => nb (List.mem_singleton.mpr z)) e
  self := fun _ _ _ _ x q => RT.iter_rt x.2.1 q
theorem RtAt.gathered {Q : List Value → Shared → Prop} (x : RtAt s.heap it t xs) (hh : A.handled = none) (ne : t ≠ it) (few : xs.size ≤ 100000)
    (q : ∀ (h' : Heap) tk acc, BackOf xs acc → (∀ b u, b ≠ it → s.heap.get? b = some u → h'.get? b = some u) → Q acc.toList { s with heap := h', toks := tk }) : wpAny (model prog w) A (collect (.ref it)) Q E s := by
  obtain ⟨o, o1, o2, o3⟩ := id x.rt
  obtain ⟨u, u1, _⟩ := id x.tp
  have y := x.to (h' := pushL s.heap) fun _ _ => pushL_old
  have nz : xs.size ≤ sizeLine := by rw [sizeLine_eq]; omega
  have n1 : it ≠ s.heap.objs.size := Nat.ne_of_lt (Heap.lt_size o1)
  have n2 : t ≠ s.heap.objs.size := Nat.ne_of_lt (Heap.lt_size u1)
  refine gather (T := "reversed") (I := it) (h₂ := pushL s.heap) (R := BackOf xs) o1 o2 (by decide) (by decide) (fun E' Q' z => RT.iter_rt (s := { s with heap := pushL s.heap }) y.rt z)
    (fun E' Q' z => RtAt.hint (s := { s with heap := pushL s.heap }) y few z) (fun _ _ e => e) (fun h k => ⟨[it, t], xs.size, _, _, rt_steps hh ne nz, nz, by simp [n1.symm, n2.symm], ⟨Nat.zero_le _, ?_, ?_⟩, fun acc i => i⟩) fun h' tk acc r _ k => q h' tk acc r k
  · rw [show (xs.size : Int) - 1 - ((0 : Nat) : Int) = (xs.size : Int) - 1 by omega]
    exact y.rt.at fun u e => k it u n1 e
  · exact y.tp.imp fun u e => ⟨k t u n2 e.1, e.2⟩
/-- tuple(an iterator backwards), the gathering told by whoever calls -/
theorem tuple_back {Q : Value → Shared → Prop} {R : Array Value → Prop} (ty : s.TypeIs (.ref it) "reversed") (few : ∀ acc, R acc → acc.size ≤ sizeLine)
    (col : ∀ (Q' : List Value → Shared → Prop) (E' : Value → Shared → Prop), (∀ (h' : Heap) tk acc, R acc → (∀ b u, b ≠ it → s.heap.get? b = some u → h'.get? b = some u) → Q' acc.toList { s with heap := h', toks := tk }) → wpAny (model prog w) A.in1.in1 (collect (.ref it)) Q' E' s)
    (q : ∀ (h' : Heap) tk acc, R acc → (∀ b u, b ≠ it → s.heap.get? b = some u → h'.get? b = some u) → Q (.ref h'.objs.size) { s with heap := h'.push { cls := .type "tuple", data := .seq acc }, toks := tk }) :
    wpAny (model prog w) A (call (.type "tuple") [.ref it]) Q E s := by
  refine callType_codes (Q₁ := fun ob s₁ => s₁.TypeIs ob "tuple" ∧ Q ob s₁) F.called_tuple (F.typeCall_tuple_1 _) F.entry_object_init (codeAny_of_tree ?_) fun ob s₁ z =>
    ⟨z.1, F.args_object_init_2 ob _, object_init_meets F.called_tuple.init.lookup F.called_tuple.made (by decide) prog w A.in1 _ s₁ ⟨z.1, rfl, z.2⟩⟩
  refine wpAny_bind (m := checkBuiltinCall "tuple.__new__" ⟨[.type "tuple", .ref it], []⟩) (wpAny_of_eq (F.newCall_tuple_1 _) (wpAny_pure ⟨plainId_quiet F.plain_tuple_new _, codeAny_builtin F.entry_tuple_new ?_⟩))
  rw [Around.under_plainId F.plain_tuple_new _]
  have f1 := sub_tuple_self
  have f2 := init_tuple_lookup
  have f3 := madeHere_tuple
  wp_walk using wpAny_typeOf ty, col _ _
  intro h' tk acc r k
  have same : acc.toList.toArray = acc := Array.toArray_toList
  refine wpAny_bind (m := Builtin.Tuple.tupleExact acc.toList.toArray) ?_
  unfold Builtin.Tuple.tupleExact
  rw [same]
  exact wpAny_newObj_type (wpAny_pure ⟨⟨_, Heap.get?_push_size _ rfl, rfl⟩, q h' tk acc r k⟩) (few acc r)
end
/-- tuple(reversed(x)), x a list or a tuple -/
def tTupRv (K : PySem.W.Frag) (te : TE) : TE := fun σ H Q => te σ H fun v H1 => ∃ (a : Addr) (xs : List V), v = .ref a ∧ (SqL K H1 a xs ∨ SqT K H1 a xs) ∧ xs.length ≤ 100000 ∧ ∀ p o, H1 p = none → o.dict = none → Q (.ref p) (upd H1 p (.frz o (.tup xs.reverse)))
section
variable {X : Cx}
/-- the gathered items as a new tuple -/
theorem back_end {pins : List (Addr × Obj)} {σ : L2.St} {H : Hp} {s : Shared} {xs : List V} {its : List Value} {ob : Obj} {h' : Heap} {tk : Nat} {acc : Array Value} {Q : VK} (I : Inv X pins σ H s) (rv : Vals xs its) (z : xs.length ≤ sizeLine)
    (b : BackOf its.toArray acc) (k : ∀ b u, b ≠ s.heap.objs.size → (s.heap.push ob).get? b = some u → h'.get? b = some u) (q : ∀ p o, H p = none → o.dict = none → Q (.ref p) (upd H p (.frz o (.tup xs.reverse)))) :
    EP X pins σ Q (.ref h'.objs.size) { s with heap := h'.push { cls := .type "tuple", data := .seq acc }, toks := tk } := by
  obtain ⟨c1, c2, _, c3, c4, c5⟩ := I.fpOk (Nat.le_refl _) (I.hok.fresh (Nat.le_refl _))
  have J : Inv X pins σ H { s with heap := s.heap.push ob } := I.kept (t' := s.toks) fun _ _ e => Heap.get?_push_of_some _ e
  have y := tupNew (tk := tk) (J.turned (t' := tk) k c1 c2 c3 c4 c5) (fun _ _ e => e) (RT.vals_rev rv b) (by rw [List.length_reverse]; exact z) q
  rwa [Array.toArray_toList] at y
theorem pe_tupRevF {K : PySem.W.Frag} {e : Expr} {te : TE} {p p2 pos pos2 : Pos} (hc : X.calm = true) (hg : Gl X "tuple") (hm : X.mg "tuple" = none) (hg2 : Gl X "reversed") (hm2 : X.mg "reversed" = none) (he : PE X e te)
    (hK : X.K = K := by rfl) (one : starEach [e] X.env = (false, eval e X.env) :: starEach [] X.env := by rfl)
    (two : starEach [.Call (.Name "reversed" p2) [e] [] pos2] X.env = (false, eval (.Call (.Name "reversed" p2) [e] [] pos2) X.env) :: starEach [] X.env := by rfl) :
    PE X (.Call (.Name "tuple" p) [.Call (.Name "reversed" p2) [e] [] pos2] [] pos) (tTupRv K te) := ⟨fun pins s σ H Q I h => by
  subst hK
  refine Call_ (ld_blt I hg hm boot_tuple ?_)
  refine PyProof.Rows.callWith_type1 (args_cons ?_ two) two rfl
  refine Call_ (ld_blt I hg2 hm2 PyProof.Rows.boot_reversed ?_)
  refine PyProof.Rows.callWith_type1 (args_cons (thn (he.run pins s σ H _ I h) fun u s1 ⟨v, H1, I1, r1, a, xs, ev, hq, hlen, q⟩ => args_nil ?_) one) one rfl
  subst ev
  cases r1
  have new_ : ∀ ob : Obj, ∀ b o, s1.heap.get? b = some o → (s1.heap.push ob).get? b = some o := fun ob b o e => Heap.get?_push_of_some _ e
  rcases hq with hq | hq
  · obtain ⟨its, rv, pl, hz⟩ := I1.list hq
    have ls := pl.isList
    have na : a ≠ s1.heap.objs.size := Nat.ne_of_lt (by obtain ⟨o, e, _⟩ := id ls; exact Heap.lt_size e)
    refine PySem.call_reversed_list ls (args_nil ?_)
    exact RT.call_tuple_rev (s := { s1 with heap := s1.heap.push (revObj a ((its.toArray.size : Int) - 1)) }) (I1.ok.hd hc) ⟨_, Heap.get?_push_size _ rfl, rfl, rfl⟩ (ls.push _) na (by rw [List.size_toArray, ← rv.length]; exact hz)
      fun h' tk acc k i => back_end (s := s1) (ob := revObj a ((its.toArray.size : Int) - 1)) I1 rv hz i k q
  · obtain ⟨its, rv, tp, hz⟩ := I1.tuple hq
    have few : its.toArray.size ≤ 100000 := by rw [List.size_toArray, ← rv.length]; exact hlen
    have na : a ≠ s1.heap.objs.size := Nat.ne_of_lt (by obtain ⟨o, e, _⟩ := id tp; exact Heap.lt_size e)
    have x : RtAt (s1.heap.push (RT.rtObj a ((its.toArray.size : Int) - 1))) s1.heap.objs.size a its.toArray := ⟨⟨_, Heap.get?_push_size _ rfl, rfl, rfl⟩, tp.imp fun o z => ⟨new_ _ _ _ z.1, z.2⟩⟩
    refine RT.call_reversed_tup tp (fun A E Q k => PyProof.Rows.len_tuple tp (by omega) k) (args_nil ?_)
    exact tuple_back (s := { s1 with heap := s1.heap.push (RT.rtObj a ((its.toArray.size : Int) - 1)), toks := s1.toks + 1 + 1 }) (R := BackOf its.toArray) x.type (fun acc r => by rw [r.1, sizeLine_eq]; omega)
      (fun Q' E' z => RtAt.gathered (s := { s1 with heap := s1.heap.push (RT.rtObj a ((its.toArray.size : Int) - 1)), toks := s1.toks + 1 + 1 }) x (I1.ok.hd hc) na few z) fun h' tk acc i k => back_end (s := s1) (ob := RT.rtObj a ((its.toArray.size : Int) - 1)) I1 rv hz i k q⟩
end
section
variable {K : PySem.W.Frag} {σ : L2.St} {H : Hp} {te : TE} {ds : List PyData}
theorem evd_revT (h : EvD te σ H (.tuple ds)) (hl : ds.length ≤ 100000) : EvD (tTupRv K te) σ H (.tuple ds.reverse) := fun H1 e Q q =>
  h H1 e _ fun v H2 e2 r => by
    obtain ⟨a, xs, rfl, k1, k2⟩ := r.seqT (K := K)
    exact ⟨a, xs, rfl, .inr k1, by rw [k2.len]; exact hl, fun p o hp ho => q _ _ (e2.trans (Ex.new hp)) ⟨p, _, o, rfl, upd_same, ho, k2.rev.ex (Ex.new hp)⟩⟩
theorem evd_revL (h : EvD te σ H (.list ds)) (hl : ds.length ≤ 100000) : EvD (tTupRv K te) σ H (.tuple ds.reverse) := fun H1 e Q q =>
  h H1 e _ fun v H2 e2 r => by
    obtain ⟨a, xs, rfl, k1, k2⟩ := r.seqL (K := K)
    exact ⟨a, xs, rfl, .inl k1, by rw [k2.len]; exact hl, fun p o hp ho => q _ _ (e2.trans (Ex.new hp)) ⟨p, _, o, rfl, upd_same, ho, k2.rev.ex (Ex.new hp)⟩⟩
end
end Bm

/-! Loops and comprehensions over tuples; sorted of webs; all; is True. -/
namespace Bm
open PySem PySem.Spec PyProof.Rows L2 Evl
section
variable {K : PySem.W.Frag} {σ : L2.St} {H H' : Hp} {ta tb te tl : TE} {t u : TT} {d x y z : PyData} {ds es : List PyData} {D : Ends} {tu tw : TS} {g : TG}
/-- over a tuple -/
theorem s_forT {α : Type} {f : α → PyData} {xs : List α} (h : EvD tl σ H (.tuple (xs.map f)))
    (k : ∀ H1, Ex H H1 → ∃ Pv : Nat → L2.St → Hp → Prop, Pv 0 σ H1 ∧ (∀ i σ' H', Pv i σ' H' → Ex H1 H') ∧
      (∀ i x v σ' H', xs[i]? = some x → Rp H' (f x) v → Pv i σ' H' → g v σ' H' fun σ2 H2 => tu { D with nx := Pv (i + 1), ct := Pv (i + 1), bk := D.nx } σ2 H2) ∧ ∀ σ' H', Pv xs.length σ' H' → D.nx σ' H') :
    tFor (iTup K tl) g tu D σ H := h H (Ex.refl H) _ fun v H1 e r => by
  obtain ⟨a, vs, o, e1, h1, _, h2⟩ := r
  obtain ⟨Pv, p0, pe, ps, pd⟩ := k H1 e
  have hl : vs.length = xs.length := by rw [h2.len, List.length_map]
  refine ⟨a, e1, ⟨vs, .inl (.inr ⟨o, h1⟩)⟩, for_tup (xs := vs) Pv p0 (fun i σ' H' _ p => .inl (.inr ⟨o, pe i σ' H' p a _ h1⟩)) (fun i v2 σ' H' hi p => ?_) (fun σ' H' p => pd σ' H' (hl ▸ p))⟩
  obtain ⟨d2, q1, q2⟩ := h2.getv hi
  obtain ⟨x, q3, rfl⟩ := map_get q1
  exact ps i x v2 σ' H' q3 (q2.ex (pe i σ' H' p)) p
theorem evn_lcT {α : Type} {f : α → PyData} {xs : List α} {vs : List Nat} {tt : TT} (c : α → Bool) (y : α → PyData) (h : EvD tl σ H (.tuple (xs.map f))) (hz : xs.length ≤ 50000)
    (turn : ∀ x v H1, x ∈ xs → Ex H H1 → Rp H1 (f x) v → ∃ σ2, (∀ Q : L2.St → Hp → Prop, Q σ2 H1 → g v (wipe σ vs) H1 Q) ∧ wipe σ2 vs = wipe σ vs ∧ EvT tt σ2 H1 (c x) ∧ (c x = true → EvD te σ2 H1 (y x)))
    (im : ∀ x ∈ xs, c x = true → imm (y x) = true) : EvN (tLc (iTup K tl) g tt te vs) σ H ((xs.filter c).map y) := fun H0 e0 Q q => h H0 e0 _ fun v H1 e1 r => by
  obtain ⟨a, ws, ob, ea, h1, _, h2⟩ := r
  have hl : ws.length = xs.length := by rw [h2.len, List.length_map]
  refine ⟨a, ea, ⟨ws, .inl (.inr ⟨ob, h1⟩)⟩, fun Dl hD => lc_tup (xs := ws) (fun i H' => Own H1 H' Dl (((xs.take i).filter c).map y)) ?_ (fun i H' _ o => .inl (.inr ⟨ob, o.ex a _ h1⟩)) (fun i x2 H' hi o => ?_) fun H' o => ?_⟩
  · exact ⟨hD, Ex.new hD, ⟨[], upd_same, RpA.nil⟩, rfl⟩
  · obtain ⟨d2, q1, q2⟩ := h2.getv hi
    obtain ⟨x, q3, rfl⟩ := map_get q1
    have hx : x ∈ xs := List.mem_of_getElem? q3
    obtain ⟨σ2, g1, g2, g3, g4⟩ := turn x x2 H' hx ((e0.trans e1).trans o.ex) (q2.ex o.ex)
    have hlen : i < xs.length := (List.getElem?_eq_some_iff.mp q3).1
    refine g1 _ ⟨g2, g3 H' (Ex.refl H') _ fun H3 e3 => ?_⟩
    have et : xs.take (i + 1) = xs.take i ++ [x] := by rw [List.take_add_one, q3]; rfl
    have o3 := o.step e3
    cases hc : c x with
    | true =>
      rw [if_pos rfl]
      refine g4 hc H3 e3 _ fun w H4 e4 r4 => ?_
      obtain ⟨acc, k1, k2⟩ := (o3.step e4).has
      have kt : KT H4 (upd H4 Dl (.lst (acc ++ [w]))) := KT.lst k1
      have hb : acc.length ≤ i := by
        rw [k2.len, List.length_map]
        exact Nat.le_trans (List.length_filter_le _ _) (by rw [List.length_take]; omega)
      refine ⟨acc, k1, sz_lt (by omega), o.new, ?_, ⟨_, upd_same, ?_⟩, ?_⟩
      · exact Ex.mut (o3.step e4).ex o.new
      · rw [et, List.filter_append, List.filter_cons, if_pos hc, List.map_append]
        exact (RpA.keep kt o.im k2).snoc (Rp.keep kt (im x hx hc) r4)
      · rw [et, List.filter_append, List.filter_cons, if_pos hc, List.map_append]
        exact immA_app o.im (immA_one (im x hx hc))
    | false =>
      rw [if_neg Bool.false_ne_true, et, List.filter_append, List.filter_cons, if_neg (by rw [hc]; exact Bool.false_ne_true), List.filter_nil, List.append_nil]
      exact o3
  · rw [hl, List.take_length] at o
    obtain ⟨acc, k1, k2⟩ := o.has
    exact q Dl acc H' (fresh_back e1 o.new) (e1.trans o.ex) k1 k2
/-! ### all, is -/
theorem cd_all {bs : List Bool} : CD (rAll K) [.list (bs.map PyData.bool)] H (.bool (bs.all id)) := fun H1 vs e r Q q => by
  obtain ⟨v, w, rfl, ⟨a, xs, rfl, h1, h2⟩, rfl⟩ := r
  obtain rfl := h2.bls
  exact ⟨a, bs, rfl, SqL.of h1, q _ H1 (Ex.refl H1) rfl⟩
theorem rd_isB {a b : Bool} : RD rIsB (.bool a) (.bool b) H (.bool (decide (a = b))) := rd_val fun H1 v u e r1 r2 => ⟨.bl (decide (a = b)), rfl, fun Q q => ⟨a, b, r1, r2, q⟩⟩
theorem rd_notB {a b : Bool} : RD rNotB (.bool a) (.bool b) H (.bool (!decide (a = b))) := rd_val fun H1 v u e r1 r2 => ⟨.bl (!decide (a = b)), rfl, fun Q q => ⟨a, b, r1, r2, q⟩⟩
end
/-! ### sorted of a web -/
def cdP (p : Int × Int) : Int := p.1 * 64 + p.2
def bdP (p : Int × Int) : Prop := (0 ≤ p.1 ∧ p.1 < 64) ∧ 0 ≤ p.2 ∧ p.2 < 64
theorem cdP_inj {p q : Int × Int} (hp : bdP p) (hq : bdP q) (h : cdP p = cdP q) : p = q := by
  obtain ⟨a, b⟩ := p
  obtain ⟨c, d⟩ := q
  unfold bdP at hp hq
  unfold cdP at h
  dsimp only at hp hq h
  rw [show a = c by omega, show b = d by omega]
def insW (x : Int × Int) : List (Int × Int) → List (Int × Int)
  | [] => [x]
  | y :: ys => if cdP x ≤ cdP y then x :: y :: ys else y :: insW x ys
def srtW : List (Int × Int) → List (Int × Int)
  | [] => []
  | x :: xs => insW x (srtW xs)
theorem insW_perm (x : Int × Int) : ∀ ys, (insW x ys).Perm (x :: ys)
  | [] => .refl _
  | y :: ys => by
    unfold insW
    by_cases h : cdP x ≤ cdP y
    · rw [if_pos h]
    · rw [if_neg h]
      exact ((insW_perm x ys).cons y).trans (.swap x y ys)
theorem srtW_perm : ∀ xs, (srtW xs).Perm xs
  | [] => .refl _
  | x :: xs => (insW_perm x (srtW xs)).trans ((srtW_perm xs).cons x)
theorem insW_pw {x : Int × Int} : ∀ {ys : List (Int × Int)}, ys.Pairwise (fun p q => cdP p ≤ cdP q) → (insW x ys).Pairwise (fun p q => cdP p ≤ cdP q)
  | [], _ => by simp [insW]
  | y :: ys, h => by
    unfold insW
    obtain ⟨h1, h2⟩ := List.pairwise_cons.mp h
    by_cases e : cdP x ≤ cdP y
    · rw [if_pos e]
      refine List.pairwise_cons.mpr ⟨fun z m => ?_, h⟩
      rcases List.mem_cons.mp m with rfl | m
      · exact e
      · exact Int.le_trans e (h1 z m)
    · rw [if_neg e]
      refine List.pairwise_cons.mpr ⟨fun z m => ?_, insW_pw h2⟩
      rcases List.mem_cons.mp ((insW_perm x ys).mem_iff.mp m) with rfl | m
      · omega
      · exact h1 z m
theorem srtW_pw : ∀ xs, (srtW xs).Pairwise (fun p q => cdP p ≤ cdP q)
  | [] => .nil
  | _ :: xs => insW_pw (srtW_pw xs)
/-- rising rows of the same are the same -/
theorem srtW_uniq : ∀ {a b : List (Int × Int)}, a.Perm b → (∀ p ∈ a, bdP p) → a.Pairwise (fun p q => cdP p ≤ cdP q) → b.Pairwise (fun p q => cdP p ≤ cdP q) → a = b
  | [], b, h, _, _, _ => by rw [h.nil_eq]
  | x :: a, [], h, _, _, _ => by have := h.length_eq; simp at this
  | x :: a, y :: b, h, hb, h1, h2 => by
    have hby : ∀ p ∈ y :: b, bdP p := fun p m => hb p (h.mem_iff.mpr m)
    have e : x = y := by
      refine cdP_inj (hb x List.mem_cons_self) (hby y List.mem_cons_self) (Int.le_antisymm ?_ ?_)
      · rcases List.mem_cons.mp (h.mem_iff.mpr List.mem_cons_self : y ∈ x :: a) with e | m
        · rw [e]; exact Int.le_refl _
        · exact (List.pairwise_cons.mp h1).1 y m
      · rcases List.mem_cons.mp (h.mem_iff.mp List.mem_cons_self : x ∈ y :: b) with e | m
        · rw [e]; exact Int.le_refl _
        · exact (List.pairwise_cons.mp h2).1 x m
    subst e
    rw [srtW_uniq ((List.perm_cons x).mp h) (fun p m => hb p (List.mem_cons_of_mem _ m)) (List.pairwise_cons.mp h1).2 (List.pairwise_cons.mp h2).2]
theorem srtW_of {a b : List (Int × Int)} (h : a.Perm b) (hb : ∀ p ∈ a, bdP p) (p : a.Pairwise (fun p q => cdP p ≤ cdP q)) : a = srtW b := srtW_uniq (h.trans (srtW_perm b).symm) hb p (srtW_pw b)
theorem srtW_congr {a b : List (Int × Int)} (h : a.Perm b) (hb : ∀ p ∈ a, bdP p) : srtW a = srtW b := srtW_of ((srtW_perm a).trans h) (fun p m => hb p ((srtW_perm a).mem_iff.mp m)) (srtW_pw a)
theorem rpa_perm {α : Type} {f : α → PyData} {H : Hp} {xs ys : List V} (h : xs.Perm ys) : ∀ {ps : List α}, RpA H (ps.map f) xs → ∃ qs : List α, qs.Perm ps ∧ RpA H (qs.map f) ys := by
  induction h with
  | nil => exact fun {ps} r => ⟨ps, .refl _, r⟩
  | cons x _ ih =>
    intro ps r
    cases ps with
    | nil => exact absurd r.len (by simp)
    | cons p ps =>
      obtain ⟨v, t, e, r1, r2⟩ := r
      cases e
      obtain ⟨qs, h1, h2⟩ := ih r2
      exact ⟨p :: qs, h1.cons p, RpA.cons r1 h2⟩
  | swap x y l =>
    intro ps r
    match ps, r with
    | [], r => exact absurd r.len (by simp)
    | [p], r => exact absurd r.len (by simp)
    | p :: q :: ps, r =>
      obtain ⟨v, t, e, r1, v2, t2, e2, r2, r3⟩ := r
      cases e
      cases e2
      exact ⟨q :: p :: ps, .swap _ _ _, RpA.cons r2 (RpA.cons r1 r3)⟩
  | trans _ _ ih1 ih2 =>
    intro ps r
    obtain ⟨qs, h1, h2⟩ := ih1 r
    obtain ⟨us, h3, h4⟩ := ih2 h2
    exact ⟨us, h3.trans h1, h4⟩
theorem code_pD (p : Int × Int) : TS.code 64 [p.1, p.2] = cdP p := code_pair p.1 p.2
section
variable {X : Cx} {K : PySem.W.Frag} {H : Hp}
theorem cr_sortedWK (h : X.K = K := by rfl) : CallR X (.builtin "sorted") (rSortU K 2 64) := h ▸ cr_sortT (by decide)
theorem cn_sortW {ps : List (Int × Int)} (hl : ps.length < 64) (hb : ∀ p ∈ ps, bdP p) : CN (rSortU K 2 64) [wD ps] H ((srtW ps).map pD) := fun H1 vs e r Q q => by
  obtain ⟨v, t, rfl, ⟨a, xs, rfl, k1, k2⟩, rfl⟩ := r
  refine ⟨a, xs, rfl, SqL.of k1, by rw [k2.len, List.length_map]; exact hl, fun x hx => ?_, fun ys p hp hpw hn => ?_⟩
  · obtain ⟨i, hi⟩ := List.getElem?_of_mem hx
    obtain ⟨d, q1, q2⟩ := k2.getv hi
    obtain ⟨pr, q3, rfl⟩ := map_get q1
    obtain ⟨b, o, rfl, g1, _⟩ := q2.pD
    obtain ⟨z1, z2⟩ := hb pr (List.mem_of_getElem? q3)
    exact ⟨[pr.1, pr.2], ⟨b, rfl, .inl (.inr ⟨o, g1⟩)⟩, rfl, fun m hm => by
      rcases List.mem_cons.mp hm with rfl | hm
      · exact z1
      · rw [List.mem_singleton.mp hm]; exact z2⟩
  · obtain ⟨qs, h1, h2⟩ := rpa_perm hp.symm (ps := ps) k2
    have es : qs = srtW ps := by
      refine srtW_of h1 (fun p m => hb p (h1.mem_iff.mp m)) ?_
      rw [List.pairwise_iff_getElem] at hpw ⊢
      intro i j hi hj hij
      have li : ys.length = qs.length := by rw [h2.len, List.length_map]
      have gi : ∀ n (hn : n < qs.length), TupI K H1 (ys[n]'(by omega)) [qs[n].1, qs[n].2] := fun n hn => by
        have z := h2.get2 (i := n) (d := pD qs[n]) (v := ys[n]'(by omega)) (by rw [List.getElem?_map, List.getElem?_eq_getElem hn]; rfl) (List.getElem?_eq_getElem (by omega))
        obtain ⟨b, o, e1, g1, _⟩ := z.pD
        exact ⟨b, e1, .inl (.inr ⟨o, g1⟩)⟩
      have z := hpw i j (by omega) (by omega) hij _ _ (gi i hi) (gi j hj)
      rwa [code_pD, code_pD] at z
    rw [es] at h2
    exact q p ys _ hn (Ex.new hn) upd_same (h2.ex (Ex.new hn))
end
end Bm

/-! len(set(..)), the last item, not in a web. -/
namespace Bm
open PySem PySem.Spec PyProof.Rows L2 Evl
/-- where a comprehension within another one stands -/
def asgVal (s : Stmt) : Expr := match s with
  | .Assign _ v _ => v
  | _ => .Name "" ⟨0, 0, 0, 0⟩
def compSc (e : Expr) : Scope := match e with
  | .ListComp _ _ sc _ => sc
  | _ => defScope (.Pass ⟨0, 0, 0, 0⟩)
section
variable {X : Cx} {K : PySem.W.Frag}
theorem pe_lenSetIK {a : Expr} {ta : TE} {p p2 q pos : Pos} (hc : X.calm = true) (hg : Gl X "len") (hm : X.mg "len" = none) (hg2 : Gl X "set") (hm2 : X.mg "set" = none) (ha : PE X a ta)
    (hK : X.K = K := by rfl) (na : starEach [a] X.env = (false, eval a X.env) :: starEach [] X.env := by rfl) : PE X (.Call (.Name "len" p) [.Call (.Name "set" p2) [a] [] q] [] pos) (tLenSetI K ta) := hK ▸ pe_lenSetI hc hg hm hg2 hm2 ha na
end
section
variable {K : PySem.W.Frag} {σ : L2.St} {H : Hp} {te : TE}
theorem evd_lenSet {ns : List Int} (h : EvD te σ H (iL ns)) (hl : ns.length < 64) (n : ns.Nodup) : EvD (tLenSetI K te) σ H (.int ns.length) := fun H1 e Q q => h H1 e _ fun v H2 e2 r => by
  obtain ⟨a, rfl, k⟩ := r.iL
  exact ⟨a, ns, rfl, SqL.of k, hl, n, q _ H2 e2 rfl⟩
theorem rd_niW {p : Int × Int} {ps : List (Int × Int)} : RD (rNotInD K) (pD p) (wD ps) H (.bool (!decide (p ∈ ps))) := rd_val fun H1 v u ex r1 r2 =>
  ⟨.bl (!decide (p ∈ ps)), rfl, fun Q q => ⟨pD p, ps.map pD, r1.dp, r2.dp, (cmp_pD p).shaped (by decide), (cmp_wD ps).shaped (by decide), by rw [show ((ps.map pD).any fun z => PyData.eqv z (pD p)) = decide (p ∈ ps) from (any_eqv cmp_pD (fun a b => pD_inj) p ps).trans (decide_eq_decide.mpr Iff.rfl)]; exact q⟩⟩
theorem atI_m1 {α : Type} {xs : List α} {x : α} (h : xs[xs.length - 1]? = some x) : atI xs (-1) = some x := by
  have hl : 0 < xs.length := by
    have := (List.getElem?_eq_some_iff.mp h).1
    omega
  have e : ixN xs.length (-1) = some (xs.length - 1) := by
    unfold ixN
    rw [if_neg (by omega), if_pos (by omega)]
    congr 1
    omega
  unfold atI
  rw [e]
  exact h
end
/-! ### sorted of a list of ints; a loop over a new list -/
section
variable {X : Cx} {K : PySem.W.Frag} {σ : L2.St} {H : Hp} {tl : TE} {D : Ends} {g : TG} {tu : TS}
theorem cr_sortedIK (h : X.K = K := by rfl) : CallR X (.builtin "sorted") (rSortedI K) := h ▸ cr_sortedI
theorem cn_sortI {ns : List Int} : CN (rSortedI K) [iL ns] H ((srt ns).map PyData.int) := fun H1 vs e r Q q => by
  obtain ⟨v, t, rfl, hv, rfl⟩ := r
  obtain ⟨a, rfl, k⟩ := hv.iL
  refine ⟨a, ns, rfl, SqL.of k, fun ns' p h1 h2 hn => ?_⟩
  rw [srt_of h1 h2]
  exact q p _ _ hn (Ex.new hn) upd_same (rpa_ints _)
/-- over a new list: other new lists may change -/
theorem s_forN {α : Type} {f : α → PyData} {xs : List α} (h : EvN tl σ H (xs.map f)) (im : ∀ x ∈ xs, imm (f x) = true)
    (k : ∀ p vs H1, H p = none → Ex H H1 → H1 p = some (.lst vs) → ∃ Pv : Nat → L2.St → Hp → Prop, Pv 0 σ H1 ∧ (∀ i σ' H', Pv i σ' H' → KT H1 H' ∧ H' p = some (.lst vs)) ∧
      (∀ i x v σ' H', xs[i]? = some x → Rp H' (f x) v → Pv i σ' H' → g v σ' H' fun σ2 H2 => tu { D with nx := Pv (i + 1), ct := Pv (i + 1), bk := D.nx } σ2 H2) ∧ ∀ σ' H', Pv xs.length σ' H' → D.nx σ' H') :
    tFor (iList K tl) g tu D σ H := h H (Ex.refl H) _ fun p vs H1 hp e h1 h2 => by
  obtain ⟨Pv, p0, pe, ps, pd⟩ := k p vs H1 hp e h1
  have hl : vs.length = xs.length := by rw [h2.len, List.length_map]
  refine ⟨p, rfl, ⟨vs, SqL.of h1⟩, for_list (xs := vs) Pv p0 (fun i σ' H' _ q => SqL.of (pe i σ' H' q).2) (fun i v2 σ' H' hi q => ?_) (fun σ' H' q => pd σ' H' (hl ▸ q))⟩
  obtain ⟨d2, q1, q2⟩ := h2.getv hi
  obtain ⟨x, q3, rfl⟩ := map_get q1
  exact ps i x v2 σ' H' q3 (Rp.keep (pe i σ' H' q).1 (im x (List.mem_of_getElem? q3)) q2) q
end
/-- a branching with a place behind it told once -/
theorem joinK {A : Type} {D : Ends} {s : TS} {σ : L2.St} {H : Hp} (mk : A → L2.St) (J : A → Hp → Prop) (cont : ∀ w H', J w H' → D.nx (mk w) H') (main : (∀ w H', J w H' → D.nx (mk w) H') → s D σ H) : s D σ H := main cont
/-! ### a new list that is only read -/
def NL (H0 H' : Hp) (ds : List PyData) (v : V) : Prop := ∃ a vs, v = .ref a ∧ H0 a = none ∧ H' a = some (.lst vs) ∧ RpA H' ds vs
theorem NL.rp {H0 H' : Hp} {ds : List PyData} {v : V} (h : NL H0 H' ds v) : Rp H' (.list ds) v := by
  obtain ⟨a, vs, e, _, k1, k2⟩ := h
  exact ⟨a, vs, e, k1, k2⟩
theorem NL.ex {H0 H1 H2 : Hp} {ds : List PyData} {v : V} (h : NL H0 H1 ds v) (e : Ex H1 H2) : NL H0 H2 ds v := by
  obtain ⟨a, vs, e1, n, k1, k2⟩ := h
  exact ⟨a, vs, e1, n, e _ _ k1, k2.ex e⟩
theorem s_asgNL {H0 H : Hp} {te : TE} {σ : L2.St} {D : Ends} {i : Nat} {ds : List PyData} (h : EvN te σ H ds) (e0 : Ex H0 H) (k : ∀ v H1, Ex H H1 → NL H0 H1 ds v → D.nx (σ.set i (some v)) H1) : tAsg te (gName i) D σ H :=
  h H (Ex.refl H) _ fun p vs H1 hp e h1 h2 => k _ H1 e ⟨p, vs, rfl, fresh_back e0 hp, h1, h2⟩
theorem EvN.is {te : TE} {σ : L2.St} {H : Hp} {ds es : List PyData} (h : EvN te σ H ds) (e : ds = es) : EvN te σ H es := e ▸ h
end Bm

/-! Dicts whose keys are plain tuples of ints: a display of one pair; a plain tuple of a list. -/
namespace Bm
open PySem PySem.Spec PyProof.Rows L2 Evl
/-- {k: v}, k a plain tuple of ints -/
def tDispT (tk tv : TE) : TE := fun σ H Q => ∀ p, H p = none → tk σ (upd H p (.dT [])) fun x H1 => tv σ H1 fun y H2 => ∃ (k : List Key) (b : Addr), x = .ref b ∧ H2 b = some (.tup (k.map kV)) ∧ H2 p = some (.dT []) ∧ Q (.ref p) (upd H2 p (.dT [(k, y)]))
theorem pe_dispT {X : Cx} {pos : Pos} {ke ve : Expr} {tk tv : TE} (hu : X.A.units < cLine) (hk : PE X ke tk) (hv : PE X ve tv) : PE X (.Dict [some ke] [ve] pos) (tDispT tk tv) := by
  refine ⟨fun pins s σ H Q I q => ?_⟩
  have hn := I.hok.fresh (Nat.le_refl s.heap.objs.size)
  have I1 := I.laid (a := s.heap.objs.size) (o := .dT []) (h' := s.heap.push { cls := .type "dict", data := .dict #[] }) (t' := s.toks) (fun _ _ q => Heap.get?_push_of_some _ q) (Nat.le_refl _) (dt_empty s.heap I.big)
  have run := (pps_cons hk hv pps_nil : PPs X pos [some ke] [ve] [(tk, tv)]).run pins { s with heap := s.heap.push { cls := .type "dict", data := .dict #[] } } σ (upd H s.heap.objs.size (.dT []))
    (fun ps H2 => match ps with
      | [(x, y)] => ∃ (k : List Key) (b : Addr), x = .ref b ∧ H2 b = some (.tup (k.map kV)) ∧ H2 s.heap.objs.size = some (.dT []) ∧ Q (.ref s.heap.objs.size) (upd H2 s.heap.objs.size (.dT [(k, y)]))
      | _ => False) I1 (q _ hn)
  refine wpAny_Dict_any rfl rfl (by simp) (Nat.le_of_ble_eq_true rfl) (thn run fun ws s2 ⟨ps, H2, I2, rel, q1⟩ => ?_)
  match ps, q1 with
  | [(x, y)], ⟨k, b, ex, hb, hp, q2⟩ =>
  subst ex
  cases rel with
  | @cons a c as cs h t =>
    cases t
    obtain ⟨u, r⟩ := c
    obtain ⟨r1, r2⟩ := h
    cases (show u = Value.ref b from r1)
    obtain ⟨z, hd, xs, relT, dd⟩ := dt_of I2.hok hp
    cases relT
    unfold PySem.storeAll
    rw [List.forIn_cons]
    refine wpAny_bind (wpAny_bind (wpAny_dictSet_heap (knd := tupleKind (mixKind X.prog X.w)) (hsz := by show 0 ≤ _; exact Nat.zero_le _) hu (key_of I2.hok hb) dd fun h' dd' hs => wpAny_pure ?_))
    show wpAny _ _ (forIn ([] : List (Value × Value)) _ _) _ _ _
    rw [List.forIn_nil]
    refine wpAny_pure ⟨.ref s.heap.objs.size, _, ?_, rfl, q2⟩
    obtain ⟨o, es, ep, hq, h2, h3, h4, h6, h5⟩ := dd'
    refine d_write I2 (by rw [hp]; exact True.intro) hs ⟨o, hq⟩ ⟨by show 1 ≤ sizeLine; decide, hd, _, ?_, o, es, ep, hq, h2, h3, h4, h5⟩
    have rel0 : L2.KT H2 ([] : List (List Key × V)) [] := Paired.nil
    have rel1 := L2.KT.put rel0 k hb r2
    refine L2.KT.keeps rel1 fun c ys ec => ?_
    rw [upd_ne (ne_of ec hp (fun z => nomatch z))]
    exact ec
/-! ### for k in d, d a dict with tuple keys (locked meanwhile) -/
def lockD (d : Addr) (kvs : List (List Key × V)) (od : Obj) (D : Ends) : Ends := ⟨fun σ' H' => H' d = some (.frz od (.dT kvs)) ∧ D.nx σ' (upd H' d (.dT kvs)), fun v H' => H' d = some (.frz od (.dT kvs)) ∧ D.rt v (upd H' d (.dT kvs)), fun σ' H' => H' d = some (.frz od (.dT kvs)) ∧ D.bk σ' (upd H' d (.dT kvs)), fun σ' H' => H' d = some (.frz od (.dT kvs)) ∧ D.ct σ' (upd H' d (.dT kvs))⟩
theorem s_forDT {D : Ends} {σ : L2.St} {H : Hp} {i : Nat} {d : Addr} {kvs : List (List Key × V)} {g : TG} {tu : TS} (hi : σ[i]? = some (some (.ref d))) (hd : H d = some (.dT kvs)) (Pv : Obj → Nat → L2.St → Hp → Prop)
    (p0 : ∀ od, Pv od 0 σ (upd H d (.frz od (.dT kvs)))) (pe : ∀ od j σ' H', Pv od j σ' H' → H' d = some (.frz od (.dT kvs)))
    (turn : ∀ od j k v q σ' H', kvs[j]? = some (k, v) → H' q = some (.tup (k.map kV)) → Pv od j σ' H' → g (.ref q) σ' H' fun σ2 H2 => tu { lockD d kvs od D with nx := Pv od (j + 1), ct := Pv od (j + 1), bk := (lockD d kvs od D).nx } σ2 H2)
    (done : ∀ od σ' H', Pv od kvs.length σ' H' → D.nx σ' (upd H' d (.dT kvs))) : tLock (tFor (iKeys (tVar i)) g tu) D σ H :=
  ⟨d, .dT kvs, hd, True.intro, fun od => ⟨.ref d, hi, d, od, rfl, .inr ⟨kvs, upd_same, for_it (D := lockD d kvs od D) walk_keysT (Pv od) (p0 od) (fun j σ' H' _ p => pe od j σ' H' p) (fun j x σ' H' H'' _ p y => by
    obtain ⟨rfl, k, v, q, h1, rfl, h2⟩ := y
    exact turn od j k v q σ' _ h1 h2 p) fun σ' H' p => ⟨pe od _ σ' H' p, done od σ' H' p⟩⟩⟩⟩
/-! ### plain tuples of ints -/
def PT (H : Hp) (ns : List Int) (v : V) : Prop := ∃ a, v = .ref a ∧ H a = some (.tup (ns.map V.int))
theorem PT.ex {H H' : Hp} {ns : List Int} {v : V} (h : PT H ns v) (e : Ex H H') : PT H' ns v := by
  obtain ⟨a, e1, e2⟩ := h
  exact ⟨a, e1, e _ _ e2⟩
/-- tuple(a list), laid plainly -/
def rTupP (K : PySem.W.Frag) : List V → Hp → VK → Prop := fun xs H Q => ∃ p ys, xs = [.ref p] ∧ SqL K H p ys ∧ ∀ l, H l = none → Q (.ref l) (upd H l (.tup ys))
theorem cr_tupP {X : Cx} : CallR X (.type "tuple") (rTupP X.K) := by
  intro pins s σ H xs us Q I r h
  obtain ⟨p, ys, rfl, hq, q⟩ := h
  obtain ⟨u, rfl, ru⟩ := vals1 r
  cases ru
  obtain ⟨its, rv, pl, z⟩ := I.list hq
  refine call_tuple_list pl.isList (fun h2 kp => ?_) (by rw [List.size_toArray, ← rv.length]; exact z)
  have J : L2.Inv X pins σ H { s with heap := h2, toks := s.toks } := I.kept (t' := s.toks) kp
  have fr : H h2.objs.size = none := J.hok.fresh (Nat.le_refl _)
  refine ⟨.ref h2.objs.size, upd H h2.objs.size (.tup ys), J.laid (t' := s.toks) (fun b o e => Heap.get?_push_of_some _ e) (Nat.le_refl _) (show ObjOk X.prog X.w _ _ _ (.tup ys) from ⟨z, its, rv, ?_⟩), rfl, q _ fr⟩
  exact IsTup.new _ _
theorem cr_tupPK {X : Cx} {K : PySem.W.Frag} (h : X.K = K := by rfl) : CallR X (.type "tuple") (rTupP K) := h ▸ cr_tupP
/-- an expression that gives a plain tuple -/
def EvP2 (te : TE) (σ : L2.St) (H : Hp) (ns : List Int) : Prop := ∀ H1, Ex H H1 → ∀ Q : VK, (∀ p H2, H1 p = none → Ex H1 H2 → H2 p = some (.tup (ns.map V.int)) → Q (.ref p) H2) → te σ H1 Q
section
variable {K : PySem.W.Frag} {σ : L2.St} {H : Hp} {te tb : TE} {ns : List Int} {a : Addr} {i : Nat}
theorem evp_tup {tr : TE} (h : EvD tr σ H (iL ns)) : EvP2 (tCB (rTupP K) (tCons tr tNil)) σ H ns := fun H1 e Q q => h H1 e _ fun v H2 e2 r => by
  obtain ⟨p, rfl, k⟩ := r.iL
  exact ⟨p, _, rfl, SqL.of k, fun l hl => q l _ (fresh_back e2 hl) (e2.trans (Ex.new hl)) upd_same⟩
theorem evd_lenP (hi : σ[i]? = some (some (.ref a))) (ha : H a = some (.tup (ns.map V.int))) : EvD (tCB (rLenS K) (tCons (tVar i) tNil)) σ H (.int ns.length) := fun H1 e Q q =>
  ⟨.ref a, hi, a, _, rfl, .inr (.inl (.inl (e _ _ ha))), by rw [List.length_map]; exact q _ H1 (Ex.refl H1) rfl⟩
theorem evd_ixP {k : Int} {z : Int} (hi : σ[i]? = some (some (.ref a))) (ha : H a = some (.tup (ns.map V.int))) (hk : EvD tb σ H (.int k)) (hz : atI ns k = some z) : EvD (tOp (rIxT K) (tVar i) tb) σ H (.int z) := fun H1 e Q q =>
  ⟨.ref a, hi, hk H1 e _ fun v H2 e2 r => ⟨a, _, k, .int z, rfl, r, .inl (.inl ((e.trans e2) _ _ ha)), atI_map hz, q _ H2 e2 rfl⟩⟩
end
theorem hu_of0 {k : Nat} {A : Around} (hr : Room k A) : A.units < cLine := by have := hr.un; omega
section
variable {K : PySem.W.Frag} {σ : L2.St} {H : Hp} {te : TE} {g : TG}
/-- over a plain tuple of ints -/
theorem evn_lcP {ns : List Int} {a : Addr} {i : Nat} {vs : List Nat} {tt : TT} (y : Int → PyData) (hi : σ[i]? = some (some (.ref a))) (ha : H a = some (.tup (ns.map V.int))) (hz : ns.length ≤ 50000)
    (turn : ∀ x H1, x ∈ ns → Ex H H1 → ∃ σ2, (∀ Q : L2.St → Hp → Prop, Q σ2 H1 → g (.int x) (wipe σ vs) H1 Q) ∧ wipe σ2 vs = wipe σ vs ∧ EvT tt σ2 H1 true ∧ EvD te σ2 H1 (y x))
    (im : ∀ x ∈ ns, imm (y x) = true) : EvN (tLc (iTup K (tVar i)) g tt te vs) σ H (ns.map y) := fun H1 e1 Q q => by
  have h1 := e1 _ _ ha
  have hl : (ns.map V.int).length = ns.length := List.length_map _
  refine ⟨.ref a, hi, a, rfl, ⟨_, .inl (.inl h1)⟩, fun Dl hD => lc_tup (xs := ns.map V.int) (fun i H' => Own H1 H' Dl ((ns.take i).map y)) ?_ (fun i H' _ o => .inl (.inl (o.ex a _ h1))) (fun i x2 H' hi o => ?_) fun H' o => ?_⟩
  · exact ⟨hD, Ex.new hD, ⟨[], upd_same, RpA.nil⟩, rfl⟩
  · obtain ⟨x, q3, rfl⟩ := map_get hi
    have hx : x ∈ ns := List.mem_of_getElem? q3
    obtain ⟨σ2, g1, g2, g3, g4⟩ := turn x H' hx (e1.trans o.ex)
    have hlen : i < ns.length := (List.getElem?_eq_some_iff.mp q3).1
    refine g1 _ ⟨g2, g3 H' (Ex.refl H') _ fun H3 e3 => ?_⟩
    have et : ns.take (i + 1) = ns.take i ++ [x] := by rw [List.take_add_one, q3]; rfl
    have o3 := o.step e3
    rw [if_pos rfl]
    refine g4 H3 e3 _ fun w H4 e4 r4 => ?_
    obtain ⟨acc, k1, k2⟩ := (o3.step e4).has
    have kt : KT H4 (upd H4 Dl (.lst (acc ++ [w]))) := KT.lst k1
    have hb : acc.length ≤ i := by
      rw [k2.len, List.length_map, List.length_take]
      omega
    refine ⟨acc, k1, sz_lt (by omega), o.new, Ex.mut (o3.step e4).ex o.new, ⟨_, upd_same, ?_⟩, ?_⟩
    · rw [et, List.map_append]
      exact (RpA.keep kt o.im k2).snoc (Rp.keep kt (im x hx) r4)
    · rw [et, List.map_append]
      exact immA_app o.im (immA_one (im x hx))
  · rw [hl, List.take_length] at o
    obtain ⟨acc, k1, k2⟩ := o.has
    exact q Dl acc H' o.new o.ex k1 k2
/-- a, b = a pair of data -/
theorem g_two {d1 d2 : PyData} {v : V} {i j : Nat} {Q : L2.St → Hp → Prop} (r : Rp H (.tuple [d1, d2]) v) (q : ∀ u1 u2, Rp H d1 u1 → Rp H d2 u2 → Q ((σ.set i (some u1)).set j (some u2)) H) : gTup K 2 (gCons (gName i) (gCons (gName j) gNil)) v σ H Q := by
  obtain ⟨a, xs, o, rfl, h1, _, u1, r1, rfl, q1, u2, r2, rfl, q2, q3⟩ := r
  cases q3
  exact ⟨a, _, rfl, .inl (.inr ⟨o, h1⟩), rfl, u1, [u2], rfl, u2, [], rfl, rfl, q u1 u2 q1 q2⟩
theorem valV_mem {κ : Type} [DecidableEq κ] {k : κ} {v : V} : ∀ {kvs : List (κ × V)}, (kvs.map (·.1)).Nodup → (k, v) ∈ kvs → valV kvs k = some v
  | [], _, h => by cases h
  | p :: kvs, n, h => by
    rw [List.map_cons, List.nodup_cons] at n
    rcases List.mem_cons.mp h with rfl | h
    · exact valV_pos rfl
    · by_cases e : p.1 = k
      · exact absurd (List.mem_map.mpr ⟨_, h, e.symm⟩) n.1
      · rw [valV_neg e]
        exact valV_mem n.2 h
end
end Bm

/-! Texts: str of an int, join. -/
namespace Bm
open PySem PySem.Spec PyProof.Rows L2 Evl
def rStrI : List V → Hp → VK → Prop := fun xs H Q => ∃ i, xs = [.int i] ∧ i.natAbs.log2 < 1920 ∧ Q (.str (toString i)) H
theorem cr_strI {X : Cx} : CallR X (.type "str") rStrI := call_str_int
def rJoinK (K : PySem.W.Frag) : V → List V → Hp → VK → Prop := fun x xs H Q => ∃ a p, ∃ ys : List Str, x = .str a ∧ xs = [.ref p] ∧ (SqL K H p (ys.map V.str) ∨ SqT K H p (ys.map V.str)) ∧ (ys.map (·.length)).sum + ys.length * a.length ≤ 16777216 ∧ Q (.str (Txt.join a ys)) H
theorem mt_joinK {X : Cx} {K : PySem.W.Frag} (h : X.K = K := by rfl) : MtR X "str.join" (rJoinK K) := h ▸ mt_join
section
variable {K : PySem.W.Frag} {σ : L2.St} {H : Hp} {te to : TE}
theorem cd_strI {i : Int} (h : i.natAbs.log2 < 1920) : CD rStrI [.int i] H (.str (toString i)) := fun H1 vs e r Q q => by
  obtain ⟨v, w, rfl, rfl, rfl⟩ := r
  exact ⟨i, rfl, h, q _ H1 (Ex.refl H1) rfl⟩
theorem evd_join {a : Str} {ys : List Str} (ho : EvD to σ H (.str a)) (h : EvD te σ H (.list (ys.map PyData.str))) (hz : (ys.map (·.length)).sum + ys.length * a.length ≤ 16777216) : EvD (tM1 (rJoinK K) to te) σ H (.str (Txt.join a ys)) := fun H1 e Q q =>
  ho H1 e _ fun v H2 e2 r2 => ⟨⟨a, r2⟩, h H2 (e.trans e2) _ fun u H3 e3 r3 => by
    obtain rfl : v = .str a := r2
    obtain ⟨p, xs, rfl, k1, k2⟩ := r3
    have := k2.strs
    subst this
    exact ⟨a, p, ys, rfl, rfl, .inl (SqL.of k1), hz, q _ H3 (e2.trans e3) rfl⟩⟩
end
def rAddT : R2 := fun x y H Q => ∃ i j : Str, x = .str i ∧ y = .str j ∧ i.length + j.length ≤ sizeLine ∧ Q (.str (i ++ j)) H
theorem op_addT {X : Cx} : OpR X (binaryOp .Add) rAddT := op_add_str
theorem rd_addT {H : Hp} {i j : Str} (h : i.length + j.length ≤ 100000) : RD rAddT (.str i) (.str j) H (.str (i ++ j)) := rd_val fun H1 v u e r1 r2 => ⟨.str (i ++ j), rfl, fun Q q => ⟨i, j, r1, r2, sz_of h, q⟩⟩
end Bm

/-! Slices of tuples, tuple * int, tuple(range), max and min of two, lists of bools, caught errors and isinstance. -/
namespace Bm
open PySem PySem.Spec PyProof.Rows L2 Evl
/-! ### slices of tuples -/
def rSlF (K : PySem.W.Frag) : V → Option Int → Option Int → Hp → VK → Prop := fun x lo hi H Q => ∃ a xs, x = .ref a ∧ SqT K H a xs ∧
  (HT.sIx xs.length 0 lo = 0 ∧ HT.sIx xs.length xs.length hi = xs.length → Q (.ref a) H) ∧ ∀ p o, H p = none → o.dict = none → Q (.ref p) (upd H p (.frz o (.tup (cutV xs lo hi))))
theorem sl_tupF {X : Cx} : SlR X (rSlF X.K) := by
  rintro pins s σ H x v vl vu lo hi sl Q I rx hs pl pu ⟨a, xs, rfl, hx, q1, q2⟩
  cases rx
  obtain ⟨its, r, ht, hz⟩ := I.tuple hx
  have ln : xs.length = its.toArray.size := r.length
  rw [ln] at q1 hz
  refine ⟨"tuple", _, PyProof.Rows.slot_tuple_getitem.lookup, ht.typeIs, ?_⟩
  rcases Classical.em (HT.sIx its.toArray.size 0 lo = 0 ∧ HT.sIx its.toArray.size its.toArray.size hi = its.toArray.size) with all | part
  · exact getItem_tuple_whole ht hs pl pu all ⟨.ref a, H, I, rfl, q1 all⟩
  · refine HT.getItem_tuple_cut ht hs pl pu part ?_ hz
    rw [← ln] at hz ⊢
    exact tupNew (tk := s.toks) I (fun _ _ e => e) ((r.drop _).take _) (Nat.le_trans (cutV_length xs lo hi) hz) q2
theorem sl_tupFK {X : Cx} {K : PySem.W.Frag} (h : X.K = K := by rfl) : SlR X (rSlF K) := h ▸ sl_tupF
theorem cutA_mid {α : Type} {xs : List α} {a b : Nat} (h : a ≤ b) (hb : b ≤ xs.length) : cutA xs (some (a : Int)) (some (b : Int)) = (xs.drop a).take (b - a) := by
  unfold cutA
  rw [HT.sIx_nat, HT.sIx_nat, Nat.min_eq_left hb, Nat.min_eq_left (by omega)]
section
variable {K : PySem.W.Frag} {σ : L2.St} {H : Hp} {ta tb te : TE} {ds : List PyData}
theorem evd_slT {tl th : TO} {lo hi : Option Int} (h : EvD te σ H (.tuple ds)) (h1 : EvP tl σ H lo) (h2 : EvP th σ H hi) : EvD (tSl (rSlF K) te tl th) σ H (.tuple (cutA ds lo hi)) := fun H0 e Q q =>
  h H0 e _ fun v H2 e2 r => h1 H2 (e.trans e2) _ fun H3 e3 => h2 H3 ((e.trans e2).trans e3) _ fun H4 e4 => by
    have e24 := e3.trans e4
    have r4 := r.ex e24
    obtain ⟨a, xs, o, rfl, k1, k0, k2⟩ := id r4
    refine ⟨a, xs, rfl, .inl (.inr ⟨o, k1⟩), fun w => ?_, fun p o' hp ho => q _ _ ((e2.trans e24).trans (Ex.new hp)) ⟨p, _, o', rfl, upd_same, ho, (cutA_rp k2 lo hi).ex (Ex.new hp)⟩⟩
    have ew : cutA ds lo hi = ds := by
      unfold cutA
      rw [← k2.len, w.1, w.2, List.drop_zero, Nat.sub_zero, k2.len, List.take_length]
    rw [ew] at q
    exact q _ H4 (e2.trans e24) r4
end
/-! ### tuple * int -/
theorem tuple_mul1 (l : Addr) (items : Array Value) (n : Nat) (dd : Option Addr) (sl : Array (Option Value)) (u : Tok) :
    Meets (Builtin.«tuple.__mul__» ⟨[.ref l, .int 1 u], []⟩) (fun _ R s => s.heap.get? l = some { cls := .type "tuple", dict := dd, data := .seq items n, slots := sl } ∧ R (.ok (.ret (Value.ref l))) s) :=
  .of_wp fun prog w A R s h => by
    obtain ⟨hp, g, d, tk, os⟩ := s
    obtain ⟨hl, h⟩ := h
    have f1 := AutoSeq1.idx_int
    have hT : (⟨hp, g, d, tk, os⟩ : Shared).TypeIs (.ref l) "tuple" := ⟨_, hl, rfl⟩
    have c0 : (decide ((1 : Int) < -(2 ^ 63)) || decide ((1 : Int) ≥ 2 ^ 63)) = false := by decide
    have c1 : (items.isEmpty || (1 : Int) == 1) = true := by rw [Bool.or_eq_true]; exact .inr rfl
    wp_walk using wpAny_loadPart' hl, wpAny_typeOf hT
    repeat (first
      | (refine wpAny_ite_false (decide_eq_false (by rw [c0]; exact Bool.false_ne_true)) ?_; wp_walk using wpAny_loadPart' hl, wpAny_typeOf hT)
      | (refine wpAny_ite_true (decide_eq_true c1) ?_; wp_walk using wpAny_loadPart' hl, wpAny_typeOf hT))
    all_goals exact ⟨_, rfl, h⟩
def rRepF (K : PySem.W.Frag) : R2 := fun x y H Q => ∃ l k xs, x = .ref l ∧ y = .int k ∧ SqT K H l xs ∧ xs ≠ [] ∧ 1 ≤ k ∧ k ≤ 1000 ∧ xs.length ≤ 1000 ∧ (k = 1 → Q (.ref l) H) ∧ ∀ p o, H p = none → o.dict = none → Q (.ref p) (upd H p (.frz o (.tup (List.replicate k.toNat xs).flatten)))
theorem long_rep {α : Type} {l : List α} {k : Int} (h : k ≤ 1000) (z : l.length ≤ 1000) : (List.replicate k.toNat l).flatten.length ≤ sizeLine := by
  rw [sizeLine_eq, PyProof.Rows.lm_len_rep_flat]
  have := Nat.mul_le_mul (show k.toNat ≤ 1000 by omega) z
  omega
/-- the questions that tuple.__mul__ asks first -/
theorem rep_asks {its : List Value} {k : Int} (n0 : its ≠ []) (n1 : its.length ≤ 1000) (k1 : 1 < k) (k2 : k ≤ 1000) :
    (decide (k < -(2 ^ 63)) || decide (k ≥ 2 ^ 63)) = false ∧ (its.toArray.isEmpty || k == 1) = false ∧ (decide (k ≤ 0) || its.toArray.isEmpty) = false ∧ (its.toArray.size : Int) * k ≤ 1000000 ∧ Builtin.Tuple.tupleTooMany ((its.toArray.size : Int) * k) = false := by
  have some_ : its.toArray.isEmpty = false := by simpa using n0
  have most : (its.toArray.size : Int) * k ≤ 1000000 := by
    have a : (its.length : Int) * k ≤ 1000 * k := Int.mul_le_mul_of_nonneg_right (by omega) (by omega)
    rw [List.size_toArray]
    omega
  refine ⟨by simp; omega, by simp [some_]; omega, by simp [some_]; omega, most, ?_⟩
  simp only [Builtin.Tuple.tupleTooMany, sizeLine_eq, decide_eq_false_iff_not]
  omega
theorem op_repF {X : Cx} : OpR X (binaryOp .Mult) (rRepF X.K) := by
  rintro pins s σ H x y v u Q I rx ry ⟨l, k, xs, rfl, rfl, hT, hne, h1, h2, hz, q1, q⟩
  cases rx
  obtain ⟨t, rfl⟩ := ry
  obtain ⟨its, r, ⟨⟨cls, dd, data, sl⟩, ho, rfl, n, rfl⟩, _⟩ := I.tuple hT
  have il : its.length = xs.length := r.length.symm
  refine wpAny_binaryOp_repeat_ref (T := "tuple") (U := "int") (by decide) ⟨_, ho, rfl⟩ (fun _ => typeIs_int _ k t) noFill_tuple_mul F.fills_int_mul F.slot_int_rmul repeat_tuple F.slot_int_index.lookup (call_meets F.slot_int_rmul (typeIs_int s k t) F.entry_int_rmul (F.args_int_rmul_2 _ _)
    (int_rmul_tuple k t l its.toArray n dd sl) ⟨ho, rfl, ⟨_, ho, rfl⟩, ?_⟩)
  rcases Int.lt_or_eq_of_le h1 with big | rfl
  · obtain ⟨c0, c1, c2, c3, c4⟩ := rep_asks (its := its) (k := k) (fun e => hne (List.eq_nil_of_length_eq_zero (by rw [← il, e]; rfl))) (by omega) big h2
    refine call_meets F.slot_tuple_mul ⟨_, ho, rfl⟩ F.entry_tuple_mul (F.args_tuple_mul_2 _ _) (tuple_mulW l its.toArray n dd sl k t c0 c1 c2 (by omega) c4 (by rw [size_rep, List.size_toArray]; exact long_rep h2 (by omega))) ⟨ho, ?_⟩
    rw [size_rep]
    exact tupNew (tk := s.toks) I (fun _ _ e => e) (r.rep k.toNat) (long_rep h2 hz) q
  · exact call_meets F.slot_tuple_mul ⟨_, ho, rfl⟩ F.entry_tuple_mul (F.args_tuple_mul_2 _ _) (tuple_mul1 l its.toArray n dd sl t) ⟨ho, ⟨.ref l, H, I, rfl, q1 rfl⟩⟩
theorem op_repFK {X : Cx} {K : PySem.W.Frag} (h : X.K = K := by rfl) : OpR X (binaryOp .Mult) (rRepF K) := h ▸ op_repF
section
variable {K : PySem.W.Frag} {σ : L2.St} {H : Hp} {ta tb te : TE} {ds : List PyData}
theorem evd_repT {k : Int} (ha : EvD ta σ H (.tuple ds)) (hb : EvD tb σ H (.int k)) (hk : 1 ≤ k ∧ k ≤ 1000) (hn : ds ≠ []) (hz : ds.length ≤ 1000) : EvD (tOp (rRepF K) ta tb) σ H (.tuple (List.replicate k.toNat ds).flatten) := fun H0 e Q q =>
  ha H0 e _ fun v H2 e2 r2 => hb H2 (e.trans e2) _ fun u H3 e3 r3 => by
    obtain rfl : u = .int k := r3
    have r4 := r2.ex e3
    obtain ⟨a, xs, o, rfl, k1, k0, k2⟩ := id r4
    refine ⟨a, k, xs, rfl, rfl, .inl (.inr ⟨o, k1⟩), fun z => hn (List.eq_nil_of_length_eq_zero (by rw [← k2.len, z]; rfl)), hk.1, hk.2, by rw [k2.len]; exact hz, fun z => ?_, fun p o' hp ho => q _ _ ((e2.trans e3).trans (Ex.new hp)) ⟨p, _, o', rfl, upd_same, ho, (k2.rep k.toNat).ex (Ex.new hp)⟩⟩
    subst z
    have er : (List.replicate (1 : Int).toNat ds).flatten = ds := by
      show ([ds] : List (List PyData)).flatten = ds
      simp
    rw [er] at q
    exact q _ H3 (e2.trans e3) r4
end
/-! ### tuple(range(..)), max, min -/
def tTupRgF (te : L2.St → Hp → (Int → Int → Hp → Prop) → Prop) : TE := fun σ H Q => te σ H fun a b H1 => RgOk a b ∧ ∀ q o, H1 q = none → o.dict = none → Q (.ref q) (upd H1 q (.frz o (.tup (rgV a b))))
theorem pe_tupRgF {X : Cx} {e : Expr} {te : L2.St → Hp → (Int → Int → Hp → Prop) → Prop} {p pos : Pos} (hc : X.calm = true) (hg : Gl X "tuple") (hm : X.mg "tuple" = none) (he : PRg X e te) (na : starEach [e] X.env = (false, eval e X.env) :: starEach [] X.env := by rfl) : PE X (.Call (.Name "tuple" p) [e] [] pos) (tTupRgF te) := by
  constructor
  intro pins s σ H Q I h
  refine Call_ (ld_blt I hg hm boot_tuple ?_)
  refine PyProof.Rows.callWith_type1 (args_cons (thn (he pins s σ H _ I h) fun x s1 ⟨r, a, b, t, u, v, H1, ex, hr, I1, ⟨b1, b2, b3, b4, b5⟩, q⟩ => args_nil ?_) na) na
  subst ex
  refine call_tuple_range (n := (b - a).toNat) (I1.ok.hd hc) hr (small_one b1 b2 b3 b4) (rangeSize_nat a b) b5 fun h' tk acc hk hi => ?_
  have z := tupNew (tk := tk) (I1.kept (t' := tk) hk) (h2 := h') (xs := rgV a b) (us := acc.toList) (fun _ _ e => e) (vals_rg hi) (by rw [rgV_length, sizeLine_eq]; omega) q
  rwa [Array.toArray_toList] at z
theorem rgV_rgI (n : Int) : rgV 0 n = (rgI 0 n.toNat).map V.int := by
  unfold rgV rgI
  rw [List.map_map, Int.sub_zero]
  rfl
section
variable {K : PySem.W.Frag} {σ : L2.St} {H : Hp} {te : TE}
theorem evd_tupRg {n : Int} (h : EvD te σ H (.int n)) (hz : 0 ≤ n ∧ n ≤ 100000) : EvD (tTupRgF (tRg1 te)) σ H (iD (rgI 0 n.toNat)) := fun H0 e Q q =>
  h H0 e _ fun v H2 e2 r => ⟨n, r, RgOk.of_le (by omega) (by omega) (by omega) (by omega), fun p o hp ho => by
    rw [rgV_rgI]
    exact q _ _ (e2.trans (Ex.new hp)) ⟨p, _, o, rfl, upd_same, ho, rpa_ints _⟩⟩
end
def rMin2 : List V → Hp → VK → Prop := fun xs H Q => ∃ i j, xs = [.int i, .int j] ∧ Q (.int (if j < i then j else i)) H
theorem cr_max2 {X : Cx} (hc : X.calm = true) : CallR X (.builtin "max") rMax2 := call_max2 hc
theorem cr_min2 {X : Cx} (hc : X.calm = true) : CallR X (.builtin "min") rMin2 := call_min2 hc
theorem cd_max2 {H : Hp} {i j : Int} : CD rMax2 [.int i, .int j] H (.int (if j > i then j else i)) := fun H1 vs e r Q q => by
  obtain ⟨v, w, rfl, rfl, u, w', rfl, rfl, rfl⟩ := r
  exact ⟨i, j, rfl, q _ H1 (Ex.refl H1) rfl⟩
theorem cd_min2 {H : Hp} {i j : Int} : CD rMin2 [.int i, .int j] H (.int (if j < i then j else i)) := fun H1 vs e r Q q => by
  obtain ⟨v, w, rfl, rfl, u, w', rfl, rfl, rfl⟩ := r
  exact ⟨i, j, rfl, q _ H1 (Ex.refl H1) rfl⟩
/-! ### lists of bools -/
def bL (bs : List Bool) : PyData := .list (bs.map .bool)
theorem eqvA_bools : ∀ bs cs : List Bool, PyData.eqvAll (bs.map .bool) (cs.map .bool) = decide (bs = cs)
  | [], [] => by simp [PyData.eqvAll]
  | [], _ :: _ => by simp [PyData.eqvAll]
  | _ :: _, [] => by simp [PyData.eqvAll]
  | b :: bs, c :: cs => by
    rw [List.map_cons, List.map_cons, PyData.eqvAll, eqvA_bools bs cs]
    cases b <;> cases c <;> simp [PyData.eqv]
theorem eqv_bL (bs cs : List Bool) : PyData.eqv (bL bs) (bL cs) = decide (bs = cs) := by
  unfold bL
  rw [PyData.eqv, eqvA_bools]
theorem shaped_bL (bs : List Bool) : SeqAt.shaped (bL bs) = true := by
  have h1 : (bL bs).canLay0 = true := by
    unfold bL
    rw [PyData.canLay0]
    exact canLayA fun d hd => by
      obtain ⟨b, _, rfl⟩ := List.mem_map.mp hd
      rw [PyData.canLay0]
  have h2 : (bL bs).depth ≤ 64 := by
    unfold bL
    rw [PyData.depth]
    have := depthA (ds := bs.map PyData.bool) (n := 0) fun d hd => by
      obtain ⟨b, _, rfl⟩ := List.mem_map.mp hd
      rw [PyData.depth]
      exact Nat.le_refl _
    omega
  show ((bL bs).canLay0 && decide ((bL bs).depth ≤ 64)) = true
  rw [h1, decide_eq_true h2]
  rfl
theorem rd_neBL {K : PySem.W.Frag} {H : Hp} {bs cs : List Bool} : RD (rNeD K) (bL bs) (bL cs) H (.bool (!decide (bs = cs))) := rd_val fun H1 v u ex r1 r2 =>
  ⟨.bl (!decide (bs = cs)), rfl, fun Q q => ⟨bL bs, bL cs, r1.dp, r2.dp, shaped_bL bs, shaped_bL cs, by rw [eqv_bL]; exact q⟩⟩
theorem imm_bools (bs : List Bool) : immA (bs.map PyData.bool) = true := immA_iff.mpr fun d h => by
  obtain ⟨b, _, rfl⟩ := List.mem_map.mp h
  rfl
/-! ### a caught error -/
def rIsX (K : PySem.W.Frag) (a : Addr) (cls : Value) (d : Option Addr) : List V → Hp → VK → Prop := fun xs H Q => ∃ D, cls = .ref D ∧ d = none ∧ ExcC K D ∧ rIsE K D a xs H Q
theorem call_isX {X : Cx} {K : PySem.W.Frag} {a : Addr} {cls : Value} {d : Option Addr} {oe : Obj} {pn : List (Addr × Obj)} (hz : Zc cls d oe) (hf : ∃ vs, oe.data = .fields vs) (hK : X.K = K := by rfl) : CallR (X.suite a ((a, oe) :: pn)) (.builtin "isinstance") (rIsX K a cls d) := by
  subst hK
  intro pins s σ H xs us Q I r h
  obtain ⟨D, rfl, rfl, C, h⟩ := h
  exact call_isE C hz hf pins s σ H xs us Q I r h
theorem evd_isX {K : PySem.W.Frag} {σ : L2.St} {H : Hp} {i : Nat} {a D : Addr} {c : V} {cv : Value} {b : Bool} (hi : σ[i]? = some (some (.ref a))) (C : ExcC K D) (hc : ∀ u, RelV c u → u = cv) (hk : PySem.W.kitOne K (.ref D) cv = some b) :
    EvD (tCB (rIsX K a (.ref D) none) (tCons (tVar i) (tCons (tC c) tNil))) σ H (.bool b) := fun H1 e Q q => ⟨.ref a, hi, D, rfl, rfl, C, c, cv, b, rfl, hc, hk, q _ H1 (Ex.refl H1) rfl⟩
theorem kit_ref {K : PySem.W.Frag} {D C : Addr} {b : Bool} (hs : PySem.W.subIn K (.ref D) (.ref D) = some true) (h : PySem.W.subIn K (.ref D) (.ref C) = some b) (hd : PySem.W.hasDictIn K C = true) (ht : PySem.W.typeIn K (.ref C) = some (.type "type")) : PySem.W.kitOne K (.ref D) (.ref C) = some b := by
  by_cases e : D = C
  · subst e
    rw [hs] at h
    rw [← h]
    unfold PySem.W.kitOne
    rw [if_pos (beq_self_eq_true _)]
  · have ne : ¬ (((Value.ref D) == (Value.ref C)) = true) := fun z => e (Value.ref.inj (beq_iff_eq.mp z))
    obtain ⟨cd, hc, _⟩ := PySem.W.any_some hd
    have e2 : ((PySem.W.clsIn K C).isSome && PySem.W.typeIn K (.ref C) == some (.type "type")) = true := by rw [hc, ht] <;> rfl
    unfold PySem.W.kitOne
    rw [if_neg ne]
    show (if ((PySem.W.clsIn K C).isSome && PySem.W.typeIn K (.ref C) == some (.type "type")) = true then PySem.W.subIn K (.ref D) (.ref C) else none) = some b
    rw [if_pos e2]
    exact h
theorem kit_ve {K : PySem.W.Frag} {D : Addr} {b : Bool} (h : PySem.W.subIn K (.ref D) (.type "ValueError") = some b) : PySem.W.kitOne K (.ref D) (.type "ValueError") = some b := by
  have ne : ¬ (((Value.ref D) == (Value.type "ValueError")) = true) := fun z => by
    have := beq_iff_eq.mp z
    cases this
  unfold PySem.W.kitOne
  rw [if_neg ne]
  show (if PySem.W.kitMeta "ValueError" = true then PySem.W.subIn K (.ref D) (.type "ValueError") else none) = some b
  rw [if_pos (by decide +kernel)]
  exact h
/-- what an error class of ours answers -/
structure Er (K : PySem.W.Frag) (D C1 C2 C3 C4 C5 B : Addr) (b1 b2 b3 b4 b5 : Bool) : Prop where
  e : ExcC K D
  t : PySem.W.exmOne K (.ref D) (.ref B) = some true
  k1 : PySem.W.kitOne K (.ref D) (.ref C1) = some b1
  k2 : PySem.W.kitOne K (.ref D) (.ref C2) = some b2
  k3 : PySem.W.kitOne K (.ref D) (.ref C3) = some b3
  k4 : PySem.W.kitOne K (.ref D) (.ref C4) = some b4
  k5 : PySem.W.kitOne K (.ref D) (.ref C5) = some b5
  v : PySem.W.kitOne K (.ref D) (.type "ValueError") = some true
structure Ers (K : PySem.W.Frag) (mg : Str → Option Value) (C1 C2 C3 C4 C5 B : Addr) : Prop where
  g_BadCount : mg "BadCount" = some (.ref C1)
  g_BadVoter : mg "BadVoter" = some (.ref C2)
  g_BadWeb : mg "BadWeb" = some (.ref C3)
  g_TooMany : mg "TooMany" = some (.ref C4)
  g_BadNote : mg "BadNote" = some (.ref C5)
  g_BeatError : mg "BeatError" = some (.ref B)
  r1 : Er K C1 C1 C2 C3 C4 C5 B true false false false false
  r2 : Er K C2 C1 C2 C3 C4 C5 B false true false false false
  r3 : Er K C3 C1 C2 C3 C4 C5 B false false true false false
  r4 : Er K C4 C1 C2 C3 C4 C5 B false false false true false
/-- a call's end that is dropped -/
def Out.mute : Out → Out
  | .exc C => .exc C
  | _ => .val .none
theorem gives_mute {o : Out} {H H1 : Hp} {Q : VK} {E : XK} (q : Gives H Q E o.mute) (e : Ex H H1) : Gives H1 (fun _ H2 => Q .non H2) E o := by
  cases o with
  | val d => exact fun v H2 e2 _ => q .non H2 (e.trans e2) rfl
  | new ds => exact fun p ws H2 _ e2 _ _ => q .non H2 (e.trans e2) rfl
  | exc C => exact fun H2 e2 => q H2 (e.trans e2)
  | pair s ds => exact fun p ws a o H2 _ e2 _ _ _ _ => q .non H2 (e.trans e2) rfl
  | duo i ds => exact fun p ws a o H2 _ e2 _ _ _ _ => q .non H2 (e.trans e2) rfl
  | some P => exact fun ds _ p ws H2 _ e2 _ _ => q .non H2 (e.trans e2) rfl
end Bm

/-! A list of rows of bools, made by a comprehension. -/
namespace Bm
open PySem PySem.Spec PyProof.Rows L2 Evl
/-- rows of bools, laid apart from the list at Dl -/
def RowsB (Dl : Addr) (H : Hp) (vs : List V) (rows : List (List Bool)) : Prop := vs.length = rows.length ∧ ∀ (j : Nat) (bs : List Bool), rows[j]? = some bs → ∃ p : Addr, vs[j]? = some (V.ref p) ∧ p ≠ Dl ∧ H p = some (.lst (bs.map V.bl))
theorem RowsB.rp {Dl : Addr} {H : Hp} : ∀ {vs : List V} {rows : List (List Bool)}, RowsB Dl H vs rows → RpA H (rows.map bL) vs
  | [], [], _ => RpA.nil
  | [], _ :: _, h => by have := h.1; simp at this
  | _ :: _, [], h => by have := h.1; simp at this
  | v :: vs, r :: rows, h => by
    obtain ⟨p, e, _, hp⟩ := h.2 0 r rfl
    have ih := RowsB.rp (Dl := Dl) (H := H) (vs := vs) (rows := rows) ⟨by simpa using h.1, fun j bs hj => h.2 (j + 1) bs hj⟩
    obtain rfl : v = .ref p := Option.some.inj e
    exact ⟨_, _, rfl, ⟨p, _, rfl, hp, rpa_bls r⟩, ih⟩
theorem RowsB.keep {Dl : Addr} {H H' : Hp} {vs : List V} {rows : List (List Bool)} (h : RowsB Dl H vs rows) (e : ∀ b xs, b ≠ Dl → H b = some (.lst xs) → H' b = some (.lst xs)) : RowsB Dl H' vs rows :=
  ⟨h.1, fun j bs hj => by
    obtain ⟨p, e1, e2, e3⟩ := h.2 j bs hj
    exact ⟨p, e1, e2, e _ _ e2 e3⟩⟩
theorem RowsB.snoc {Dl p : Addr} {H : Hp} {vs : List V} {rows : List (List Bool)} {bs : List Bool} (h : RowsB Dl H vs rows) (n : p ≠ Dl) (hp : H p = some (.lst (bs.map V.bl))) : RowsB Dl H (vs ++ [.ref p]) (rows ++ [bs]) :=
  ⟨by rw [List.length_append, List.length_append, h.1]; rfl, fun j cs hj => by
    by_cases l : j < rows.length
    · rw [List.getElem?_append_left l] at hj
      obtain ⟨p', e1, e2, e3⟩ := h.2 j cs hj
      exact ⟨p', by rw [List.getElem?_append_left (by rw [h.1]; exact l)]; exact e1, e2, e3⟩
    · rw [List.getElem?_append_right (by omega)] at hj
      have z : j - rows.length = 0 := by
        have := (List.getElem?_eq_some_iff.mp hj).1
        simp at this
        exact this
      rw [z] at hj
      obtain rfl : bs = cs := Option.some.inj hj
      exact ⟨p, by rw [List.getElem?_append_right (by rw [h.1]; omega), h.1, z]; rfl, n, hp⟩⟩
/-- [a new list of bools for x in range(n)] -/
theorem evn_lcRB {σ : L2.St} {H : Hp} {te : TE} {g : TG} {vs : List Nat} {ta : TA} {n : Int} (y : Int → List Bool) (h : EvS ta σ H [.int n]) (hz : 0 ≤ n ∧ n ≤ 50000)
    (turn : ∀ x H1, 0 ≤ x → x < n → Ex H H1 → ∃ σ2, (∀ Q : L2.St → Hp → Prop, Q σ2 H1 → g (.int x) (wipe σ vs) H1 Q) ∧ wipe σ2 vs = wipe σ vs ∧ EvN te σ2 H1 ((y x).map .bool)) :
    EvN (tLc (iRng1 ta) g tYes te vs) σ H (((rgI 0 n.toNat).map y).map bL) := fun H0 e0 Q q => h H0 e0 _ fun ws H1 e1 r => by
  obtain rfl : ws = [.int n] := RpA.ints (ns := [n]) r
  refine ⟨n, rfl, by omega, by omega, fun Dl hD => lc_range (lo := 0) (n := n.toNat) (fun i H' => Ex H1 H' ∧ ∃ acc, H' Dl = some (.lst acc) ∧ RowsB Dl H' acc ((rgI 0 i).map y)) ⟨Ex.new hD, [], upd_same, rfl, fun j bs hj => by simp [rgI] at hj⟩ (fun i H' hi ⟨ex, acc, h1, h2⟩ => ?_) fun H' ⟨ex, acc, h1, h2⟩ => ?_⟩
  · obtain ⟨σ2, g1, g2, g3⟩ := turn (0 + (i : Int)) H' (by omega) (by omega) ((e0.trans e1).trans ex)
    refine g1 _ ⟨g2, et_yes H' (Ex.refl H') _ fun H3 e3 => ?_⟩
    rw [if_pos rfl]
    refine g3 H3 e3 _ fun p ws H4 hp e34 k1 k2 => ?_
    have e4 := e3.trans e34
    have np : p ≠ Dl := fun z => by rw [z, e3 _ _ h1] at hp; cases hp
    refine ⟨acc, e4 _ _ h1, sz_lt (by rw [h2.1, List.length_map, rgI_len]; omega), ?_, acc ++ [.ref p], upd_same, ?_⟩
    · exact Ex.mut (ex.trans e4) hD
    · rw [rgI_snoc, List.map_append]
      have kw := k2.bls
      subst kw
      refine (h2.keep fun b xs nb hb => ?_).snoc np ?_
      · rw [upd_ne nb]
        exact e4 _ _ hb
      · rw [upd_ne np]
        exact k1
  · exact q Dl acc H' (fresh_back e1 hD) (e1.trans ex) h1 h2.rp
end Bm

/-! A list comprehension whose element may raise (out of a call). -/
namespace Bm
open PySem PySem.Spec PyProof.Rows L2 Evl
/-- an error that is about to leave X, its traceback noted at the frame L or not yet -/
def AirL (X : Cx) (L : Addr) (E : XK) (u : Value) (s' : Shared) : Prop :=
  ∃ (a : Addr) (B : Heap) (q : Shared) (pins : List (Addr × Obj)) (σ : L2.St) (H : Hp) (cls : Value) (d : Option Addr), u = .ref a ∧ Inv X pins σ H q ∧
    (∀ b o, q.heap.get? b = some o → b ∉ frs X.stack → B.get? b = some o) ∧ q.heap.UpToSlots s'.heap ∧ Sky B X.stack a (Zc cls d) L s'.heap ∧ H a = none ∧ s'.os = q.os ∧ AllBare s'.gens ∧ E cls d H
def TakesL (X : Cx) (L : Addr) (E : XK) : Prop := ∀ u s', AirL X L E u s' → X.xe u s'
theorem takesL_of {X : Cx} {E : XK} (tk : Takes X fun cls d _ H => E cls d H) : TakesL X X.env.locals E := fun u s' x => tk u s' x
theorem passAtL {X : Cx} {L : Addr} {E : XK} (tk : TakesL X L E) (σ : L2.St) : PassesAt (L2.CX X.prog X.w) X σ E := fun pins H s e s' I c => by
  obtain ⟨a, B, H', cls, d, rfl, fl, _⟩ := id c
  obtain ⟨a2, B2, q, p2, σ2, H2, cls2, d2, ea, I2, nb, up, sky, na, os, ag, w⟩ := XE.of_call (W := fun cls d _ H => E cls d H) I (fun _ _ _ h => h) c
  cases ea
  refine tk _ _ ⟨a, B2, q, p2, σ2, H2, cls2, d2, rfl, I2, nb, up, ?_, na, os, ag, w⟩
  obtain ⟨_, _, _, oe, vs, T, oT, ts, he, _, hd, h1, _, _, hT, hdT, h3⟩ := fl
  rcases sky with ⟨_, _, _, oe', vs', he', _, hd', h1'⟩ | f2 | ⟨_, _, _, oe', vs', T', oT', ts', he', _, hd', h1', _, _, hT', hdT', h3'⟩
  · rw [he] at he'
    cases he'
    rw [hd] at hd'
    cases hd'
    rw [h1] at h1'
    cases h1'
  · exact .inr (.inl f2)
  · rw [he] at he'
    cases he'
    rw [hd] at hd'
    cases hd'
    rw [h1] at h1'
    cases h1'
    rw [hT] at hT'
    cases hT'
    rw [hdT] at hdT'
    cases hdT'
    rw [h3] at h3'
    cases h3'
/-- out of a comprehension's block: noted, the block let go, on its way in X -/
theorem air_out {X : Cx} {pins : List (Addr × Obj)} {σ : L2.St} {H3 : Hp} {s3 s' : Shared} {scope : Scope} {ce e0 : Env} {o0 : List Env} {fp : List Addr} {L : Addr} {E : XK} {u : Value} (I3 : Inv X pins σ H3 s3) (hst : X.stack = e0 :: o0) (hf0 : e0.frame = some L) (hcf : ce.frame = some L)
    (hC : ce.locals = s3.heap.objs.size) (f3 : ∀ b ∈ fp, FpOk X pins H3 b ∧ b < s3.heap.objs.size) (tk : TakesL X L E) (x : AirL (X.blk s3 H3 scope ce fp) L E u s') : notedBy (model X.prog X.w) X.A ce (CompFails (model X.prog X.w) X.A X.xe ce) u s' := by
  obtain ⟨a, B, q, pb, σb, H, cls, d, rfl, I, nb, up, sky, na, os, ag, w⟩ := x
  have hfr : X.A.frames = some (e0 :: o0) := by rw [I3.ok.frames, hst]
  have sky : Sky B (e0 :: o0) a (Zc cls d) L s'.heap := by
    rw [← hst]
    exact sky
  have back : Inv X pins σ H q := I3.call' (ch := fp) I.os I.base I.hok I.bare fun b hb => ⟨(f3 b hb).1.2.2.2.1, (f3 b hb).1.2.1, (f3 b hb).1.2.2.2.2.1, (f3 b hb).1.2.2.2.2.2⟩
  obtain ⟨m, hn, _⟩ := I.loc
  have hn : q.heap.Ns ce.locals m := hn
  have nC : H ce.locals = none := I.free
  have fC : FpOk X pins H ce.locals := by
    rw [hC] at nC ⊢
    exact I3.fpOk (Nat.le_refl _) nC
  have held : ∀ h1, HandSPX.HeldZ B (e0 :: o0) a (Zc cls d) L h1 → q.heap.UpToSlots h1 → CompFails (model X.prog X.w) X.A X.xe ce (.ref a) { s' with heap := h1 } := fun h1 hh up1 => by
    have hn1 : h1.Ns ce.locals m := hn.upToSlots up1
    refine ⟨m, hn1, fun h2 m2 hn2 hs2 => ?_⟩
    obtain ⟨b1, b0, f1, oe, vs, T, oT, ts, he, hz, hd, hv, hnT, hTe, hT, hdT, h3⟩ := hh
    obtain ⟨oC, es, ep, hoC, hdC, _⟩ := id hn1
    have ne : ∀ {b : Addr} {o : Obj} {ws : Array Value}, h1.get? b = some o → o.data = .fields ws → b ≠ ce.locals := fun e hd z => by
      rw [z, hoC] at e
      cases e
      rw [hdC] at hd
      cases hd
    have same : ∀ {b : Addr} {o : Obj}, h1.get? b = some o → b ≠ ce.locals → h2.get? b = some o := fun e n => (hs2.2 _ n).trans e
    have gone : ∀ {b : Addr}, B.get? b = none → (PySem.W.hideAll B [ce.locals]).get? b = none := fun {b} e => by
      cases z : (PySem.W.hideAll B [ce.locals]).get? b with
      | none => rfl
      | some o =>
        have y := PySem.W.of_hideAll _ z
        rw [e] at y
        cases y
    have notC : ∀ {G : Heap} {b : Addr} {o : Obj}, (PySem.W.hideAll G [ce.locals]).get? b = some o → b ≠ ce.locals := fun {G b o} e z => by
      rw [z, PySem.W.hideAll_none [ce.locals] (by simp)] at e
      cases e
    have held2 : HandSPX.HeldZ (PySem.W.hideAll B [ce.locals]) (e0 :: o0) a (Zc cls d) L h2 := by
      refine ⟨fun b o hb => same (b1 b o (PySem.W.of_hideAll _ hb)) (notC hb), gone b0, ?_, oe, vs, T, oT, ts, same he (ne he hd), hz, hd, hv, gone hnT, hTe, same hT (ne hT hdT), hdT, h3⟩
      exact funFrames_none (Heap.FunFrames.sameBut hs2 hn2 f1) fun b hb => gone (f1.mem hb).1
    unfold PySem.passOn
    refine wpAny_bind (wpAny_field (same he (ne he hd)) hd hv ?_)
    rw [if_neg (show ¬ ((Value.ref T == Value.none) = true) from by simp), hcf]
    refine wpAny_bind (HandSPX.setFlight_onZ held2 fun h4 hh4 up4 => wpAny_throw (tk _ _ ?_))
    refine ⟨a, PySem.W.hideAll B [ce.locals], { q with heap := PySem.W.hideAll q.heap [ce.locals] }, pins, σ, H, cls, d, rfl, back.turned (t' := q.toks) (it := ce.locals) (fun b o n e => PySem.W.hideAll_get _ e (by simpa using n)) fC.1 fC.2.1 fC.2.2.2.1 fC.2.2.2.2.1 fC.2.2.2.2.2, fun b o e hb => ?_, fun b o e hnf => ?_, ?_, na, os, ag, w⟩
    · exact PySem.W.hideAll_get _ (nb b o (PySem.W.of_hideAll _ e) hb) (by simpa using notC e)
    · obtain ⟨sl, e1⟩ := up1 b o (PySem.W.of_hideAll _ e) hnf
      obtain ⟨sl2, e2⟩ := up4 b _ (same e1 (notC e)) hnf
      exact ⟨sl2, e2⟩
    · rw [hst]
      exact .inr (.inr hh4)
  show wpAny _ _ (noteFrame (.ref a) ce) _ _ s'
  rw [noteFrame_env (.ref a) (hcf.trans hf0.symm)]
  rcases sky with ⟨hB, hnn, hl, oe, vs, he, hz, hd, h1⟩ | fl | hd
  · exact HandSPX.look_newZ Zc.steady hfr hl hf0 he hB hnn hd h1 hz fun h' hh up' => held h' hh (up.trans up')
  · exact HandSPX.looks_onZ Zc.steady hfr hf0 fl fun h' hh up' => held h' hh (up.trans up')
  · exact HandSPX.againZ hf0 hd.2.2.2 (held s'.heap hd up)
/-- the block's wish -/
abbrev blkW (X : Cx) (L : Addr) (E : XK) (s : Shared) (H : Hp) (scope : Scope) (ce : Env) (fp : List Addr) : Cx := (X.blk s H scope ce fp).wish (AirL (X.blk s H scope ce fp) L E)
theorem takesL_blk {X : Cx} {L : Addr} {E : XK} {s : Shared} {H : Hp} {scope : Scope} {ce : Env} {fp : List Addr} : TakesL (blkW X L E s H scope ce fp) L E := fun u s' ⟨a, B, q, pins, σ, H, cls, d, ea, I, r⟩ => ⟨a, B, q, pins, σ, H, cls, d, ea, I.unwish, r⟩
/-- where an error is noted: the def's own frame, at the top of the stack -/
structure Fr (X : Cx) (L : Addr) : Prop where
  st : ∃ e0 o0, X.stack = e0 :: o0 ∧ e0.frame = some L
  fr : X.env.frame = some L
theorem Fr.blk {X : Cx} {L : Addr} (F : Fr X L) {E : XK} {s : Shared} {H : Hp} {scope : Scope} {cl : List (Str × Addr)} {C : Addr} {fp : List Addr} : Fr (blkW X L E s H scope (compEnvC scope cl C X.env) fp) L := ⟨F.st, F.fr⟩
section
variable {X : Cx} {L : Addr} {E : XK}
theorem lcx_core {pins : List (Addr × Obj)} {s : Shared} {σ : L2.St} {H : Hp} {Q : VK} {elt tg iter : Expr} {scope : Scope} {own : List (Str × Nat)} {pos pos' : Pos} {wi : TI} {g : TG} {te : TE} {use : Option (Value → Sem Unit)} {Qf : Value → Shared → Prop}
    (F : Fr X L) (tk : TakesL X L E) (hc : X.calm = true) (hN : X.N.Nodup) (I : Inv X pins σ H s) (hi : PI X tg iter wi) (ok : BlkOk X.N X.env.scope scope own)
    (hg : ∀ (s : Shared) (H : Hp) (C : Addr) (cl : List (Str × Addr)) (fp : List Addr), PG (X.blk s H scope (compEnvC scope cl C X.env) fp) tg g)
    (he : ∀ (s : Shared) (H : Hp) (C : Addr) (cl : List (Str × Addr)) (fp : List Addr), PE (blkW X L E s H scope (compEnvC scope cl C X.env) fp) elt te) (hs : ∀ x, foldedSetIterable iter X.env x = pure x)
    (h : tLc wi g tYes te (own.map (·.2)) σ H Q)
    (fin : ∀ D (ce : Env) s' m H', Inv X pins σ H' s' → Q (.ref D) H' → s'.heap.Ns ce.locals m → FpOk X pins H' ce.locals → compEnds (model X.prog X.w) X.A X.xe use Qf (.ref D) ce (.ok .next) s') :
    wpAny (model X.prog X.w) X.A (comprehension (.ListComp elt [⟨tg, iter, [], 0⟩] scope pos) scope X.env pos' (newList []) false (eval iter X.env) use) Qf X.xe s := by
  obtain ⟨e0, o0, hst, hf0⟩ := F.st
  have free : ∀ y ∈ scope.names, y.2 = .free → ∃ c, X.env.cells.lookup y.1 = some c := fun y hy e => I.ok.has _ (ok.free y hy e)
  refine comprehension_at (use := use) rfl hs (closure_ok free) ok.kind (fun y hy e => by rw [ok.uniq y hy, e]) (thn (hi.run pins s σ H _ I h) fun xv s1 hx => thn hx fun itv s2 ⟨it, fp, tn, J, H2, e, I2, T, st2, f2, q⟩ => ?_)
  subst e
  refine wpAny_newObj_type (newEnv_comp ?_) (by show 0 ≤ sizeLine; decide)
  generalize hD : s2.heap.objs.size = D
  obtain ⟨W, ⟨m0, w0⟩, turn⟩ := q D (I2.hok.fresh (Nat.le_of_eq hD))
  generalize hs3 : ({ s2 with heap := s2.heap.push { cls := .type "list", data := .seq ([] : List Value).toArray } } : Shared) = s3
  have h3 : s3.heap = s2.heap.push { cls := .type "list", data := .seq ([] : List Value).toArray } := by rw [← hs3]
  have keep3 : ∀ b o, s2.heap.get? b = some o → s3.heap.get? b = some o := fun b o e => by
    rw [h3]
    exact Heap.get?_push_of_some _ e
  have at3 : s3.heap.get? D = some { cls := .type "list", data := .seq ([] : List Value).toArray } := by
    rw [h3, ← hD]
    exact Heap.get?_push_size _ rfl
  have I3 : Inv X pins σ (upd H2 D (.lst [])) s3 := by
    have z := I2.laid (a := D) (o := .lst []) (h' := s3.heap) (t' := s2.toks) keep3 (Nat.le_of_eq hD) ⟨Nat.zero_le _, [], 0, .nil, at3⟩
    rwa [show ({ s2 with heap := s3.heap, toks := s2.toks } : Shared) = s3 by rw [← hs3]] at z
  have f3 : ∀ b ∈ fp, FpOk X pins (upd H2 D (.lst [])) b ∧ b < s3.heap.objs.size := fun b hb => by
    obtain ⟨o, e, _⟩ := T.obj _ _ st2 b hb
    have lt := Heap.lt_size e
    refine ⟨⟨?_, (f2 b hb).2⟩, by rw [h3, Heap.size_push]; exact Nat.lt_succ_of_lt lt⟩
    rw [upd_ne (by rw [← hD]; exact Nat.ne_of_lt lt)]
    exact (f2 b hb).1
  have st3 : tn 0 s3.heap := T.keep _ _ _ st2 fun b _ o e => keep3 b o e
  have I4 := block_start I3 ok hN f3
  have pg := hg s3 (upd H2 D (.lst [])) s3.heap.objs.size (cellsFrom (s3.heap.objs.size + 1) scope.names (cloFrom X.env.cells scope.names [])) fp
  have pe := he s3 (upd H2 D (.lst [])) s3.heap.objs.size (cellsFrom (s3.heap.objs.size + 1) scope.names (cloFrom X.env.cells scope.names [])) fp
  show codeAny _ _ (.compStart (.ListComp elt [⟨tg, iter, [], 0⟩] scope pos) 0 (.ref it) (.ref D) (compEnvC scope (cellsFrom (s3.heap.objs.size + 1) scope.names (cloFrom X.env.cells scope.names [])) s3.heap.objs.size X.env))
    (compEnds (model X.prog X.w) X.A X.xe use Qf (.ref D) (compEnvC scope (cellsFrom (s3.heap.objs.size + 1) scope.names (cloFrom X.env.cells scope.names [])) s3.heap.objs.size X.env)) { s3 with heap := pushCells (s3.heap.push { cls := .type "dict", data := .dict #[] }) scope.names }
  generalize hce : compEnvC scope (cellsFrom (s3.heap.objs.size + 1) scope.names (cloFrom X.env.cells scope.names [])) s3.heap.objs.size X.env = ce at I4 pg pe ⊢
  have cL : ce.locals = s3.heap.objs.size := by subst hce; rfl
  have cF : ce.frame = some L := by subst hce; exact F.fr
  generalize hH3 : upd H2 D (.lst []) = H3 at I3 I4 pg pe w0 f3
  generalize hs4 : ({ s3 with heap := pushCells (s3.heap.push { cls := .type "dict", data := .dict #[] }) scope.names } : Shared) = s4 at I4 ⊢
  have st4 : tn 0 s4.heap := T.keep _ _ _ st3 fun b _ o e => by
    rw [← hs4]
    exact pushCells_keeps _ _ _ _ (Heap.get?_push_of_some _ e)
  have stat : ∀ {σ' : L2.St} {H' : Hp} {s' : Shared}, Inv (X.blk s3 H3 scope ce fp) [] σ' H' s' → (∀ b ∈ fp, H' b = none) → ∀ b ∈ fp, FpOk (X.blk s3 H3 scope ce fp) [] H' b := fun {σ' H' s'} I' hn b hb =>
    ⟨hn b hb, (I'.ok.exf b hb).1, I'.ok.exfs b hb, .inl hb, fun x c e => (I'.ok.exf b hb).2 x c e, fun p hp => absurd (show p ∈ ([] : List (Addr × Obj)) ++ [] from hp) (by simp)⟩
  have loop : codeAny (model X.prog X.w) X.A (.compLoop (.ListComp elt [⟨tg, iter, [], 0⟩] scope pos) 0 (.ref it) (.ref D) ce) (compEnds (model X.prog X.w) X.A X.xe use Qf (.ref D) ce) s4 := by
    refine compLoop_any (fun n s' => ∃ i H', Inv (X.blk s3 H3 scope ce fp) [] (wipe σ (own.map (·.2))) H' s' ∧ tn i s'.heap ∧ (∀ b ∈ fp, H' b = none) ∧ W i n H') ?_ m0 ⟨0, H3, I4, st4, fun b hb => (f3 b hb).1.1, w0⟩
    rintro n s5 ⟨i, H5, I5, st5, n5, w5⟩
    rcases turn i n H5 w5 with ⟨stop, qq⟩ | ⟨go, Nx, hNx, step⟩
    · refine thnF (T.done (X.blk s3 H3 scope ce fp) rfl rfl rfl hc i [] s5 _ H5 (fun _ _ => False) I5 (stat I5 n5) st5 stop) fun r s6 ⟨hr, I6⟩ => ?_
      subst hr
      have nC : H5 ce.locals = none := I6.free
      obtain ⟨m, hn, _⟩ := I6.loc
      refine fin D ce s6 m H5 (I3.call' (ch := fp) I6.os I6.base I6.hok I6.bare fun b hb => ⟨(f3 b hb).1.2.2.2.1, (f3 b hb).1.2.1, (f3 b hb).1.2.2.2.2.1, (f3 b hb).1.2.2.2.2.2⟩) qq hn ?_
      rw [cL] at nC ⊢
      exact I3.fpOk (Nat.le_refl _) nC
    · refine thnF (T.item (X.blk s3 H3 scope ce fp) rfl rfl rfl hc i [] s5 _ H5 (fun _ _ => False) I5 (stat I5 n5) st5 go) fun r s6 ⟨u, hr, h6⟩ => ?_
      subst hr
      refine thnF h6 fun _ s7 ⟨x, H7, I7, r7, y7, st7, n7⟩ => ?_
      refine thnF (pg.run _ s7 _ H7 x u _ (I7.pinned (stat I7 n7) (T.obj _ _ st7)) r7 (step x H7 y7)) fun _ s8 ⟨σ8, H8, I8, hw8, q8⟩ => ?_
      refine wpAny_tests_nil ?_
      show if (true = true) then _ else _
      rw [if_pos rfl]
      have q8 : te σ8 H8 fun y H4 => ∃ acc, H4 D = some (.lst acc) ∧ acc.length < sizeLine ∧ Nx (upd H4 D (.lst (acc ++ [y]))) := q8
      refine wpAny_mono (pe.run _ s8 σ8 H8 _ (I8.wish _) q8) (fun z s10 ⟨yv, H10, I10, r10, acc, hD10, hz10, nx⟩ => ?_) fun er s10 air => ?_
      · refine app_ok (X := X.blk s3 H3 scope ce fp) I10.unwish hD10 hz10 r10 fun s11 I' => ?_
        obtain ⟨m', hm, w'⟩ := hNx _ nx
        have pin' : ∀ b ∈ fp, ∀ o, s7.heap.get? b = some o → s11.heap.get? b = some o ∧ (upd H10 D (.lst (acc ++ [yv]))) b = none := fun b hb o e =>
          let z := I'.pin (b, o) (List.mem_append_right _ (List.mem_append_right _ (mem_pinsAt hb e)))
          ⟨z.1, z.2.1⟩
        refine ⟨m', hm, i + 1, _, (I'.unpinned (pins := [])).weak (by rw [← hw8, wipe_length]) (fun j v e => ?_), T.keep _ _ _ st7 fun b hb o e => (pin' b hb o e).1, fun b hb => ?_, w'⟩
        · rw [← hw8] at e
          exact (wipe_some e).1
        · obtain ⟨o, e, _⟩ := T.obj _ _ st7 b hb
          exact (pin' b hb o e).2
      · have z := air_out (X := X) (ce := ce) I3 hst hf0 cF cL f3 tk air
        cases use <;> exact z
  exact codeAny_compStart_list loop (T.self X.A 0 _ _ _ st4 loop)
/-- as a value -/
theorem pe_lcx {elt tg iter : Expr} {scope : Scope} {own : List (Str × Nat)} {pos : Pos} {wi : TI} {g : TG} {te : TE} (F : Fr X L) (tk : TakesL X L E) (hc : X.calm = true) (hN : X.N.Nodup) (hi : PI X tg iter wi) (ok : BlkOk X.N X.env.scope scope own)
    (hg : ∀ (s : Shared) (H : Hp) (C : Addr) (cl : List (Str × Addr)) (fp : List Addr), PG (X.blk s H scope (compEnvC scope cl C X.env) fp) tg g)
    (he : ∀ (s : Shared) (H : Hp) (C : Addr) (cl : List (Str × Addr)) (fp : List Addr), PE (blkW X L E s H scope (compEnvC scope cl C X.env) fp) elt te) (hs : ∀ x, foldedSetIterable iter X.env x = pure x := by intro _; rfl) :
    PE X (.ListComp elt [⟨tg, iter, [], 0⟩] scope pos) (tLc wi g tYes te (own.map (·.2))) := by
  refine ⟨fun pins s σ H Q I h => ?_⟩
  rw [eval_ListComp]
  refine lcx_core F tk hc hN I hi ok hg he hs h fun D ce s' m H' I' q hn f => ⟨m, hn, fun h'' sb => ?_⟩
  exact ⟨.ref D, H', I'.turned (t' := s'.toks) (fun b o hb e => (sb.2 b hb).trans e) f.1 f.2.1 f.2.2.2.1 f.2.2.2.2.1 f.2.2.2.2.2, rfl, q⟩
end
end Bm

/-! name = [..] whose element may raise; a try with clauses that raise; defs whose errors bear no context. -/
namespace Bm
open PySem PySem.Spec PyProof.Rows L2 Evl
section
variable {X : Cx} {L : Addr} {E : XK}
/-- name = [..] on one line, the name a local; the element may raise -/
theorem ps_setLcx {i : Nat} {y : Str} {py : Pos} {elt tg iter : Expr} {scope : Scope} {own : List (Str × Nat)} {pos spos : Pos} {wi : TI} {g : TG} {te : TE} (F : Fr X L) (tk : TakesL X L E) (hc : X.calm = true) (hN : X.N.Nodup) (hy : X.N[i]? = some y)
    (hyl : X.env.scope.names.lookup y = some .local) (hsw : swapsWith (.ListComp elt [⟨tg, iter, [], 0⟩] scope pos) (some (.Name y py)) spos.line X.env = pure true) (hi : PI X tg iter wi) (ok : BlkOk X.N X.env.scope scope own)
    (hg : ∀ (s : Shared) (H : Hp) (C : Addr) (cl : List (Str × Addr)) (fp : List Addr), PG (X.blk s H scope (compEnvC scope cl C X.env) fp) tg g)
    (he : ∀ (s : Shared) (H : Hp) (C : Addr) (cl : List (Str × Addr)) (fp : List Addr), PE (blkW X L E s H scope (compEnvC scope cl C X.env) fp) elt te) (hs : ∀ x, foldedSetIterable iter X.env x = pure x := by intro _; rfl) :
    PS X (.Assign [.Name y py] (.ListComp elt [⟨tg, iter, [], 0⟩] scope pos) spos) (tAsg (tLc wi g tYes te (own.map (·.2))) (gName i)) := by
  refine ⟨fun pins s σ H D I h => ?_⟩
  rw [exec_Assign_Name_used _ _ _ _ hsw]
  refine wpAny_bind (wpAny_standAt (wpAny_bind ?_))
  show wpAny _ X.A (do let _ ← comprehension (.ListComp elt [⟨tg, iter, [], 0⟩] scope pos) scope X.env (firstIterPos [⟨tg, iter, [], 0⟩] pos) (newList []) false (eval iter X.env) (some (assign (.Name y py) X.env))) _ _ s
  have h : tLc wi g tYes te (own.map (·.2)) σ H (fun x H1 => gName i x σ H1 D.nx) := h
  refine wpAny_bind (thn (lcx_core (Qf := fun _ s' => SP X pins D .next s') F tk hc hN I hi ok hg he hs h fun l ce s' m H' I' q hn f => ?_) fun _ s' hq => wpAny_pure (wpAny_pure hq))
  show wpAny _ _ (assign (.Name y py) X.env (.ref l)) _ _ _
  refine wpAny_assign_Name (store_ok2 (v := V.ref l) I' hN hy (.inl hyl) rfl (fun s2 I2 ⟨a, sb, ha⟩ => ?_) (.inr hyl))
  have nea : ce.locals ≠ a := by
    rcases ha with z | z
    · exact z ▸ f.2.1
    · exact (f.2.2.2.2.1 y a z).symm
  exact ⟨m, hn.sameBut sb nea, fun h3 sb3 => ⟨_, H', I2.turned (t' := s2.toks) (fun b o hb e => (sb3.2 b hb).trans e) f.1 f.2.1 f.2.2.2.1 f.2.2.2.2.1 f.2.2.2.2.2, q⟩⟩
end
/-! ### errors without a context -/
theorem cx_weaken {P : Program} {w : World} {outer : List Env} {H : Hp} {s s' : Shared} {E : XK} {u : Value} (c : L2N.CX P w outer H s E u s') : L2.CX P w outer H s E u s' := by
  obtain ⟨a, B, H', cls, d, e, fl, r⟩ := c
  exact ⟨a, B, H', cls, d, e, L2H.flyingZ_imp (fun o z => z.zc) fl, r⟩
theorem passNL {X : Cx} {W : WX} (tk : L2.Takes X W) (σ : L2.St) : PassesAt (L2N.CX X.prog X.w) X σ (WE W σ) := fun pins H s e s' I c => passAt tk σ pins H s e s' I (cx_weaken c)
section
variable {P : Program} {w : World} {K : PySem.W.Frag} {mg : Str → Option Value} {base : Heap}
theorem okXN {x qual : Str} {st : Stmt} {f : Addr} {fd : FuncData} {N ps : List Str} {k : Nat} {sp : Sp} (F : Fun K x qual st f fd) (S : FnScope N ps (defScope st)) (len : ∀ vs H Q E, sp vs H Q E → vs.length = ps.length)
    (body : ∀ (cdv : Value) (A : Around) (outer : List Env) (s : Shared) (H : Hp) (vs : List V) (Q : VK) (E : XK), Room k (A.deeper (envOfC qual (defScope st) s.heap.objs.size f cdv)) → sp vs H Q E →
      ∃ t, PSs (cxOf (L2N.CX P w) P w K mg base N qual (defScope st) f cdv A outer s H E) (defBody st) t ∧ t { nx := fun _ H' => Q .non H', rt := Q } (L2.start N vs) H) : FnOk P w K mg base (L2N.CX P w) (k + 1) f fd ps sp := by
  obtain ⟨oc, od, kV, doc, pm, an, cdv, ct, osl, rfl, lk, hcd⟩ := F.ex
  exact fn_of lk hcd S len fun A outer s H vs Q E hr hsp => body cdv A outer s H vs Q E hr hsp
end
/-! ### try: .. except ..: .. except ..: .., the suites raise -/
inductive HdsX (X : Cx) (Wout : WX) : List ExceptHandler → List (Value × (Addr → Value → Option Addr → TS)) → Prop
  | nil : HdsX X Wout [] []
  | cons {x : Str} {c : Value} {ts : Addr → Value → Option Addr → TS} {b₀ : Stmt} {suite : List Stmt} {np pos' : Pos} {hds : List ExceptHandler} {l : List (Value × (Addr → Value → Option Addr → TS))} (hc : Names X x c)
      (hsu : ∀ (a : Addr) (oe : Obj) (cls : Value) (d : Option Addr) (pn : List (Addr × Obj)), L2.Takes (L2H.suiteX X a ((a, oe) :: pn)) Wout → L2H.HotC (L2H.suiteX X a ((a, oe) :: pn)) → PSs (L2H.suiteX X a ((a, oe) :: pn)) (b₀ :: suite) (ts a cls d)) (r : HdsX X Wout hds l) :
      HdsX X Wout (.ExceptHandler (some (.Name x np)) none (b₀ :: suite) pos' :: hds) ((c, ts) :: l)
section
variable {X : Cx} {body : List Stmt} {h₀ : ExceptHandler} {hds : List ExceptHandler} {l : List (Value × (Addr → Value → Option Addr → TS))} {pos : Pos} {tb : WX → TS} {Wout : WX}
theorem ps_tryX (hs : X.stack = X.env :: X.outer) (hf : X.env.frame = some X.env.locals) (hpa : ∀ hd : Option Value, PassesOwnAt (model X.prog X.w) (X.A.mark hd) X.A X.env X.xe) (tk : L2.Takes X Wout)
    (hb : ∀ (W : WX) (pn : List (Addr × Obj)) (xe : Value → Shared → Prop), L2N.Takes (X.tr pn xe) W → PSs (X.tr pn xe) body (tb W)) (hh : HdsX X Wout (h₀ :: hds) l) :
    PS X (.Try body (h₀ :: hds) [] [] pos) (fun D σ H => tb (wMany X.K (fun _ _ _ _ => False) D l) D σ H) := by
  refine ⟨fun pins s σ H D I h => ?_⟩
  have ok := I.ok
  have hfr : X.A.frames = some (X.env :: X.outer) := by rw [ok.frames, hs]
  refine wpAny_Try_except (wpAny_mono ((hb (wMany X.K (fun _ _ _ _ => False) D l) (X.pn ++ pins) (fun e s₁ => wpAny (model X.prog X.w) X.A (noteFrame e X.env) (fun _ s₂ => wpAny (model X.prog X.w) X.A (setFlight e none) (fun _ s₃ =>
    wpAny (model X.prog X.w) X.A (handleBy e X.env (h₀ :: hds)) (SP X pins D) X.xe s₃) X.xe s₂) X.xe s₁) fun u s' xx => ?_).run [] s σ H D (I.toTry _) h) (fun f s1 hsp => ?_) fun e s1 he => he)
  · obtain ⟨a, B, q, pins', σ', H', cls, d, rfl, J', nb, up, sky, na, os, ag, w⟩ := xx
    have J : Inv X pins σ' H' q := J'.ofTry ok
    have sky : Sky B (X.env :: X.outer) a (L2N.Zn cls d) X.env.locals s'.heap := by
      rw [← hs]
      exact sky
    show wpAny (model X.prog X.w) X.A (noteFrame (.ref a) X.env) _ _ _
    refine L2N.Sky.land L2N.Zn.steady hfr hf sky fun h3 fl3 up3 => ?_
    have J3 : Inv X pins σ' H' { s' with heap := h3 } := J.landed nb fl3.1 (up.trans up3) os ag
    obtain ⟨oe3, vs3, he3, hz3, hd3⟩ := fl3.there
    have nfr : a ∉ frs (X.env :: X.outer) := fun hm => by
      obtain ⟨_, o', e', hnf⟩ := fl3.2.2.1.mem hm
      rw [he3] at e'
      cases e'
      exact hnf _ hd3
    have nL : a ≠ X.env.locals := fun z => nfr (List.mem_filterMap.mpr ⟨X.env, List.mem_cons_self, by rw [hf, z]⟩)
    have nF : a ∉ X.fs := fun hm => by
      obtain ⟨e, he, z⟩ := List.mem_filterMap.mp hm
      exact nfr (List.mem_filterMap.mpr ⟨e, List.mem_cons_of_mem _ he, z⟩)
    have S3 := J3.suite he3 hd3 na nL nF
    have go : ∀ {hd' : List ExceptHandler} {l' : List (Value × (Addr → Value → Option Addr → TS))}, HdsX X Wout hd' l' → wMany X.K (fun _ _ _ _ => False) D l' cls d σ' H' → wpAny (model X.prog X.w) X.A (handleBy (.ref a) X.env hd') (SP X pins D) X.xe { s' with heap := h3 } := by
      intro hd' l' hk
      induction hk with
      | nil => exact fun w => False.elim w
      | @cons x c ts b₀ suite np pos' hds2 l2 hc hsu r ih =>
        rintro ⟨b, hb1, hyes, hno⟩
        refine wpAny_handleBy_cons (codeAny_handlers_test ?_) (by intro z; cases z)
        have LT : PySem.W.Looks (model X.prog X.w) h3 (typeOf (.ref a)) cls := fun A Q E s k z => wpAny_typeOf_ref (k _ _ he3) (by rw [hz3.1]; exact z)
        have LM := PySem.W.exm_one (M := model X.prog X.w) J3.kIn LT hb1
        have test : ∀ {Q E : Value → Shared → Prop}, Q c { s' with heap := h3 } → wpAny (model X.prog X.w) (X.A.mark (some (.ref a))) (eval (.Name x np) X.env) Q E { s' with heap := h3 } := fun {Q E} z => by
          obtain ⟨hg, hdbg, hm | ⟨hm, hv, hnn⟩⟩ := hc
          · exact ld_glob (X := X.suite a ((a, oe3) :: (X.pn ++ pins))) S3 hg hm z hdbg
          · exact ld_blt (X := X.suite a ((a, oe3) :: (X.pn ++ pins))) S3 hg hm hv z hnn hdbg
        refine test (LM.here ?_)
        cases b with
        | false =>
          show wpAny _ X.A (handleBy (.ref a) X.env hds2) _ _ _
          exact ih (hno rfl)
        | true =>
          refine codeAny_handlers_suite (HandSPX.lands_againZ fl3 fun h4 fl4 up4 => ?_)
          have J4 : Inv X pins σ' H' { s' with heap := h4 } := J.landed nb fl4.1 ((up.trans up3).trans up4) os ag
          obtain ⟨oe4, vs4, he4, hz4, hd4⟩ := fl4.there
          have tkS : L2.Takes (L2H.suiteX X a ((a, oe4) :: (X.pn ++ pins))) Wout := fun u2 s2 ⟨a2, B2, q2, pn2, σ2, H2, cls2, d2, e2, I2, r2⟩ => tk u2 s2 ⟨a2, B2, q2, pins, σ2, H2, cls2, d2, e2, L2H.unsuiteX I2 ok, r2⟩
          have hot : L2H.HotC (L2H.suiteX X a ((a, oe4) :: (X.pn ++ pins))) := ⟨(a, oe4), ⟨rfl, vs4, hd4, hz4.2.2 vs4 hd4⟩, List.mem_cons_self⟩
          refine wpAny_mono ((hsu a oe4 cls d (X.pn ++ pins) tkS hot).run [] _ _ H' _ (L2H.suiteX_of (J4.suite he4 hd4 na nL nF)) (hyes rfl a na)) (fun f s6 hsp => ?_) (fun e6 s6 z => hpa (some (.ref a)) e6 s6 z)
          cases f with
          | ret u =>
            obtain ⟨v6, σ6, H6, S6, r6, q6⟩ := hsp
            exact ⟨_, _, _, L2H.unsuiteX S6 ok, r6, q6⟩
          | next =>
            obtain ⟨σ6, H6, S6, q6⟩ := hsp
            exact ⟨_, _, L2H.unsuiteX S6 ok, q6⟩
          | brk =>
            obtain ⟨σ6, H6, S6, q6⟩ := hsp
            exact ⟨_, _, L2H.unsuiteX S6 ok, q6⟩
          | cont =>
            obtain ⟨σ6, H6, S6, q6⟩ := hsp
            exact ⟨_, _, L2H.unsuiteX S6 ok, q6⟩
    exact go hh w
  · cases f with
    | ret u =>
      obtain ⟨v, σ', H', J', r, q⟩ := hsp
      exact ⟨v, σ', H', J'.ofTry ok, r, q⟩
    | next =>
      obtain ⟨σ', H', J', q⟩ := hsp
      exact wpAny_execs_nil ⟨σ', H', J'.ofTry ok, q⟩
    | brk =>
      obtain ⟨σ', H', J', q⟩ := hsp
      exact ⟨σ', H', J'.ofTry ok, q⟩
    | cont =>
      obtain ⟨σ', H', J', q⟩ := hsp
      exact ⟨σ', H', J'.ofTry ok, q⟩
end
end Bm

/-! for sign in reversed(a text). -/
namespace Bm
open PySem PySem.Spec PyProof.Rows L2 Evl
theorem norev_str : typeLookup (.type "str") "__reversed__" = pure none := by rw [typeLookup_type, builtinLookup_eq_fast]; kernel_rfl
/-- reversed(x), the next place i -/
def IsRs (h : Heap) (a : Addr) (x : Str) (t : Tok) (i : Int) : Prop := ∃ o, h.get? a = some o ∧ o.cls = .type "reversed" ∧ o.data = .fields #[.str x t, rawInt i]
section
variable {prog : Program} {w : World} {A : Around} {E : Value → Shared → Prop} {s : Shared} {x : Str} {t : Tok} {it : Addr}
theorem rs_type {i : Int} (h : IsRs s.heap it x t i) : s.TypeIs (.ref it) "reversed" := let ⟨o, ho, hc, _⟩ := h; ⟨o, ho, hc⟩
theorem rev_str {Q : Value → Shared → Prop} (hz : x.length ≤ sizeLine) (h : Q (.ref s.heap.objs.size) { s with heap := s.heap.push { cls := .type "reversed", data := .fields #[.str x t, rawInt ((x.length : Int) - 1)] }, toks := s.toks + 1 + 1 }) :
    wpAny (model prog w) A (call (.type "reversed") [.str x t]) Q E s := by
  have hT : s.TypeIs (.str x t) "str" := typeIs_str s x t
  rw [sizeLine_eq] at hz
  have code : codeAny (model prog w) A.in1 (.call (.builtin "reversed.__new__") ⟨[.type "reversed", .str x t], []⟩) (wants (fun obj s₁ => s₁.TypeIs obj "reversed" ∧ Q obj s₁) E) s := by
    refine codeAny_of_tree ?_
    show wpAny _ A.in1.in1 (do checkBuiltinCall "reversed.__new__" ⟨[.type "reversed", .str x t], []⟩; again (.builtin "reversed.__new__" ⟨[.type "reversed", .str x t], []⟩)) _ _ s
    refine wpAny_bind (wpAny_of_eq (F.newCall_reversed_1 _) (wpAny_pure ⟨plainId_quiet F.plain_reversed_new _, codeAny_builtin F.entry_reversed_new ?_⟩))
    rw [Around.under_plainId F.plain_reversed_new _]
    unfold Builtin.«reversed.__new__»
    refine wpAny_bind (wpAny_of_eq (newClass_reversed _) (wpAny_bind (wpAny_of_eq (a := ()) (by first | rfl | kernel_rfl) (wpAny_bind (wpAny_of_eq (a := ()) (by first | rfl | kernel_rfl) (wpAny_bind (wpAny_specialOf hT norev_str ?_)))))))
    try dsimp only
    refine wpAny_bind ?_
    wp_delta
    refine wpAny_bind (wpAny_isInstance (T := "str") (U := "dict") (b := false) hT (by rw [isSubtype_type]; kernel_rfl) ?_)
    try dsimp only
    try rw [if_neg Bool.false_ne_true]
    try dsimp only
    refine wpAny_bind (wpAny_specialOf hT F.slot_str_getitem.lookup ?_)
    try dsimp only
    try rw [if_pos (by decide +kernel)]
    refine wpAny_pure ?_
    try dsimp only
    try rw [if_neg (by decide)]
    try dsimp only
    refine wpAny_bind (PySem.P.len_str (by omega) ?_)
    refine wpAny_bind (wpAny_of_eq (a := some ((x.length : Nat) : Int)) rfl ?_)
    try dsimp only
    refine wpAny_bind ?_
    show wpAny _ _ (newObj (.type "reversed") (.fields #[.str x t, rawInt ((x.length : Int) - 1)])) _ _ _
    exact wpAny_newObj_type (wpAny_pure ⟨⟨_, Heap.get?_push_size _ rfl, rfl⟩, h⟩)
  refine callType_codes (Q₁ := fun obj s₁ => s₁.TypeIs obj "reversed" ∧ Q obj s₁) RT.called_rt (F.typeCall_reversed_1 _) F.entry_object_init code fun obj s₁ h₁ => ?_
  exact ⟨h₁.1, F.args_object_init_2 obj _, object_init_meets RT.called_rt.init.lookup RT.called_rt.made (by decide) prog w A.in1 _ s₁ ⟨h₁.1, rfl, h₁.2⟩⟩
/-- what __next__ does is told behind its own try -/
theorem rs_next {i : Int} {Q : Option Value → Shared → Prop} (hit : IsRs s.heap it x t i)
    (z : wpAny (model prog w) A.in1 (Builtin.«reversed.__next__» ⟨[.ref it], []⟩) (fun fin s' => ∃ v, fin = .done (.ret v) ∧ Q (some v) s') (fun e s' => wpAny (model prog w) A (do if ← isInstance e (.type "StopIteration") then pure none else throw e) Q E s') s) :
    wpAny (model prog w) A (pyNext (.ref it)) Q E s := by
  unfold pyNext
  refine wpAny_bind (wpAny_attempt (wpAny_callSpecial?_slot (name := Str.ofString "__next__") (rs_type hit) RT.slot_rt_next (wpAny_call_entry RT.slot_rt_next (rs_type hit) RT.entry_rt_next ?_ (RT.args_rt_next _))))
  exact wpAny_mono z (fun fin s' ⟨v, e, q⟩ => ⟨v, e, wpAny_pure q⟩) fun e s' q => q
theorem next_rs {i c : Nat} {Q : Option Value → Shared → Prop} (hit : IsRs s.heap it x t (i : Int)) (hx : x.cps[i]? = some c) (hz : x.length ≤ sizeLine)
    (hQ : ∀ h' tk, IsRs h' it x t ((i : Int) - 1) → Heap.SameBut it s.heap h' → Q (some (.str ⟨#[c]⟩ tk)) { s with heap := h', toks := tk + 1 }) : wpAny (model prog w) A (pyNext (.ref it)) Q E s := by
  have hi : i < x.length := (Array.getElem?_eq_some_iff.mp hx).1
  rw [sizeLine_eq] at hz
  have small : (decide ((i : Int) < -(2 ^ 63 : Int)) || decide ((i : Int) ≥ 2 ^ 63)) = false := by simp; omega
  have there : seqIndex? (i : Int) x.length = some i := seqIndex_of (by omega) (by omega)
  refine rs_next hit ?_
  obtain ⟨o, o1, o2, o3⟩ := id hit
  unfold Builtin.«reversed.__next__»
  refine wpAny_bind (wpAny_of_eq (a := (Value.ref it, [])) rfl (wpAny_bind (wpAny_field o1 o3 (x := .str x t) rfl (wpAny_bind (wpAny_field o1 o3 (x := rawInt (i : Int)) rfl ?_)))))
  refine wp_if_neg (show ¬ (i : Int) < 0 by omega) ?_
  refine wpAny_bind (wpAny_specialOf (typeIs_str s x t) F.slot_str_getitem.lookup ?_)
  try dsimp only
  try rw [if_neg (by decide)]
  try dsimp only
  refine wpAny_bind (wpAny_mkInt (wpAny_bind (wpAny_attempt (PySem.P.getItem_str (s := { s with toks := s.toks + 1 }) (c := c) small (by rw [there]; exact hx) ?_))))
  try dsimp only
  refine wpAny_bind (wpAny_field (s := { s with toks := s.toks + 1 + 1 }) o1 o3 (x := rawInt (i : Int)) rfl ?_)
  try dsimp only
  refine wpAny_bind (wpAny_setField (s := { s with toks := s.toks + 1 + 1 }) o1 o3 (by simp) ?_)
  have next_ : IsRs (s.heap.update it (Obj.mapFields (·.setIfInBounds 1 (rawInt ((i : Int) - 1))))) it x t ((i : Int) - 1) :=
    ⟨_, Heap.get?_update_self _ o1 (Obj.isFreed_of_fields (Obj.data_mapFields o3 _)), (Obj.cls_mapFields ..).trans o2, (Obj.data_mapFields o3 _).trans (by simp)⟩
  first
  | exact wpAny_pure ⟨_, rfl, hQ _ _ next_ (Heap.SameBut.update ..)⟩
  | exact wpAny_bind (wpAny_pure (wpAny_pure ⟨_, rfl, hQ _ _ next_ (Heap.SameBut.update ..)⟩))
theorem next_rs_end {Q : Option Value → Shared → Prop} (hh : A.handled = none) (hit : IsRs s.heap it x t (-1)) (hQ : ∀ h', Heap.ExtBut it s.heap h' → Q none { s with heap := h' }) : wpAny (model prog w) A (pyNext (.ref it)) Q E s := by
  refine rs_next hit ?_
  obtain ⟨o, o1, o2, o3⟩ := id hit
  unfold Builtin.«reversed.__next__»
  refine wpAny_bind (wpAny_of_eq (a := (Value.ref it, [])) rfl (wpAny_bind (wpAny_field o1 o3 (x := .str x t) rfl (wpAny_bind (wpAny_field o1 o3 (x := rawInt (-1)) rfl ?_)))))
  refine wp_if_pos (show (-1 : Int) < 0 by decide) ?_
  refine wpAny_bind (wpAny_rule (wpAny_bind ?_))
  wp_delta
  have freed := Obj.isFreed_of_fields (Obj.data_mapFields o3 (·.setIfInBounds 1 (rawInt (-1))))
  refine wpAny_bind (wpAny_setField o1 o3 (by simp) (wpAny_setField (s := { s with heap := s.heap.update it (Obj.mapFields (·.setIfInBounds 1 (rawInt (-1)))) }) (Heap.get?_update_self _ o1 freed) (Obj.data_mapFields o3 _) (by simp) ?_))
  have stop : ∀ (h1 : Heap), Heap.ExtBut it s.heap h1 → ∀ h' e oe, (∀ b o, h1.get? b = some o → h'.get? b = some o) → h'.get? e = some oe → oe.cls = .type "StopIteration" →
      wpAny (model prog w) A (do if ← isInstance (.ref e) (.type "StopIteration") then pure none else throw (.ref e)) Q E { s with heap := h' } := fun h1 x1 h' e oe kp he hc =>
    wpAny_bind (wpAny_isInstance (T := "StopIteration") (b := true) ⟨oe, he, hc⟩ isSubtype_stop (wp_if_pos rfl (wpAny_pure (hQ h' fun b u nb q => kp b u (x1 b u nb q)))))
  have two : Heap.ExtBut it s.heap ((s.heap.update it (Obj.mapFields (·.setIfInBounds 1 (rawInt (-1))))).update it (Obj.mapFields (·.setIfInBounds 0 Value.none))) := fun b u nb q => by
    rw [Heap.get?_update_other _ _ (Ne.symm nb), Heap.get?_update_other _ _ (Ne.symm nb)]
    exact q
  first
  | exact DVw.raise_stop (s := { s with heap := _ }) hh (stop _ two)
  | exact wpAny_bind (DVw.raise_stop (s := { s with heap := _ }) hh (stop _ two))
theorem iter_rs {i : Int} {Q : Value → Shared → Prop} (hit : IsRs s.heap it x t i) (h : Q (.ref it) s) : wpAny (model prog w) A (pyIter (.ref it)) Q E s := by
  refine wpAny_pyIter_slot (rs_type hit) RT.slot_rt_iter (wpAny_call_entry RT.slot_rt_iter (rs_type hit) RT.entry_rt_iter ?_ (RT.args_rt_iter _))
  show wpAny _ _ (ret (.ref it)) _ _ s
  exact wpAny_pure ⟨_, rfl, "reversed", _, rs_type hit, RT.slot_rt_next.lookup, h⟩
end
/-- the signs of a text, last to first -/
def ItsR (x : Str) : It := ⟨fun i _ => i < x.cps.size, fun i H v H' => H' = H ∧ ∃ c, x.cps[x.cps.size - 1 - i]? = some c ∧ v = .str ⟨#[c]⟩, fun i _ => x.cps.size ≤ i⟩
theorem turn_rs {P : Program} {w : World} {K : PySem.W.Frag} {tg : Expr} (it : Addr) (x : Str) (t : Tok) (hz : x.length ≤ sizeLine) : Turn P w K tg (ItsR x) [it] it (fun i h => i ≤ x.cps.size ∧ IsRs h it x t ((x.cps.size : Int) - 1 - (i : Nat))) where
  mem := by simp
  obj := fun i h st b hb => by
    have e : b = it := by simpa using hb
    subst e
    obtain ⟨_, o, e, c, d⟩ := st
    exact ⟨o, e, fun v z => by rw [d] at z; cases z⟩
  keep := fun i h h' ⟨hi, o, e, r⟩ k => ⟨hi, o, k it (by simp) o e, r⟩
  item := by
    intro X hP hw hK hc i pins s σ H E I hf st hg
    subst hP hw hK
    have hin : i < x.cps.size := hg
    obtain ⟨f0, f1, f2, f3, f4, f5⟩ := hf it (by simp)
    obtain ⟨_, hit⟩ := st
    rw [show (x.cps.size : Int) - 1 - ((i : Nat) : Int) = ((x.cps.size - 1 - i : Nat) : Int) by omega] at hit
    have hx : x.cps[x.cps.size - 1 - i]? = some x.cps[x.cps.size - 1 - i] := Array.getElem?_eq_getElem (by omega)
    refine next_rs hit hx hz fun h' tk st' sb => ?_
    rw [show ((x.cps.size - 1 - i : Nat) : Int) - 1 = (x.cps.size : Int) - 1 - ((i + 1 : Nat) : Int) by omega] at st'
    have I1 : Inv X pins σ H { s with heap := h', toks := tk + 1 } := I.turned (t' := tk + 1) (fun b o hb e => (sb.2 b hb).trans e) f0 f1 f3 f4 f5
    obtain ⟨o, e, c, d⟩ := id st'
    exact ⟨_, rfl, go_of (s := { s with heap := h', toks := tk + 1 }) e c d (by decide) ⟨.str ⟨#[_]⟩, H, I1, ⟨_, rfl⟩, ⟨rfl, _, hx, rfl⟩, ⟨hin, st'⟩, fun b hb => (hf b hb).1⟩⟩
  done := by
    intro X hP hw hK hc i pins s σ H E I hf st hg
    subst hP hw hK
    obtain ⟨f0, f1, f2, f3, f4, f5⟩ := hf it (by simp)
    obtain ⟨hin, hit⟩ := st
    have hge : x.cps.size ≤ i := hg
    rw [show (x.cps.size : Int) - 1 - ((i : Nat) : Int) = -1 by omega] at hit
    exact next_rs_end (I.ok.hd hc) hit fun h' eb => ⟨rfl, I.turned (t' := s.toks) (fun b o hb e => eb b o hb e) f0 f1 f3 f4 f5⟩
  self := fun A i s Q E st h => iter_rs st.2 h
def iRevS (te : TE) : TI := fun σ H R => te σ H fun v H1 => ∃ x, v = .str x ∧ x.length ≤ sizeLine ∧ R (ItsR x) H1
theorem pi_revS {X : Cx} {tg e : Expr} {te : TE} {p pos : Pos} (hg : Gl X "reversed") (hm : X.mg "reversed" = none) (he : PE X e te) (hs : starEach [e] X.env = (false, eval e X.env) :: starEach [] X.env := by rfl) : PI X tg (.Call (.Name "reversed" p) [e] [] pos) (iRevS te) := by
  refine ⟨fun pins s σ H R I h => ?_⟩
  refine Call_ (ld_blt I hg hm PyProof.Rows.boot_reversed (PyProof.Rows.callWith_type1 (args_cons (thn (he.run pins s σ H _ I h) fun u s1 ⟨v, H1, I1, r1, x, ex, hz, q⟩ => args_nil ?_) hs) hs rfl))
  subst ex
  obtain ⟨t, rfl⟩ := r1
  refine rev_str hz (iter_rs (x := x) (t := t) (i := (x.length : Int) - 1) ⟨_, Heap.get?_push_size _ rfl, rfl, rfl⟩ (pi_one (tk := s1.toks + 1 + 1) I1 _ (turn_rs _ x t hz) ⟨Nat.zero_le _, ?_⟩ q))
  rw [show (x.cps.size : Int) - 1 - ((0 : Nat) : Int) = (x.length : Int) - 1 by show (x.cps.size : Int) - 1 - 0 = (x.cps.size : Int) - 1; omega]
  exact ⟨_, Heap.get?_push_size _ rfl, rfl, rfl⟩
end Bm

/-! Texts as data: split, signs, parts, index, sorted; comprehensions whose element may raise. -/
namespace Bm
open PySem PySem.Spec PyProof.Rows L2 Evl
abbrev sg1 (c : Nat) : Str := ⟨#[c]⟩
abbrev tL (z : Str) : List Nat := z.cps.toList
theorem tL_len (z : Str) : (tL z).length = z.length := by simp [tL, Str.length]
theorem tL_inj {x y : Str} (h : tL x = tL y) : x = y := TL.ext_tl h
/-! ### split -/
def rSplit : V → List V → Hp → VK → Prop := fun x xs H Q => ∃ a b, x = .str a ∧ xs = [.str b] ∧ (b.length == 0) = false ∧ a.length + 2 ≤ sizeLine ∧ rNewStrs (Txt.split a b) H Q
theorem mt_splitK {X : Cx} : MtR X "str.split" rSplit := mt_split
theorem spl_facts (S : List Nat) : ∀ (l : List Nat) (k : Nat) (acc : List Nat), TL.spl S k acc l ≠ [] ∧ (TL.spl S k acc l).length ≤ l.length + 1 ∧ ∀ p ∈ TL.spl S k acc l, p.length ≤ acc.length + l.length
  | [], k, acc => by
    rw [TL.spl_nil]
    refine ⟨by simp, by simp, fun p hp => ?_⟩
    rw [List.mem_singleton.mp hp]
    exact Nat.le_refl _
  | c :: r, k + 1, acc => by
    obtain ⟨h1, h2, h3⟩ := spl_facts S r k acc
    refine ⟨h1, Nat.le_succ_of_le h2, fun p hp => Nat.le_succ_of_le (h3 p hp)⟩
  | c :: r, 0, acc => by
    cases e : TL.pre S (c :: r) with
    | true =>
      rw [TL.spl_hit e]
      obtain ⟨h1, h2, h3⟩ := spl_facts S r (S.length - 1) []
      refine ⟨by simp, by rw [List.length_cons, List.length_cons]; omega, fun p hp => ?_⟩
      rcases List.mem_cons.mp hp with rfl | hp
      · omega
      · have := h3 p hp
        simp only [List.length_nil, List.length_cons] at *
        omega
    | false =>
      rw [TL.spl_miss e]
      obtain ⟨h1, h2, h3⟩ := spl_facts S r 0 (acc ++ [c])
      refine ⟨h1, Nat.le_succ_of_le h2, fun p hp => ?_⟩
      have := h3 p hp
      rw [List.length_append] at this
      simp only [List.length_cons, List.length_nil] at *
      omega
theorem split_facts (a : Str) : Txt.split a " " ≠ [] ∧ (Txt.split a " ").length ≤ a.length + 1 ∧ ∀ p ∈ Txt.split a " ", p.length ≤ a.length := by
  have e : (Txt.split a " ").map tL = TL.spl (tL " ") 0 [] (tL a) := TL.split_spl a " " (by decide +kernel) (TL.kind_ok (by decide +kernel))
  obtain ⟨h1, h2, h3⟩ := spl_facts (tL " ") (tL a) 0 []
  rw [← e, tL_len] at h2
  rw [← e] at h1 h3
  refine ⟨fun z => h1 (by rw [z]; rfl), by rw [List.length_map] at h2; exact h2, fun p hp => ?_⟩
  have := h3 (tL p) (List.mem_map.mpr ⟨p, hp, rfl⟩)
  rw [tL_len, tL_len] at this
  simpa using this
theorem imm_strs (ws : List Str) : immA (ws.map PyData.str) = true := immA_iff.mpr fun d h => by
  obtain ⟨b, _, rfl⟩ := List.mem_map.mp h
  rfl
section
variable {K : PySem.W.Frag} {σ : L2.St} {H : Hp} {te to tb : TE}
theorem evn_split {a b : Str} (ho : EvD to σ H (.str a)) (h : EvD te σ H (.str b)) (hb : (b.length == 0) = false) (hz : a.length + 2 ≤ 100000) : EvN (tM1 rSplit to te) σ H ((Txt.split a b).map .str) := fun H1 e Q q =>
  ho H1 e _ fun v H2 e2 r2 => ⟨⟨a, r2⟩, h H2 (e.trans e2) _ fun u H3 e3 r3 => by
    obtain rfl : v = .str a := r2
    obtain rfl : u = .str b := r3
    exact ⟨a, b, rfl, rfl, hb, sz_of hz, fun p hp => q p _ _ (fresh_back (e2.trans e3) hp) ((e2.trans e3).trans (Ex.new hp)) upd_same (rpa_strs _)⟩⟩
/-! ### signs, parts, lengths -/
theorem rd_ixS {w : Str} {i : Int} {c : Nat} (h : w.length ≤ 100000) (ha : atI (tL w) i = some c) : RD rIxS (.str w) (.int i) H (.str (sg1 c)) := rd_val fun H1 v u e r1 r2 => ⟨.str (sg1 c), rfl, fun Q q => ⟨w, i, c, r1, r2, sz_of h, ha, q⟩⟩
theorem evd_slS {z : Str} {tl th : TO} {lo hi : Option Int} (h : EvD te σ H (.str z)) (h1 : EvP tl σ H lo) (h2 : EvP th σ H hi) (hz : z.length ≤ 100000) : EvD (tSl rSlS te tl th) σ H (.str (cutS z lo hi)) := fun H0 e Q q =>
  h H0 e _ fun v H2 e2 r => h1 H2 (e.trans e2) _ fun H3 e3 => h2 H3 ((e.trans e2).trans e3) _ fun H4 e4 => ⟨z, r, sz_of hz, q _ H4 ((e2.trans e3).trans e4) rfl⟩
def rLenT : List V → Hp → VK → Prop := fun xs H Q => ∃ z, xs = [.str z] ∧ z.length ≤ sizeLine ∧ Q (.int z.length) H
theorem cr_lenT {X : Cx} : CallR X (.builtin "len") rLenT := call_len_str
theorem cd_lenS {z : Str} (h : z.length ≤ 100000) : CD rLenT [.str z] H (.int z.length) := fun H1 vs e r Q q => by
  obtain ⟨v, w, rfl, rfl, rfl⟩ := r
  exact ⟨z, rfl, sz_of h, q _ H1 (Ex.refl H1) rfl⟩
def rInT : R2 := fun x y H Q => ∃ (c : Nat) (z : Str), x = .str ⟨#[c]⟩ ∧ y = .str z ∧ Q (.bl (decide (c ∈ z.cps.toList))) H
def rNiT : R2 := fun x y H Q => ∃ (c : Nat) (z : Str), x = .str ⟨#[c]⟩ ∧ y = .str z ∧ Q (.bl (!decide (c ∈ z.cps.toList))) H
theorem op_inT {X : Cx} : OpR X (compareOp .In) rInT := op_in_sign
theorem op_niT {X : Cx} : OpR X (compareOp .NotIn) rNiT := op_notIn_sign
theorem rd_inT {c : Nat} {z : Str} : RD rInT (.str (sg1 c)) (.str z) H (.bool (decide (c ∈ tL z))) := rd_val fun H1 v u e r1 r2 => ⟨.bl (decide (c ∈ tL z)), rfl, fun Q q => ⟨c, z, r1, r2, q⟩⟩
theorem rd_niT {c : Nat} {z : Str} : RD rNiT (.str (sg1 c)) (.str z) H (.bool (!decide (c ∈ tL z))) := rd_val fun H1 v u e r1 r2 => ⟨.bl (!decide (c ∈ tL z)), rfl, fun Q q => ⟨c, z, r1, r2, q⟩⟩
def rSIx : V → List V → Hp → VK → Prop := fun x xs H Q => ∃ a b i rest, x = .str a ∧ xs = [.str b] ∧ Builtin.Str.occurrences a b 0 a.length 1 = i :: rest ∧ Q (.int (i : Nat)) H
theorem mt_sIx {X : Cx} : MtR X "str.index" rSIx := mt_sindex
theorem evd_sIx {a b : Str} {i : Nat} {rest : List Nat} (ho : EvD to σ H (.str a)) (h : EvD te σ H (.str b)) (hi : Builtin.Str.occurrences a b 0 a.length 1 = i :: rest) : EvD (tM1 rSIx to te) σ H (.int (i : Int)) := fun H1 e Q q =>
  ho H1 e _ fun v H2 e2 r2 => ⟨⟨a, r2⟩, h H2 (e.trans e2) _ fun u H3 e3 r3 => by
    obtain rfl : v = .str a := r2
    obtain rfl : u = .str b := r3
    exact ⟨a, b, i, rest, rfl, rfl, hi, q _ H3 (e2.trans e3) rfl⟩⟩
/-! ### xs[k] = e, xs a list of ours -/
theorem RpA.set {ds : List PyData} {vs : List V} {d : PyData} {v : V} (h : RpA H ds vs) (r : Rp H d v) : ∀ j, RpA H (ds.set j d) (vs.set j v) := by
  intro j
  induction ds generalizing vs j with
  | nil =>
    cases vs with
    | nil => exact h
    | cons _ _ => exact absurd h.len (by simp)
  | cons d0 ds ih =>
    obtain ⟨v0, r0, rfl, h1, h2⟩ := h
    cases j with
    | zero => exact ⟨v, r0, rfl, r, h2⟩
    | succ j => exact ⟨v0, _, rfl, h1, ih h2 j⟩
end
theorem s_setO {H0 H : Hp} {l : Addr} {ds : List PyData} {σ : L2.St} {D : Ends} {i : Nat} {d : PyData} {k : Int} {j : Nat} {te tk : TE} {q : TE → TE → Prop} (o : Own H0 H l ds) (hi : σ[i]? = some (some (.ref l))) (h : EvD te σ H d) (hk : EvD tk σ H (.int k)) (im : imm d = true) (hj : ixN ds.length k = some j)
    (c : ∀ H2, ExB l H H2 → Own H0 H2 l (ds.set j d) → D.nx σ H2) : tAsg te (gSub (tVar i) tk rSetL) D σ H := by
  obtain ⟨vs, h1, h2⟩ := o.has
  refine h H (Ex.refl H) _ fun v H1 e1 r1 => ⟨.ref l, hi, hk H1 e1 _ fun u H2 e2 r2 => ?_⟩
  obtain rfl : u = .int k := r2
  have e12 := e1.trans e2
  refine ⟨l, vs, k, j, rfl, rfl, e12 _ _ h1, by rw [h2.len]; exact hj, ?_⟩
  have x : ExB l H (upd H2 l (.lst (vs.set j v))) := (ExB.of e12).trans ExB.upd
  have kt : KT H2 (upd H2 l (.lst (vs.set j v))) := KT.lst (e12 _ _ h1)
  refine c _ x ⟨o.new, x.base o.new o.ex, ⟨_, upd_same, ?_⟩, ?_⟩
  · exact RpA.set (RpA.keep kt o.im (h2.ex e12)) (Rp.keep kt im (r1.ex e2)) j
  · exact immA_iff.mpr fun d' hd => by
      rcases List.mem_or_eq_of_mem_set hd with hd | rfl
      · exact immA_iff.mp o.im d' hd
      · exact im
/-! ### sorted of a text -/
def insN (x : Nat) : List Nat → List Nat
  | [] => [x]
  | y :: ys => if x ≤ y then x :: y :: ys else y :: insN x ys
def srtN : List Nat → List Nat
  | [] => []
  | x :: xs => insN x (srtN xs)
theorem insN_perm (x : Nat) : ∀ ys : List Nat, (insN x ys).Perm (x :: ys)
  | [] => .refl _
  | y :: ys => by
    unfold insN
    split
    · exact .refl _
    · exact ((insN_perm x ys).cons y).trans (.swap x y ys)
theorem srtN_perm : ∀ xs : List Nat, (srtN xs).Perm xs
  | [] => .refl _
  | x :: xs => (insN_perm x (srtN xs)).trans ((srtN_perm xs).cons x)
theorem insN_pw {x : Nat} : ∀ {ys : List Nat}, ys.Pairwise (· ≤ ·) → (insN x ys).Pairwise (· ≤ ·)
  | [], _ => by simp [insN]
  | y :: ys, h => by
    unfold insN
    obtain ⟨h1, h2⟩ := List.pairwise_cons.mp h
    split
    · rename_i e
      refine List.pairwise_cons.mpr ⟨fun z m => ?_, h⟩
      rcases List.mem_cons.mp m with rfl | m
      · exact e
      · exact Nat.le_trans e (h1 z m)
    · rename_i e
      refine List.pairwise_cons.mpr ⟨fun z m => ?_, insN_pw h2⟩
      rcases List.mem_cons.mp ((insN_perm x ys).mem_iff.mp m) with rfl | m
      · omega
      · exact h1 z m
theorem srtN_pw : ∀ xs : List Nat, (srtN xs).Pairwise (· ≤ ·)
  | [] => .nil
  | _ :: xs => insN_pw (srtN_pw xs)
theorem pw_same : ∀ {a b : List Nat}, a.Perm b → a.Pairwise (· ≤ ·) → b.Pairwise (· ≤ ·) → a = b := fun {a b} p ha hb => List.Perm.eq_of_pairwise (fun x y _ _ h1 h2 => Nat.le_antisymm h1 h2) ha hb p
theorem srtN_of {a b : List Nat} (h : a.Perm b) (p : a.Pairwise (· ≤ ·)) : a = srtN b := pw_same (h.trans (srtN_perm b).symm) p (srtN_pw b)
def sgV : Value → Nat
  | .str z _ => z.cps.toList.headD 0
  | _ => 0
def ltSg (v u : Value) : Bool := decide (sgV v < sgV u)
theorem swo_sg : SrtO.Swo ltSg := by
  refine ⟨fun x y h => ?_, fun x y z h1 h2 => ?_⟩
  · have a := of_decide_eq_true (p := sgV x < sgV y) h
    exact decide_eq_false (p := sgV y < sgV x) (by omega)
  · have a := of_decide_eq_false (p := sgV y < sgV x) h1
    have b := of_decide_eq_false (p := sgV z < sgV y) h2
    exact decide_eq_false (p := sgV z < sgV x) (by omega)
def isSg (v : Value) : Prop := ∃ c t, v = Value.str ⟨#[c]⟩ t
theorem strs_sg : ∀ {vs : List Value}, (∀ v ∈ vs, isSg v) → StrsAre vs (vs.map fun v => sg1 (sgV v))
  | [], _ => .nil
  | v :: vs, h => by
    obtain ⟨c, t, e⟩ := h v List.mem_cons_self
    subst e
    exact .cons _ t (strs_sg fun u hu => h u (List.mem_cons_of_mem _ hu))
theorem vals_sg : ∀ {vs : List Value}, (∀ v ∈ vs, isSg v) → Vals ((vs.map sgV).map fun c => V.str (sg1 c)) vs
  | [], _ => .nil
  | v :: vs, h => by
    obtain ⟨c, t, e⟩ := h v List.mem_cons_self
    subst e
    exact .cons ⟨t, rfl⟩ (vals_sg fun u hu => h u (List.mem_cons_of_mem _ hu))
section
variable {prog : Program} {w : World} {A : Around} {E : Value → Shared → Prop} {s : Shared}
theorem sg_cmp {vs : List Value} (hI : ∀ v ∈ vs, isSg v) : SrtO.Cmp prog w A s oneType' (fun p => p.1 ∈ vs) (SrtO.lt2 ltSg) := by
  intro p q hm hm'
  obtain ⟨a, t, e⟩ := hI _ hm
  obtain ⟨b, u, e'⟩ := hI _ hm'
  show wpAny (model prog w) A (keyLt' oneType' p.1 q.1) (fun r s' => s' = s ∧ r = ltSg p.1 q.1) (fun _ _ => False) s
  rw [e, e', keyLt'_oneType]
  refine oneLt_str ⟨rfl, ?_⟩
  show decide ([a] < [b]) = decide (a < b)
  refine decide_eq_decide.mpr ?_
  constructor
  · intro h
    cases h with
    | cons h => cases h
    | rel h => exact h
  · exact fun h => .rel h
theorem sg_sortable {a : Addr} {vs : List Value} (hI : ∀ v ∈ vs, isSg v) (h2 : 2 ≤ vs.length) : SrtO.SortableO prog w A s a vs ltSg := by
  intro h' _
  refine ⟨oneType', fun Q E hq => ?_, sg_cmp hI⟩
  match vs, strs_sg hI, h2 with
  | v1 :: v2 :: rest, hS, _ =>
    rw [keyKind_strs hS]
    exact wpAny_pure hq
  | [], _, h => exact absurd h (by decide)
  | [v], _, h => exact absurd h (by simp)
theorem sortedTxt {z : Str} {t : Tok} {Q : Value → Shared → Prop} (hh : A.handled = none) (hz : z.length ≤ sizeLine)
    (q : ∀ (s' : Shared) (h2 : Heap) (p : Addr) (out : List Value) (k : Nat), (∀ b o, s.heap.get? b = some o → s'.heap.get? b = some o) → s'.gens = s.gens → s'.drawn = s.drawn → s'.os = s.os → (∀ b o, s'.heap.get? b = some o → h2.get? b = some o) → s'.heap.objs.size ≤ p →
      h2.get? p = some { cls := .type "list", data := .seq out.toArray k } → (∀ v ∈ out, isSg v) → out.map sgV = srtN (tL z) → Q (.ref p) { s' with heap := h2 }) :
    wpAny (model prog w) A (call (.builtin "sorted") [.str z t]) Q E s := by
  refine Calls.call_function_entry kind_sorted plain_sorted entry_sorted (args_sorted1 _) ?_
  unfold Builtin.«sorted»
  refine wpAny_bind (m := checkCount "sorted" 1 1 _) (wpAny_pure ?_)
  refine wpAny_bind (wpAny_collect_str (A := A.in1) (by exact hh) z t (fun s' acc k1 k2 k3 k4 hacc => ?_) hz)
  obtain ⟨hsz, hat⟩ := hacc
  have hI : ∀ v ∈ acc.toList, isSg v := fun v hv => by
    obtain ⟨j, hj⟩ := List.getElem?_of_mem hv
    obtain ⟨c, u, _, e⟩ := hat j v (by rw [← Array.getElem?_toList]; exact hj)
    exact ⟨c, u, e⟩
  have hm : acc.toList.map sgV = tL z := by
    apply List.ext_getElem?
    intro j
    rw [List.getElem?_map]
    by_cases hj : j < acc.toList.length
    · obtain ⟨c, u, e1, e2⟩ := hat j acc.toList[j] (by rw [← Array.getElem?_toList]; exact List.getElem?_eq_getElem hj)
      rw [List.getElem?_eq_getElem hj, e2, Array.getElem?_toList, e1]
      rfl
    · have l1 : acc.toList.length = (tL z).length := by rw [Array.length_toList, hsz, Array.length_toList]
      rw [List.getElem?_eq_none (by omega), List.getElem?_eq_none (by omega)]
      rfl
  have hsz2 : acc.toList.length ≤ sizeLine := by
    rw [Array.length_toList, hsz]
    exact hz
  refine wpAny_bind (wpAny_newList ?_ (by first | exact hsz2 | (rw [List.size_toArray]; exact hsz2)))
  have at_ : (s'.heap.push (seqObj "list" acc.toList.toArray 0)).get? s'.heap.objs.size = some (seqObj "list" acc.toList.toArray 0) := Heap.get?_push_size _ rfl
  have kp2 : ∀ b u, s'.heap.get? b = some u → (s'.heap.push (seqObj "list" acc.toList.toArray 0)).get? b = some u := fun b u e => Heap.get?_push_of_some _ e
  refine wpAny_bind (wpAny_holding (wpAny_call_entry slot_list_sort ⟨_, at_, rfl⟩ entry_list_sort (SrtO.list_sort_ord swo_sg at_ hsz2 (fun h2 => sg_sortable hI h2) fun out e1 e2 => ⟨_, rfl, ?_⟩) (args_list_sort _)))
  obtain ⟨ep, he⟩ := sortedHeap_at (vs := acc.toList) (out := out.toArray) at_
  refine wpAny_pure ⟨_, rfl, q s' _ _ out ep k1 k2 k3 k4 (fun b u e => ?_) (Nat.le_refl _) he (fun v hv => hI v (e2.perm.mem_iff.mp hv)) ?_⟩
  · have lt := Heap.lt_size e
    rw [sortedHeap_old (Nat.ne_of_lt lt) (Heap.lt_size (kp2 b u e))]
    exact kp2 b u e
  · have p := e2.perm.map sgV
    rw [hm] at p
    exact srtN_of p (List.pairwise_map.mpr (e1.imp fun {x y} h => Nat.not_lt.mp (of_decide_eq_false (p := sgV y < sgV x) h)))
end
def rSortTxt : List V → Hp → VK → Prop := fun vs H Q => ∃ z, vs = [.str z] ∧ z.length ≤ sizeLine ∧ ∀ p, H p = none → Q (.ref p) (upd H p (.lst (((srtN (tL z)).map sg1).map V.str)))
theorem cr_sortedTxt {X : Cx} (hc : X.calm = true) : CallR X (.builtin "sorted") rSortTxt := by
  intro pins s σ H vs us Q I r h
  obtain ⟨z, rfl, hz, q⟩ := h
  obtain ⟨u, rfl, t, rfl⟩ := vals1 r
  refine sortedTxt (I.ok.hd hc) hz fun s' h2 p out k k1 k2 k3 k4 k5 k6 e hI hm => ?_
  obtain ⟨h1, g1, d1, t1, o1⟩ := s'
  dsimp only at k1 k2 k3 k4 k5 k6
  subst k2 k3 k4
  have J : Inv X pins σ H { s with heap := h1, toks := t1 } := I.kept k1
  have rv := vals_sg hI
  rw [hm] at rv
  have zl : (((srtN (tL z)).map sg1).map V.str).length ≤ sizeLine := by
    rw [List.length_map, List.length_map, (srtN_perm _).length_eq, tL_len]
    exact hz
  refine ⟨.ref p, _, J.laid (t' := t1) (o := .lst (((srtN (tL z)).map sg1).map V.str)) k5 k6 ⟨zl, out, k, ?_, e⟩, rfl, q _ (J.hok.fresh k6)⟩
  rw [List.map_map]
  exact rv
theorem cn_sortTxt {H : Hp} {z : Str} (h : z.length ≤ 100000) : CN rSortTxt [.str z] H (((srtN (tL z)).map sg1).map .str) := fun H1 vs e r Q q => by
  obtain ⟨v, w, rfl, rfl, rfl⟩ := r
  exact ⟨z, rfl, sz_of h, fun p hp => q p _ _ hp (Ex.new hp) upd_same (rpa_strs _)⟩
end Bm

/-! Comprehensions over lists and texts whose element may raise. -/
namespace Bm
open PySem PySem.Spec PyProof.Rows L2 Evl
/-- it raises, whatever is wished of its end -/
def EvR (te : TE) (σ : L2.St) (H : Hp) : Prop := ∀ H1, Ex H H1 → ∀ Q : VK, te σ H1 Q
def EvO1 (te : TE) (σ : L2.St) (H : Hp) : Option PyData → Prop
  | some d => EvD te σ H d
  | none => EvR te σ H
section
variable {K : PySem.W.Frag} {σ : L2.St} {H : Hp} {te tl : TE} {g : TG} {vs : List Nat}
/-- one turn -/
theorem turn_app {Hb H' : Hp} {Dl : Addr} {ds : List PyData} {σ2 : L2.St} {d : PyData} {Nx : Hp → Prop} (o : Own Hb H' Dl ds) (hl : ds.length ≤ 50000) (h : EvD te σ2 H' d) (im : imm d = true) (k : ∀ H4, Own Hb H4 Dl (ds ++ [d]) → Nx H4) :
    te σ2 H' fun y H4 => ∃ acc, H4 Dl = some (.lst acc) ∧ acc.length < sizeLine ∧ Nx (upd H4 Dl (.lst (acc ++ [y]))) := h H' (Ex.refl H') _ fun w H4 e4 r4 => by
  obtain ⟨acc, k1, k2⟩ := (o.step e4).has
  have kt : KT H4 (upd H4 Dl (.lst (acc ++ [w]))) := KT.lst k1
  refine ⟨acc, k1, sz_lt (by rw [k2.len]; omega), k _ ⟨o.new, Ex.mut (o.step e4).ex o.new, ⟨_, upd_same, ?_⟩, immA_app o.im (immA_one im)⟩⟩
  exact (RpA.keep kt o.im k2).snoc (Rp.keep kt im r4)
theorem lcx_list {α : Type} {f : α → PyData} {xs : List α} (y : α → Option PyData) (h : EvD tl σ H (.list (xs.map f))) (hz : xs.length ≤ 50000)
    (turn : ∀ x v H1, x ∈ xs → Ex H H1 → Rp H1 (f x) v → ∃ σ2, (∀ Q : L2.St → Hp → Prop, Q σ2 H1 → g v (wipe σ vs) H1 Q) ∧ wipe σ2 vs = wipe σ vs ∧ EvO1 te σ2 H1 (y x)) (im : ∀ x ∈ xs, ∀ d, y x = some d → imm d = true)
    {H0 : Hp} (e0 : Ex H H0) {Q : VK} (q : (∀ x ∈ xs, (y x).isSome = true) → ∀ p ws H2, H0 p = none → Ex H0 H2 → H2 p = some (.lst ws) → RpA H2 (xs.filterMap y) ws → Q (.ref p) H2) : tLc (iList K tl) g tYes te vs σ H0 Q :=
  h H0 e0 _ fun v H1 e1 r => by
    obtain ⟨a, ws, ea, h1, h2⟩ := r
    have hl : ws.length = xs.length := by rw [h2.len, List.length_map]
    refine ⟨a, ea, ⟨ws, SqL.of h1⟩, fun Dl hD => lc_list (xs := ws) (fun i H' => Own H1 H' Dl ((xs.take i).filterMap y) ∧ ∀ x ∈ xs.take i, (y x).isSome = true) ?_ (fun i H' _ o => SqL.of (o.1.ex a _ h1)) (fun i x2 H' hi ⟨o, hs⟩ => ?_) fun H' ⟨o, hs⟩ => ?_⟩
    · exact ⟨⟨hD, Ex.new hD, ⟨[], upd_same, RpA.nil⟩, rfl⟩, fun x hx => by simp at hx⟩
    · obtain ⟨d2, q1, q2⟩ := h2.getv hi
      obtain ⟨x, q3, rfl⟩ := map_get q1
      have hx : x ∈ xs := List.mem_of_getElem? q3
      obtain ⟨σ2, g1, g2, g3⟩ := turn x x2 H' hx ((e0.trans e1).trans o.ex) (q2.ex o.ex)
      have hlen : i < xs.length := (List.getElem?_eq_some_iff.mp q3).1
      refine g1 _ ⟨g2, et_yes H' (Ex.refl H') _ fun H3 e3 => ?_⟩
      rw [if_pos rfl]
      have et : xs.take (i + 1) = xs.take i ++ [x] := by rw [List.take_add_one, q3]; rfl
      cases hy : y x with
      | none =>
        rw [hy] at g3
        exact g3 H3 e3 _
      | some d =>
        rw [hy] at g3
        refine turn_app (Nx := fun H4 => Own H1 H4 Dl ((xs.take (i + 1)).filterMap y) ∧ ∀ x ∈ xs.take (i + 1), (y x).isSome = true) (o.step e3) (Nat.le_trans (List.length_filterMap_le ..) (by rw [List.length_take]; omega)) (EvD.mono e3 g3) (im x hx d hy) fun H4 o4 => ⟨?_, fun z hz => ?_⟩
        · rw [et, List.filterMap_append, List.filterMap_cons, hy]
          exact o4
        · rw [et] at hz
          rcases List.mem_append.mp hz with hz | hz
          · exact hs z hz
          · rw [List.mem_singleton.mp hz, hy]
            rfl
    · rw [hl, List.take_length] at o hs
      obtain ⟨acc, k1, k2⟩ := o.has
      exact q hs Dl acc H' (fresh_back e1 o.new) (e1.trans o.ex) k1 k2
/-- over an iterator whose items are known -/
theorem lc_known {J : It} {n : Nat} {f : Nat → V} {Dl : Addr} {H1 : Hp} {Qd : Hp → Prop} (stop : ∀ H, J.stop n H) (go : ∀ i H, i < n → J.go i H) (yld : ∀ i H x H', i < n → J.yld i H x H' → H' = H ∧ x = f i) (Pv : Nat → Hp → Prop) (p0 : Pv 0 (upd H1 Dl (.lst [])))
    (step : ∀ i H, i < n → Pv i H → g (f i) (wipe σ vs) H fun σ2 H2 => wipe σ2 vs = wipe σ vs ∧ tYes σ2 H2 fun b H3 => if b = true then te σ2 H3 fun y H4 => ∃ acc, H4 Dl = some (.lst acc) ∧ acc.length < sizeLine ∧ Pv (i + 1) (upd H4 Dl (.lst (acc ++ [y]))) else Pv (i + 1) H3) (done : ∀ H, Pv n H → Qd H) :
    ∃ W : Nat → Nat → Hp → Prop, (∃ m, W 0 m (upd H1 Dl (.lst []))) ∧ ∀ i m H, W i m H →
      (J.stop i H ∧ Qd H) ∨ (J.go i H ∧ ∃ Nx : Hp → Prop, (∀ H', Nx H' → ∃ m', m' < m ∧ W (i + 1) m' H') ∧ ∀ x H', J.yld i H x H' → g x (wipe σ vs) H' fun σ2 H2 => wipe σ2 vs = wipe σ vs ∧ tYes σ2 H2 fun b H3 =>
        if b = true then te σ2 H3 fun y H4 => ∃ acc, H4 Dl = some (.lst acc) ∧ acc.length < sizeLine ∧ Nx (upd H4 Dl (.lst (acc ++ [y]))) else Nx H3) := by
  refine ⟨fun i m H => m = n - i ∧ i ≤ n ∧ Pv i H, ⟨n, rfl, Nat.zero_le _, p0⟩, ?_⟩
  rintro i m H ⟨rfl, hi, p⟩
  by_cases hlt : i < n
  · refine .inr ⟨go i H hlt, Pv (i + 1), fun H' p' => ⟨n - (i + 1), by omega, rfl, hlt, p'⟩, fun x H' yx => ?_⟩
    obtain ⟨rfl, rfl⟩ := yld i H x H' hlt yx
    exact step i _ hlt p
  · have e : i = n := by omega
    subst e
    exact .inl ⟨stop H, done H p⟩
theorem lcx_signs {J : It} {cs : List Nat} (y : Nat → Option PyData) (stop : ∀ H, J.stop cs.length H) (go : ∀ i H, i < cs.length → J.go i H) (yld : ∀ i H x H', i < cs.length → J.yld i H x H' → H' = H ∧ x = .str (sg1 (cs.getD i 0))) (hz : cs.length ≤ 50000)
    (turn : ∀ c H1, c ∈ cs → Ex H H1 → ∃ σ2, (∀ Q : L2.St → Hp → Prop, Q σ2 H1 → g (.str (sg1 c)) (wipe σ vs) H1 Q) ∧ wipe σ2 vs = wipe σ vs ∧ EvO1 te σ2 H1 (y c)) (im : ∀ c ∈ cs, ∀ d, y c = some d → imm d = true) {H1 : Hp} (e1 : Ex H H1) {Dl : Addr} (hD : H1 Dl = none)
    {Qd : Hp → Prop} (q : (∀ c ∈ cs, (y c).isSome = true) → ∀ ws H2, Ex H1 H2 → H2 Dl = some (.lst ws) → RpA H2 (cs.filterMap y) ws → Qd H2) :
    ∃ W : Nat → Nat → Hp → Prop, (∃ m, W 0 m (upd H1 Dl (.lst []))) ∧ ∀ i m H, W i m H →
      (J.stop i H ∧ Qd H) ∨ (J.go i H ∧ ∃ Nx : Hp → Prop, (∀ H', Nx H' → ∃ m', m' < m ∧ W (i + 1) m' H') ∧ ∀ x H', J.yld i H x H' → g x (wipe σ vs) H' fun σ2 H2 => wipe σ2 vs = wipe σ vs ∧ tYes σ2 H2 fun b H3 =>
        if b = true then te σ2 H3 fun y H4 => ∃ acc, H4 Dl = some (.lst acc) ∧ acc.length < sizeLine ∧ Nx (upd H4 Dl (.lst (acc ++ [y]))) else Nx H3) := by
  refine lc_known (n := cs.length) (f := fun i => .str (sg1 (cs.getD i 0))) stop go yld (fun i H' => Own H1 H' Dl ((cs.take i).filterMap y) ∧ ∀ x ∈ cs.take i, (y x).isSome = true) ⟨⟨hD, Ex.new hD, ⟨[], upd_same, RpA.nil⟩, rfl⟩, fun x hx => by simp at hx⟩ (fun i H' hi ⟨o, hs⟩ => ?_) fun H' ⟨o, hs⟩ => ?_
  · have hg : cs[i]? = some (cs.getD i 0) := by rw [List.getD_eq_getElem?_getD, List.getElem?_eq_getElem hi]; rfl
    generalize cs.getD i 0 = c at hg
    have hx : c ∈ cs := List.mem_of_getElem? hg
    obtain ⟨σ2, g1, g2, g3⟩ := turn c H' hx (e1.trans o.ex)
    refine g1 _ ⟨g2, et_yes H' (Ex.refl H') _ fun H3 e3 => ?_⟩
    rw [if_pos rfl]
    have et : cs.take (i + 1) = cs.take i ++ [c] := by rw [List.take_add_one, hg]; rfl
    cases hy : y c with
    | none =>
      rw [hy] at g3
      exact g3 H3 e3 _
    | some d =>
      rw [hy] at g3
      refine turn_app (Nx := fun H4 => Own H1 H4 Dl ((cs.take (i + 1)).filterMap y) ∧ ∀ x ∈ cs.take (i + 1), (y x).isSome = true) (o.step e3) (Nat.le_trans (List.length_filterMap_le ..) (by rw [List.length_take]; omega)) (EvD.mono e3 g3) (im c hx d hy) fun H4 o4 => ⟨?_, fun z hz => ?_⟩
      · rw [et, List.filterMap_append, List.filterMap_cons, hy]
        exact o4
      · rw [et] at hz
        rcases List.mem_append.mp hz with hz | hz
        · exact hs z hz
        · rw [List.mem_singleton.mp hz, hy]
          rfl
  · rw [List.take_length] at o hs
    obtain ⟨acc, k1, k2⟩ := o.has
    exact q hs acc H' o.ex k1 k2
/-- over a text -/
theorem lcx_str {z : Str} (y : Nat → Option PyData) (h : EvD tl σ H (.str z)) (hz : z.length ≤ 50000)
    (turn : ∀ c H1, c ∈ tL z → Ex H H1 → ∃ σ2, (∀ Q : L2.St → Hp → Prop, Q σ2 H1 → g (.str (sg1 c)) (wipe σ vs) H1 Q) ∧ wipe σ2 vs = wipe σ vs ∧ EvO1 te σ2 H1 (y c)) (im : ∀ c ∈ tL z, ∀ d, y c = some d → imm d = true)
    {H0 : Hp} (e0 : Ex H H0) {Q : VK} (q : (∀ c ∈ tL z, (y c).isSome = true) → ∀ p ws H2, H0 p = none → Ex H0 H2 → H2 p = some (.lst ws) → RpA H2 ((tL z).filterMap y) ws → Q (.ref p) H2) : tLc (iStr tl) g tYes te vs σ H0 Q :=
  h H0 e0 _ fun v H1 e1 r => by
    obtain rfl : v = .str z := r
    have hn : (tL z).length = z.cps.size := Array.length_toList
    refine ⟨z, rfl, fun Dl hD => lcx_signs (J := Its z) (H := H) (cs := tL z) y (fun H => by show z.cps.size ≤ (tL z).length; omega) (fun i H hi => by show i < z.cps.size; omega) (fun i H x H' hi ⟨eH, c, hc, ex⟩ => ⟨eH, ?_⟩) (by rw [tL_len]; exact hz) turn im (e0.trans e1) hD fun hs ws H2 ex k1 k2 => q hs Dl ws H2 (fresh_back e1 hD) (e1.trans ex) k1 k2⟩
    rw [ex, List.getD_eq_getElem?_getD, Array.getElem?_toList, hc]
    rfl
theorem evr_str {z : Str} (y : Nat → Option PyData) (h : EvD tl σ H (.str z)) (hz : z.length ≤ 50000)
    (turn : ∀ c H1, c ∈ tL z → Ex H H1 → ∃ σ2, (∀ Q : L2.St → Hp → Prop, Q σ2 H1 → g (.str (sg1 c)) (wipe σ vs) H1 Q) ∧ wipe σ2 vs = wipe σ vs ∧ EvO1 te σ2 H1 (y c)) (im : ∀ c ∈ tL z, ∀ d, y c = some d → imm d = true) (bad : ∃ c ∈ tL z, y c = none) :
    EvR (tLc (iStr tl) g tYes te vs) σ H := fun H0 e0 Q => lcx_str y h hz turn im e0 fun all => by
  obtain ⟨c, hc, e⟩ := bad
  have := all c hc
  rw [e] at this
  cases this
theorem evn_str {z : Str} (y : Nat → PyData) (h : EvD tl σ H (.str z)) (hz : z.length ≤ 50000)
    (turn : ∀ c H1, c ∈ tL z → Ex H H1 → ∃ σ2, (∀ Q : L2.St → Hp → Prop, Q σ2 H1 → g (.str (sg1 c)) (wipe σ vs) H1 Q) ∧ wipe σ2 vs = wipe σ vs ∧ EvD te σ2 H1 (y c)) (im : ∀ c ∈ tL z, imm (y c) = true) : EvN (tLc (iStr tl) g tYes te vs) σ H ((tL z).map y) := fun H0 e0 Q q =>
  lcx_str (fun c => some (y c)) h hz turn (fun c hc d e => by cases e; exact im c hc) e0 fun _ p ws H2 hp ex k1 k2 => q p ws H2 hp ex k1 (by rwa [show (fun c => some (y c)) = some ∘ y from rfl, List.filterMap_eq_map] at k2)
/-- over a text, last to first -/
theorem evn_revS {z : Str} (y : Nat → PyData) (h : EvD tl σ H (.str z)) (hz : z.length ≤ 50000)
    (turn : ∀ c H1, c ∈ tL z → Ex H H1 → ∃ σ2, (∀ Q : L2.St → Hp → Prop, Q σ2 H1 → g (.str (sg1 c)) (wipe σ vs) H1 Q) ∧ wipe σ2 vs = wipe σ vs ∧ EvD te σ2 H1 (y c)) (im : ∀ c ∈ tL z, imm (y c) = true) : EvN (tLc (iRevS tl) g tYes te vs) σ H ((tL z).reverse.map y) := fun H0 e0 Q q =>
  h H0 e0 _ fun v H1 e1 r => by
    obtain rfl : v = .str z := r
    have hn : (tL z).reverse.length = z.cps.size := by rw [List.length_reverse]; exact Array.length_toList
    refine ⟨z, rfl, sz_of (by omega), fun Dl hD => lcx_signs (J := ItsR z) (H := H) (cs := (tL z).reverse) (fun c => some (y c)) (fun H => by show z.cps.size ≤ (tL z).reverse.length; omega) (fun i H hi => by show i < z.cps.size; omega) (fun i H x H' hi ⟨eH, c, hc, ex⟩ => ⟨eH, ?_⟩) (by rw [List.length_reverse, tL_len]; exact hz) (fun c H1 hc => turn c H1 (List.mem_reverse.mp hc)) (fun c hc d e => by cases e; exact im c (List.mem_reverse.mp hc)) (e0.trans e1) hD fun hs ws H2 ex k1 k2 => q Dl ws H2 (fresh_back e1 hD) (e1.trans ex) k1 (by rwa [show (fun c => some (y c)) = some ∘ y from rfl, List.filterMap_eq_map] at k2)⟩
    rw [ex, List.getD_eq_getElem?_getD, List.getElem?_reverse (by rw [List.length_reverse] at hi; exact hi), Array.length_toList, Array.getElem?_toList, hc]
    rfl
end
theorem fr_def {X : Cx} (h1 : X.stack = X.env :: X.outer) (h2 : X.env.frame = some X.env.locals) : Fr X X.env.locals := ⟨⟨_, _, h1, h2⟩, h2⟩
/-- what our error classes answer, for texts read -/
structure Ern (K : PySem.W.Frag) (mg : Str → Option Value) (C1 C2 C3 C4 C5 B : Addr) : Prop where
  g_BadCount : mg "BadCount" = some (.ref C1)
  g_BadVoter : mg "BadVoter" = some (.ref C2)
  g_BadWeb : mg "BadWeb" = some (.ref C3)
  g_TooMany : mg "TooMany" = some (.ref C4)
  g_BadNote : mg "BadNote" = some (.ref C5)
  g_BeatError : mg "BeatError" = some (.ref B)
  r5 : Er K C5 C1 C2 C3 C4 C5 B false false false false true
  x11 : PySem.W.exmOne K (.ref C1) (.ref C1) = some true
  x21 : PySem.W.exmOne K (.ref C2) (.ref C1) = some false
  x22 : PySem.W.exmOne K (.ref C2) (.ref C2) = some true
section
variable {σ : L2.St} {H : Hp} {tr : TA} {d : PyData} {α : Type} {enc : α → List PyData} {pre : α → Prop} {out : α → Out} {Es : L2.St → XK}
theorem evd_callX (a : α) (h : EvS tr σ H (enc a)) (hp : pre a) (ho : out a = .val d) : EvD (tCallS (spO enc pre out) Es tr) σ H d := fun H1 e Q q => h H1 e _ fun vs H2 e2 r => ⟨a, r, hp, by rw [ho]; exact fun v H3 e3 r3 => q v H3 (e2.trans e3) r3⟩
theorem evr_callX {C : Addr} (a : α) (h : EvS tr σ H (enc a)) (hp : pre a) (ho : out a = .exc C) (x : ∀ H2, Ex H H2 → Es σ (.ref C) none H2) : EvR (tCallS (spO enc pre out) Es tr) σ H := fun H1 e Q => h H1 e _ fun vs H2 e2 r => ⟨a, r, hp, by rw [ho]; exact fun H3 e3 => x H3 ((e.trans e2).trans e3)⟩
theorem s_asgR {te : TE} {g : TG} {D : Ends} (h : EvR te σ H) : tAsg te g D σ H := h H (Ex.refl H) _
end
/-- its signs are small -/
def Asc (z : Str) : Prop := ∀ c ∈ tL z, c < 128
theorem asc_strOk {z : Str} (h : Asc z) : PyData.strOk z = true := by
  show (z.cps.all fun c => decide (c < 0x110000)) = true
  rw [← Array.all_toList, List.all_eq_true]
  intro c hc
  have := h c hc
  exact decide_eq_true (by omega)
theorem Cmp.str {i : Str} (h : Asc i) : Cmp 0 (.str i) := ⟨rfl, by rw [PyData.canLay0]; exact asc_strOk h, by rw [PyData.depth]; exact Nat.le_refl _⟩
theorem sg_inj {a b : Nat} (h : sg1 a = sg1 b) : a = b := by
  have := congrArg (fun z : Str => z.cps.toList) h
  simpa using this
def sgL (cs : List Nat) : PyData := .list ((cs.map sg1).map .str)
theorem cmp_sgL {cs : List Nat} (h : ∀ c ∈ cs, c < 128) : Cmp 1 (sgL cs) := Cmp.lst (mem_map_of fun i hi => by
  obtain ⟨c, hc, rfl⟩ := List.mem_map.mp hi
  refine Cmp.str fun x hx => ?_
  have : x = c := by simpa using hx
  rw [this]
  exact h c hc)
theorem sgL_inj {a b : List Nat} (h : sgL a = sgL b) : a = b := (List.map_inj_right fun _ _ => sg_inj).mp (map_inj (f := PyData.str) (fun _ _ e => PyData.str.inj e) (PyData.list.inj h))
theorem rd_neSg {K : PySem.W.Frag} {H : Hp} {a b : List Nat} (ha : ∀ c ∈ a, c < 128) (hb : ∀ c ∈ b, c < 128) : RD (rNeD K) (sgL a) (sgL b) H (.bool (!decide (a = b))) := rd_neD (cmp_sgL ha) (cmp_sgL hb) ⟨sgL_inj, fun e => by rw [e]⟩
theorem asc_app {a b : Str} (h1 : Asc a) (h2 : Asc b) : Asc (a ++ b) := fun c hc => by
  have hc : c ∈ tL (a ++ b) := hc
  rw [show tL (a ++ b) = tL a ++ tL b from TL.tl_append a b] at hc
  exact (List.mem_append.mp hc).elim (h1 c) (h2 c)
theorem asc_cut {a : Str} (h : Asc a) (lo hi : Option Int) : Asc (cutS a lo hi) := fun c hc => h c (List.mem_of_mem_drop (List.mem_of_mem_take hc))
theorem spl_sub (S : List Nat) : ∀ (l : List Nat) (k : Nat) (acc : List Nat), ∀ p ∈ TL.spl S k acc l, ∀ c ∈ p, c ∈ acc ∨ c ∈ l
  | [], k, acc, p, hp, c, hc => by
    rw [TL.spl_nil] at hp
    rw [List.mem_singleton.mp hp] at hc
    exact .inl hc
  | x :: r, k + 1, acc, p, hp, c, hc => (spl_sub S r k acc p hp c hc).imp id (List.mem_cons_of_mem _)
  | x :: r, 0, acc, p, hp, c, hc => by
    cases e : TL.pre S (x :: r) with
    | true =>
      rw [TL.spl_hit e] at hp
      rcases List.mem_cons.mp hp with rfl | hp
      · exact .inl hc
      · rcases spl_sub S r (S.length - 1) [] p hp c hc with h | h
        · cases h
        · exact .inr (List.mem_cons_of_mem _ h)
    | false =>
      rw [TL.spl_miss e] at hp
      rcases spl_sub S r 0 (acc ++ [x]) p hp c hc with h | h
      · rcases List.mem_append.mp h with h | h
        · exact .inl h
        · rw [List.mem_singleton.mp h]
          exact .inr List.mem_cons_self
      · exact .inr (List.mem_cons_of_mem _ h)
theorem asc_split {a : Str} (h : Asc a) : ∀ p ∈ Txt.split a " ", Asc p := fun p hp c hc => by
  have e : (Txt.split a " ").map tL = TL.spl (tL " ") 0 [] (tL a) := TL.split_spl a " " (by decide +kernel) (TL.kind_ok (by decide +kernel))
  have hm : tL p ∈ (Txt.split a " ").map tL := List.mem_map.mpr ⟨p, hp, rfl⟩
  rw [e] at hm
  rcases spl_sub _ _ _ _ _ hm c hc with h2 | h2
  · cases h2
  · exact h c h2
theorem asc_join {a : Str} (ha : Asc a) : ∀ {ys : List Str}, (∀ y ∈ ys, Asc y) → Asc (Txt.join a ys) := fun {ys} h => by
  rw [TL.join_eq]
  induction ys with
  | nil => exact fun c hc => by cases hc
  | cons x ys ih =>
    cases ys with
    | nil => exact h x List.mem_cons_self
    | cons y ys =>
      show Asc (x ++ a ++ Str.join a (y :: ys))
      exact asc_app (asc_app (h x List.mem_cons_self) ha) (ih fun z hz => h z (List.mem_cons_of_mem _ hz))
theorem join_len {a : Str} {B : Nat} : ∀ {ys : List Str}, (∀ y ∈ ys, y.length ≤ B) → (Txt.join a ys).length ≤ ys.length * (B + a.length) := fun {ys} h => by
  rw [TL.join_eq]
  induction ys with
  | nil => exact Nat.zero_le _
  | cons x ys ih =>
    have hx := h x List.mem_cons_self
    cases ys with
    | nil =>
      show x.length ≤ 1 * _
      omega
    | cons y ys =>
      show (x ++ a ++ Str.join a (y :: ys)).length ≤ _
      have := ih fun z hz => h z (List.mem_cons_of_mem _ hz)
      rw [PySem.Str.length_append, PySem.Str.length_append, List.length_cons (a := x), Nat.succ_mul]
      omega
end Bm

namespace Bm
open PySem PySem.Spec PyProof.Rows L2 Evl
def topS (i : Nat) : Stmt := PySem.Challenge.pw_beatmakers_k07_voters_written.main.body.getD i (.Pass ⟨0, 0, 0, 0⟩)
abbrev s_look_at_count : Stmt := topS 9
theorem c_look_at_count : FnScope ["many"] ["many"] (defScope s_look_at_count) := ⟨rfl, rfl, rfl, by decide +kernel, rfl, by decide +kernel, by decide +kernel⟩
abbrev s_look_at_voters : Stmt := topS 10
theorem c_look_at_voters : FnScope ["many", "voters", "voter"] ["many", "voters"] (defScope s_look_at_voters) := ⟨rfl, rfl, rfl, by decide +kernel, rfl, by decide +kernel, by decide +kernel⟩
abbrev s_shown : Stmt := topS 14
theorem c_shown : FnScope ["many", "voters", "words", "voter", "thing"] ["many", "voters"] (defScope s_shown) := ⟨rfl, rfl, rfl, by decide +kernel, rfl, by decide +kernel, by decide +kernel⟩
abbrev s_number_of : Stmt := topS 15
theorem c_number_of : FnScope ["sign"] ["sign"] (defScope s_number_of) := ⟨rfl, rfl, rfl, by decide +kernel, rfl, by decide +kernel, by decide +kernel⟩
abbrev s_read : Stmt := topS 16
theorem c_read : FnScope ["text", "words", "many", "voters", "word", "sign"] ["text"] (defScope s_read) := ⟨rfl, rfl, rfl, by decide +kernel, rfl, by decide +kernel, by decide +kernel⟩
abbrev s__law_cell_at : Stmt := topS 18
theorem c__law_cell_at : FnScope ["script", "k"] ["script", "k"] (defScope s__law_cell_at) := ⟨rfl, rfl, rfl, by decide +kernel, rfl, by decide +kernel, by decide +kernel⟩
abbrev s__law_whole : Stmt := topS 19
theorem c__law_whole : FnScope ["found"] ["found"] (defScope s__law_whole) := ⟨rfl, rfl, rfl, by decide +kernel, rfl, by decide +kernel, by decide +kernel⟩
abbrev s__law_order : Stmt := topS 20
theorem c__law_order : FnScope ["cell", "many", "left", "order", "k"] ["cell", "many"] (defScope s__law_order) := ⟨rfl, rfl, rfl, by decide +kernel, rfl, by decide +kernel, by decide +kernel⟩
abbrev s__law_voters : Stmt := topS 21
theorem c__law_voters : FnScope ["script", "start", "many", "most", "count", "voters", "more", "k"] ["script", "start", "many", "most"] (defScope s__law_voters) := ⟨rfl, rfl, rfl, by decide +kernel, rfl, by decide +kernel, by decide +kernel⟩
abbrev s__law_spoiled : Stmt := topS 22
theorem c__law_spoiled : FnScope ["text", "way", "cell", "other", "sign", "at", "words", "spot"] ["text", "way", "cell", "other"] (defScope s__law_spoiled) := ⟨rfl, rfl, rfl, by decide +kernel, rfl, by decide +kernel, by decide +kernel⟩
abbrev s__law_odd : Stmt := topS 23
theorem c__law_odd : FnScope ["cell", "some"] ["cell"] (defScope s__law_odd) := ⟨rfl, rfl, rfl, by decide +kernel, rfl, by decide +kernel, by decide +kernel⟩
abbrev s__law_due : Stmt := topS 24
theorem c__law_due : FnScope ["text", "words", "many", "voters", "word", "sign"] ["text"] (defScope s__law_due) := ⟨rfl, rfl, rfl, by decide +kernel, rfl, by decide +kernel, by decide +kernel⟩
abbrev s__law_told : Stmt := topS 25
theorem c__law_told : FnScope ["text", "found", "e", "flags"] ["text"] (defScope s__law_told) := ⟨rfl, rfl, rfl, by decide +kernel, rfl, by decide +kernel, by decide +kernel⟩
abbrev s__law_right : Stmt := topS 26
theorem c__law_right : FnScope ["found", "due", "voter", "thing"] ["found", "due"] (defScope s__law_right) := ⟨rfl, rfl, rfl, by decide +kernel, rfl, by decide +kernel, by decide +kernel⟩
abbrev s_law : Stmt := topS 27
theorem c_law : FnScope ["script", "many", "voters", "text", "voter", "handed", "found", "way", "due", "turn", "thing"] ["script"] (defScope s_law) := ⟨rfl, rfl, rfl, by decide +kernel, rfl, by decide +kernel, by decide +kernel⟩
local macro_rules | `(tactic| wtm_at "rp") => `(tactic| first | exact rp_int | exact rp_bl | exact rp_str | exact rp_non | assumption | (refine' Rp.ex ?e ?h; (case h => assumption); (case e => assumption)) | exact Own.rp (by assumption))
local macro_rules | `(tactic| wtm_at "side") => `(tactic| first | assumption | omega | decide | rfl | exact ⟨by omega, by omega⟩)
local macro_rules | `(tactic| wtm_at "es") => `(tactic| first | exact evs_nil | (refine' evs_cons ?a ?b; (case a => wtm_at "ev"); (case b => wtm_at "es")))
local macro_rules | `(tactic| wtm_at "ev") => `(tactic| first
  | exact evd_int | exact evd_str | exact evd_bl | exact evd_non
  | (refine' evd_var rfl ?h; (case h => wtm_at "rp"))
  | ((with_reducible refine' evd_op ?a ?b rd_addI); (case a => wtm_at "ev"); (case b => wtm_at "ev"))
  | ((with_reducible refine' evd_op ?a ?b rd_subI); (case a => wtm_at "ev"); (case b => wtm_at "ev"))
  | ((with_reducible refine' evd_op ?a ?b (rd_mulI ?c)); (case a => wtm_at "ev"); (case b => wtm_at "ev"); (case c => wtm_at "side"))
  | ((with_reducible refine' evd_op ?a ?b (rd_divI ?c)); (case a => wtm_at "ev"); (case b => wtm_at "ev"); (case c => wtm_at "side"))
  | ((with_reducible refine' evd_op ?a ?b (rd_modI ?c)); (case a => wtm_at "ev"); (case b => wtm_at "ev"); (case c => wtm_at "side"))
  | ((with_reducible refine' evd_op ?a ?b rd_ltI); (case a => wtm_at "ev"); (case b => wtm_at "ev"))
  | ((with_reducible refine' evd_op ?a ?b rd_leI); (case a => wtm_at "ev"); (case b => wtm_at "ev"))
  | ((with_reducible refine' evd_op ?a ?b rd_gtI); (case a => wtm_at "ev"); (case b => wtm_at "ev"))
  | ((with_reducible refine' evd_op ?a ?b rd_geI); (case a => wtm_at "ev"); (case b => wtm_at "ev"))
  | ((with_reducible refine' evd_op ?a ?b rd_eqI); (case a => wtm_at "ev"); (case b => wtm_at "ev"))
  | ((with_reducible refine' evd_op ?a ?b rd_neI); (case a => wtm_at "ev"); (case b => wtm_at "ev"))
  | ((with_reducible refine' evd_op ?a ?b rd_eqB); (case a => wtm_at "ev"); (case b => wtm_at "ev"))
  | ((with_reducible refine' evd_op ?a ?b rd_neB); (case a => wtm_at "ev"); (case b => wtm_at "ev"))
  | ((with_reducible refine' evd_op ?a ?b rd_isNo); (case a => wtm_at "ev"); (case b => wtm_at "ev"))
  | ((with_reducible refine' evd_op ?a ?b rd_notNo); (case a => wtm_at "ev"); (case b => wtm_at "ev"))
  | ((with_reducible refine' evd_op ?a ?b rd_inIL); (case a => wtm_at "ev"); (case b => wtm_at "ev"))
  | ((with_reducible refine' evd_op ?a ?b rd_niIL); (case a => wtm_at "ev"); (case b => wtm_at "ev"))
  | ((with_reducible refine' evd_op ?a ?b rd_inID); (case a => wtm_at "ev"); (case b => wtm_at "ev"))
  | ((with_reducible refine' evd_op ?a ?b rd_niID); (case a => wtm_at "ev"); (case b => wtm_at "ev"))
  | ((with_reducible refine' evd_neg ?a); (case a => wtm_at "ev"))
  | ((with_reducible refine' evd_tix ?a ?b ?c); (case a => wtm_at "ev"); (case b => wtm_at "ev"); (case c => wtm_at "side"))
  | ((with_reducible refine' evd_tup ?a ?b); (case a => wtm_at "es"); (case b => exact Nat.le_of_ble_eq_true rfl))
  | ((with_reducible refine' evd_cb ?a cd_lenL); (case a => wtm_at "es"))
  | ((with_reducible refine' evd_cb ?a cd_lenT); (case a => wtm_at "es"))
  | ((with_reducible refine' evd_cb ?a cd_intB); (case a => wtm_at "es"))
  | ((with_reducible refine' evd_cb ?a cd_tupL); (case a => wtm_at "es"))
  | ((with_reducible refine' evd_and ?a ?b); (case a => wtm_at "ev"); (case b => intro _; wtm_at "ev"))
  | ((with_reducible refine' evd_or ?a ?b); (case a => wtm_at "ev"); (case b => intro _; wtm_at "ev"))
  | ((with_reducible refine' evd_not ?a); (case a => wtm_at "ev"))
  | ((with_reducible refine' evd_op ?a ?b rd_neIL); (case a => wtm_at "ev"); (case b => wtm_at "ev"))
  | ((with_reducible refine' evd_op ?a ?b rd_eqIL); (case a => wtm_at "ev"); (case b => wtm_at "ev"))
  | ((with_reducible refine' EvN.toD ?a); (case a => wtm_at "en")))
local macro_rules | `(tactic| wtm_at "en") => `(tactic| first
  | ((with_reducible refine' evn_cb ?a cn_sortTI); (case a => wtm_at "es"))
  | ((with_reducible refine' evn_cb ?a cn_listL); (case a => wtm_at "es"))
  | ((with_reducible refine' evn_cb ?a cn_listT); (case a => wtm_at "es"))
  | ((with_reducible refine' evn_rng ?a ?b); (case a => wtm_at "ev"); (case b => wtm_at "side"))
  | ((with_reducible refine' evn_lst ?a ?b); (case a => wtm_at "es"); (case b => exact Nat.le_of_ble_eq_true rfl))
  | ((with_reducible refine' evn_cat ?a ?b ?c); (case a => wtm_at "ev"); (case b => wtm_at "ev"); (case c => wtm_at "side"))
  | ((with_reducible refine' evn_slL ?a ?b ?c); (case a => wtm_at "ev"); (case b => first | exact evp_none | (refine' evp_some ?d; (case d => wtm_at "ev"))); (case c => first | exact evp_none | (refine' evp_some ?d; (case d => wtm_at "ev")))))
local macro_rules | `(tactic| wtm_at "et") => `(tactic| first
  | exact et_yes
  | (refine' ett ?a; (case a => wtm_at "ev"))
  | (refine' etB ?a; (case a => wtm_at "ev"))
  | (refine' et_and ?a ?b; (case a => wtm_at "et"); (case b => intro _; wtm_at "et"))
  | (refine' et_or ?a ?b; (case a => wtm_at "et"); (case b => intro _; wtm_at "et"))
  | (refine' et_not ?a; (case a => wtm_at "et")))
local macro_rules | `(tactic| wtm_at "nx") => `(tactic| try dsimp only [tSeq, tNext])
/-! ### leads, beats, plain -/
/-- what one order gives: 1 where a is ahead of b -/
def sgn1 (v : List Int) (a b : Int) : Int := if ixOf a v < ixOf b v then 1 else -1
def leadF (vs : List (List Int)) (a b : Int) : Int := (vs.map fun v => sgn1 v a b).sum
theorem leadF_snoc (vs : List (List Int)) (v : List Int) (a b : Int) : leadF (vs ++ [v]) a b = leadF vs a b + sgn1 v a b := by
  unfold leadF
  rw [List.map_append, List.sum_append]
  simp
theorem leadF_app (vs ws : List (List Int)) (a b : Int) : leadF (vs ++ ws) a b = leadF vs a b + leadF ws a b := by
  unfold leadF
  rw [List.map_append, List.sum_append]
theorem leadF_take {vs : List (List Int)} {v : List Int} {i : Nat} (h : vs[i]? = some v) (a b : Int) : leadF (vs.take (i + 1)) a b = leadF (vs.take i) a b + sgn1 v a b := by
  rw [List.take_add_one, h]
  exact leadF_snoc _ _ _ _
theorem leadF_abs (a b : Int) : ∀ vs : List (List Int), -(vs.length : Int) ≤ leadF vs a b ∧ leadF vs a b ≤ (vs.length : Int)
  | [] => by simp [leadF]
  | v :: vs => by
    have ih := leadF_abs a b vs
    have e : leadF (v :: vs) a b = sgn1 v a b + leadF vs a b := by unfold leadF; rw [List.map_cons, List.sum_cons]
    rw [e, List.length_cons]
    unfold sgn1
    split <;> omega
/-- an order of m things -/
def isOrd (m : Int) (v : List Int) : Prop := srt v = rgI 0 m.toNat
instance (m : Int) (v : List Int) : Decidable (isOrd m v) := inferInstanceAs (Decidable (_ = _))
theorem isOrd_iff {m : Int} {v : List Int} : isOrd m v ↔ v.Perm (rgI 0 m.toNat) := srt_iff
theorem isOrd.mem {m : Int} {v : List Int} (h : isOrd m v) {x : Int} : x ∈ v ↔ 0 ≤ x ∧ x < m := by
  rw [(isOrd_iff.mp h).mem_iff, mem_rgI]
  omega
theorem isOrd.len {m : Int} {v : List Int} (h : isOrd m v) : v.length = m.toNat := by rw [(isOrd_iff.mp h).length_eq, rgI_len]
theorem rgI_nodup (lo : Int) (n : Nat) : (rgI lo n).Nodup := by
  unfold rgI
  exact List.pairwise_map.mpr (List.pairwise_lt_range.imp fun {i j} l z => by omega)
theorem isOrd.nodup {m : Int} {v : List Int} (h : isOrd m v) : v.Nodup := (isOrd_iff.mp h).nodup_iff.mpr (rgI_nodup 0 m.toNat)
def isVot (m : Int) (vs : List (List Int)) : Prop := ∀ v ∈ vs, isOrd m v
instance (m : Int) (vs : List (List Int)) : Decidable (isVot m vs) := inferInstanceAs (Decidable (∀ v ∈ vs, isOrd m v))
/-- the beats of one thing, the beats of all -/
def beatsOne (m : Int) (vs : List (List Int)) (a : Int) : List (Int × Int) := ((rgI 0 m.toNat).filter fun b => !decide (a = b) && decide (0 < leadF vs a b)).map fun b => (a, b)
def beatsF (m : Int) (vs : List (List Int)) : List (Int × Int) := ((rgI 0 m.toNat).map (beatsOne m vs)).flatten
/-! ### look_at_count -/
def okCount (m : Int) : Prop := 1 ≤ m ∧ m ≤ 6
instance (m : Int) : Decidable (okCount m) := inferInstanceAs (Decidable (_ ∧ _))
def sp_look_at_count (C : Addr) : Sp := spO (α := Int) (fun m => [.int m]) (fun _ => True) fun m => if okCount m then .val .none else .exc C
theorem len_look_at_count {C_BadCount : Addr} (vs : List V) (H : Hp) (Q : VK) (E : XK) (h : (sp_look_at_count C_BadCount) vs H Q E) : vs.length = 1 := by
  unfold sp_look_at_count at h
  obtain ⟨a, r, _⟩ := h
  rw [r.len]
  rfl
section
variable {P : Program} {w : World} {K : PySem.W.Frag} {mg : Str → Option Value} {base : Heap}
theorem ok_look_at_count {f : Addr} {fd : FuncData} (D : Df K mg "look_at_count" s_look_at_count ["many"] f fd) (Bi : Bi mg) {C_BadCount : Addr} (X_BadCount : Xc K mg "BadCount" C_BadCount) {t_MOST_THINGS : Tok} (K_MOST_THINGS : mg "MOST_THINGS" = some (.int 6 t_MOST_THINGS)) : FnOk P w K mg base (L2N.CX P w) 1 f fd ["many"] (sp_look_at_count C_BadCount) := by
  refine okXN D.F c_look_at_count (fun vs H Q E h => len_look_at_count _ _ _ _ h) (fun cdv A outer s H vs Q E hr h => ?_)
  refine ⟨_, (pss_one (ps_if (PW.pt (pw_or (pt_cmpR op_ltI (pv 0) pe_int (nomark _)) (pw_or1 (pt_cmpR op_gtI (pv 0) (pe_glob (v := .int 6) (by rfl) K_MOST_THINGS ⟨_, rfl⟩) (nomark _)))))
      (pss_one (L2N.ps_raise rfl (L2N.takes_of rfl rfl rfl rfl) (L2N.pmk_own PySem.F.excBase_ValueError X_BadCount.x X_BadCount.g X_BadCount.k (raises_own X_BadCount.b X_BadCount.t) (by exact rfl))))
      pss_nil)), ?_⟩
  obtain ⟨m, ⟨v, _, rfl, rfl, rfl⟩, -, q⟩ := h
  dsimp only at q
  refine' s_if (b := _) ?t ?yes ?no
  case t => wtm_at "et"
  case yes =>
    intro hb H1 e1
    have hm : ¬ okCount m := by unfold okCount; simp at hb; omega
    rw [if_neg hm] at q
    exact q H1 e1
  case no =>
    intro hb H1 e1
    have hm : okCount m := by unfold okCount; simp at hb; omega
    rw [if_pos hm] at q
    exact q .non H1 e1 rfl
end
/-! ### look_at_voters -/
def chkV (C1 C2 : Addr) (m : Int) (vss : List (List Int)) (o : Out) : Out := if okCount m then (if isVot m vss then o else .exc C2) else .exc C1
theorem chkV_go {C1 C2 : Addr} {m : Int} {vss : List (List Int)} {o : Out} {H H1 : Hp} {Q : VK} {E : XK} {N : Hp → Prop} (q : Gives H Q E (chkV C1 C2 m vss o)) (e : Ex H H1)
    (k : okCount m → isVot m vss → Gives H Q E o → ∀ H2, Ex H1 H2 → N H2) : Gives H1 (fun _ H2 => N H2) E (chkV C1 C2 m vss (.val .none)) := by
  unfold chkV at q ⊢
  by_cases h1 : okCount m
  · rw [if_pos h1] at q ⊢
    by_cases h2 : isVot m vss
    · rw [if_pos h2] at q ⊢
      exact fun v H2 e2 _ => k h1 h2 q H2 e2
    · rw [if_neg h2] at q ⊢
      exact fun H2 e2 => q H2 (e.trans e2)
  · rw [if_neg h1] at q ⊢
    exact fun H2 e2 => q H2 (e.trans e2)
theorem chkV_ok {C1 C2 : Addr} {m : Int} {vss : List (List Int)} {o : Out} (h1 : okCount m) (h2 : isVot m vss) : chkV C1 C2 m vss o = o := by
  unfold chkV
  rw [if_pos h1, if_pos h2]
def sp_look_at_voters (C1 C2 : Addr) : Sp := spO (α := Int × List (List Int)) (fun a => [.int a.1, vD a.2]) (fun _ => True) fun a => chkV C1 C2 a.1 a.2 (.val .none)
theorem len_look_at_voters {C_BadCount : Addr} {C_BadVoter : Addr} (vs : List V) (H : Hp) (Q : VK) (E : XK) (h : (sp_look_at_voters C_BadCount C_BadVoter) vs H Q E) : vs.length = 2 := by
  unfold sp_look_at_voters at h
  obtain ⟨a, r, _⟩ := h
  rw [r.len]
  rfl
section
variable {P : Program} {w : World} {K : PySem.W.Frag} {mg : Str → Option Value} {base : Heap}
theorem ok_look_at_voters {f : Addr} {fd : FuncData} (D : Df K mg "look_at_voters" s_look_at_voters ["many", "voters"] f fd) (Bi : Bi mg) {C_BadVoter : Addr} (X_BadVoter : Xc K mg "BadVoter" C_BadVoter) {f_look_at_count : Addr} {fd_look_at_count : FuncData} (D_look_at_count : Df K mg "look_at_count" s_look_at_count ["many"] f_look_at_count fd_look_at_count) (G_look_at_count : FnOk P w K mg base (L2N.CX P w) 1 f_look_at_count fd_look_at_count ["many"] (sp_look_at_count C_BadCount)) : FnOk P w K mg base (L2N.CX P w) 2 f fd ["many", "voters"] (sp_look_at_voters C_BadCount C_BadVoter) := by
  refine okXN D.F c_look_at_voters (fun vs H Q E h => len_look_at_voters _ _ _ _ h) (fun cdv A outer s H vs Q E hr h => ?_)
  refine ⟨_, (pss_cons (ps_expr (pe_callS G_look_at_count (hr.mono (by decide)) (by rfl) D_look_at_count.g D_look_at_count.F.kp D_look_at_count.b (fun σ => L2N.passAt (L2N.takes_of rfl rfl rfl rfl) σ) (pa_cons (pv 0) pa_nil)))
      (pss_one (ps_for (passes_of rfl) rfl (pi_listK (K := K) (pv 1)) (pg_name (i := 2) c_look_at_voters.nd rfl (.inl rfl))
      (pss_one (ps_if (pt_cmpR (op_neDK (K := K) hr.units) (pe_callB (cr_sortedTIK (K := K)) (by rfl) Bi.sorted (by decide +kernel) (pa_cons (pv 2) pa_nil)) (pe_listRg rfl (by rfl) Bi.list (prg_1 (by rfl) Bi.range (pv 0))) (nomark _))
      (pss_one (L2N.ps_raise rfl (L2N.takes_of rfl rfl rfl rfl) (L2N.pmk_own PySem.F.excBase_ValueError X_BadVoter.x X_BadVoter.g X_BadVoter.k (raises_own X_BadVoter.b X_BadVoter.t) (by exact rfl))))
      pss_nil))))), ?_⟩
  obtain ⟨⟨m, vss⟩, ⟨v1, _, rfl, rfl, v2, _, rfl, hv, rfl⟩, -, q⟩ := h
  unfold chkV at q
  dsimp only at q hv
  refine s_callX m ?a trivial fun H1 e1 => ?_
  case a => wtm_at "es"
  by_cases hm : okCount m
  · rw [if_pos hm] at q
    rw [if_pos hm]
    intro _ H2 e2 _
    have e12 := e1.trans e2
    have hv2 := hv.ex e12
    have hmb : 1 ≤ m ∧ m ≤ 6 := hm
    refine s_forD (f := iD) (xs := vss) (evd_var rfl hv2) fun H3 e3 => ⟨fun i σ' H' => (∃ y, σ' = [some (.int m), some v2, y]) ∧ Ex H3 H' ∧ isVot m (vss.take i), ?_, ?_, ?_, ?_⟩
    · exact ⟨⟨none, rfl⟩, Ex.refl _, fun v h => by simp at h⟩
    · rintro i σ' H' ⟨_, e, _⟩
      exact e
    · rintro i x v σ' H' hx hr ⟨⟨y, rfl⟩, e, ho⟩
      refine g_name ?_
      refine' s_if (b := _) ?t ?yes ?no
      case t => wtm_at "et"
      case yes =>
        intro hb H5 e5
        have hn : ¬ isVot m vss := fun z => by
          have z2 := z x (List.mem_of_getElem? hx)
          unfold isOrd at z2
          simp [z2] at hb
        rw [if_neg hn] at q
        exact q H5 (((e12.trans e3).trans e).trans e5)
      case no =>
        intro hb H5 e5
        refine ⟨⟨_, rfl⟩, e.trans e5, fun u hu => ?_⟩
        rw [List.take_add_one, hx] at hu
        rcases List.mem_append.mp hu with hu | hu
        · exact ho u hu
        · simp at hu
          subst hu
          unfold isOrd
          simpa using hb
    · rintro σ' H' ⟨_, e, ho⟩
      rw [List.take_length] at ho
      rw [if_pos ho] at q
      exact q .non H' ((e12.trans e3).trans e) rfl
  · rw [if_neg hm] at q
    rw [if_neg hm]
    intro H2 e2
    exact q H2 (e1.trans e2)
end
/-! ### beats_of -/
theorem filter_le {α : Type} (p : α → Bool) (xs : List α) : (xs.filter p).length ≤ xs.length := List.length_filter_le _ _
theorem beatsOne_len (m : Int) (vs : List (List Int)) (a : Int) : (beatsOne m vs a).length ≤ m.toNat := by
  unfold beatsOne
  rw [List.length_map]
  exact Nat.le_trans (filter_le _ _) (by rw [rgI_len]; exact Nat.le_refl _)
theorem flat_len {α : Type} {k : Nat} : ∀ {xss : List (List α)}, (∀ xs ∈ xss, xs.length ≤ k) → xss.flatten.length ≤ xss.length * k
  | [], _ => by simp
  | xs :: xss, h => by
    rw [List.flatten_cons, List.length_append, List.length_cons, Nat.succ_mul]
    have := h xs List.mem_cons_self
    have := flat_len (xss := xss) fun y m => h y (List.mem_cons_of_mem _ m)
    omega
/-- the beats of the things below i -/
def beatsTo (m : Int) (vs : List (List Int)) (i : Nat) : List (Int × Int) := ((rgI 0 i).map (beatsOne m vs)).flatten
theorem beatsTo_succ (m : Int) (vs : List (List Int)) (i : Nat) : beatsTo m vs (i + 1) = beatsTo m vs i ++ beatsOne m vs (i : Int) := by
  unfold beatsTo
  rw [rgI_snoc, List.map_append, List.flatten_append]
  simp
theorem beatsTo_len {m : Int} (h : 0 ≤ m ∧ m ≤ 6) (vs : List (List Int)) {i : Nat} (hi : i ≤ 6) : (beatsTo m vs i).length ≤ 36 := by
  unfold beatsTo
  refine Nat.le_trans (flat_len (k := 6) fun xs hx => ?_) ?_
  · obtain ⟨a, _, rfl⟩ := List.mem_map.mp hx
    exact Nat.le_trans (beatsOne_len m vs a) (by omega)
  · rw [List.length_map, rgI_len]
    omega
end Bm

namespace Bm
open PySem PySem.Spec PyProof.Rows L2 Evl
local macro_rules | `(tactic| wtm_at "rp") => `(tactic| first | exact rp_int | exact rp_bl | exact rp_str | exact rp_non | assumption | (refine' Rp.ex ?e ?h; (case h => assumption); (case e => assumption)) | exact Own.rp (by assumption))
local macro_rules | `(tactic| wtm_at "side") => `(tactic| first | assumption | omega | decide | rfl | exact ⟨by omega, by omega⟩)
local macro_rules | `(tactic| wtm_at "es") => `(tactic| first | exact evs_nil | (refine' evs_cons ?a ?b; (case a => wtm_at "ev"); (case b => wtm_at "es")))
local macro_rules | `(tactic| wtm_at "ev") => `(tactic| first
  | exact evd_int | exact evd_str | exact evd_bl | exact evd_non
  | (refine' evd_var rfl ?h; (case h => wtm_at "rp"))
  | ((with_reducible refine' evd_op ?a ?b rd_addI); (case a => wtm_at "ev"); (case b => wtm_at "ev"))
  | ((with_reducible refine' evd_op ?a ?b rd_subI); (case a => wtm_at "ev"); (case b => wtm_at "ev"))
  | ((with_reducible refine' evd_op ?a ?b (rd_mulI ?c)); (case a => wtm_at "ev"); (case b => wtm_at "ev"); (case c => wtm_at "side"))
  | ((with_reducible refine' evd_op ?a ?b (rd_divI ?c)); (case a => wtm_at "ev"); (case b => wtm_at "ev"); (case c => wtm_at "side"))
  | ((with_reducible refine' evd_op ?a ?b (rd_modI ?c)); (case a => wtm_at "ev"); (case b => wtm_at "ev"); (case c => wtm_at "side"))
  | ((with_reducible refine' evd_op ?a ?b rd_ltI); (case a => wtm_at "ev"); (case b => wtm_at "ev"))
  | ((with_reducible refine' evd_op ?a ?b rd_leI); (case a => wtm_at "ev"); (case b => wtm_at "ev"))
  | ((with_reducible refine' evd_op ?a ?b rd_gtI); (case a => wtm_at "ev"); (case b => wtm_at "ev"))
  | ((with_reducible refine' evd_op ?a ?b rd_geI); (case a => wtm_at "ev"); (case b => wtm_at "ev"))
  | ((with_reducible refine' evd_op ?a ?b rd_eqI); (case a => wtm_at "ev"); (case b => wtm_at "ev"))
  | ((with_reducible refine' evd_op ?a ?b rd_neI); (case a => wtm_at "ev"); (case b => wtm_at "ev"))
  | ((with_reducible refine' evd_op ?a ?b rd_eqB); (case a => wtm_at "ev"); (case b => wtm_at "ev"))
  | ((with_reducible refine' evd_op ?a ?b rd_neB); (case a => wtm_at "ev"); (case b => wtm_at "ev"))
  | ((with_reducible refine' evd_op ?a ?b rd_isNo); (case a => wtm_at "ev"); (case b => wtm_at "ev"))
  | ((with_reducible refine' evd_op ?a ?b rd_notNo); (case a => wtm_at "ev"); (case b => wtm_at "ev"))
  | ((with_reducible refine' evd_op ?a ?b rd_inIL); (case a => wtm_at "ev"); (case b => wtm_at "ev"))
  | ((with_reducible refine' evd_op ?a ?b rd_niIL); (case a => wtm_at "ev"); (case b => wtm_at "ev"))
  | ((with_reducible refine' evd_op ?a ?b rd_inID); (case a => wtm_at "ev"); (case b => wtm_at "ev"))
  | ((with_reducible refine' evd_op ?a ?b rd_niID); (case a => wtm_at "ev"); (case b => wtm_at "ev"))
  | ((with_reducible refine' evd_neg ?a); (case a => wtm_at "ev"))
  | ((with_reducible refine' evd_tix ?a ?b ?c); (case a => wtm_at "ev"); (case b => wtm_at "ev"); (case c => wtm_at "side"))
  | ((with_reducible refine' evd_tup ?a ?b); (case a => wtm_at "es"); (case b => exact Nat.le_of_ble_eq_true rfl))
  | ((with_reducible refine' evd_cb ?a cd_lenL); (case a => wtm_at "es"))
  | ((with_reducible refine' evd_cb ?a cd_lenT); (case a => wtm_at "es"))
  | ((with_reducible refine' evd_cb ?a cd_intB); (case a => wtm_at "es"))
  | ((with_reducible refine' evd_cb ?a cd_tupL); (case a => wtm_at "es"))
  | ((with_reducible refine' evd_and ?a ?b); (case a => wtm_at "ev"); (case b => intro _; wtm_at "ev"))
  | ((with_reducible refine' evd_or ?a ?b); (case a => wtm_at "ev"); (case b => intro _; wtm_at "ev"))
  | ((with_reducible refine' evd_not ?a); (case a => wtm_at "ev"))
  | ((with_reducible refine' evd_op ?a ?b rd_neIL); (case a => wtm_at "ev"); (case b => wtm_at "ev"))
  | ((with_reducible refine' evd_op ?a ?b rd_eqIL); (case a => wtm_at "ev"); (case b => wtm_at "ev"))
  | ((with_reducible refine' EvN.toD ?a); (case a => wtm_at "en")))
local macro_rules | `(tactic| wtm_at "en") => `(tactic| first
  | ((with_reducible refine' evn_cb ?a cn_sortTI); (case a => wtm_at "es"))
  | ((with_reducible refine' evn_cb ?a cn_listL); (case a => wtm_at "es"))
  | ((with_reducible refine' evn_cb ?a cn_listT); (case a => wtm_at "es"))
  | ((with_reducible refine' evn_rng ?a ?b); (case a => wtm_at "ev"); (case b => wtm_at "side"))
  | ((with_reducible refine' evn_lst ?a ?b); (case a => wtm_at "es"); (case b => exact Nat.le_of_ble_eq_true rfl))
  | ((with_reducible refine' evn_cat ?a ?b ?c); (case a => wtm_at "ev"); (case b => wtm_at "ev"); (case c => wtm_at "side"))
  | ((with_reducible refine' evn_slL ?a ?b ?c); (case a => wtm_at "ev"); (case b => first | exact evp_none | (refine' evp_some ?d; (case d => wtm_at "ev"))); (case c => first | exact evp_none | (refine' evp_some ?d; (case d => wtm_at "ev")))))
local macro_rules | `(tactic| wtm_at "et") => `(tactic| first
  | exact et_yes
  | (refine' ett ?a; (case a => wtm_at "ev"))
  | (refine' etB ?a; (case a => wtm_at "ev"))
  | (refine' et_and ?a ?b; (case a => wtm_at "et"); (case b => intro _; wtm_at "et"))
  | (refine' et_or ?a ?b; (case a => wtm_at "et"); (case b => intro _; wtm_at "et"))
  | (refine' et_not ?a; (case a => wtm_at "et")))
local macro_rules | `(tactic| wtm_at "nx") => `(tactic| try dsimp only [tSeq, tNext])
/-! ### shown -/
def wordF (v : List Int) : Str := Txt.join "" (v.map fun i => (toString i : Str))
def shownF (m : Int) (vs : List (List Int)) : Str := Txt.join " " (((toString m : Str) ++ ":") :: vs.map wordF)
theorem fig_len {m : Int} (hm : m ≤ 6) {x : Int} (h : 0 ≤ x ∧ x < m) : ((toString x : Str)).length = 1 ∧ x.natAbs.log2 < 1920 := by
  have : x = 0 ∨ x = 1 ∨ x = 2 ∨ x = 3 ∨ x = 4 ∨ x = 5 := by omega
  rcases this with rfl | rfl | rfl | rfl | rfl | rfl <;> decide +kernel
theorem sum_le {B : Nat} : ∀ {ys : List Str}, (∀ y ∈ ys, y.length ≤ B) → (ys.map (·.length)).sum ≤ ys.length * B
  | [], _ => by simp
  | y :: ys, h => by
    have h1 := h y List.mem_cons_self
    have h2 := sum_le (ys := ys) fun z hz => h z (List.mem_cons_of_mem _ hz)
    rw [List.map_cons, List.sum_cons, List.length_cons, Nat.succ_mul]
    omega
def sp_shown (C1 C2 : Addr) : Sp := spO (α := Int × List (List Int)) (fun a => [.int a.1, vD a.2]) (fun a => a.2.length ≤ 1000) fun a => chkV C1 C2 a.1 a.2 (.val (.str (shownF a.1 a.2)))
theorem len_shown {C_BadCount : Addr} {C_BadVoter : Addr} (vs : List V) (H : Hp) (Q : VK) (E : XK) (h : (sp_shown C_BadCount C_BadVoter) vs H Q E) : vs.length = 2 := by
  unfold sp_shown at h
  obtain ⟨a, r, _⟩ := h
  rw [r.len]
  rfl
section
variable {P : Program} {w : World} {K : PySem.W.Frag} {mg : Str → Option Value} {base : Heap}
theorem ok_shown {f : Addr} {fd : FuncData} (D : Df K mg "shown" s_shown ["many", "voters"] f fd) (Bi : Bi mg) {f_look_at_voters : Addr} {fd_look_at_voters : FuncData} (D_look_at_voters : Df K mg "look_at_voters" s_look_at_voters ["many", "voters"] f_look_at_voters fd_look_at_voters) (G_look_at_voters : FnOk P w K mg base (L2N.CX P w) 2 f_look_at_voters fd_look_at_voters ["many", "voters"] (sp_look_at_voters C_BadCount C_BadVoter)) : FnOk P w K mg base (L2.CX P w) 3 f fd ["many", "voters"] (sp_shown C_BadCount C_BadVoter) := by
  refine D.F.okX c_shown (fun vs H Q E h => len_shown _ _ _ _ h) (fun cdv A outer s H vs Q E hr h => ?_)
  refine ⟨_, (pss_cons (ps_expr (pe_callS G_look_at_voters (hr.mono (by decide)) (by rfl) D_look_at_voters.g D_look_at_voters.F.kp D_look_at_voters.b (fun σ => passNL (takes_of rfl rfl rfl rfl) σ) (pa_cons (pv 0) (pa_cons (pv 1) pa_nil))))
      (pss_cons (ps_setLc (i := 2) (own := [("voter", 3)]) (g := (gName 3)) (tt := tYes) rfl c_shown.nd rfl rfl (sw_true rfl rfl rfl (by decide +kernel)) (pi_listK (K := K) (pv 1)) (blkOk_by (own := [("voter", 3)]) (N := ["many", "voters", "words", "voter", "thing"]) (sc := defScope s_shown) (by decide +kernel)) (fun _ _ _ _ _ => (pg_name (i := 3) c_shown.nd rfl (.inl rfl))) (fun _ _ _ _ _ => pts_nil) (fun _ _ _ _ _ => (pe_m1 PySem.F.slot_str_join PySem.F.type_str_join (mt_joinK (K := K)) pe_str (pe_lc (own := [("thing", 4)]) (g := (gName 4)) (tt := tYes) rfl c_shown.nd (pi_tupK (K := K) (pv 3)) (blkOk_by (by kernel_rfl)) (fun _ _ _ _ _ => (pg_name (i := 4) c_shown.nd rfl (.inl rfl))) (fun _ _ _ _ _ => pts_nil) (fun _ _ _ _ _ => (pe_callTy cr_strI (by rfl) Bi.str (by decide +kernel) (pa_cons (pv 4) pa_nil)))))))
      (pss_one (ps_ret (pe_m1 PySem.F.slot_str_join PySem.F.type_str_join (mt_joinK (K := K)) pe_str (pe_op op_cat (pe_lst (pa_cons (pe_op op_addT (pe_callTy cr_strI (by rfl) Bi.str (by decide +kernel) (pa_cons (pv 0) pa_nil)) pe_str) pa_nil)) (pv 2))))))), ?_⟩
  obtain ⟨⟨m, vss⟩, ⟨v1, _, rfl, rfl, v2, _, rfl, hv, rfl⟩, hl, q⟩ := h
  dsimp only at q hv hl
  refine s_callX (m, vss) ?a trivial fun H1 e1 => chkV_go q e1 fun h1 h2 q H2 e2 => ?_
  case a => wtm_at "es"
  wtm_at "nx"
  have hm : 1 ≤ m ∧ m ≤ 6 := h1
  have e12 := e1.trans e2
  have hv2 := hv.ex e12
  have wl : ∀ v ∈ vss, (wordF v).length = v.length := fun v hvm => by
    unfold wordF
    rw [PySem.W.KT.join_ones _ fun a ha => ?_, List.length_map]
    obtain ⟨x, hx, rfl⟩ := List.mem_map.mp ha
    exact (fig_len hm.2 ((h2 v hvm).mem.mp hx)).1
  refine' s_asgD (d := .list ((vss.map wordF).map .str)) ((EvN.toD (ds := (vss.filter fun _ => true).map fun v => .str (wordF v)) ?x).is ?is) fun vw H3 e3 hwd => ?_
  case is =>
    rw [List.filter_eq_self.mpr (fun _ _ => rfl), List.map_map]
    rfl
  case x =>
    refine' evn_lcL (f := iD) (xs := vss) (fun _ => true) (fun v => .str (wordF v)) (evd_var rfl hv2) (by omega) ?tn fun _ _ _ => rfl
    intro x v H5 hx e5 r
    have ho := h2 x hx
    refine ⟨_, fun Q hq => hq, rfl, et_yes, fun _ => evd_join (ys := x.map fun i => (toString i : Str)) evd_str ((EvN.toD (ds := (x.filter fun _ => true).map fun i => .str (toString i)) ?_).is ?_) ?_⟩
    · refine' evn_lcT (f := PyData.int) (xs := x) (fun _ => true) (fun i => .str (toString i)) (evd_var rfl r) (by rw [ho.len]; omega) ?tn2 fun _ _ _ => rfl
      intro i vi H6 hi e6 r6
      exact ⟨_, fun Q hq => hq, rfl, et_yes, fun _ => evd_cb (evs_cons (evd_var rfl r6) evs_nil) (cd_strI (fig_len hm.2 (ho.mem.mp hi)).2)⟩
    · rw [List.filter_eq_self.mpr (fun _ _ => rfl), List.map_map]
      rfl
    · have := sum_le (B := 1) (ys := x.map fun i => (toString i : Str)) fun y hy => by
        obtain ⟨i, hi, rfl⟩ := List.mem_map.mp hy
        rw [(fig_len hm.2 (ho.mem.mp hi)).1]
        exact Nat.le_refl _
      rw [List.length_map] at this
      have l0 : ("" : Str).length = 0 := by decide +kernel
      rw [l0, ho.len] at *
      omega
  wtm_at "nx"
  have hml : ((toString m : Str)).length ≤ 1 ∧ m.natAbs.log2 < 1920 := by
    have : m = 1 ∨ m = 2 ∨ m = 3 ∨ m = 4 ∨ m = 5 ∨ m = 6 := by omega
    rcases this with rfl | rfl | rfl | rfl | rfl | rfl <;> decide +kernel
  have hwl : (vss.map wordF).length = vss.length := List.length_map _
  have hll : ((toString m : Str) ++ ":").length ≤ 6 := by
    rw [PySem.Str.length_append]
    have : (":" : Str).length = 1 := by decide +kernel
    omega
  have hsum := sum_le (B := 6) (ys := ((toString m : Str) ++ ":") :: vss.map wordF) fun y hy => by
    rcases List.mem_cons.mp hy with rfl | hy
    · exact hll
    · obtain ⟨v, hvm, rfl⟩ := List.mem_map.mp hy
      rw [wl v hvm, (h2 v hvm).len]
      have : m ≤ 6 := hm.2
      show m.toNat ≤ 6
      omega
  refine s_retD (d := .str (shownF m vss)) (evd_join (ys := ((toString m : Str) ++ ":") :: vss.map wordF) evd_str ((EvN.toD (evn_cat (ds := [.str ((toString m : Str) ++ ":")]) (es := (vss.map wordF).map .str) (EvN.toD (evn_lst (evs_cons (evd_op (evd_cb (evs_cons (evd_var rfl rp_int) evs_nil) (cd_strI hml.2)) evd_str (rd_addT ?z)) evs_nil) (Nat.le_of_ble_eq_true rfl))) (evd_var rfl hwd) ?y)).is rfl) ?w) fun v H4 e4 r => q v H4 ((e12.trans e3).trans e4) r
  case z =>
    have : (":" : Str).length = 1 := by decide +kernel
    have := hml.1
    omega
  case y =>
    rw [List.length_map, hwl]
    show 1 + _ ≤ _
    omega
  case w =>
    have : (" " : Str).length = 1 := by decide +kernel
    rw [this]
    rw [List.length_cons, hwl] at *
    omega
end
end Bm

namespace Bm
open PySem PySem.Spec PyProof.Rows L2 Evl
local macro_rules | `(tactic| wtm_at "rp") => `(tactic| first | exact rp_int | exact rp_bl | exact rp_str | exact rp_non | assumption | (refine' Rp.ex ?e ?h; (case h => assumption); (case e => assumption)) | exact Own.rp (by assumption))
local macro_rules | `(tactic| wtm_at "side") => `(tactic| first | assumption | omega | decide | rfl | exact ⟨by omega, by omega⟩)
local macro_rules | `(tactic| wtm_at "es") => `(tactic| first | exact evs_nil | (refine' evs_cons ?a ?b; (case a => wtm_at "ev"); (case b => wtm_at "es")))
local macro_rules | `(tactic| wtm_at "ev") => `(tactic| first
  | exact evd_int | exact evd_str | exact evd_bl | exact evd_non
  | (refine' evd_var rfl ?h; (case h => wtm_at "rp"))
  | ((with_reducible refine' evd_op ?a ?b rd_addI); (case a => wtm_at "ev"); (case b => wtm_at "ev"))
  | ((with_reducible refine' evd_op ?a ?b rd_subI); (case a => wtm_at "ev"); (case b => wtm_at "ev"))
  | ((with_reducible refine' evd_op ?a ?b (rd_mulI ?c)); (case a => wtm_at "ev"); (case b => wtm_at "ev"); (case c => wtm_at "side"))
  | ((with_reducible refine' evd_op ?a ?b (rd_divI ?c)); (case a => wtm_at "ev"); (case b => wtm_at "ev"); (case c => wtm_at "side"))
  | ((with_reducible refine' evd_op ?a ?b (rd_modI ?c)); (case a => wtm_at "ev"); (case b => wtm_at "ev"); (case c => wtm_at "side"))
  | ((with_reducible refine' evd_op ?a ?b rd_ltI); (case a => wtm_at "ev"); (case b => wtm_at "ev"))
  | ((with_reducible refine' evd_op ?a ?b rd_leI); (case a => wtm_at "ev"); (case b => wtm_at "ev"))
  | ((with_reducible refine' evd_op ?a ?b rd_gtI); (case a => wtm_at "ev"); (case b => wtm_at "ev"))
  | ((with_reducible refine' evd_op ?a ?b rd_geI); (case a => wtm_at "ev"); (case b => wtm_at "ev"))
  | ((with_reducible refine' evd_op ?a ?b rd_eqI); (case a => wtm_at "ev"); (case b => wtm_at "ev"))
  | ((with_reducible refine' evd_op ?a ?b rd_neI); (case a => wtm_at "ev"); (case b => wtm_at "ev"))
  | ((with_reducible refine' evd_op ?a ?b rd_eqB); (case a => wtm_at "ev"); (case b => wtm_at "ev"))
  | ((with_reducible refine' evd_op ?a ?b rd_neB); (case a => wtm_at "ev"); (case b => wtm_at "ev"))
  | ((with_reducible refine' evd_op ?a ?b rd_isNo); (case a => wtm_at "ev"); (case b => wtm_at "ev"))
  | ((with_reducible refine' evd_op ?a ?b rd_notNo); (case a => wtm_at "ev"); (case b => wtm_at "ev"))
  | ((with_reducible refine' evd_op ?a ?b rd_inIL); (case a => wtm_at "ev"); (case b => wtm_at "ev"))
  | ((with_reducible refine' evd_op ?a ?b rd_niIL); (case a => wtm_at "ev"); (case b => wtm_at "ev"))
  | ((with_reducible refine' evd_op ?a ?b rd_inID); (case a => wtm_at "ev"); (case b => wtm_at "ev"))
  | ((with_reducible refine' evd_op ?a ?b rd_niID); (case a => wtm_at "ev"); (case b => wtm_at "ev"))
  | ((with_reducible refine' evd_neg ?a); (case a => wtm_at "ev"))
  | ((with_reducible refine' evd_tix ?a ?b ?c); (case a => wtm_at "ev"); (case b => wtm_at "ev"); (case c => wtm_at "side"))
  | ((with_reducible refine' evd_tup ?a ?b); (case a => wtm_at "es"); (case b => exact Nat.le_of_ble_eq_true rfl))
  | ((with_reducible refine' evd_cb ?a cd_lenL); (case a => wtm_at "es"))
  | ((with_reducible refine' evd_cb ?a cd_lenT); (case a => wtm_at "es"))
  | ((with_reducible refine' evd_cb ?a cd_intB); (case a => wtm_at "es"))
  | ((with_reducible refine' evd_cb ?a cd_tupL); (case a => wtm_at "es"))
  | ((with_reducible refine' evd_and ?a ?b); (case a => wtm_at "ev"); (case b => intro _; wtm_at "ev"))
  | ((with_reducible refine' evd_or ?a ?b); (case a => wtm_at "ev"); (case b => intro _; wtm_at "ev"))
  | ((with_reducible refine' evd_not ?a); (case a => wtm_at "ev"))
  | ((with_reducible refine' evd_op ?a ?b rd_neIL); (case a => wtm_at "ev"); (case b => wtm_at "ev"))
  | ((with_reducible refine' evd_op ?a ?b rd_eqIL); (case a => wtm_at "ev"); (case b => wtm_at "ev"))
  | ((with_reducible refine' EvN.toD ?a); (case a => wtm_at "en")))
local macro_rules | `(tactic| wtm_at "en") => `(tactic| first
  | ((with_reducible refine' evn_cb ?a cn_sortTI); (case a => wtm_at "es"))
  | ((with_reducible refine' evn_cb ?a cn_listL); (case a => wtm_at "es"))
  | ((with_reducible refine' evn_cb ?a cn_listT); (case a => wtm_at "es"))
  | ((with_reducible refine' evn_rng ?a ?b); (case a => wtm_at "ev"); (case b => wtm_at "side"))
  | ((with_reducible refine' evn_lst ?a ?b); (case a => wtm_at "es"); (case b => exact Nat.le_of_ble_eq_true rfl))
  | ((with_reducible refine' evn_cat ?a ?b ?c); (case a => wtm_at "ev"); (case b => wtm_at "ev"); (case c => wtm_at "side"))
  | ((with_reducible refine' evn_slL ?a ?b ?c); (case a => wtm_at "ev"); (case b => first | exact evp_none | (refine' evp_some ?d; (case d => wtm_at "ev"))); (case c => first | exact evp_none | (refine' evp_some ?d; (case d => wtm_at "ev")))))
local macro_rules | `(tactic| wtm_at "et") => `(tactic| first
  | exact et_yes
  | (refine' ett ?a; (case a => wtm_at "ev"))
  | (refine' etB ?a; (case a => wtm_at "ev"))
  | (refine' et_and ?a ?b; (case a => wtm_at "et"); (case b => intro _; wtm_at "et"))
  | (refine' et_or ?a ?b; (case a => wtm_at "et"); (case b => intro _; wtm_at "et"))
  | (refine' et_not ?a; (case a => wtm_at "et")))
local macro_rules | `(tactic| wtm_at "nx") => `(tactic| try dsimp only [tSeq, tNext])
/-! ### texts that write voters, plain -/
def isFig (c : Nat) : Prop := 48 ≤ c ∧ c ≤ 57
instance (c : Nat) : Decidable (isFig c) := inferInstanceAs (Decidable (_ ∧ _))
def fig (c : Nat) : Int := ((c - 48 : Nat) : Int)
def wv (w : Str) : List Int := (tL w).map fig
def okW (m : Int) (w : Str) : Prop := srtN (tL w) = List.range' 48 m.toNat
instance (m : Int) (w : Str) : Decidable (okW m w) := inferInstanceAs (Decidable (_ = _))
theorem range_map (m : Nat) : (List.range' 48 m).map fig = rgI 0 m := by
  apply List.ext_getElem?
  intro i
  rw [List.getElem?_map]
  by_cases h : i < m
  · rw [List.getElem?_range' h, rgI_get h]
    show some (fig (48 + 1 * i)) = _
    congr 1
    unfold fig
    omega
  · rw [List.getElem?_eq_none (by rw [List.length_range']; omega), List.getElem?_eq_none (by rw [rgI_len]; omega)]
    rfl
theorem rgI_back (m : Nat) : (rgI 0 m).map (fun i => (i + 48).toNat) = List.range' 48 m := by
  rw [← range_map, List.map_map]
  refine (List.map_congr_left fun c hc => ?_).trans (List.map_id _)
  have := List.mem_range'_1.mp hc
  show (fig c + 48).toNat = c
  unfold fig
  omega
theorem okW_iff {m : Int} (hm : 1 ≤ m ∧ m ≤ 6) {w : Str} : okW m w ↔ (∀ c ∈ tL w, isFig c) ∧ isOrd m (wv w) := by
  unfold okW
  rw [isOrd_iff]
  constructor
  · intro h
    have p : (tL w).Perm (List.range' 48 m.toNat) := by
      rw [← h]
      exact (srtN_perm _).symm
    refine ⟨fun c hc => ?_, ?_⟩
    · have := List.mem_range'_1.mp (p.mem_iff.mp hc)
      unfold isFig
      omega
    · have q := p.map fig
      rw [range_map] at q
      exact q
  · rintro ⟨h1, h2⟩
    have p := h2.map (fun i : Int => (i + 48).toNat)
    rw [rgI_back] at p
    unfold wv at p
    rw [List.map_map] at p
    have e : (tL w).map ((fun i : Int => (i + 48).toNat) ∘ fig) = tL w := by
      refine (List.map_congr_left fun c hc => ?_).trans (List.map_id _)
      have := h1 c hc
      unfold isFig at this
      show (fig c + 48).toNat = c
      unfold fig
      omega
    rw [e] at p
    exact (srtN_of p.symm (by
      have := List.pairwise_lt_range' (s := 48) (n := m.toNat) (step := 1)
      exact this.imp fun h => Nat.le_of_lt h)).symm
/-- the number of things and the voters that a text writes -/
def dueC : List Nat → List Str → Option (Int × List (List Int))
  | [c0, c1], r => if (49 ≤ c0 ∧ c0 ≤ 54) ∧ c1 = 58 ∧ r.length ≤ 60 ∧ ∀ w ∈ r, okW (fig c0) w then some (fig c0, r.map wv) else none
  | _, _ => none
def dueW : List Str → Option (Int × List (List Int))
  | [] => none
  | w0 :: r => dueC (tL w0) r
theorem dueW_two {w0 : Str} {r : List Str} {c0 c1 : Nat} (e : tL w0 = [c0, c1]) : dueW (w0 :: r) = if (49 ≤ c0 ∧ c0 ≤ 54) ∧ c1 = 58 ∧ r.length ≤ 60 ∧ ∀ w ∈ r, okW (fig c0) w then some (fig c0, r.map wv) else none := by
  show dueC (tL w0) r = _
  rw [e]
  rfl
theorem dueW_len {w0 : Str} {r : List Str} (h : w0.length ≠ 2) : dueW (w0 :: r) = none := by
  show dueC (tL w0) r = none
  rw [← tL_len] at h
  match tL w0, h with
  | [], _ => rfl
  | [_], _ => rfl
  | [_, _], h => exact absurd rfl h
  | _ :: _ :: _ :: _, _ => rfl
theorem fm_some {α β : Type} {f : α → Option β} {g : α → β} : ∀ {l : List α}, (∀ x ∈ l, f x = some (g x)) → l.filterMap f = l.map g
  | [], _ => rfl
  | x :: l, h => by rw [List.filterMap_cons, h x List.mem_cons_self, List.map_cons, fm_some fun y hy => h y (List.mem_cons_of_mem _ hy)]
def dueF (t : Str) : Option (Int × List (List Int)) := dueW (Txt.split t " ")
def NoteOk (m : Int) (vs : List (List Int)) : Prop := (1 ≤ m ∧ m ≤ 6) ∧ isVot m vs ∧ vs.length ≤ 60
theorem dueW_ok {ws : List Str} {m : Int} {vs : List (List Int)} (h : dueW ws = some (m, vs)) : NoteOk m vs := by
  match ws, h with
  | w0 :: r, h =>
    by_cases l : w0.length = 2
    · obtain ⟨c0, c1, e⟩ : ∃ c0 c1, tL w0 = [c0, c1] := by
        have := tL_len w0
        rw [l] at this
        match tL w0, this with
        | [a, b], _ => exact ⟨a, b, rfl⟩
      rw [dueW_two e] at h
      split at h
      · rename_i c
        cases h
        have hm : 1 ≤ fig c0 ∧ fig c0 ≤ 6 := by unfold fig; omega
        refine ⟨hm, fun v hv => ?_, by rw [List.length_map]; exact c.2.2.1⟩
        obtain ⟨w, hw, rfl⟩ := List.mem_map.mp hv
        exact ((okW_iff hm).mp (c.2.2.2 w hw)).2
      · cases h
    · rw [dueW_len l] at h
      cases h
theorem fig_ok {c : Nat} (h : isFig c) : okCount (fig c) ↔ 49 ≤ c ∧ c ≤ 54 := by
  unfold okCount fig isFig at *
  omega
theorem occ10 {c : Nat} (h : isFig c) : ∃ rest, Builtin.Str.occurrences "0123456789" (sg1 c) 0 ("0123456789" : Str).length 1 = (c - 48) :: rest := by
  unfold isFig at h
  have : c = 48 ∨ c = 49 ∨ c = 50 ∨ c = 51 ∨ c = 52 ∨ c = 53 ∨ c = 54 ∨ c = 55 ∨ c = 56 ∨ c = 57 := by omega
  rcases this with rfl | rfl | rfl | rfl | rfl | rfl | rfl | rfl | rfl | rfl <;> exact ⟨[], by decide +kernel⟩
theorem occ7 {c : Nat} (h : 49 ≤ c ∧ c ≤ 54) : ∃ rest, Builtin.Str.occurrences "0123456" (sg1 c) 0 ("0123456" : Str).length 1 = (c - 48) :: rest := by
  have : c = 49 ∨ c = 50 ∨ c = 51 ∨ c = 52 ∨ c = 53 ∨ c = 54 := by omega
  rcases this with rfl | rfl | rfl | rfl | rfl | rfl <;> exact ⟨[], by decide +kernel⟩
theorem occ6 {c : Nat} (h : 48 ≤ c ∧ c ≤ 53) : ∃ rest, Builtin.Str.occurrences "012345" (sg1 c) 0 ("012345" : Str).length 1 = (c - 48) :: rest := by
  have : c = 48 ∨ c = 49 ∨ c = 50 ∨ c = 51 ∨ c = 52 ∨ c = 53 := by omega
  rcases this with rfl | rfl | rfl | rfl | rfl | rfl <;> exact ⟨[], by decide +kernel⟩
theorem figs_mem {c : Nat} : c ∈ tL "0123456789" ↔ isFig c := by
  have e : tL "0123456789" = [48, 49, 50, 51, 52, 53, 54, 55, 56, 57] := by decide +kernel
  rw [e]
  unfold isFig
  simp
  omega
theorem figs6_mem {c : Nat} : c ∈ tL "123456" ↔ 49 ≤ c ∧ c ≤ 54 := by
  have e : tL "123456" = [49, 50, 51, 52, 53, 54] := by decide +kernel
  rw [e]
  simp
  omega
end Bm

namespace Bm
open PySem PySem.Spec PyProof.Rows L2 Evl
local macro_rules | `(tactic| wtm_at "rp") => `(tactic| first | exact rp_int | exact rp_bl | exact rp_str | exact rp_non | assumption | (refine' Rp.ex ?e ?h; (case h => assumption); (case e => assumption)) | exact Own.rp (by assumption))
local macro_rules | `(tactic| wtm_at "side") => `(tactic| first | assumption | omega | decide | rfl | exact ⟨by omega, by omega⟩)
local macro_rules | `(tactic| wtm_at "es") => `(tactic| first | exact evs_nil | (refine' evs_cons ?a ?b; (case a => wtm_at "ev"); (case b => wtm_at "es")))
local macro_rules | `(tactic| wtm_at "ev") => `(tactic| first
  | exact evd_int | exact evd_str | exact evd_bl | exact evd_non
  | (refine' evd_var rfl ?h; (case h => wtm_at "rp"))
  | ((with_reducible refine' evd_op ?a ?b rd_addI); (case a => wtm_at "ev"); (case b => wtm_at "ev"))
  | ((with_reducible refine' evd_op ?a ?b rd_subI); (case a => wtm_at "ev"); (case b => wtm_at "ev"))
  | ((with_reducible refine' evd_op ?a ?b (rd_mulI ?c)); (case a => wtm_at "ev"); (case b => wtm_at "ev"); (case c => wtm_at "side"))
  | ((with_reducible refine' evd_op ?a ?b (rd_divI ?c)); (case a => wtm_at "ev"); (case b => wtm_at "ev"); (case c => wtm_at "side"))
  | ((with_reducible refine' evd_op ?a ?b (rd_modI ?c)); (case a => wtm_at "ev"); (case b => wtm_at "ev"); (case c => wtm_at "side"))
  | ((with_reducible refine' evd_op ?a ?b rd_ltI); (case a => wtm_at "ev"); (case b => wtm_at "ev"))
  | ((with_reducible refine' evd_op ?a ?b rd_leI); (case a => wtm_at "ev"); (case b => wtm_at "ev"))
  | ((with_reducible refine' evd_op ?a ?b rd_gtI); (case a => wtm_at "ev"); (case b => wtm_at "ev"))
  | ((with_reducible refine' evd_op ?a ?b rd_geI); (case a => wtm_at "ev"); (case b => wtm_at "ev"))
  | ((with_reducible refine' evd_op ?a ?b rd_eqI); (case a => wtm_at "ev"); (case b => wtm_at "ev"))
  | ((with_reducible refine' evd_op ?a ?b rd_neI); (case a => wtm_at "ev"); (case b => wtm_at "ev"))
  | ((with_reducible refine' evd_op ?a ?b rd_eqB); (case a => wtm_at "ev"); (case b => wtm_at "ev"))
  | ((with_reducible refine' evd_op ?a ?b rd_neB); (case a => wtm_at "ev"); (case b => wtm_at "ev"))
  | ((with_reducible refine' evd_op ?a ?b rd_isNo); (case a => wtm_at "ev"); (case b => wtm_at "ev"))
  | ((with_reducible refine' evd_op ?a ?b rd_notNo); (case a => wtm_at "ev"); (case b => wtm_at "ev"))
  | ((with_reducible refine' evd_op ?a ?b rd_inIL); (case a => wtm_at "ev"); (case b => wtm_at "ev"))
  | ((with_reducible refine' evd_op ?a ?b rd_niIL); (case a => wtm_at "ev"); (case b => wtm_at "ev"))
  | ((with_reducible refine' evd_op ?a ?b rd_inID); (case a => wtm_at "ev"); (case b => wtm_at "ev"))
  | ((with_reducible refine' evd_op ?a ?b rd_niID); (case a => wtm_at "ev"); (case b => wtm_at "ev"))
  | ((with_reducible refine' evd_neg ?a); (case a => wtm_at "ev"))
  | ((with_reducible refine' evd_tix ?a ?b ?c); (case a => wtm_at "ev"); (case b => wtm_at "ev"); (case c => wtm_at "side"))
  | ((with_reducible refine' evd_tup ?a ?b); (case a => wtm_at "es"); (case b => exact Nat.le_of_ble_eq_true rfl))
  | ((with_reducible refine' evd_cb ?a cd_lenL); (case a => wtm_at "es"))
  | ((with_reducible refine' evd_cb ?a cd_lenT); (case a => wtm_at "es"))
  | ((with_reducible refine' evd_cb ?a cd_intB); (case a => wtm_at "es"))
  | ((with_reducible refine' evd_cb ?a cd_tupL); (case a => wtm_at "es"))
  | ((with_reducible refine' evd_and ?a ?b); (case a => wtm_at "ev"); (case b => intro _; wtm_at "ev"))
  | ((with_reducible refine' evd_or ?a ?b); (case a => wtm_at "ev"); (case b => intro _; wtm_at "ev"))
  | ((with_reducible refine' evd_not ?a); (case a => wtm_at "ev"))
  | ((with_reducible refine' evd_op ?a ?b rd_neIL); (case a => wtm_at "ev"); (case b => wtm_at "ev"))
  | ((with_reducible refine' evd_op ?a ?b rd_eqIL); (case a => wtm_at "ev"); (case b => wtm_at "ev"))
  | ((with_reducible refine' EvN.toD ?a); (case a => wtm_at "en")))
local macro_rules | `(tactic| wtm_at "en") => `(tactic| first
  | ((with_reducible refine' evn_cb ?a cn_sortTI); (case a => wtm_at "es"))
  | ((with_reducible refine' evn_cb ?a cn_listL); (case a => wtm_at "es"))
  | ((with_reducible refine' evn_cb ?a cn_listT); (case a => wtm_at "es"))
  | ((with_reducible refine' evn_rng ?a ?b); (case a => wtm_at "ev"); (case b => wtm_at "side"))
  | ((with_reducible refine' evn_lst ?a ?b); (case a => wtm_at "es"); (case b => exact Nat.le_of_ble_eq_true rfl))
  | ((with_reducible refine' evn_cat ?a ?b ?c); (case a => wtm_at "ev"); (case b => wtm_at "ev"); (case c => wtm_at "side"))
  | ((with_reducible refine' evn_slL ?a ?b ?c); (case a => wtm_at "ev"); (case b => first | exact evp_none | (refine' evp_some ?d; (case d => wtm_at "ev"))); (case c => first | exact evp_none | (refine' evp_some ?d; (case d => wtm_at "ev")))))
local macro_rules | `(tactic| wtm_at "et") => `(tactic| first
  | exact et_yes
  | (refine' ett ?a; (case a => wtm_at "ev"))
  | (refine' etB ?a; (case a => wtm_at "ev"))
  | (refine' et_and ?a ?b; (case a => wtm_at "et"); (case b => intro _; wtm_at "et"))
  | (refine' et_or ?a ?b; (case a => wtm_at "et"); (case b => intro _; wtm_at "et"))
  | (refine' et_not ?a; (case a => wtm_at "et")))
local macro_rules | `(tactic| wtm_at "nx") => `(tactic| try dsimp only [tSeq, tNext])
/-! ### number_of, read -/
theorem evr_cb1 {r : List V → Hp → VK → Prop} {te : TE} {tr : TA} {σ : L2.St} {H : Hp} (h : EvR te σ H) : EvR (tCB r (tCons te tr)) σ H := fun H1 e Q => h H1 e _
def sp_number_of (C : Addr) : Sp := spO (α := Nat) (fun c => [.str (sg1 c)]) (fun _ => True) fun c => if isFig c then .val (.int (fig c)) else .exc C
theorem len_number_of {C_BadNote : Addr} (vs : List V) (H : Hp) (Q : VK) (E : XK) (h : (sp_number_of C_BadNote) vs H Q E) : vs.length = 1 := by
  unfold sp_number_of at h
  obtain ⟨a, r, _⟩ := h
  rw [r.len]
  rfl
section
variable {P : Program} {w : World} {K : PySem.W.Frag} {mg : Str → Option Value} {base : Heap}
theorem ok_number_of {f : Addr} {fd : FuncData} (D : Df K mg "number_of" s_number_of ["sign"] f fd) (Bi : Bi mg) {C_BadNote : Addr} (X_BadNote : Xc K mg "BadNote" C_BadNote) {t_FIGURES : Tok} (K_FIGURES : mg "FIGURES" = some (.str "0123456789" t_FIGURES)) : FnOk P w K mg base (L2.CX P w) 1 f fd ["sign"] (sp_number_of C_BadNote) := by
  refine D.F.okX c_number_of (fun vs H Q E h => len_number_of _ _ _ _ h) (fun cdv A outer s H vs Q E hr h => ?_)
  refine ⟨_, (pss_cons (ps_if (pt_cmpR op_niT (pv 0) (pe_glob (v := .str "0123456789") (by rfl) K_FIGURES ⟨_, rfl⟩) (by rfl))
      (pss_one (ps_raise rfl (takes_of rfl rfl rfl rfl) (pmk_own PySem.F.excBase_ValueError X_BadNote.x X_BadNote.g X_BadNote.k (raises_own X_BadNote.b X_BadNote.t) (by exact rfl))))
      pss_nil)
      (pss_one (ps_ret (pe_m1 PySem.F.slot_str_index PySem.F.type_str_index mt_sIx (pe_glob (v := .str "0123456789") (by rfl) K_FIGURES ⟨_, rfl⟩) (pv 0))))), ?_⟩
  obtain ⟨c, ⟨v1, _, rfl, rfl, rfl⟩, -, q⟩ := h
  dsimp only at q
  refine' s_if (b := !decide (c ∈ tL "0123456789")) (ett (evd_op (evd_var rfl rp_str) evd_str rd_niT)) (fun hb H1 e1 => ?_) (fun hb H1 e1 => ?_)
  · have hb : ¬ isFig c := fun z => by rw [decide_eq_true (figs_mem.mpr z)] at hb; cases hb
    rw [if_neg hb] at q
    exact q H1 e1
  · have hb : isFig c := figs_mem.mp (by simpa using hb)
    rw [if_pos hb] at q
    obtain ⟨rest, ho⟩ := occ10 hb
    wtm_at "nx"
    exact s_retD (evd_sIx evd_str (evd_var rfl rp_str) ho) fun v H2 e2 r => q v H2 (e1.trans e2) r
end
def sp_read (C : Addr) : Sp := spO (α := Str) (fun t => [.str t]) (fun t => t.length ≤ 40000) fun t => match dueF t with
  | some (m, vs) => .duo m (vs.map iD)
  | none => .exc C
theorem len_read {C_BadNote : Addr} (vs : List V) (H : Hp) (Q : VK) (E : XK) (h : (sp_read C_BadNote) vs H Q E) : vs.length = 1 := by
  unfold sp_read at h
  obtain ⟨a, r, _⟩ := h
  rw [r.len]
  rfl
section
variable {P : Program} {w : World} {K : PySem.W.Frag} {mg : Str → Option Value} {base : Heap}
theorem ok_read {f : Addr} {fd : FuncData} (D : Df K mg "read" s_read ["text"] f fd) (Bi : Bi mg) {C_BadCount C_BadVoter C_BadWeb C_TooMany C_BadNote C_BeatError : Addr} (Y : Ern K mg C_BadCount C_BadVoter C_BadWeb C_TooMany C_BadNote C_BeatError) (X_BadNote : Xc K mg "BadNote" C_BadNote) {t_MOST_VOTERS : Tok} (K_MOST_VOTERS : mg "MOST_VOTERS" = some (.int 60 t_MOST_VOTERS)) {f_number_of : Addr} {fd_number_of : FuncData} (D_number_of : Df K mg "number_of" s_number_of ["sign"] f_number_of fd_number_of) (G_number_of : FnOk P w K mg base (L2.CX P w) 1 f_number_of fd_number_of ["sign"] (sp_number_of C_BadNote)) {f_look_at_voters : Addr} {fd_look_at_voters : FuncData} (D_look_at_voters : Df K mg "look_at_voters" s_look_at_voters ["many", "voters"] f_look_at_voters fd_look_at_voters) (G_look_at_voters : FnOk P w K mg base (L2N.CX P w) 2 f_look_at_voters fd_look_at_voters ["many", "voters"] (sp_look_at_voters C_BadCount C_BadVoter)) : FnOk P w K mg base (L2.CX P w) 3 f fd ["text"] (sp_read C_BadNote) := by
  refine D.F.okX c_read (fun vs H Q E h => len_read _ _ _ _ h) (fun cdv A outer s H vs Q E hr h => ?_)
  refine ⟨_, (pss_cons (ps_set (i := 1) c_read.nd rfl (.inl rfl) (pe_m1 PySem.F.slot_str_split PySem.F.type_str_split mt_splitK (pv 0) pe_str))
      (pss_cons (ps_if (PW.pt (pw_or (pt_cmpR op_neI (pe_callB cr_lenT (by rfl) Bi.len (by decide +kernel) (pa_cons (pe_ix (ix_listK (K := K)) (pv 1) pe_int (fun _ _ => rfl)) pa_nil)) pe_int (nomark _)) (pw_or (pt_cmpR op_neT (pe_ix ix_str (pe_ix (ix_listK (K := K)) (pv 1) pe_int (fun _ _ => rfl)) pe_int (fun _ _ => rfl)) pe_str (nomark _)) (pw_or1 (pt_cmpR op_gtI (pe_callB (cr_lenK (K := K)) (by rfl) Bi.len (by decide +kernel) (pa_cons (pv 1) pa_nil)) (pe_op op_addI (pe_glob (v := .int 60) (by rfl) K_MOST_VOTERS ⟨_, rfl⟩) pe_int) (nomark _))))))
      (pss_one (ps_raise rfl (takes_of rfl rfl rfl rfl) (pmk_own PySem.F.excBase_ValueError X_BadNote.x X_BadNote.g X_BadNote.k (raises_own X_BadNote.b X_BadNote.t) (by exact rfl))))
      pss_nil)
      (pss_cons (ps_set (i := 2) c_read.nd rfl (.inl rfl) (pe_callS G_number_of (hr.mono (by decide)) (by rfl) D_number_of.g D_number_of.F.kp D_number_of.b (fun σ => passAt (takes_of rfl rfl rfl rfl) σ) (pa_cons (pe_ix ix_str (pe_ix (ix_listK (K := K)) (pv 1) pe_int (fun _ _ => rfl)) pe_int (fun _ _ => rfl)) pa_nil)))
      (pss_cons (ps_setLcx (i := 3) (own := [("word", 4)]) (g := (gName 4)) (fr_def rfl rfl) (takesL_of (takes_of rfl rfl rfl rfl)) rfl c_read.nd rfl rfl (sw_true rfl rfl rfl (by decide +kernel)) (pi_listK (K := K) (pe_slice (sl_listK (K := K)) (pv 1) (po_some pe_int) po_none)) (blkOk_by (own := [("word", 4)]) (N := ["text", "words", "many", "voters", "word", "sign"]) (sc := defScope s_read) (by decide +kernel)) (fun _ _ _ _ _ => (pg_name (i := 4) c_read.nd rfl (.inl rfl))) (fun _ _ _ _ _ => (pe_callTy (cr_tupLK (K := K)) (by rfl) Bi.tuple (by decide +kernel) (pa_cons (pe_lcx (own := [("sign", 5)]) (g := (gName 5)) (Fr.blk (fr_def rfl rfl)) takesL_blk rfl c_read.nd (pi_str (pv 4)) (blkOk_by (by kernel_rfl)) (fun _ _ _ _ _ => (pg_name (i := 5) c_read.nd rfl (.inl rfl))) (fun _ _ _ _ _ => (pe_callS G_number_of (hr.mono (by decide)) (by rfl) D_number_of.g D_number_of.F.kp D_number_of.b (fun σ => passAtL takesL_blk σ) (pa_cons (pv 5) pa_nil)))) pa_nil))))
      (pss_cons (ps_tryX rfl rfl (fun hd => by exact PassesOwnAt.leaving) (takes_of rfl rfl rfl rfl)
      (fun W pn xe tk => (pss_one (ps_expr (pe_callS G_look_at_voters (hr.mono (by decide)) (by rfl) D_look_at_voters.g D_look_at_voters.F.kp D_look_at_voters.b (fun σ => L2N.passAt tk σ) (pa_cons (pv 2) (pa_cons (pv 3) pa_nil))))))
      (HdsX.cons ⟨rfl, by decide, .inl Y.g_BadCount⟩ (fun a oe cls d pn tk hot => (pss_one (L2H.ps_raiseH hot tk (L2N.pmk_own PySem.F.excBase_ValueError X_BadNote.x X_BadNote.g X_BadNote.k (raises_own X_BadNote.b X_BadNote.t) (by exact rfl))))) (HdsX.cons ⟨rfl, by decide, .inl Y.g_BadVoter⟩ (fun a oe cls d pn tk hot => (pss_one (L2H.ps_raiseH hot tk (L2N.pmk_own PySem.F.excBase_ValueError X_BadNote.x X_BadNote.g X_BadNote.k (raises_own X_BadNote.b X_BadNote.t) (by exact rfl))))) HdsX.nil)))
      (pss_one (ps_ret (pe_tupF (pa_cons (pv 2) (pa_cons (pv 3) pa_nil)))))))))), ?_⟩
  obtain ⟨t, ⟨v1, _, rfl, rfl, rfl⟩, hl, q⟩ := h
  dsimp only at q hl
  obtain ⟨s1, s2, s3⟩ := split_facts t
  unfold dueF at q
  refine' s_asgD (d := .list ((Txt.split t " ").map .str)) (EvN.toD (evn_split (a := t) (b := " ") (evd_var rfl rp_str) evd_str (by decide +kernel) (by omega))) fun vw H1 e1 hw => ?_
  wtm_at "nx"
  generalize Txt.split t " " = ws at s1 s2 s3 hw q
  match ws, s1 with
  | w0 :: r, _ =>
  have hw0 : w0.length ≤ 40000 := Nat.le_trans (s3 w0 List.mem_cons_self) hl
  have hr0 : ∀ w ∈ r, w.length ≤ 40000 := fun w hw => Nat.le_trans (s3 w (List.mem_cons_of_mem _ hw)) hl
  have ix0 : ∀ {σ : L2.St} {H3 : Hp}, σ[1]? = some (some vw) → Ex H1 H3 → EvD (tOp (rIxL K) (tVar 1) (tC (.int 0))) σ H3 (.str w0) := fun {σ H3} s0 e3 => evd_op (evd_var s0 (hw.ex e3)) evd_int (rd_ixL (atI_nat (j := 0) rfl))
  have lenw : ∀ {σ : L2.St} {H3 : Hp}, σ[1]? = some (some vw) → Ex H1 H3 → EvD (tCB (rLenS K) (tCons (tVar 1) tNil)) σ H3 (.int ((w0 :: r).length : Int)) := fun {σ H3} s0 e3 => by
    have z : EvD (tCB (rLenS K) (tCons (tVar 1) tNil)) σ H3 (.int (((w0 :: r).map PyData.str).length : Int)) := evd_cb (evs_cons (evd_var s0 (hw.ex e3)) evs_nil) cd_lenL
    rwa [List.length_map] at z
  have raise : dueW (w0 :: r) = none → ∀ H3, Ex H H3 → E (.ref C_BadNote) none H3 := fun z H3 e3 => by
    rw [z] at q
    exact q H3 e3
  by_cases len2 : w0.length = 2
  rotate_left
  · have dn : dueW (w0 :: r) = none := dueW_len len2
    refine s_if (b := (!decide ((w0.length : Int) = 2)) || true) (et_or (ett (evd_op (evd_cb (evs_cons (ix0 rfl (Ex.refl _)) evs_nil) (cd_lenS (by omega))) evd_int rd_neI)) fun hb => absurd hb (by simp; omega)) (fun hb H2 e2 => raise dn H2 (e1.trans e2)) (fun hb => absurd hb (by simp))
  · obtain ⟨c0, c1, e01⟩ : ∃ c0 c1, tL w0 = [c0, c1] := by
      have := tL_len w0
      rw [len2] at this
      match tL w0, this with
      | [a, b], _ => exact ⟨a, b, rfl⟩
    have dw := dueW_two (r := r) e01
    have at0 : atI (tL w0) 0 = some c0 := by rw [e01]; rfl
    have at1 : atI (tL w0) 1 = some c1 := by rw [e01]; rfl
    have col : sg1 c1 = (":" : Str) ↔ c1 = 58 := by
      rw [show (":" : Str) = sg1 58 by decide +kernel]
      exact ⟨sg_inj, fun e => by rw [e]⟩
    refine' s_if (b := (!decide ((w0.length : Int) = 2)) || ((!decide (sg1 c1 = (":" : Str))) || decide ((60 : Int) + 1 < ((w0 :: r).length : Int)))) ?tst (fun hb H2 e2 => ?_) (fun hb H2 e2 => ?_)
    case tst =>
      refine et_or (ett (evd_op (evd_cb (evs_cons (ix0 rfl (Ex.refl _)) evs_nil) (cd_lenS (by omega))) evd_int rd_neI)) fun _ => et_or (ett (evd_op (evd_op (ix0 rfl (Ex.refl _)) evd_int (rd_ixS (by omega) at1)) evd_str rd_neT)) fun _ => ett (evd_op (lenw rfl (Ex.refl _)) (evd_op evd_int evd_int rd_addI) rd_gtI)
    · refine raise ?_ H2 (e1.trans e2)
      rw [dw, if_neg]
      rintro ⟨_, z1, z2, _⟩
      rw [len2, decide_eq_true (col.mpr z1), List.length_cons] at hb
      simp at hb
      omega
    · simp only [Bool.or_eq_false_iff, Bool.not_eq_false', decide_eq_true_eq, decide_eq_false_iff_not, List.length_cons] at hb
      obtain ⟨_, z1, z2⟩ := hb
      have z1 := col.mp z1
      have z2 : r.length ≤ 60 := by omega
      wtm_at "nx"
      have e12 := e1.trans e2
      by_cases f0 : isFig c0
      rotate_left
      · have dn : dueW (w0 :: r) = none := by
          rw [dw, if_neg]
          rintro ⟨z, _⟩
          exact f0 ⟨by omega, by omega⟩
        exact s_asgR (evr_callX c0 (evs_cons (evd_op (ix0 rfl e2) evd_int (rd_ixS (by omega) at0)) evs_nil) trivial (if_neg f0) fun H3 e3 => raise dn H3 (e12.trans e3))
      · refine s_asgI (n := fig c0) (evd_callX c0 (evs_cons (evd_op (ix0 rfl e2) evd_int (rd_ixS (by omega) at0)) evs_nil) trivial (if_pos f0)) fun H3 e3 => ?_
        wtm_at "nx"
        have e13 := e12.trans e3
        have badc : ∀ w ∈ r, ∀ c ∈ tL w, ¬ isFig c → dueW (w0 :: r) = none := fun w hw c hc n => by
          rw [dw, if_neg]
          rintro ⟨zc, _, _, zw⟩
          exact n (((okW_iff (by unfold fig; omega)).mp (zw w hw)).1 c hc)
        refine lcx_list (α := Str) (f := PyData.str) (xs := r) (fun w => if ∀ c ∈ tL w, isFig c then some (iD (wv w)) else none) ?src (by omega) (fun x v H4 hx e4 hr => ?turn) (fun x hx d hd => ?im) (Ex.refl _) fun all p vs H4 hp e4 k1 k2 => ?_
        case src =>
          exact (EvN.toD (evn_slL (evd_var rfl (hw.ex (e2.trans e3))) (evp_some evd_int) evp_none)).is (by show PyData.list (cutA ((w0 :: r).map PyData.str) (some ((1 : Nat) : Int)) none) = _; rw [cutA_from]; rfl)
        case im =>
          split at hd
          · cases hd
            exact imm_iD _
          · cases hd
        case turn =>
          refine ⟨_, fun Q hq => hq, rfl, ?_⟩
          have trn : ∀ c H5, c ∈ tL x → Ex H4 H5 → ∃ σ2, (∀ Q : L2.St → Hp → Prop, Q σ2 H5 → gName 5 (.str (sg1 c)) (wipe [some (.str t), some vw, some (.int (fig c0)), none, some v, none] [5]) H5 Q) ∧ wipe σ2 [5] = wipe [some (.str t), some vw, some (.int (fig c0)), none, some v, none] [5] ∧ EvO1 (tCallS (sp_number_of C_BadNote) (fun _ => E) (tCons (tVar 5) tNil)) σ2 H5 (if isFig c then some (.int (fig c)) else none) := fun c H5 hc e5 => by
            refine ⟨_, fun Q hq => hq, rfl, ?_⟩
            by_cases fc : isFig c
            · rw [if_pos fc]
              exact evd_callX c (evs_cons (evd_var rfl rp_str) evs_nil) trivial (if_pos fc)
            · rw [if_neg fc]
              exact evr_callX c (evs_cons (evd_var rfl rp_str) evs_nil) trivial (if_neg fc) fun H6 e6 => raise (badc x hx c hc fc) H6 (((e13.trans e4).trans e5).trans e6)
          have hsrc : EvD (tVar 4) [some (.str t), some vw, some (.int (fig c0)), none, some v, none] H4 (.str x) := evd_var rfl hr
          by_cases fx : ∀ c ∈ tL x, isFig c
          · rw [if_pos fx]
            have inner : EvN (tLc (iStr (tVar 4)) (gName 5) tYes (tCallS (sp_number_of C_BadNote) (fun _ => E) (tCons (tVar 5) tNil)) [5]) [some (.str t), some vw, some (.int (fig c0)), none, some v, none] H4 ((wv x).map .int) := by
              unfold wv
              rw [List.map_map]
              refine evn_str (fun c => .int (fig c)) hsrc (by have := hr0 x hx; omega) (fun c H5 hc e5 => ?_) fun _ _ => rfl
              obtain ⟨σ2, g1, g2, g3⟩ := trn c H5 hc e5
              rw [if_pos (fx c hc)] at g3
              exact ⟨σ2, g1, g2, g3⟩
            exact evd_cb (evs_cons inner.toD evs_nil) cd_tupL
          · rw [if_neg fx]
            have inner := evr_str (fun c => if isFig c then some (.int (fig c)) else none) hsrc (by have := hr0 x hx; omega) trn (fun c hc d hd => by split at hd <;> cases hd; rfl) (by
              simp only [Classical.not_forall] at fx
              obtain ⟨c, hc, n⟩ := fx
              exact ⟨c, hc, if_neg n⟩)
            exact evr_cb1 inner
        have e14 := e13.trans e4
        have figs : ∀ w ∈ r, ∀ c ∈ tL w, isFig c := fun w hw => by
          have := all w hw
          split at this
          · assumption
          · cases this
        have em : r.filterMap (fun w => if ∀ c ∈ tL w, isFig c then some (iD (wv w)) else none) = (r.map wv).map iD := by
          rw [List.map_map]
          exact fm_some fun w hw => by rw [if_pos (figs w hw)]; rfl
        rw [em] at k2
        have hv : Rp H4 (vD (r.map wv)) (.ref p) := ⟨p, vs, rfl, k1, k2⟩
        have dv : dueW (w0 :: r) = if okCount (fig c0) ∧ isVot (fig c0) (r.map wv) then some (fig c0, r.map wv) else none := by
          rw [dw]
          have key : ((49 ≤ c0 ∧ c0 ≤ 54) ∧ c1 = 58 ∧ r.length ≤ 60 ∧ ∀ w ∈ r, okW (fig c0) w) ↔ okCount (fig c0) ∧ isVot (fig c0) (r.map wv) := by
            rw [fig_ok f0]
            constructor
            · rintro ⟨a, _, _, b⟩
              refine ⟨a, fun v hv => ?_⟩
              obtain ⟨w, hw, rfl⟩ := List.mem_map.mp hv
              exact ((okW_iff (by unfold fig; omega)).mp (b w hw)).2
            · rintro ⟨a, b⟩
              exact ⟨a, z1, z2, fun w hw => (okW_iff (by unfold fig; omega)).mpr ⟨figs w hw, b _ (List.mem_map.mpr ⟨w, hw, rfl⟩)⟩⟩
          by_cases z : okCount (fig c0) ∧ isVot (fig c0) (r.map wv)
          · rw [if_pos z, if_pos (key.mpr z)]
          · rw [if_neg z, if_neg fun y => z (key.mp y)]
        refine g_name ?_
        wtm_at "nx"
        refine s_callX (fig c0, r.map wv) (evs_cons (evd_var rfl rp_int) (evs_cons (evd_var rfl hv) evs_nil)) trivial fun H5 e5 => ?_
        have e15 := e14.trans e5
        unfold chkV
        by_cases h1 : okCount (fig c0)
        · rw [if_pos h1]
          by_cases h2 : isVot (fig c0) (r.map wv)
          · rw [if_pos h2]
            rw [if_pos ⟨h1, h2⟩] at dv
            rw [dv] at q
            intro v H6 e6 _
            have e46 := e5.trans e6
            refine ⟨_, rfl, _, rfl, by show 2 ≤ sizeLine; decide, fun pt ot hpt hot => ?_⟩
            have npt : p ≠ pt := ne_of_none (e46 _ _ k1) hpt
            exact q p vs pt ot _ (fresh_back e13 hp) ((e14.trans e46).trans (Ex.new hpt)) (by rw [upd_ne npt]; exact e46 _ _ k1) ((k2.ex e46).ex (Ex.new hpt)) upd_same hot
          · rw [if_neg h2]
            rw [if_neg (fun z => h2 z.2)] at dv
            intro H6 e6
            exact ⟨false, Y.x21, (fun z => by cases z), fun _ => ⟨true, Y.x22, fun _ a ha => raise dv H6 (e15.trans e6), (fun z => by cases z)⟩⟩
        · rw [if_neg h1]
          rw [if_neg (fun z => h1 z.1)] at dv
          intro H6 e6
          exact ⟨true, Y.x11, fun _ a ha => raise dv H6 (e15.trans e6), (fun z => by cases z)⟩
end
end Bm

namespace Bm
open PySem PySem.Spec PyProof.Rows L2 Evl
local macro_rules | `(tactic| wtm_at "rp") => `(tactic| first | exact rp_int | exact rp_bl | exact rp_str | exact rp_non | assumption | (refine' Rp.ex ?e ?h; (case h => assumption); (case e => assumption)) | exact Own.rp (by assumption))
local macro_rules | `(tactic| wtm_at "side") => `(tactic| first | assumption | omega | decide | rfl | exact ⟨by omega, by omega⟩)
local macro_rules | `(tactic| wtm_at "es") => `(tactic| first | exact evs_nil | (refine' evs_cons ?a ?b; (case a => wtm_at "ev"); (case b => wtm_at "es")))
local macro_rules | `(tactic| wtm_at "ev") => `(tactic| first
  | exact evd_int | exact evd_str | exact evd_bl | exact evd_non
  | (refine' evd_var rfl ?h; (case h => wtm_at "rp"))
  | ((with_reducible refine' evd_op ?a ?b rd_addI); (case a => wtm_at "ev"); (case b => wtm_at "ev"))
  | ((with_reducible refine' evd_op ?a ?b rd_subI); (case a => wtm_at "ev"); (case b => wtm_at "ev"))
  | ((with_reducible refine' evd_op ?a ?b (rd_mulI ?c)); (case a => wtm_at "ev"); (case b => wtm_at "ev"); (case c => wtm_at "side"))
  | ((with_reducible refine' evd_op ?a ?b (rd_divI ?c)); (case a => wtm_at "ev"); (case b => wtm_at "ev"); (case c => wtm_at "side"))
  | ((with_reducible refine' evd_op ?a ?b (rd_modI ?c)); (case a => wtm_at "ev"); (case b => wtm_at "ev"); (case c => wtm_at "side"))
  | ((with_reducible refine' evd_op ?a ?b rd_ltI); (case a => wtm_at "ev"); (case b => wtm_at "ev"))
  | ((with_reducible refine' evd_op ?a ?b rd_leI); (case a => wtm_at "ev"); (case b => wtm_at "ev"))
  | ((with_reducible refine' evd_op ?a ?b rd_gtI); (case a => wtm_at "ev"); (case b => wtm_at "ev"))
  | ((with_reducible refine' evd_op ?a ?b rd_geI); (case a => wtm_at "ev"); (case b => wtm_at "ev"))
  | ((with_reducible refine' evd_op ?a ?b rd_eqI); (case a => wtm_at "ev"); (case b => wtm_at "ev"))
  | ((with_reducible refine' evd_op ?a ?b rd_neI); (case a => wtm_at "ev"); (case b => wtm_at "ev"))
  | ((with_reducible refine' evd_op ?a ?b rd_eqB); (case a => wtm_at "ev"); (case b => wtm_at "ev"))
  | ((with_reducible refine' evd_op ?a ?b rd_neB); (case a => wtm_at "ev"); (case b => wtm_at "ev"))
  | ((with_reducible refine' evd_op ?a ?b rd_isNo); (case a => wtm_at "ev"); (case b => wtm_at "ev"))
  | ((with_reducible refine' evd_op ?a ?b rd_notNo); (case a => wtm_at "ev"); (case b => wtm_at "ev"))
  | ((with_reducible refine' evd_op ?a ?b rd_inIL); (case a => wtm_at "ev"); (case b => wtm_at "ev"))
  | ((with_reducible refine' evd_op ?a ?b rd_niIL); (case a => wtm_at "ev"); (case b => wtm_at "ev"))
  | ((with_reducible refine' evd_op ?a ?b rd_inID); (case a => wtm_at "ev"); (case b => wtm_at "ev"))
  | ((with_reducible refine' evd_op ?a ?b rd_niID); (case a => wtm_at "ev"); (case b => wtm_at "ev"))
  | ((with_reducible refine' evd_neg ?a); (case a => wtm_at "ev"))
  | ((with_reducible refine' evd_tix ?a ?b ?c); (case a => wtm_at "ev"); (case b => wtm_at "ev"); (case c => wtm_at "side"))
  | ((with_reducible refine' evd_tup ?a ?b); (case a => wtm_at "es"); (case b => exact Nat.le_of_ble_eq_true rfl))
  | ((with_reducible refine' evd_cb ?a cd_lenL); (case a => wtm_at "es"))
  | ((with_reducible refine' evd_cb ?a cd_lenT); (case a => wtm_at "es"))
  | ((with_reducible refine' evd_cb ?a cd_intB); (case a => wtm_at "es"))
  | ((with_reducible refine' evd_cb ?a cd_tupL); (case a => wtm_at "es"))
  | ((with_reducible refine' evd_and ?a ?b); (case a => wtm_at "ev"); (case b => intro _; wtm_at "ev"))
  | ((with_reducible refine' evd_or ?a ?b); (case a => wtm_at "ev"); (case b => intro _; wtm_at "ev"))
  | ((with_reducible refine' evd_not ?a); (case a => wtm_at "ev"))
  | ((with_reducible refine' evd_op ?a ?b rd_neIL); (case a => wtm_at "ev"); (case b => wtm_at "ev"))
  | ((with_reducible refine' evd_op ?a ?b rd_eqIL); (case a => wtm_at "ev"); (case b => wtm_at "ev"))
  | ((with_reducible refine' EvN.toD ?a); (case a => wtm_at "en")))
local macro_rules | `(tactic| wtm_at "en") => `(tactic| first
  | ((with_reducible refine' evn_cb ?a cn_sortTI); (case a => wtm_at "es"))
  | ((with_reducible refine' evn_cb ?a cn_listL); (case a => wtm_at "es"))
  | ((with_reducible refine' evn_cb ?a cn_listT); (case a => wtm_at "es"))
  | ((with_reducible refine' evn_rng ?a ?b); (case a => wtm_at "ev"); (case b => wtm_at "side"))
  | ((with_reducible refine' evn_lst ?a ?b); (case a => wtm_at "es"); (case b => exact Nat.le_of_ble_eq_true rfl))
  | ((with_reducible refine' evn_cat ?a ?b ?c); (case a => wtm_at "ev"); (case b => wtm_at "ev"); (case c => wtm_at "side"))
  | ((with_reducible refine' evn_slL ?a ?b ?c); (case a => wtm_at "ev"); (case b => first | exact evp_none | (refine' evp_some ?d; (case d => wtm_at "ev"))); (case c => first | exact evp_none | (refine' evp_some ?d; (case d => wtm_at "ev")))))
local macro_rules | `(tactic| wtm_at "et") => `(tactic| first
  | exact et_yes
  | (refine' ett ?a; (case a => wtm_at "ev"))
  | (refine' etB ?a; (case a => wtm_at "ev"))
  | (refine' et_and ?a ?b; (case a => wtm_at "et"); (case b => intro _; wtm_at "et"))
  | (refine' et_or ?a ?b; (case a => wtm_at "et"); (case b => intro _; wtm_at "et"))
  | (refine' et_not ?a; (case a => wtm_at "et")))
local macro_rules | `(tactic| wtm_at "nx") => `(tactic| try dsimp only [tSeq, tNext])
/-! ### the law's own helpers: cells, whole numbers, orders, voters, leads, beats -/
def sp__law_cell_at (K : PySem.W.Frag) : Sp := spS (α := Int) K (fun k => [.int k]) (fun _ k => 0 ≤ k) fun ns k => .val (.int (cellF ns k))
theorem len__law_cell_at {K : PySem.W.Frag} (vs : List V) (H : Hp) (Q : VK) (E : XK) (h : (sp__law_cell_at K) vs H Q E) : vs.length = 2 := by
  unfold sp__law_cell_at at h
  obtain ⟨ns, a, sa, r, rfl, _, h, _⟩ := h
  rw [List.length_cons, h.len]
  rfl
theorem cellF_at {ns : List Int} {k : Int} (h0 : 0 ≤ k) (h : k < ns.length) : atI ns k = some (cellF ns k) := by
  have hk : k = ((k.toNat : Nat) : Int) := by omega
  have hl : k.toNat < ns.length := by omega
  have e : ns[k.toNat]? = some (cellF ns k) := by
    unfold cellF
    rw [List.getD_eq_getElem?_getD, List.getElem?_eq_getElem hl]
    rfl
  conv => lhs; rw [hk]
  exact atI_nat e
theorem cellF_out {ns : List Int} {k : Int} (h : ¬ k < ns.length) : cellF ns k = 0 := by
  unfold cellF
  rw [List.getD_eq_getElem?_getD, List.getElem?_eq_none (by omega)]
  rfl
section
variable {P : Program} {w : World} {K : PySem.W.Frag} {mg : Str → Option Value} {base : Heap}
theorem ok__law_cell_at {f : Addr} {fd : FuncData} (D : Df K mg "_law_cell_at" s__law_cell_at ["script", "k"] f fd) (Bi : Bi mg) : FnOk P w K mg base CX0 1 f fd ["script", "k"] (sp__law_cell_at K) := by
  refine D.F.ok c__law_cell_at (fun vs H Q E h => len__law_cell_at _ _ _ _ h) (fun cdv A outer s H vs Q E hr h => ?_)
  refine ⟨_, (pss_cons (ps_if (pt_cmpR op_ltI (pv 1) (pe_callB (cr_lenK (K := K)) (by rfl) Bi.len (by decide +kernel) (pa_cons (pv 0) pa_nil)) (nomark _))
      (pss_one (ps_ret (pe_ix (ix_listK (K := K)) (pv 0) (pv 1) (fun _ _ => rfl))))
      pss_nil)
      (pss_one (ps_ret pe_int))), ?_⟩
  obtain ⟨ns, k, sa, _, rfl, hs, ⟨v1, _, rfl, rfl, rfl⟩, hk, q⟩ := h
  dsimp only at q
  refine' s_if (b := decide (k < (ns.length : Int))) ?t ?yes ?no
  case t => exact ett (evd_op (evd_var rfl rp_int) (evd_lenS hs rfl) rd_ltI)
  case yes =>
    intro hb H1 e1
    have hb' : k < ns.length := by simpa using hb
    exact s_retD (evd_ixS (ex_l e1 hs) rfl (evd_var rfl rp_int) (cellF_at hk hb')) fun v H2 e2 r => q v H2 (e1.trans e2) r
  case no =>
    intro hb H1 e1
    have hb' : ¬ k < ns.length := by simpa using hb
    rw [cellF_out hb'] at q
    wtm_at "nx"
    exact s_retD evd_int fun v H2 e2 r => q v H2 (e1.trans e2) r
end
theorem ev_cell {K : PySem.W.Frag} {σ : L2.St} {H : Hp} {tb : TE} {E : XK} {ns : List Int} {sa : Addr} {i : Nat} {k : Int} (hs : SqL K H sa (ns.map V.int)) (hi : σ[i]? = some (some (.ref sa))) (h : EvD tb σ H (.int k)) (p : 0 ≤ k) :
    EvD (tCall (sp__law_cell_at K) [] E (tCons (tVar i) (tCons tb tNil))) σ H (.int (cellF ns k)) := evd_callS k hs hi (evs_cons h evs_nil) p rfl
def sp__law_whole : Sp := spO (α := Int) (fun k => [.int k]) (fun _ => True) fun _ => .val (.bool true)
theorem len__law_whole (vs : List V) (H : Hp) (Q : VK) (E : XK) (h : sp__law_whole vs H Q E) : vs.length = 1 := by
  unfold sp__law_whole at h
  obtain ⟨a, r, _⟩ := h
  rw [r.len]
  rfl
section
variable {P : Program} {w : World} {K : PySem.W.Frag} {mg : Str → Option Value} {base : Heap}
theorem ok__law_whole {f : Addr} {fd : FuncData} (D : Df K mg "_law_whole" s__law_whole ["found"] f fd) (Bi : Bi mg) : FnOk P w K mg base CX0 1 f fd ["found"] sp__law_whole := by
  refine D.F.ok c__law_whole (fun vs H Q E h => len__law_whole _ _ _ _ h) (fun cdv A outer s H vs Q E hr h => ?_)
  refine ⟨_, (pss_one (ps_ret (pe_and (pe_callB (call_isiK2 (K := K)) (by rfl) Bi.isinstance (by decide +kernel) (pa_cons (pv 0) (pa_cons (pe_bltn (v := .ty "int") (by rfl) Bi.int (by decide +kernel) rfl) pa_nil))) (pe_one (pe_not (pe_callB (call_isiK2 (K := K)) (by rfl) Bi.isinstance (by decide +kernel) (pa_cons (pv 0) (pa_cons (pe_bltn (v := .ty "bool") (by rfl) Bi.bool (by decide +kernel) rfl) pa_nil)))))))), ?_⟩
  obtain ⟨k, ⟨v1, _, rfl, rfl, rfl⟩, -, q⟩ := h
  exact s_retD (evd_and (a := true) (b := true) (evd_isi (evd_var rfl rp_int) (show kitB "int" "int" = some true by decide +kernel)) fun _ => evd_not (a := false) (evd_isi (evd_var rfl rp_int) (show kitB "int" "bool" = some false by decide +kernel))) fun v H2 e2 r => q v H2 e2 r
end
theorem ev_whole {σ : L2.St} {H : Hp} {tb : TE} {E : XK} {k : Int} (h : EvD tb σ H (.int k)) : EvD (tCall sp__law_whole [] E (tCons tb tNil)) σ H (.bool true) := evd_callO k (evs_cons h evs_nil) trivial rfl
/-- orders drawn by a cell -/
def ordR : Nat → List Int → Int → List Int
  | 0, _, _ => []
  | n + 1, left, c => left.getD (c % (left.length : Int)).toNat 0 :: ordR n (left.eraseIdx (c % (left.length : Int)).toNat) (c / (left.length : Int))
def lawOrd (c m : Int) : List Int := ordR m.toNat (rgI 0 m.toNat) c
theorem map_erase {α β : Type} (f : α → β) : ∀ (l : List α) (k : Nat), (l.map f).eraseIdx k = (l.eraseIdx k).map f
  | [], _ => rfl
  | _ :: _, 0 => rfl
  | x :: xs, k + 1 => by
    rw [List.map_cons, List.eraseIdx_cons_succ, List.eraseIdx_cons_succ, List.map_cons, map_erase f xs k]
theorem erase_perm : ∀ {l : List Int} {k : Nat} (h : k < l.length), (l[k] :: l.eraseIdx k).Perm l
  | [], _, h => by simp at h
  | x :: xs, 0, _ => .refl _
  | x :: xs, k + 1, h => by
    have ih := erase_perm (l := xs) (k := k) (by simpa using h)
    rw [List.getElem_cons_succ, List.eraseIdx_cons_succ]
    exact (List.Perm.swap _ _ _).trans (ih.cons x)
theorem ordR_perm : ∀ {n : Nat} {left : List Int} {c : Int}, left.length = n → (ordR n left c).Perm left
  | 0, left, c, h => by
    rw [List.eq_nil_of_length_eq_zero h]
    exact .refl _
  | n + 1, left, c, h => by
    have h0 : (0 : Int) < (left.length : Int) := by omega
    have l1 := Int.emod_nonneg c (Int.ne_of_gt h0)
    have l2 := Int.emod_lt_of_pos c h0
    have hk : (c % (left.length : Int)).toNat < left.length := by omega
    unfold ordR
    generalize (c % (left.length : Int)).toNat = k at hk
    have ih := ordR_perm (n := n) (left := left.eraseIdx k) (c := c / (left.length : Int)) (by rw [List.length_eraseIdx_of_lt hk]; omega)
    have e : left.getD k 0 = left[k] := by rw [List.getD_eq_getElem?_getD, List.getElem?_eq_getElem hk]; rfl
    rw [e]
    exact (ih.cons _).trans (erase_perm hk)
theorem lawOrd_ord (c m : Int) : isOrd m (lawOrd c m) := isOrd_iff.mpr (ordR_perm (rgI_len _ _))
def sp__law_order : Sp := spO (α := Int × Int) (fun a => [.int a.1, .int a.2]) (fun a => 0 ≤ a.2 ∧ a.2 ≤ 6) fun a => .val (iD (lawOrd a.1 a.2))
theorem len__law_order (vs : List V) (H : Hp) (Q : VK) (E : XK) (h : sp__law_order vs H Q E) : vs.length = 2 := by
  unfold sp__law_order at h
  obtain ⟨a, r, _⟩ := h
  rw [r.len]
  rfl
section
variable {P : Program} {w : World} {K : PySem.W.Frag} {mg : Str → Option Value} {base : Heap}
theorem ok__law_order {f : Addr} {fd : FuncData} (D : Df K mg "_law_order" s__law_order ["cell", "many"] f fd) (Bi : Bi mg) : FnOk P w K mg base CX0 1 f fd ["cell", "many"] sp__law_order := by
  refine D.F.ok c__law_order (fun vs H Q E h => len__law_order _ _ _ _ h) (fun cdv A outer s H vs Q E hr h => ?_)
  refine ⟨_, (pss_cons (ps_set (i := 2) c__law_order.nd rfl (.inl rfl) (pe_listRg rfl (by rfl) Bi.list (prg_1 (by rfl) Bi.range (pv 1))))
      (pss_cons (ps_set (i := 3) c__law_order.nd rfl (.inl rfl) (pe_lst pa_nil))
      (pss_cons (ps_for (PassesOwn.never) rfl (pi_range1 (by rfl) Bi.range (pa_cons (pv 1) pa_nil)) (pg_name (i := 4) c__law_order.nd rfl (.inl rfl))
      (pss_cons (ps_expr (pe_bm PySem.F.plainAttrs_list PySem.F.slot_list_append PySem.F.type_list_append mt_append (pv 3) (pa_cons (pe_bm PySem.F.plainAttrs_list PySem.F.slot_list_pop PySem.F.type_list_pop mt_popAt (pv 2) (pa_cons (pe_op op_modI (pv 0) (pe_callB (cr_lenK (K := K)) (by rfl) Bi.len (by decide +kernel) (pa_cons (pv 2) pa_nil))) pa_nil)) pa_nil)))
      (pss_one (ps_set (i := 0) c__law_order.nd rfl (.inl rfl) (pe_op op_divI (pv 0) (pe_op op_addI (pe_callB (cr_lenK (K := K)) (by rfl) Bi.len (by decide +kernel) (pa_cons (pv 2) pa_nil)) pe_int))))))
      (pss_one (ps_ret (pe_callTy (cr_tupLK (K := K)) (by rfl) Bi.tuple (by decide +kernel) (pa_cons (pv 3) pa_nil))))))), ?_⟩
  obtain ⟨⟨c, m⟩, ⟨v1, _, rfl, rfl, v2, _, rfl, rfl, rfl⟩, ⟨m0, m6⟩, q⟩ := h
  dsimp only at q m0 m6
  refine' s_asgO (evn_rng (n := m) ?n (by omega)) (imm_ints _) fun pl H1 e1 o1 => ?_
  case n => wtm_at "ev"
  wtm_at "nx"
  refine' s_asgO (evn_lst evs_nil (by decide)) rfl fun po H2 e2 o2 => ?_
  wtm_at "nx"
  have npo : pl ≠ po := by
    obtain ⟨_, z, _⟩ := o1.has
    exact ne_of_none z o2.new
  refine' s_forR (n := m) ?n (by omega) fun H3 e3 => ⟨fun i σ' H' => ∃ y left order cell, σ' = [some (.int cell), some (.int m), some (.ref pl), some (.ref po), y] ∧ Own H H' pl (left.map .int) ∧ Own H H' po (order.map .int) ∧
    left.length + i = m.toNat ∧ order.length = i ∧ order ++ ordR left.length left cell = lawOrd c m, ?_, ?_, ?_⟩
  case n => wtm_at "es"
  · exact ⟨none, _, [], c, rfl, (o1.step e2).step e3, (o2.step e3).lower e1, by rw [rgI_len]; omega, rfl, by rw [rgI_len]; rfl⟩
  · rintro i σ' H' hi ⟨y, left, order, cell, rfl, ol, oo, hl, ho, hm⟩
    refine g_name ?_
    have h0 : (0 : Int) < (left.length : Int) := by omega
    have l1 := Int.emod_nonneg cell (Int.ne_of_gt h0)
    have l2 := Int.emod_lt_of_pos cell h0
    have hk : (cell % (left.length : Int)).toNat < left.length := by omega
    obtain ⟨ws, w1, w2⟩ := oo.has
    obtain ⟨us, u1, u2⟩ := ol.has
    have ix : EvD (tOp rModI (tVar 0) (tCB (rLenS K) (tCons (tVar 2) tNil))) ([some (V.int cell), some (V.int m), some (V.ref pl), some (V.ref po), y].set 4 (some (V.int (i : Int)))) H' (.int (cell % (left.length : Int))) := by
      have lz : EvD (tCB (rLenS K) (tCons (tVar 2) tNil)) ([some (V.int cell), some (V.int m), some (V.ref pl), some (V.ref po), y].set 4 (some (V.int (i : Int)))) H' (.int (left.map PyData.int).length) := evd_cb (evs_cons (evd_var rfl ol.rp) evs_nil) cd_lenL
      rw [List.length_map] at lz
      exact evd_op (evd_var rfl rp_int) lz (rd_modI h0)
    have u3 := u2.ints
    have w3 := w2.ints
    subst u3 w3
    refine ⟨.ref po, rfl, .inl ⟨rfl, _, SqL.of w1⟩, .ref pl, rfl, .inl ⟨rfl, _, SqL.of u1⟩, ix H' (Ex.refl _) _ fun v5 H5 e5 r5 => ?_⟩
    obtain rfl : v5 = .int (cell % (left.length : Int)) := r5
    have g : (left.map V.int)[(cell % (left.length : Int)).toNat]? = some (.int (left.getD (cell % (left.length : Int)).toNat 0)) := by
      rw [List.getElem?_map, List.getD_eq_getElem?_getD, List.getElem?_eq_getElem hk]
      rfl
    have sx : seqIndex? (cell % (left.length : Int)) (left.map V.int).length = some (cell % (left.length : Int)).toNat := by
      rw [List.length_map]
      exact (ixN_seq (by unfold ixN; rw [if_pos l1, if_pos l2])).1
    refine ⟨pl, _, _, (cell % (left.length : Int)).toNat, _, rfl, rfl, e5 _ _ u1, by omega, by omega, sx, g, ?_⟩
    have w5 : (upd H5 pl (.lst ((left.map V.int).eraseIdx (cell % (left.length : Int)).toNat))) po = some (.lst (order.map V.int)) := by
      rw [upd_ne npo.symm]
      exact e5 _ _ w1
    refine ⟨po, _, _, rfl, rfl, w5, sz_lt (by rw [List.length_map]; omega), ?_⟩
    have nHl : H pl = none := ol.new
    have nHo : H po = none := oo.new
    have hlen2 : (left.eraseIdx (cell % (left.length : Int)).toNat).length = left.length - 1 := List.length_eraseIdx_of_lt hk
    have hstep : ordR left.length left cell = left.getD (cell % (left.length : Int)).toNat 0 :: ordR (left.length - 1) (left.eraseIdx (cell % (left.length : Int)).toNat) (cell / (left.length : Int)) := by
      have e1 : ∀ n, n = left.length - 1 → ordR (n + 1) left cell = left.getD (cell % (left.length : Int)).toNat 0 :: ordR n (left.eraseIdx (cell % (left.length : Int)).toNat) (cell / (left.length : Int)) := fun n _ => rfl
      have e2 := e1 _ rfl
      rwa [Nat.sub_add_cancel (by omega)] at e2
    generalize hk' : (cell % (left.length : Int)).toNat = k at *
    rw [map_erase V.int left k]
    have exB : Ex H (upd (upd H5 pl (.lst ((left.eraseIdx k).map V.int))) po (.lst (order.map V.int ++ [V.int (left.getD k 0)]))) := Ex.mut (Ex.mut (ol.ex.trans e5) nHl) nHo
    have own1 : Own H (upd (upd H5 pl (.lst ((left.eraseIdx k).map V.int))) po (.lst (order.map V.int ++ [V.int (left.getD k 0)]))) pl ((left.eraseIdx k).map .int) := by
      refine ⟨nHl, exB, ⟨_, ?_, rpa_ints _⟩, imm_ints _⟩
      rw [upd_ne npo, upd_same]
    have own2 : Own H (upd (upd H5 pl (.lst ((left.eraseIdx k).map V.int))) po (.lst (order.map V.int ++ [V.int (left.getD k 0)]))) po ((order ++ [left.getD k 0]).map .int) := by
      refine ⟨nHo, exB, ⟨_, upd_same, ?_⟩, imm_ints _⟩
      rw [List.map_append]
      exact (rpa_ints order).app (rpa_ints [left.getD k 0])
    generalize (upd (upd H5 pl (.lst ((left.eraseIdx k).map V.int))) po (.lst (order.map V.int ++ [V.int (left.getD k 0)]))) = H6 at own1 own2 ⊢
    wtm_at "nx"
    have lz : EvD (tCB (rLenS K) (tCons (tVar 2) tNil)) ([some (V.int cell), some (V.int m), some (V.ref pl), some (V.ref po), y].set 4 (some (V.int (i : Int)))) H6 (.int ((left.eraseIdx k).map PyData.int).length) := evd_cb (evs_cons (evd_var rfl own1.rp) evs_nil) cd_lenL
    rw [List.length_map, hlen2] at lz
    refine s_asgI (n := cell / ((left.length - 1 : Nat) + 1 : Int)) (evd_op (evd_var rfl rp_int) (evd_op lz evd_int rd_addI) (rd_divI ⟨by omega, by omega⟩)) fun H7 e7 => ?_
    rw [show ((left.length - 1 : Nat) + 1 : Int) = (left.length : Int) by omega]
    refine ⟨some (.int i), left.eraseIdx k, order ++ [left.getD k 0], _, rfl, own1.step e7, own2.step e7, by omega, by rw [List.length_append, ho]; rfl, ?_⟩
    rw [hlen2, List.append_assoc, List.singleton_append, ← hstep]
    exact hm
  · rintro σ' H' ⟨y, left, order, cell, rfl, ol, oo, hl, ho, hm⟩
    have l0 : left = [] := List.eq_nil_of_length_eq_zero (by omega)
    subst l0
    rw [show ordR ([] : List Int).length [] cell = [] from rfl, List.append_nil] at hm
    wtm_at "nx"
    refine s_retD (d := iD order) ?r fun v H5 e5 r => ?_
    case r => wtm_at "ev"
    rw [hm] at r
    exact q v H5 (ol.ex.trans e5) r
end
end Bm

namespace Bm
open PySem PySem.Spec PyProof.Rows L2 Evl
local macro_rules | `(tactic| wtm_at "rp") => `(tactic| first | exact rp_int | exact rp_bl | exact rp_str | exact rp_non | assumption | (refine' Rp.ex ?e ?h; (case h => assumption); (case e => assumption)) | exact Own.rp (by assumption))
local macro_rules | `(tactic| wtm_at "side") => `(tactic| first | assumption | omega | decide | rfl | exact ⟨by omega, by omega⟩)
local macro_rules | `(tactic| wtm_at "es") => `(tactic| first | exact evs_nil | (refine' evs_cons ?a ?b; (case a => wtm_at "ev"); (case b => wtm_at "es")))
local macro_rules | `(tactic| wtm_at "ev") => `(tactic| first
  | exact evd_int | exact evd_str | exact evd_bl | exact evd_non
  | (refine' evd_var rfl ?h; (case h => wtm_at "rp"))
  | ((with_reducible refine' evd_op ?a ?b rd_addI); (case a => wtm_at "ev"); (case b => wtm_at "ev"))
  | ((with_reducible refine' evd_op ?a ?b rd_subI); (case a => wtm_at "ev"); (case b => wtm_at "ev"))
  | ((with_reducible refine' evd_op ?a ?b (rd_mulI ?c)); (case a => wtm_at "ev"); (case b => wtm_at "ev"); (case c => wtm_at "side"))
  | ((with_reducible refine' evd_op ?a ?b (rd_divI ?c)); (case a => wtm_at "ev"); (case b => wtm_at "ev"); (case c => wtm_at "side"))
  | ((with_reducible refine' evd_op ?a ?b (rd_modI ?c)); (case a => wtm_at "ev"); (case b => wtm_at "ev"); (case c => wtm_at "side"))
  | ((with_reducible refine' evd_op ?a ?b rd_ltI); (case a => wtm_at "ev"); (case b => wtm_at "ev"))
  | ((with_reducible refine' evd_op ?a ?b rd_leI); (case a => wtm_at "ev"); (case b => wtm_at "ev"))
  | ((with_reducible refine' evd_op ?a ?b rd_gtI); (case a => wtm_at "ev"); (case b => wtm_at "ev"))
  | ((with_reducible refine' evd_op ?a ?b rd_geI); (case a => wtm_at "ev"); (case b => wtm_at "ev"))
  | ((with_reducible refine' evd_op ?a ?b rd_eqI); (case a => wtm_at "ev"); (case b => wtm_at "ev"))
  | ((with_reducible refine' evd_op ?a ?b rd_neI); (case a => wtm_at "ev"); (case b => wtm_at "ev"))
  | ((with_reducible refine' evd_op ?a ?b rd_eqB); (case a => wtm_at "ev"); (case b => wtm_at "ev"))
  | ((with_reducible refine' evd_op ?a ?b rd_neB); (case a => wtm_at "ev"); (case b => wtm_at "ev"))
  | ((with_reducible refine' evd_op ?a ?b rd_isNo); (case a => wtm_at "ev"); (case b => wtm_at "ev"))
  | ((with_reducible refine' evd_op ?a ?b rd_notNo); (case a => wtm_at "ev"); (case b => wtm_at "ev"))
  | ((with_reducible refine' evd_op ?a ?b rd_inIL); (case a => wtm_at "ev"); (case b => wtm_at "ev"))
  | ((with_reducible refine' evd_op ?a ?b rd_niIL); (case a => wtm_at "ev"); (case b => wtm_at "ev"))
  | ((with_reducible refine' evd_op ?a ?b rd_inID); (case a => wtm_at "ev"); (case b => wtm_at "ev"))
  | ((with_reducible refine' evd_op ?a ?b rd_niID); (case a => wtm_at "ev"); (case b => wtm_at "ev"))
  | ((with_reducible refine' evd_neg ?a); (case a => wtm_at "ev"))
  | ((with_reducible refine' evd_tix ?a ?b ?c); (case a => wtm_at "ev"); (case b => wtm_at "ev"); (case c => wtm_at "side"))
  | ((with_reducible refine' evd_tup ?a ?b); (case a => wtm_at "es"); (case b => exact Nat.le_of_ble_eq_true rfl))
  | ((with_reducible refine' evd_cb ?a cd_lenL); (case a => wtm_at "es"))
  | ((with_reducible refine' evd_cb ?a cd_lenT); (case a => wtm_at "es"))
  | ((with_reducible refine' evd_cb ?a cd_intB); (case a => wtm_at "es"))
  | ((with_reducible refine' evd_cb ?a cd_tupL); (case a => wtm_at "es"))
  | ((with_reducible refine' evd_and ?a ?b); (case a => wtm_at "ev"); (case b => intro _; wtm_at "ev"))
  | ((with_reducible refine' evd_or ?a ?b); (case a => wtm_at "ev"); (case b => intro _; wtm_at "ev"))
  | ((with_reducible refine' evd_not ?a); (case a => wtm_at "ev"))
  | ((with_reducible refine' evd_op ?a ?b rd_neIL); (case a => wtm_at "ev"); (case b => wtm_at "ev"))
  | ((with_reducible refine' evd_op ?a ?b rd_eqIL); (case a => wtm_at "ev"); (case b => wtm_at "ev"))
  | ((with_reducible refine' EvN.toD ?a); (case a => wtm_at "en")))
local macro_rules | `(tactic| wtm_at "en") => `(tactic| first
  | ((with_reducible refine' evn_cb ?a cn_sortTI); (case a => wtm_at "es"))
  | ((with_reducible refine' evn_cb ?a cn_listL); (case a => wtm_at "es"))
  | ((with_reducible refine' evn_cb ?a cn_listT); (case a => wtm_at "es"))
  | ((with_reducible refine' evn_rng ?a ?b); (case a => wtm_at "ev"); (case b => wtm_at "side"))
  | ((with_reducible refine' evn_lst ?a ?b); (case a => wtm_at "es"); (case b => exact Nat.le_of_ble_eq_true rfl))
  | ((with_reducible refine' evn_cat ?a ?b ?c); (case a => wtm_at "ev"); (case b => wtm_at "ev"); (case c => wtm_at "side"))
  | ((with_reducible refine' evn_slL ?a ?b ?c); (case a => wtm_at "ev"); (case b => first | exact evp_none | (refine' evp_some ?d; (case d => wtm_at "ev"))); (case c => first | exact evp_none | (refine' evp_some ?d; (case d => wtm_at "ev")))))
local macro_rules | `(tactic| wtm_at "et") => `(tactic| first
  | exact et_yes
  | (refine' ett ?a; (case a => wtm_at "ev"))
  | (refine' etB ?a; (case a => wtm_at "ev"))
  | (refine' et_and ?a ?b; (case a => wtm_at "et"); (case b => intro _; wtm_at "et"))
  | (refine' et_or ?a ?b; (case a => wtm_at "et"); (case b => intro _; wtm_at "et"))
  | (refine' et_not ?a; (case a => wtm_at "et")))
local macro_rules | `(tactic| wtm_at "nx") => `(tactic| try dsimp only [tSeq, tNext])
theorem ev_order {σ : L2.St} {H : Hp} {t1 t2 : TE} {E : XK} {c m : Int} (h1 : EvD t1 σ H (.int c)) (h2 : EvD t2 σ H (.int m)) (p : 0 ≤ m ∧ m ≤ 6) :
    EvD (tCall sp__law_order [] E (tCons t1 (tCons t2 tNil))) σ H (iD (lawOrd c m)) := evd_callO (c, m) (evs_cons h1 (evs_cons h2 evs_nil)) p rfl
/-- voters drawn by cells -/
def votBase (ns : List Int) (start m most : Int) : List (List Int) := (rgI 0 (cellF ns start % (most + 1)).toNat).map fun k => lawOrd (cellF ns (start + 1 + k)) m
def lawVot (ns : List Int) (start m most : Int) : List (List Int) :=
  if cellF ns start / (most + 1) % 8 = 5 then (List.replicate 60 (votBase ns start m most)).flatten.take (most + cellF ns start / (most + 1) / 8 % (61 - most)).toNat
  else votBase ns start m most ++ (votBase ns start m most).take (cellF ns start / (most + 1) % 4).toNat
theorem votBase_ok (ns : List Int) (start m most : Int) : isVot m (votBase ns start m most) := fun v h => by
  obtain ⟨k, _, rfl⟩ := List.mem_map.mp h
  exact lawOrd_ord _ _
theorem lawVot_ok (ns : List Int) (start m most : Int) : isVot m (lawVot ns start m most) := fun v h => by
  unfold lawVot at h
  split at h
  · have h2 := List.mem_of_mem_take h
    obtain ⟨l, h3, h4⟩ := List.mem_flatten.mp h2
    rw [(List.mem_replicate.mp h3).2] at h4
    exact votBase_ok ns start m most v h4
  · rcases List.mem_append.mp h with h | h
    · exact votBase_ok ns start m most v h
    · exact votBase_ok ns start m most v (List.mem_of_mem_take h)
theorem votBase_len (ns : List Int) (start m : Int) {most : Int} (h : 0 ≤ most) : ((votBase ns start m most).length : Int) ≤ most := by
  unfold votBase
  rw [List.length_map, rgI_len]
  have := Int.emod_nonneg (cellF ns start) (show most + 1 ≠ 0 by omega)
  have := Int.emod_lt_of_pos (cellF ns start) (show 0 < most + 1 by omega)
  omega
theorem lawVot_len (ns : List Int) (start m : Int) {most : Int} (h : 0 ≤ most ∧ most ≤ 30) : (lawVot ns start m most).length ≤ 60 := by
  unfold lawVot
  have l := votBase_len ns start m h.1
  split
  · rw [List.length_take]
    have := Int.emod_nonneg (cellF ns start / (most + 1) / 8) (show 61 - most ≠ 0 by omega)
    have := Int.emod_lt_of_pos (cellF ns start / (most + 1) / 8) (show 0 < 61 - most by omega)
    omega
  · rw [List.length_append, List.length_take]
    omega
def sp__law_voters (K : PySem.W.Frag) : Sp := spS (α := Int × Int × Int) K (fun a => [.int a.1, .int a.2.1, .int a.2.2]) (fun _ a => 0 ≤ a.1 ∧ (0 ≤ a.2.1 ∧ a.2.1 ≤ 6) ∧ 0 ≤ a.2.2 ∧ a.2.2 ≤ 30) fun ns a => .new ((lawVot ns a.1 a.2.1 a.2.2).map iD)
theorem len__law_voters {K : PySem.W.Frag} (vs : List V) (H : Hp) (Q : VK) (E : XK) (h : (sp__law_voters K) vs H Q E) : vs.length = 4 := by
  unfold sp__law_voters at h
  obtain ⟨ns, a, sa, r, rfl, _, h, _⟩ := h
  rw [List.length_cons, h.len]
  rfl
section
variable {P : Program} {w : World} {K : PySem.W.Frag} {mg : Str → Option Value} {base : Heap}
theorem ok__law_voters {f : Addr} {fd : FuncData} (D : Df K mg "_law_voters" s__law_voters ["script", "start", "many", "most"] f fd) (Bi : Bi mg) {f__law_cell_at : Addr} {fd__law_cell_at : FuncData} (D__law_cell_at : Df K mg "_law_cell_at" s__law_cell_at ["script", "k"] f__law_cell_at fd__law_cell_at) (G__law_cell_at : FnOk P w K mg base CX0 1 f__law_cell_at fd__law_cell_at ["script", "k"] (sp__law_cell_at K)) {f__law_order : Addr} {fd__law_order : FuncData} (D__law_order : Df K mg "_law_order" s__law_order ["cell", "many"] f__law_order fd__law_order) (G__law_order : FnOk P w K mg base CX0 1 f__law_order fd__law_order ["cell", "many"] sp__law_order) : FnOk P w K mg base CX0 2 f fd ["script", "start", "many", "most"] (sp__law_voters K) := by
  refine D.F.ok c__law_voters (fun vs H Q E h => len__law_voters _ _ _ _ h) (fun cdv A outer s H vs Q E hr h => ?_)
  refine ⟨_, (pss_cons (ps_set (i := 4) c__law_voters.nd rfl (.inl rfl) (pe_op op_modI (pe_call G__law_cell_at (hr.mono (by decide)) (by rfl) D__law_cell_at.g D__law_cell_at.F.kp D__law_cell_at.b .nil pass0 (pa_cons (pv 0) (pa_cons (pv 1) pa_nil))) (pe_op op_addI (pv 3) pe_int)))
      (pss_cons (ps_setLc (i := 5) (own := [("k", 7)]) (g := (gName 7)) (tt := tYes) rfl c__law_voters.nd rfl rfl (sw_true rfl rfl rfl (by decide +kernel)) (pi_range1 (by rfl) Bi.range (pa_cons (pv 4) pa_nil)) (blkOk_by (own := [("k", 7)]) (N := ["script", "start", "many", "most", "count", "voters", "more", "k"]) (sc := defScope s__law_voters) (by decide +kernel)) (fun _ _ _ _ _ => (pg_name (i := 7) c__law_voters.nd rfl (.inl rfl))) (fun _ _ _ _ _ => pts_nil) (fun _ _ _ _ _ => (pe_call G__law_order (hr.mono (by decide)) (by rfl) D__law_order.g D__law_order.F.kp D__law_order.b .nil pass0 (pa_cons (pe_call G__law_cell_at (hr.mono (by decide)) (by rfl) D__law_cell_at.g D__law_cell_at.F.kp D__law_cell_at.b .nil pass0 (pa_cons (pv 0) (pa_cons (pe_op op_addI (pe_op op_addI (pv 1) pe_int) (pv 7)) pa_nil))) (pa_cons (pv 2) pa_nil)))))
      (pss_cons (ps_set (i := 6) c__law_voters.nd rfl (.inl rfl) (pe_op op_divI (pe_call G__law_cell_at (hr.mono (by decide)) (by rfl) D__law_cell_at.g D__law_cell_at.F.kp D__law_cell_at.b .nil pass0 (pa_cons (pv 0) (pa_cons (pv 1) pa_nil))) (pe_op op_addI (pv 3) pe_int)))
      (pss_cons (ps_if (pt_cmpR op_eqI (pe_op op_modI (pv 6) pe_int) pe_int (nomark _))
      (pss_one (ps_ret (pe_slice (sl_listK (K := K)) (pe_op op_rep (pv 5) pe_int) po_none (po_some (pe_op op_addI (pv 3) (pe_op op_modI (pe_op op_divI (pv 6) pe_int) (pe_op op_subI pe_int (pv 3))))))))
      pss_nil)
      (pss_one (ps_ret (pe_op op_cat (pv 5) (pe_slice (sl_listK (K := K)) (pv 5) po_none (po_some (pe_op op_modI (pv 6) pe_int)))))))))), ?_⟩
  obtain ⟨ns, ⟨start, m, most⟩, sa, _, rfl, hs, ⟨v2, _, rfl, rfl, v3, _, rfl, rfl, v4, _, rfl, rfl, rfl⟩, ⟨s0, ⟨m0, m6⟩, t0, t9⟩, q⟩ := h
  dsimp only at q s0 m0 m6 t0 t9
  have cn := Int.emod_nonneg (cellF ns start) (show most + 1 ≠ 0 by omega)
  have cl := Int.emod_lt_of_pos (cellF ns start) (show 0 < most + 1 by omega)
  have vl := votBase_len ns start m t0
  -- count
  refine' s_asgI (n := cellF ns start % (most + 1)) (evd_op (ev_cell hs rfl ?a s0) ?b (rd_modI (by omega))) fun H1 e1 => ?_
  case a => wtm_at "ev"
  case b => wtm_at "ev"
  wtm_at "nx"
  have hs1 := ex_l e1 hs
  -- voters
  have eb : (votBase ns start m most).map iD = ((rgI 0 (cellF ns start % (most + 1)).toNat).filter fun _ => true).map fun k => iD (lawOrd (cellF ns (start + 1 + k)) m) := by
    unfold votBase
    rw [List.filter_eq_self.mpr (fun _ _ => rfl), List.map_map]
    rfl
  refine' s_asgNw (ds := (votBase ns start m most).map iD) ?x fun p vs H2 hp e2 k1 k2 => ?_
  case x =>
    rw [eb]
    refine' evn_lcR (n := cellF ns start % (most + 1)) _ _ ?es (by omega) ?turn ?imm
    case es => wtm_at "es"
    case imm => exact fun x _ _ _ => imm_iD _
    case turn =>
      intro x H5 x0 x1 e5
      refine ⟨_, fun Q hq => hq, rfl, et_yes, fun _ => ?_⟩
      refine' ev_order (ev_cell (ex_l e5 hs1) rfl ?a (by omega)) ?b ⟨m0, m6⟩
      case a => wtm_at "ev"
      case b => wtm_at "ev"
  wtm_at "nx"
  have hs2 := ex_l e2 hs1
  have hv : Rp H2 (vD (votBase ns start m most)) (.ref p) := ⟨p, vs, rfl, k1, k2⟩
  -- more
  refine' s_asgI (n := cellF ns start / (most + 1)) (evd_op (ev_cell hs2 rfl ?a s0) ?b (rd_divI ⟨by omega, by omega⟩)) fun H3 e3 => ?_
  case a => wtm_at "ev"
  case b => wtm_at "ev"
  wtm_at "nx"
  have hv3 := hv.ex e3
  have e123 := (e1.trans e2).trans e3
  generalize hmore : cellF ns start / (most + 1) = more
  unfold lawVot at q
  rw [hmore] at q
  refine' s_if (b := decide (more % 8 = 5)) ?t ?yes ?no
  case t => wtm_at "et"
  case yes =>
    intro hb H4 e4
    have hb' : more % 8 = 5 := by simpa using hb
    rw [if_pos hb'] at q
    have d0 := Int.emod_nonneg (more / 8) (show 61 - most ≠ 0 by omega)
    have d1 := Int.emod_lt_of_pos (more / 8) (show 0 < 61 - most by omega)
    have hk : most + more / 8 % (61 - most) = (((most + more / 8 % (61 - most)).toNat : Nat) : Int) := by omega
    refine' s_retNw (ds := cutA (List.replicate (60 : Int).toNat ((votBase ns start m most).map iD)).flatten none (some (((most + more / 8 % (61 - most)).toNat : Nat) : Int))) (evn_slL (evn_rep ?a ?b (by omega) (by rw [List.length_map]; omega)).toD evp_none (evp_some ?c)) fun p2 ws H5 hn e5 g1 g2 => ?_
    case a => exact evd_var rfl (hv3.ex e4)
    case b => wtm_at "ev"
    case c =>
      rw [← hk]
      wtm_at "ev"
    rw [cutA_to] at g2
    refine q p2 ws H5 (fresh_back (e123.trans e4) hn) ((e123.trans e4).trans e5) g1 ?_
    have ef : ∀ n, (List.replicate n ((votBase ns start m most).map iD)).flatten = (List.replicate n (votBase ns start m most)).flatten.map iD := fun n => by
      rw [List.map_flatten, List.map_replicate]
    rw [List.map_take, ← ef]
    exact g2
  case no =>
    intro hb H4 e4
    wtm_at "nx"
    have hb' : ¬ more % 8 = 5 := by simpa using hb
    rw [if_neg hb'] at q
    have d0 := Int.emod_nonneg more (show (4 : Int) ≠ 0 by omega)
    have d1 := Int.emod_lt_of_pos more (show (0 : Int) < 4 by omega)
    have hk : more % 4 = (((more % 4).toNat : Nat) : Int) := by omega
    refine' s_retNw (ds := (votBase ns start m most).map iD ++ cutA ((votBase ns start m most).map iD) none (some (((more % 4).toNat : Nat) : Int))) (evn_cat ?a (evn_slL ?b evp_none (evp_some ?c)).toD ?d) fun p2 ws H5 hn e5 g1 g2 => ?_
    case a => exact evd_var rfl (hv3.ex e4)
    case b => exact evd_var rfl (hv3.ex e4)
    case c =>
      rw [← hk]
      wtm_at "ev"
    case d =>
      rw [cutA_to, List.length_take, List.length_map]
      omega
    rw [cutA_to] at g2
    refine q p2 ws H5 (fresh_back (e123.trans e4) hn) ((e123.trans e4).trans e5) g1 ?_
    rw [List.map_append, List.map_take]
    exact g2
end
theorem ev_voters {K : PySem.W.Frag} {σ : L2.St} {H : Hp} {t1 t2 t3 : TE} {E : XK} {ns : List Int} {sa : Addr} {i : Nat} {start m most : Int} (hs : SqL K H sa (ns.map V.int)) (hi : σ[i]? = some (some (.ref sa))) (h1 : EvD t1 σ H (.int start)) (h2 : EvD t2 σ H (.int m)) (h3 : EvD t3 σ H (.int most))
    (p : 0 ≤ start) (p2 : 0 ≤ m ∧ m ≤ 6) (p3 : 0 ≤ most ∧ most ≤ 30) : EvN (tCall (sp__law_voters K) [] E (tCons (tVar i) (tCons t1 (tCons t2 (tCons t3 tNil))))) σ H ((lawVot ns start m most).map iD) := evn_callS (start, m, most) hs hi (evs_cons h1 (evs_cons h2 (evs_cons h3 evs_nil))) ⟨p, p2, p3⟩ rfl
end Bm

namespace Bm
open PySem PySem.Spec PyProof.Rows L2 Evl
local macro_rules | `(tactic| wtm_at "rp") => `(tactic| first | exact rp_int | exact rp_bl | exact rp_str | exact rp_non | assumption | (refine' Rp.ex ?e ?h; (case h => assumption); (case e => assumption)) | exact Own.rp (by assumption))
local macro_rules | `(tactic| wtm_at "side") => `(tactic| first | assumption | omega | decide | rfl | exact ⟨by omega, by omega⟩)
local macro_rules | `(tactic| wtm_at "es") => `(tactic| first | exact evs_nil | (refine' evs_cons ?a ?b; (case a => wtm_at "ev"); (case b => wtm_at "es")))
local macro_rules | `(tactic| wtm_at "ev") => `(tactic| first
  | exact evd_int | exact evd_str | exact evd_bl | exact evd_non
  | (refine' evd_var rfl ?h; (case h => wtm_at "rp"))
  | ((with_reducible refine' evd_op ?a ?b rd_addI); (case a => wtm_at "ev"); (case b => wtm_at "ev"))
  | ((with_reducible refine' evd_op ?a ?b rd_subI); (case a => wtm_at "ev"); (case b => wtm_at "ev"))
  | ((with_reducible refine' evd_op ?a ?b (rd_mulI ?c)); (case a => wtm_at "ev"); (case b => wtm_at "ev"); (case c => wtm_at "side"))
  | ((with_reducible refine' evd_op ?a ?b (rd_divI ?c)); (case a => wtm_at "ev"); (case b => wtm_at "ev"); (case c => wtm_at "side"))
  | ((with_reducible refine' evd_op ?a ?b (rd_modI ?c)); (case a => wtm_at "ev"); (case b => wtm_at "ev"); (case c => wtm_at "side"))
  | ((with_reducible refine' evd_op ?a ?b rd_ltI); (case a => wtm_at "ev"); (case b => wtm_at "ev"))
  | ((with_reducible refine' evd_op ?a ?b rd_leI); (case a => wtm_at "ev"); (case b => wtm_at "ev"))
  | ((with_reducible refine' evd_op ?a ?b rd_gtI); (case a => wtm_at "ev"); (case b => wtm_at "ev"))
  | ((with_reducible refine' evd_op ?a ?b rd_geI); (case a => wtm_at "ev"); (case b => wtm_at "ev"))
  | ((with_reducible refine' evd_op ?a ?b rd_eqI); (case a => wtm_at "ev"); (case b => wtm_at "ev"))
  | ((with_reducible refine' evd_op ?a ?b rd_neI); (case a => wtm_at "ev"); (case b => wtm_at "ev"))
  | ((with_reducible refine' evd_op ?a ?b rd_eqB); (case a => wtm_at "ev"); (case b => wtm_at "ev"))
  | ((with_reducible refine' evd_op ?a ?b rd_neB); (case a => wtm_at "ev"); (case b => wtm_at "ev"))
  | ((with_reducible refine' evd_op ?a ?b rd_isNo); (case a => wtm_at "ev"); (case b => wtm_at "ev"))
  | ((with_reducible refine' evd_op ?a ?b rd_notNo); (case a => wtm_at "ev"); (case b => wtm_at "ev"))
  | ((with_reducible refine' evd_op ?a ?b rd_inIL); (case a => wtm_at "ev"); (case b => wtm_at "ev"))
  | ((with_reducible refine' evd_op ?a ?b rd_niIL); (case a => wtm_at "ev"); (case b => wtm_at "ev"))
  | ((with_reducible refine' evd_op ?a ?b rd_inID); (case a => wtm_at "ev"); (case b => wtm_at "ev"))
  | ((with_reducible refine' evd_op ?a ?b rd_niID); (case a => wtm_at "ev"); (case b => wtm_at "ev"))
  | ((with_reducible refine' evd_neg ?a); (case a => wtm_at "ev"))
  | ((with_reducible refine' evd_tix ?a ?b ?c); (case a => wtm_at "ev"); (case b => wtm_at "ev"); (case c => wtm_at "side"))
  | ((with_reducible refine' evd_tup ?a ?b); (case a => wtm_at "es"); (case b => exact Nat.le_of_ble_eq_true rfl))
  | ((with_reducible refine' evd_cb ?a cd_lenL); (case a => wtm_at "es"))
  | ((with_reducible refine' evd_cb ?a cd_lenT); (case a => wtm_at "es"))
  | ((with_reducible refine' evd_cb ?a cd_intB); (case a => wtm_at "es"))
  | ((with_reducible refine' evd_cb ?a cd_tupL); (case a => wtm_at "es"))
  | ((with_reducible refine' evd_and ?a ?b); (case a => wtm_at "ev"); (case b => intro _; wtm_at "ev"))
  | ((with_reducible refine' evd_or ?a ?b); (case a => wtm_at "ev"); (case b => intro _; wtm_at "ev"))
  | ((with_reducible refine' evd_not ?a); (case a => wtm_at "ev"))
  | ((with_reducible refine' evd_op ?a ?b rd_neIL); (case a => wtm_at "ev"); (case b => wtm_at "ev"))
  | ((with_reducible refine' evd_op ?a ?b rd_eqIL); (case a => wtm_at "ev"); (case b => wtm_at "ev"))
  | ((with_reducible refine' EvN.toD ?a); (case a => wtm_at "en")))
local macro_rules | `(tactic| wtm_at "en") => `(tactic| first
  | ((with_reducible refine' evn_cb ?a cn_sortTI); (case a => wtm_at "es"))
  | ((with_reducible refine' evn_cb ?a cn_listL); (case a => wtm_at "es"))
  | ((with_reducible refine' evn_cb ?a cn_listT); (case a => wtm_at "es"))
  | ((with_reducible refine' evn_rng ?a ?b); (case a => wtm_at "ev"); (case b => wtm_at "side"))
  | ((with_reducible refine' evn_lst ?a ?b); (case a => wtm_at "es"); (case b => exact Nat.le_of_ble_eq_true rfl))
  | ((with_reducible refine' evn_cat ?a ?b ?c); (case a => wtm_at "ev"); (case b => wtm_at "ev"); (case c => wtm_at "side"))
  | ((with_reducible refine' evn_slL ?a ?b ?c); (case a => wtm_at "ev"); (case b => first | exact evp_none | (refine' evp_some ?d; (case d => wtm_at "ev"))); (case c => first | exact evp_none | (refine' evp_some ?d; (case d => wtm_at "ev")))))
local macro_rules | `(tactic| wtm_at "et") => `(tactic| first
  | exact et_yes
  | (refine' ett ?a; (case a => wtm_at "ev"))
  | (refine' etB ?a; (case a => wtm_at "ev"))
  | (refine' et_and ?a ?b; (case a => wtm_at "et"); (case b => intro _; wtm_at "et"))
  | (refine' et_or ?a ?b; (case a => wtm_at "et"); (case b => intro _; wtm_at "et"))
  | (refine' et_not ?a; (case a => wtm_at "et")))
local macro_rules | `(tactic| wtm_at "nx") => `(tactic| try dsimp only [tSeq, tNext])
/-! ### spoiled and odd texts: any text of small signs -/
def AnyT (H : Hp) (Q : VK) : Prop := ∀ z : Str, Asc z → z.length ≤ 40000 → ∀ H', Ex H H' → Q (.str z) H'
def EvZ (te : TE) (σ : L2.St) (H : Hp) : Prop := ∀ H1, Ex H H1 → ∀ Q : VK, (∀ (z : Str) H2, Asc z → z.length ≤ 40000 → Ex H1 H2 → Q (.str z) H2) → te σ H1 Q
theorem s_asgZ {i : Nat} {te : TE} {D : Ends} {σ : L2.St} {H : Hp} (h : EvZ te σ H) (k : ∀ (z : Str) H1, Asc z → z.length ≤ 40000 → Ex H H1 → D.nx (σ.set i (some (.str z))) H1) : tAsg te (gName i) D σ H := h H (Ex.refl H) _ fun z H1 a l e => k z H1 a l e
def sumL (ws : List Str) : Nat := (ws.map (·.length)).sum
theorem spl_sum (S : List Nat) : ∀ (l : List Nat) (k : Nat) (acc : List Nat), ((TL.spl S k acc l).map List.length).sum ≤ acc.length + l.length
  | [], k, acc => by
    rw [TL.spl_nil]
    simp
  | c :: r, k + 1, acc => Nat.le_succ_of_le (spl_sum S r k acc)
  | c :: r, 0, acc => by
    cases e : TL.pre S (c :: r) with
    | true =>
      rw [TL.spl_hit e, List.map_cons, List.sum_cons]
      have := spl_sum S r (S.length - 1) []
      simp only [List.length_nil, List.length_cons] at *
      omega
    | false =>
      rw [TL.spl_miss e]
      have := spl_sum S r 0 (acc ++ [c])
      rw [List.length_append] at this
      simp only [List.length_nil, List.length_cons] at *
      omega
theorem split_sum (a : Str) : sumL (Txt.split a " ") ≤ a.length := by
  have e : (Txt.split a " ").map tL = TL.spl (tL " ") 0 [] (tL a) := TL.split_spl a " " (by decide +kernel) (TL.kind_ok (by decide +kernel))
  have := spl_sum (tL " ") (tL a) 0 []
  rw [← e, List.map_map, tL_len] at this
  have e2 : (Txt.split a " ").map (List.length ∘ tL) = (Txt.split a " ").map (·.length) := List.map_congr_left fun w _ => tL_len w
  rw [e2, List.length_nil, Nat.zero_add] at this
  exact this
theorem sumL_app (a b : List Str) : sumL (a ++ b) = sumL a + sumL b := by
  unfold sumL
  rw [List.map_append, List.sum_append]
theorem sumL_sub {a b : List Str} (h : a.Sublist b) : sumL a ≤ sumL b := by
  induction h with
  | slnil => exact Nat.le_refl _
  | cons x _ ih =>
    show _ ≤ (List.map (·.length) (x :: _)).sum
    rw [List.map_cons, List.sum_cons]
    exact Nat.le_trans ih (Nat.le_add_left _ _)
  | cons_cons x _ ih =>
    show (List.map (·.length) (x :: _)).sum ≤ (List.map (·.length) (x :: _)).sum
    rw [List.map_cons, List.sum_cons, List.map_cons, List.sum_cons]
    exact Nat.add_le_add_left ih _
theorem sumL_set (w : Str) : ∀ (ws : List Str) (j : Nat), sumL (ws.set j w) ≤ sumL ws + w.length
  | [], j => by simp [sumL]
  | x :: ws, 0 => by simp [sumL]; omega
  | x :: ws, j + 1 => by
    have := sumL_set w ws j
    simp [sumL] at *
    omega
theorem join_sum {a : Str} : ∀ {ys : List Str}, (Txt.join a ys).length ≤ sumL ys + ys.length * a.length := fun {ys} => by
  rw [TL.join_eq]
  induction ys with
  | nil => exact Nat.zero_le _
  | cons x ys ih =>
    cases ys with
    | nil =>
      simp [sumL, Str.join]
    | cons y ys =>
      show (x ++ a ++ Str.join a (y :: ys)).length ≤ _
      rw [PySem.Str.length_append, PySem.Str.length_append, List.length_cons (a := x), Nat.succ_mul]
      have e : sumL (x :: y :: ys) = x.length + sumL (y :: ys) := by simp [sumL]
      rw [e]
      omega
def WOk (ws : List Str) : Prop := (∀ w ∈ ws, Asc w) ∧ sumL ws + ws.length ≤ 39000
theorem asc_lit {z : Str} (h : (tL z).all (fun c => decide (c < 128)) = true) : Asc z := fun c hc => by simpa using List.all_eq_true.mp h c hc
theorem pick17 {xs : List Nat} (h : xs.length = 17) (k : Int) : ∃ c, atI xs (k % 17) = some c ∧ c ∈ xs := by
  have h1 := Int.emod_nonneg k (show (17 : Int) ≠ 0 by omega)
  have h2 := Int.emod_lt_of_pos k (show (0 : Int) < 17 by omega)
  have hj : (k % 17).toNat < xs.length := by omega
  refine ⟨xs[(k % 17).toNat], ?_, List.getElem_mem hj⟩
  conv => lhs; rw [show k % 17 = (((k % 17).toNat : Nat) : Int) by omega]
  exact atI_nat (List.getElem?_eq_getElem hj)
def sp__law_spoiled : Sp := fun vs H Q _ => ∃ a : Str × Int × Int × Int, RpA H [.str a.1, .int a.2.1, .int a.2.2.1, .int a.2.2.2] vs ∧ (Asc a.1 ∧ a.1.length ≤ 600) ∧ AnyT H Q
theorem len__law_spoiled (vs : List V) (H : Hp) (Q : VK) (E : XK) (h : sp__law_spoiled vs H Q E) : vs.length = 4 := by
  unfold sp__law_spoiled at h
  obtain ⟨a, r, _⟩ := h
  rw [r.len]
  rfl
section
variable {P : Program} {w : World} {K : PySem.W.Frag} {mg : Str → Option Value} {base : Heap}
theorem ok__law_spoiled {f : Addr} {fd : FuncData} (D : Df K mg "_law_spoiled" s__law_spoiled ["text", "way", "cell", "other"] f fd) (Bi : Bi mg) : FnOk P w K mg base CX0 1 f fd ["text", "way", "cell", "other"] sp__law_spoiled := by
  refine D.F.ok c__law_spoiled (fun vs H Q E h => len__law_spoiled _ _ _ _ h) (fun cdv A outer s H vs Q E hr h => ?_)
  refine ⟨_, (pss_cons (ps_set (i := 4) c__law_spoiled.nd rfl (.inl rfl) (pe_ix ix_str pe_str (pe_op op_modI (pv 3) pe_int) (fun _ _ => rfl)))
      (pss_cons (ps_set (i := 5) c__law_spoiled.nd rfl (.inl rfl) (pe_op op_modI (pv 2) (pe_op op_addI (pe_callB cr_lenT (by rfl) Bi.len (by decide +kernel) (pa_cons (pv 0) pa_nil)) pe_int)))
      (pss_cons (ps_set (i := 6) c__law_spoiled.nd rfl (.inl rfl) (pe_m1 PySem.F.slot_str_split PySem.F.type_str_split mt_splitK (pv 0) pe_str))
      (pss_cons (ps_set (i := 7) c__law_spoiled.nd rfl (.inl rfl) (pe_op op_modI (pv 2) (pe_callB (cr_lenK (K := K)) (by rfl) Bi.len (by decide +kernel) (pa_cons (pv 6) pa_nil))))
      (pss_cons (ps_if (pt_cmpR op_eqI (pv 1) pe_int (nomark _))
      (pss_one (ps_ret (pe_op op_addT (pe_op op_addT (pe_slice sl_str (pv 0) po_none (po_some (pv 5))) (pv 4)) (pe_slice sl_str (pv 0) (po_some (pv 5)) po_none))))
      pss_nil)
      (pss_cons (ps_if (pt_cmpR op_eqI (pv 1) pe_int (nomark _))
      (pss_one (ps_ret (pe_op op_addT (pe_op op_addT (pe_slice sl_str (pv 0) po_none (po_some (pv 5))) (pv 4)) (pe_slice sl_str (pv 0) (po_some (pe_op op_addI (pv 5) pe_int)) po_none))))
      pss_nil)
      (pss_cons (ps_if (pt_cmpR op_eqI (pv 1) pe_int (nomark _))
      (pss_one (ps_ret (pe_op op_addT (pe_slice sl_str (pv 0) po_none (po_some (pv 5))) (pe_slice sl_str (pv 0) (po_some (pe_op op_addI (pv 5) pe_int)) po_none))))
      pss_nil)
      (pss_cons (ps_if (pt_cmpR op_eqI (pv 1) pe_int (nomark _))
      (pss_one (ps_set (i := 6) c__law_spoiled.nd rfl (.inl rfl) (pe_op op_cat (pe_slice (sl_listK (K := K)) (pv 6) po_none (po_some (pv 7))) (pe_slice (sl_listK (K := K)) (pv 6) (po_some (pe_op op_addI (pv 7) pe_int)) po_none))))
      pss_nil)
      (pss_cons (ps_if (pt_cmpR op_eqI (pv 1) pe_int (nomark _))
      (pss_one (ps_set (i := 6) c__law_spoiled.nd rfl (.inl rfl) (pe_op op_cat (pe_slice (sl_listK (K := K)) (pv 6) po_none (po_some (pe_op op_addI (pv 7) pe_int))) (pe_slice (sl_listK (K := K)) (pv 6) (po_some (pv 7)) po_none))))
      pss_nil)
      (pss_cons (ps_if (pt_cmpR op_eqI (pv 1) pe_int (nomark _))
      (pss_one (ps_asg (pe_m1 PySem.F.slot_str_join PySem.F.type_str_join (mt_joinK (K := K)) pe_str (pe_lc (own := [("sign", 4)]) (g := (gName 4)) (tt := tYes) rfl c__law_spoiled.nd (pi_revS (by rfl) Bi.reversed (pe_ix (ix_listK (K := K)) (pv 6) (pv 7) (fun _ _ => rfl))) (blkOk_by (own := [("sign", 4)]) (N := ["text", "way", "cell", "other", "sign", "at", "words", "spot"]) (sc := defScope s__law_spoiled) (by decide +kernel)) (fun _ _ _ _ _ => (pg_name (i := 4) c__law_spoiled.nd rfl (.inl rfl))) (fun _ _ _ _ _ => pts_nil) (fun _ _ _ _ _ => (pv 4)))) (pg_sub (pv 6) (pv 7) set_list)))
      pss_nil)
      (pss_cons (ps_if (pt_cmpR op_eqI (pv 1) pe_int (nomark _))
      (pss_one (ps_asg (pe_op op_addT (pe_slice sl_str (pe_ix (ix_listK (K := K)) (pv 6) (pv 7) (fun _ _ => rfl)) po_none (po_some pe_int)) (pe_ix (ix_listK (K := K)) (pv 6) (pv 7) (fun _ _ => rfl))) (pg_sub (pv 6) (pv 7) set_list)))
      pss_nil)
      (pss_cons (ps_if (pt_cmpR op_eqI (pv 1) pe_int (nomark _))
      (pss_one (ps_set (i := 6) c__law_spoiled.nd rfl (.inl rfl) (pe_op op_cat (pe_slice (sl_listK (K := K)) (pv 6) po_none (po_some pe_int)) (pe_slice (sl_listK (K := K)) (pe_op op_rep (pe_slice (sl_listK (K := K)) (pv 6) (po_some pe_int) po_none) pe_int) po_none (po_some (pe_op op_addI pe_int (pe_op op_modI (pv 3) pe_int)))))))
      pss_nil)
      (pss_one (ps_ret (pe_m1 PySem.F.slot_str_join PySem.F.type_str_join (mt_joinK (K := K)) pe_str (pv 6)))))))))))))))), ?_⟩
  obtain ⟨⟨t, way, cell, other⟩, ⟨v1, _, rfl, rfl, v2, _, rfl, rfl, v3, _, rfl, rfl, v4, _, rfl, rfl, rfl⟩, ⟨ht, hl⟩, q⟩ := h
  dsimp only at ht hl
  obtain ⟨c, hc, hcm⟩ := pick17 (xs := tL "0123456789 :-a+_\n") (by decide +kernel) other
  have hc128 : c < 128 := by
    have : ∀ x ∈ tL "0123456789 :-a+_\n", x < 128 := by decide +kernel
    exact this c hcm
  have hsg : Asc (sg1 c) := fun x hx => by
    have : x = c := by simpa using hx
    omega
  refine' s_asgT (b := sg1 c) (evd_op evd_str (evd_op (evd_var rfl rp_int) evd_int (rd_modI (by decide))) (rd_ixS (w := "0123456789 :-a+_\n") (by decide +kernel) hc)) fun H1 e1 => ?_
  wtm_at "nx"
  have a0 := Int.emod_nonneg cell (show (t.length : Int) + 1 ≠ 0 by omega)
  have a1 := Int.emod_lt_of_pos cell (show 0 < (t.length : Int) + 1 by omega)
  refine' s_asgI (n := cell % ((t.length : Int) + 1)) (evd_op (evd_var rfl rp_int) (evd_op (evd_cb (evs_cons (evd_var rfl rp_str) evs_nil) (cd_lenS (by omega))) evd_int rd_addI) (rd_modI (by omega))) fun H2 e2 => ?_
  wtm_at "nx"
  generalize cell % ((t.length : Int) + 1) = at_ at a0 a1
  obtain ⟨w1, w2, w3⟩ := split_facts t
  have w4 := split_sum t
  have w5 := asc_split ht
  refine' s_asgO (evn_split (a := t) (b := " ") (evd_var rfl rp_str) evd_str (by decide +kernel) (by omega)) (imm_strs _) fun p0 H3 e3 o3 => ?_
  wtm_at "nx"
  generalize Txt.split t " " = ws0 at w1 w2 w3 w4 w5 o3
  have n0 : 0 < ws0.length := by
    rcases ws0 with _ | ⟨x, xs⟩
    · exact absurd rfl w1
    · exact Nat.succ_pos _
  have s0 := Int.emod_nonneg cell (show (ws0.length : Int) ≠ 0 by omega)
  have s1 := Int.emod_lt_of_pos cell (show 0 < (ws0.length : Int) by omega)
  have lz : EvD (tCB (rLenS K) (tCons (tVar 6) tNil)) [some (V.str t), some (.int way), some (.int cell), some (.int other), some (.str (sg1 c)), some (.int at_), some (.ref p0), none] H3 (.int (ws0.map PyData.str).length) := evd_cb (evs_cons (evd_var rfl o3.rp) evs_nil) cd_lenL
  rw [List.length_map] at lz
  obtain ⟨j, hj⟩ : ∃ j : Nat, cell % (ws0.length : Int) = (j : Int) := ⟨(cell % (ws0.length : Int)).toNat, by omega⟩
  refine' s_asgI (n := (j : Int)) ((evd_op (evd_var rfl rp_int) lz (rd_modI (by omega))).is (by rw [hj])) fun H4 e4 => ?_
  wtm_at "nx"
  rw [hj] at s1
  have hj1 : j < ws0.length := by omega
  have e3' := e1.trans e2
  have o4 : Own H H4 p0 (ws0.map .str) := (o3.step e4).lower e3'
  have b0 : WOk ws0 := ⟨w5, by omega⟩
  have cl := cutS_length t
  have bck : ∀ lo hi, Asc (cutS t lo hi) := fun lo hi => asc_cut ht lo hi
  have sgl : (sg1 c).length = 1 := rfl
  have one : ∀ (x : Int) (H5 : Hp) (σ : L2.St), σ[1]? = some (some (.int way)) → EvT (tTest (tOp rEqI (tVar 1) (tC (.int x)))) σ H5 (decide (way = x)) := fun x H5 σ s1 => ett (evd_op (evd_var s1 rp_int) evd_int rd_eqI)
  refine' s_if (b := decide (way = 1)) (one 1 _ _ rfl) (fun hb H5 e5 => ?_) (fun hb1 H5 e5 => ?_)
  · have c1 := cl none (some at_)
    have c2 := cl (some at_) none
    refine s_retD (evd_op (evd_op (evd_slS (evd_var rfl rp_str) evp_none (evp_some (evd_var rfl rp_int)) (by omega)) (evd_var rfl rp_str) (rd_addT (by omega))) (evd_slS (evd_var rfl rp_str) (evp_some (evd_var rfl rp_int)) evp_none (by omega)) (rd_addT (by rw [PySem.Str.length_append]; omega))) fun v H6 e6 r => ?_
    obtain rfl : v = _ := r
    exact q _ (asc_app (asc_app (bck _ _) hsg) (bck _ _)) (by rw [PySem.Str.length_append, PySem.Str.length_append]; omega) H6 ((o4.ex.trans e5).trans e6)
  wtm_at "nx"
  refine' s_if (b := decide (way = 2)) (one 2 _ _ rfl) (fun hb H6 e6 => ?_) (fun hb2 H6 e6 => ?_)
  · have c1 := cl none (some at_)
    have c2 := cl (some (at_ + 1)) none
    refine s_retD (evd_op (evd_op (evd_slS (evd_var rfl rp_str) evp_none (evp_some (evd_var rfl rp_int)) (by omega)) (evd_var rfl rp_str) (rd_addT (by omega))) (evd_slS (evd_var rfl rp_str) (evp_some (evd_op (evd_var rfl rp_int) evd_int rd_addI)) evp_none (by omega)) (rd_addT (by rw [PySem.Str.length_append]; omega))) fun v H7 e7 r => ?_
    obtain rfl : v = _ := r
    exact q _ (asc_app (asc_app (bck _ _) hsg) (bck _ _)) (by rw [PySem.Str.length_append, PySem.Str.length_append]; omega) H7 (((o4.ex.trans e5).trans e6).trans e7)
  wtm_at "nx"
  refine' s_if (b := decide (way = 3)) (one 3 _ _ rfl) (fun hb H7 e7 => ?_) (fun hb3 H7 e7 => ?_)
  · have c1 := cl none (some at_)
    have c2 := cl (some (at_ + 1)) none
    refine s_retD (evd_op (evd_slS (evd_var rfl rp_str) evp_none (evp_some (evd_var rfl rp_int)) (by omega)) (evd_slS (evd_var rfl rp_str) (evp_some (evd_op (evd_var rfl rp_int) evd_int rd_addI)) evp_none (by omega)) (rd_addT (by omega))) fun v H8 e8 r => ?_
    obtain rfl : v = _ := r
    exact q _ (asc_app (bck _ _) (bck _ _)) (by rw [PySem.Str.length_append]; omega) H8 ((((o4.ex.trans e5).trans e6).trans e7).trans e8)
  wtm_at "nx"
  have o7 := ((o4.step e5).step e6).step e7
  -- the words
  refine joinK (A := Addr) (fun p => [some (V.str t), some (.int way), some (.int cell), some (.int other), some (.str (sg1 c)), some (.int at_), some (.ref p), some (.int (j : Int))]) (fun p H' => ∃ ws, Own H H' p (ws.map .str) ∧ WOk ws ∧ (4 < way → ws = ws0)) (fun p H8 => ?_) fun cont => ?_
  rotate_left
  · refine' s_if (b := decide (way = 4)) (one 4 _ _ rfl) (fun hb H8 e8 => ?_) (fun hb H8 e8 => cont p0 H8 ⟨ws0, o7.step e8, b0, fun _ => rfl⟩)
    have hb : way = 4 := by simpa using hb
    have o8 := o7.step e8
    have ed : cutA (ws0.map PyData.str) none (some (j : Int)) ++ cutA (ws0.map PyData.str) (some ((j : Int) + 1)) none = (ws0.take j ++ ws0.drop (j + 1)).map .str := by
      rw [show (j : Int) + 1 = ((j + 1 : Nat) : Int) by omega, cutA_to, cutA_from, List.map_append, List.map_take, List.map_drop]
    refine' s_asgO ((evn_cat (evn_slL (evd_var rfl o8.rp) evp_none (evp_some (evd_var rfl rp_int))).toD (evn_slL (evd_var rfl o8.rp) (evp_some (evd_op (evd_var rfl rp_int) evd_int rd_addI)) evp_none).toD ?sz).is ed) (imm_strs _) fun p H9 e9 o9 => cont p H9 ⟨_, o9.lower o8.ex, ⟨fun w hw => ?_, ?_⟩, fun h => by omega⟩
    case sz =>
      have := congrArg List.length ed
      rw [List.length_append, List.length_map, List.length_append, List.length_take, List.length_drop] at this
      omega
    · rcases List.mem_append.mp hw with hw | hw
      · exact w5 w (List.mem_of_mem_take hw)
      · exact w5 w (List.mem_of_mem_drop hw)
    · rw [sumL_app, List.length_append, List.length_take, List.length_drop]
      have := sumL_sub (List.take_sublist j ws0)
      have := sumL_sub (List.drop_sublist (j + 1) ws0)
      omega
  rintro ⟨ws, o8, b8, k8⟩
  wtm_at "nx"
  refine joinK (A := Addr) (fun p => [some (V.str t), some (.int way), some (.int cell), some (.int other), some (.str (sg1 c)), some (.int at_), some (.ref p), some (.int (j : Int))]) (fun p H' => ∃ ws, Own H H' p (ws.map .str) ∧ WOk ws ∧ (5 < way → ws = ws0)) (fun p9 H9 => ?_) fun cont => ?_
  rotate_left
  · refine' s_if (b := decide (way = 5)) (one 5 _ _ rfl) (fun hb H9 e9 => ?_) (fun hb H9 e9 => cont p H9 ⟨ws, o8.step e9, b8, fun h => k8 (by omega)⟩)
    have hb : way = 5 := by simpa using hb
    obtain rfl := k8 (by omega)
    have o9 := o8.step e9
    have ed : cutA (ws.map PyData.str) none (some ((j : Int) + 1)) ++ cutA (ws.map PyData.str) (some (j : Int)) none = (ws.take (j + 1) ++ ws.drop j).map .str := by
      rw [show (j : Int) + 1 = ((j + 1 : Nat) : Int) by omega, cutA_to, cutA_from, List.map_append, List.map_take, List.map_drop]
    refine' s_asgO ((evn_cat (evn_slL (evd_var rfl o9.rp) evp_none (evp_some (evd_op (evd_var rfl rp_int) evd_int rd_addI))).toD (evn_slL (evd_var rfl o9.rp) (evp_some (evd_var rfl rp_int)) evp_none).toD ?sz5).is ed) (imm_strs _) fun p H10 e10 o10 => cont p H10 ⟨_, o10.lower o9.ex, ⟨fun w hw => ?_, ?_⟩, fun h => by omega⟩
    case sz5 =>
      have := congrArg List.length ed
      rw [List.length_append, List.length_map, List.length_append, List.length_take, List.length_drop] at this
      omega
    · rcases List.mem_append.mp hw with hw | hw
      · exact w5 w (List.mem_of_mem_take hw)
      · exact w5 w (List.mem_of_mem_drop hw)
    · rw [sumL_app, List.length_append, List.length_take, List.length_drop]
      have := sumL_sub (List.take_sublist (j + 1) ws)
      have := sumL_sub (List.drop_sublist j ws)
      omega
  clear k8 b8 o8 ws
  rintro ⟨ws, o9, b9, k9⟩
  wtm_at "nx"
  have ixj : ∀ {ds : List Str} {σ : L2.St} {H5 : Hp} {pp : Addr}, ds = ws0 → Own H H5 pp (ds.map .str) → σ[6]? = some (some (.ref pp)) → σ[7]? = some (some (.int (j : Int))) → EvD (tOp (rIxL K) (tVar 6) (tVar 7)) σ H5 (.str ws0[j]) := fun {ds σ H5 pp} eds o s6 s7 => by
    subst eds
    exact evd_op (evd_var s6 o.rp) (evd_var s7 rp_int) (rd_ixL (atI_nat (by rw [List.getElem?_map, List.getElem?_eq_getElem hj1]; rfl)))
  have ixn : ∀ {ds : List Str}, ds = ws0 → ixN (ds.map PyData.str).length (j : Int) = some j := fun {ds} eds => by
    subst eds
    rw [List.length_map]
    unfold ixN
    rw [if_pos (by omega), if_pos (by omega)]
    rfl
  have wl : ws0[j].length ≤ 600 := Nat.le_trans (w3 _ (List.getElem_mem hj1)) hl
  have wa : Asc ws0[j] := w5 _ (List.getElem_mem hj1)
  refine joinK (A := Unit) (fun _ => [some (V.str t), some (.int way), some (.int cell), some (.int other), some (.str (sg1 c)), some (.int at_), some (.ref p9), some (.int (j : Int))]) (fun _ H' => ∃ ws, Own H H' p9 (ws.map .str) ∧ WOk ws ∧ (6 < way → ws = ws0)) (fun _ H10 => ?_) fun cont => ?_
  rotate_left
  · refine' s_if (b := decide (way = 6)) (one 6 _ _ rfl) (fun hb H10 e10 => ?_) (fun hb H10 e10 => cont () H10 ⟨ws, o9.step e10, b9, fun h => k9 (by omega)⟩)
    have hb : way = 6 := by simpa using hb
    have ew := k9 (by omega)
    have o10 := o9.step e10
    have l0 : ("" : Str).length = 0 := by decide +kernel
    have hjoin : Asc (Txt.join "" ((tL ws0[j]).reverse.map sg1)) ∧ (Txt.join "" ((tL ws0[j]).reverse.map sg1)).length ≤ 600 := by
      refine ⟨asc_join (asc_lit (by decide +kernel)) fun y hy => ?_, ?_⟩
      · obtain ⟨x, hx, rfl⟩ := List.mem_map.mp hy
        intro z hz
        have : z = x := by simpa using hz
        rw [this]
        exact wa x (List.mem_reverse.mp hx)
      · have := join_len (a := ("" : Str)) (B := 1) (ys := (tL ws0[j]).reverse.map sg1) fun y hy => by
          obtain ⟨x, _, rfl⟩ := List.mem_map.mp hy
          exact Nat.le_refl _
        rw [l0, List.length_map, List.length_reverse, tL_len] at this
        omega
    refine s_setO (d := .str (Txt.join "" ((tL ws0[j]).reverse.map sg1))) (q := fun _ _ => True) o10 rfl (evd_join (ys := (tL ws0[j]).reverse.map sg1) evd_str ((EvN.toD (evn_revS (z := ws0[j]) (fun c => .str (sg1 c)) (ixj ew o10 rfl rfl) (by omega) (fun x H11 hc e11 => ⟨[some (V.str t), some (.int way), some (.int cell), some (.int other), some (.str (sg1 x)), some (.int at_), some (.ref p9), some (.int (j : Int))], fun Q hq => hq, rfl, evd_var rfl rp_str⟩) fun _ _ => rfl)).is (by rw [List.map_map]; rfl)) ?js) (evd_var rfl rp_int) rfl (ixn ew) fun H11 x11 o11 => cont () H11 ⟨ws.set j (Txt.join "" ((tL ws0[j]).reverse.map sg1)), by rw [List.map_set]; exact o11, ⟨fun w hw => ?_, ?_⟩, fun h => by omega⟩
    case js =>
      have := sum_le (B := 1) (ys := (tL ws0[j]).reverse.map sg1) fun y hy => by
        obtain ⟨x, _, rfl⟩ := List.mem_map.mp hy
        exact Nat.le_refl _
      rw [l0]
      rw [List.length_map, List.length_reverse, tL_len] at this
      omega
    · rcases List.mem_or_eq_of_mem_set hw with hw | rfl
      · exact b9.1 w hw
      · exact hjoin.1
    · have := sumL_set (Txt.join "" ((tL ws0[j]).reverse.map sg1)) ws j
      rw [List.length_set]
      subst ew
      omega
  clear k9 b9 o9 ws
  rintro ⟨ws, o10, b10, k10⟩
  wtm_at "nx"
  refine joinK (A := Unit) (fun _ => [some (V.str t), some (.int way), some (.int cell), some (.int other), some (.str (sg1 c)), some (.int at_), some (.ref p9), some (.int (j : Int))]) (fun _ H' => ∃ ws, Own H H' p9 (ws.map .str) ∧ WOk ws ∧ (7 < way → ws = ws0)) (fun _ H11 => ?_) fun cont => ?_
  rotate_left
  · refine' s_if (b := decide (way = 7)) (one 7 _ _ rfl) (fun hb H11 e11 => ?_) (fun hb H11 e11 => cont () H11 ⟨ws, o10.step e11, b10, fun h => k10 (by omega)⟩)
    have hb : way = 7 := by simpa using hb
    have ew := k10 (by omega)
    have o11 := o10.step e11
    have cw := cutS_length ws0[j] none (some 1)
    refine s_setO (d := .str (cutS ws0[j] none (some 1) ++ ws0[j])) (q := fun _ _ => True) o11 rfl (evd_op (evd_slS (ixj ew o11 rfl rfl) evp_none (evp_some evd_int) (by omega)) (ixj ew o11 rfl rfl) (rd_addT (by omega))) (evd_var rfl rp_int) rfl (ixn ew) fun H12 x12 o12 => cont () H12 ⟨ws.set j (cutS ws0[j] none (some 1) ++ ws0[j]), by rw [List.map_set]; exact o12, ⟨fun w hw => ?_, ?_⟩, fun h => by omega⟩
    · rcases List.mem_or_eq_of_mem_set hw with hw | rfl
      · exact b10.1 w hw
      · exact asc_app (asc_cut wa _ _) wa
    · have := sumL_set (cutS ws0[j] none (some 1) ++ ws0[j]) ws j
      rw [PySem.Str.length_append] at this
      rw [List.length_set]
      subst ew
      omega
  clear k10 b10 o10 ws
  rintro ⟨ws, o11, b11, k11⟩
  wtm_at "nx"
  refine joinK (A := Addr) (fun p => [some (V.str t), some (.int way), some (.int cell), some (.int other), some (.str (sg1 c)), some (.int at_), some (.ref p), some (.int (j : Int))]) (fun p H' => ∃ ws, Own H H' p (ws.map .str) ∧ WOk ws) (fun p12 H12 => ?_) fun cont => ?_
  rotate_left
  · refine' s_if (b := decide (way = 8)) (one 8 _ _ rfl) (fun hb H12 e12 => ?_) (fun hb H12 e12 => cont p9 H12 ⟨ws, o11.step e12, b11⟩)
    have hb : way = 8 := by simpa using hb
    obtain rfl := k11 (by omega)
    have o12 := o11.step e12
    have m0 := Int.emod_nonneg other (show (2 : Int) ≠ 0 by omega)
    have m1 := Int.emod_lt_of_pos other (show (0 : Int) < 2 by omega)
    obtain ⟨k, hk, hk2⟩ : ∃ k : Nat, (60 : Int) + other % 2 = (k : Int) ∧ k ≤ 61 := ⟨((60 : Int) + other % 2).toNat, by omega, by omega⟩
    have ed : cutA (ws.map PyData.str) none (some ((1 : Nat) : Int)) ++ cutA (List.replicate (61 : Int).toNat (cutA (ws.map PyData.str) (some ((1 : Nat) : Int)) none)).flatten none (some (60 + other % 2)) = (ws.take 1 ++ (List.replicate 61 (ws.drop 1)).flatten.take k).map .str := by
      rw [hk, cutA_to, cutA_to, cutA_from, List.map_append, List.map_take, List.map_take, List.map_flatten, List.map_replicate, List.map_drop]
      rfl
    have mem : ∀ w ∈ (List.replicate 61 (ws.drop 1)).flatten.take k, w ∈ ws := fun w hw => by
      obtain ⟨l, h3, h4⟩ := List.mem_flatten.mp (List.mem_of_mem_take hw)
      rw [(List.mem_replicate.mp h3).2] at h4
      exact List.mem_of_mem_drop h4
    have hlen : ((List.replicate 61 (ws.drop 1)).flatten.take k).length ≤ 61 := by rw [List.length_take]; omega
    refine' s_asgO ((evn_cat (evn_slL (evd_var rfl o12.rp) evp_none (evp_some evd_int)).toD (evn_slL (evn_rep (k := 61) (evn_slL (evd_var rfl o12.rp) (evp_some evd_int) evp_none).toD evd_int (by omega) ?rp).toD evp_none (evp_some (evd_op evd_int (evd_op (evd_var rfl rp_int) evd_int (rd_modI (by decide))) rd_addI))).toD ?sz8).is ed) (imm_strs _) fun p H13 e13 o13 => cont p H13 ⟨_, o13.lower o12.ex, ⟨fun w hw => ?_, ?_⟩⟩
    case rp =>
      show (cutA (ws.map PyData.str) (some ((1 : Nat) : Int)) none).length ≤ 1000
      rw [cutA_from, List.length_drop, List.length_map]
      omega
    case sz8 =>
      have := congrArg List.length ed
      rw [List.length_append, List.length_map, List.length_append, List.length_take] at this
      refine Nat.le_trans (Nat.le_of_eq this) ?_
      omega
    · rcases List.mem_append.mp hw with hw | hw
      · exact w5 w (List.mem_of_mem_take hw)
      · exact w5 w (mem w hw)
    · rw [sumL_app, List.length_append, List.length_take]
      have h1 := sumL_sub (List.take_sublist 1 ws)
      have h2 : sumL ((List.replicate 61 (ws.drop 1)).flatten.take k) ≤ ((List.replicate 61 (ws.drop 1)).flatten.take k).length * 600 := sum_le fun y hy => Nat.le_trans (w3 y (mem y hy)) hl
      omega
  rintro ⟨ws2, o12, b12⟩
  wtm_at "nx"
  have l1 : (" " : Str).length = 1 := by decide +kernel
  have js := join_sum (a := (" " : Str)) (ys := ws2)
  rw [l1] at js
  have b2 := b12.2
  refine s_retD (evd_join (ys := ws2) evd_str (evd_var rfl o12.rp) (by rw [l1]; show sumL ws2 + _ ≤ _; omega)) fun v H13 e13 r => ?_
  obtain rfl : v = _ := r
  exact q _ (asc_join (asc_lit (by decide +kernel)) b12.1) (by omega) H13 (o12.ex.trans e13)
end
theorem ev_spoiled {σ : L2.St} {H : Hp} {t0 t1 t2 t3 : TE} {E : XK} {t : Str} {way cell other : Int} (h0 : EvD t0 σ H (.str t)) (h1 : EvD t1 σ H (.int way)) (h2 : EvD t2 σ H (.int cell)) (h3 : EvD t3 σ H (.int other)) (ha : Asc t) (hl : t.length ≤ 600) :
    EvZ (tCall sp__law_spoiled [] E (tCons t0 (tCons t1 (tCons t2 (tCons t3 tNil))))) σ H := fun H1 e Q q => evs_cons h0 (evs_cons h1 (evs_cons h2 (evs_cons h3 evs_nil))) H1 e _ fun us H2 e2 r2 => by
  show sp__law_spoiled (us ++ []) H2 Q E
  rw [List.append_nil]
  exact ⟨(t, way, cell, other), r2, ⟨ha, hl⟩, fun z h1 h2 H3 e3 => q z H3 h1 h2 (e2.trans e3)⟩
def oddL : List Str := ["", ":", "3", "0:", "7:", "7: 0123456", "3:012", "3: ", "3: 01", "3: 0123", "3: 011", "3: 123", "03: 012", "3 : 012", "3:  012", "1: 0 0 0", " 3: 012"]
def sp__law_odd : Sp := fun vs H Q _ => ∃ a : Int, RpA H [.int a] vs ∧ AnyT H Q
theorem len__law_odd (vs : List V) (H : Hp) (Q : VK) (E : XK) (h : sp__law_odd vs H Q E) : vs.length = 1 := by
  unfold sp__law_odd at h
  obtain ⟨a, r, _⟩ := h
  rw [r.len]
  rfl
section
variable {P : Program} {w : World} {K : PySem.W.Frag} {mg : Str → Option Value} {base : Heap}
theorem ok__law_odd {f : Addr} {fd : FuncData} (D : Df K mg "_law_odd" s__law_odd ["cell"] f fd) (Bi : Bi mg) : FnOk P w K mg base CX0 1 f fd ["cell"] sp__law_odd := by
  refine D.F.ok c__law_odd (fun vs H Q E h => len__law_odd _ _ _ _ h) (fun cdv A outer s H vs Q E hr h => ?_)
  refine ⟨_, (pss_cons (ps_set (i := 1) c__law_odd.nd rfl (.inl rfl) (pe_lst (pa_cons pe_str (pa_cons pe_str (pa_cons pe_str (pa_cons pe_str (pa_cons pe_str (pa_cons pe_str (pa_cons pe_str (pa_cons pe_str (pa_cons pe_str (pa_cons pe_str (pa_cons pe_str (pa_cons pe_str pa_nil))))))))))))))
      (pss_one (ps_ret (pe_ix (ix_listK (K := K)) (pe_op op_cat (pv 1) (pe_lst (pa_cons pe_str (pa_cons pe_str (pa_cons pe_str (pa_cons pe_str (pa_cons pe_str pa_nil))))))) (pe_op op_modI (pv 0) pe_int) (fun _ _ => rfl))))), ?_⟩
  obtain ⟨cell, ⟨v1, _, rfl, rfl, rfl⟩, q⟩ := h
  refine' s_asgD (d := .list ((oddL.take 12).map .str)) ((EvN.toD (evn_lst (evs_cons evd_str (evs_cons evd_str (evs_cons evd_str (evs_cons evd_str (evs_cons evd_str (evs_cons evd_str (evs_cons evd_str (evs_cons evd_str (evs_cons evd_str (evs_cons evd_str (evs_cons evd_str (evs_cons evd_str evs_nil)))))))))))) (Nat.le_of_ble_eq_true rfl))).is rfl) fun vl H1 e1 hv => ?_
  wtm_at "nx"
  obtain ⟨z, hz, hzm⟩ : ∃ z : Str, atI (oddL.map PyData.str) (cell % 17) = some (.str z) ∧ z ∈ oddL := by
    have h1 := Int.emod_nonneg cell (show (17 : Int) ≠ 0 by omega)
    have h2 := Int.emod_lt_of_pos cell (show (0 : Int) < 17 by omega)
    have hj : (cell % 17).toNat < oddL.length := by show _ < 17; omega
    refine ⟨oddL[(cell % 17).toNat], atI_map (f := PyData.str) ?_, List.getElem_mem hj⟩
    conv => lhs; rw [show cell % 17 = (((cell % 17).toNat : Nat) : Int) by omega]
    exact atI_nat (List.getElem?_eq_getElem hj)
  have hall : ∀ x ∈ oddL, (tL x).all (fun c => decide (c < 128)) = true ∧ x.length ≤ 40000 := by decide +kernel
  have cat : EvN (tOp rCat (tVar 1) (tLst (tCons (tC (.str "03: 012")) (tCons (tC (.str "3 : 012")) (tCons (tC (.str "3:  012")) (tCons (tC (.str "1: 0 0 0")) (tCons (tC (.str " 3: 012")) tNil))))))) [some (V.int cell), some vl] H1 (oddL.map .str) :=
    (evn_cat (es := (oddL.drop 12).map .str) (evd_var rfl hv) ((EvN.toD (evn_lst (evs_cons evd_str (evs_cons evd_str (evs_cons evd_str (evs_cons evd_str (evs_cons evd_str evs_nil))))) (Nat.le_of_ble_eq_true rfl))).is rfl) (by decide)).is (by rw [← List.map_append, List.take_append_drop])
  exact s_retD (evd_op cat.toD (evd_op (evd_var rfl rp_int) evd_int (rd_modI (by decide))) (rd_ixL hz)) fun v H2 e2 r => by
    obtain rfl : v = .str z := r
    exact q z (asc_lit (hall z hzm).1) (hall z hzm).2 H2 (e1.trans e2)
end
theorem ev_odd {σ : L2.St} {H : Hp} {t0 : TE} {E : XK} {cell : Int} (h0 : EvD t0 σ H (.int cell)) : EvZ (tCall sp__law_odd [] E (tCons t0 tNil)) σ H := fun H1 e Q q => evs_cons h0 evs_nil H1 e _ fun us H2 e2 r2 => by
  show sp__law_odd (us ++ []) H2 Q E
  rw [List.append_nil]
  exact ⟨cell, r2, fun z h1 h2 H3 e3 => q z H3 h1 h2 (e2.trans e3)⟩
end Bm

namespace Bm
open PySem PySem.Spec PyProof.Rows L2 Evl
local macro_rules | `(tactic| wtm_at "rp") => `(tactic| first | exact rp_int | exact rp_bl | exact rp_str | exact rp_non | assumption | (refine' Rp.ex ?e ?h; (case h => assumption); (case e => assumption)) | exact Own.rp (by assumption))
local macro_rules | `(tactic| wtm_at "side") => `(tactic| first | assumption | omega | decide | rfl | exact ⟨by omega, by omega⟩)
local macro_rules | `(tactic| wtm_at "es") => `(tactic| first | exact evs_nil | (refine' evs_cons ?a ?b; (case a => wtm_at "ev"); (case b => wtm_at "es")))
local macro_rules | `(tactic| wtm_at "ev") => `(tactic| first
  | exact evd_int | exact evd_str | exact evd_bl | exact evd_non
  | (refine' evd_var rfl ?h; (case h => wtm_at "rp"))
  | ((with_reducible refine' evd_op ?a ?b rd_addI); (case a => wtm_at "ev"); (case b => wtm_at "ev"))
  | ((with_reducible refine' evd_op ?a ?b rd_subI); (case a => wtm_at "ev"); (case b => wtm_at "ev"))
  | ((with_reducible refine' evd_op ?a ?b (rd_mulI ?c)); (case a => wtm_at "ev"); (case b => wtm_at "ev"); (case c => wtm_at "side"))
  | ((with_reducible refine' evd_op ?a ?b (rd_divI ?c)); (case a => wtm_at "ev"); (case b => wtm_at "ev"); (case c => wtm_at "side"))
  | ((with_reducible refine' evd_op ?a ?b (rd_modI ?c)); (case a => wtm_at "ev"); (case b => wtm_at "ev"); (case c => wtm_at "side"))
  | ((with_reducible refine' evd_op ?a ?b rd_ltI); (case a => wtm_at "ev"); (case b => wtm_at "ev"))
  | ((with_reducible refine' evd_op ?a ?b rd_leI); (case a => wtm_at "ev"); (case b => wtm_at "ev"))
  | ((with_reducible refine' evd_op ?a ?b rd_gtI); (case a => wtm_at "ev"); (case b => wtm_at "ev"))
  | ((with_reducible refine' evd_op ?a ?b rd_geI); (case a => wtm_at "ev"); (case b => wtm_at "ev"))
  | ((with_reducible refine' evd_op ?a ?b rd_eqI); (case a => wtm_at "ev"); (case b => wtm_at "ev"))
  | ((with_reducible refine' evd_op ?a ?b rd_neI); (case a => wtm_at "ev"); (case b => wtm_at "ev"))
  | ((with_reducible refine' evd_op ?a ?b rd_eqB); (case a => wtm_at "ev"); (case b => wtm_at "ev"))
  | ((with_reducible refine' evd_op ?a ?b rd_neB); (case a => wtm_at "ev"); (case b => wtm_at "ev"))
  | ((with_reducible refine' evd_op ?a ?b rd_isNo); (case a => wtm_at "ev"); (case b => wtm_at "ev"))
  | ((with_reducible refine' evd_op ?a ?b rd_notNo); (case a => wtm_at "ev"); (case b => wtm_at "ev"))
  | ((with_reducible refine' evd_op ?a ?b rd_inIL); (case a => wtm_at "ev"); (case b => wtm_at "ev"))
  | ((with_reducible refine' evd_op ?a ?b rd_niIL); (case a => wtm_at "ev"); (case b => wtm_at "ev"))
  | ((with_reducible refine' evd_op ?a ?b rd_inID); (case a => wtm_at "ev"); (case b => wtm_at "ev"))
  | ((with_reducible refine' evd_op ?a ?b rd_niID); (case a => wtm_at "ev"); (case b => wtm_at "ev"))
  | ((with_reducible refine' evd_neg ?a); (case a => wtm_at "ev"))
  | ((with_reducible refine' evd_tix ?a ?b ?c); (case a => wtm_at "ev"); (case b => wtm_at "ev"); (case c => wtm_at "side"))
  | ((with_reducible refine' evd_tup ?a ?b); (case a => wtm_at "es"); (case b => exact Nat.le_of_ble_eq_true rfl))
  | ((with_reducible refine' evd_cb ?a cd_lenL); (case a => wtm_at "es"))
  | ((with_reducible refine' evd_cb ?a cd_lenT); (case a => wtm_at "es"))
  | ((with_reducible refine' evd_cb ?a cd_intB); (case a => wtm_at "es"))
  | ((with_reducible refine' evd_cb ?a cd_tupL); (case a => wtm_at "es"))
  | ((with_reducible refine' evd_and ?a ?b); (case a => wtm_at "ev"); (case b => intro _; wtm_at "ev"))
  | ((with_reducible refine' evd_or ?a ?b); (case a => wtm_at "ev"); (case b => intro _; wtm_at "ev"))
  | ((with_reducible refine' evd_not ?a); (case a => wtm_at "ev"))
  | ((with_reducible refine' evd_op ?a ?b rd_neIL); (case a => wtm_at "ev"); (case b => wtm_at "ev"))
  | ((with_reducible refine' evd_op ?a ?b rd_eqIL); (case a => wtm_at "ev"); (case b => wtm_at "ev"))
  | ((with_reducible refine' EvN.toD ?a); (case a => wtm_at "en")))
local macro_rules | `(tactic| wtm_at "en") => `(tactic| first
  | ((with_reducible refine' evn_cb ?a cn_sortTI); (case a => wtm_at "es"))
  | ((with_reducible refine' evn_cb ?a cn_listL); (case a => wtm_at "es"))
  | ((with_reducible refine' evn_cb ?a cn_listT); (case a => wtm_at "es"))
  | ((with_reducible refine' evn_rng ?a ?b); (case a => wtm_at "ev"); (case b => wtm_at "side"))
  | ((with_reducible refine' evn_lst ?a ?b); (case a => wtm_at "es"); (case b => exact Nat.le_of_ble_eq_true rfl))
  | ((with_reducible refine' evn_cat ?a ?b ?c); (case a => wtm_at "ev"); (case b => wtm_at "ev"); (case c => wtm_at "side"))
  | ((with_reducible refine' evn_slL ?a ?b ?c); (case a => wtm_at "ev"); (case b => first | exact evp_none | (refine' evp_some ?d; (case d => wtm_at "ev"))); (case c => first | exact evp_none | (refine' evp_some ?d; (case d => wtm_at "ev")))))
local macro_rules | `(tactic| wtm_at "et") => `(tactic| first
  | exact et_yes
  | (refine' ett ?a; (case a => wtm_at "ev"))
  | (refine' etB ?a; (case a => wtm_at "ev"))
  | (refine' et_and ?a ?b; (case a => wtm_at "et"); (case b => intro _; wtm_at "et"))
  | (refine' et_or ?a ?b; (case a => wtm_at "et"); (case b => intro _; wtm_at "et"))
  | (refine' et_not ?a; (case a => wtm_at "et")))
local macro_rules | `(tactic| wtm_at "nx") => `(tactic| try dsimp only [tSeq, tNext])
/-! ### what is due, what is told, whether it is right -/
def dueD : Option (Int × List (List Int)) → PyData
  | none => .none
  | some (m, vs) => .tuple [.int m, vD vs]
def refD : PyData := .tuple [.str "refused", .bool true]
def foundD : Option (Int × List (List Int)) → PyData
  | none => refD
  | some (m, vs) => .tuple [.int m, vD vs]
theorem figs_take {k : Nat} (h : k ≤ 6) : ([.str "0", .str "1", .str "2", .str "3", .str "4", .str "5"] : List PyData).take k = ((List.range' 48 k).map sg1).map .str := by
  have e : (["0", "1", "2", "3", "4", "5"] : List Str) = (List.range' 48 6).map sg1 := by decide +kernel
  have e2 : ([.str "0", .str "1", .str "2", .str "3", .str "4", .str "5"] : List PyData) = ((List.range' 48 6).map sg1).map .str := by
    rw [← e]
    rfl
  have : k = 0 ∨ k = 1 ∨ k = 2 ∨ k = 3 ∨ k = 4 ∨ k = 5 ∨ k = 6 := by omega
  rw [e2, ← List.map_take, ← List.map_take]
  rcases this with rfl | rfl | rfl | rfl | rfl | rfl | rfl <;> rfl
def sp__law_due : Sp := spO (α := Str) (fun t => [.str t]) (fun t => Asc t ∧ t.length ≤ 40000) fun t => .val (dueD (dueF t))
theorem len__law_due (vs : List V) (H : Hp) (Q : VK) (E : XK) (h : sp__law_due vs H Q E) : vs.length = 1 := by
  unfold sp__law_due at h
  obtain ⟨a, r, _⟩ := h
  rw [r.len]
  rfl
section
variable {P : Program} {w : World} {K : PySem.W.Frag} {mg : Str → Option Value} {base : Heap}
theorem ok__law_due {f : Addr} {fd : FuncData} (D : Df K mg "_law_due" s__law_due ["text"] f fd) (Bi : Bi mg) : FnOk P w K mg base CX0 1 f fd ["text"] sp__law_due := by
  refine D.F.ok c__law_due (fun vs H Q E h => len__law_due _ _ _ _ h) (fun cdv A outer s H vs Q E hr h => ?_)
  refine ⟨_, (pss_cons (ps_set (i := 1) c__law_due.nd rfl (.inl rfl) (pe_m1 PySem.F.slot_str_split PySem.F.type_str_split mt_splitK (pv 0) pe_str))
      (pss_cons (ps_if (PW.pt (pw_or (pt_cmpR op_neI (pe_callB cr_lenT (by rfl) Bi.len (by decide +kernel) (pa_cons (pe_ix (ix_listK (K := K)) (pv 1) pe_int (fun _ _ => rfl)) pa_nil)) pe_int (nomark _)) (pw_or (pt_cmpR op_niT (pe_ix ix_str (pe_ix (ix_listK (K := K)) (pv 1) pe_int (fun _ _ => rfl)) pe_int (fun _ _ => rfl)) pe_str (by rfl)) (pw_or (pt_cmpR op_neT (pe_ix ix_str (pe_ix (ix_listK (K := K)) (pv 1) pe_int (fun _ _ => rfl)) pe_int (fun _ _ => rfl)) pe_str (nomark _)) (pw_or1 (pt_cmpR op_gtI (pe_callB (cr_lenK (K := K)) (by rfl) Bi.len (by decide +kernel) (pa_cons (pv 1) pa_nil)) pe_int (nomark _)))))))
      (pss_one (ps_ret pe_non))
      pss_nil)
      (pss_cons (ps_set (i := 2) c__law_due.nd rfl (.inl rfl) (pe_m1 PySem.F.slot_str_index PySem.F.type_str_index mt_sIx pe_str (pe_ix ix_str (pe_ix (ix_listK (K := K)) (pv 1) pe_int (fun _ _ => rfl)) pe_int (fun _ _ => rfl))))
      (pss_cons (ps_set (i := 3) c__law_due.nd rfl (.inl rfl) (pe_lst pa_nil))
      (pss_cons (ps_for (PassesOwn.never) rfl (pi_listK (K := K) (pe_slice (sl_listK (K := K)) (pv 1) (po_some pe_int) po_none)) (pg_name (i := 4) c__law_due.nd rfl (.inl rfl))
      (pss_cons (ps_if (pt_cmpR (op_neDK (K := K) hr.units) (pe_callB (cr_sortedTxt rfl) (by rfl) Bi.sorted (by decide +kernel) (pa_cons (pv 4) pa_nil)) (pe_slice (sl_listK (K := K)) (pe_lst (pa_cons pe_str (pa_cons pe_str (pa_cons pe_str (pa_cons pe_str (pa_cons pe_str (pa_cons pe_str pa_nil))))))) po_none (po_some (pv 2))) (nomark _))
      (pss_one (ps_ret pe_non))
      pss_nil)
      (pss_one (ps_expr (pe_bm PySem.F.plainAttrs_list PySem.F.slot_list_append PySem.F.type_list_append mt_append (pv 3) (pa_cons (pe_callTy (cr_tupLK (K := K)) (by rfl) Bi.tuple (by decide +kernel) (pa_cons (pe_lc (own := [("sign", 5)]) (g := (gName 5)) (tt := tYes) rfl c__law_due.nd (pi_str (pv 4)) (blkOk_by (own := [("sign", 5)]) (N := ["text", "words", "many", "voters", "word", "sign"]) (sc := defScope s__law_due) (by decide +kernel)) (fun _ _ _ _ _ => (pg_name (i := 5) c__law_due.nd rfl (.inl rfl))) (fun _ _ _ _ _ => pts_nil) (fun _ _ _ _ _ => (pe_m1 PySem.F.slot_str_index PySem.F.type_str_index mt_sIx pe_str (pv 5)))) pa_nil)) pa_nil))))))
      (pss_one (ps_ret (pe_tupF (pa_cons (pv 2) (pa_cons (pv 3) pa_nil)))))))))), ?_⟩
  obtain ⟨t, ⟨v1, _, rfl, rfl, rfl⟩, ⟨ha, hl⟩, q⟩ := h
  dsimp only at q hl
  obtain ⟨s1, s2, s3⟩ := split_facts t
  have s4 := asc_split ha
  unfold dueF at q
  refine' s_asgD (d := .list ((Txt.split t " ").map .str)) (EvN.toD (evn_split (a := t) (b := " ") (evd_var rfl rp_str) evd_str (by decide +kernel) (by omega))) fun vw H1 e1 hw => ?_
  wtm_at "nx"
  generalize Txt.split t " " = ws at s1 s2 s3 s4 hw q
  match ws, s1 with
  | w0 :: r, _ =>
  have hw0 : w0.length ≤ 40000 := Nat.le_trans (s3 w0 List.mem_cons_self) hl
  have hr0 : ∀ w ∈ r, w.length ≤ 40000 := fun w hw => Nat.le_trans (s3 w (List.mem_cons_of_mem _ hw)) hl
  have ix0 : ∀ {σ : L2.St} {H3 : Hp}, σ[1]? = some (some vw) → Ex H1 H3 → EvD (tOp (rIxL K) (tVar 1) (tC (.int 0))) σ H3 (.str w0) := fun {σ H3} s0 e3 => evd_op (evd_var s0 (hw.ex e3)) evd_int (rd_ixL (atI_nat (j := 0) rfl))
  have lenw : ∀ {σ : L2.St} {H3 : Hp}, σ[1]? = some (some vw) → Ex H1 H3 → EvD (tCB (rLenS K) (tCons (tVar 1) tNil)) σ H3 (.int ((w0 :: r).length : Int)) := fun {σ H3} s0 e3 => by
    have z : EvD (tCB (rLenS K) (tCons (tVar 1) tNil)) σ H3 (.int (((w0 :: r).map PyData.str).length : Int)) := evd_cb (evs_cons (evd_var s0 (hw.ex e3)) evs_nil) cd_lenL
    rwa [List.length_map] at z
  have no : dueW (w0 :: r) = none → ∀ {σ : L2.St} {H3 : Hp} {nx bk ct : L2.St → Hp → Prop}, Ex H H3 → tRet (tC .non) ⟨nx, Q, bk, ct⟩ σ H3 := fun z {σ H3 nx bk ct} e3 => by
    rw [z] at q
    exact s_retD evd_non fun v H4 e4 r => q v H4 (e3.trans e4) r
  by_cases len2 : w0.length = 2
  rotate_left
  · refine s_if (b := (!decide ((w0.length : Int) = 2)) || true) (et_or (ett (evd_op (evd_cb (evs_cons (ix0 rfl (Ex.refl _)) evs_nil) (cd_lenS (by omega))) evd_int rd_neI)) fun hb => absurd hb (by simp; omega)) (fun hb H2 e2 => no (dueW_len len2) (e1.trans e2)) (fun hb => absurd hb (by simp))
  obtain ⟨c0, c1, e01⟩ : ∃ c0 c1, tL w0 = [c0, c1] := by
    have := tL_len w0
    rw [len2] at this
    match tL w0, this with
    | [a, b], _ => exact ⟨a, b, rfl⟩
  have dw := dueW_two (r := r) e01
  have at0 : atI (tL w0) 0 = some c0 := by rw [e01]; rfl
  have at1 : atI (tL w0) 1 = some c1 := by rw [e01]; rfl
  have col : sg1 c1 = (":" : Str) ↔ c1 = 58 := by
    rw [show (":" : Str) = sg1 58 by decide +kernel]
    exact ⟨sg_inj, fun e => by rw [e]⟩
  refine' s_if (b := (!decide ((w0.length : Int) = 2)) || ((!decide (c0 ∈ tL "123456")) || ((!decide (sg1 c1 = (":" : Str))) || decide ((61 : Int) < ((w0 :: r).length : Int))))) ?tst (fun hb H2 e2 => ?_) (fun hb H2 e2 => ?_)
  case tst =>
    refine et_or (ett (evd_op (evd_cb (evs_cons (ix0 rfl (Ex.refl _)) evs_nil) (cd_lenS (by omega))) evd_int rd_neI)) fun _ => et_or (ett (evd_op (evd_op (ix0 rfl (Ex.refl _)) evd_int (rd_ixS (by omega) at0)) evd_str rd_niT)) fun _ => et_or (ett (evd_op (evd_op (ix0 rfl (Ex.refl _)) evd_int (rd_ixS (by omega) at1)) evd_str rd_neT)) fun _ => ett (evd_op (lenw rfl (Ex.refl _)) evd_int rd_gtI)
  · refine no ?_ (e1.trans e2)
    rw [dw, if_neg]
    rintro ⟨z0, z1, z2, _⟩
    rw [len2, decide_eq_true (col.mpr z1), decide_eq_true (figs6_mem.mpr z0), List.length_cons] at hb
    simp at hb
    omega
  simp only [Bool.or_eq_false_iff, Bool.not_eq_false', decide_eq_true_eq, decide_eq_false_iff_not, List.length_cons] at hb
  obtain ⟨_, z0, z1, z2⟩ := hb
  have z0 := figs6_mem.mp z0
  have z1 := col.mp z1
  have z2 : r.length ≤ 60 := by omega
  have dw : dueW (w0 :: r) = if ∀ w ∈ r, okW (fig c0) w then some (fig c0, r.map wv) else none := by
    rw [dw]
    by_cases c : ∀ w ∈ r, okW (fig c0) w
    · rw [if_pos c, if_pos ⟨z0, z1, z2, c⟩]
    · rw [if_neg c, if_neg fun z => c z.2.2.2]
  wtm_at "nx"
  have e12 := e1.trans e2
  obtain ⟨rest, ho⟩ := occ7 z0
  have hm6 : c0 - 48 ≤ 6 := by omega
  refine' s_asgI (n := fig c0) (evd_sIx evd_str (evd_op (ix0 rfl e2) evd_int (rd_ixS (by omega) at0)) ho) fun H3 e3 => ?_
  wtm_at "nx"
  refine' s_asgO (evn_lst evs_nil (by decide)) rfl fun pv H4 e4 o4 => ?_
  wtm_at "nx"
  have e13 := e12.trans e3
  have o4 : Own H3 H4 pv [] := o4
  refine' s_forN (f := PyData.str) (xs := r) ((evn_slL (evd_var rfl (hw.ex ((e2.trans e3).trans e4))) (evp_some evd_int) evp_none).is (by show cutA ((w0 :: r).map PyData.str) (some ((1 : Nat) : Int)) none = _; rw [cutA_from]; rfl)) (fun _ _ => rfl) fun pl vl H5 nl e5 hl5 => ⟨fun i σ' H' => (∃ y, σ' = [some (.str t), some vw, some (.int (fig c0)), some (.ref pv), y, none]) ∧ Own H3 H' pv ((r.take i).map fun w => iD (wv w)) ∧ (∀ w ∈ r.take i, okW (fig c0) w) ∧ KT H5 H' ∧ H' pl = some (.lst vl), ?_, ?_, ?_, ?_⟩
  · exact ⟨⟨none, rfl⟩, o4.step e5, fun w hw => by simp at hw, KT.refl _, hl5⟩
  · rintro i σ' H' ⟨_, _, _, k, h⟩
    exact ⟨k, h⟩
  · rintro i x v σ' H' hx hr ⟨⟨y, rfl⟩, o, hok, kt, hl'⟩
    refine g_name ?_
    have hxr : x ∈ r := List.mem_of_getElem? hx
    have hxl := hr0 x hxr
    have hxa := s4 x (List.mem_cons_of_mem _ hxr)
    have hpl : pv ≠ pl := by
      obtain ⟨_, z, _⟩ := o4.has
      exact ne_of_none z nl
    have srt : EvD (tCB rSortTxt (tCons (tVar 4) tNil)) [some (V.str t), some vw, some (.int (fig c0)), some (.ref pv), some v, none] H' (sgL (srtN (tL x))) := EvN.toD (evn_cb (evs_cons (evd_var rfl hr) evs_nil) (cn_sortTxt (by omega)))
    have fgs : EvD (tSl (rSlL K) (tLst (tCons (tC (.str "0")) (tCons (tC (.str "1")) (tCons (tC (.str "2")) (tCons (tC (.str "3")) (tCons (tC (.str "4")) (tCons (tC (.str "5")) tNil))))))) tNoPart (tPart (tVar 2))) [some (V.str t), some vw, some (.int (fig c0)), some (.ref pv), some v, none] H' (sgL (List.range' 48 (c0 - 48))) :=
      EvN.toD ((evn_slL (EvN.toD (evn_lst (evs_cons evd_str (evs_cons evd_str (evs_cons evd_str (evs_cons evd_str (evs_cons evd_str (evs_cons evd_str evs_nil)))))) (Nat.le_of_ble_eq_true rfl))) evp_none (evp_some (evd_var rfl rp_int))).is (by show cutA _ none (some ((c0 - 48 : Nat) : Int)) = _; rw [cutA_to, figs_take hm6]))
    have okx : okW (fig c0) x ↔ srtN (tL x) = List.range' 48 (c0 - 48) := Iff.rfl
    refine' s_if (b := !decide (srtN (tL x) = List.range' 48 (c0 - 48))) (ett (evd_op srt fgs (rd_neSg (fun c hc => hxa c ((srtN_perm _).mem_iff.mp hc)) fun c hc => by have := List.mem_range'_1.mp hc; omega))) (fun hb H6 e6 => ?_) (fun hb H6 e6 => ?_)
    · have hb : ¬ okW (fig c0) x := fun z => by rw [decide_eq_true (okx.mp z)] at hb; cases hb
      refine no ?_ ((e13.trans o.ex).trans e6)
      rw [dw, if_neg]
      exact fun z => hb (z x hxr)
    · have hb : okW (fig c0) x := okx.mpr (by simpa using hb)
      wtm_at "nx"
      have o6 := o.step e6
      have hr6 := hr.ex e6
      have rng : ∀ c ∈ tL x, 48 ≤ c ∧ c ≤ 53 := fun c hc => by
        have := (srtN_perm (tL x)).mem_iff.mpr hc
        rw [okx.mp hb] at this
        have := List.mem_range'_1.mp this
        omega
      have inner : EvN (tLc (iStr (tVar 4)) (gName 5) tYes (tM1 rSIx (tC (.str "012345")) (tVar 5)) [5]) [some (V.str t), some vw, some (.int (fig c0)), some (.ref pv), some v, none] H6 ((wv x).map .int) := by
        unfold wv
        rw [List.map_map]
        refine evn_str (fun c => .int (fig c)) (evd_var rfl hr6) (by omega) (fun c H7 hc e7 => ?_) fun _ _ => rfl
        obtain ⟨rest, ho⟩ := occ6 (rng c hc)
        exact ⟨[some (V.str t), some vw, some (.int (fig c0)), some (.ref pv), some v, some (.str (sg1 c))], fun Q hq => hq, rfl, evd_sIx evd_str (evd_var rfl rp_str) ho⟩
      refine s_appO (d := iD (wv x)) o6 rfl (evd_cb (evs_cons inner.toD evs_nil) cd_tupL) (imm_iD _) (by rw [List.length_map, List.length_take]; omega) fun H7 x7 o7 => ?_
      obtain ⟨_, zd, _⟩ := o6.has
      have et : r.take (i + 1) = r.take i ++ [x] := by rw [List.take_add_one, hx]; rfl
      refine ⟨⟨_, rfl⟩, ?_, fun w hw => ?_, (kt.trans (KT.of e6)).trans (x7.kt zd), x7 _ _ hpl.symm (e6 _ _ hl')⟩
      · rw [et, List.map_append]
        exact o7
      · rw [et] at hw
        rcases List.mem_append.mp hw with hw | hw
        · exact hok w hw
        · rw [List.mem_singleton.mp hw]
          exact hb
  · rintro σ' H' ⟨⟨y, rfl⟩, o, hok, _, _⟩
    rw [List.take_length] at o hok
    wtm_at "nx"
    rw [dw, if_pos hok] at q
    have hv : Rp H' (vD (r.map wv)) (.ref pv) := by
      have z := o.rp
      unfold vD
      rw [List.map_map]
      exact z
    exact s_retD (d := .tuple [.int (fig c0), vD (r.map wv)]) (evd_tup (evs_cons (evd_var rfl rp_int) (evs_cons (evd_var rfl hv) evs_nil)) (Nat.le_of_ble_eq_true rfl)) fun v H6 e6 r => q v H6 ((e13.trans o.ex).trans e6) r
end
theorem ev_due {σ : L2.St} {H : Hp} {t0 : TE} {E : XK} {t : Str} (h0 : EvD t0 σ H (.str t)) (ha : Asc t) (hl : t.length ≤ 40000) : EvD (tCall sp__law_due [] E (tCons t0 tNil)) σ H (dueD (dueF t)) := evd_callO t (evs_cons h0 evs_nil) ⟨ha, hl⟩ rfl
theorem s_asgX {tr : TA} {σ : L2.St} {H : Hp} {α : Type} {enc : α → List PyData} {pre : α → Prop} {out : α → Out} {D : Ends} {Es : L2.St → XK} {i : Nat} (a : α) (h : EvS tr σ H (enc a)) (hp : pre a)
    (k : ∀ H1, Ex H H1 → Gives H1 (fun v H2 => D.nx (σ.set i (some v)) H2) (Es σ) (out a)) : tAsg (tCallS (spO enc pre out) Es tr) (gName i) D σ H := h H (Ex.refl H) _ fun vs H1 e r => ⟨a, r, hp, k H1 e⟩
def toldO : Option (Int × List (List Int)) → Out
  | none => .val refD
  | some (m, vs) => .duo m (vs.map iD)
def sp__law_told : Sp := spO (α := Str) (fun t => [.str t]) (fun t => t.length ≤ 40000) fun t => toldO (dueF t)
theorem len__law_told (vs : List V) (H : Hp) (Q : VK) (E : XK) (h : sp__law_told vs H Q E) : vs.length = 1 := by
  unfold sp__law_told at h
  obtain ⟨a, r, _⟩ := h
  rw [r.len]
  rfl
theorem rd_niBf {K : PySem.W.Frag} {H : Hp} : RD (rNiF K) (.bool true) (bL [false, false, false, false]) H (.bool true) := rd_val fun H1 v u ex r1 r2 => by
  obtain ⟨p, xs, rfl, k1, k2⟩ := r2
  obtain rfl := k2.bls
  obtain rfl : v = .bl true := r1
  exact ⟨.bl true, rfl, fun Q q => ⟨p, _, rfl, .inl (SqL.of k1), rfl, rfl, q⟩⟩
section
variable {P : Program} {w : World} {K : PySem.W.Frag} {mg : Str → Option Value} {base : Heap}
theorem ok__law_told {f : Addr} {fd : FuncData} (D : Df K mg "_law_told" s__law_told ["text"] f fd) (Bi : Bi mg) {C_BadCount C_BadVoter C_BadWeb C_TooMany C_BadNote C_BeatError : Addr} (Y : Ern K mg C_BadCount C_BadVoter C_BadWeb C_TooMany C_BadNote C_BeatError) {f_read : Addr} {fd_read : FuncData} (D_read : Df K mg "read" s_read ["text"] f_read fd_read) (G_read : FnOk P w K mg base (L2.CX P w) 3 f_read fd_read ["text"] (sp_read C_BadNote)) : FnOk P w K mg base CX0 4 f fd ["text"] sp__law_told := by
  refine D.F.ok c__law_told (fun vs H Q E h => len__law_told _ _ _ _ h) (fun cdv A outer s H vs Q E hr h => ?_)
  refine ⟨_, (pss_cons (ps_set (i := 1) c__law_told.nd rfl (.inl rfl) pe_non)
      (pss_cons (ps_try_as (i := 2) (Wout := fun _ _ _ _ => False) rfl rfl c__law_told.nd rfl rfl ⟨rfl, by decide, .inl Y.g_BeatError⟩ takes0
      (fun W pn xe tk _ => (pss_one (ps_set (i := 1) c__law_told.nd rfl (.inl rfl) (pe_callS G_read (hr.mono (by decide)) (by rfl) D_read.g D_read.F.kp D_read.b (fun σ => passAt tk σ) (pa_cons (pv 0) pa_nil)))))
      (fun a oe cls d pn hz hf => (pss_cons (ps_set (i := 3) c__law_told.nd rfl (.inl rfl) (pe_lst (pa_cons (pe_callB (call_isX (K := K) hz hf) (by rfl) Bi.isinstance (by decide +kernel) (pa_cons (pv 2) (pa_cons (pe_glob (v := .ref C_BadCount) (by rfl) Y.g_BadCount rfl) pa_nil))) (pa_cons (pe_callB (call_isX (K := K) hz hf) (by rfl) Bi.isinstance (by decide +kernel) (pa_cons (pv 2) (pa_cons (pe_glob (v := .ref C_BadVoter) (by rfl) Y.g_BadVoter rfl) pa_nil))) (pa_cons (pe_callB (call_isX (K := K) hz hf) (by rfl) Bi.isinstance (by decide +kernel) (pa_cons (pv 2) (pa_cons (pe_glob (v := .ref C_BadWeb) (by rfl) Y.g_BadWeb rfl) pa_nil))) (pa_cons (pe_callB (call_isX (K := K) hz hf) (by rfl) Bi.isinstance (by decide +kernel) (pa_cons (pv 2) (pa_cons (pe_glob (v := .ref C_TooMany) (by rfl) Y.g_TooMany rfl) pa_nil))) pa_nil))))))
      (pss_one (ps_set (i := 1) c__law_told.nd rfl (.inl rfl) (pe_tupF (pa_cons pe_str (pa_cons (pe_and (pe_callB (call_isX (K := K) hz hf) (by rfl) Bi.isinstance (by decide +kernel) (pa_cons (pv 2) (pa_cons (pe_glob (v := .ref C_BadNote) (by rfl) Y.g_BadNote rfl) pa_nil))) (pe_and (pe_callB (call_isX (K := K) hz hf) (by rfl) Bi.isinstance (by decide +kernel) (pa_cons (pv 2) (pa_cons (pe_bltn (v := .ty "ValueError") (by rfl) Bi.ValueError (by decide +kernel) rfl) pa_nil))) (pe_one (pe_cmpR (op_niFK (K := K)) pe_bl (pv 3) (by rfl))))) pa_nil))))))))
      (pss_one (ps_ret (pv 1))))), ?_⟩
  obtain ⟨t, ⟨v1, _, rfl, rfl, rfl⟩, hl, q⟩ := h
  dsimp only at q hl
  refine' s_asgD evd_non fun v0 H1 e1 h0 => ?_
  wtm_at "nx"
  refine s_asgX t (evs_cons (evd_var rfl rp_str) evs_nil) hl fun H2 e2 => ?_
  have e12 := e1.trans e2
  cases hd : dueF t with
  | some mv =>
    obtain ⟨m, vs⟩ := mv
    rw [hd] at q
    intro p ws a o H3 hp e3 k1 k2 k3 k4
    exact ⟨_, rfl, q p ws a o H3 (fresh_back e12 hp) (e12.trans e3) k1 k2 k3 k4⟩
  | none =>
    rw [hd] at q
    intro H3 e3
    refine ⟨true, Y.r5.t, fun _ a ha => ?_, (fun z => by cases z)⟩
    have r := Y.r5
    refine' s_asgNw (ds := [.bool false, .bool false, .bool false, .bool false]) (evn_lst (evs_cons (evd_isX rfl r.e (fun _ z => z) r.k1) (evs_cons (evd_isX rfl r.e (fun _ z => z) r.k2) (evs_cons (evd_isX rfl r.e (fun _ z => z) r.k3) (evs_cons (evd_isX rfl r.e (fun _ z => z) r.k4) evs_nil)))) (Nat.le_of_ble_eq_true rfl)) fun p1 ws1 H4 n4 e4 g1 g2 => ?_
    wtm_at "nx"
    have hfl : Rp H4 (bL [false, false, false, false]) (.ref p1) := ⟨p1, ws1, rfl, g1, g2⟩
    refine' s_asgD (d := refD) (evd_tup (evs_cons evd_str (evs_cons (evd_and (a := true) (b := true) (evd_isX rfl r.e (fun _ z => z) r.k5) fun _ => evd_and (a := true) (b := true) (evd_isX rfl r.e (fun _ z => z) r.v) fun _ => evd_op evd_bl (evd_var rfl hfl) rd_niBf) evs_nil)) (Nat.le_of_ble_eq_true rfl)) fun vf H5 e5 hf => ?_
    exact s_retD (evd_var rfl hf) fun v H6 e6 r6 => q v H6 (((e12.trans e3).trans e4).trans (e5.trans e6)) r6
end
def sp__law_right : Sp := spO (α := Option (Int × List (List Int))) (fun o => [foundD o, dueD o]) (fun o => ∀ m vs, o = some (m, vs) → NoteOk m vs) fun _ => .val (.bool true)
theorem len__law_right (vs : List V) (H : Hp) (Q : VK) (E : XK) (h : sp__law_right vs H Q E) : vs.length = 2 := by
  unfold sp__law_right at h
  obtain ⟨a, r, _⟩ := h
  rw [r.len]
  rfl
theorem rd_eqRef {K : PySem.W.Frag} {H : Hp} : RD (rEqD K) refD refD H (.bool true) := by
  have hc : refD.canLay0 = true := by
    unfold refD
    rw [PyData.canLay0]
    refine canLayA fun d hd => ?_
    rcases List.mem_cons.mp hd with rfl | hd
    · rw [PyData.canLay0]
      exact asc_strOk (asc_lit (by decide +kernel))
    · rw [List.mem_singleton.mp hd, PyData.canLay0]
  have hdp : refD.depth ≤ 64 := by
    unfold refD
    rw [PyData.depth]
    have := depthA (ds := [.str "refused", .bool true]) (n := 0) fun d hd => by
      rcases List.mem_cons.mp hd with rfl | hd
      · rw [PyData.depth]
        exact Nat.le_refl _
      · rw [List.mem_singleton.mp hd, PyData.depth]
        exact Nat.le_refl _
    omega
  have hs : SeqAt.shaped refD = true := by
    show (refD.canLay0 && decide (refD.depth ≤ 64)) = true
    rw [hc, decide_eq_true hdp]
    rfl
  exact rd_val fun H1 v u ex r1 r2 => ⟨.bl true, rfl, fun Q q => ⟨refD, refD, r1.dp, r2.dp, hs, hs, by rw [SeqAt.eqv_refl refD hc]; exact q⟩⟩
section
variable {P : Program} {w : World} {K : PySem.W.Frag} {mg : Str → Option Value} {base : Heap}
theorem ok__law_right {f : Addr} {fd : FuncData} (D : Df K mg "_law_right" s__law_right ["found", "due"] f fd) (Bi : Bi mg) {f__law_whole : Addr} {fd__law_whole : FuncData} (D__law_whole : Df K mg "_law_whole" s__law_whole ["found"] f__law_whole fd__law_whole) (G__law_whole : FnOk P w K mg base CX0 1 f__law_whole fd__law_whole ["found"] sp__law_whole) : FnOk P w K mg base CX0 2 f fd ["found", "due"] sp__law_right := by
  refine D.F.ok c__law_right (fun vs H Q E h => len__law_right _ _ _ _ h) (fun cdv A outer s H vs Q E hr h => ?_)
  refine ⟨_, (pss_cons (ps_if (pt_cmpR op_isNo (pv 1) pe_non (nomark _))
      (pss_one (ps_ret (pe_cmpR (op_eqDK (K := K) hr.units) (pv 0) (pe_tupF (pa_cons pe_str (pa_cons pe_bl pa_nil))) (nomark _))))
      pss_nil)
      (pss_cons (ps_if (PW.pt (pw_or (pt_not (pt_val (pe_callB (call_isiK2 (K := K)) (by rfl) Bi.isinstance (by decide +kernel) (pa_cons (pv 0) (pa_cons (pe_bltn (v := .ty "tuple") (by rfl) Bi.tuple (by decide +kernel) rfl) pa_nil))))) (pw_or (pt_cmpR op_neI (pe_callB (cr_lenK (K := K)) (by rfl) Bi.len (by decide +kernel) (pa_cons (pv 0) pa_nil)) pe_int (nomark _)) (pw_or (pt_not (pt_val (pe_call G__law_whole (hr.mono (by decide)) (by rfl) D__law_whole.g D__law_whole.F.kp D__law_whole.b .nil pass0 (pa_cons (pe_ix (ix_tupK (K := K)) (pv 0) pe_int (fun _ _ => rfl)) pa_nil)))) (pw_or1 (pt_cmpR (op_neDK (K := K) hr.units) (pe_ix (ix_tupK (K := K)) (pv 0) pe_int (fun _ _ => rfl)) (pe_ix (ix_tupK (K := K)) (pv 1) pe_int (fun _ _ => rfl)) (nomark _)))))))
      (pss_one (ps_ret pe_bl))
      pss_nil)
      (pss_cons (ps_if (PW.pt (pw_or (pt_not (pt_val (pe_callB (call_isiK2 (K := K)) (by rfl) Bi.isinstance (by decide +kernel) (pa_cons (pe_ix (ix_tupK (K := K)) (pv 0) pe_int (fun _ _ => rfl)) (pa_cons (pe_bltn (v := .ty "list") (by rfl) Bi.list (by decide +kernel) rfl) pa_nil))))) (pw_or1 (pt_cmpR (op_neDK (K := K) hr.units) (pe_ix (ix_tupK (K := K)) (pv 0) pe_int (fun _ _ => rfl)) (pe_ix (ix_tupK (K := K)) (pv 1) pe_int (fun _ _ => rfl)) (nomark _)))))
      (pss_one (ps_ret pe_bl))
      pss_nil)
      (pss_cons (ps_for (PassesOwn.never) rfl (pi_listK (K := K) (pe_ix (ix_tupK (K := K)) (pv 0) pe_int (fun _ _ => rfl))) (pg_name (i := 2) c__law_right.nd rfl (.inl rfl))
      (pss_one (ps_if (PW.pt (pw_or (pt_not (pt_val (pe_callB (call_isiK2 (K := K)) (by rfl) Bi.isinstance (by decide +kernel) (pa_cons (pv 2) (pa_cons (pe_bltn (v := .ty "tuple") (by rfl) Bi.tuple (by decide +kernel) rfl) pa_nil))))) (pw_or1 (pt_not (pt_val (pe_callB (cr_allK (K := K) rfl) (by rfl) Bi.all (by decide +kernel) (pa_cons (pe_lc (own := [("thing", 3)]) (g := (gName 3)) (tt := tYes) rfl c__law_right.nd (pi_tupK (K := K) (pv 2)) (blkOk_by (own := [("thing", 3)]) (N := ["found", "due", "voter", "thing"]) (sc := defScope s__law_right) (by decide +kernel)) (fun _ _ _ _ _ => (pg_name (i := 3) c__law_right.nd rfl (.inl rfl))) (fun _ _ _ _ _ => pts_nil) (fun _ _ _ _ _ => (pe_call G__law_whole (hr.mono (by decide)) (by rfl) D__law_whole.g D__law_whole.F.kp D__law_whole.b .nil pass0 (pa_cons (pv 3) pa_nil)))) pa_nil)))))))
      (pss_one (ps_ret pe_bl))
      pss_nil)))
      (pss_one (ps_ret pe_bl)))))), ?_⟩
  obtain ⟨o, ⟨v1, _, rfl, hf, v2, _, rfl, hd, rfl⟩, hok, q⟩ := h
  dsimp only at q hf hd hok
  cases o with
  | none =>
    have hd : Rp H .none v2 := hd
    refine s_if (b := true) (ett ((evd_op (evd_var rfl hd) evd_non rd_isNo).is rfl)) (fun _ H1 e1 => ?_) (fun hb => by cases hb)
    exact s_retD (evd_op (evd_var rfl (hf.ex e1)) (evd_tup (evs_cons evd_str (evs_cons evd_bl evs_nil)) (Nat.le_of_ble_eq_true rfl)) rd_eqRef) fun v H2 e2 r => q v H2 (e1.trans e2) r
  | some mv =>
    obtain ⟨m, vs⟩ := mv
    obtain ⟨hm, hvt, hvl⟩ := hok m vs rfl
    have hf : Rp H (.tuple [.int m, vD vs]) v1 := hf
    have hd : Rp H (.tuple [.int m, vD vs]) v2 := hd
    refine s_if (b := false) (ett ((evd_op (evd_var rfl hd) evd_non rd_isNo).is rfl)) (fun hb => by cases hb) (fun _ H1 e1 => ?_)
    wtm_at "nx"
    have hf1 := hf.ex e1
    have hd1 := hd.ex e1
    have i0 : ∀ {v : V} {σ : L2.St} {H3 : Hp} {i : Nat}, σ[i]? = some (some v) → Rp H3 (.tuple [.int m, vD vs]) v → EvD (tOp (rIxT K) (tVar i) (tC (.int 0))) σ H3 (.int m) := fun s0 r => evd_op (evd_var s0 r) evd_int (rd_ixT (atI_nat (j := 0) rfl))
    have i1 : ∀ {v : V} {σ : L2.St} {H3 : Hp} {i : Nat}, σ[i]? = some (some v) → Rp H3 (.tuple [.int m, vD vs]) v → EvD (tOp (rIxT K) (tVar i) (tC (.int 1))) σ H3 (vD vs) := fun s0 r => evd_op (evd_var s0 r) evd_int (rd_ixT (atI_nat (j := 1) rfl))
    refine s_if (b := (!true) || ((!decide ((2 : Int) = 2)) || ((!true) || !decide True))) (et_or (et_not (etB (evd_isi (evd_var rfl hf1) (show kitB "tuple" "tuple" = some true by decide +kernel)))) fun _ => et_or (ett (evd_op (evd_cb (evs_cons (evd_var rfl hf1) evs_nil) cd_lenT) evd_int rd_neI)) fun _ => et_or (et_not (etB (ev_whole (k := m) (i0 rfl hf1)))) fun _ => ett (evd_op (i0 rfl hf1) (i0 rfl hd1) (rd_neD (Cmp.int m) (Cmp.int m) ⟨fun _ => trivial, fun _ => rfl⟩))) (fun hb => absurd hb (by simp)) (fun _ H2 e2 => ?_)
    wtm_at "nx"
    have hf2 := hf1.ex e2
    have hd2 := hd1.ex e2
    refine s_if (b := (!true) || !decide (vs = vs)) (et_or (et_not (etB (evd_isi (i1 rfl hf2) (show kitB "list" "list" = some true by decide +kernel)))) fun _ => ett (evd_op (i1 rfl hf2) (i1 rfl hd2) rd_neV)) (fun hb => absurd hb (by simp)) (fun _ H3 e3 => ?_)
    wtm_at "nx"
    have hf3 := hf2.ex e3
    refine s_forD (f := iD) (xs := vs) (i1 rfl hf3) fun H4 e4 => ⟨fun i σ' H' => (∃ y, σ' = [some v1, some v2, y, none]) ∧ Ex H4 H', ?_, ?_, ?_, ?_⟩
    · exact ⟨⟨none, rfl⟩, Ex.refl _⟩
    · rintro i σ' H' ⟨_, e⟩
      exact e
    · rintro i x v σ' H' hx hr ⟨⟨y, rfl⟩, e⟩
      refine g_name ?_
      have ox := hvt x (List.mem_of_getElem? hx)
      have xl := ox.len
      have ha : EvD (tCB (rAll K) (tCons (tLc (iTup K (tVar 2)) (gName 3) tYes (tCall sp__law_whole [] E0 (tCons (tVar 3) tNil)) [3]) tNil)) [some v1, some v2, some v, none] H' (.bool ((x.map fun _ => true).all id)) := by
        refine evd_cb (evs_cons (EvN.toD ?_) evs_nil) cd_all
        have z : EvN (tLc (iTup K (tVar 2)) (gName 3) tYes (tCall sp__law_whole [] E0 (tCons (tVar 3) tNil)) [3]) [some v1, some v2, some v, none] H' ((x.filter fun _ => true).map fun _ => PyData.bool true) := by
          refine' evn_lcT (f := PyData.int) (xs := x) (fun _ => true) (fun _ => .bool true) (evd_var rfl hr) (by omega) ?turn fun _ _ _ => rfl
          intro k u H5 hk e5 r
          exact ⟨[some v1, some v2, some v, some u], fun Q hq => hq, rfl, et_yes, fun _ => ev_whole (k := k) (evd_var rfl r)⟩
        rw [List.filter_eq_self.mpr (fun _ _ => rfl)] at z
        rw [List.map_map]
        exact z
      have hall : ((x.map fun _ => true).all id) = true := by simp
      rw [hall] at ha
      refine s_if (b := (!true) || !true) (et_or (et_not (etB (evd_isi (evd_var rfl hr) (show kitB "tuple" "tuple" = some true by decide +kernel)))) fun _ => et_not (etB ha)) (fun hb => absurd hb (by simp)) (fun _ H5 e5 => ⟨⟨_, rfl⟩, e.trans e5⟩)
    · rintro σ' H' ⟨⟨y, rfl⟩, e⟩
      wtm_at "nx"
      exact s_retD evd_bl fun v H5 e5 r => q v H5 ((((e1.trans e2).trans e3).trans (e4.trans e)).trans e5) r
end
theorem ev_right {σ : L2.St} {H : Hp} {t0 t1 : TE} {E : XK} {o : Option (Int × List (List Int))} (h0 : EvD t0 σ H (foundD o)) (h1 : EvD t1 σ H (dueD o)) (hok : ∀ m vs, o = some (m, vs) → NoteOk m vs) : EvD (tCall sp__law_right [] E (tCons t0 (tCons t1 tNil))) σ H (.bool true) := evd_callO o (evs_cons h0 (evs_cons h1 evs_nil)) hok rfl
end Bm

namespace Bm
open PySem PySem.Spec PyProof.Rows L2 Evl
local macro_rules | `(tactic| wtm_at "rp") => `(tactic| first | exact rp_int | exact rp_bl | exact rp_str | exact rp_non | assumption | (refine' Rp.ex ?e ?h; (case h => assumption); (case e => assumption)) | exact Own.rp (by assumption))
local macro_rules | `(tactic| wtm_at "side") => `(tactic| first | assumption | omega | decide | rfl | exact ⟨by omega, by omega⟩)
local macro_rules | `(tactic| wtm_at "es") => `(tactic| first | exact evs_nil | (refine' evs_cons ?a ?b; (case a => wtm_at "ev"); (case b => wtm_at "es")))
local macro_rules | `(tactic| wtm_at "ev") => `(tactic| first
  | exact evd_int | exact evd_str | exact evd_bl | exact evd_non
  | (refine' evd_var rfl ?h; (case h => wtm_at "rp"))
  | ((with_reducible refine' evd_op ?a ?b rd_addI); (case a => wtm_at "ev"); (case b => wtm_at "ev"))
  | ((with_reducible refine' evd_op ?a ?b rd_subI); (case a => wtm_at "ev"); (case b => wtm_at "ev"))
  | ((with_reducible refine' evd_op ?a ?b (rd_mulI ?c)); (case a => wtm_at "ev"); (case b => wtm_at "ev"); (case c => wtm_at "side"))
  | ((with_reducible refine' evd_op ?a ?b (rd_divI ?c)); (case a => wtm_at "ev"); (case b => wtm_at "ev"); (case c => wtm_at "side"))
  | ((with_reducible refine' evd_op ?a ?b (rd_modI ?c)); (case a => wtm_at "ev"); (case b => wtm_at "ev"); (case c => wtm_at "side"))
  | ((with_reducible refine' evd_op ?a ?b rd_ltI); (case a => wtm_at "ev"); (case b => wtm_at "ev"))
  | ((with_reducible refine' evd_op ?a ?b rd_leI); (case a => wtm_at "ev"); (case b => wtm_at "ev"))
  | ((with_reducible refine' evd_op ?a ?b rd_gtI); (case a => wtm_at "ev"); (case b => wtm_at "ev"))
  | ((with_reducible refine' evd_op ?a ?b rd_geI); (case a => wtm_at "ev"); (case b => wtm_at "ev"))
  | ((with_reducible refine' evd_op ?a ?b rd_eqI); (case a => wtm_at "ev"); (case b => wtm_at "ev"))
  | ((with_reducible refine' evd_op ?a ?b rd_neI); (case a => wtm_at "ev"); (case b => wtm_at "ev"))
  | ((with_reducible refine' evd_op ?a ?b rd_eqB); (case a => wtm_at "ev"); (case b => wtm_at "ev"))
  | ((with_reducible refine' evd_op ?a ?b rd_neB); (case a => wtm_at "ev"); (case b => wtm_at "ev"))
  | ((with_reducible refine' evd_op ?a ?b rd_isNo); (case a => wtm_at "ev"); (case b => wtm_at "ev"))
  | ((with_reducible refine' evd_op ?a ?b rd_notNo); (case a => wtm_at "ev"); (case b => wtm_at "ev"))
  | ((with_reducible refine' evd_op ?a ?b rd_inIL); (case a => wtm_at "ev"); (case b => wtm_at "ev"))
  | ((with_reducible refine' evd_op ?a ?b rd_niIL); (case a => wtm_at "ev"); (case b => wtm_at "ev"))
  | ((with_reducible refine' evd_op ?a ?b rd_inID); (case a => wtm_at "ev"); (case b => wtm_at "ev"))
  | ((with_reducible refine' evd_op ?a ?b rd_niID); (case a => wtm_at "ev"); (case b => wtm_at "ev"))
  | ((with_reducible refine' evd_neg ?a); (case a => wtm_at "ev"))
  | ((with_reducible refine' evd_tix ?a ?b ?c); (case a => wtm_at "ev"); (case b => wtm_at "ev"); (case c => wtm_at "side"))
  | ((with_reducible refine' evd_tup ?a ?b); (case a => wtm_at "es"); (case b => exact Nat.le_of_ble_eq_true rfl))
  | ((with_reducible refine' evd_cb ?a cd_lenL); (case a => wtm_at "es"))
  | ((with_reducible refine' evd_cb ?a cd_lenT); (case a => wtm_at "es"))
  | ((with_reducible refine' evd_cb ?a cd_intB); (case a => wtm_at "es"))
  | ((with_reducible refine' evd_cb ?a cd_tupL); (case a => wtm_at "es"))
  | ((with_reducible refine' evd_and ?a ?b); (case a => wtm_at "ev"); (case b => intro _; wtm_at "ev"))
  | ((with_reducible refine' evd_or ?a ?b); (case a => wtm_at "ev"); (case b => intro _; wtm_at "ev"))
  | ((with_reducible refine' evd_not ?a); (case a => wtm_at "ev"))
  | ((with_reducible refine' evd_op ?a ?b rd_neIL); (case a => wtm_at "ev"); (case b => wtm_at "ev"))
  | ((with_reducible refine' evd_op ?a ?b rd_eqIL); (case a => wtm_at "ev"); (case b => wtm_at "ev"))
  | ((with_reducible refine' EvN.toD ?a); (case a => wtm_at "en")))
local macro_rules | `(tactic| wtm_at "en") => `(tactic| first
  | ((with_reducible refine' evn_cb ?a cn_sortTI); (case a => wtm_at "es"))
  | ((with_reducible refine' evn_cb ?a cn_listL); (case a => wtm_at "es"))
  | ((with_reducible refine' evn_cb ?a cn_listT); (case a => wtm_at "es"))
  | ((with_reducible refine' evn_rng ?a ?b); (case a => wtm_at "ev"); (case b => wtm_at "side"))
  | ((with_reducible refine' evn_lst ?a ?b); (case a => wtm_at "es"); (case b => exact Nat.le_of_ble_eq_true rfl))
  | ((with_reducible refine' evn_cat ?a ?b ?c); (case a => wtm_at "ev"); (case b => wtm_at "ev"); (case c => wtm_at "side"))
  | ((with_reducible refine' evn_slL ?a ?b ?c); (case a => wtm_at "ev"); (case b => first | exact evp_none | (refine' evp_some ?d; (case d => wtm_at "ev"))); (case c => first | exact evp_none | (refine' evp_some ?d; (case d => wtm_at "ev")))))
local macro_rules | `(tactic| wtm_at "et") => `(tactic| first
  | exact et_yes
  | (refine' ett ?a; (case a => wtm_at "ev"))
  | (refine' etB ?a; (case a => wtm_at "ev"))
  | (refine' et_and ?a ?b; (case a => wtm_at "et"); (case b => intro _; wtm_at "et"))
  | (refine' et_or ?a ?b; (case a => wtm_at "et"); (case b => intro _; wtm_at "et"))
  | (refine' et_not ?a; (case a => wtm_at "et")))
local macro_rules | `(tactic| wtm_at "nx") => `(tactic| try dsimp only [tSeq, tNext])
theorem many5 (c : Int) : 1 ≤ 1 + c % 6 ∧ 1 + c % 6 ≤ 6 := by omega
theorem asc_num {m : Int} (h : 0 ≤ m ∧ m ≤ 6) : Asc (toString m : Str) ∧ (toString m : Str).length = 1 ∧ m.natAbs.log2 < 1920 := by
  have : m = 0 ∨ m = 1 ∨ m = 2 ∨ m = 3 ∨ m = 4 ∨ m = 5 ∨ m = 6 := by omega
  rcases this with rfl | rfl | rfl | rfl | rfl | rfl | rfl <;> exact ⟨asc_lit (by decide +kernel), by decide +kernel, by decide +kernel⟩
theorem app_assoc (a b c : Str) : a ++ b ++ c = a ++ (b ++ c) := TL.ext_tl (by rw [TL.tl_append, TL.tl_append, TL.tl_append, TL.tl_append, List.append_assoc])
/-- the text so far -/
def txF (x : Str) (ws : List Str) : Str := ws.foldl (fun a w => a ++ " " ++ w) x
theorem txF_app (a b : Str) : ∀ ws : List Str, txF (a ++ b) ws = a ++ txF b ws := by
  intro ws
  induction ws generalizing b with
  | nil => rfl
  | cons w ws ih =>
    show txF (a ++ b ++ " " ++ w) ws = a ++ txF (b ++ " " ++ w) ws
    rw [app_assoc a b " ", app_assoc a (b ++ " ") w, ih]
theorem txF_join : ∀ (x : Str) (ws : List Str), txF x ws = Txt.join " " (x :: ws) := by
  intro x ws
  rw [TL.join_eq]
  induction ws generalizing x with
  | nil => rfl
  | cons w ws ih =>
    show txF (x ++ " " ++ w) ws = x ++ " " ++ Str.join " " (w :: ws)
    rw [← ih, txF_app]
theorem txF_snoc (x w : Str) (ws : List Str) : txF x (ws ++ [w]) = txF x ws ++ " " ++ w := by
  unfold txF
  rw [List.foldl_append]
  rfl
theorem wordF_facts {m : Int} (hm : m ≤ 6) {v : List Int} (ho : isOrd m v) : Asc (wordF v) ∧ (wordF v).length ≤ 6 := by
  have l0 : ("" : Str).length = 0 := by decide +kernel
  refine ⟨asc_join (asc_lit (by decide +kernel)) fun y hy => ?_, ?_⟩
  · obtain ⟨i, hi, rfl⟩ := List.mem_map.mp hy
    have := ho.mem.mp hi
    exact (asc_num (by omega)).1
  · have := join_len (a := ("" : Str)) (B := 1) (ys := v.map fun i => (toString i : Str)) fun y hy => by
      obtain ⟨i, hi, rfl⟩ := List.mem_map.mp hy
      exact Nat.le_of_eq (fig_len hm (ho.mem.mp hi)).1
    rw [l0, List.length_map, ho.len] at this
    unfold wordF
    omega
theorem txF_facts {m : Int} (hm : m ≤ 6) {x : Str} (hx : Asc x) : ∀ {vs : List (List Int)}, isVot m vs → Asc (txF x (vs.map wordF)) ∧ (txF x (vs.map wordF)).length ≤ x.length + vs.length * 7 := fun {vs} hv => by
  induction vs generalizing x with
  | nil => exact ⟨hx, by simp [txF]⟩
  | cons v vs ih =>
    obtain ⟨w1, w2⟩ := wordF_facts hm (hv v List.mem_cons_self)
    have l1 : (" " : Str).length = 1 := by decide +kernel
    obtain ⟨h1, h2⟩ := ih (x := x ++ " " ++ wordF v) (asc_app (asc_app hx (asc_lit (by decide +kernel))) w1) fun u hu => hv u (List.mem_cons_of_mem _ hu)
    refine ⟨h1, ?_⟩
    rw [PySem.Str.length_append, PySem.Str.length_append, l1] at h2
    show (txF (x ++ " " ++ wordF v) (vs.map wordF)).length ≤ _
    rw [List.length_cons]
    omega
theorem ev_shown {C1 C2 : Addr} {σ : L2.St} {H : Hp} {t0 t1 : TE} {E : XK} {m : Int} {vss : List (List Int)} (h0 : EvD t0 σ H (.int m)) (h1 : EvD t1 σ H (vD vss)) (c : okCount m) (p : isVot m vss) (l : vss.length ≤ 1000) :
    EvD (tCall (sp_shown C1 C2) [] E (tCons t0 (tCons t1 tNil))) σ H (.str (shownF m vss)) := evd_callO (m, vss) (evs_cons h0 (evs_cons h1 evs_nil)) l (chkV_ok c p)
/-- what is told: the data, and where the list stands -/
def EvT3 (te : TE) (σ : L2.St) (H : Hp) (o : Option (Int × List (List Int))) : Prop := ∀ H1, Ex H H1 → ∀ Q : VK, (∀ v H2, Ex H1 H2 → Rp H2 (foundD o) v → (o = none ∨ ∃ a p ob m vs, o = some (m, vs) ∧ v = .ref a ∧ H2 a = some (.frz ob (.tup [.int m, .ref p])) ∧ H1 p = none ∧ ∃ ws, H2 p = some (.lst ws) ∧ ws.length = vs.length) → Q v H2) → te σ H1 Q
theorem ev_told {σ : L2.St} {H : Hp} {t0 : TE} {E : XK} {t : Str} (h0 : EvD t0 σ H (.str t)) (hl : t.length ≤ 40000) : EvT3 (tCall sp__law_told [] E (tCons t0 tNil)) σ H (dueF t) := fun H1 e Q q => by
  refine evs_cons h0 evs_nil H1 e _ fun us H2 e2 r2 => ?_
  show sp__law_told (us ++ []) H2 Q E
  rw [List.append_nil]
  refine ⟨t, r2, hl, ?_⟩
  show Gives H2 Q E (toldO (dueF t))
  cases hd : dueF t with
  | none =>
    rw [hd] at q
    exact fun v H3 e3 r => q v H3 (e2.trans e3) r (.inl rfl)
  | some mv =>
    obtain ⟨m, vs⟩ := mv
    rw [hd] at q
    intro p ws a o H3 hp e3 k1 k2 k3 k4
    exact q _ H3 (e2.trans e3) ⟨a, _, o, rfl, k3, k4, .int m, _, rfl, rfl, .ref p, [], rfl, ⟨p, ws, rfl, k1, k2⟩, rfl⟩ (.inr ⟨a, p, o, m, vs, rfl, rfl, k3, fresh_back e2 hp, ws, k1, by rw [k2.len, List.length_map]⟩)
theorem s_asgT3 {i : Nat} {te : TE} {D : Ends} {σ : L2.St} {H : Hp} {o : Option (Int × List (List Int))} (h : EvT3 te σ H o) (k : ∀ v H2, Ex H H2 → Rp H2 (foundD o) v → (o = none ∨ ∃ a p ob m vs, o = some (m, vs) ∧ v = .ref a ∧ H2 a = some (.frz ob (.tup [.int m, .ref p])) ∧ H p = none ∧ ∃ ws, H2 p = some (.lst ws) ∧ ws.length = vs.length) → D.nx (σ.set i (some v)) H2) : tAsg te (gName i) D σ H := h H (Ex.refl H) _ k
def sp_law (K : PySem.W.Frag) : Sp := fun vs H Q _ => ∃ (a : Addr) (ns : List Int), vs = [.ref a] ∧ SqL K H a (ns.map V.int) ∧ ns.length ≤ 63 ∧ ∀ H2, Q (.bl true) H2
theorem len_law {K : PySem.W.Frag} (vs : List V) (H : Hp) (Q : VK) (E : XK) (h : sp_law K vs H Q E) : vs.length = 1 := by
  obtain ⟨a, ns, rfl, _⟩ := h
  rfl
section
variable {P : Program} {w : World} {K : PySem.W.Frag} {mg : Str → Option Value} {base : Heap}
theorem ok_law {f : Addr} {fd : FuncData} (D : Df K mg "law" s_law ["script"] f fd) (Bi : Bi mg) {f__law_cell_at : Addr} {fd__law_cell_at : FuncData} (D__law_cell_at : Df K mg "_law_cell_at" s__law_cell_at ["script", "k"] f__law_cell_at fd__law_cell_at) (G__law_cell_at : FnOk P w K mg base CX0 1 f__law_cell_at fd__law_cell_at ["script", "k"] (sp__law_cell_at K)) {f__law_voters : Addr} {fd__law_voters : FuncData} (D__law_voters : Df K mg "_law_voters" s__law_voters ["script", "start", "many", "most"] f__law_voters fd__law_voters) (G__law_voters : FnOk P w K mg base CX0 2 f__law_voters fd__law_voters ["script", "start", "many", "most"] (sp__law_voters K)) {f_shown : Addr} {fd_shown : FuncData} (D_shown : Df K mg "shown" s_shown ["many", "voters"] f_shown fd_shown) (G_shown : FnOk P w K mg base (L2.CX P w) 3 f_shown fd_shown ["many", "voters"] (sp_shown C_BadCount C_BadVoter)) {f__law_spoiled : Addr} {fd__law_spoiled : FuncData} (D__law_spoiled : Df K mg "_law_spoiled" s__law_spoiled ["text", "way", "cell", "other"] f__law_spoiled fd__law_spoiled) (G__law_spoiled : FnOk P w K mg base CX0 1 f__law_spoiled fd__law_spoiled ["text", "way", "cell", "other"] sp__law_spoiled) {f__law_odd : Addr} {fd__law_odd : FuncData} (D__law_odd : Df K mg "_law_odd" s__law_odd ["cell"] f__law_odd fd__law_odd) (G__law_odd : FnOk P w K mg base CX0 1 f__law_odd fd__law_odd ["cell"] sp__law_odd) {f__law_due : Addr} {fd__law_due : FuncData} (D__law_due : Df K mg "_law_due" s__law_due ["text"] f__law_due fd__law_due) (G__law_due : FnOk P w K mg base CX0 1 f__law_due fd__law_due ["text"] sp__law_due) {f__law_told : Addr} {fd__law_told : FuncData} (D__law_told : Df K mg "_law_told" s__law_told ["text"] f__law_told fd__law_told) (G__law_told : FnOk P w K mg base CX0 4 f__law_told fd__law_told ["text"] sp__law_told) {f__law_right : Addr} {fd__law_right : FuncData} (D__law_right : Df K mg "_law_right" s__law_right ["found", "due"] f__law_right fd__law_right) (G__law_right : FnOk P w K mg base CX0 2 f__law_right fd__law_right ["found", "due"] sp__law_right) : FnOk P w K mg base CX0 5 f fd ["script"] (sp_law K) := by
  refine D.F.ok c_law (fun vs H Q E h => len_law _ _ _ _ h) (fun cdv A outer s H vs Q E hr h => ?_)
  refine ⟨_, (pss_cons (ps_set (i := 1) c_law.nd rfl (.inl rfl) (pe_op op_addI pe_int (pe_op op_modI (pe_call G__law_cell_at (hr.mono (by decide)) (by rfl) D__law_cell_at.g D__law_cell_at.F.kp D__law_cell_at.b .nil pass0 (pa_cons (pv 0) (pa_cons pe_int pa_nil))) pe_int)))
      (pss_cons (ps_set (i := 2) c_law.nd rfl (.inl rfl) (pe_call G__law_voters (hr.mono (by decide)) (by rfl) D__law_voters.g D__law_voters.F.kp D__law_voters.b .nil pass0 (pa_cons (pv 0) (pa_cons pe_int (pa_cons (pv 1) (pa_cons pe_int pa_nil))))))
      (pss_cons (ps_set (i := 3) c_law.nd rfl (.inl rfl) (pe_op op_addT (pe_callTy cr_strI (by rfl) Bi.str (by decide +kernel) (pa_cons (pv 1) pa_nil)) pe_str))
      (pss_cons (ps_for (PassesOwn.never) rfl (pi_listK (K := K) (pv 2)) (pg_name (i := 4) c_law.nd rfl (.inl rfl))
      (pss_one (ps_set (i := 3) c_law.nd rfl (.inl rfl) (pe_op op_addT (pe_op op_addT (pv 3) pe_str) (pe_m1 PySem.F.slot_str_join PySem.F.type_str_join (mt_joinK (K := K)) pe_str (pe_lc (own := [("thing", 10)]) (g := (gName 10)) (tt := tYes) rfl c_law.nd (pi_tupK (K := K) (pv 4)) (blkOk_by (own := [("thing", 10)]) (N := ["script", "many", "voters", "text", "voter", "handed", "found", "way", "due", "turn", "thing"]) (sc := defScope s_law) (by decide +kernel)) (fun _ _ _ _ _ => (pg_name (i := 10) c_law.nd rfl (.inl rfl))) (fun _ _ _ _ _ => pts_nil) (fun _ _ _ _ _ => (pe_callTy cr_strI (by rfl) Bi.str (by decide +kernel) (pa_cons (pv 10) pa_nil)))))))))
      (pss_cons (ps_set (i := 5) c_law.nd rfl (.inl rfl) (pe_callTy (cr_listK (K := K)) (by rfl) Bi.list (by decide +kernel) (pa_cons (pv 2) pa_nil)))
      (pss_cons (ps_set (i := 6) c_law.nd rfl (.inl rfl) (pe_call G_shown (hr.mono (by decide)) (by rfl) D_shown.g D_shown.F.kp D_shown.b .nil passL (pa_cons (pv 1) (pa_cons (pv 5) pa_nil))))
      (pss_cons (ps_if (PW.pt (pw_or (pt_not (pt_val (pe_callB (call_isiK2 (K := K)) (by rfl) Bi.isinstance (by decide +kernel) (pa_cons (pv 6) (pa_cons (pe_bltn (v := .ty "str") (by rfl) Bi.str (by decide +kernel) rfl) pa_nil))))) (pw_or (pt_cmpR op_neT (pv 6) (pv 3) (nomark _)) (pw_or1 (pt_cmpR (op_neDK (K := K) hr.units) (pv 5) (pv 2) (nomark _))))))
      (pss_one (ps_ret pe_bl))
      pss_nil)
      (pss_cons (ps_set (i := 7) c_law.nd rfl (.inl rfl) (pe_op op_modI (pe_call G__law_cell_at (hr.mono (by decide)) (by rfl) D__law_cell_at.g D__law_cell_at.F.kp D__law_cell_at.b .nil pass0 (pa_cons (pv 0) (pa_cons pe_int pa_nil))) pe_int))
      (pss_cons (ps_set (i := 3) c_law.nd rfl (.inl rfl) (pe_call G__law_spoiled (hr.mono (by decide)) (by rfl) D__law_spoiled.g D__law_spoiled.F.kp D__law_spoiled.b .nil pass0 (pa_cons (pv 3) (pa_cons (pv 7) (pa_cons (pe_call G__law_cell_at (hr.mono (by decide)) (by rfl) D__law_cell_at.g D__law_cell_at.F.kp D__law_cell_at.b .nil pass0 (pa_cons (pv 0) (pa_cons pe_int pa_nil))) (pa_cons (pe_call G__law_cell_at (hr.mono (by decide)) (by rfl) D__law_cell_at.g D__law_cell_at.F.kp D__law_cell_at.b .nil pass0 (pa_cons (pv 0) (pa_cons pe_int pa_nil))) pa_nil))))))
      (pss_cons (ps_if (pt_cmpR op_eqI (pe_op op_modI (pe_op op_divI (pe_call G__law_cell_at (hr.mono (by decide)) (by rfl) D__law_cell_at.g D__law_cell_at.F.kp D__law_cell_at.b .nil pass0 (pa_cons (pv 0) (pa_cons pe_int pa_nil))) pe_int) pe_int) pe_int (nomark _))
      (pss_one (ps_set (i := 3) c_law.nd rfl (.inl rfl) (pe_call G__law_odd (hr.mono (by decide)) (by rfl) D__law_odd.g D__law_odd.F.kp D__law_odd.b .nil pass0 (pa_cons (pe_call G__law_cell_at (hr.mono (by decide)) (by rfl) D__law_cell_at.g D__law_cell_at.F.kp D__law_cell_at.b .nil pass0 (pa_cons (pv 0) (pa_cons pe_int pa_nil))) pa_nil))))
      pss_nil)
      (pss_cons (ps_set (i := 8) c_law.nd rfl (.inl rfl) (pe_call G__law_due (hr.mono (by decide)) (by rfl) D__law_due.g D__law_due.F.kp D__law_due.b .nil pass0 (pa_cons (pv 3) pa_nil)))
      (pss_cons (ps_for (PassesOwn.never) rfl (pi_range1 (by rfl) Bi.range (pa_cons pe_int pa_nil)) (pg_name (i := 9) c_law.nd rfl (.inl rfl))
      (pss_cons (ps_set (i := 6) c_law.nd rfl (.inl rfl) (pe_call G__law_told (hr.mono (by decide)) (by rfl) D__law_told.g D__law_told.F.kp D__law_told.b .nil pass0 (pa_cons (pv 3) pa_nil)))
      (pss_cons (ps_if (pt_not (pt_val (pe_call G__law_right (hr.mono (by decide)) (by rfl) D__law_right.g D__law_right.F.kp D__law_right.b .nil pass0 (pa_cons (pv 6) (pa_cons (pv 8) pa_nil)))))
      (pss_one (ps_ret pe_bl))
      pss_nil)
      (pss_one (ps_if (pt_cmpR op_notNo (pv 8) pe_non (nomark _))
      (pss_one (ps_expr (pe_bm PySem.F.plainAttrs_list PySem.F.slot_list_append PySem.F.type_list_append mt_append (pe_ix (ix_tupK (K := K)) (pv 6) pe_int (fun _ _ => rfl)) (pa_cons (pe_tupF pa_nil) pa_nil))))
      pss_nil)))))
      (pss_one (ps_ret pe_bl)))))))))))))), ?_⟩
  obtain ⟨sa, ns, rfl, hs, hlen, q⟩ := h
  have hm := many5 (cellF ns 0)
  refine' s_asgI (n := 1 + cellF ns 0 % 6) (evd_op evd_int (evd_op (ev_cell hs rfl evd_int (by decide)) evd_int (rd_modI (by decide))) rd_addI) fun H1 e1 => ?_
  wtm_at "nx"
  generalize 1 + cellF ns 0 % 6 = m at hm
  have hm6 : 0 ≤ m ∧ m ≤ 6 := by omega
  have okm : okCount m := hm
  have hs1 := ex_l e1 hs
  have hvot := lawVot_ok ns 1 m 20
  have hvl := lawVot_len ns 1 m (most := 20) (by omega)
  refine' s_asgD (d := vD (lawVot ns 1 m 20)) (EvN.toD (ev_voters (start := 1) (m := m) (most := 20) hs1 rfl evd_int (evd_var rfl rp_int) evd_int (by decide) hm6 (by omega))) fun vv H2 e2 hv2 => ?_
  wtm_at "nx"
  generalize lawVot ns 1 m 20 = vss at hv2 hvot hvl
  have hs2 := ex_l e2 hs1
  obtain ⟨na, nl, nlog⟩ := asc_num hm6
  have col : Asc (":" : Str) ∧ (":" : Str).length = 1 := ⟨asc_lit (by decide +kernel), by decide +kernel⟩
  have spc : Asc (" " : Str) ∧ (" " : Str).length = 1 := ⟨asc_lit (by decide +kernel), by decide +kernel⟩
  refine' s_asgT (b := (toString m : Str) ++ ":") (evd_op (evd_cb (evs_cons (evd_var rfl rp_int) evs_nil) (cd_strI nlog)) evd_str (rd_addT (by omega))) fun H3 e3 => ?_
  wtm_at "nx"
  have hx : Asc ((toString m : Str) ++ ":") := asc_app na col.1
  have hxl : ((toString m : Str) ++ ":").length = 2 := by rw [PySem.Str.length_append, nl, col.2]
  generalize hx0 : (toString m : Str) ++ ":" = x0 at hx hxl
  have hv3 := hv2.ex e3
  refine s_forD (f := iD) (xs := vss) (evd_var rfl hv3) fun H4 e4 => ⟨fun i σ' H' => (∃ y, σ' = [some (.ref sa), some (.int m), some vv, some (.str (txF x0 ((vss.take i).map wordF))), y, none, none, none, none, none, none]) ∧ Ex H4 H', ?_, ?_, ?_, ?_⟩
  · exact ⟨⟨none, rfl⟩, Ex.refl _⟩
  · rintro i σ' H' ⟨_, e⟩
    exact e
  · rintro i x v σ' H' hxi hr ⟨⟨y, rfl⟩, e⟩
    refine g_name ?_
    have ho := hvot x (List.mem_of_getElem? hxi)
    have hxlen := ho.len
    have f1 := txF_facts hm.2 hx (vs := vss.take i) fun u hu => hvot u (List.mem_of_mem_take hu)
    have f2 := wordF_facts hm.2 ho
    have tl1 : (vss.take i).length ≤ 60 := by rw [List.length_take]; omega
    have l0 : ("" : Str).length = 0 := by decide +kernel
    have word : EvD (tM1 (rJoinK K) (tC (.str "")) (tLc (iTup K (tVar 4)) (gName 10) tYes (tCB rStrI (tCons (tVar 10) tNil)) [10])) [some (V.ref sa), some (.int m), some vv, some (.str (txF x0 ((vss.take i).map wordF))), some v, none, none, none, none, none, none] H' (.str (wordF x)) := by
      refine evd_join (ys := x.map fun i => (toString i : Str)) evd_str ((EvN.toD (ds := (x.filter fun _ => true).map fun i => .str (toString i)) ?_).is ?_) ?_
      · refine' evn_lcT (f := PyData.int) (xs := x) (fun _ => true) (fun i => .str (toString i)) (evd_var rfl hr) (by omega) ?tn2 fun _ _ _ => rfl
        intro k vi H6 hi e6 r6
        exact ⟨[some (V.ref sa), some (.int m), some vv, some (.str (txF x0 ((vss.take i).map wordF))), some v, none, none, none, none, none, some vi], fun Q hq => hq, rfl, et_yes, fun _ => evd_cb (evs_cons (evd_var rfl r6) evs_nil) (cd_strI (fig_len hm.2 (ho.mem.mp hi)).2)⟩
      · rw [List.filter_eq_self.mpr (fun _ _ => rfl), List.map_map]
        rfl
      · have := sum_le (B := 1) (ys := x.map fun i => (toString i : Str)) fun y hy => by
          obtain ⟨i, hi, rfl⟩ := List.mem_map.mp hy
          rw [(fig_len hm.2 (ho.mem.mp hi)).1]
          exact Nat.le_refl _
        rw [List.length_map] at this
        rw [l0, List.length_map]
        omega
    refine' s_asgT (b := txF x0 ((vss.take i).map wordF) ++ " " ++ wordF x) (evd_op (evd_op (evd_var rfl rp_str) evd_str (rd_addT (by omega))) word (rd_addT (by rw [PySem.Str.length_append]; omega))) fun H5 e5 => ?_
    refine ⟨⟨some v, ?_⟩, e.trans e5⟩
    rw [List.take_add_one, hxi, List.map_append, show ((some x).toList.map wordF) = [wordF x] from rfl, txF_snoc]
    rfl
  · rintro σ' H' ⟨⟨y, rfl⟩, e⟩
    rw [List.take_length]
    wtm_at "nx"
    have hsh : shownF m vss = txF x0 (vss.map wordF) := by
      rw [txF_join, ← hx0]
      rfl
    have f1 := txF_facts hm.2 hx hvot
    have hv' := (hv3.ex e4).ex e
    have hs' := ex_l ((e3.trans e4).trans e) hs2
    refine' s_asgD (d := vD vss) (EvN.toD (evn_cb (evs_cons (evd_var rfl hv') evs_nil) cn_listL)) fun vh H5 e5 hh => ?_
    wtm_at "nx"
    refine' s_asgT (b := shownF m vss) (ev_shown (evd_var rfl rp_int) (evd_var rfl hh) okm hvot (by omega)) fun H6 e6 => ?_
    wtm_at "nx"
    have hh6 := hh.ex e6
    have hv6 := (hv'.ex e5).ex e6
    refine s_if (b := (!true) || ((!decide (shownF m vss = txF x0 (vss.map wordF))) || !decide (vss = vss))) (et_or (et_not (etB (evd_isi (d := .str (shownF m vss)) (evd_var rfl rp_str) (show kitB "str" "str" = some true by decide +kernel)))) fun _ => et_or (ett (evd_op (evd_var rfl rp_str) (evd_var rfl rp_str) rd_neT)) fun _ => ett (evd_op (evd_var rfl hh6) (evd_var rfl hv6) rd_neV)) (fun hb => absurd hb (by rw [hsh]; simp)) (fun _ H7 e7 => ?_)
    wtm_at "nx"
    have hs7 := ex_l ((e5.trans e6).trans e7) hs'
    refine' s_asgI (n := cellF ns 24 % 12) (evd_op (ev_cell hs7 rfl evd_int (by decide)) evd_int (rd_modI (by decide))) fun H8 e8 => ?_
    wtm_at "nx"
    have hs8 := ex_l e8 hs7
    refine s_asgZ (ev_spoiled (t := txF x0 (vss.map wordF)) (evd_var rfl rp_str) (evd_var rfl rp_int) (ev_cell hs8 rfl evd_int (by decide)) (ev_cell hs8 rfl evd_int (by decide)) f1.1 (by omega)) fun z0 H9 za zl e9 => ?_
    wtm_at "nx"
    have hs9 := ex_l e9 hs8
    refine joinK (A := Str) (fun z => [some (V.ref sa), some (.int m), some vv, some (.str z), y, some vh, some (.str (shownF m vss)), some (.int (cellF ns 24 % 12)), none, none, none]) (fun z H' => Ex H9 H' ∧ Asc z ∧ z.length ≤ 40000) (fun z H10 => ?_) fun cont => ?_
    rotate_left
    · refine' s_if (b := decide (cellF ns 24 / 12 % 8 = 1)) (ett (evd_op (evd_op (evd_op (ev_cell hs9 rfl evd_int (by decide)) evd_int (rd_divI ⟨by decide, by decide⟩)) evd_int (rd_modI (by decide))) evd_int rd_eqI)) (fun _ H10 e10 => ?_) (fun _ H10 e10 => cont z0 H10 ⟨e10, za, zl⟩)
      exact s_asgZ (ev_odd (ev_cell (ex_l e10 hs9) rfl evd_int (by decide))) fun z H11 z1 z2 e11 => cont z H11 ⟨e10.trans e11, z1, z2⟩
    · rintro ⟨e10, za, zl⟩
      wtm_at "nx"
      refine' s_asgD (d := dueD (dueF z)) (ev_due (evd_var rfl rp_str) za zl) fun vd H11 e11 hd => ?_
      wtm_at "nx"
      have hok : ∀ m vs, dueF z = some (m, vs) → NoteOk m vs := fun m vs h => dueW_ok h
      refine' s_forR (n := 2) ?n (by omega) fun H12 e12 => ⟨fun i σ' H' => (∃ f g, σ' = [some (V.ref sa), some (.int m), some vv, some (.str z), y, some vh, f, some (.int (cellF ns 24 % 12)), some vd, g, none]) ∧ Ex H12 H', ?_, ?_, ?_⟩
      case n => wtm_at "es"
      · exact ⟨⟨_, _, rfl⟩, Ex.refl _⟩
      · rintro i σ' H' hi ⟨⟨f, g, rfl⟩, e⟩
        refine g_name ?_
        have hd' := (hd.ex e12).ex e
        refine s_asgT3 (ev_told (t := z) (evd_var rfl rp_str) zl) fun vf H13 e13 hf hcase => ?_
        wtm_at "nx"
        have hd13 := hd'.ex e13
        refine s_if (b := !true) (et_not (etB (ev_right (o := dueF z) (evd_var rfl hf) (evd_var rfl hd13) hok))) (fun hb => absurd hb (by simp)) (fun _ H14 e14 => ?_)
        wtm_at "nx"
        rcases hcase with hn | ⟨a, p, ob, m2, vs2, hsm, rfl, h1, h2, ws, h3, hwl⟩
        · rw [hn] at hd13
          have hd14 : Rp H14 .none vd := Rp.ex (d := .none) e14 hd13
          refine s_if (b := !true) (ett ((evd_op (evd_var rfl hd14) evd_non rd_notNo).is rfl)) (fun hb => by cases hb) (fun _ H15 e15 => ⟨⟨_, _, rfl⟩, ((e.trans e13).trans e14).trans e15⟩)
        · rw [hsm] at hd13
          have hd14 : Rp H14 (.tuple [.int m2, vD vs2]) vd := Rp.ex (d := .tuple [.int m2, vD vs2]) e14 hd13
          refine s_if (b := !false) (ett ((evd_op (evd_var rfl hd14) evd_non rd_notNo).is rfl)) (fun _ H15 e15 => ?_) (fun hb => by cases hb)
          have e1315 := (e13.trans e14).trans e15
          have g1 := (e14.trans e15) _ _ h1
          have g3 := (e14.trans e15) _ _ h3
          refine ⟨.ref a, rfl, a, _, 1, .ref p, rfl, rfl, .inl (.inr ⟨ob, g1⟩), rfl, .inl ⟨rfl, _, SqL.of g3⟩, ?_⟩
          have hvs2 := (hok m2 vs2 hsm).2.2
          refine ⟨Nat.zero_le _, fun pe oe hpe hoe => ⟨p, ws, .ref pe, rfl, rfl, ?_, sz_lt (by omega), ⟨⟨_, _, rfl⟩, Ex.mut ((e.trans e1315).trans (Ex.new hpe)) (fresh_back e h2)⟩⟩⟩
          rw [upd_ne (ne_of_none g3 hpe)]
          exact g3
      · rintro σ' H' ⟨⟨f, g, rfl⟩, e⟩
        wtm_at "nx"
        exact s_retD evd_bl fun v H7 e7 r => by
          obtain rfl : v = .bl true := r
          exact q H7
end
end Bm

namespace Bm
open PySem PySem.Spec PyProof.Rows L2 Evl
/-! ### the end -/
theorem all_mk {l : PySem.W.OpenLaw} {w : World} {K : PySem.W.Frag} {h : Heap} {mg : Str → Option Value} {fa : Addr} (X : K.In h) (G : h.Ns mainGlobals mg) (hfa : mg "law" = some (.ref fa))
    {f__law_cell_at : Addr} {od__law_cell_at an__law_cell_at : Option Addr} {sl__law_cell_at : Array (Option Value)} {oc__law_cell_at kV__law_cell_at dc__law_cell_at pm__law_cell_at cd__law_cell_at ct__law_cell_at : Value}
    (a__law_cell_at : PySem.W.nsIn K mainGlobals "_law_cell_at" = some (some (.ref f__law_cell_at))) (l__law_cell_at : K.lookup f__law_cell_at = some ⟨oc__law_cell_at, od__law_cell_at, .func (PySem.W.fnOf "_law_cell_at" "_law_cell_at" (defArgs s__law_cell_at) (defBody s__law_cell_at) (defScope s__law_cell_at) .none kV__law_cell_at dc__law_cell_at pm__law_cell_at an__law_cell_at cd__law_cell_at ct__law_cell_at), sl__law_cell_at⟩) (c__law_cell_at : PySem.W.codeIn K cd__law_cell_at "_law_cell_at" = true) (k__law_cell_at : PySem.W.keepIn K (.ref f__law_cell_at) = true)
    {f__law_order : Addr} {od__law_order an__law_order : Option Addr} {sl__law_order : Array (Option Value)} {oc__law_order kV__law_order dc__law_order pm__law_order cd__law_order ct__law_order : Value}
    (a__law_order : PySem.W.nsIn K mainGlobals "_law_order" = some (some (.ref f__law_order))) (l__law_order : K.lookup f__law_order = some ⟨oc__law_order, od__law_order, .func (PySem.W.fnOf "_law_order" "_law_order" (defArgs s__law_order) (defBody s__law_order) (defScope s__law_order) .none kV__law_order dc__law_order pm__law_order an__law_order cd__law_order ct__law_order), sl__law_order⟩) (c__law_order : PySem.W.codeIn K cd__law_order "_law_order" = true) (k__law_order : PySem.W.keepIn K (.ref f__law_order) = true)
    {f__law_voters : Addr} {od__law_voters an__law_voters : Option Addr} {sl__law_voters : Array (Option Value)} {oc__law_voters kV__law_voters dc__law_voters pm__law_voters cd__law_voters ct__law_voters : Value}
    (a__law_voters : PySem.W.nsIn K mainGlobals "_law_voters" = some (some (.ref f__law_voters))) (l__law_voters : K.lookup f__law_voters = some ⟨oc__law_voters, od__law_voters, .func (PySem.W.fnOf "_law_voters" "_law_voters" (defArgs s__law_voters) (defBody s__law_voters) (defScope s__law_voters) .none kV__law_voters dc__law_voters pm__law_voters an__law_voters cd__law_voters ct__law_voters), sl__law_voters⟩) (c__law_voters : PySem.W.codeIn K cd__law_voters "_law_voters" = true) (k__law_voters : PySem.W.keepIn K (.ref f__law_voters) = true)
    {f_look_at_count : Addr} {od_look_at_count an_look_at_count : Option Addr} {sl_look_at_count : Array (Option Value)} {oc_look_at_count kV_look_at_count dc_look_at_count pm_look_at_count cd_look_at_count ct_look_at_count : Value}
    (a_look_at_count : PySem.W.nsIn K mainGlobals "look_at_count" = some (some (.ref f_look_at_count))) (l_look_at_count : K.lookup f_look_at_count = some ⟨oc_look_at_count, od_look_at_count, .func (PySem.W.fnOf "look_at_count" "look_at_count" (defArgs s_look_at_count) (defBody s_look_at_count) (defScope s_look_at_count) .none kV_look_at_count dc_look_at_count pm_look_at_count an_look_at_count cd_look_at_count ct_look_at_count), sl_look_at_count⟩) (c_look_at_count : PySem.W.codeIn K cd_look_at_count "look_at_count" = true) (k_look_at_count : PySem.W.keepIn K (.ref f_look_at_count) = true)
    {f_look_at_voters : Addr} {od_look_at_voters an_look_at_voters : Option Addr} {sl_look_at_voters : Array (Option Value)} {oc_look_at_voters kV_look_at_voters dc_look_at_voters pm_look_at_voters cd_look_at_voters ct_look_at_voters : Value}
    (a_look_at_voters : PySem.W.nsIn K mainGlobals "look_at_voters" = some (some (.ref f_look_at_voters))) (l_look_at_voters : K.lookup f_look_at_voters = some ⟨oc_look_at_voters, od_look_at_voters, .func (PySem.W.fnOf "look_at_voters" "look_at_voters" (defArgs s_look_at_voters) (defBody s_look_at_voters) (defScope s_look_at_voters) .none kV_look_at_voters dc_look_at_voters pm_look_at_voters an_look_at_voters cd_look_at_voters ct_look_at_voters), sl_look_at_voters⟩) (c_look_at_voters : PySem.W.codeIn K cd_look_at_voters "look_at_voters" = true) (k_look_at_voters : PySem.W.keepIn K (.ref f_look_at_voters) = true)
    {f_shown : Addr} {od_shown an_shown : Option Addr} {sl_shown : Array (Option Value)} {oc_shown kV_shown dc_shown pm_shown cd_shown ct_shown : Value}
    (a_shown : PySem.W.nsIn K mainGlobals "shown" = some (some (.ref f_shown))) (l_shown : K.lookup f_shown = some ⟨oc_shown, od_shown, .func (PySem.W.fnOf "shown" "shown" (defArgs s_shown) (defBody s_shown) (defScope s_shown) .none kV_shown dc_shown pm_shown an_shown cd_shown ct_shown), sl_shown⟩) (c_shown : PySem.W.codeIn K cd_shown "shown" = true) (k_shown : PySem.W.keepIn K (.ref f_shown) = true)
    {f__law_spoiled : Addr} {od__law_spoiled an__law_spoiled : Option Addr} {sl__law_spoiled : Array (Option Value)} {oc__law_spoiled kV__law_spoiled dc__law_spoiled pm__law_spoiled cd__law_spoiled ct__law_spoiled : Value}
    (a__law_spoiled : PySem.W.nsIn K mainGlobals "_law_spoiled" = some (some (.ref f__law_spoiled))) (l__law_spoiled : K.lookup f__law_spoiled = some ⟨oc__law_spoiled, od__law_spoiled, .func (PySem.W.fnOf "_law_spoiled" "_law_spoiled" (defArgs s__law_spoiled) (defBody s__law_spoiled) (defScope s__law_spoiled) .none kV__law_spoiled dc__law_spoiled pm__law_spoiled an__law_spoiled cd__law_spoiled ct__law_spoiled), sl__law_spoiled⟩) (c__law_spoiled : PySem.W.codeIn K cd__law_spoiled "_law_spoiled" = true) (k__law_spoiled : PySem.W.keepIn K (.ref f__law_spoiled) = true)
    {f__law_odd : Addr} {od__law_odd an__law_odd : Option Addr} {sl__law_odd : Array (Option Value)} {oc__law_odd kV__law_odd dc__law_odd pm__law_odd cd__law_odd ct__law_odd : Value}
    (a__law_odd : PySem.W.nsIn K mainGlobals "_law_odd" = some (some (.ref f__law_odd))) (l__law_odd : K.lookup f__law_odd = some ⟨oc__law_odd, od__law_odd, .func (PySem.W.fnOf "_law_odd" "_law_odd" (defArgs s__law_odd) (defBody s__law_odd) (defScope s__law_odd) .none kV__law_odd dc__law_odd pm__law_odd an__law_odd cd__law_odd ct__law_odd), sl__law_odd⟩) (c__law_odd : PySem.W.codeIn K cd__law_odd "_law_odd" = true) (k__law_odd : PySem.W.keepIn K (.ref f__law_odd) = true)
    {f__law_due : Addr} {od__law_due an__law_due : Option Addr} {sl__law_due : Array (Option Value)} {oc__law_due kV__law_due dc__law_due pm__law_due cd__law_due ct__law_due : Value}
    (a__law_due : PySem.W.nsIn K mainGlobals "_law_due" = some (some (.ref f__law_due))) (l__law_due : K.lookup f__law_due = some ⟨oc__law_due, od__law_due, .func (PySem.W.fnOf "_law_due" "_law_due" (defArgs s__law_due) (defBody s__law_due) (defScope s__law_due) .none kV__law_due dc__law_due pm__law_due an__law_due cd__law_due ct__law_due), sl__law_due⟩) (c__law_due : PySem.W.codeIn K cd__law_due "_law_due" = true) (k__law_due : PySem.W.keepIn K (.ref f__law_due) = true)
    {f_number_of : Addr} {od_number_of an_number_of : Option Addr} {sl_number_of : Array (Option Value)} {oc_number_of kV_number_of dc_number_of pm_number_of cd_number_of ct_number_of : Value}
    (a_number_of : PySem.W.nsIn K mainGlobals "number_of" = some (some (.ref f_number_of))) (l_number_of : K.lookup f_number_of = some ⟨oc_number_of, od_number_of, .func (PySem.W.fnOf "number_of" "number_of" (defArgs s_number_of) (defBody s_number_of) (defScope s_number_of) .none kV_number_of dc_number_of pm_number_of an_number_of cd_number_of ct_number_of), sl_number_of⟩) (c_number_of : PySem.W.codeIn K cd_number_of "number_of" = true) (k_number_of : PySem.W.keepIn K (.ref f_number_of) = true)
    {f_read : Addr} {od_read an_read : Option Addr} {sl_read : Array (Option Value)} {oc_read kV_read dc_read pm_read cd_read ct_read : Value}
    (a_read : PySem.W.nsIn K mainGlobals "read" = some (some (.ref f_read))) (l_read : K.lookup f_read = some ⟨oc_read, od_read, .func (PySem.W.fnOf "read" "read" (defArgs s_read) (defBody s_read) (defScope s_read) .none kV_read dc_read pm_read an_read cd_read ct_read), sl_read⟩) (c_read : PySem.W.codeIn K cd_read "read" = true) (k_read : PySem.W.keepIn K (.ref f_read) = true)
    {f__law_told : Addr} {od__law_told an__law_told : Option Addr} {sl__law_told : Array (Option Value)} {oc__law_told kV__law_told dc__law_told pm__law_told cd__law_told ct__law_told : Value}
    (a__law_told : PySem.W.nsIn K mainGlobals "_law_told" = some (some (.ref f__law_told))) (l__law_told : K.lookup f__law_told = some ⟨oc__law_told, od__law_told, .func (PySem.W.fnOf "_law_told" "_law_told" (defArgs s__law_told) (defBody s__law_told) (defScope s__law_told) .none kV__law_told dc__law_told pm__law_told an__law_told cd__law_told ct__law_told), sl__law_told⟩) (c__law_told : PySem.W.codeIn K cd__law_told "_law_told" = true) (k__law_told : PySem.W.keepIn K (.ref f__law_told) = true)
    {f__law_whole : Addr} {od__law_whole an__law_whole : Option Addr} {sl__law_whole : Array (Option Value)} {oc__law_whole kV__law_whole dc__law_whole pm__law_whole cd__law_whole ct__law_whole : Value}
    (a__law_whole : PySem.W.nsIn K mainGlobals "_law_whole" = some (some (.ref f__law_whole))) (l__law_whole : K.lookup f__law_whole = some ⟨oc__law_whole, od__law_whole, .func (PySem.W.fnOf "_law_whole" "_law_whole" (defArgs s__law_whole) (defBody s__law_whole) (defScope s__law_whole) .none kV__law_whole dc__law_whole pm__law_whole an__law_whole cd__law_whole ct__law_whole), sl__law_whole⟩) (c__law_whole : PySem.W.codeIn K cd__law_whole "_law_whole" = true) (k__law_whole : PySem.W.keepIn K (.ref f__law_whole) = true)
    {f__law_right : Addr} {od__law_right an__law_right : Option Addr} {sl__law_right : Array (Option Value)} {oc__law_right kV__law_right dc__law_right pm__law_right cd__law_right ct__law_right : Value}
    (a__law_right : PySem.W.nsIn K mainGlobals "_law_right" = some (some (.ref f__law_right))) (l__law_right : K.lookup f__law_right = some ⟨oc__law_right, od__law_right, .func (PySem.W.fnOf "_law_right" "_law_right" (defArgs s__law_right) (defBody s__law_right) (defScope s__law_right) .none kV__law_right dc__law_right pm__law_right an__law_right cd__law_right ct__law_right), sl__law_right⟩) (c__law_right : PySem.W.codeIn K cd__law_right "_law_right" = true) (k__law_right : PySem.W.keepIn K (.ref f__law_right) = true)
    {f_law : Addr} {od_law an_law : Option Addr} {sl_law : Array (Option Value)} {oc_law kV_law dc_law pm_law cd_law ct_law : Value}
    (a_law : PySem.W.nsIn K mainGlobals "law" = some (some (.ref f_law))) (l_law : K.lookup f_law = some ⟨oc_law, od_law, .func (PySem.W.fnOf "law" "law" (defArgs s_law) (defBody s_law) (defScope s_law) .none kV_law dc_law pm_law an_law cd_law ct_law), sl_law⟩) (c_law : PySem.W.codeIn K cd_law "law" = true) (k_law : PySem.W.keepIn K (.ref f_law) = true)
    {C_BadCount : Addr} (g_BadCount : PySem.W.nsIn K mainGlobals "BadCount" = some (some (.ref C_BadCount))) (x_BadCount : PySem.W.excIn K C_BadCount [.type "ValueError", .type "Exception", .type "BaseException", .type "object"] "ValueError.__new__" = true) (xk_BadCount : PySem.W.keepIn K (.ref C_BadCount) = true) (xb_BadCount : PySem.W.subIn K (.ref C_BadCount) (.type "BaseException") = some true) (xt_BadCount : PySem.W.typeIn K (.ref C_BadCount) = some (.type "type"))
    {C_BadVoter : Addr} (g_BadVoter : PySem.W.nsIn K mainGlobals "BadVoter" = some (some (.ref C_BadVoter))) (x_BadVoter : PySem.W.excIn K C_BadVoter [.type "ValueError", .type "Exception", .type "BaseException", .type "object"] "ValueError.__new__" = true) (xk_BadVoter : PySem.W.keepIn K (.ref C_BadVoter) = true) (xb_BadVoter : PySem.W.subIn K (.ref C_BadVoter) (.type "BaseException") = some true) (xt_BadVoter : PySem.W.typeIn K (.ref C_BadVoter) = some (.type "type"))
    {C_BadNote : Addr} (g_BadNote : PySem.W.nsIn K mainGlobals "BadNote" = some (some (.ref C_BadNote))) (x_BadNote : PySem.W.excIn K C_BadNote [.type "ValueError", .type "Exception", .type "BaseException", .type "object"] "ValueError.__new__" = true) (xk_BadNote : PySem.W.keepIn K (.ref C_BadNote) = true) (xb_BadNote : PySem.W.subIn K (.ref C_BadNote) (.type "BaseException") = some true) (xt_BadNote : PySem.W.typeIn K (.ref C_BadNote) = some (.type "type"))
    {C_BadWeb : Addr} (g_BadWeb : PySem.W.nsIn K mainGlobals "BadWeb" = some (some (.ref C_BadWeb))) (x_BadWeb : PySem.W.excIn K C_BadWeb [.type "ValueError", .type "Exception", .type "BaseException", .type "object"] "ValueError.__new__" = true) (xk_BadWeb : PySem.W.keepIn K (.ref C_BadWeb) = true) (xb_BadWeb : PySem.W.subIn K (.ref C_BadWeb) (.type "BaseException") = some true) (xt_BadWeb : PySem.W.typeIn K (.ref C_BadWeb) = some (.type "type"))
    {C_TooMany : Addr} (g_TooMany : PySem.W.nsIn K mainGlobals "TooMany" = some (some (.ref C_TooMany))) (x_TooMany : PySem.W.excIn K C_TooMany [.type "ValueError", .type "Exception", .type "BaseException", .type "object"] "ValueError.__new__" = true) (xk_TooMany : PySem.W.keepIn K (.ref C_TooMany) = true) (xb_TooMany : PySem.W.subIn K (.ref C_TooMany) (.type "BaseException") = some true) (xt_TooMany : PySem.W.typeIn K (.ref C_TooMany) = some (.type "type"))
    {C_BeatError : Addr} (g_BeatError : PySem.W.nsIn K mainGlobals "BeatError" = some (some (.ref C_BeatError))) (x_BeatError : PySem.W.excIn K C_BeatError [.type "ValueError", .type "Exception", .type "BaseException", .type "object"] "ValueError.__new__" = true) (xk_BeatError : PySem.W.keepIn K (.ref C_BeatError) = true) (xb_BeatError : PySem.W.subIn K (.ref C_BeatError) (.type "BaseException") = some true) (xt_BeatError : PySem.W.typeIn K (.ref C_BeatError) = some (.type "type"))
    {t_MOST_THINGS : Tok} (v_MOST_THINGS : PySem.W.nsIn K mainGlobals "MOST_THINGS" = some (some (.int 6 t_MOST_THINGS)))
    {t_FIGURES : Tok} (v_FIGURES : PySem.W.nsIn K mainGlobals "FIGURES" = some (some (.str "0123456789" t_FIGURES)))
    {t_MOST_VOTERS : Tok} (v_MOST_VOTERS : PySem.W.nsIn K mainGlobals "MOST_VOTERS" = some (some (.int 60 t_MOST_VOTERS)))
    (z_len : PySem.W.nsIn K mainGlobals "len" = some none)
    (z_range : PySem.W.nsIn K mainGlobals "range" = some none)
    (z_list : PySem.W.nsIn K mainGlobals "list" = some none)
    (z_tuple : PySem.W.nsIn K mainGlobals "tuple" = some none)
    (z_sorted : PySem.W.nsIn K mainGlobals "sorted" = some none)
    (z_int : PySem.W.nsIn K mainGlobals "int" = some none)
    (z_bool : PySem.W.nsIn K mainGlobals "bool" = some none)
    (z_str : PySem.W.nsIn K mainGlobals "str" = some none)
    (z_isinstance : PySem.W.nsIn K mainGlobals "isinstance" = some none)
    (z_reversed : PySem.W.nsIn K mainGlobals "reversed" = some none)
    (z_set : PySem.W.nsIn K mainGlobals "set" = some none)
    (z_all : PySem.W.nsIn K mainGlobals "all" = some none)
    (z_max : PySem.W.nsIn K mainGlobals "max" = some none)
    (z_min : PySem.W.nsIn K mainGlobals "min" = some none)
    (z_ValueError : PySem.W.nsIn K mainGlobals "ValueError" = some none)
    (en : PySem.W.specialIn K (.builtin "object.__class__") "__get__" = some (some (.builtin "getset_descriptor.__get__"))) (et : PySem.W.takesIn K (.builtin "object.__class__") = some true)
    (ed_BadCount : PySem.W.hasDictIn K C_BadCount = true)
    (ed_BadVoter : PySem.W.hasDictIn K C_BadVoter = true)
    (ed_BadWeb : PySem.W.hasDictIn K C_BadWeb = true)
    (ed_TooMany : PySem.W.hasDictIn K C_TooMany = true)
    (ed_BadNote : PySem.W.hasDictIn K C_BadNote = true)
    (ed_BeatError : PySem.W.hasDictIn K C_BeatError = true)
    (eg_BadNote : PySem.W.findIn K (.ref C_BadNote) "__getattribute__" = some (some (.builtin "BaseException.__getattribute__"))) (ek_BadNote : PySem.W.findIn K (.ref C_BadNote) "__getattr__" = some none) (ea_BadNote : PySem.W.findIn K (.ref C_BadNote) "__class__" = some (some (.builtin "object.__class__"))) (em_BadNote : PySem.W.mroIn K C_BadNote (.type "object") = some true) (ev_BadNote : PySem.W.subIn K (.ref C_BadNote) (.type "ValueError") = some true)
    (es_BadNote_BadCount : PySem.W.subIn K (.ref C_BadNote) (.ref C_BadCount) = some false)
    (es_BadNote_BadVoter : PySem.W.subIn K (.ref C_BadNote) (.ref C_BadVoter) = some false)
    (es_BadNote_BadWeb : PySem.W.subIn K (.ref C_BadNote) (.ref C_BadWeb) = some false)
    (es_BadNote_TooMany : PySem.W.subIn K (.ref C_BadNote) (.ref C_TooMany) = some false)
    (es_BadNote_BadNote : PySem.W.subIn K (.ref C_BadNote) (.ref C_BadNote) = some true)
    (es_BadNote_BeatError : PySem.W.subIn K (.ref C_BadNote) (.ref C_BeatError) = some true)
    (es_BadCount_BadCount : PySem.W.subIn K (.ref C_BadCount) (.ref C_BadCount) = some true)
    (es_BadVoter_BadCount : PySem.W.subIn K (.ref C_BadVoter) (.ref C_BadCount) = some false)
    (es_BadVoter_BadVoter : PySem.W.subIn K (.ref C_BadVoter) (.ref C_BadVoter) = some true)
    : ∃ fd : FuncData, (∀ (s : Shared) (v : Value), BindsTo s fd ⟨[v], []⟩ [("script", v)]) ∧ ∀ base : Heap, K.In base → base.Ns mainGlobals mg → FnOk l.prog w K mg base CX0 5 fa fd ["script"] (sp_law K) := by
  have e := hfa.symm.trans (PySem.W.mg_of X G a_law)
  cases e
  have Bi_ : Bi mg := ⟨PySem.W.mg_none_of X G z_len, PySem.W.mg_none_of X G z_range, PySem.W.mg_none_of X G z_list, PySem.W.mg_none_of X G z_tuple, PySem.W.mg_none_of X G z_sorted, PySem.W.mg_none_of X G z_int, PySem.W.mg_none_of X G z_bool, PySem.W.mg_none_of X G z_str, PySem.W.mg_none_of X G z_isinstance, PySem.W.mg_none_of X G z_reversed, PySem.W.mg_none_of X G z_set, PySem.W.mg_none_of X G z_all, PySem.W.mg_none_of X G z_max, PySem.W.mg_none_of X G z_min, PySem.W.mg_none_of X G z_ValueError⟩
  have X_BadCount : Xc K mg "BadCount" C_BadCount := ⟨PySem.W.mg_of X G g_BadCount, x_BadCount, xk_BadCount, xb_BadCount, xt_BadCount⟩
  have X_BadVoter : Xc K mg "BadVoter" C_BadVoter := ⟨PySem.W.mg_of X G g_BadVoter, x_BadVoter, xk_BadVoter, xb_BadVoter, xt_BadVoter⟩
  have X_BadNote : Xc K mg "BadNote" C_BadNote := ⟨PySem.W.mg_of X G g_BadNote, x_BadNote, xk_BadNote, xb_BadNote, xt_BadNote⟩
  have X_BadWeb : Xc K mg "BadWeb" C_BadWeb := ⟨PySem.W.mg_of X G g_BadWeb, x_BadWeb, xk_BadWeb, xb_BadWeb, xt_BadWeb⟩
  have X_TooMany : Xc K mg "TooMany" C_TooMany := ⟨PySem.W.mg_of X G g_TooMany, x_TooMany, xk_TooMany, xb_TooMany, xt_TooMany⟩
  have X_BeatError : Xc K mg "BeatError" C_BeatError := ⟨PySem.W.mg_of X G g_BeatError, x_BeatError, xk_BeatError, xb_BeatError, xt_BeatError⟩
  have Y_ : Ern K mg C_BadCount C_BadVoter C_BadWeb C_TooMany C_BadNote C_BeatError := ⟨PySem.W.mg_of X G g_BadCount, PySem.W.mg_of X G g_BadVoter, PySem.W.mg_of X G g_BadWeb, PySem.W.mg_of X G g_TooMany, PySem.W.mg_of X G g_BadNote, PySem.W.mg_of X G g_BeatError, ⟨⟨eg_BadNote, ek_BadNote, xb_BadNote, ed_BadNote, ea_BadNote, en, et, em_BadNote⟩, PySem.W.exm_ref xb_BeatError ed_BeatError xt_BeatError es_BadNote_BeatError, kit_ref es_BadNote_BadNote es_BadNote_BadCount ed_BadCount xt_BadCount, kit_ref es_BadNote_BadNote es_BadNote_BadVoter ed_BadVoter xt_BadVoter, kit_ref es_BadNote_BadNote es_BadNote_BadWeb ed_BadWeb xt_BadWeb, kit_ref es_BadNote_BadNote es_BadNote_TooMany ed_TooMany xt_TooMany, kit_ref es_BadNote_BadNote es_BadNote_BadNote ed_BadNote xt_BadNote, kit_ve ev_BadNote⟩, PySem.W.exm_ref xb_BadCount ed_BadCount xt_BadCount es_BadCount_BadCount, PySem.W.exm_ref xb_BadCount ed_BadCount xt_BadCount es_BadVoter_BadCount, PySem.W.exm_ref xb_BadVoter ed_BadVoter xt_BadVoter es_BadVoter_BadVoter⟩
  have K_MOST_THINGS := PySem.W.mg_of X G v_MOST_THINGS
  have K_FIGURES := PySem.W.mg_of X G v_FIGURES
  have K_MOST_VOTERS := PySem.W.mg_of X G v_MOST_VOTERS
  have F__law_cell_at := fun_mk (st := s__law_cell_at) l__law_cell_at c__law_cell_at k__law_cell_at
  have D__law_cell_at : Df K mg "_law_cell_at" s__law_cell_at ["script", "k"] f__law_cell_at _ := ⟨F__law_cell_at, F__law_cell_at.binds (ps := ["script", "k"]) fun _ _ _ _ _ _ us hl => match us, hl with | [_, _], _ => rfl, PySem.W.mg_of X G a__law_cell_at⟩
  have F__law_order := fun_mk (st := s__law_order) l__law_order c__law_order k__law_order
  have D__law_order : Df K mg "_law_order" s__law_order ["cell", "many"] f__law_order _ := ⟨F__law_order, F__law_order.binds (ps := ["cell", "many"]) fun _ _ _ _ _ _ us hl => match us, hl with | [_, _], _ => rfl, PySem.W.mg_of X G a__law_order⟩
  have F__law_voters := fun_mk (st := s__law_voters) l__law_voters c__law_voters k__law_voters
  have D__law_voters : Df K mg "_law_voters" s__law_voters ["script", "start", "many", "most"] f__law_voters _ := ⟨F__law_voters, F__law_voters.binds (ps := ["script", "start", "many", "most"]) fun _ _ _ _ _ _ us hl => match us, hl with | [_, _, _, _], _ => rfl, PySem.W.mg_of X G a__law_voters⟩
  have F_look_at_count := fun_mk (st := s_look_at_count) l_look_at_count c_look_at_count k_look_at_count
  have D_look_at_count : Df K mg "look_at_count" s_look_at_count ["many"] f_look_at_count _ := ⟨F_look_at_count, F_look_at_count.binds (ps := ["many"]) fun _ _ _ _ _ _ us hl => match us, hl with | [_], _ => rfl, PySem.W.mg_of X G a_look_at_count⟩
  have F_look_at_voters := fun_mk (st := s_look_at_voters) l_look_at_voters c_look_at_voters k_look_at_voters
  have D_look_at_voters : Df K mg "look_at_voters" s_look_at_voters ["many", "voters"] f_look_at_voters _ := ⟨F_look_at_voters, F_look_at_voters.binds (ps := ["many", "voters"]) fun _ _ _ _ _ _ us hl => match us, hl with | [_, _], _ => rfl, PySem.W.mg_of X G a_look_at_voters⟩
  have F_shown := fun_mk (st := s_shown) l_shown c_shown k_shown
  have D_shown : Df K mg "shown" s_shown ["many", "voters"] f_shown _ := ⟨F_shown, F_shown.binds (ps := ["many", "voters"]) fun _ _ _ _ _ _ us hl => match us, hl with | [_, _], _ => rfl, PySem.W.mg_of X G a_shown⟩
  have F__law_spoiled := fun_mk (st := s__law_spoiled) l__law_spoiled c__law_spoiled k__law_spoiled
  have D__law_spoiled : Df K mg "_law_spoiled" s__law_spoiled ["text", "way", "cell", "other"] f__law_spoiled _ := ⟨F__law_spoiled, F__law_spoiled.binds (ps := ["text", "way", "cell", "other"]) fun _ _ _ _ _ _ us hl => match us, hl with | [_, _, _, _], _ => rfl, PySem.W.mg_of X G a__law_spoiled⟩
  have F__law_odd := fun_mk (st := s__law_odd) l__law_odd c__law_odd k__law_odd
  have D__law_odd : Df K mg "_law_odd" s__law_odd ["cell"] f__law_odd _ := ⟨F__law_odd, F__law_odd.binds (ps := ["cell"]) fun _ _ _ _ _ _ us hl => match us, hl with | [_], _ => rfl, PySem.W.mg_of X G a__law_odd⟩
  have F__law_due := fun_mk (st := s__law_due) l__law_due c__law_due k__law_due
  have D__law_due : Df K mg "_law_due" s__law_due ["text"] f__law_due _ := ⟨F__law_due, F__law_due.binds (ps := ["text"]) fun _ _ _ _ _ _ us hl => match us, hl with | [_], _ => rfl, PySem.W.mg_of X G a__law_due⟩
  have F_number_of := fun_mk (st := s_number_of) l_number_of c_number_of k_number_of
  have D_number_of : Df K mg "number_of" s_number_of ["sign"] f_number_of _ := ⟨F_number_of, F_number_of.binds (ps := ["sign"]) fun _ _ _ _ _ _ us hl => match us, hl with | [_], _ => rfl, PySem.W.mg_of X G a_number_of⟩
  have F_read := fun_mk (st := s_read) l_read c_read k_read
  have D_read : Df K mg "read" s_read ["text"] f_read _ := ⟨F_read, F_read.binds (ps := ["text"]) fun _ _ _ _ _ _ us hl => match us, hl with | [_], _ => rfl, PySem.W.mg_of X G a_read⟩
  have F__law_told := fun_mk (st := s__law_told) l__law_told c__law_told k__law_told
  have D__law_told : Df K mg "_law_told" s__law_told ["text"] f__law_told _ := ⟨F__law_told, F__law_told.binds (ps := ["text"]) fun _ _ _ _ _ _ us hl => match us, hl with | [_], _ => rfl, PySem.W.mg_of X G a__law_told⟩
  have F__law_whole := fun_mk (st := s__law_whole) l__law_whole c__law_whole k__law_whole
  have D__law_whole : Df K mg "_law_whole" s__law_whole ["found"] f__law_whole _ := ⟨F__law_whole, F__law_whole.binds (ps := ["found"]) fun _ _ _ _ _ _ us hl => match us, hl with | [_], _ => rfl, PySem.W.mg_of X G a__law_whole⟩
  have F__law_right := fun_mk (st := s__law_right) l__law_right c__law_right k__law_right
  have D__law_right : Df K mg "_law_right" s__law_right ["found", "due"] f__law_right _ := ⟨F__law_right, F__law_right.binds (ps := ["found", "due"]) fun _ _ _ _ _ _ us hl => match us, hl with | [_, _], _ => rfl, PySem.W.mg_of X G a__law_right⟩
  have F_law := fun_mk (st := s_law) l_law c_law k_law
  have D_law : Df K mg "law" s_law ["script"] fa _ := ⟨F_law, F_law.binds (ps := ["script"]) fun _ _ _ _ _ _ us hl => match us, hl with | [_], _ => rfl, PySem.W.mg_of X G a_law⟩
  refine ⟨PySem.W.fnOf "law" "law" (defArgs s_law) (defBody s_law) (defScope s_law) .none kV_law dc_law pm_law an_law cd_law ct_law, fun s v => .of_eq rfl, fun base _ _ => ?_⟩
  have G__law_cell_at : FnOk l.prog w K mg base CX0 1 f__law_cell_at _ ["script", "k"] (sp__law_cell_at K) := ok__law_cell_at D__law_cell_at Bi_
  have G__law_order : FnOk l.prog w K mg base CX0 1 f__law_order _ ["cell", "many"] sp__law_order := ok__law_order D__law_order Bi_
  have G__law_voters : FnOk l.prog w K mg base CX0 2 f__law_voters _ ["script", "start", "many", "most"] (sp__law_voters K) := ok__law_voters D__law_voters Bi_ D__law_cell_at G__law_cell_at D__law_order G__law_order
  have G_look_at_count : FnOk l.prog w K mg base (L2N.CX l.prog w) 1 f_look_at_count _ ["many"] (sp_look_at_count C_BadCount) := ok_look_at_count D_look_at_count Bi_ X_BadCount K_MOST_THINGS
  have G_look_at_voters : FnOk l.prog w K mg base (L2N.CX l.prog w) 2 f_look_at_voters _ ["many", "voters"] (sp_look_at_voters C_BadCount C_BadVoter) := ok_look_at_voters D_look_at_voters Bi_ X_BadVoter D_look_at_count G_look_at_count
  have G_shown : FnOk l.prog w K mg base (L2.CX l.prog w) 3 f_shown _ ["many", "voters"] (sp_shown C_BadCount C_BadVoter) := ok_shown D_shown Bi_ D_look_at_voters G_look_at_voters
  have G__law_spoiled : FnOk l.prog w K mg base CX0 1 f__law_spoiled _ ["text", "way", "cell", "other"] sp__law_spoiled := ok__law_spoiled D__law_spoiled Bi_
  have G__law_odd : FnOk l.prog w K mg base CX0 1 f__law_odd _ ["cell"] sp__law_odd := ok__law_odd D__law_odd Bi_
  have G__law_due : FnOk l.prog w K mg base CX0 1 f__law_due _ ["text"] sp__law_due := ok__law_due D__law_due Bi_
  have G_number_of : FnOk l.prog w K mg base (L2.CX l.prog w) 1 f_number_of _ ["sign"] (sp_number_of C_BadNote) := ok_number_of D_number_of Bi_ X_BadNote K_FIGURES
  have G_read : FnOk l.prog w K mg base (L2.CX l.prog w) 3 f_read _ ["text"] (sp_read C_BadNote) := ok_read D_read Bi_ Y_ X_BadNote K_MOST_VOTERS D_number_of G_number_of D_look_at_voters G_look_at_voters
  have G__law_told : FnOk l.prog w K mg base CX0 4 f__law_told _ ["text"] sp__law_told := ok__law_told D__law_told Bi_ Y_ D_read G_read
  have G__law_whole : FnOk l.prog w K mg base CX0 1 f__law_whole _ ["found"] sp__law_whole := ok__law_whole D__law_whole Bi_
  have G__law_right : FnOk l.prog w K mg base CX0 2 f__law_right _ ["found", "due"] sp__law_right := ok__law_right D__law_right Bi_ D__law_whole G__law_whole
  have G_law : FnOk l.prog w K mg base CX0 5 fa _ ["script"] (sp_law K) := ok_law D_law Bi_ D__law_cell_at G__law_cell_at D__law_voters G__law_voters D_shown G_shown D__law_spoiled G__law_spoiled D__law_odd G__law_odd D__law_due G__law_due D__law_told G__law_told D__law_right G__law_right
  exact G_law
end Bm
open PySem PySem.W PyProof.Rows
set_option maxHeartbeats 0 in
theorem PySem.Challenge.cw_beatmakers_k07_voters_written_holds : PySem.Challenge.rw_beatmakers_k07_voters_written.Holds := by
  w_on; o_law; k_head; (case hw => w_witness2)
  k_fill
  refine L2.walk_of (l := PySem.Challenge.rw_beatmakers_k07_voters_written) (n := 63) (k := 5) (x := "script") (CX := fun _ => L2.CX0) (sp := fun w => Bm.sp_law _) rfl (by decide) rfl ⟨rfl, by decide, by decide⟩ (fun w h Y => PySem.W.kIn_of Y) ?F (fun _ _ a ns hl _ hS => ⟨a, ns, rfl, hS, hl, fun _ => rfl⟩) (fun _ _ _ _ _ h => h)
  case F =>
    intro w mg fa h KX G hmg
    refine' Bm.all_mk KX G hmg ?a__law_cell_at ?l__law_cell_at ?c__law_cell_at ?k__law_cell_at ?a__law_order ?l__law_order ?c__law_order ?k__law_order ?a__law_voters ?l__law_voters ?c__law_voters ?k__law_voters ?a_look_at_count ?l_look_at_count ?c_look_at_count ?k_look_at_count ?a_look_at_voters ?l_look_at_voters ?c_look_at_voters ?k_look_at_voters ?a_shown ?l_shown ?c_shown ?k_shown ?a__law_spoiled ?l__law_spoiled ?c__law_spoiled ?k__law_spoiled ?a__law_odd ?l__law_odd ?c__law_odd ?k__law_odd ?a__law_due ?l__law_due ?c__law_due ?k__law_due ?a_number_of ?l_number_of ?c_number_of ?k_number_of ?a_read ?l_read ?c_read ?k_read ?a__law_told ?l__law_told ?c__law_told ?k__law_told ?a__law_whole ?l__law_whole ?c__law_whole ?k__law_whole ?a__law_right ?l__law_right ?c__law_right ?k__law_right ?a_law ?l_law ?c_law ?k_law ?g_BadCount ?x_BadCount ?xk_BadCount ?xb_BadCount ?xt_BadCount ?g_BadVoter ?x_BadVoter ?xk_BadVoter ?xb_BadVoter ?xt_BadVoter ?g_BadNote ?x_BadNote ?xk_BadNote ?xb_BadNote ?xt_BadNote ?g_BadWeb ?x_BadWeb ?xk_BadWeb ?xb_BadWeb ?xt_BadWeb ?g_TooMany ?x_TooMany ?xk_TooMany ?xb_TooMany ?xt_TooMany ?g_BeatError ?x_BeatError ?xk_BeatError ?xb_BeatError ?xt_BeatError ?v_MOST_THINGS ?v_FIGURES ?v_MOST_VOTERS ?z_len ?z_range ?z_list ?z_tuple ?z_sorted ?z_int ?z_bool ?z_str ?z_isinstance ?z_reversed ?z_set ?z_all ?z_max ?z_min ?z_ValueError ?en ?et ?ed_BadCount ?ed_BadVoter ?ed_BadWeb ?ed_TooMany ?ed_BadNote ?ed_BeatError ?eg_BadNote ?ek_BadNote ?ea_BadNote ?em_BadNote ?ev_BadNote ?es_BadNote_BadCount ?es_BadNote_BadVoter ?es_BadNote_BadWeb ?es_BadNote_TooMany ?es_BadNote_BadNote ?es_BadNote_BeatError ?es_BadCount_BadCount ?es_BadVoter_BadCount ?es_BadVoter_BadVoter
    (case a__law_cell_at => k_is)
    (case l__law_cell_at => k_is)
    (case c__law_cell_at => k_is)
    (case k__law_cell_at => k_is)
    (case a__law_order => k_is)
    (case l__law_order => k_is)
    (case c__law_order => k_is)
    (case k__law_order => k_is)
    (case a__law_voters => k_is)
    (case l__law_voters => k_is)
    (case c__law_voters => k_is)
    (case k__law_voters => k_is)
    (case a_look_at_count => k_is)
    (case l_look_at_count => k_is)
    (case c_look_at_count => k_is)
    (case k_look_at_count => k_is)
    (case a_look_at_voters => k_is)
    (case l_look_at_voters => k_is)
    (case c_look_at_voters => k_is)
    (case k_look_at_voters => k_is)
    (case a_shown => k_is)
    (case l_shown => k_is)
    (case c_shown => k_is)
    (case k_shown => k_is)
    (case a__law_spoiled => k_is)
    (case l__law_spoiled => k_is)
    (case c__law_spoiled => k_is)
    (case k__law_spoiled => k_is)
    (case a__law_odd => k_is)
    (case l__law_odd => k_is)
    (case c__law_odd => k_is)
    (case k__law_odd => k_is)
    (case a__law_due => k_is)
    (case l__law_due => k_is)
    (case c__law_due => k_is)
    (case k__law_due => k_is)
    (case a_number_of => k_is)
    (case l_number_of => k_is)
    (case c_number_of => k_is)
    (case k_number_of => k_is)
    (case a_read => k_is)
    (case l_read => k_is)
    (case c_read => k_is)
    (case k_read => k_is)
    (case a__law_told => k_is)
    (case l__law_told => k_is)
    (case c__law_told => k_is)
    (case k__law_told => k_is)
    (case a__law_whole => k_is)
    (case l__law_whole => k_is)
    (case c__law_whole => k_is)
    (case k__law_whole => k_is)
    (case a__law_right => k_is)
    (case l__law_right => k_is)
    (case c__law_right => k_is)
    (case k__law_right => k_is)
    (case a_law => k_is)
    (case l_law => k_is)
    (case c_law => k_is)
    (case k_law => k_is)
    (case g_BadCount => k_is)
    (case x_BadCount => k_exc)
    (case xk_BadCount => k_is)
    (case xb_BadCount => k_is)
    (case xt_BadCount => k_is)
    (case g_BadVoter => k_is)
    (case x_BadVoter => k_exc)
    (case xk_BadVoter => k_is)
    (case xb_BadVoter => k_is)
    (case xt_BadVoter => k_is)
    (case g_BadNote => k_is)
    (case x_BadNote => k_exc)
    (case xk_BadNote => k_is)
    (case xb_BadNote => k_is)
    (case xt_BadNote => k_is)
    (case g_BadWeb => k_is)
    (case x_BadWeb => k_exc)
    (case xk_BadWeb => k_is)
    (case xb_BadWeb => k_is)
    (case xt_BadWeb => k_is)
    (case g_TooMany => k_is)
    (case x_TooMany => k_exc)
    (case xk_TooMany => k_is)
    (case xb_TooMany => k_is)
    (case xt_TooMany => k_is)
    (case g_BeatError => k_is)
    (case x_BeatError => k_exc)
    (case xk_BeatError => k_is)
    (case xb_BeatError => k_is)
    (case xt_BeatError => k_is)
    (case v_MOST_THINGS => k_is)
    (case v_FIGURES => k_is)
    (case v_MOST_VOTERS => k_is)
    (case z_len => k_is)
    (case z_range => k_is)
    (case z_list => k_is)
    (case z_tuple => k_is)
    (case z_sorted => k_is)
    (case z_int => k_is)
    (case z_bool => k_is)
    (case z_str => k_is)
    (case z_isinstance => k_is)
    (case z_reversed => k_is)
    (case z_set => k_is)
    (case z_all => k_is)
    (case z_max => k_is)
    (case z_min => k_is)
    (case z_ValueError => k_is)
    (case en => k_is)
    (case et => k_is)
    (case ed_BadCount => k_is)
    (case ed_BadVoter => k_is)
    (case ed_BadWeb => k_is)
    (case ed_TooMany => k_is)
    (case ed_BadNote => k_is)
    (case ed_BeatError => k_is)
    (case eg_BadNote => k_is)
    (case ek_BadNote => k_is)
    (case ea_BadNote => k_is)
    (case em_BadNote => k_is)
    (case ev_BadNote => k_is)
    (case es_BadNote_BadCount => k_is)
    (case es_BadNote_BadVoter => k_is)
    (case es_BadNote_BadWeb => k_is)
    (case es_BadNote_TooMany => k_is)
    (case es_BadNote_BadNote => k_is)
    (case es_BadNote_BeatError => k_is)
    (case es_BadCount_BadCount => k_is)
    (case es_BadVoter_BadCount => k_is)
    (case es_BadVoter_BadVoter => k_is)

