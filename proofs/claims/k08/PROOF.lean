import PyProof.Rows.All
import Wide.All
import OpenK.AllK
import Wide.FinOn
import HandS.Base
import HandS.Call
import HandS.List
import HandS.Comp
import HandS.Ends
import HandS.Dict
import HandS.Iter
import HandS.Text
import HandS.Words
import HandS.WordsList
import HandS.Evl
import HandS.Conv
import HandS.Strs
import HandS.TupAny
import HandS.Rev
import HandS.SortInts
import HandS.Deep
import HandS.Style
import HandS.IsInst
import HandS.Exc
import HandS.ExcOwn
import HandS.WordsExc
import KE.KSortedM
import HandS.TupSets
import HandS.Walk
import PyProof.Rows.TupDisplay
import HandS.MapJoin
import KE.KxText
import HandS.TupMul
import HandS.ExcIs
import PySem.Challenge.RW_beatmakers_k08_refusals
set_option Elab.async false
set_option linter.all false
set_option maxRecDepth 100000
set_option maxHeartbeats 4000000
/-! Data (PyData) in the abstract heap, and what a reading evaluates to as data. -/
namespace Bm
open PySem PySem.Spec PyProof.Rows L2 Evl

/-! ### a value that is this data; lists and tuples are tracked objects -/
mutual
def Rp (H : Hp) : PyData → V → Prop
  | .none, v => v = .non
  | .bool b, v => v = .bl b
  | .int i, v => v = .int i
  | .str s, v => v = .str s
  | .list ds, v => ∃ a xs, v = .ref a ∧ H a = some (.lst xs) ∧ RpA H ds xs
  | .tuple ds, v => ∃ a xs o, v = .ref a ∧ H a = some (.frz o (.tup xs)) ∧ o.dict = Option.none ∧ RpA H ds xs
  | .dict _, _ => False
def RpA (H : Hp) : List PyData → List V → Prop
  | [], vs => vs = []
  | d :: ds, vs => ∃ v r, vs = v :: r ∧ Rp H d v ∧ RpA H ds r
end

mutual
theorem Rp.ex {H H' : Hp} (e : Ex H H') : ∀ {d : PyData} {v : V}, Rp H d v → Rp H' d v
  | .none, _, h => h
  | .bool _, _, h => h
  | .int _, _, h => h
  | .str _, _, h => h
  | .list _, _, h => by
    obtain ⟨a, xs, e1, e2, e3⟩ := h
    exact ⟨a, xs, e1, e a _ e2, RpA.ex e e3⟩
  | .tuple _, _, h => by
    obtain ⟨a, xs, o, e1, e2, e4, e3⟩ := h
    exact ⟨a, xs, o, e1, e a _ e2, e4, RpA.ex e e3⟩
  | .dict _, _, h => h
theorem RpA.ex {H H' : Hp} (e : Ex H H') : ∀ {ds : List PyData} {vs : List V}, RpA H ds vs → RpA H' ds vs
  | [], _, h => h
  | _ :: _, _, h => by
    obtain ⟨v, r, e1, e2, e3⟩ := h
    exact ⟨v, r, e1, Rp.ex e e2, RpA.ex e e3⟩
end

/-! data without a list in it -/
mutual
def imm : PyData → Bool
  | .list _ => false
  | .dict _ => false
  | .tuple ds => immA ds
  | _ => true
def immA : List PyData → Bool
  | [] => true
  | d :: ds => imm d && immA ds
end
theorem immA_iff : ∀ {ds : List PyData}, immA ds = true ↔ ∀ d ∈ ds, imm d = true
  | [] => by simp [immA]
  | d :: ds => by
    rw [immA, Bool.and_eq_true, immA_iff (ds := ds), List.forall_mem_cons]
/-- the tuples stay -/
def KT (H H' : Hp) : Prop := ∀ a o xs, H a = some (.frz o (.tup xs)) → H' a = some (.frz o (.tup xs))
theorem KT.refl (H : Hp) : KT H H := fun _ _ _ h => h
theorem KT.trans {H H1 H2 : Hp} (a : KT H H1) (b : KT H1 H2) : KT H H2 := fun x o xs h => b x o xs (a x o xs h)
theorem KT.of {H H' : Hp} (e : Ex H H') : KT H H' := fun a _ xs h => e a _ h
theorem KT.upd {H : Hp} {l : Addr} {u o : HO} (h : H l = some u) (n : ∀ ob xs, u ≠ .frz ob (.tup xs)) : KT H (L2.upd H l o) := fun a ob ys e => by
  rw [upd_ne (ne_of e h (fun z => n ob ys z.symm))]
  exact e
theorem KT.lst {H : Hp} {l : Addr} {xs : List V} {o : HO} (h : H l = some (.lst xs)) : KT H (L2.upd H l o) := KT.upd h fun _ _ z => by cases z
mutual
theorem Rp.keep {H H' : Hp} (e : KT H H') : ∀ {d : PyData} {v : V}, imm d = true → Rp H d v → Rp H' d v
  | .none, _, _, h => h
  | .bool _, _, _, h => h
  | .int _, _, _, h => h
  | .str _, _, _, h => h
  | .list _, _, i, _ => by cases i
  | .tuple _, _, i, h => by
    obtain ⟨a, xs, o, e1, e2, e4, e3⟩ := h
    exact ⟨a, xs, o, e1, e a _ _ e2, e4, RpA.keep e i e3⟩
  | .dict _, _, _, h => h
theorem RpA.keep {H H' : Hp} (e : KT H H') : ∀ {ds : List PyData} {vs : List V}, immA ds = true → RpA H ds vs → RpA H' ds vs
  | [], _, _, h => h
  | _ :: _, _, i, h => by
    obtain ⟨v, r, e1, e2, e3⟩ := h
    rw [immA, Bool.and_eq_true] at i
    exact ⟨v, r, e1, Rp.keep e i.1 e2, RpA.keep e i.2 e3⟩
end

mutual
theorem Rp.dp {K : PySem.W.Frag} {H : Hp} : ∀ {d : PyData} {v : V}, Rp H d v → Dp K H v d
  | .none, _, h => by cases h; exact .non
  | .bool _, _, h => by cases h; exact .bl _
  | .int _, _, h => by cases h; exact .int _
  | .str _, _, h => by cases h; exact .str _
  | .list _, _, h => by
    obtain ⟨a, xs, e1, e2, e3⟩ := h
    rw [e1]
    exact .lst (SqL.of e2) (RpA.dp e3)
  | .tuple _, _, h => by
    obtain ⟨a, xs, o, e1, e2, e4, e3⟩ := h
    rw [e1]
    exact .tup (.inl (.inr ⟨o, e2⟩)) (RpA.dp e3)
  | .dict _, _, h => h.elim
theorem RpA.dp {K : PySem.W.Frag} {H : Hp} : ∀ {ds : List PyData} {vs : List V}, RpA H ds vs → DpAll K H vs ds
  | [], _, h => by cases h; exact .nil
  | _ :: _, _, h => by
    obtain ⟨v, r, e1, e2, e3⟩ := h
    rw [e1]
    exact .cons (Rp.dp e2) (RpA.dp e3)
end

/-! ### lists of data -/
section
variable {H H' : Hp}
theorem RpA.nil : RpA H [] [] := rfl
theorem RpA.cons {d : PyData} {ds : List PyData} {v : V} {vs : List V} (h : Rp H d v) (t : RpA H ds vs) : RpA H (d :: ds) (v :: vs) := ⟨v, vs, rfl, h, t⟩
theorem RpA.len : ∀ {ds : List PyData} {vs : List V}, RpA H ds vs → vs.length = ds.length
  | [], _, h => by cases h; rfl
  | _ :: _, _, h => by
    obtain ⟨v, r, rfl, _, e3⟩ := h
    rw [List.length_cons, List.length_cons, RpA.len e3]
theorem RpA.get : ∀ {ds : List PyData} {vs : List V} {i : Nat} {d : PyData}, RpA H ds vs → ds[i]? = some d → ∃ v, vs[i]? = some v ∧ Rp H d v
  | [], _, _, _, _, e => by simp at e
  | _ :: _, _, 0, _, h, e => by
    obtain ⟨v, r, rfl, e2, _⟩ := h
    cases e
    exact ⟨v, rfl, e2⟩
  | _ :: _, _, i + 1, _, h, e => by
    obtain ⟨v, r, rfl, _, e3⟩ := h
    exact RpA.get (i := i) e3 e
theorem RpA.getv : ∀ {ds : List PyData} {vs : List V} {i : Nat} {v : V}, RpA H ds vs → vs[i]? = some v → ∃ d, ds[i]? = some d ∧ Rp H d v
  | [], _, _, _, h, e => by cases h; simp at e
  | d :: _, _, 0, _, h, e => by
    obtain ⟨v, r, rfl, e2, _⟩ := h
    cases e
    exact ⟨d, rfl, e2⟩
  | _ :: _, _, i + 1, _, h, e => by
    obtain ⟨v, r, rfl, _, e3⟩ := h
    exact RpA.getv (i := i) e3 e
theorem RpA.get2 {ds : List PyData} {vs : List V} {i : Nat} {d : PyData} {v : V} (h : RpA H ds vs) (e : ds[i]? = some d) (e' : vs[i]? = some v) : Rp H d v := by
  obtain ⟨u, q, r⟩ := h.get e
  rw [e'] at q; cases q
  exact r
theorem RpA.app : ∀ {ds es : List PyData} {vs ws : List V}, RpA H ds vs → RpA H es ws → RpA H (ds ++ es) (vs ++ ws)
  | [], _, _, _, h, t => by cases h; exact t
  | _ :: _, _, _, _, h, t => by
    obtain ⟨v, r, rfl, e2, e3⟩ := h
    exact ⟨v, _, rfl, e2, RpA.app e3 t⟩
theorem RpA.snoc {ds : List PyData} {d : PyData} {vs : List V} {v : V} (h : RpA H ds vs) (t : Rp H d v) : RpA H (ds ++ [d]) (vs ++ [v]) := h.app (RpA.cons t RpA.nil)
theorem RpA.take : ∀ {ds : List PyData} {vs : List V} (n : Nat), RpA H ds vs → RpA H (ds.take n) (vs.take n)
  | _, _, 0, _ => by simp only [List.take_zero]; exact RpA.nil
  | [], _, n + 1, h => by cases h; exact RpA.nil
  | _ :: _, _, n + 1, h => by
    obtain ⟨v, r, rfl, e2, e3⟩ := h
    exact ⟨v, _, rfl, e2, RpA.take n e3⟩
theorem RpA.drop : ∀ {ds : List PyData} {vs : List V} (n : Nat), RpA H ds vs → RpA H (ds.drop n) (vs.drop n)
  | _, _, 0, h => h
  | [], _, n + 1, h => by cases h; exact RpA.nil
  | _ :: _, _, n + 1, h => by
    obtain ⟨v, r, rfl, e2, e3⟩ := h
    exact RpA.drop n e3
theorem RpA.rev : ∀ {ds : List PyData} {vs : List V}, RpA H ds vs → RpA H ds.reverse vs.reverse
  | [], _, h => by cases h; exact RpA.nil
  | _ :: _, _, h => by
    obtain ⟨v, r, rfl, e2, e3⟩ := h
    rw [List.reverse_cons, List.reverse_cons]
    exact (RpA.rev e3).snoc e2
theorem RpA.erase : ∀ {ds : List PyData} {vs : List V} (n : Nat), RpA H ds vs → RpA H (ds.eraseIdx n) (vs.eraseIdx n)
  | [], _, _, h => by cases h; exact RpA.nil
  | _ :: _, _, 0, h => by
    obtain ⟨v, r, rfl, e2, e3⟩ := h
    exact e3
  | _ :: _, _, n + 1, h => by
    obtain ⟨v, r, rfl, e2, e3⟩ := h
    exact ⟨v, _, rfl, e2, RpA.erase n e3⟩
theorem RpA.rep {ds : List PyData} {vs : List V} (h : RpA H ds vs) : ∀ k : Nat, RpA H (List.replicate k ds).flatten (List.replicate k vs).flatten
  | 0 => RpA.nil
  | k + 1 => by
    rw [List.replicate_succ, List.replicate_succ, List.flatten_cons, List.flatten_cons]
    exact h.app (RpA.rep h k)
theorem rpa_map {α : Type} {f : α → PyData} {g : α → V} (h : ∀ x, Rp H (f x) (g x)) : ∀ xs : List α, RpA H (xs.map f) (xs.map g)
  | [] => RpA.nil
  | x :: xs => ⟨g x, _, rfl, h x, rpa_map h xs⟩
theorem rpa_map_inv {α : Type} {f : α → PyData} {g : α → V} (h : ∀ x v, Rp H (f x) v → v = g x) : ∀ {xs : List α} {vs : List V}, RpA H (xs.map f) vs → vs = xs.map g
  | [], _, r => r
  | x :: xs, _, r => by
    obtain ⟨v, t, rfl, e2, e3⟩ := r
    rw [List.map_cons, h x v e2, rpa_map_inv h e3]
theorem rpa_ints (ns : List Int) : RpA H (ns.map PyData.int) (ns.map V.int) := rpa_map (f := PyData.int) (g := V.int) (fun _ => rfl) ns
theorem RpA.ints {ns : List Int} {vs : List V} (h : RpA H (ns.map PyData.int) vs) : vs = ns.map V.int := rpa_map_inv (f := PyData.int) (g := V.int) (fun _ _ e => e) h
theorem rpa_strs (ns : List Str) : RpA H (ns.map PyData.str) (ns.map V.str) := rpa_map (f := PyData.str) (g := V.str) (fun _ => rfl) ns
theorem RpA.strs {ns : List Str} {vs : List V} (h : RpA H (ns.map PyData.str) vs) : vs = ns.map V.str := rpa_map_inv (f := PyData.str) (g := V.str) (fun _ _ e => e) h
theorem rpa_bls (ns : List Bool) : RpA H (ns.map PyData.bool) (ns.map V.bl) := rpa_map (f := PyData.bool) (g := V.bl) (fun _ => rfl) ns
theorem RpA.bls {ns : List Bool} {vs : List V} (h : RpA H (ns.map PyData.bool) vs) : vs = ns.map V.bl := rpa_map_inv (f := PyData.bool) (g := V.bl) (fun _ _ e => e) h
/-- another row of data is the same data -/
theorem RpA.mem : ∀ {ds : List PyData} {vs : List V} {d : PyData}, RpA H ds vs → d ∈ ds → ∃ v ∈ vs, Rp H d v
  | d :: ds, _, x, h, m => by
    obtain ⟨v, r, rfl, e2, e3⟩ := h
    rcases List.mem_cons.mp m with rfl | m
    · exact ⟨v, List.mem_cons_self, e2⟩
    · obtain ⟨u, hu, q⟩ := RpA.mem e3 m
      exact ⟨u, List.mem_cons_of_mem _ hu, q⟩
end

/-! ### short words for data -/
abbrev iD (ns : List Int) : PyData := .tuple (ns.map .int)
abbrev iL (ns : List Int) : PyData := .list (ns.map .int)
abbrev pD (p : Int × Int) : PyData := .tuple [.int p.1, .int p.2]
abbrev vD (vs : List (List Int)) : PyData := .list (vs.map iD)
abbrev wD (ps : List (Int × Int)) : PyData := .list (ps.map pD)
theorem imm_ints (ns : List Int) : immA (ns.map .int) = true := immA_iff.mpr fun d h => by
  obtain ⟨x, _, rfl⟩ := List.mem_map.mp h
  rfl
theorem imm_iD (ns : List Int) : imm (iD ns) = true := imm_ints ns
theorem imm_vD (vs : List (List Int)) : immA (vs.map iD) = true := immA_iff.mpr fun d h => by
  obtain ⟨x, _, rfl⟩ := List.mem_map.mp h
  exact imm_iD x
theorem imm_wD (ps : List (Int × Int)) : immA (ps.map pD) = true := immA_iff.mpr fun d h => by
  obtain ⟨x, _, rfl⟩ := List.mem_map.mp h
  rfl
theorem Rp.iD {H : Hp} {v : V} {ns : List Int} (h : Rp H (iD ns) v) : ∃ a o, v = .ref a ∧ H a = some (.frz o (.tup (ns.map V.int))) ∧ o.dict = Option.none := by
  obtain ⟨a, xs, o, e1, e2, e4, e3⟩ := h
  exact ⟨a, o, e1, by rw [e2, e3.ints], e4⟩
theorem Rp.seqT {K : PySem.W.Frag} {H : Hp} {v : V} {ds : List PyData} (h : Rp H (.tuple ds) v) : ∃ a xs, v = .ref a ∧ SqT K H a xs ∧ RpA H ds xs := by
  obtain ⟨a, xs, o, e1, e2, e4, e3⟩ := h
  exact ⟨a, xs, e1, .inl (.inr ⟨o, e2⟩), e3⟩
theorem Rp.seqL {K : PySem.W.Frag} {H : Hp} {v : V} {ds : List PyData} (h : Rp H (.list ds) v) : ∃ a xs, v = .ref a ∧ SqL K H a xs ∧ RpA H ds xs := by
  obtain ⟨a, xs, e1, e2, e3⟩ := h
  exact ⟨a, xs, e1, SqL.of e2, e3⟩
theorem Rp.iL {H : Hp} {v : V} {ns : List Int} (h : Rp H (iL ns) v) : ∃ a, v = .ref a ∧ H a = some (.lst (ns.map V.int)) := by
  obtain ⟨a, xs, e1, e2, e3⟩ := h
  exact ⟨a, e1, by rw [e2, e3.ints]⟩
theorem Rp.pD {H : Hp} {v : V} {p : Int × Int} (h : Rp H (pD p) v) : ∃ a o, v = .ref a ∧ H a = some (.frz o (.tup [.int p.1, .int p.2])) ∧ o.dict = Option.none := by
  obtain ⟨a, xs, o, e1, e2, e4, v1, r1, rfl, q1, v2, r2, rfl, q2, q3⟩ := h
  cases q1
  cases q2
  cases q3
  exact ⟨a, o, e1, e2, e4⟩

/-! ### what an expression evaluates to -/
def EvD (te : TE) (σ : L2.St) (H : Hp) (d : PyData) : Prop := ∀ H1, Ex H H1 → ∀ Q : VK, (∀ v H2, Ex H1 H2 → Rp H2 d v → Q v H2) → te σ H1 Q
/-- a new list -/
def EvN (te : TE) (σ : L2.St) (H : Hp) (ds : List PyData) : Prop := ∀ H1, Ex H H1 → ∀ Q : VK, (∀ p vs H2, H1 p = none → Ex H1 H2 → H2 p = some (.lst vs) → RpA H2 ds vs → Q (.ref p) H2) → te σ H1 Q
def EvS (ta : TA) (σ : L2.St) (H : Hp) (ds : List PyData) : Prop := ∀ H1, Ex H H1 → ∀ Q : List V → Hp → Prop, (∀ vs H2, Ex H1 H2 → RpA H2 ds vs → Q vs H2) → ta σ H1 Q
section
variable {K : PySem.W.Frag} {σ : L2.St} {H H' : Hp} {ta tb te tx : TE} {t u : TT} {d x y z : PyData} {ds : List PyData}
theorem EvD.mono (e : Ex H H') (h : EvD te σ H d) : EvD te σ H' d := fun H1 a Q q => h H1 (e.trans a) Q q
theorem EvN.mono (e : Ex H H') (h : EvN te σ H ds) : EvN te σ H' ds := fun H1 a Q q => h H1 (e.trans a) Q q
theorem EvS.mono {ta : TA} (e : Ex H H') (h : EvS ta σ H ds) : EvS ta σ H' ds := fun H1 a Q q => h H1 (e.trans a) Q q
theorem EvN.toD (h : EvN te σ H ds) : EvD te σ H (.list ds) := fun H1 e Q q => h H1 e Q fun p vs H2 _ e2 h2 h3 => q _ H2 e2 ⟨p, vs, rfl, h2, h3⟩
theorem EvD.is {d' : PyData} (h : EvD te σ H d) (e : d = d') : EvD te σ H d' := e ▸ h
theorem evd_var {i : Nat} {v : V} (h : σ[i]? = some (some v)) (r : Rp H d v) : EvD (tVar i) σ H d := fun H1 e _ q => ⟨v, h, q v H1 (Ex.refl H1) (r.ex e)⟩
theorem evd_int {i : Int} : EvD (tC (.int i)) σ H (.int i) := fun H1 _ _ q => q _ H1 (Ex.refl H1) rfl
theorem evd_str {i : Str} : EvD (tC (.str i)) σ H (.str i) := fun H1 _ _ q => q _ H1 (Ex.refl H1) rfl
theorem evd_bl {b : Bool} : EvD (tC (.bl b)) σ H (.bool b) := fun H1 _ _ q => q _ H1 (Ex.refl H1) rfl
theorem evd_non : EvD (tC .non) σ H .none := fun H1 _ _ q => q _ H1 (Ex.refl H1) rfl
/-- a two-place operation on data -/
def RD (r : R2) (x y : PyData) (H : Hp) (z : PyData) : Prop := ∀ H1 v u, Ex H H1 → Rp H1 x v → Rp H1 y u → ∀ Q : VK, (∀ w H2, Ex H1 H2 → Rp H2 z w → Q w H2) → r v u H1 Q
theorem evd_op {r : R2} (ha : EvD ta σ H x) (hb : EvD tb σ H y) (hr : RD r x y H z) : EvD (tOp r ta tb) σ H z := fun H1 e Q q =>
  ha H1 e _ fun v H2 e2 r2 => hb H2 (e.trans e2) _ fun u H3 e3 r3 => hr H3 v u ((e.trans e2).trans e3) (r2.ex e3) r3 Q fun w H4 e4 r4 => q w H4 ((e2.trans e3).trans e4) r4
theorem rd_val {r : R2} (h : ∀ H1 v u, Ex H H1 → Rp H1 x v → Rp H1 y u → ∃ w, Rp H1 z w ∧ ∀ Q : VK, Q w H1 → r v u H1 Q) : RD r x y H z := fun H1 v u e r1 r2 Q q => by
  obtain ⟨w, rw_, k⟩ := h H1 v u e r1 r2
  exact k Q (q w H1 (Ex.refl H1) rw_)
end

/-! ### operations on ints, bools, texts -/
def rAddI : R2 := rI0 fun i j => .int (i + j)
def rSubI : R2 := rI0 fun i j => .int (i - j)
def rMulI : R2 := rI CMul fun i j => .int (i * j)
def rDivI : R2 := rI CDiv fun i j => .int (i / j)
def rModI : R2 := rI (fun _ j => 0 < j) fun i j => .int (i % j)
def rPowI : R2 := rI CPow fun i j => .int (i ^ j.toNat)
def rLtI : R2 := rI0 fun i j => .bl (decide (i < j))
def rLeI : R2 := rI0 fun i j => .bl (decide (i ≤ j))
def rGtI : R2 := rI0 fun i j => .bl (decide (j < i))
def rGeI : R2 := rI0 fun i j => .bl (decide (j ≤ i))
def rEqI : R2 := fun x y H Q => ∃ i j, x = .int i ∧ y = .int j ∧ Q (.bl (decide (i = j))) H
def rNeI : R2 := fun x y H Q => ∃ i j, x = .int i ∧ y = .int j ∧ Q (.bl (!decide (i = j))) H
def rEqB : R2 := fun x y H Q => ∃ i j, x = .bl i ∧ y = .bl j ∧ Q (.bl (decide (i = j))) H
def rNeB : R2 := fun x y H Q => ∃ i j, x = .bl i ∧ y = .bl j ∧ Q (.bl (!decide (i = j))) H
def rEqT : R2 := fun x y H Q => ∃ i j, x = .str i ∧ y = .str j ∧ Q (.bl (decide (i = j))) H
def rNeT : R2 := fun x y H Q => ∃ i j, x = .str i ∧ y = .str j ∧ Q (.bl (!decide (i = j))) H
def rIsNo : R2 := fun x y H Q => y = .non ∧ Q (.bl (decide (x = .non))) H
def rNotNo : R2 := fun x y H Q => y = .non ∧ Q (.bl (!decide (x = .non))) H
section
variable {X : Cx}
theorem op_addI : OpR X (binaryOp .Add) rAddI := op_add
theorem op_subI : OpR X (binaryOp .Sub) rSubI := op_sub
theorem op_mulI : OpR X (binaryOp .Mult) rMulI := op_mul
theorem op_divI : OpR X (binaryOp .FloorDiv) rDivI := op_fdiv
theorem op_modI : OpR X (binaryOp .Mod) rModI := op_mod
theorem op_powI : OpR X (binaryOp .Pow) rPowI := op_pow
theorem op_ltI : OpR X (compareOp .Lt) rLtI := op_lt
theorem op_leI : OpR X (compareOp .LtE) rLeI := op_le
theorem op_gtI : OpR X (compareOp .Gt) rGtI := op_gt
theorem op_geI : OpR X (compareOp .GtE) rGeI := op_ge
theorem opr_imp {f : Value → Value → Sem Value} {r r' : R2} (h : OpR X f r) (i : ∀ x y H Q, r' x y H Q → r x y H Q) : OpR X f r' := fun pins s σ H x y v u Q I rx ry q => h pins s σ H x y v u Q I rx ry (i x y H Q q)
theorem dec_inj {α : Type} [DecidableEq α] {f : α → V} (hf : ∀ i j, f i = f j → i = j) (i j : α) : decide (f i = f j) = decide (i = j) := by
  by_cases h : i = j
  · subst h; simp
  · rw [decide_eq_false h, decide_eq_false fun z => h (hf _ _ z)]
theorem op_eqI : OpR X (compareOp .Eq) rEqI := opr_imp op_eq fun x y H Q ⟨i, j, ex, ey, q⟩ => by
  subst ex; subst ey
  exact ⟨rfl, by rw [dec_inj (f := V.int) (fun _ _ z => V.int.inj z)]; exact q⟩
theorem op_neI : OpR X (compareOp .NotEq) rNeI := opr_imp op_ne fun x y H Q ⟨i, j, ex, ey, q⟩ => by
  subst ex; subst ey
  exact ⟨rfl, by rw [dec_inj (f := V.int) (fun _ _ z => V.int.inj z)]; exact q⟩
theorem op_eqB : OpR X (compareOp .Eq) rEqB := opr_imp op_eq fun x y H Q ⟨i, j, ex, ey, q⟩ => by
  subst ex; subst ey
  exact ⟨rfl, by rw [dec_inj (f := V.bl) (fun _ _ z => V.bl.inj z)]; exact q⟩
theorem op_neB : OpR X (compareOp .NotEq) rNeB := opr_imp op_ne fun x y H Q ⟨i, j, ex, ey, q⟩ => by
  subst ex; subst ey
  exact ⟨rfl, by rw [dec_inj (f := V.bl) (fun _ _ z => V.bl.inj z)]; exact q⟩
theorem op_eqT : OpR X (compareOp .Eq) rEqT := opr_imp op_eq fun x y H Q ⟨i, j, ex, ey, q⟩ => by
  subst ex; subst ey
  exact ⟨rfl, by rw [dec_inj (f := V.str) (fun _ _ z => V.str.inj z)]; exact q⟩
theorem op_neT : OpR X (compareOp .NotEq) rNeT := opr_imp op_ne fun x y H Q ⟨i, j, ex, ey, q⟩ => by
  subst ex; subst ey
  exact ⟨rfl, by rw [dec_inj (f := V.str) (fun _ _ z => V.str.inj z)]; exact q⟩
theorem op_isNo : OpR X (compareOp .Is) rIsNo := op_isN
theorem op_notNo : OpR X (compareOp .IsNot) rNotNo := op_notN
end
section
variable {H : Hp} {i j : Int} {a b : Bool} {s t : Str} {d : PyData}
theorem rd_addI : RD rAddI (.int i) (.int j) H (.int (i + j)) := rd_val fun H1 v u e r1 r2 => ⟨.int (i + j), rfl, fun Q q => ⟨i, j, r1, r2, q⟩⟩
theorem rd_subI : RD rSubI (.int i) (.int j) H (.int (i - j)) := rd_val fun H1 v u e r1 r2 => ⟨.int (i - j), rfl, fun Q q => ⟨i, j, r1, r2, q⟩⟩
theorem rd_mulI (h : CMul i j) : RD rMulI (.int i) (.int j) H (.int (i * j)) := rd_val fun H1 v u e r1 r2 => ⟨.int (i * j), rfl, fun Q q => ⟨i, j, r1, r2, h, q⟩⟩
theorem rd_divI (h : CDiv i j) : RD rDivI (.int i) (.int j) H (.int (i / j)) := rd_val fun H1 v u e r1 r2 => ⟨.int (i / j), rfl, fun Q q => ⟨i, j, r1, r2, h, q⟩⟩
theorem rd_modI (h : 0 < j) : RD rModI (.int i) (.int j) H (.int (i % j)) := rd_val fun H1 v u e r1 r2 => ⟨.int (i % j), rfl, fun Q q => ⟨i, j, r1, r2, h, q⟩⟩
theorem rd_powI (h : CPow i j) : RD rPowI (.int i) (.int j) H (.int (i ^ j.toNat)) := rd_val fun H1 v u e r1 r2 => ⟨.int (i ^ j.toNat), rfl, fun Q q => ⟨i, j, r1, r2, h, q⟩⟩
theorem rd_ltI : RD rLtI (.int i) (.int j) H (.bool (decide (i < j))) := rd_val fun H1 v u e r1 r2 => ⟨.bl (decide (i < j)), rfl, fun Q q => ⟨i, j, r1, r2, q⟩⟩
theorem rd_leI : RD rLeI (.int i) (.int j) H (.bool (decide (i ≤ j))) := rd_val fun H1 v u e r1 r2 => ⟨.bl (decide (i ≤ j)), rfl, fun Q q => ⟨i, j, r1, r2, q⟩⟩
theorem rd_gtI : RD rGtI (.int i) (.int j) H (.bool (decide (j < i))) := rd_val fun H1 v u e r1 r2 => ⟨.bl (decide (j < i)), rfl, fun Q q => ⟨i, j, r1, r2, q⟩⟩
theorem rd_geI : RD rGeI (.int i) (.int j) H (.bool (decide (j ≤ i))) := rd_val fun H1 v u e r1 r2 => ⟨.bl (decide (j ≤ i)), rfl, fun Q q => ⟨i, j, r1, r2, q⟩⟩
theorem rd_eqI : RD rEqI (.int i) (.int j) H (.bool (decide (i = j))) := rd_val fun H1 v u e r1 r2 => ⟨.bl (decide (i = j)), rfl, fun Q q => ⟨i, j, r1, r2, q⟩⟩
theorem rd_neI : RD rNeI (.int i) (.int j) H (.bool (!decide (i = j))) := rd_val fun H1 v u e r1 r2 => ⟨.bl (!decide (i = j)), rfl, fun Q q => ⟨i, j, r1, r2, q⟩⟩
theorem rd_eqB : RD rEqB (.bool a) (.bool b) H (.bool (decide (a = b))) := rd_val fun H1 v u e r1 r2 => ⟨.bl (decide (a = b)), rfl, fun Q q => ⟨a, b, r1, r2, q⟩⟩
theorem rd_neB : RD rNeB (.bool a) (.bool b) H (.bool (!decide (a = b))) := rd_val fun H1 v u e r1 r2 => ⟨.bl (!decide (a = b)), rfl, fun Q q => ⟨a, b, r1, r2, q⟩⟩
theorem rd_eqT : RD rEqT (.str s) (.str t) H (.bool (decide (s = t))) := rd_val fun H1 v u e r1 r2 => ⟨.bl (decide (s = t)), rfl, fun Q q => ⟨s, t, r1, r2, q⟩⟩
theorem rd_neT : RD rNeT (.str s) (.str t) H (.bool (!decide (s = t))) := rd_val fun H1 v u e r1 r2 => ⟨.bl (!decide (s = t)), rfl, fun Q q => ⟨s, t, r1, r2, q⟩⟩
def isNo : PyData → Bool
  | .none => true
  | _ => false
theorem Rp.isNo {v : V} : ∀ {d : PyData}, Rp H d v → decide (v = .non) = isNo d
  | .none, h => by cases h; rfl
  | .bool _, h => by cases h; rfl
  | .int _, h => by cases h; rfl
  | .str _, h => by cases h; rfl
  | .list _, h => by obtain ⟨a, xs, rfl, _⟩ := h; rfl
  | .tuple _, h => by obtain ⟨a, xs, o, rfl, _⟩ := h; rfl
  | .dict _, h => h.elim
theorem rd_isNo : RD rIsNo d .none H (.bool (isNo d)) := rd_val fun H1 v u e r1 r2 => ⟨.bl (isNo d), rfl, fun Q q => ⟨r2, by rw [r1.isNo]; exact q⟩⟩
theorem rd_notNo : RD rNotNo d .none H (.bool (!isNo d)) := rd_val fun H1 v u e r1 r2 => ⟨.bl (!isNo d), rfl, fun Q q => ⟨r2, by rw [r1.isNo]; exact q⟩⟩
end

/-! ### tests, and, or, not -/
section
variable {K : PySem.W.Frag} {σ : L2.St} {H H' : Hp} {ta tb te tx : TE} {t u : TT} {d x y z : PyData} {ds : List PyData} {a b : Bool}
theorem ett (h : EvD te σ H (.bool b)) : EvT (tTest te) σ H b := fun H1 e _ q => h H1 e _ fun v H2 e2 r => ⟨b, r, q H2 e2⟩
theorem etB (h : EvD te σ H (.bool b)) : EvT (tB te) σ H b := fun H1 e _ q => h H1 e _ fun v H2 e2 r => ⟨b, r, q H2 e2⟩
theorem evd_and (h1 : EvD ta σ H (.bool a)) (h2 : a = true → EvD tb σ H (.bool b)) : EvD (tAndV ta tb) σ H (.bool (a && b)) := fun H1 e Q q => h1 H1 e _ fun v H2 e2 r => ⟨a, r, by
  cases a with
  | true => exact h2 rfl H2 (e.trans e2) Q fun w H3 e3 r3 => q w H3 (e2.trans e3) r3
  | false => exact q _ H2 e2 rfl⟩
theorem evd_or (h1 : EvD ta σ H (.bool a)) (h2 : a = false → EvD tb σ H (.bool b)) : EvD (tOrV ta tb) σ H (.bool (a || b)) := fun H1 e Q q => h1 H1 e _ fun v H2 e2 r => ⟨a, r, by
  cases a with
  | true => exact q _ H2 e2 rfl
  | false => exact h2 rfl H2 (e.trans e2) Q fun w H3 e3 r3 => q w H3 (e2.trans e3) r3⟩
theorem evd_not (h1 : EvD ta σ H (.bool a)) : EvD (tNotV ta) σ H (.bool (!a)) := fun H1 e Q q => h1 H1 e _ fun v H2 e2 r => ⟨a, r, q _ H2 e2 rfl⟩
theorem evd_chain {r r' : R2} {w : PyData} {tc : TE} (ha : EvD ta σ H x) (hb : EvD tb σ H y) (hr : RD r x y H (.bool a)) (hc : a = true → EvD tc σ H z) (hr' : a = true → RD r' y z H (.bool b)) : EvD (tChain r r' ta tb tc) σ H (.bool (a && b)) := fun H1 e Q q =>
  ha H1 e _ fun v H2 e2 r2 => hb H2 (e.trans e2) _ fun u H3 e3 r3 => hr H3 v u ((e.trans e2).trans e3) (r2.ex e3) r3 _ fun w H4 e4 r4 => ⟨a, r4, by
    cases a with
    | true => exact hc rfl H4 (((e.trans e2).trans e3).trans e4) _ fun w' H5 e5 r5 => hr' rfl H5 u w' ((((e.trans e2).trans e3).trans e4).trans e5) ((r3.ex e4).ex e5) r5 Q fun w2 H6 e6 r6 => q w2 H6 ((((e2.trans e3).trans e4).trans e5).trans e6) r6
    | false => exact q _ H4 ((e2.trans e3).trans e4) rfl⟩
/-! ### arguments, tuples, lists -/
theorem evs_nil : EvS tNil σ H [] := fun H1 _ _ q => q [] H1 (Ex.refl H1) RpA.nil
theorem evs_cons {tr : TA} (h : EvD ta σ H x) (hr : EvS tr σ H ds) : EvS (tCons ta tr) σ H (x :: ds) := fun H1 e _ q =>
  h H1 e _ fun v H2 e2 r2 => hr H2 (e.trans e2) _ fun vs H3 e3 r3 => q (v :: vs) H3 (e2.trans e3) (RpA.cons (r2.ex e3) r3)
/-- a tuple whose object bears no dict -/
def tTupF (t : TA) : TE := fun σ H Q => t σ H fun xs H1 => xs.length ≤ sizeLine ∧ ∀ p o, H1 p = Option.none → o.dict = Option.none → Q (.ref p) (upd H1 p (.frz o (.tup xs)))
theorem evd_tup {tr : TA} (h : EvS tr σ H ds) (hl : ds.length ≤ 100000) : EvD (tTupF tr) σ H (.tuple ds) := fun H1 e _ q =>
  h H1 e _ fun vs H2 e2 r2 => ⟨sz_of (by rw [r2.len]; exact hl), fun p o hp ho => q _ _ (e2.trans (Ex.new hp)) ⟨p, vs, o, rfl, upd_same, ho, r2.ex (Ex.new hp)⟩⟩
theorem evn_lst {tr : TA} (h : EvS tr σ H ds) (hl : ds.length ≤ 100000) : EvN (tLst tr) σ H ds := fun H1 e _ q =>
  h H1 e _ fun vs H2 e2 r2 => ⟨sz_of (by rw [r2.len]; exact hl), fun p hp => q p vs _ (fresh_back e2 hp) (e2.trans (Ex.new hp)) upd_same (r2.ex (Ex.new hp))⟩
/-- a def's call -/
theorem evd_call {sp : Sp} {E : XK} {tr : TA} (h : EvS tr σ H ds) (hs : ∀ H1 vs Q, Ex H H1 → RpA H1 ds vs → (∀ v H2, Ex H1 H2 → Rp H2 d v → Q v H2) → sp vs H1 Q E) : EvD (tCall sp [] E tr) σ H d := fun H1 e Q q =>
  h H1 e _ fun vs H2 e2 r2 => by
    show sp (vs ++ []) H2 Q E
    rw [List.append_nil]
    exact hs H2 vs Q (e.trans e2) r2 fun v H3 e3 r3 => q v H3 (e2.trans e3) r3
theorem evn_call {sp : Sp} {E : XK} {tr : TA} {es : List PyData} (h : EvS tr σ H ds) (hs : ∀ H1 vs Q, Ex H H1 → RpA H1 ds vs → (∀ p ws H2, H1 p = none → Ex H1 H2 → H2 p = some (.lst ws) → RpA H2 es ws → Q (.ref p) H2) → sp vs H1 Q E) : EvN (tCall sp [] E tr) σ H es := fun H1 e Q q =>
  h H1 e _ fun vs H2 e2 r2 => by
    show sp (vs ++ []) H2 Q E
    rw [List.append_nil]
    exact hs H2 vs Q (e.trans e2) r2 fun p ws H3 hp e3 h3 r3 => q p ws H3 (fresh_back e2 hp) (e2.trans e3) h3 r3
/-- a built-in's call -/
def CD (r : List V → Hp → VK → Prop) (ds : List PyData) (H : Hp) (z : PyData) : Prop := ∀ H1 vs, Ex H H1 → RpA H1 ds vs → ∀ Q : VK, (∀ w H2, Ex H1 H2 → Rp H2 z w → Q w H2) → r vs H1 Q
def CN (r : List V → Hp → VK → Prop) (ds : List PyData) (H : Hp) (zs : List PyData) : Prop := ∀ H1 vs, Ex H H1 → RpA H1 ds vs → ∀ Q : VK, (∀ p ws H2, H1 p = none → Ex H1 H2 → H2 p = some (.lst ws) → RpA H2 zs ws → Q (.ref p) H2) → r vs H1 Q
theorem evd_cb {r : List V → Hp → VK → Prop} {tr : TA} (h : EvS tr σ H ds) (hr : CD r ds H z) : EvD (tCB r tr) σ H z := fun H1 e Q q =>
  h H1 e _ fun vs H2 e2 r2 => hr H2 vs (e.trans e2) r2 Q fun w H3 e3 r3 => q w H3 (e2.trans e3) r3
theorem evn_cb {r : List V → Hp → VK → Prop} {tr : TA} {zs : List PyData} (h : EvS tr σ H ds) (hr : CN r ds H zs) : EvN (tCB r tr) σ H zs := fun H1 e Q q =>
  h H1 e _ fun vs H2 e2 r2 => hr H2 vs (e.trans e2) r2 Q fun p ws H3 hp e3 h3 r3 => q p ws H3 (fresh_back e2 hp) (e2.trans e3) h3 r3
/-- a built-in's method that changes nothing -/
def MD (K : PySem.W.Frag) (T : String) (r : V → List V → Hp → VK → Prop) (x : PyData) (ds : List PyData) (H : Hp) (z : PyData) : Prop :=
  (∀ H1 v, Ex H H1 → Rp H1 x v → tyV K T v H1) ∧ ∀ H1 v vs, Ex H H1 → Rp H1 x v → RpA H1 ds vs → ∀ Q : VK, (∀ w H2, Ex H1 H2 → Rp H2 z w → Q w H2) → r v vs H1 Q
theorem evd_bm {T : String} {r : V → List V → Hp → VK → Prop} {to : TE} {tr : TA} (ho : EvD to σ H x) (h : EvS tr σ H ds) (hr : MD K T r x ds H z) : EvD (tBM K T r to tr) σ H z := fun H1 e Q q =>
  ho H1 e _ fun v H2 e2 r2 => ⟨hr.1 H2 v (e.trans e2) r2, h H2 (e.trans e2) _ fun vs H3 e3 r3 => hr.2 H3 v vs ((e.trans e2).trans e3) (r2.ex e3) r3 Q fun w H4 e4 r4 => q w H4 ((e2.trans e3).trans e4) r4⟩
end
end Bm

/-! Tuples that are told with their object (it bears no dict): made, added, searched by index; sorted of a tuple. -/
namespace Bm
open PySem PySem.Spec PyProof.Rows L2 Evl
section
variable {X : Cx} {pins : List (Addr × Obj)} {σ : L2.St} {H : Hp} {s : Shared} {es : List Expr} {t : TA} {pos : Pos}
/-- a new tuple laid at the heap's end, told with its object -/
theorem tupNew (I : Inv X pins σ H s) {h2 : Heap} {tk : Nat} {xs : List V} {us : List Value} (kp : ∀ b o, s.heap.get? b = some o → h2.get? b = some o) (r : Vals xs us) (z : xs.length ≤ sizeLine) {Q : VK}
    (q : ∀ p o, H p = none → o.dict = none → Q (.ref p) (upd H p (.frz o (.tup xs)))) :
    EP X pins σ Q (.ref h2.objs.size) { s with heap := h2.push { cls := .type "tuple", data := .seq us.toArray }, toks := tk } := by
  have J : Inv X pins σ H { s with heap := h2, toks := tk } := I.kept (t' := tk) kp
  have fr : H h2.objs.size = none := J.hok.fresh (Nat.le_refl _)
  have at_ : (h2.push { cls := .type "tuple", data := .seq us.toArray }).get? h2.objs.size = some { cls := .type "tuple", data := .seq us.toArray } := Heap.get?_push_size _ rfl
  refine ⟨.ref h2.objs.size, upd H h2.objs.size (.frz { cls := .type "tuple", data := .seq us.toArray } (.tup xs)), ?_, rfl, q _ _ fr rfl⟩
  refine J.laid (t' := tk) (fun b o e => Heap.get?_push_of_some _ e) (Nat.le_refl _) ⟨at_, z, us, r, ⟨_, at_, rfl, _, rfl⟩⟩
theorem pe_tupF {k : Nat} (h : PA X es t) : PE X (.Tuple es k pos) (tTupF t) := by
  refine ⟨fun pins s σ H Q I hq => wpAny_Tuple_spliced (thn (h.run pos pins s σ H _ I hq) fun us s1 hh => ?_)⟩
  obtain ⟨xs, H1, I1, r, z, q⟩ := hh
  exact ⟨by rw [← r.length]; exact z, tupNew (tk := s1.toks) I1 (fun _ _ e => e) r z q⟩
end
def rTupL (K : PySem.W.Frag) : List V → Hp → VK → Prop := fun xs H Q => ∃ p ys, xs = [.ref p] ∧ SqL K H p ys ∧ ∀ l o, H l = none → o.dict = none → Q (.ref l) (upd H l (.frz o (.tup ys)))
/-- x + y of tuples -/
def rCatF (K : PySem.W.Frag) : R2 := fun x y H Q => ∃ a b xs ys, x = .ref a ∧ y = .ref b ∧ SqT K H a xs ∧ SqT K H b ys ∧ xs.length + ys.length ≤ sizeLine ∧
  (xs = [] → Q (.ref b) H) ∧ (ys = [] → Q (.ref a) H) ∧ ∀ p o, H p = none → o.dict = none → Q (.ref p) (upd H p (.frz o (.tup (xs ++ ys))))
section
variable {X : Cx}
theorem cr_tupL : CallR X (.type "tuple") (rTupL X.K) := by
  intro pins s σ H xs us Q I r h
  obtain ⟨p, ys, rfl, hq, q⟩ := h
  obtain ⟨u, rfl, ru⟩ := vals1 r
  cases ru
  obtain ⟨its, rv, pl, z⟩ := I.list hq
  exact call_tuple_list pl.isList (fun h2 kp => tupNew (tk := s.toks) I kp rv z q) (by rw [List.size_toArray, ← rv.length]; exact z)
theorem op_catF : OpR X (binaryOp .Add) (rCatF X.K) := by
  intro pins s σ H x y v u Q I rx ry h
  obtain ⟨a, b, xs, ys, rfl, rfl, ha, hb, z, q0, q1, q2⟩ := h
  cases rx
  cases ry
  obtain ⟨i1, r1, p1, _⟩ := I.tuple ha
  obtain ⟨i2, r2, p2, _⟩ := I.tuple hb
  by_cases e : xs = []
  · subst e
    cases r1
    have zc := op_catA pins s σ H (.ref a) (.ref b) (.ref a) (.ref b) Q I rfl rfl
    exact zc ⟨a, b, [], ys, rfl, rfl, ha, hb, z, q0, fun k => absurd rfl k, fun k => absurd rfl k⟩
  · exact HT.cat_tup p1 p2 (fun k => e (r1.nil_iff.mp k)) (fun k => ⟨.ref a, H, I, rfl, q1 (r2.nil_iff.mp k)⟩)
      (fun k => tupNew (tk := s.toks) I (fun _ _ q => q) (r1.append r2) (by rw [List.length_append]; exact z) q2) (by rw [← r1.length, ← r2.length]; exact z)
/-! ### t.index(x) of ints -/
theorem flat_ints (ns : List Int) : (ns.map V.int).all flatV = true := by
  rw [List.all_map]
  exact List.all_eq_true.mpr fun _ _ => rfl
def rIxI (K : PySem.W.Frag) : V → List V → Hp → VK → Prop := fun x xs H Q => ∃ (p : Addr) (ns : List Int) (z : Int) (j : Nat), x = .ref p ∧ xs = [.int z] ∧ SqT K H p (ns.map V.int) ∧ ns[j]? = some z ∧ (∀ m, m < j → ns[m]? ≠ some z) ∧ Q (.int (j : Nat)) H
theorem mt_tupIx : MtR X "tuple.index" (rIxI X.K) := by
  intro pins s σ H x xs v us Q I rx rs h
  obtain ⟨p, ns, z, j, rfl, rfl, hq, hz, hno, q⟩ := h
  cases rx
  obtain ⟨u, rfl, tk, rfl⟩ := vals1 rs
  obtain ⟨its, r, pl, _⟩ := I.tuple hq
  obtain ⟨⟨c, dd, dt, sl⟩, ho, hc, n, hd⟩ := pl
  obtain rfl : c = .type "tuple" := hc
  obtain rfl : dt = .seq its.toArray n := hd
  have hl : its.toArray.size = ns.length := by rw [List.size_toArray, ← r.length, List.length_map]
  have item : ∀ (m : Nat) (hm : m < its.toArray.size), ∃ y t2, ns[m]? = some y ∧ its.toArray[m] = Value.int y t2 := fun m hm => by
    have hm2 : m < ns.length := hl ▸ hm
    obtain ⟨w2, hw, t2, e2⟩ := r.get (i := m) (x := .int ns[m]) (by simp [hm2])
    obtain ⟨_, e3⟩ := List.getElem?_eq_some_iff.mp hw
    exact ⟨ns[m], t2, List.getElem?_eq_getElem hm2, by rw [← e2, ← e3]; simp⟩
  have hj : j < its.toArray.size := by rw [hl]; exact (List.getElem?_eq_some_iff.mp hz).1
  have eqi : ∀ (y : Int) (t2 : Tok), eqU (.int z) (Value.int y t2) = (y == z) := fun _ _ => rfl
  refine call_meets PySem.F.slot_tuple_index ⟨_, ho, rfl⟩ PySem.F.entry_tuple_index (PySem.F.args_tuple_index_2 _ _)
    (TI.tuple_indexAt p its.toArray n dd sl (.int z tk) (eqU (.int z)) j hj ?_ fun m hm hmj => ?_)
    ⟨ho, fun w2 hw => mem_eqAt (x := .int z) ⟨tk, rfl⟩ rfl r (flat_ints ns) w2 (by simpa using hw), ⟨.int (j : Nat), H, I.tok _, ⟨_, rfl⟩, q⟩⟩
  · obtain ⟨y, t2, h1, h2⟩ := item j hj
    rw [hz] at h1
    cases h1
    rw [h2, eqi]
    exact beq_self_eq_true z
  · obtain ⟨y, t2, h1, h2⟩ := item m hm
    rw [h2, eqi]
    exact beq_eq_false_iff_ne.mpr fun e => hno m hmj (by rw [h1, e])
/-- the call of a tuple's method, the tuple told with its object -/
def tTM (r : V → List V → Hp → VK → Prop) (to : TE) (t : TA) : TE := fun σ H Q => to σ H fun x H1 => (∃ a o xs, x = .ref a ∧ H1 a = some (.frz o (.tup xs)) ∧ o.dict = none) ∧ t σ H1 fun xs H2 => r x xs H2 Q
theorem pe_tm {o e : Expr} {es : List Expr} {to : TE} {t : TA} {name : Str} {apos cpos : Pos} {id : String} {r : V → List V → Hp → VK → Prop} (pa : PlainAttrs "tuple") (slot : Slot "tuple" name id)
    (hty : typeOf (.builtin id) = pure (.type "method_descriptor")) (hm : MtR X id r) (ho : PE X o to) (ha : PA X (e :: es) t) (hbase : attributeBase o name X.env (eval o X.env) = eval o X.env := by rfl)
    (hfew : ((backTo cpos (starEach (e :: es) X.env)).all (fun x => !x.1) && (backToKw cpos (keywordEach [] X.env)).all (fun x => x.1.isSome) && decide ((e :: es).length + ([] : List Keyword).length + (if ([] : List Keyword).isEmpty then 0 else 1) < 30)) = true := by rfl)
    (hline : (apos.endLine == cpos.line) = true := by rfl) (hs : starEach (e :: es) X.env = (false, eval e X.env) :: starEach es X.env := by rfl)
    (hpl : (backTo cpos (starEach es X.env)).any (·.1) = false := by rfl) : PE X (.Call (.Attribute o name apos) (e :: es) [] cpos) (tTM r to t) := by
  refine ⟨fun pins s σ H Q I h => wpAny_Call_method_late hbase hfew hline rfl (thn (ho.run pins s σ H _ I h) fun v s1 hh => ?_)⟩
  obtain ⟨x, H1, I1, r1, ⟨a, ob, xs, rfl, hf, hd⟩, q1⟩ := hh
  obtain ⟨g1, g2⟩ := I1.hok a _ hf
  obtain ⟨_, its, _, o2, g3, g4, _⟩ := g2
  cases r1
  rw [g1] at g3
  cases g3
  refine ⟨"tuple", id, pa, slot, hty, ⟨ob, g1, g4⟩, fun b e2 => ?_, ?_⟩
  · cases e2
    exact ⟨ob, g1, hd⟩
  · have hA := ha.run cpos pins s1 σ H1 _ I1 q1
    rw [hs] at hA ⊢
    refine Calls.callWith_builtin (by show (false || (backTo cpos (starEach es X.env)).any (·.1)) = false; rw [hpl] <;> rfl) (Calls.evalArgs_plain ?_)
    exact thn hA fun us s2 ⟨vs, H2, I2, r2, q2⟩ => hm pins s2 σ H2 (.ref a) vs (.ref a) us Q I2 rfl r2 q2
/-- tuple(reversed(a list)) -/
def tTupRevF (K : PySem.W.Frag) (te : TE) : TE := fun σ H Q => te σ H fun v H1 => ∃ (a : Addr) (xs : List V), v = .ref a ∧ SqL K H1 a xs ∧ ∀ p o, H1 p = none → o.dict = none → Q (.ref p) (upd H1 p (.frz o (.tup xs.reverse)))
end
end Bm

/-! Statements, owned lists, loops, comprehensions over data. -/
namespace Bm
open PySem PySem.Spec PyProof.Rows L2 Evl

/-! ### all but one object stays -/
def ExB (l : Addr) (H H' : Hp) : Prop := ∀ b o, b ≠ l → H b = some o → H' b = some o
theorem ExB.base {H0 H H' : Hp} {l : Addr} (x : ExB l H H') (n : H0 l = none) (e : Ex H0 H) : Ex H0 H' := fun b o h => x b o (ne_of_none h n) (e b o h)
theorem ExB.kt {H H' : Hp} {l : Addr} {xs : List V} (x : ExB l H H') (h : H l = some (.lst xs)) : KT H H' := fun b o ys e => x b _ (ne_of e h fun z => by cases z) e
theorem ExB.of {H H' : Hp} {l : Addr} (e : Ex H H') : ExB l H H' := fun b o _ h => e b o h
theorem ExB.trans {H H1 H2 : Hp} {l : Addr} (a : ExB l H H1) (b : ExB l H1 H2) : ExB l H H2 := fun c o n h => b c o n (a c o n h)
theorem ExB.upd {H : Hp} {l : Addr} {o : HO} : ExB l H (L2.upd H l o) := fun b u n h => by rw [upd_ne n]; exact h

/-- a list of ours, made since H0 -/
structure Own (H0 H : Hp) (l : Addr) (ds : List PyData) : Prop where
  new : H0 l = none
  ex : Ex H0 H
  has : ∃ vs, H l = some (.lst vs) ∧ RpA H ds vs
  im : immA ds = true
section
variable {H0 H H1 : Hp} {l l2 : Addr} {ds : List PyData}
theorem Own.step (o : Own H0 H l ds) (e : Ex H H1) : Own H0 H1 l ds := by
  obtain ⟨vs, h1, h2⟩ := o.has
  exact ⟨o.new, o.ex.trans e, ⟨vs, e _ _ h1, h2.ex e⟩, o.im⟩
theorem Own.lower {Hb : Hp} (o : Own H0 H l ds) (e : Ex Hb H0) : Own Hb H l ds := ⟨fresh_back e o.new, e.trans o.ex, o.has, o.im⟩
theorem Own.rp (o : Own H0 H l ds) : Rp H (.list ds) (.ref l) := by
  obtain ⟨vs, h1, h2⟩ := o.has
  exact ⟨l, vs, rfl, h1, h2⟩
/-- another list has changed -/
theorem Own.other {xs : List V} (o : Own H0 H l ds) (x : ExB l2 H H1) (ne : l ≠ l2) (n : H0 l2 = none) (h : H l2 = some (.lst xs)) : Own H0 H1 l ds := by
  obtain ⟨vs, h1, h2⟩ := o.has
  exact ⟨o.new, x.base n o.ex, ⟨vs, x _ _ ne h1, RpA.keep (x.kt h) o.im h2⟩, o.im⟩
theorem Own.len (o : Own H0 H l ds) : ∃ vs, H l = some (.lst vs) ∧ vs.length = ds.length := by
  obtain ⟨vs, h1, h2⟩ := o.has
  exact ⟨vs, h1, h2.len⟩
theorem Own.of {p : Addr} {vs : List V} (hp : H0 p = none) (e : Ex H0 H) (h : H p = some (.lst vs)) (r : RpA H ds vs) (i : immA ds = true) : Own H0 H p ds := ⟨hp, e, ⟨vs, h, r⟩, i⟩
end
theorem immA_app {ds es : List PyData} (h : immA ds = true) (h' : immA es = true) : immA (ds ++ es) = true := immA_iff.mpr fun d m => (List.mem_append.mp m).elim (immA_iff.mp h d) (immA_iff.mp h' d)
theorem immA_one {d : PyData} (h : imm d = true) : immA [d] = true := by simp [immA, h]

/-! ### statements -/
section
variable {K : PySem.W.Frag} {σ : L2.St} {H H' : Hp} {ta tb te tl : TE} {t u : TT} {d x y z : PyData} {ds es : List PyData} {D : Ends} {tu tw : TS} {g : TG}
theorem s_asgD {i : Nat} (h : EvD te σ H d) (k : ∀ v H1, Ex H H1 → Rp H1 d v → D.nx (σ.set i (some v)) H1) : tAsg te (gName i) D σ H := h H (Ex.refl H) _ fun v H1 e r => k v H1 e r
theorem s_asgI {i : Nat} {n : Int} (h : EvD te σ H (.int n)) (k : ∀ H1, Ex H H1 → D.nx (σ.set i (some (.int n))) H1) : tAsg te (gName i) D σ H := h H (Ex.refl H) _ fun v H1 e r => by
  obtain rfl : v = .int n := r
  exact k H1 e
theorem s_asgB {i : Nat} {b : Bool} (h : EvD te σ H (.bool b)) (k : ∀ H1, Ex H H1 → D.nx (σ.set i (some (.bl b))) H1) : tAsg te (gName i) D σ H := h H (Ex.refl H) _ fun v H1 e r => by
  obtain rfl : v = .bl b := r
  exact k H1 e
theorem s_asgT {i : Nat} {b : Str} (h : EvD te σ H (.str b)) (k : ∀ H1, Ex H H1 → D.nx (σ.set i (some (.str b))) H1) : tAsg te (gName i) D σ H := h H (Ex.refl H) _ fun v H1 e r => by
  obtain rfl : v = .str b := r
  exact k H1 e
theorem s_asgO {i : Nat} (h : EvN te σ H ds) (im : immA ds = true) (k : ∀ p H1, Ex H H1 → Own H H1 p ds → D.nx (σ.set i (some (.ref p))) H1) : tAsg te (gName i) D σ H :=
  h H (Ex.refl H) _ fun p vs H1 hp e h1 r => k p H1 e (Own.of hp e h1 r im)
theorem s_asgNw {i : Nat} (h : EvN te σ H ds) (k : ∀ p vs H1, H p = none → Ex H H1 → H1 p = some (.lst vs) → RpA H1 ds vs → D.nx (σ.set i (some (.ref p))) H1) : tAsg te (gName i) D σ H := h H (Ex.refl H) _ fun p vs H1 hp e h1 r => k p vs H1 hp e h1 r
theorem s_retD (h : EvD te σ H d) (k : ∀ v H1, Ex H H1 → Rp H1 d v → D.rt v H1) : tRet te D σ H := h H (Ex.refl H) _ k
theorem s_retNw (h : EvN te σ H ds) (k : ∀ p vs H1, H p = none → Ex H H1 → H1 p = some (.lst vs) → RpA H1 ds vs → D.rt (.ref p) H1) : tRet te D σ H := h H (Ex.refl H) _ k
theorem s_dropD (h : EvD te σ H d) (k : ∀ H1, Ex H H1 → D.nx σ H1) : tDrop te D σ H := h H (Ex.refl H) _ fun _ H1 e _ => k H1 e
/-- xs.append(e), xs a list of ours -/
theorem s_appO {H0 : Hp} {l : Addr} {i : Nat} (o : Own H0 H l ds) (hi : σ[i]? = some (some (.ref l))) (h : EvD te σ H d) (im : imm d = true) (hz : ds.length < 100000)
    (k : ∀ H2, ExB l H H2 → Own H0 H2 l (ds ++ [d]) → D.nx σ H2) : tDrop (tBM K "list" rAppend (tVar i) (tCons te tNil)) D σ H := by
  obtain ⟨vs, h1, h2⟩ := o.has
  refine ⟨.ref l, hi, .inl ⟨rfl, vs, SqL.of h1⟩, h H (Ex.refl H) _ fun v H1 e1 r1 => ⟨l, vs, v, rfl, rfl, e1 _ _ h1, sz_lt (by rw [h2.len]; exact hz), ?_⟩⟩
  have x : ExB l H (upd H1 l (.lst (vs ++ [v]))) := (ExB.of e1).trans ExB.upd
  refine k _ x ⟨o.new, x.base o.new o.ex, ⟨_, upd_same, ?_⟩, immA_app o.im (immA_one im)⟩
  have kt : KT H1 (upd H1 l (.lst (vs ++ [v]))) := KT.lst (e1 _ _ h1)
  exact (RpA.keep kt o.im (h2.ex e1)).snoc (Rp.keep kt im r1)
/-- xs.extend(e), e a new list -/
theorem s_extO {H0 : Hp} {l : Addr} {i : Nat} (o : Own H0 H l ds) (hi : σ[i]? = some (some (.ref l))) (h : EvN te σ H es) (im : immA es = true) (hz : ds.length + es.length ≤ 100000)
    (k : ∀ H2, ExB l H H2 → Own H0 H2 l (ds ++ es) → D.nx σ H2) : tDrop (tBM K "list" rExtend (tVar i) (tCons te tNil)) D σ H := by
  obtain ⟨vs, h1, h2⟩ := o.has
  refine ⟨.ref l, hi, .inl ⟨rfl, vs, SqL.of h1⟩, h H (Ex.refl H) _ fun p ws H1 hp e1 hw r1 => ⟨l, p, vs, ws, rfl, rfl, e1 _ _ h1, hw, sz_of (by rw [h2.len, r1.len]; exact hz), ?_⟩⟩
  have x : ExB l H (upd H1 l (.lst (vs ++ ws))) := (ExB.of e1).trans ExB.upd
  refine k _ x ⟨o.new, x.base o.new o.ex, ⟨_, upd_same, ?_⟩, immA_app o.im im⟩
  have kt : KT H1 (upd H1 l (.lst (vs ++ ws))) := KT.lst (e1 _ _ h1)
  exact (RpA.keep kt o.im (h2.ex e1)).app (RpA.keep kt im r1)

/-! ### for -/
theorem map_get {α β : Type} {f : α → β} {xs : List α} {i : Nat} {y : β} (h : (xs.map f)[i]? = some y) : ∃ x, xs[i]? = some x ∧ y = f x := by
  rw [List.getElem?_map] at h
  cases e : xs[i]? with
  | none => rw [e] at h; cases h
  | some x => rw [e] at h; cases h; exact ⟨x, rfl, rfl⟩
/-- over a list that stays -/
theorem s_forD {α : Type} {f : α → PyData} {xs : List α} (h : EvD tl σ H (.list (xs.map f)))
    (k : ∀ H1, Ex H H1 → ∃ Pv : Nat → L2.St → Hp → Prop, Pv 0 σ H1 ∧ (∀ i σ' H', Pv i σ' H' → Ex H1 H') ∧
      (∀ i x v σ' H', xs[i]? = some x → Rp H' (f x) v → Pv i σ' H' → g v σ' H' fun σ2 H2 => tu { D with nx := Pv (i + 1), ct := Pv (i + 1), bk := D.nx } σ2 H2) ∧ ∀ σ' H', Pv xs.length σ' H' → D.nx σ' H') :
    tFor (iList K tl) g tu D σ H := h H (Ex.refl H) _ fun v H1 e r => by
  obtain ⟨a, vs, e1, h1, h2⟩ := r
  obtain ⟨Pv, p0, pe, ps, pd⟩ := k H1 e
  have hl : vs.length = xs.length := by rw [h2.len, List.length_map]
  refine ⟨a, e1, ⟨vs, SqL.of h1⟩, for_list (xs := vs) Pv p0 (fun i σ' H' _ p => SqL.of (pe i σ' H' p a _ h1)) (fun i v2 σ' H' hi p => ?_) (fun σ' H' p => pd σ' H' (hl ▸ p))⟩
  obtain ⟨d2, q1, q2⟩ := h2.getv hi
  obtain ⟨x, q3, rfl⟩ := map_get q1
  exact ps i x v2 σ' H' q3 (q2.ex (pe i σ' H' p)) p
theorem s_forR {ta : TA} {n : Int} (h : EvS ta σ H [.int n]) (hn : -100000 ≤ n ∧ n ≤ 100000)
    (k : ∀ H1, Ex H H1 → ∃ Pv : Nat → L2.St → Hp → Prop, Pv 0 σ H1 ∧
      (∀ (i : Nat) σ' H', (i : Int) < n → Pv i σ' H' → g (.int (i : Int)) σ' H' fun σ2 H2 => tu { D with nx := Pv (i + 1), ct := Pv (i + 1), bk := D.nx } σ2 H2) ∧ ∀ σ' H', Pv n.toNat σ' H' → D.nx σ' H') :
    tFor (iRng1 ta) g tu D σ H := h H (Ex.refl H) _ fun vs H1 e r => by
  obtain rfl : vs = [.int n] := RpA.ints (ns := [n]) r
  obtain ⟨Pv, p0, ps, pd⟩ := k H1 e
  refine ⟨n, rfl, by omega, by omega, for_range (lo := 0) (n := n.toNat) Pv p0 (fun i σ' H' hi p => ?_) pd⟩
  rw [Int.zero_add]
  exact ps i σ' H' (by omega) p
theorem s_forR2 {ta : TA} {lo n : Int} (h : EvS ta σ H [.int lo, .int n]) (hn : -100000 ≤ lo ∧ lo ≤ 100000 ∧ -100000 ≤ n ∧ n ≤ 100000)
    (k : ∀ H1, Ex H H1 → ∃ Pv : Nat → L2.St → Hp → Prop, Pv 0 σ H1 ∧
      (∀ (i : Nat) σ' H', lo + (i : Int) < n → Pv i σ' H' → g (.int (lo + (i : Int))) σ' H' fun σ2 H2 => tu { D with nx := Pv (i + 1), ct := Pv (i + 1), bk := D.nx } σ2 H2) ∧ ∀ σ' H', Pv (n - lo).toNat σ' H' → D.nx σ' H') :
    tFor (iRng2 ta) g tu D σ H := h H (Ex.refl H) _ fun vs H1 e r => by
  obtain rfl : vs = [.int lo, .int n] := RpA.ints (ns := [lo, n]) r
  obtain ⟨Pv, p0, ps, pd⟩ := k H1 e
  exact ⟨lo, n, rfl, ⟨by omega, by omega, by omega, by omega⟩, for_range (lo := lo) (n := (n - lo).toNat) Pv p0 (fun i σ' H' hi p => ps i σ' H' (by omega) p) pd⟩

/-! ### a, b = a pair -/
theorem g_name {i : Nat} {v : V} {Q : L2.St → Hp → Prop} (q : Q (σ.set i (some v)) H) : gName i v σ H Q := q
theorem g_pair {p : Int × Int} {v : V} {i j : Nat} {Q : L2.St → Hp → Prop} (r : Rp H (pD p) v) (q : Q ((σ.set i (some (.int p.1))).set j (some (.int p.2))) H) : gTup K 2 (gCons (gName i) (gCons (gName j) gNil)) v σ H Q := by
  obtain ⟨a, o, rfl, h1, _⟩ := r.pD
  exact ⟨a, _, rfl, .inl (.inr ⟨o, h1⟩), rfl, .int p.1, [.int p.2], rfl, .int p.2, [], rfl, rfl, q⟩

/-! ### comprehensions: the items that pass, and what is made of them -/
def LcW (Hb : Hp) (Dl : Addr) (ds : List PyData) (H : Hp) : Prop := Own Hb H Dl ds
/-- over a list -/
theorem evn_lcL {α : Type} {f : α → PyData} {xs : List α} {vs : List Nat} {tt : TT} (c : α → Bool) (y : α → PyData) (h : EvD tl σ H (.list (xs.map f))) (hz : xs.length ≤ 50000)
    (turn : ∀ x v H1, x ∈ xs → Ex H H1 → Rp H1 (f x) v → ∃ σ2, (∀ Q : L2.St → Hp → Prop, Q σ2 H1 → g v (wipe σ vs) H1 Q) ∧ wipe σ2 vs = wipe σ vs ∧ EvT tt σ2 H1 (c x) ∧ (c x = true → EvD te σ2 H1 (y x)))
    (im : ∀ x ∈ xs, c x = true → imm (y x) = true) : EvN (tLc (iList K tl) g tt te vs) σ H ((xs.filter c).map y) := fun H0 e0 Q q => h H0 e0 _ fun v H1 e1 r => by
  obtain ⟨a, ws, ea, h1, h2⟩ := r
  have hl : ws.length = xs.length := by rw [h2.len, List.length_map]
  refine ⟨a, ea, ⟨ws, SqL.of h1⟩, fun Dl hD => lc_list (xs := ws) (fun i H' => Own H1 H' Dl (((xs.take i).filter c).map y)) ?_ (fun i H' _ o => SqL.of (o.ex a _ h1)) (fun i x2 H' hi o => ?_) fun H' o => ?_⟩
  · exact ⟨hD, Ex.new hD, ⟨[], upd_same, RpA.nil⟩, rfl⟩
  · obtain ⟨d2, q1, q2⟩ := h2.getv hi
    obtain ⟨x, q3, rfl⟩ := map_get q1
    have hx : x ∈ xs := List.mem_of_getElem? q3
    obtain ⟨σ2, g1, g2, g3, g4⟩ := turn x x2 H' hx ((e0.trans e1).trans o.ex) (q2.ex o.ex)
    have hlen : i < xs.length := (List.getElem?_eq_some_iff.mp q3).1
    refine g1 _ ⟨g2, g3 H' (Ex.refl H') _ fun H3 e3 => ?_⟩
    have et : xs.take (i + 1) = xs.take i ++ [x] := by rw [List.take_add_one, q3]; rfl
    have o3 := o.step e3
    cases hc : c x with
    | true =>
      rw [if_pos rfl]
      refine g4 hc H3 e3 _ fun w H4 e4 r4 => ?_
      obtain ⟨acc, k1, k2⟩ := (o3.step e4).has
      have kt : KT H4 (upd H4 Dl (.lst (acc ++ [w]))) := KT.lst k1
      have hb : acc.length ≤ i := by
        rw [k2.len, List.length_map]
        exact Nat.le_trans (List.length_filter_le _ _) (by rw [List.length_take]; omega)
      refine ⟨acc, k1, sz_lt (by omega), o.new, ?_, ⟨_, upd_same, ?_⟩, ?_⟩
      · exact Ex.mut (o3.step e4).ex o.new
      · rw [et, List.filter_append, List.filter_cons, if_pos hc, List.map_append]
        exact (RpA.keep kt o.im k2).snoc (Rp.keep kt (im x hx hc) r4)
      · rw [et, List.filter_append, List.filter_cons, if_pos hc, List.map_append]
        exact immA_app o.im (immA_one (im x hx hc))
    | false =>
      rw [if_neg Bool.false_ne_true, et, List.filter_append, List.filter_cons, if_neg (by rw [hc]; exact Bool.false_ne_true), List.filter_nil, List.append_nil]
      exact o3
  · rw [hl, List.take_length] at o
    obtain ⟨acc, k1, k2⟩ := o.has
    exact q Dl acc H' (fresh_back e1 o.new) (e1.trans o.ex) k1 k2
/-- the ints lo, lo + 1, .. -/
def rgI (lo : Int) (n : Nat) : List Int := (List.range n).map fun i : Nat => lo + (i : Int)
theorem rgI_len (lo : Int) (n : Nat) : (rgI lo n).length = n := by unfold rgI; rw [List.length_map, List.length_range]
theorem rgI_get {lo : Int} {n i : Nat} (h : i < n) : (rgI lo n)[i]? = some (lo + (i : Int)) := by
  unfold rgI
  rw [List.getElem?_map, List.getElem?_range h]
  rfl
theorem mem_rgI {lo : Int} {n : Nat} {x : Int} : x ∈ rgI lo n ↔ lo ≤ x ∧ x < lo + (n : Int) := by
  unfold rgI
  constructor
  · intro h
    obtain ⟨i, hi, rfl⟩ := List.mem_map.mp h
    rw [List.mem_range] at hi
    omega
  · intro h
    exact List.mem_map.mpr ⟨(x - lo).toNat, List.mem_range.mpr (by omega), by omega⟩
theorem rgI_snoc (lo : Int) (n : Nat) : rgI lo (n + 1) = rgI lo n ++ [lo + (n : Int)] := by
  unfold rgI
  rw [List.range_succ, List.map_append]
  rfl
/-- a comprehension's turns over ints -/
theorem lcR_core {vs : List Nat} {tt : TT} {lo : Int} {n : Nat} {H0 H1 : Hp} {Dl : Addr} {Qd : Hp → Prop} (c : Int → Bool) (y : Int → PyData) (hz : n ≤ 50000) (e : Ex H H1) (hD : H1 Dl = none)
    (turn : ∀ x H1, lo ≤ x → x < lo + (n : Int) → Ex H H1 → ∃ σ2, (∀ Q : L2.St → Hp → Prop, Q σ2 H1 → g (.int x) (wipe σ vs) H1 Q) ∧ wipe σ2 vs = wipe σ vs ∧ EvT tt σ2 H1 (c x) ∧ (c x = true → EvD te σ2 H1 (y x)))
    (im : ∀ x, lo ≤ x → x < lo + (n : Int) → c x = true → imm (y x) = true) (q : ∀ H', Own H1 H' Dl (((rgI lo n).filter c).map y) → Qd H') :
    ∃ W : Nat → Nat → Hp → Prop, (∃ m, W 0 m (upd H1 Dl (.lst []))) ∧ ∀ i m H, W i m H →
      ((Itr lo n).stop i H ∧ Qd H) ∨ ((Itr lo n).go i H ∧ ∃ Nx : Hp → Prop, (∀ H', Nx H' → ∃ m', m' < m ∧ W (i + 1) m' H') ∧ ∀ x H', (Itr lo n).yld i H x H' → g x (wipe σ vs) H' fun σ2 H2 => wipe σ2 vs = wipe σ vs ∧ tt σ2 H2 fun b H3 =>
        if b = true then te σ2 H3 fun y H4 => ∃ acc, H4 Dl = some (.lst acc) ∧ acc.length < sizeLine ∧ Nx (upd H4 Dl (.lst (acc ++ [y]))) else Nx H3) := by
  refine lc_range (lo := lo) (n := n) (fun i H' => Own H1 H' Dl (((rgI lo i).filter c).map y)) ⟨hD, Ex.new hD, ⟨[], upd_same, RpA.nil⟩, rfl⟩ (fun i H' hi o => ?_) fun H' o => q H' o
  obtain ⟨σ2, g1, g2, g3, g4⟩ := turn (lo + (i : Int)) H' (by omega) (by omega) (e.trans o.ex)
  refine g1 _ ⟨g2, g3 H' (Ex.refl H') _ fun H3 e3 => ?_⟩
  have o3 := o.step e3
  cases hc : c (lo + (i : Int)) with
  | true =>
    rw [if_pos rfl]
    refine g4 hc H3 e3 _ fun w H4 e4 r4 => ?_
    obtain ⟨acc, k1, k2⟩ := (o3.step e4).has
    have kt : KT H4 (upd H4 Dl (.lst (acc ++ [w]))) := KT.lst k1
    have i1 := im (lo + (i : Int)) (by omega) (by omega) hc
    have hb : acc.length ≤ i := by
      rw [k2.len, List.length_map]
      exact Nat.le_trans (List.length_filter_le _ _) (by rw [rgI_len]; omega)
    refine ⟨acc, k1, sz_lt (by omega), o.new, Ex.mut (o3.step e4).ex o.new, ⟨_, upd_same, ?_⟩, ?_⟩
    · rw [rgI_snoc, List.filter_append, List.filter_cons, if_pos hc, List.map_append]
      exact (RpA.keep kt o.im k2).snoc (Rp.keep kt i1 r4)
    · rw [rgI_snoc, List.filter_append, List.filter_cons, if_pos hc, List.map_append]
      exact immA_app o.im (immA_one i1)
  | false =>
    rw [if_neg Bool.false_ne_true, rgI_snoc, List.filter_append, List.filter_cons, if_neg (by rw [hc]; exact Bool.false_ne_true), List.filter_nil, List.append_nil]
    exact o3
/-- over range(n) -/
theorem evn_lcR {vs : List Nat} {tt : TT} {ta : TA} {n : Int} (c : Int → Bool) (y : Int → PyData) (h : EvS ta σ H [.int n]) (hz : -50000 ≤ n ∧ n ≤ 50000)
    (turn : ∀ x H1, 0 ≤ x → x < n → Ex H H1 → ∃ σ2, (∀ Q : L2.St → Hp → Prop, Q σ2 H1 → g (.int x) (wipe σ vs) H1 Q) ∧ wipe σ2 vs = wipe σ vs ∧ EvT tt σ2 H1 (c x) ∧ (c x = true → EvD te σ2 H1 (y x)))
    (im : ∀ x, 0 ≤ x → x < n → c x = true → imm (y x) = true) : EvN (tLc (iRng1 ta) g tt te vs) σ H (((rgI 0 n.toNat).filter c).map y) := fun H0 e0 Q q => h H0 e0 _ fun ws H1 e1 r => by
  obtain rfl : ws = [.int n] := RpA.ints (ns := [n]) r
  refine ⟨n, rfl, by omega, by omega, fun Dl hD => lcR_core (H := H) (H0 := H0) c y (by omega) (e0.trans e1) hD (fun x H2 l1 l2 e2 => turn x H2 l1 (by omega) e2) (fun x l1 l2 => im x l1 (by omega)) fun H' o => ?_⟩
  obtain ⟨acc, k1, k2⟩ := o.has
  exact q Dl acc H' (fresh_back e1 o.new) (e1.trans o.ex) k1 k2
/-- over range(lo, n) -/
theorem evn_lcR2 {vs : List Nat} {tt : TT} {ta : TA} {lo n : Int} (c : Int → Bool) (y : Int → PyData) (h : EvS ta σ H [.int lo, .int n]) (hz : -20000 ≤ lo ∧ lo ≤ 20000 ∧ -20000 ≤ n ∧ n ≤ 20000)
    (turn : ∀ x H1, lo ≤ x → x < n → Ex H H1 → ∃ σ2, (∀ Q : L2.St → Hp → Prop, Q σ2 H1 → g (.int x) (wipe σ vs) H1 Q) ∧ wipe σ2 vs = wipe σ vs ∧ EvT tt σ2 H1 (c x) ∧ (c x = true → EvD te σ2 H1 (y x)))
    (im : ∀ x, lo ≤ x → x < n → c x = true → imm (y x) = true) : EvN (tLc (iRng2 ta) g tt te vs) σ H (((rgI lo (n - lo).toNat).filter c).map y) := fun H0 e0 Q q => h H0 e0 _ fun ws H1 e1 r => by
  obtain rfl : ws = [.int lo, .int n] := RpA.ints (ns := [lo, n]) r
  refine ⟨lo, n, rfl, ⟨by omega, by omega, by omega, by omega⟩, fun Dl hD => lcR_core (H := H) (H0 := H0) c y (by omega) (e0.trans e1) hD (fun x H2 l1 l2 e2 => turn x H2 l1 (by omega) e2) (fun x l1 l2 => im x l1 (by omega)) fun H' o => ?_⟩
  obtain ⟨acc, k1, k2⟩ := o.has
  exact q Dl acc H' (fresh_back e1 o.new) (e1.trans o.ex) k1 k2
theorem et_yes : EvT tYes σ H true := fun H1 _ _ q => q H1 (Ex.refl H1)
end
end Bm

/-! Sequences as data: equality, in, len, items, slices, index, isinstance, list(..), tuple(..), int(..), +. -/
namespace Bm
open PySem PySem.Spec PyProof.Rows L2 Evl

/-! ### equality of data without bools -/
mutual
def pure1 : PyData → Bool
  | .int _ => true
  | .str _ => true
  | .none => true
  | .tuple ds => pureA ds
  | .list ds => pureA ds
  | _ => false
def pureA : List PyData → Bool
  | [] => true
  | d :: ds => pure1 d && pureA ds
end
mutual
theorem eqv_pure : ∀ (d e : PyData), pure1 d = true → pure1 e = true → (PyData.eqv d e = true ↔ d = e)
  | .int i, e, _, h => by cases e <;> simp_all [PyData.eqv, pure1]
  | .str i, e, _, h => by cases e <;> simp_all [PyData.eqv, pure1]
  | .none, e, _, h => by cases e <;> simp_all [PyData.eqv, pure1]
  | .tuple ds, e, h', h => by
    cases e with
    | tuple es => rw [PyData.eqv, eqvA_pure ds es (by simpa [pure1] using h') (by simpa [pure1] using h)]; simp
    | _ => simp [PyData.eqv]
  | .list ds, e, h', h => by
    cases e with
    | list es => rw [PyData.eqv, eqvA_pure ds es (by simpa [pure1] using h') (by simpa [pure1] using h)]; simp
    | _ => simp [PyData.eqv]
  | .bool _, _, h, _ => by simp [pure1] at h
  | .dict _, _, h, _ => by simp [pure1] at h
theorem eqvA_pure : ∀ (ds es : List PyData), pureA ds = true → pureA es = true → (PyData.eqvAll ds es = true ↔ ds = es)
  | [], [], _, _ => by simp [PyData.eqvAll]
  | [], _ :: _, _, _ => by simp [PyData.eqvAll]
  | _ :: _, [], _, _ => by simp [PyData.eqvAll]
  | d :: ds, e :: es, h, h' => by
    rw [pureA, Bool.and_eq_true] at h h'
    rw [PyData.eqvAll, Bool.and_eq_true, eqv_pure d e h.1 h'.1, eqvA_pure ds es h.2 h'.2, List.cons.injEq]
end
theorem pureA_iff : ∀ {ds : List PyData}, pureA ds = true ↔ ∀ d ∈ ds, pure1 d = true
  | [] => by simp [pureA]
  | d :: ds => by rw [pureA, Bool.and_eq_true, pureA_iff (ds := ds), List.forall_mem_cons]
theorem canLayA : ∀ {ds : List PyData}, (∀ d ∈ ds, d.canLay0 = true) → PyData.canLayAll0 ds = true
  | [], _ => by rw [PyData.canLayAll0]
  | d :: ds, h => by
    rw [PyData.canLayAll0, Bool.and_eq_true]
    exact ⟨h d List.mem_cons_self, canLayA fun x m => h x (List.mem_cons_of_mem _ m)⟩
theorem depthA : ∀ {ds : List PyData} {n : Nat}, (∀ d ∈ ds, d.depth ≤ n) → PyData.depthAll ds ≤ n
  | [], n, _ => by rw [PyData.depthAll]; exact Nat.zero_le _
  | d :: ds, n, h => by
    rw [PyData.depthAll]
    exact Nat.max_le.mpr ⟨h d List.mem_cons_self, depthA fun x m => h x (List.mem_cons_of_mem _ m)⟩
/-- data that may be compared: its depth at most n, no bool in it -/
structure Cmp (n : Nat) (d : PyData) : Prop where
  p : pure1 d = true
  l : d.canLay0 = true
  d : d.depth ≤ n
theorem Cmp.int (i : Int) : Cmp 0 (.int i) := ⟨rfl, by rw [PyData.canLay0], by rw [PyData.depth]; exact Nat.le_refl _⟩
theorem Cmp.non : Cmp 0 .none := ⟨rfl, by rw [PyData.canLay0], by rw [PyData.depth]; exact Nat.le_refl _⟩
theorem Cmp.mono {n m : Nat} {d : PyData} (h : Cmp n d) (e : n ≤ m) : Cmp m d := ⟨h.p, h.l, Nat.le_trans h.d e⟩
theorem Cmp.tup {n : Nat} {ds : List PyData} (h : ∀ d ∈ ds, Cmp n d) : Cmp (n + 1) (.tuple ds) :=
  ⟨pureA_iff.mpr fun d m => (h d m).p, by rw [PyData.canLay0]; exact canLayA fun d m => (h d m).l, by rw [PyData.depth]; exact Nat.succ_le_succ (depthA fun d m => (h d m).d)⟩
theorem Cmp.lst {n : Nat} {ds : List PyData} (h : ∀ d ∈ ds, Cmp n d) : Cmp (n + 1) (.list ds) :=
  ⟨pureA_iff.mpr fun d m => (h d m).p, by rw [PyData.canLay0]; exact canLayA fun d m => (h d m).l, by rw [PyData.depth]; exact Nat.succ_le_succ (depthA fun d m => (h d m).d)⟩
theorem mem_map_of {α : Type} {f : α → PyData} {P : PyData → Prop} {xs : List α} (h : ∀ x ∈ xs, P (f x)) : ∀ d ∈ xs.map f, P d := fun d m => by
  obtain ⟨x, hx, rfl⟩ := List.mem_map.mp m
  exact h x hx
theorem cmp_iD (ns : List Int) : Cmp 1 (iD ns) := Cmp.tup (mem_map_of fun i _ => Cmp.int i)
theorem cmp_iL (ns : List Int) : Cmp 1 (iL ns) := Cmp.lst (mem_map_of fun i _ => Cmp.int i)
theorem cmp_pD (p : Int × Int) : Cmp 1 (pD p) := cmp_iD [p.1, p.2]
theorem cmp_vD (vs : List (List Int)) : Cmp 2 (vD vs) := Cmp.lst (mem_map_of fun i _ => cmp_iD i)
theorem cmp_wD (vs : List (Int × Int)) : Cmp 2 (wD vs) := Cmp.lst (mem_map_of fun i _ => cmp_pD i)
theorem Cmp.shaped {n : Nat} {d : PyData} (h : Cmp n d) (hn : n ≤ 64) : SeqAt.shaped d = true := by
  show (d.canLay0 && decide (d.depth ≤ 64)) = true
  rw [h.l, decide_eq_true (Nat.le_trans h.d hn)]
  rfl
theorem eqv_dec {d e : PyData} {P : Prop} [Decidable P] {n m : Nat} (h : Cmp n d) (h' : Cmp m e) (i : d = e ↔ P) : PyData.eqv d e = decide P := by
  have q := (eqv_pure d e h.p h'.p).trans i
  by_cases p : P
  · rw [decide_eq_true p, q.mpr p]
  · rw [decide_eq_false p]
    exact Bool.eq_false_iff.mpr fun z => p (q.mp z)
theorem int_inj : ∀ {i j : Int}, PyData.int i = PyData.int j → i = j := fun h => PyData.int.inj h
theorem map_inj {α : Type} {f : α → PyData} (h : ∀ x y, f x = f y → x = y) : ∀ {xs ys : List α}, xs.map f = ys.map f → xs = ys
  | [], [], _ => rfl
  | [], _ :: _, e => by cases e
  | _ :: _, [], e => by cases e
  | x :: xs, y :: ys, e => by
    rw [List.map_cons, List.map_cons, List.cons.injEq] at e
    rw [h x y e.1, map_inj h e.2]
theorem iD_inj {a b : List Int} (h : iD a = iD b) : a = b := map_inj (fun _ _ => int_inj) (PyData.tuple.inj h)
theorem iL_inj {a b : List Int} (h : iL a = iL b) : a = b := map_inj (fun _ _ => int_inj) (PyData.list.inj h)
theorem pD_inj {a b : Int × Int} (h : pD a = pD b) : a = b := by
  have e := iD_inj (a := [a.1, a.2]) (b := [b.1, b.2]) h
  cases a; cases b
  simp at e
  rw [e.1, e.2]
theorem vD_inj {a b : List (List Int)} (h : vD a = vD b) : a = b := map_inj (fun _ _ => iD_inj) (PyData.list.inj h)
theorem wD_inj {a b : List (Int × Int)} (h : wD a = wD b) : a = b := map_inj (fun _ _ => pD_inj) (PyData.list.inj h)

section
variable {K : PySem.W.Frag} {σ : L2.St} {H H' : Hp} {ta tb te tl : TE} {d e x y z : PyData} {ds es : List PyData} {P : Prop} [Decidable P] {n m : Nat}
theorem rd_eqD (h : Cmp n d) (h' : Cmp m e) (i : d = e ↔ P) (hn : n ≤ 64 := by decide) (hm : m ≤ 64 := by decide) : RD (rEqD K) d e H (.bool (decide P)) := rd_val fun H1 v u ex r1 r2 =>
  ⟨.bl (decide P), rfl, fun Q q => ⟨d, e, r1.dp, r2.dp, h.shaped hn, h'.shaped hm, by rw [eqv_dec h h' i]; exact q⟩⟩
theorem rd_neD (h : Cmp n d) (h' : Cmp m e) (i : d = e ↔ P) (hn : n ≤ 64 := by decide) (hm : m ≤ 64 := by decide) : RD (rNeD K) d e H (.bool (!decide P)) := rd_val fun H1 v u ex r1 r2 =>
  ⟨.bl (!decide P), rfl, fun Q q => ⟨d, e, r1.dp, r2.dp, h.shaped hn, h'.shaped hm, by rw [eqv_dec h h' i]; exact q⟩⟩
theorem rd_eqV {a b : List (List Int)} : RD (rEqD K) (vD a) (vD b) H (.bool (decide (a = b))) := rd_eqD (cmp_vD a) (cmp_vD b) ⟨vD_inj, fun e => by rw [e]⟩
theorem rd_neV {a b : List (List Int)} : RD (rNeD K) (vD a) (vD b) H (.bool (!decide (a = b))) := rd_neD (cmp_vD a) (cmp_vD b) ⟨vD_inj, fun e => by rw [e]⟩
theorem rd_eqW {a b : List (Int × Int)} : RD (rEqD K) (wD a) (wD b) H (.bool (decide (a = b))) := rd_eqD (cmp_wD a) (cmp_wD b) ⟨wD_inj, fun e => by rw [e]⟩
theorem rd_neW {a b : List (Int × Int)} : RD (rNeD K) (wD a) (wD b) H (.bool (!decide (a = b))) := rd_neD (cmp_wD a) (cmp_wD b) ⟨wD_inj, fun e => by rw [e]⟩
theorem rd_eqIL {a b : List Int} : RD (rEqD K) (iL a) (iL b) H (.bool (decide (a = b))) := rd_eqD (cmp_iL a) (cmp_iL b) ⟨iL_inj, fun e => by rw [e]⟩
theorem rd_neIL {a b : List Int} : RD (rNeD K) (iL a) (iL b) H (.bool (!decide (a = b))) := rd_neD (cmp_iL a) (cmp_iL b) ⟨iL_inj, fun e => by rw [e]⟩
theorem rd_eqID {a b : List Int} : RD (rEqD K) (iD a) (iD b) H (.bool (decide (a = b))) := rd_eqD (cmp_iD a) (cmp_iD b) ⟨iD_inj, fun e => by rw [e]⟩
theorem rd_neID {a b : List Int} : RD (rNeD K) (iD a) (iD b) H (.bool (!decide (a = b))) := rd_neD (cmp_iD a) (cmp_iD b) ⟨iD_inj, fun e => by rw [e]⟩

/-! ### in -/
theorem inV_ints (k : Int) : ∀ ns : List Int, inV (.int k) (ns.map V.int) = decide (k ∈ ns)
  | [] => rfl
  | n :: ns => by
    have ih := inV_ints k ns
    show (eqV (.int n) (.int k) || inV (.int k) (ns.map V.int)) = _
    rw [ih, show eqV (.int n) (.int k) = (n == k) from rfl]
    by_cases h : n = k
    · subst h; simp
    · have h2 : ¬ k = n := fun z => h z.symm
      simp [h, h2]
def rInF (K : PySem.W.Frag) : R2 := rIn K false
def rNiF (K : PySem.W.Frag) : R2 := rIn K true
theorem op_inF {X : Cx} : OpR X (compareOp .In) (rInF X.K) := op_in_seq
theorem op_niF {X : Cx} : OpR X (compareOp .NotIn) (rNiF X.K) := op_notIn_seq
theorem rd_inIL {k : Int} {ns : List Int} : RD (rInF K) (.int k) (iL ns) H (.bool (decide (k ∈ ns))) := rd_val fun H1 v u ex r1 r2 => by
  obtain rfl : v = .int k := r1
  obtain ⟨a, rfl, h⟩ := r2.iL
  exact ⟨.bl (decide (k ∈ ns)), rfl, fun Q q => ⟨a, _, rfl, .inl (SqL.of h), rfl, flat_ints ns, by rw [if_neg (by decide), inV_ints]; exact q⟩⟩
theorem rd_niIL {k : Int} {ns : List Int} : RD (rNiF K) (.int k) (iL ns) H (.bool (!decide (k ∈ ns))) := rd_val fun H1 v u ex r1 r2 => by
  obtain rfl : v = .int k := r1
  obtain ⟨a, rfl, h⟩ := r2.iL
  exact ⟨.bl (!decide (k ∈ ns)), rfl, fun Q q => ⟨a, _, rfl, .inl (SqL.of h), rfl, flat_ints ns, by rw [if_pos rfl, inV_ints]; exact q⟩⟩
theorem rd_inID {k : Int} {ns : List Int} : RD (rInF K) (.int k) (iD ns) H (.bool (decide (k ∈ ns))) := rd_val fun H1 v u ex r1 r2 => by
  obtain rfl : v = .int k := r1
  obtain ⟨a, o, rfl, h, _⟩ := r2.iD
  exact ⟨.bl (decide (k ∈ ns)), rfl, fun Q q => ⟨a, _, rfl, .inr (.inl (.inr ⟨o, h⟩)), rfl, flat_ints ns, by rw [if_neg (by decide), inV_ints]; exact q⟩⟩
theorem rd_niID {k : Int} {ns : List Int} : RD (rNiF K) (.int k) (iD ns) H (.bool (!decide (k ∈ ns))) := rd_val fun H1 v u ex r1 r2 => by
  obtain rfl : v = .int k := r1
  obtain ⟨a, o, rfl, h, _⟩ := r2.iD
  exact ⟨.bl (!decide (k ∈ ns)), rfl, fun Q q => ⟨a, _, rfl, .inr (.inl (.inr ⟨o, h⟩)), rfl, flat_ints ns, by rw [if_pos rfl, inV_ints]; exact q⟩⟩
theorem any_eqv {α : Type} [DecidableEq α] {f : α → PyData} {k : Nat} (hc : ∀ a, Cmp k (f a)) (hi : ∀ a b, f a = f b → a = b) (x : α) : ∀ xs : List α, (xs.map f).any (fun z => PyData.eqv z (f x)) = decide (x ∈ xs)
  | [] => rfl
  | a :: xs => by
    rw [List.map_cons, List.any_cons, any_eqv hc hi x xs, eqv_dec (P := a = x) (hc a) (hc x) ⟨hi a x, fun e => by rw [e]⟩]
    by_cases h : a = x
    · subst h; simp
    · have h2 : ¬ x = a := fun z => h z.symm
      simp [h, h2]
/-- a pair in a web -/
theorem rd_inW {p : Int × Int} {ps : List (Int × Int)} : RD (rInD K) (pD p) (wD ps) H (.bool (decide (p ∈ ps))) := rd_val fun H1 v u ex r1 r2 =>
  ⟨.bl (decide (p ∈ ps)), rfl, fun Q q => ⟨pD p, ps.map pD, r1.dp, r2.dp, (cmp_pD p).shaped (by decide), (cmp_wD ps).shaped (by decide), by rw [show ((ps.map pD).any fun z => PyData.eqv z (pD p)) = decide (p ∈ ps) from (any_eqv cmp_pD (fun a b => pD_inj) p ps).trans (decide_eq_decide.mpr Iff.rfl)]; exact q⟩⟩

/-! ### len, items, slices -/
theorem cr_len {X : Cx} : CallR X (.builtin "len") (rLenS X.K) := call_len_seq
theorem cd_lenL : CD (rLenS K) [.list ds] H (.int ds.length) := fun H1 vs e r Q q => by
  obtain ⟨v, w, rfl, ⟨a, xs, rfl, h1, h2⟩, rfl⟩ := r
  exact ⟨a, xs, rfl, .inl (SqL.of h1), by rw [h2.len]; exact q _ H1 (Ex.refl H1) rfl⟩
theorem cd_lenT : CD (rLenS K) [.tuple ds] H (.int ds.length) := fun H1 vs e r Q q => by
  obtain ⟨v, w, rfl, ⟨a, xs, o, rfl, h1, _, h2⟩, rfl⟩ := r
  exact ⟨a, xs, rfl, .inr (.inl (.inr ⟨o, h1⟩)), by rw [h2.len]; exact q _ H1 (Ex.refl H1) rfl⟩
theorem atI_rp {vs : List V} {i : Int} (r : RpA H ds vs) (h : atI ds i = some d) : ∃ v, atI vs i = some v ∧ Rp H d v := by
  unfold atI at h ⊢
  rw [r.len]
  cases e : ixN ds.length i with
  | none => rw [e] at h; cases h
  | some j =>
    rw [e] at h
    exact r.get h
theorem atI_map {α β : Type} {f : α → β} {xs : List α} {i : Int} {x : α} (h : atI xs i = some x) : atI (xs.map f) i = some (f x) := by
  unfold atI at h ⊢
  rw [List.length_map]
  cases e : ixN xs.length i with
  | none => rw [e] at h; cases h
  | some j =>
    rw [e] at h
    show (xs.map f)[j]? = _
    have h2 : xs[j]? = some x := h
    rw [List.getElem?_map, h2]
    rfl
theorem rd_ixL {i : Int} (h : atI ds i = some d) : RD (rIxL K) (.list ds) (.int i) H d := rd_val fun H1 v u ex r1 r2 => by
  obtain rfl : u = .int i := r2
  obtain ⟨a, xs, rfl, h1, h2⟩ := r1
  obtain ⟨w, q1, q2⟩ := atI_rp h2 h
  exact ⟨w, q2, fun Q q => ⟨a, xs, i, w, rfl, rfl, SqL.of h1, q1, q⟩⟩
theorem rd_ixT {i : Int} (h : atI ds i = some d) : RD (rIxT K) (.tuple ds) (.int i) H d := rd_val fun H1 v u ex r1 r2 => by
  obtain rfl : u = .int i := r2
  obtain ⟨a, xs, o, rfl, h1, _, h2⟩ := r1
  obtain ⟨w, q1, q2⟩ := atI_rp h2 h
  exact ⟨w, q2, fun Q q => ⟨a, xs, i, w, rfl, rfl, .inl (.inr ⟨o, h1⟩), q1, q⟩⟩
/-- a part of a list -/
def cutA {α : Type} (xs : List α) (lo hi : Option Int) : List α := (xs.drop (HT.sIx xs.length 0 lo)).take (HT.sIx xs.length xs.length hi - HT.sIx xs.length 0 lo)
theorem cutA_rp {vs : List V} (r : RpA H ds vs) (lo hi : Option Int) : RpA H (cutA ds lo hi) (cutV vs lo hi) := by
  unfold cutA cutV
  rw [r.len]
  exact (r.drop _).take _
theorem cutA_map {α β : Type} (f : α → β) (xs : List α) (lo hi : Option Int) : cutA (xs.map f) lo hi = (cutA xs lo hi).map f := by
  unfold cutA
  rw [List.length_map, List.map_take, List.map_drop]
theorem cutA_to {α : Type} (xs : List α) (k : Nat) : cutA xs none (some (k : Int)) = xs.take k := by
  unfold cutA
  rw [HT.sIx_none, HT.sIx_nat, List.drop_zero, Nat.sub_zero]
  by_cases h : k ≤ xs.length
  · rw [Nat.min_eq_left h]
  · rw [Nat.min_eq_right (by omega), List.take_length, List.take_of_length_le (by omega)]
theorem cutA_from {α : Type} (xs : List α) (k : Nat) : cutA xs (some (k : Int)) none = xs.drop k := by
  unfold cutA
  rw [HT.sIx_none, HT.sIx_nat]
  by_cases h : k ≤ xs.length
  · rw [Nat.min_eq_left h, List.take_of_length_le (by rw [List.length_drop]; omega)]
  · rw [Nat.min_eq_right (by omega), List.drop_of_length_le (Nat.le_refl _), List.drop_of_length_le (by omega), List.take_nil]
def EvP (to : TO) (σ : L2.St) (H : Hp) (o : Option Int) : Prop := ∀ H1, Ex H H1 → ∀ Q : Option Int → Hp → Prop, (∀ H2, Ex H1 H2 → Q o H2) → to σ H1 Q
theorem evp_none : EvP tNoPart σ H none := fun H1 _ _ q => q H1 (Ex.refl H1)
theorem evp_some {i : Int} (h : EvD te σ H (.int i)) : EvP (tPart te) σ H (some i) := fun H1 e _ q => h H1 e _ fun v H2 e2 r => ⟨i, r, q H2 e2⟩
theorem evn_slL {tl th : TO} {lo hi : Option Int} (h : EvD te σ H (.list ds)) (h1 : EvP tl σ H lo) (h2 : EvP th σ H hi) : EvN (tSl (rSlL K) te tl th) σ H (cutA ds lo hi) := fun H0 e Q q =>
  h H0 e _ fun v H2 e2 r => h1 H2 (e.trans e2) _ fun H3 e3 => h2 H3 ((e.trans e2).trans e3) _ fun H4 e4 => by
    obtain ⟨a, xs, rfl, k1, k2⟩ := r
    have e24 := e3.trans e4
    exact ⟨a, xs, rfl, SqL.of (e24 _ _ k1), fun p hp => q p _ _ (fresh_back (e2.trans e24) hp) ((e2.trans e24).trans (Ex.new hp)) upd_same ((cutA_rp (k2.ex e24) lo hi).ex (Ex.new hp))⟩
/-! ### + and * of lists, + of tuples -/
theorem evn_cat (ha : EvD ta σ H (.list ds)) (hb : EvD tb σ H (.list es)) (hz : ds.length + es.length ≤ 100000) : EvN (tOp rCat ta tb) σ H (ds ++ es) := fun H0 e Q q =>
  ha H0 e _ fun v H2 e2 r2 => hb H2 (e.trans e2) _ fun u H3 e3 r3 => by
    obtain ⟨a, xs, rfl, k1, k2⟩ := r2.ex e3
    obtain ⟨b, ys, rfl, k3, k4⟩ := r3
    exact ⟨a, b, xs, ys, rfl, rfl, k1, k3, sz_of (by rw [k2.len, k4.len]; exact hz), fun p hp => q p _ _ (fresh_back (e2.trans e3) hp) ((e2.trans e3).trans (Ex.new hp)) upd_same ((k2.app k4).ex (Ex.new hp))⟩
theorem evn_rep {k : Int} (ha : EvD ta σ H (.list ds)) (hb : EvD tb σ H (.int k)) (hk : 0 ≤ k ∧ k ≤ 1000) (hz : ds.length ≤ 1000) : EvN (tOp rRep ta tb) σ H (List.replicate k.toNat ds).flatten := fun H0 e Q q =>
  ha H0 e _ fun v H2 e2 r2 => hb H2 (e.trans e2) _ fun u H3 e3 r3 => by
    obtain rfl : u = .int k := r3
    obtain ⟨a, xs, rfl, k1, k2⟩ := r2.ex e3
    have hm : xs.length * k.toNat ≤ 1000 * 1000 := Nat.mul_le_mul (by rw [k2.len]; exact hz) (by omega)
    refine ⟨a, k, xs, rfl, rfl, k1, by omega, by omega, Nat.le_trans hm (by decide), fun p hp => ?_⟩
    exact q p _ _ (fresh_back (e2.trans e3) hp) ((e2.trans e3).trans (Ex.new hp)) upd_same ((k2.rep k.toNat).ex (Ex.new hp))
theorem evd_catT (ha : EvD ta σ H (.tuple ds)) (hb : EvD tb σ H (.tuple es)) (hz : ds.length + es.length ≤ 100000) : EvD (tOp (rCatF K) ta tb) σ H (.tuple (ds ++ es)) := fun H0 e Q q =>
  ha H0 e _ fun v H2 e2 r2 => hb H2 (e.trans e2) _ fun u H3 e3 r3 => by
    obtain ⟨a, xs, rfl, k1, k2⟩ := (r2.ex e3).seqT (K := K)
    obtain ⟨b, ys, rfl, k3, k4⟩ := r3.seqT (K := K)
    refine ⟨a, b, xs, ys, rfl, rfl, k1, k3, sz_of (by rw [k2.len, k4.len]; exact hz), fun z => ?_, fun z => ?_, fun p o hp ho => ?_⟩
    · have hd : ds = [] := List.eq_nil_of_length_eq_zero (by rw [← k2.len, z]; rfl)
      refine q _ H3 (e2.trans e3) ?_
      rw [hd]
      exact r3
    · have hd : es = [] := List.eq_nil_of_length_eq_zero (by rw [← k4.len, z]; rfl)
      refine q _ H3 (e2.trans e3) ?_
      rw [hd, List.append_nil]
      exact r2.ex e3
    · exact q _ _ ((e2.trans e3).trans (Ex.new hp)) ⟨p, _, o, rfl, upd_same, ho, (k2.app k4).ex (Ex.new hp)⟩
/-! ### list(..), tuple(..) -/
theorem cr_list {X : Cx} : CallR X (.type "list") (rListS X.K) := call_list_of
theorem cn_listL : CN (rListS K) [.list ds] H ds := fun H1 vs e r Q q => by
  obtain ⟨v, w, rfl, ⟨a, xs, rfl, h1, h2⟩, rfl⟩ := r
  exact ⟨a, xs, rfl, .inl (SqL.of h1), fun l hl => q l xs _ hl (Ex.new hl) upd_same (h2.ex (Ex.new hl))⟩
theorem cn_listT : CN (rListS K) [.tuple ds] H ds := fun H1 vs e r Q q => by
  obtain ⟨v, w, rfl, ⟨a, xs, o, rfl, h1, _, h2⟩, rfl⟩ := r
  exact ⟨a, xs, rfl, .inr (.inl (.inr ⟨o, h1⟩)), fun l hl => q l xs _ hl (Ex.new hl) upd_same (h2.ex (Ex.new hl))⟩
theorem cd_tupL : CD (rTupL K) [.list ds] H (.tuple ds) := fun H1 vs e r Q q => by
  obtain ⟨v, w, rfl, ⟨a, xs, rfl, h1, h2⟩, rfl⟩ := r
  exact ⟨a, xs, rfl, SqL.of h1, fun l o hl ho => q _ _ (Ex.new hl) ⟨l, xs, o, rfl, upd_same, ho, h2.ex (Ex.new hl)⟩⟩
theorem evn_rng {te2 : TE} {n : Int} (h : EvD te2 σ H (.int n)) (hz : 0 ≤ n ∧ n ≤ 100000) : EvN (tLstRg (tRg1 te2)) σ H ((rgI 0 n.toNat).map PyData.int) := fun H0 e Q q =>
  h H0 e _ fun v H2 e2 r => ⟨n, r, RgOk.of_le (by omega) (by omega) (by omega) (by omega), fun p hp => by
    have ev : rgV 0 n = (rgI 0 n.toNat).map V.int := by
      unfold rgV rgI
      rw [List.map_map, Int.sub_zero]
      rfl
    exact q p _ _ (fresh_back e2 hp) (e2.trans (Ex.new hp)) upd_same (by rw [ev]; exact rpa_ints _)⟩
/-! ### int(a bool), str(an int) -/
def rIntB : List V → Hp → VK → Prop := fun xs H Q => ∃ k, xs = [.bl k] ∧ Q (.int (if k then 1 else 0)) H
theorem cr_intB {X : Cx} : CallR X (.type "int") rIntB := fun pins s σ H xs us Q I r h => call_int1 pins s σ H xs us Q I r (.inr h)
theorem cd_intB {b : Bool} : CD rIntB [.bool b] H (.int (if b then 1 else 0)) := fun H1 vs e r Q q => by
  obtain ⟨v, w, rfl, rfl, rfl⟩ := r
  exact ⟨b, rfl, q _ H1 (Ex.refl H1) rfl⟩
/-! ### t.index(x) -/
/-- the first place of x -/
def ixOf (x : Int) : List Int → Nat
  | [] => 0
  | y :: ys => if y = x then 0 else ixOf x ys + 1
theorem ixOf_get {x : Int} : ∀ {ns : List Int}, x ∈ ns → ns[ixOf x ns]? = some x
  | [], h => by simp at h
  | y :: ys, h => by
    unfold ixOf
    by_cases e : y = x
    · rw [if_pos e, e]; rfl
    · rw [if_neg e]
      exact ixOf_get ((List.mem_cons.mp h).resolve_left fun z => e z.symm)
theorem ixOf_min {x : Int} : ∀ {ns : List Int} {m : Nat}, m < ixOf x ns → ns[m]? ≠ some x
  | [], m, h => by simp [ixOf] at h
  | y :: ys, m, h => by
    unfold ixOf at h
    by_cases e : y = x
    · rw [if_pos e] at h; omega
    · rw [if_neg e] at h
      cases m with
      | zero => exact fun z => e (Option.some.inj z)
      | succ m => exact ixOf_min (ns := ys) (m := m) (by omega)
theorem evd_tix {ns : List Int} {k : Int} (ho : EvD te σ H (iD ns)) (hk : EvD tl σ H (.int k)) (m : k ∈ ns) : EvD (tTM (rIxI K) te (tCons tl tNil)) σ H (.int (ixOf k ns)) := fun H0 e Q q =>
  ho H0 e _ fun v H2 e2 r => by
    obtain ⟨a, o, rfl, h1, hd⟩ := r.iD
    exact ⟨⟨a, o, _, rfl, h1, hd⟩, hk H2 (e.trans e2) _ fun u H3 e3 r3 => by
      obtain rfl : u = .int k := r3
      exact ⟨a, ns, k, ixOf k ns, rfl, rfl, .inl (.inr ⟨o, e3 _ _ h1⟩), ixOf_get m, fun m2 hm => ixOf_min hm, q _ H3 (e2.trans e3) rfl⟩⟩
/-! ### isinstance of built-in types -/
def tyN : PyData → String
  | .none => "NoneType"
  | .bool _ => "bool"
  | .int _ => "int"
  | .str _ => "str"
  | .list _ => "list"
  | .tuple _ => "tuple"
  | .dict _ => "dict"
theorem Rp.ty {v : V} : ∀ {d : PyData}, Rp H d v → TyX K H v (.type (tyN d))
  | .none, h => by cases h; exact .base .non
  | .bool _, h => by cases h; exact .base (.bl _)
  | .int _, h => by cases h; exact .base (.int _)
  | .str _, h => by cases h; exact .base (.str _)
  | .list _, h => by obtain ⟨a, xs, rfl, h1, _⟩ := h; exact .base (.lst h1)
  | .tuple _, h => by obtain ⟨a, xs, o, rfl, h1, _⟩ := h; exact .fTuple h1
  | .dict _, h => h.elim
theorem evd_isi {T : String} {b : Bool} (h : EvD te σ H d) (hb : kitB (tyN d) T = some b) : EvD (tCB (rIsi K) (tCons te (tCons (tC (.ty T)) tNil))) σ H (.bool b) := fun H0 e Q q =>
  h H0 e _ fun v H2 e2 r => ⟨v, .ty T, .type (tyN d), .type T, b, rfl, .ty T, r.ty, kit_ty hb, q _ H2 e2 rfl⟩
end
end Bm

/-! A def's promise by data; what stands behind the top. -/
namespace Bm
open PySem PySem.Spec PyProof.Rows L2 Evl

/-- a def's answer: data, a new list, an error of the class at C -/
inductive Out where
  | val (d : PyData)
  | new (ds : List PyData)
  | exc (C : Addr)
  | pair (s : Str) (ds : List PyData)
  | duo (i : Int) (ds : List PyData)
  | some (P : List PyData → Prop)
def Gives (H : Hp) (Q : VK) (E : XK) : Out → Prop
  | .val d => ∀ v H', Ex H H' → Rp H' d v → Q v H'
  | .new ds => ∀ p ws H', H p = none → Ex H H' → H' p = some (.lst ws) → RpA H' ds ws → Q (.ref p) H'
  | .exc C => ∀ H', Ex H H' → E (.ref C) none H'
  | .pair s ds => ∀ p ws a o H', H p = none → Ex H H' → H' p = some (.lst ws) → RpA H' ds ws → H' a = some (.frz o (.tup [.str s, .ref p])) → o.dict = none → Q (.ref a) H'
  | .duo i ds => ∀ p ws a o H', H p = none → Ex H H' → H' p = some (.lst ws) → RpA H' ds ws → H' a = some (.frz o (.tup [.int i, .ref p])) → o.dict = none → Q (.ref a) H'
  | .some P => ∀ ds, P ds → ∀ p ws H', H p = none → Ex H H' → H' p = some (.lst ws) → RpA H' ds ws → Q (.ref p) H'
def spO {α : Type} (enc : α → List PyData) (pre : α → Prop) (out : α → Out) : Sp := fun vs H Q E => ∃ a : α, RpA H (enc a) vs ∧ pre a ∧ Gives H Q E (out a)
theorem spO_len {α : Type} {enc : α → List PyData} {pre : α → Prop} {out : α → Out} {n : Nat} (hn : ∀ a, (enc a).length = n) (vs : List V) (H : Hp) (Q : VK) (E : XK) (h : spO enc pre out vs H Q E) : vs.length = n := by
  obtain ⟨a, r, _⟩ := h
  rw [r.len, hn]
section
variable {K : PySem.W.Frag} {σ : L2.St} {H H' : Hp} {tr : TA} {d : PyData} {ds : List PyData} {E : XK} {α : Type} {enc : α → List PyData} {pre : α → Prop} {out : α → Out}
theorem evd_callO (a : α) (h : EvS tr σ H (enc a)) (hp : pre a) (ho : out a = .val d) : EvD (tCall (spO enc pre out) [] E tr) σ H d :=
  evd_call h fun H1 vs Q e r k => ⟨a, r, hp, by rw [ho]; exact k⟩
theorem evn_callO (a : α) (h : EvS tr σ H (enc a)) (hp : pre a) (ho : out a = .new ds) : EvN (tCall (spO enc pre out) [] E tr) σ H ds :=
  evn_call h fun H1 vs Q e r k => ⟨a, r, hp, by rw [ho]; exact k⟩
/-- a call that may raise, as a statement -/
theorem s_callX {D : Ends} {Es : L2.St → XK} (a : α) (h : EvS tr σ H (enc a)) (hp : pre a)
    (k : ∀ H1, Ex H H1 → Gives H1 (fun _ H2 => D.nx σ H2) (Es σ) (out a)) : tDrop (tCallS (spO enc pre out) Es tr) D σ H := h H (Ex.refl H) _ fun vs H1 e r => ⟨a, r, hp, k H1 e⟩
end
/-- a def of the text behind the top -/
structure Df (K : PySem.W.Frag) (mg : Str → Option Value) (x : Str) (st : Stmt) (ps : List Str) (f : Addr) (fd : FuncData) : Prop where
  F : Fun K x x st f fd
  b : Binds K fd ps []
  g : mg x = some (.ref f)
/-- an error class of the text behind the top -/
structure Xc (K : PySem.W.Frag) (mg : Str → Option Value) (x : Str) (C : Addr) : Prop where
  g : mg x = some (.ref C)
  x : PySem.W.excIn K C [.type "ValueError", .type "Exception", .type "BaseException", .type "object"] "ValueError.__new__" = true
  k : PySem.W.keepIn K (.ref C) = true
  b : PySem.W.subIn K (.ref C) (.type "BaseException") = some true
  t : PySem.W.typeIn K (.ref C) = some (.type "type")
/-- the built-ins' names are the built-ins' still -/
structure Bi (mg : Str → Option Value) : Prop where
  len : mg "len" = none
  range : mg "range" = none
  list : mg "list" = none
  tuple : mg "tuple" = none
  sorted : mg "sorted" = none
  int : mg "int" = none
  bool : mg "bool" = none
  str : mg "str" = none
  isinstance : mg "isinstance" = none
  reversed : mg "reversed" = none
  set : mg "set" = none
  all : mg "all" = none
  max : mg "max" = none
  min : mg "min" = none
  ValueError : mg "ValueError" = none
theorem rp_int {H : Hp} {i : Int} : Rp H (.int i) (.int i) := rfl
theorem rp_bl {H : Hp} {i : Bool} : Rp H (.bool i) (.bl i) := rfl
theorem rp_str {H : Hp} {i : Str} : Rp H (.str i) (.str i) := rfl
theorem rp_non {H : Hp} : Rp H .none .non := rfl
section
variable {K : PySem.W.Frag} {σ : L2.St} {H : Hp} {ta : TE}
def rNegI : V → Hp → VK → Prop := rU fun i => .int (-i)
theorem un_negI {X : Cx} : UnR X (unaryOp .USub) rNegI := un_neg
theorem evd_neg {i : Int} (h : EvD ta σ H (.int i)) : EvD (tUn rNegI ta) σ H (.int (-i)) := fun H1 e Q q => h H1 e _ fun v H2 e2 r => ⟨i, r, q _ H2 e2 rfl⟩
end
end Bm

/-! sorted of a tuple of ints, of a list of ints. -/
namespace Bm
open PySem PySem.Spec PyProof.Rows L2 Evl
/-- the same ints, rising -/
def insI (x : Int) : List Int → List Int
  | [] => [x]
  | y :: ys => if x ≤ y then x :: y :: ys else y :: insI x ys
def srt : List Int → List Int
  | [] => []
  | x :: xs => insI x (srt xs)
theorem insI_perm (x : Int) : ∀ ys : List Int, (insI x ys).Perm (x :: ys)
  | [] => .refl _
  | y :: ys => by
    unfold insI
    by_cases h : x ≤ y
    · rw [if_pos h]
    · rw [if_neg h]
      exact ((insI_perm x ys).cons y).trans (.swap x y ys)
theorem srt_perm : ∀ xs : List Int, (srt xs).Perm xs
  | [] => .refl _
  | x :: xs => (insI_perm x (srt xs)).trans ((srt_perm xs).cons x)
theorem insI_pw {x : Int} : ∀ {ys : List Int}, ys.Pairwise (· ≤ ·) → (insI x ys).Pairwise (· ≤ ·)
  | [], _ => by simp [insI]
  | y :: ys, h => by
    unfold insI
    obtain ⟨h1, h2⟩ := List.pairwise_cons.mp h
    by_cases e : x ≤ y
    · rw [if_pos e]
      refine List.pairwise_cons.mpr ⟨fun z m => ?_, h⟩
      rcases List.mem_cons.mp m with rfl | m
      · exact e
      · exact Int.le_trans e (h1 z m)
    · rw [if_neg e]
      refine List.pairwise_cons.mpr ⟨fun z m => ?_, insI_pw h2⟩
      rcases List.mem_cons.mp ((insI_perm x ys).mem_iff.mp m) with rfl | m
      · omega
      · exact h1 z m
theorem srt_pw : ∀ xs : List Int, (srt xs).Pairwise (· ≤ ·)
  | [] => .nil
  | _ :: xs => insI_pw (srt_pw xs)
theorem srt_of {a b : List Int} (h : a.Perm b) (p : a.Pairwise (· ≤ ·)) : a = srt b := PySem.W.ksm_same (h.trans (srt_perm b).symm) p (srt_pw b)
theorem srt_rgI (n : Nat) {lo : Int} {a : List Int} (h : a.Perm (rgI lo n)) : srt a = rgI lo n := by
  refine PySem.W.ksm_same ((srt_perm a).trans h) (srt_pw a) ?_
  unfold rgI
  rw [List.pairwise_map]
  exact List.pairwise_lt_range.imp fun {i j} l => by omega
theorem srt_iff {n : Nat} {lo : Int} {a : List Int} : srt a = rgI lo n ↔ a.Perm (rgI lo n) := ⟨fun h => by rw [← h]; exact (srt_perm a).symm, srt_rgI n⟩

section
variable {prog : Program} {w : World} {A : Around} {E : Value → Shared → Prop} {s : Shared}
theorem sortedTup {t : Addr} {vs : List Value} {ns : List Int} {Q : Value → Shared → Prop} (ht : IsTup s.heap t vs.toArray) (hz : vs.length ≤ sizeLine) (hi : IntsAre vs ns)
    (q : ∀ (h1 h2 : Heap) (out : List Value) (k : Nat), (∀ b o, s.heap.get? b = some o → h1.get? b = some o) → (∀ b o, h1.get? b = some o → h2.get? b = some o) → h2.get? h1.objs.size = some { cls := .type "list", data := .seq out.toArray k } → IntsAre out (srt ns) → Q (.ref h1.objs.size) { s with heap := h2 }) :
    wpAny (model prog w) A (call (.builtin "sorted") [.ref t]) Q E s := by
  obtain ⟨o, ho, hc, k, hd⟩ := ht
  refine Calls.call_function_entry kind_sorted plain_sorted entry_sorted (args_sorted1 _) ?_
  unfold Builtin.«sorted»
  refine wpAny_bind (m := checkCount "sorted" 1 1 _) (wpAny_pure ?_)
  refine wpAny_bind (wpAny_collect_seq t (.inr rfl) ho hc hd (fun h1 kp => ?_) (by rw [List.size_toArray]; exact hz))
  refine wpAny_bind (wpAny_newList ?_ hz)
  have at_ : (h1.push (seqObj "list" vs.toArray 0)).get? h1.objs.size = some (seqObj "list" vs.toArray 0) := Heap.get?_push_size _ rfl
  have kp2 : ∀ b u, h1.get? b = some u → (h1.push (seqObj "list" vs.toArray 0)).get? b = some u := fun b u e => Heap.get?_push_of_some _ e
  refine wpAny_bind (wpAny_holding (wpAny_call_entry slot_list_sort ⟨_, at_, rfl⟩ entry_list_sort (SrtO.list_sort_ord SrtO.swo_int at_ hz (fun h2 => SrtO.ints_sortable hi h2) fun out e1 e2 => ⟨_, rfl, ?_⟩) (args_list_sort _)))
  obtain ⟨i1, i2, i3⟩ := SrtO.ints_out hi e1 e2
  obtain ⟨ep, he⟩ := sortedHeap_at (vs := vs) (out := out.toArray) at_
  refine wpAny_pure ⟨_, rfl, q h1 _ out ep kp (fun b u e => ?_) he ?_⟩
  · have lt := Heap.lt_size e
    rw [sortedHeap_old (Nat.ne_of_lt lt) (Heap.lt_size (kp2 b u e))]
    exact kp2 b u e
  · rw [← srt_of i2 i3]
    exact i1
end
/-- sorted(a tuple of ints): a new list -/
def rSortTI (K : PySem.W.Frag) : List V → Hp → VK → Prop := fun vs H Q => ∃ (a : Addr) (ns : List Int), vs = [V.ref a] ∧ SqT K H a (ns.map V.int) ∧ ∀ p, H p = none → Q (.ref p) (upd H p (.lst ((srt ns).map V.int)))
section
variable {X : Cx} {K : PySem.W.Frag} {H : Hp}
theorem cr_sortedTI : CallR X (.builtin "sorted") (rSortTI X.K) := by
  intro pins s σ H vs us Q I r h
  obtain ⟨a, ns, rfl, hs, q⟩ := h
  obtain ⟨its, rv, pl, z⟩ := I.tuple hs
  rw [Vals.ref1 r]
  refine sortedTup pl (by rw [← rv.length]; exact z) rv.ints fun h1 h2 out k k1 k2 e i => ?_
  have J : Inv X pins σ H { s with heap := h1 } := I.kept (t' := s.toks) k1
  have zl : ((srt ns).map V.int).length ≤ sizeLine := by
    rw [List.length_map, (srt_perm ns).length_eq]
    rwa [List.length_map] at z
  exact ⟨.ref h1.objs.size, _, J.laid (t' := s.toks) k2 (Nat.le_refl _) (show ObjOk X.prog X.w _ _ _ (.lst ((srt ns).map V.int)) from ⟨zl, out, k, vals_of_ints i, e⟩), rfl, q _ (J.hok.fresh (Nat.le_refl _))⟩
theorem cn_sortTI {ns : List Int} : CN (rSortTI K) [iD ns] H ((srt ns).map PyData.int) := fun H1 vs e r Q q => by
  obtain ⟨v, t, rfl, hv, rfl⟩ := r
  obtain ⟨a, o, rfl, h1, _⟩ := hv.iD
  exact ⟨a, ns, rfl, .inl (.inr ⟨o, h1⟩), fun p hp => q p _ _ hp (Ex.new hp) upd_same (rpa_ints _)⟩
end
end Bm

/-! The script handed on; pop. -/
namespace Bm
open PySem PySem.Spec PyProof.Rows L2 Evl
/-- a def that gets the script first -/
def spS {α : Type} (K : PySem.W.Frag) (enc : α → List PyData) (pre : List Int → α → Prop) (out : List Int → α → Out) : Sp := fun vs H Q E => ∃ (ns : List Int) (a : α) (sa : Addr) (r : List V), vs = .ref sa :: r ∧ SqL K H sa (ns.map V.int) ∧ RpA H (enc a) r ∧ pre ns a ∧ Gives H Q E (out ns a)
section
variable {K : PySem.W.Frag} {σ : L2.St} {H H' : Hp} {ta tb te : TE} {tr : TA} {d : PyData} {ds : List PyData} {E : XK} {α : Type} {enc : α → List PyData} {pre : List Int → α → Prop} {out : List Int → α → Out} {ns : List Int} {sa : Addr} {i : Nat}
theorem evd_callS (a : α) (hs : SqL K H sa (ns.map V.int)) (hi : σ[i]? = some (some (.ref sa))) (h : EvS tr σ H (enc a)) (hp : pre ns a) (ho : out ns a = .val d) : EvD (tCall (spS K enc pre out) [] E (tCons (tVar i) tr)) σ H d := fun H1 e Q q =>
  ⟨.ref sa, hi, h H1 e _ fun vs H2 e2 r2 => by
    show spS K enc pre out (.ref sa :: vs ++ []) H2 Q E
    rw [List.append_nil]
    exact ⟨ns, a, sa, vs, rfl, ex_l (e.trans e2) hs, r2, hp, by rw [ho]; exact fun v H3 e3 r3 => q v H3 (e2.trans e3) r3⟩⟩
theorem evn_callS (a : α) (hs : SqL K H sa (ns.map V.int)) (hi : σ[i]? = some (some (.ref sa))) (h : EvS tr σ H (enc a)) (hp : pre ns a) (ho : out ns a = .new ds) : EvN (tCall (spS K enc pre out) [] E (tCons (tVar i) tr)) σ H ds := fun H1 e Q q =>
  ⟨.ref sa, hi, h H1 e _ fun vs H2 e2 r2 => by
    show spS K enc pre out (.ref sa :: vs ++ []) H2 Q E
    rw [List.append_nil]
    exact ⟨ns, a, sa, vs, rfl, ex_l (e.trans e2) hs, r2, hp, by rw [ho]; exact fun p ws H3 hp2 e3 h3 r3 => q p ws H3 (fresh_back e2 hp2) (e2.trans e3) h3 r3⟩⟩
theorem spS_len {n : Nat} (hn : ∀ a, (enc a).length = n) (vs : List V) (H : Hp) (Q : VK) (E : XK) (h : spS K enc pre out vs H Q E) : vs.length = n + 1 := by
  obtain ⟨ns, a, sa, r, rfl, _, h, _⟩ := h
  rw [List.length_cons, h.len, hn]
theorem evd_lenS (hs : SqL K H sa (ns.map V.int)) (hi : σ[i]? = some (some (.ref sa))) : EvD (tCB (rLenS K) (tCons (tVar i) tNil)) σ H (.int ns.length) := fun H1 e Q q =>
  ⟨.ref sa, hi, sa, _, rfl, .inl (ex_l e hs), by rw [List.length_map]; exact q _ H1 (Ex.refl H1) rfl⟩
theorem evd_ixS {k : Int} {z : Int} (hs : SqL K H sa (ns.map V.int)) (hi : σ[i]? = some (some (.ref sa))) (hk : EvD tb σ H (.int k)) (hz : atI ns k = some z) : EvD (tOp (rIxL K) (tVar i) tb) σ H (.int z) := fun H1 e Q q =>
  ⟨.ref sa, hi, hk H1 e _ fun v H2 e2 r => ⟨sa, _, k, .int z, rfl, r, ex_l (e.trans e2) hs, atI_map hz, q _ H2 e2 rfl⟩⟩
end
section
variable {K : PySem.W.Frag} {σ : L2.St} {H H0 : Hp} {D : Ends} {l : Addr} {ds : List PyData} {i : Nat}
/-- over a list that stood at Hb, whatever is made since -/
theorem s_forB {g : TG} {tu : TS} {α : Type} {f : α → PyData} {xs : List α} {v : V} {Hb : Hp} (hi : σ[i]? = some (some v)) (hb : Rp Hb (.list (xs.map f)) v) (eb : Ex Hb H) (Pv : Nat → L2.St → Hp → Prop) (p0 : Pv 0 σ H) (pe : ∀ i σ' H', Pv i σ' H' → Ex Hb H')
    (turn : ∀ i x v σ' H', xs[i]? = some x → Rp H' (f x) v → Pv i σ' H' → g v σ' H' fun σ2 H2 => tu { D with nx := Pv (i + 1), ct := Pv (i + 1), bk := D.nx } σ2 H2) (done : ∀ σ' H', Pv xs.length σ' H' → D.nx σ' H') :
    tFor (iList K (tVar i)) g tu D σ H := by
  obtain ⟨a, vs, rfl, h1, h2⟩ := hb
  have hl : vs.length = xs.length := by rw [h2.len, List.length_map]
  refine ⟨.ref a, hi, a, rfl, ⟨vs, SqL.of (eb _ _ h1)⟩, for_list (xs := vs) Pv p0 (fun i σ' H' _ p => SqL.of (pe i σ' H' p a _ h1)) (fun i v2 σ' H' hi p => ?_) (fun σ' H' p => done σ' H' (hl ▸ p))⟩
  obtain ⟨d2, q1, q2⟩ := h2.getv hi
  obtain ⟨x, q3, rfl⟩ := map_get q1
  exact turn i x v2 σ' H' q3 (q2.ex (pe i σ' H' p)) p
/-- xs.clear(), xs a list of ours -/
theorem s_clearO (o : Own H0 H l ds) (hi : σ[i]? = some (some (.ref l))) (k : ∀ H2, ExB l H H2 → Own H0 H2 l [] → D.nx σ H2) : tDrop (tBM0 K "list" rClear (tVar i)) D σ H := by
  obtain ⟨vs, h1, h2⟩ := o.has
  refine ⟨.ref l, hi, .inl ⟨rfl, vs, SqL.of h1⟩, l, vs, rfl, rfl, h1, k _ ExB.upd ⟨o.new, Ex.mut o.ex o.new, ⟨[], upd_same, RpA.nil⟩, rfl⟩⟩
end
/-- the cell at k, or nought -/
def cellF (ns : List Int) (k : Int) : Int := ns.getD k.toNat 0
end Bm

/-! The rules by the written part's name. -/
namespace Bm
open PySem PySem.Spec PyProof.Rows L2 Evl
section
variable {X : Cx} {K : PySem.W.Frag}
theorem cr_lenK (h : X.K = K := by rfl) : CallR X (.builtin "len") (rLenS K) := h ▸ cr_len
theorem cr_listK (h : X.K = K := by rfl) : CallR X (.type "list") (rListS K) := h ▸ cr_list
theorem cr_tupLK (h : X.K = K := by rfl) : CallR X (.type "tuple") (rTupL K) := h ▸ cr_tupL
theorem cr_sortedTIK (h : X.K = K := by rfl) : CallR X (.builtin "sorted") (rSortTI K) := h ▸ cr_sortedTI
theorem call_isiK2 (h : X.K = K := by rfl) : CallR X (.builtin "isinstance") (rIsi K) := h ▸ call_isi
theorem cr_allK (hc : X.calm = true) (h : X.K = K := by rfl) : CallR X (.builtin "all") (rAll K) := h ▸ cr_all hc
theorem ix_listK (h : X.K = K := by rfl) : IxR X (rIxL K) := h ▸ ix_list
theorem ix_tupK (h : X.K = K := by rfl) : IxR X (rIxT K) := h ▸ ix_tup
theorem sl_listK (h : X.K = K := by rfl) : SlR X (rSlL K) := h ▸ sl_list
theorem op_inFK (h : X.K = K := by rfl) : OpR X (compareOp .In) (rInF K) := h ▸ op_inF
theorem op_niFK (h : X.K = K := by rfl) : OpR X (compareOp .NotIn) (rNiF K) := h ▸ op_niF
theorem op_catFK (h : X.K = K := by rfl) : OpR X (binaryOp .Add) (rCatF K) := h ▸ op_catF
theorem op_eqDK (hu : X.A.units + 64 < cLine) (h : X.K = K := by rfl) : OpR X (compareOp .Eq) (rEqD K) := h ▸ op_eqD hu
theorem op_neDK (hu : X.A.units + 64 < cLine) (h : X.K = K := by rfl) : OpR X (compareOp .NotEq) (rNeD K) := h ▸ op_neD hu
theorem op_inDK (hu : X.A.units + 65 < cLine) (h : X.K = K := by rfl) : OpR X (compareOp .In) (rInD K) := h ▸ op_inD hu
theorem op_niDK (hu : X.A.units + 65 < cLine) (h : X.K = K := by rfl) : OpR X (compareOp .NotIn) (rNotInD K) := h ▸ op_notInD hu
theorem mt_tupIxK (h : X.K = K := by rfl) : MtR X "tuple.index" (rIxI K) := h ▸ mt_tupIx
theorem pi_listK {tg l : Expr} {tl : TE} (hl : PE X l tl) (h : X.K = K := by rfl) : PI X tg l (iList K tl) := h ▸ pi_list hl
theorem pi_tupK {tg l : Expr} {tl : TE} (hl : PE X l tl) (h : X.K = K := by rfl) : PI X tg l (iTup K tl) := h ▸ pi_tup hl
theorem pg_tupK {es : List Expr} {k : Nat} {t : TGs} {n : Nat} {pos : Pos} (hc : X.calm = true) (h : PGs X es t) (hn : (assignEach es X.env).length = n := by rfl) (hst : (assignEach es X.env).findIdx? (·.1) = none := by rfl) (hk : X.K = K := by rfl) :
    PG X (.Tuple es k pos) (gTup K n t) := hk ▸ pg_tup hc h hn hst
end
theorem hu65 {k : Nat} {A : Around} (hr : Room k A) : A.units + 65 < cLine := by have := hr.un; omega
end Bm

/-! What is walked is gathered into a list: once for every kind of thing that is walked. -/
namespace Bm
open PySem PySem.Spec PyProof.Rows L2 Evl
/-- an empty list at the heap's end -/
abbrev bare0 : Obj := { cls := .type "list", data := .seq ([] : List Value).toArray }
abbrev pushL (h : Heap) : Heap := h.push bare0
theorem pushL_at (h : Heap) : (pushL h).get? h.objs.size = some bare0 := Heap.get?_push_size _ rfl
theorem pushL_old {h : Heap} {b : Addr} {u : Obj} (e : h.get? b = some u) : (pushL h).get? b = some u := Heap.get?_push_of_some _ e
/-- from h₂ on the iterator I gives n items, of which R is told; the place S has no part in it -/
def Gives1 (P : Program) (w : World) (A : Around) (h₂ : Heap) (S I : Addr) (R : Array Value → Prop) : Prop :=
  ∃ fp n Pv St, Walks P w A I fp [I] n Pv St ∧ n ≤ sizeLine ∧ S ∉ fp ∧ St 0 h₂ ∧ ∀ acc, ItemsOf Pv acc n → R acc
section
variable {P : Program} {w : World} {A : Around} {E : Value → Shared → Prop} {s : Shared}
/-- the gathering loop, the list at S still empty -/
theorem gather_loop {I S : Addr} {h₂ : Heap} {tk c : Nat} {R : Array Value → Prop} {Z : Result → Shared → Prop} (g : Gives1 P w A.in1 h₂ S I R) (e : h₂.get? S = some { cls := .type "list", dict := none, data := .seq #[] c, slots := #[] })
    (z : ∀ (h3 : Heap) tk3 acc c3, R acc → h3.get? S = some { cls := .type "list", dict := none, data := .seq acc c3, slots := #[] } → (∀ b u, b ≠ S → b ≠ I → h₂.get? b = some u → h3.get? b = some u) → Z (.ok (.ret (.ref S))) { s with heap := h3, toks := tk3 }) :
    codeAny (model P w) A (.builtin "list.extend.loop" ⟨[.ref S, .ref I, .ref S], []⟩) Z { s with heap := h₂, toks := tk } := by
  obtain ⟨fp, n, Pv, St, W, nz, away, st, told⟩ := g
  refine codeAny_extend_loopS W.toS nz S away (.ref S) n 0 _ #[] c rfl (Nat.zero_le _) st e (ItemsOf.nil Pv) fun s3 acc c3 mv e3 it => ?_
  have kp : ∀ b u, b ≠ S → b ≠ I → h₂.get? b = some u → s3.heap.get? b = some u := fun b u nS nI q => mv.heap b u (by simp [nS, nI]) q
  have es := mv.eq_with
  obtain ⟨h3, g3, d3, t3, o3⟩ := s3
  cases es
  exact z h3 t3 acc c3 (told acc it) e3 kp
theorem gather {a I : Addr} {o : Obj} {T : String} {h₂ : Heap} {R : Array Value → Prop} {Q : List Value → Shared → Prop} (ho : s.heap.get? a = some o) (hc : o.cls = .type T) (nl : T ≠ "list") (nt : T ≠ "tuple")
    (iter : ∀ (E' : Value → Shared → Prop) (Q' : Value → Shared → Prop), Q' (.ref I) { s with heap := h₂ } → wpAny (model P w) A.in1 (pyIter (.ref a)) Q' E' { s with heap := pushL s.heap })
    (hint : ∀ (E' : Value → Shared → Prop) (Q' : Bool → Shared → Prop), (∀ b tk, Q' b { s with heap := h₂, toks := tk }) → wpAny (model P w) A.in1 (Builtin.List.listLengthHint (.ref a)) Q' E' { s with heap := h₂ })
    (kp : ∀ b u, (pushL s.heap).get? b = some u → h₂.get? b = some u) (g : ∀ h, (∀ b u, b ≠ s.heap.objs.size → h₂.get? b = some u → h.get? b = some u) → Gives1 P w A.in1 h s.heap.objs.size I R)
    (q : ∀ (h' : Heap) tk acc, R acc → s.heap.objs.size ≤ h'.objs.size → (∀ b u, b ≠ I → s.heap.get? b = some u → h'.get? b = some u) → Q acc.toList { s with heap := h', toks := tk }) : wpAny (model P w) A (collect (.ref a)) Q E s := by
  have na : s.heap.objs.size ≠ a := Nat.ne_of_gt (Heap.lt_size ho)
  have at2 := kp _ _ (pushL_at s.heap)
  -- behind the loop the list is read
  have last : ∀ (h4 : Heap) (tk c : Nat), h4.get? s.heap.objs.size = some { cls := .type "list", dict := none, data := .seq #[] c, slots := #[] } → (∀ b u, b ≠ s.heap.objs.size → h₂.get? b = some u → h4.get? b = some u) →
      codeAny (model P w) A (.builtin "list.extend.loop" ⟨[.ref s.heap.objs.size, .ref I, .ref s.heap.objs.size], []⟩)
        (fun r s' => match r with
          | .ok (.ret v) => wpAny (model P w) A (match v with
            | .ref x => load x >>= fun ob => match ob.data with
              | .seq xs _ => pure xs.toList
              | _ => unsupported "internal:collect"
            | _ => unsupported "internal:collect") Q E s'
          | .ok _ => False
          | .error e => E e s') { s with heap := h4, toks := tk } :=
    fun h4 tk c e4 k4 => gather_loop (g h4 k4) e4 fun h3 tk3 acc c3 r e3 k3 => by
      refine wpAny_bind (wpAny_load e3 (wpAny_pure (q h3 tk3 acc r (Nat.le_of_lt (Heap.lt_size e3)) fun b u nI e => ?_)))
      have nS : b ≠ s.heap.objs.size := Nat.ne_of_lt (Heap.lt_size e)
      exact k3 b u nS nI (k4 b u nS (kp b u (pushL_old e)))
  unfold collect
  refine wpAny_bind (wpAny_runValue (codeAny_builtin F.entry_proto_collect (by
    rw [Around.under_plainId F.plain_proto_collect _]
    refine wpAny_bind (m := newList []) (wpAny_newObj_type (wpAny_pure ⟨plainId_quiet F.plain_list_iadd _, codeAny_builtin F.entry_list_iadd ?_⟩))
    rw [Around.under_plainId F.plain_list_iadd _]
    show wpAny (model P w) A.in1 (Builtin.List.listExtendWith (.ref s.heap.objs.size) (.ref a) (.ref s.heap.objs.size)) _ _ { s with heap := pushL s.heap }
    unfold Builtin.List.listExtendWith
    refine wpAny_bind (wpAny_typeOf (T := T) ⟨o, pushL_old ho, hc⟩ ?_)
    have other : (Builtin.List.listSameRef (.ref s.heap.objs.size) (.ref a) || Value.type T == Value.type "list" || Value.type T == Value.type "tuple") = false := by
      simp [Builtin.List.listSameRef, na, nl, nt]
    simp only [other, Bool.false_eq_true, if_false]
    refine wpAny_bind (iter _ _ (wpAny_bind (wpAny_holding (hint _ _ fun b tk => ?_))))
    split
    · refine wpAny_bind (m := rule "list.extend.makes-room") (wpAny_rule (wpAny_bind (m := Builtin.List.listTouch (.ref s.heap.objs.size)) ?_))
      have at3 := Heap.get?_update_self (Obj.mapSeq (·.push Value.none)) at2 rfl
      refine wpAny_bind (m := updateSeq s.heap.objs.size (·.push .none)) (wpAny_updateSeq at2 rfl (wpAny_updateSeq at3 rfl (wpAny_pure ⟨plainId_quiet F.plain_extend_loop _, last _ tk _ (Heap.get?_update_self (Obj.mapSeq (·.pop)) at3 rfl) fun b u n e => ?_⟩)))
      rw [Heap.get?_update_other _ _ (Ne.symm n), Heap.get?_update_other _ _ (Ne.symm n)]
      exact e
    · exact wpAny_pure ⟨plainId_quiet F.plain_extend_loop _, last h₂ tk 0 at2 fun _ _ _ e => e⟩)))
end
end Bm

/-! tuple(reversed(x)), x a list or a tuple: told with its object. -/
namespace Bm
open PySem PySem.Spec PyProof.Rows L2 Evl
abbrev idH : String := "reversed.__length_hint__"
theorem rt_noLen : typeLookup (.type "reversed") "__len__" = pure none := by rw [typeLookup_type, builtinLookup_eq_fast]; kernel_rfl
theorem rt_slotH : Slot "reversed" "__length_hint__" idH := by
  refine .of (owner := "reversed") (n := "__length_hint__") ?_ ?_ ?_ ?_ ?_ ?_
  · rw [typeLookup_type, builtinLookup_eq_fast]
    kernel_rfl
  · decide +kernel
  · decide +kernel
  · decide +kernel
  · first | exact .inr (by decide +kernel) | exact .inl (by decide +kernel)
  · rw [isSubtype_type]
    kernel_rfl
theorem rt_entH : entryFor table idH = some Builtin.«reversed.__length_hint__» := entryFor_of_tree (by kernel_rfl)
theorem rt_argH (a : Value) : argsOk idH ⟨[a], []⟩ := by
  unfold argsOk; rw [signature?_of (id := "reversed.__length_hint__") (n := ['_', '_', 't', 'n', 'i', 'h', '_', 'h', 't', 'g', 'n', 'e', 'l', '_', '_']) (o := ['d', 'e', 's', 'r', 'e', 'v', 'e', 'r']) (by kernel_rfl) RT.owner_rt]; kernel_rfl
/-- an iterator at the end of a tuple, backwards -/
structure RtAt (h : Heap) (it t : Addr) (xs : Array Value) : Prop where
  rt : RT.IsRt h it t ((xs.size : Int) - 1)
  tp : IsTup h t xs
theorem RtAt.to {h h' : Heap} {it t : Addr} {xs : Array Value} (x : RtAt h it t xs) (k : ∀ b u, h.get? b = some u → h'.get? b = some u) : RtAt h' it t xs :=
  ⟨x.rt.at (k it), x.tp.imp fun o q => ⟨k t o q.1, q.2⟩⟩
/-- the items, backwards -/
def BackOf (xs acc : Array Value) : Prop := ItemsOf (fun i v => xs[xs.size - 1 - i]? = some v) acc xs.size
section
variable {prog : Program} {w : World} {A : Around} {E : Value → Shared → Prop} {s : Shared} {it t : Addr} {xs : Array Value}
theorem RtAt.type (x : RtAt s.heap it t xs) : s.TypeIs (.ref it) "reversed" := x.rt.typeIs
/-- how many are left: all -/
theorem RtAt.left {Q : Value → Shared → Prop} (x : RtAt s.heap it t xs) (few : xs.size ≤ 100000) (q : ∀ tk tk2, Q (.int xs.size tk) { s with toks := tk2 }) : wpAny (model prog w) A (call (.builtin idH) [.ref it]) Q E s := by
  obtain ⟨o, o1, o2, o3⟩ := id x.rt
  have no : (Value.ref t == Value.none) = false := rfl
  have back : (xs.size : Int) - 1 + 1 = (xs.size : Int) := by omega
  refine wpAny_call_entry rt_slotH x.type rt_entH ?_ (rt_argH _)
  unfold Builtin.«reversed.__length_hint__»
  refine wpAny_bind (wpAny_of_eq (a := Value.ref it) rfl (wpAny_bind (wpAny_field o1 o3 (x := .ref t) rfl ?_)))
  refine wp_if_neg (by rw [no]; simp) ?_
  refine wpAny_bind (PyProof.Rows.len_tuple x.tp (by omega) (wpAny_bind (wpAny_of_eq (a := some (xs.size : Int)) rfl ?_)))
  refine wpAny_bind (wpAny_field (s := { s with toks := s.toks + 1 + 1 }) o1 o3 (x := rawInt ((xs.size : Int) - 1)) rfl ?_)
  show wpAny _ _ (if (xs.size : Int) < (xs.size : Int) - 1 + 1 then _ else _) _ _ _
  rw [back, if_neg (Int.lt_irrefl _)]
  exact wpAny_bind (wpAny_mkInt (wpAny_pure ⟨_, rfl, q _ _⟩))
theorem RtAt.hint {Q : Bool → Shared → Prop} (x : RtAt s.heap it t xs) (few : xs.size ≤ 100000) (q : ∀ b tk2, Q b { s with toks := tk2 }) : wpAny (model prog w) A (Builtin.List.listLengthHint (.ref it)) Q E s := by
  have fit : Builtin.List.listFitsIndex (xs.size : Int) = true := by simp [Builtin.List.listFitsIndex]; omega
  have room : Builtin.List.listTooLong (xs.size : Int).toNat = false := by simp [Builtin.List.listTooLong, sizeLine_eq]; omega
  have int_ : ∀ tk, asInt? (Value.int (xs.size : Int) tk) = pure (some (xs.size : Int)) := fun _ => rfl
  unfold Builtin.List.listLengthHint
  refine wpAny_bind (wpAny_specialOf x.type rt_noLen ?_)
  refine wpAny_bind (m := specialOf (Value.ref it) (Str.ofString "__length_hint__")) (wpAny_specialOf x.type rt_slotH.lookup ?_)
  generalize hid : idH = id0
  wp_delta
  rw [show splitId id0 = some ("reversed", "__length_hint__") from by subst hid; decide +kernel]
  subst hid
  refine wpAny_bind (wpAny_isInstance (b := true) x.type (by rw [isSubtype_type]; kernel_rfl) ?_)
  refine wpAny_bind (m := rule "list.length-hint.hint") (wpAny_rule (wpAny_bind (wpAny_of_eq (rt_slotH.bind _) ?_)))
  refine wpAny_bind (wpAny_attempt (x.left few fun tk tk2 => ?_))
  try dsimp only
  rw [int_ tk, pure_bind]
  dsimp only
  rw [fit, room, if_neg (by decide), if_neg (by omega), if_neg (by decide)]
  exact wpAny_pure (q _ _)
theorem rt_steps (hh : A.handled = none) (ne : t ≠ it) (nz : xs.size ≤ sizeLine) :
    Walks prog w A it [it, t] [it] xs.size (fun i v => xs[xs.size - 1 - i]? = some v) (fun i h => i ≤ xs.size ∧ RT.IsRt h it t ((xs.size : Int) - 1 - (i : Int)) ∧ IsTup h t xs) where
  sub := fun b m => by rw [List.mem_singleton.mp m]; exact List.mem_cons_self
  frame := fun _ _ _ x k => ⟨x.1, x.2.1.at (k it List.mem_cons_self), x.2.2.imp fun o q => ⟨k t (List.mem_cons_of_mem _ List.mem_cons_self) o q.1, q.2⟩⟩
  item := fun i s Q E l x q => by
    obtain ⟨_, rt, tp⟩ := x
    have lt : xs.size - 1 - i < xs.size := by omega
    have at_ : xs[xs.size - 1 - i]? = some xs[xs.size - 1 - i] := Array.getElem?_eq_getElem lt
    rw [show (xs.size : Int) - 1 - (i : Int) = ((xs.size - 1 - i : Nat) : Int) by omega] at rt
    refine RT.next_rt_item rt tp at_ nz fun h' rt' same => ?_
    rw [show ((xs.size - 1 - i : Nat) : Int) - 1 = (xs.size : Int) - 1 - ((i + 1 : Nat) : Int) by omega] at rt'
    exact q _ h' _ at_ ⟨l, rt', tp.imp fun o z => ⟨(same.2 t ne).trans z.1, z.2⟩⟩ fun b u nb e => same.extBut b u (fun z => nb (List.mem_singleton.mpr z)) e
  done := fun s Q E x q => by
    have rt := x.2.1
    rw [show (xs.size : Int) - 1 - (xs.size : Int) = -1 by omega] at rt
    exact RT.next_rt_end hh rt fun h' k => q h' s.toks fun b u nb e => k b u (fun z => nb (List.mem_singleton.mpr z)) e
  self := fun _ _ _ _ x q => RT.iter_rt x.2.1 q
theorem RtAt.gathered {Q : List Value → Shared → Prop} (x : RtAt s.heap it t xs) (hh : A.handled = none) (ne : t ≠ it) (few : xs.size ≤ 100000)
    (q : ∀ (h' : Heap) tk acc, BackOf xs acc → (∀ b u, b ≠ it → s.heap.get? b = some u → h'.get? b = some u) → Q acc.toList { s with heap := h', toks := tk }) : wpAny (model prog w) A (collect (.ref it)) Q E s := by
  obtain ⟨o, o1, o2, o3⟩ := id x.rt
  obtain ⟨u, u1, _⟩ := id x.tp
  have y := x.to (h' := pushL s.heap) fun _ _ => pushL_old
  have nz : xs.size ≤ sizeLine := by rw [sizeLine_eq]; omega
  have n1 : it ≠ s.heap.objs.size := Nat.ne_of_lt (Heap.lt_size o1)
  have n2 : t ≠ s.heap.objs.size := Nat.ne_of_lt (Heap.lt_size u1)
  refine gather (T := "reversed") (I := it) (h₂ := pushL s.heap) (R := BackOf xs) o1 o2 (by decide) (by decide) (fun E' Q' z => RT.iter_rt (s := { s with heap := pushL s.heap }) y.rt z)
    (fun E' Q' z => RtAt.hint (s := { s with heap := pushL s.heap }) y few z) (fun _ _ e => e) (fun h k => ⟨[it, t], xs.size, _, _, rt_steps hh ne nz, nz, by simp [n1.symm, n2.symm], ⟨Nat.zero_le _, ?_, ?_⟩, fun acc i => i⟩) fun h' tk acc r _ k => q h' tk acc r k
  · rw [show (xs.size : Int) - 1 - ((0 : Nat) : Int) = (xs.size : Int) - 1 by omega]
    exact y.rt.at fun u e => k it u n1 e
  · exact y.tp.imp fun u e => ⟨k t u n2 e.1, e.2⟩
/-- tuple(an iterator backwards), the gathering told by whoever calls -/
theorem tuple_back {Q : Value → Shared → Prop} {R : Array Value → Prop} (ty : s.TypeIs (.ref it) "reversed") (few : ∀ acc, R acc → acc.size ≤ sizeLine)
    (col : ∀ (Q' : List Value → Shared → Prop) (E' : Value → Shared → Prop), (∀ (h' : Heap) tk acc, R acc → (∀ b u, b ≠ it → s.heap.get? b = some u → h'.get? b = some u) → Q' acc.toList { s with heap := h', toks := tk }) → wpAny (model prog w) A.in1.in1 (collect (.ref it)) Q' E' s)
    (q : ∀ (h' : Heap) tk acc, R acc → (∀ b u, b ≠ it → s.heap.get? b = some u → h'.get? b = some u) → Q (.ref h'.objs.size) { s with heap := h'.push { cls := .type "tuple", data := .seq acc }, toks := tk }) :
    wpAny (model prog w) A (call (.type "tuple") [.ref it]) Q E s := by
  refine callType_codes (Q₁ := fun ob s₁ => s₁.TypeIs ob "tuple" ∧ Q ob s₁) F.called_tuple (F.typeCall_tuple_1 _) F.entry_object_init (codeAny_of_tree ?_) fun ob s₁ z =>
    ⟨z.1, F.args_object_init_2 ob _, object_init_meets F.called_tuple.init.lookup F.called_tuple.made (by decide) prog w A.in1 _ s₁ ⟨z.1, rfl, z.2⟩⟩
  refine wpAny_bind (m := checkBuiltinCall "tuple.__new__" ⟨[.type "tuple", .ref it], []⟩) (wpAny_of_eq (F.newCall_tuple_1 _) (wpAny_pure ⟨plainId_quiet F.plain_tuple_new _, codeAny_builtin F.entry_tuple_new ?_⟩))
  rw [Around.under_plainId F.plain_tuple_new _]
  have f1 := sub_tuple_self
  have f2 := init_tuple_lookup
  have f3 := madeHere_tuple
  wp_walk using wpAny_typeOf ty, col _ _
  intro h' tk acc r k
  have same : acc.toList.toArray = acc := Array.toArray_toList
  refine wpAny_bind (m := Builtin.Tuple.tupleExact acc.toList.toArray) ?_
  unfold Builtin.Tuple.tupleExact
  rw [same]
  exact wpAny_newObj_type (wpAny_pure ⟨⟨_, Heap.get?_push_size _ rfl, rfl⟩, q h' tk acc r k⟩) (few acc r)
end
/-- tuple(reversed(x)), x a list or a tuple -/
def tTupRv (K : PySem.W.Frag) (te : TE) : TE := fun σ H Q => te σ H fun v H1 => ∃ (a : Addr) (xs : List V), v = .ref a ∧ (SqL K H1 a xs ∨ SqT K H1 a xs) ∧ xs.length ≤ 100000 ∧ ∀ p o, H1 p = none → o.dict = none → Q (.ref p) (upd H1 p (.frz o (.tup xs.reverse)))
section
variable {X : Cx}
/-- the gathered items as a new tuple -/
theorem back_end {pins : List (Addr × Obj)} {σ : L2.St} {H : Hp} {s : Shared} {xs : List V} {its : List Value} {ob : Obj} {h' : Heap} {tk : Nat} {acc : Array Value} {Q : VK} (I : Inv X pins σ H s) (rv : Vals xs its) (z : xs.length ≤ sizeLine)
    (b : BackOf its.toArray acc) (k : ∀ b u, b ≠ s.heap.objs.size → (s.heap.push ob).get? b = some u → h'.get? b = some u) (q : ∀ p o, H p = none → o.dict = none → Q (.ref p) (upd H p (.frz o (.tup xs.reverse)))) :
    EP X pins σ Q (.ref h'.objs.size) { s with heap := h'.push { cls := .type "tuple", data := .seq acc }, toks := tk } := by
  obtain ⟨c1, c2, _, c3, c4, c5⟩ := I.fpOk (Nat.le_refl _) (I.hok.fresh (Nat.le_refl _))
  have J : Inv X pins σ H { s with heap := s.heap.push ob } := I.kept (t' := s.toks) fun _ _ e => Heap.get?_push_of_some _ e
  have y := tupNew (tk := tk) (J.turned (t' := tk) k c1 c2 c3 c4 c5) (fun _ _ e => e) (RT.vals_rev rv b) (by rw [List.length_reverse]; exact z) q
  rwa [Array.toArray_toList] at y
theorem pe_tupRevF {K : PySem.W.Frag} {e : Expr} {te : TE} {p p2 pos pos2 : Pos} (hc : X.calm = true) (hg : Gl X "tuple") (hm : X.mg "tuple" = none) (hg2 : Gl X "reversed") (hm2 : X.mg "reversed" = none) (he : PE X e te)
    (hK : X.K = K := by rfl) (one : starEach [e] X.env = (false, eval e X.env) :: starEach [] X.env := by rfl)
    (two : starEach [.Call (.Name "reversed" p2) [e] [] pos2] X.env = (false, eval (.Call (.Name "reversed" p2) [e] [] pos2) X.env) :: starEach [] X.env := by rfl) :
    PE X (.Call (.Name "tuple" p) [.Call (.Name "reversed" p2) [e] [] pos2] [] pos) (tTupRv K te) := ⟨fun pins s σ H Q I h => by
  subst hK
  refine Call_ (ld_blt I hg hm boot_tuple ?_)
  refine PyProof.Rows.callWith_type1 (args_cons ?_ two) two rfl
  refine Call_ (ld_blt I hg2 hm2 PyProof.Rows.boot_reversed ?_)
  refine PyProof.Rows.callWith_type1 (args_cons (thn (he.run pins s σ H _ I h) fun u s1 ⟨v, H1, I1, r1, a, xs, ev, hq, hlen, q⟩ => args_nil ?_) one) one rfl
  subst ev
  cases r1
  have new_ : ∀ ob : Obj, ∀ b o, s1.heap.get? b = some o → (s1.heap.push ob).get? b = some o := fun ob b o e => Heap.get?_push_of_some _ e
  rcases hq with hq | hq
  · obtain ⟨its, rv, pl, hz⟩ := I1.list hq
    have ls := pl.isList
    have na : a ≠ s1.heap.objs.size := Nat.ne_of_lt (by obtain ⟨o, e, _⟩ := id ls; exact Heap.lt_size e)
    refine PySem.call_reversed_list ls (args_nil ?_)
    exact RT.call_tuple_rev (s := { s1 with heap := s1.heap.push (revObj a ((its.toArray.size : Int) - 1)) }) (I1.ok.hd hc) ⟨_, Heap.get?_push_size _ rfl, rfl, rfl⟩ (ls.push _) na (by rw [List.size_toArray, ← rv.length]; exact hz)
      fun h' tk acc k i => back_end (s := s1) (ob := revObj a ((its.toArray.size : Int) - 1)) I1 rv hz i k q
  · obtain ⟨its, rv, tp, hz⟩ := I1.tuple hq
    have few : its.toArray.size ≤ 100000 := by rw [List.size_toArray, ← rv.length]; exact hlen
    have na : a ≠ s1.heap.objs.size := Nat.ne_of_lt (by obtain ⟨o, e, _⟩ := id tp; exact Heap.lt_size e)
    have x : RtAt (s1.heap.push (RT.rtObj a ((its.toArray.size : Int) - 1))) s1.heap.objs.size a its.toArray := ⟨⟨_, Heap.get?_push_size _ rfl, rfl, rfl⟩, tp.imp fun o z => ⟨new_ _ _ _ z.1, z.2⟩⟩
    refine RT.call_reversed_tup tp (fun A E Q k => PyProof.Rows.len_tuple tp (by omega) k) (args_nil ?_)
    exact tuple_back (s := { s1 with heap := s1.heap.push (RT.rtObj a ((its.toArray.size : Int) - 1)), toks := s1.toks + 1 + 1 }) (R := BackOf its.toArray) x.type (fun acc r => by rw [r.1, sizeLine_eq]; omega)
      (fun Q' E' z => RtAt.gathered (s := { s1 with heap := s1.heap.push (RT.rtObj a ((its.toArray.size : Int) - 1)), toks := s1.toks + 1 + 1 }) x (I1.ok.hd hc) na few z) fun h' tk acc i k => back_end (s := s1) (ob := RT.rtObj a ((its.toArray.size : Int) - 1)) I1 rv hz i k q⟩
end
section
variable {K : PySem.W.Frag} {σ : L2.St} {H : Hp} {te : TE} {ds : List PyData}
theorem evd_revT (h : EvD te σ H (.tuple ds)) (hl : ds.length ≤ 100000) : EvD (tTupRv K te) σ H (.tuple ds.reverse) := fun H1 e Q q =>
  h H1 e _ fun v H2 e2 r => by
    obtain ⟨a, xs, rfl, k1, k2⟩ := r.seqT (K := K)
    exact ⟨a, xs, rfl, .inr k1, by rw [k2.len]; exact hl, fun p o hp ho => q _ _ (e2.trans (Ex.new hp)) ⟨p, _, o, rfl, upd_same, ho, k2.rev.ex (Ex.new hp)⟩⟩
theorem evd_revL (h : EvD te σ H (.list ds)) (hl : ds.length ≤ 100000) : EvD (tTupRv K te) σ H (.tuple ds.reverse) := fun H1 e Q q =>
  h H1 e _ fun v H2 e2 r => by
    obtain ⟨a, xs, rfl, k1, k2⟩ := r.seqL (K := K)
    exact ⟨a, xs, rfl, .inl k1, by rw [k2.len]; exact hl, fun p o hp ho => q _ _ (e2.trans (Ex.new hp)) ⟨p, _, o, rfl, upd_same, ho, k2.rev.ex (Ex.new hp)⟩⟩
end
end Bm

/-! Loops and comprehensions over tuples; sorted of webs; all; is True. -/
namespace Bm
open PySem PySem.Spec PyProof.Rows L2 Evl
section
variable {K : PySem.W.Frag} {σ : L2.St} {H H' : Hp} {ta tb te tl : TE} {t u : TT} {d x y z : PyData} {ds es : List PyData} {D : Ends} {tu tw : TS} {g : TG}
/-- over a tuple -/
theorem s_forT {α : Type} {f : α → PyData} {xs : List α} (h : EvD tl σ H (.tuple (xs.map f)))
    (k : ∀ H1, Ex H H1 → ∃ Pv : Nat → L2.St → Hp → Prop, Pv 0 σ H1 ∧ (∀ i σ' H', Pv i σ' H' → Ex H1 H') ∧
      (∀ i x v σ' H', xs[i]? = some x → Rp H' (f x) v → Pv i σ' H' → g v σ' H' fun σ2 H2 => tu { D with nx := Pv (i + 1), ct := Pv (i + 1), bk := D.nx } σ2 H2) ∧ ∀ σ' H', Pv xs.length σ' H' → D.nx σ' H') :
    tFor (iTup K tl) g tu D σ H := h H (Ex.refl H) _ fun v H1 e r => by
  obtain ⟨a, vs, o, e1, h1, _, h2⟩ := r
  obtain ⟨Pv, p0, pe, ps, pd⟩ := k H1 e
  have hl : vs.length = xs.length := by rw [h2.len, List.length_map]
  refine ⟨a, e1, ⟨vs, .inl (.inr ⟨o, h1⟩)⟩, for_tup (xs := vs) Pv p0 (fun i σ' H' _ p => .inl (.inr ⟨o, pe i σ' H' p a _ h1⟩)) (fun i v2 σ' H' hi p => ?_) (fun σ' H' p => pd σ' H' (hl ▸ p))⟩
  obtain ⟨d2, q1, q2⟩ := h2.getv hi
  obtain ⟨x, q3, rfl⟩ := map_get q1
  exact ps i x v2 σ' H' q3 (q2.ex (pe i σ' H' p)) p
theorem evn_lcT {α : Type} {f : α → PyData} {xs : List α} {vs : List Nat} {tt : TT} (c : α → Bool) (y : α → PyData) (h : EvD tl σ H (.tuple (xs.map f))) (hz : xs.length ≤ 50000)
    (turn : ∀ x v H1, x ∈ xs → Ex H H1 → Rp H1 (f x) v → ∃ σ2, (∀ Q : L2.St → Hp → Prop, Q σ2 H1 → g v (wipe σ vs) H1 Q) ∧ wipe σ2 vs = wipe σ vs ∧ EvT tt σ2 H1 (c x) ∧ (c x = true → EvD te σ2 H1 (y x)))
    (im : ∀ x ∈ xs, c x = true → imm (y x) = true) : EvN (tLc (iTup K tl) g tt te vs) σ H ((xs.filter c).map y) := fun H0 e0 Q q => h H0 e0 _ fun v H1 e1 r => by
  obtain ⟨a, ws, ob, ea, h1, _, h2⟩ := r
  have hl : ws.length = xs.length := by rw [h2.len, List.length_map]
  refine ⟨a, ea, ⟨ws, .inl (.inr ⟨ob, h1⟩)⟩, fun Dl hD => lc_tup (xs := ws) (fun i H' => Own H1 H' Dl (((xs.take i).filter c).map y)) ?_ (fun i H' _ o => .inl (.inr ⟨ob, o.ex a _ h1⟩)) (fun i x2 H' hi o => ?_) fun H' o => ?_⟩
  · exact ⟨hD, Ex.new hD, ⟨[], upd_same, RpA.nil⟩, rfl⟩
  · obtain ⟨d2, q1, q2⟩ := h2.getv hi
    obtain ⟨x, q3, rfl⟩ := map_get q1
    have hx : x ∈ xs := List.mem_of_getElem? q3
    obtain ⟨σ2, g1, g2, g3, g4⟩ := turn x x2 H' hx ((e0.trans e1).trans o.ex) (q2.ex o.ex)
    have hlen : i < xs.length := (List.getElem?_eq_some_iff.mp q3).1
    refine g1 _ ⟨g2, g3 H' (Ex.refl H') _ fun H3 e3 => ?_⟩
    have et : xs.take (i + 1) = xs.take i ++ [x] := by rw [List.take_add_one, q3]; rfl
    have o3 := o.step e3
    cases hc : c x with
    | true =>
      rw [if_pos rfl]
      refine g4 hc H3 e3 _ fun w H4 e4 r4 => ?_
      obtain ⟨acc, k1, k2⟩ := (o3.step e4).has
      have kt : KT H4 (upd H4 Dl (.lst (acc ++ [w]))) := KT.lst k1
      have hb : acc.length ≤ i := by
        rw [k2.len, List.length_map]
        exact Nat.le_trans (List.length_filter_le _ _) (by rw [List.length_take]; omega)
      refine ⟨acc, k1, sz_lt (by omega), o.new, ?_, ⟨_, upd_same, ?_⟩, ?_⟩
      · exact Ex.mut (o3.step e4).ex o.new
      · rw [et, List.filter_append, List.filter_cons, if_pos hc, List.map_append]
        exact (RpA.keep kt o.im k2).snoc (Rp.keep kt (im x hx hc) r4)
      · rw [et, List.filter_append, List.filter_cons, if_pos hc, List.map_append]
        exact immA_app o.im (immA_one (im x hx hc))
    | false =>
      rw [if_neg Bool.false_ne_true, et, List.filter_append, List.filter_cons, if_neg (by rw [hc]; exact Bool.false_ne_true), List.filter_nil, List.append_nil]
      exact o3
  · rw [hl, List.take_length] at o
    obtain ⟨acc, k1, k2⟩ := o.has
    exact q Dl acc H' (fresh_back e1 o.new) (e1.trans o.ex) k1 k2
/-! ### all, is -/
theorem cd_all {bs : List Bool} : CD (rAll K) [.list (bs.map PyData.bool)] H (.bool (bs.all id)) := fun H1 vs e r Q q => by
  obtain ⟨v, w, rfl, ⟨a, xs, rfl, h1, h2⟩, rfl⟩ := r
  obtain rfl := h2.bls
  exact ⟨a, bs, rfl, SqL.of h1, q _ H1 (Ex.refl H1) rfl⟩
theorem rd_isB {a b : Bool} : RD rIsB (.bool a) (.bool b) H (.bool (decide (a = b))) := rd_val fun H1 v u e r1 r2 => ⟨.bl (decide (a = b)), rfl, fun Q q => ⟨a, b, r1, r2, q⟩⟩
theorem rd_notB {a b : Bool} : RD rNotB (.bool a) (.bool b) H (.bool (!decide (a = b))) := rd_val fun H1 v u e r1 r2 => ⟨.bl (!decide (a = b)), rfl, fun Q q => ⟨a, b, r1, r2, q⟩⟩
end
/-! ### sorted of a web -/
def cdP (p : Int × Int) : Int := p.1 * 64 + p.2
def bdP (p : Int × Int) : Prop := (0 ≤ p.1 ∧ p.1 < 64) ∧ 0 ≤ p.2 ∧ p.2 < 64
theorem cdP_inj {p q : Int × Int} (hp : bdP p) (hq : bdP q) (h : cdP p = cdP q) : p = q := by
  obtain ⟨a, b⟩ := p
  obtain ⟨c, d⟩ := q
  unfold bdP at hp hq
  unfold cdP at h
  dsimp only at hp hq h
  rw [show a = c by omega, show b = d by omega]
def insW (x : Int × Int) : List (Int × Int) → List (Int × Int)
  | [] => [x]
  | y :: ys => if cdP x ≤ cdP y then x :: y :: ys else y :: insW x ys
def srtW : List (Int × Int) → List (Int × Int)
  | [] => []
  | x :: xs => insW x (srtW xs)
theorem insW_perm (x : Int × Int) : ∀ ys, (insW x ys).Perm (x :: ys)
  | [] => .refl _
  | y :: ys => by
    unfold insW
    by_cases h : cdP x ≤ cdP y
    · rw [if_pos h]
    · rw [if_neg h]
      exact ((insW_perm x ys).cons y).trans (.swap x y ys)
theorem srtW_perm : ∀ xs, (srtW xs).Perm xs
  | [] => .refl _
  | x :: xs => (insW_perm x (srtW xs)).trans ((srtW_perm xs).cons x)
theorem insW_pw {x : Int × Int} : ∀ {ys : List (Int × Int)}, ys.Pairwise (fun p q => cdP p ≤ cdP q) → (insW x ys).Pairwise (fun p q => cdP p ≤ cdP q)
  | [], _ => by simp [insW]
  | y :: ys, h => by
    unfold insW
    obtain ⟨h1, h2⟩ := List.pairwise_cons.mp h
    by_cases e : cdP x ≤ cdP y
    · rw [if_pos e]
      refine List.pairwise_cons.mpr ⟨fun z m => ?_, h⟩
      rcases List.mem_cons.mp m with rfl | m
      · exact e
      · exact Int.le_trans e (h1 z m)
    · rw [if_neg e]
      refine List.pairwise_cons.mpr ⟨fun z m => ?_, insW_pw h2⟩
      rcases List.mem_cons.mp ((insW_perm x ys).mem_iff.mp m) with rfl | m
      · omega
      · exact h1 z m
theorem srtW_pw : ∀ xs, (srtW xs).Pairwise (fun p q => cdP p ≤ cdP q)
  | [] => .nil
  | _ :: xs => insW_pw (srtW_pw xs)
/-- rising rows of the same are the same -/
theorem srtW_uniq : ∀ {a b : List (Int × Int)}, a.Perm b → (∀ p ∈ a, bdP p) → a.Pairwise (fun p q => cdP p ≤ cdP q) → b.Pairwise (fun p q => cdP p ≤ cdP q) → a = b
  | [], b, h, _, _, _ => by rw [h.nil_eq]
  | x :: a, [], h, _, _, _ => by have := h.length_eq; simp at this
  | x :: a, y :: b, h, hb, h1, h2 => by
    have hby : ∀ p ∈ y :: b, bdP p := fun p m => hb p (h.mem_iff.mpr m)
    have e : x = y := by
      refine cdP_inj (hb x List.mem_cons_self) (hby y List.mem_cons_self) (Int.le_antisymm ?_ ?_)
      · rcases List.mem_cons.mp (h.mem_iff.mpr List.mem_cons_self : y ∈ x :: a) with e | m
        · rw [e]; exact Int.le_refl _
        · exact (List.pairwise_cons.mp h1).1 y m
      · rcases List.mem_cons.mp (h.mem_iff.mp List.mem_cons_self : x ∈ y :: b) with e | m
        · rw [e]; exact Int.le_refl _
        · exact (List.pairwise_cons.mp h2).1 x m
    subst e
    rw [srtW_uniq ((List.perm_cons x).mp h) (fun p m => hb p (List.mem_cons_of_mem _ m)) (List.pairwise_cons.mp h1).2 (List.pairwise_cons.mp h2).2]
theorem srtW_of {a b : List (Int × Int)} (h : a.Perm b) (hb : ∀ p ∈ a, bdP p) (p : a.Pairwise (fun p q => cdP p ≤ cdP q)) : a = srtW b := srtW_uniq (h.trans (srtW_perm b).symm) hb p (srtW_pw b)
theorem srtW_congr {a b : List (Int × Int)} (h : a.Perm b) (hb : ∀ p ∈ a, bdP p) : srtW a = srtW b := srtW_of ((srtW_perm a).trans h) (fun p m => hb p ((srtW_perm a).mem_iff.mp m)) (srtW_pw a)
theorem rpa_perm {α : Type} {f : α → PyData} {H : Hp} {xs ys : List V} (h : xs.Perm ys) : ∀ {ps : List α}, RpA H (ps.map f) xs → ∃ qs : List α, qs.Perm ps ∧ RpA H (qs.map f) ys := by
  induction h with
  | nil => exact fun {ps} r => ⟨ps, .refl _, r⟩
  | cons x _ ih =>
    intro ps r
    cases ps with
    | nil => exact absurd r.len (by simp)
    | cons p ps =>
      obtain ⟨v, t, e, r1, r2⟩ := r
      cases e
      obtain ⟨qs, h1, h2⟩ := ih r2
      exact ⟨p :: qs, h1.cons p, RpA.cons r1 h2⟩
  | swap x y l =>
    intro ps r
    match ps, r with
    | [], r => exact absurd r.len (by simp)
    | [p], r => exact absurd r.len (by simp)
    | p :: q :: ps, r =>
      obtain ⟨v, t, e, r1, v2, t2, e2, r2, r3⟩ := r
      cases e
      cases e2
      exact ⟨q :: p :: ps, .swap _ _ _, RpA.cons r2 (RpA.cons r1 r3)⟩
  | trans _ _ ih1 ih2 =>
    intro ps r
    obtain ⟨qs, h1, h2⟩ := ih1 r
    obtain ⟨us, h3, h4⟩ := ih2 h2
    exact ⟨us, h3.trans h1, h4⟩
theorem code_pD (p : Int × Int) : TS.code 64 [p.1, p.2] = cdP p := code_pair p.1 p.2
section
variable {X : Cx} {K : PySem.W.Frag} {H : Hp}
theorem cr_sortedWK (h : X.K = K := by rfl) : CallR X (.builtin "sorted") (rSortU K 2 64) := h ▸ cr_sortT (by decide)
theorem cn_sortW {ps : List (Int × Int)} (hl : ps.length < 64) (hb : ∀ p ∈ ps, bdP p) : CN (rSortU K 2 64) [wD ps] H ((srtW ps).map pD) := fun H1 vs e r Q q => by
  obtain ⟨v, t, rfl, ⟨a, xs, rfl, k1, k2⟩, rfl⟩ := r
  refine ⟨a, xs, rfl, SqL.of k1, by rw [k2.len, List.length_map]; exact hl, fun x hx => ?_, fun ys p hp hpw hn => ?_⟩
  · obtain ⟨i, hi⟩ := List.getElem?_of_mem hx
    obtain ⟨d, q1, q2⟩ := k2.getv hi
    obtain ⟨pr, q3, rfl⟩ := map_get q1
    obtain ⟨b, o, rfl, g1, _⟩ := q2.pD
    obtain ⟨z1, z2⟩ := hb pr (List.mem_of_getElem? q3)
    exact ⟨[pr.1, pr.2], ⟨b, rfl, .inl (.inr ⟨o, g1⟩)⟩, rfl, fun m hm => by
      rcases List.mem_cons.mp hm with rfl | hm
      · exact z1
      · rw [List.mem_singleton.mp hm]; exact z2⟩
  · obtain ⟨qs, h1, h2⟩ := rpa_perm hp.symm (ps := ps) k2
    have es : qs = srtW ps := by
      refine srtW_of h1 (fun p m => hb p (h1.mem_iff.mp m)) ?_
      rw [List.pairwise_iff_getElem] at hpw ⊢
      intro i j hi hj hij
      have li : ys.length = qs.length := by rw [h2.len, List.length_map]
      have gi : ∀ n (hn : n < qs.length), TupI K H1 (ys[n]'(by omega)) [qs[n].1, qs[n].2] := fun n hn => by
        have z := h2.get2 (i := n) (d := pD qs[n]) (v := ys[n]'(by omega)) (by rw [List.getElem?_map, List.getElem?_eq_getElem hn]; rfl) (List.getElem?_eq_getElem (by omega))
        obtain ⟨b, o, e1, g1, _⟩ := z.pD
        exact ⟨b, e1, .inl (.inr ⟨o, g1⟩)⟩
      have z := hpw i j (by omega) (by omega) hij _ _ (gi i hi) (gi j hj)
      rwa [code_pD, code_pD] at z
    rw [es] at h2
    exact q p ys _ hn (Ex.new hn) upd_same (h2.ex (Ex.new hn))
end
end Bm

/-! len(set(..)), the last item, not in a web. -/
namespace Bm
open PySem PySem.Spec PyProof.Rows L2 Evl
/-- where a comprehension within another one stands -/
def asgVal (s : Stmt) : Expr := match s with
  | .Assign _ v _ => v
  | _ => .Name "" ⟨0, 0, 0, 0⟩
def compSc (e : Expr) : Scope := match e with
  | .ListComp _ _ sc _ => sc
  | _ => defScope (.Pass ⟨0, 0, 0, 0⟩)
section
variable {X : Cx} {K : PySem.W.Frag}
theorem pe_lenSetIK {a : Expr} {ta : TE} {p p2 q pos : Pos} (hc : X.calm = true) (hg : Gl X "len") (hm : X.mg "len" = none) (hg2 : Gl X "set") (hm2 : X.mg "set" = none) (ha : PE X a ta)
    (hK : X.K = K := by rfl) (na : starEach [a] X.env = (false, eval a X.env) :: starEach [] X.env := by rfl) : PE X (.Call (.Name "len" p) [.Call (.Name "set" p2) [a] [] q] [] pos) (tLenSetI K ta) := hK ▸ pe_lenSetI hc hg hm hg2 hm2 ha na
end
section
variable {K : PySem.W.Frag} {σ : L2.St} {H : Hp} {te : TE}
theorem evd_lenSet {ns : List Int} (h : EvD te σ H (iL ns)) (hl : ns.length < 64) (n : ns.Nodup) : EvD (tLenSetI K te) σ H (.int ns.length) := fun H1 e Q q => h H1 e _ fun v H2 e2 r => by
  obtain ⟨a, rfl, k⟩ := r.iL
  exact ⟨a, ns, rfl, SqL.of k, hl, n, q _ H2 e2 rfl⟩
theorem rd_niW {p : Int × Int} {ps : List (Int × Int)} : RD (rNotInD K) (pD p) (wD ps) H (.bool (!decide (p ∈ ps))) := rd_val fun H1 v u ex r1 r2 =>
  ⟨.bl (!decide (p ∈ ps)), rfl, fun Q q => ⟨pD p, ps.map pD, r1.dp, r2.dp, (cmp_pD p).shaped (by decide), (cmp_wD ps).shaped (by decide), by rw [show ((ps.map pD).any fun z => PyData.eqv z (pD p)) = decide (p ∈ ps) from (any_eqv cmp_pD (fun a b => pD_inj) p ps).trans (decide_eq_decide.mpr Iff.rfl)]; exact q⟩⟩
theorem atI_m1 {α : Type} {xs : List α} {x : α} (h : xs[xs.length - 1]? = some x) : atI xs (-1) = some x := by
  have hl : 0 < xs.length := by
    have := (List.getElem?_eq_some_iff.mp h).1
    omega
  have e : ixN xs.length (-1) = some (xs.length - 1) := by
    unfold ixN
    rw [if_neg (by omega), if_pos (by omega)]
    congr 1
    omega
  unfold atI
  rw [e]
  exact h
end
/-! ### sorted of a list of ints; a loop over a new list -/
section
variable {X : Cx} {K : PySem.W.Frag} {σ : L2.St} {H : Hp} {tl : TE} {D : Ends} {g : TG} {tu : TS}
theorem cr_sortedIK (h : X.K = K := by rfl) : CallR X (.builtin "sorted") (rSortedI K) := h ▸ cr_sortedI
theorem cn_sortI {ns : List Int} : CN (rSortedI K) [iL ns] H ((srt ns).map PyData.int) := fun H1 vs e r Q q => by
  obtain ⟨v, t, rfl, hv, rfl⟩ := r
  obtain ⟨a, rfl, k⟩ := hv.iL
  refine ⟨a, ns, rfl, SqL.of k, fun ns' p h1 h2 hn => ?_⟩
  rw [srt_of h1 h2]
  exact q p _ _ hn (Ex.new hn) upd_same (rpa_ints _)
/-- over a new list: other new lists may change -/
theorem s_forN {α : Type} {f : α → PyData} {xs : List α} (h : EvN tl σ H (xs.map f)) (im : ∀ x ∈ xs, imm (f x) = true)
    (k : ∀ p vs H1, H p = none → Ex H H1 → H1 p = some (.lst vs) → ∃ Pv : Nat → L2.St → Hp → Prop, Pv 0 σ H1 ∧ (∀ i σ' H', Pv i σ' H' → KT H1 H' ∧ H' p = some (.lst vs)) ∧
      (∀ i x v σ' H', xs[i]? = some x → Rp H' (f x) v → Pv i σ' H' → g v σ' H' fun σ2 H2 => tu { D with nx := Pv (i + 1), ct := Pv (i + 1), bk := D.nx } σ2 H2) ∧ ∀ σ' H', Pv xs.length σ' H' → D.nx σ' H') :
    tFor (iList K tl) g tu D σ H := h H (Ex.refl H) _ fun p vs H1 hp e h1 h2 => by
  obtain ⟨Pv, p0, pe, ps, pd⟩ := k p vs H1 hp e h1
  have hl : vs.length = xs.length := by rw [h2.len, List.length_map]
  refine ⟨p, rfl, ⟨vs, SqL.of h1⟩, for_list (xs := vs) Pv p0 (fun i σ' H' _ q => SqL.of (pe i σ' H' q).2) (fun i v2 σ' H' hi q => ?_) (fun σ' H' q => pd σ' H' (hl ▸ q))⟩
  obtain ⟨d2, q1, q2⟩ := h2.getv hi
  obtain ⟨x, q3, rfl⟩ := map_get q1
  exact ps i x v2 σ' H' q3 (Rp.keep (pe i σ' H' q).1 (im x (List.mem_of_getElem? q3)) q2) q
end
/-- a branching with a place behind it told once -/
theorem joinK {A : Type} {D : Ends} {s : TS} {σ : L2.St} {H : Hp} (mk : A → L2.St) (J : A → Hp → Prop) (cont : ∀ w H', J w H' → D.nx (mk w) H') (main : (∀ w H', J w H' → D.nx (mk w) H') → s D σ H) : s D σ H := main cont
/-! ### a new list that is only read -/
def NL (H0 H' : Hp) (ds : List PyData) (v : V) : Prop := ∃ a vs, v = .ref a ∧ H0 a = none ∧ H' a = some (.lst vs) ∧ RpA H' ds vs
theorem NL.rp {H0 H' : Hp} {ds : List PyData} {v : V} (h : NL H0 H' ds v) : Rp H' (.list ds) v := by
  obtain ⟨a, vs, e, _, k1, k2⟩ := h
  exact ⟨a, vs, e, k1, k2⟩
theorem NL.ex {H0 H1 H2 : Hp} {ds : List PyData} {v : V} (h : NL H0 H1 ds v) (e : Ex H1 H2) : NL H0 H2 ds v := by
  obtain ⟨a, vs, e1, n, k1, k2⟩ := h
  exact ⟨a, vs, e1, n, e _ _ k1, k2.ex e⟩
theorem s_asgNL {H0 H : Hp} {te : TE} {σ : L2.St} {D : Ends} {i : Nat} {ds : List PyData} (h : EvN te σ H ds) (e0 : Ex H0 H) (k : ∀ v H1, Ex H H1 → NL H0 H1 ds v → D.nx (σ.set i (some v)) H1) : tAsg te (gName i) D σ H :=
  h H (Ex.refl H) _ fun p vs H1 hp e h1 h2 => k _ H1 e ⟨p, vs, rfl, fresh_back e0 hp, h1, h2⟩
theorem EvN.is {te : TE} {σ : L2.St} {H : Hp} {ds es : List PyData} (h : EvN te σ H ds) (e : ds = es) : EvN te σ H es := e ▸ h
end Bm

/-! Dicts whose keys are plain tuples of ints: a display of one pair; a plain tuple of a list. -/
namespace Bm
open PySem PySem.Spec PyProof.Rows L2 Evl
/-- {k: v}, k a plain tuple of ints -/
def tDispT (tk tv : TE) : TE := fun σ H Q => ∀ p, H p = none → tk σ (upd H p (.dT [])) fun x H1 => tv σ H1 fun y H2 => ∃ (k : List Key) (b : Addr), x = .ref b ∧ H2 b = some (.tup (k.map kV)) ∧ H2 p = some (.dT []) ∧ Q (.ref p) (upd H2 p (.dT [(k, y)]))
theorem pe_dispT {X : Cx} {pos : Pos} {ke ve : Expr} {tk tv : TE} (hu : X.A.units < cLine) (hk : PE X ke tk) (hv : PE X ve tv) : PE X (.Dict [some ke] [ve] pos) (tDispT tk tv) := by
  refine ⟨fun pins s σ H Q I q => ?_⟩
  have hn := I.hok.fresh (Nat.le_refl s.heap.objs.size)
  have I1 := I.laid (a := s.heap.objs.size) (o := .dT []) (h' := s.heap.push { cls := .type "dict", data := .dict #[] }) (t' := s.toks) (fun _ _ q => Heap.get?_push_of_some _ q) (Nat.le_refl _) (dt_empty s.heap I.big)
  have run := (pps_cons hk hv pps_nil : PPs X pos [some ke] [ve] [(tk, tv)]).run pins { s with heap := s.heap.push { cls := .type "dict", data := .dict #[] } } σ (upd H s.heap.objs.size (.dT []))
    (fun ps H2 => match ps with
      | [(x, y)] => ∃ (k : List Key) (b : Addr), x = .ref b ∧ H2 b = some (.tup (k.map kV)) ∧ H2 s.heap.objs.size = some (.dT []) ∧ Q (.ref s.heap.objs.size) (upd H2 s.heap.objs.size (.dT [(k, y)]))
      | _ => False) I1 (q _ hn)
  refine wpAny_Dict_any rfl rfl (by simp) (Nat.le_of_ble_eq_true rfl) (thn run fun ws s2 ⟨ps, H2, I2, rel, q1⟩ => ?_)
  match ps, q1 with
  | [(x, y)], ⟨k, b, ex, hb, hp, q2⟩ =>
  subst ex
  cases rel with
  | @cons a c as cs h t =>
    cases t
    obtain ⟨u, r⟩ := c
    obtain ⟨r1, r2⟩ := h
    cases (show u = Value.ref b from r1)
    obtain ⟨z, hd, xs, relT, dd⟩ := dt_of I2.hok hp
    cases relT
    unfold PySem.storeAll
    rw [List.forIn_cons]
    refine wpAny_bind (wpAny_bind (wpAny_dictSet_heap (knd := tupleKind (mixKind X.prog X.w)) (hsz := by show 0 ≤ _; exact Nat.zero_le _) hu (key_of I2.hok hb) dd fun h' dd' hs => wpAny_pure ?_))
    show wpAny _ _ (forIn ([] : List (Value × Value)) _ _) _ _ _
    rw [List.forIn_nil]
    refine wpAny_pure ⟨.ref s.heap.objs.size, _, ?_, rfl, q2⟩
    obtain ⟨o, es, ep, hq, h2, h3, h4, h6, h5⟩ := dd'
    refine d_write I2 (by rw [hp]; exact True.intro) hs ⟨o, hq⟩ ⟨by show 1 ≤ sizeLine; decide, hd, _, ?_, o, es, ep, hq, h2, h3, h4, h5⟩
    have rel0 : L2.KT H2 ([] : List (List Key × V)) [] := Paired.nil
    have rel1 := L2.KT.put rel0 k hb r2
    refine L2.KT.keeps rel1 fun c ys ec => ?_
    rw [upd_ne (ne_of ec hp (fun z => nomatch z))]
    exact ec
/-! ### for k in d, d a dict with tuple keys (locked meanwhile) -/
def lockD (d : Addr) (kvs : List (List Key × V)) (od : Obj) (D : Ends) : Ends := ⟨fun σ' H' => H' d = some (.frz od (.dT kvs)) ∧ D.nx σ' (upd H' d (.dT kvs)), fun v H' => H' d = some (.frz od (.dT kvs)) ∧ D.rt v (upd H' d (.dT kvs)), fun σ' H' => H' d = some (.frz od (.dT kvs)) ∧ D.bk σ' (upd H' d (.dT kvs)), fun σ' H' => H' d = some (.frz od (.dT kvs)) ∧ D.ct σ' (upd H' d (.dT kvs))⟩
theorem s_forDT {D : Ends} {σ : L2.St} {H : Hp} {i : Nat} {d : Addr} {kvs : List (List Key × V)} {g : TG} {tu : TS} (hi : σ[i]? = some (some (.ref d))) (hd : H d = some (.dT kvs)) (Pv : Obj → Nat → L2.St → Hp → Prop)
    (p0 : ∀ od, Pv od 0 σ (upd H d (.frz od (.dT kvs)))) (pe : ∀ od j σ' H', Pv od j σ' H' → H' d = some (.frz od (.dT kvs)))
    (turn : ∀ od j k v q σ' H', kvs[j]? = some (k, v) → H' q = some (.tup (k.map kV)) → Pv od j σ' H' → g (.ref q) σ' H' fun σ2 H2 => tu { lockD d kvs od D with nx := Pv od (j + 1), ct := Pv od (j + 1), bk := (lockD d kvs od D).nx } σ2 H2)
    (done : ∀ od σ' H', Pv od kvs.length σ' H' → D.nx σ' (upd H' d (.dT kvs))) : tLock (tFor (iKeys (tVar i)) g tu) D σ H :=
  ⟨d, .dT kvs, hd, True.intro, fun od => ⟨.ref d, hi, d, od, rfl, .inr ⟨kvs, upd_same, for_it (D := lockD d kvs od D) walk_keysT (Pv od) (p0 od) (fun j σ' H' _ p => pe od j σ' H' p) (fun j x σ' H' H'' _ p y => by
    obtain ⟨rfl, k, v, q, h1, rfl, h2⟩ := y
    exact turn od j k v q σ' _ h1 h2 p) fun σ' H' p => ⟨pe od _ σ' H' p, done od σ' H' p⟩⟩⟩⟩
/-! ### plain tuples of ints -/
def PT (H : Hp) (ns : List Int) (v : V) : Prop := ∃ a, v = .ref a ∧ H a = some (.tup (ns.map V.int))
theorem PT.ex {H H' : Hp} {ns : List Int} {v : V} (h : PT H ns v) (e : Ex H H') : PT H' ns v := by
  obtain ⟨a, e1, e2⟩ := h
  exact ⟨a, e1, e _ _ e2⟩
/-- tuple(a list), laid plainly -/
def rTupP (K : PySem.W.Frag) : List V → Hp → VK → Prop := fun xs H Q => ∃ p ys, xs = [.ref p] ∧ SqL K H p ys ∧ ∀ l, H l = none → Q (.ref l) (upd H l (.tup ys))
theorem cr_tupP {X : Cx} : CallR X (.type "tuple") (rTupP X.K) := by
  intro pins s σ H xs us Q I r h
  obtain ⟨p, ys, rfl, hq, q⟩ := h
  obtain ⟨u, rfl, ru⟩ := vals1 r
  cases ru
  obtain ⟨its, rv, pl, z⟩ := I.list hq
  refine call_tuple_list pl.isList (fun h2 kp => ?_) (by rw [List.size_toArray, ← rv.length]; exact z)
  have J : L2.Inv X pins σ H { s with heap := h2, toks := s.toks } := I.kept (t' := s.toks) kp
  have fr : H h2.objs.size = none := J.hok.fresh (Nat.le_refl _)
  refine ⟨.ref h2.objs.size, upd H h2.objs.size (.tup ys), J.laid (t' := s.toks) (fun b o e => Heap.get?_push_of_some _ e) (Nat.le_refl _) (show ObjOk X.prog X.w _ _ _ (.tup ys) from ⟨z, its, rv, ?_⟩), rfl, q _ fr⟩
  exact IsTup.new _ _
theorem cr_tupPK {X : Cx} {K : PySem.W.Frag} (h : X.K = K := by rfl) : CallR X (.type "tuple") (rTupP K) := h ▸ cr_tupP
/-- an expression that gives a plain tuple -/
def EvP2 (te : TE) (σ : L2.St) (H : Hp) (ns : List Int) : Prop := ∀ H1, Ex H H1 → ∀ Q : VK, (∀ p H2, H1 p = none → Ex H1 H2 → H2 p = some (.tup (ns.map V.int)) → Q (.ref p) H2) → te σ H1 Q
section
variable {K : PySem.W.Frag} {σ : L2.St} {H : Hp} {te tb : TE} {ns : List Int} {a : Addr} {i : Nat}
theorem evp_tup {tr : TE} (h : EvD tr σ H (iL ns)) : EvP2 (tCB (rTupP K) (tCons tr tNil)) σ H ns := fun H1 e Q q => h H1 e _ fun v H2 e2 r => by
  obtain ⟨p, rfl, k⟩ := r.iL
  exact ⟨p, _, rfl, SqL.of k, fun l hl => q l _ (fresh_back e2 hl) (e2.trans (Ex.new hl)) upd_same⟩
theorem evd_lenP (hi : σ[i]? = some (some (.ref a))) (ha : H a = some (.tup (ns.map V.int))) : EvD (tCB (rLenS K) (tCons (tVar i) tNil)) σ H (.int ns.length) := fun H1 e Q q =>
  ⟨.ref a, hi, a, _, rfl, .inr (.inl (.inl (e _ _ ha))), by rw [List.length_map]; exact q _ H1 (Ex.refl H1) rfl⟩
theorem evd_ixP {k : Int} {z : Int} (hi : σ[i]? = some (some (.ref a))) (ha : H a = some (.tup (ns.map V.int))) (hk : EvD tb σ H (.int k)) (hz : atI ns k = some z) : EvD (tOp (rIxT K) (tVar i) tb) σ H (.int z) := fun H1 e Q q =>
  ⟨.ref a, hi, hk H1 e _ fun v H2 e2 r => ⟨a, _, k, .int z, rfl, r, .inl (.inl ((e.trans e2) _ _ ha)), atI_map hz, q _ H2 e2 rfl⟩⟩
end
theorem hu_of0 {k : Nat} {A : Around} (hr : Room k A) : A.units < cLine := by have := hr.un; omega
section
variable {K : PySem.W.Frag} {σ : L2.St} {H : Hp} {te : TE} {g : TG}
/-- over a plain tuple of ints -/
theorem evn_lcP {ns : List Int} {a : Addr} {i : Nat} {vs : List Nat} {tt : TT} (y : Int → PyData) (hi : σ[i]? = some (some (.ref a))) (ha : H a = some (.tup (ns.map V.int))) (hz : ns.length ≤ 50000)
    (turn : ∀ x H1, x ∈ ns → Ex H H1 → ∃ σ2, (∀ Q : L2.St → Hp → Prop, Q σ2 H1 → g (.int x) (wipe σ vs) H1 Q) ∧ wipe σ2 vs = wipe σ vs ∧ EvT tt σ2 H1 true ∧ EvD te σ2 H1 (y x))
    (im : ∀ x ∈ ns, imm (y x) = true) : EvN (tLc (iTup K (tVar i)) g tt te vs) σ H (ns.map y) := fun H1 e1 Q q => by
  have h1 := e1 _ _ ha
  have hl : (ns.map V.int).length = ns.length := List.length_map _
  refine ⟨.ref a, hi, a, rfl, ⟨_, .inl (.inl h1)⟩, fun Dl hD => lc_tup (xs := ns.map V.int) (fun i H' => Own H1 H' Dl ((ns.take i).map y)) ?_ (fun i H' _ o => .inl (.inl (o.ex a _ h1))) (fun i x2 H' hi o => ?_) fun H' o => ?_⟩
  · exact ⟨hD, Ex.new hD, ⟨[], upd_same, RpA.nil⟩, rfl⟩
  · obtain ⟨x, q3, rfl⟩ := map_get hi
    have hx : x ∈ ns := List.mem_of_getElem? q3
    obtain ⟨σ2, g1, g2, g3, g4⟩ := turn x H' hx (e1.trans o.ex)
    have hlen : i < ns.length := (List.getElem?_eq_some_iff.mp q3).1
    refine g1 _ ⟨g2, g3 H' (Ex.refl H') _ fun H3 e3 => ?_⟩
    have et : ns.take (i + 1) = ns.take i ++ [x] := by rw [List.take_add_one, q3]; rfl
    have o3 := o.step e3
    rw [if_pos rfl]
    refine g4 H3 e3 _ fun w H4 e4 r4 => ?_
    obtain ⟨acc, k1, k2⟩ := (o3.step e4).has
    have kt : KT H4 (upd H4 Dl (.lst (acc ++ [w]))) := KT.lst k1
    have hb : acc.length ≤ i := by
      rw [k2.len, List.length_map, List.length_take]
      omega
    refine ⟨acc, k1, sz_lt (by omega), o.new, Ex.mut (o3.step e4).ex o.new, ⟨_, upd_same, ?_⟩, ?_⟩
    · rw [et, List.map_append]
      exact (RpA.keep kt o.im k2).snoc (Rp.keep kt (im x hx) r4)
    · rw [et, List.map_append]
      exact immA_app o.im (immA_one (im x hx))
  · rw [hl, List.take_length] at o
    obtain ⟨acc, k1, k2⟩ := o.has
    exact q Dl acc H' o.new o.ex k1 k2
/-- a, b = a pair of data -/
theorem g_two {d1 d2 : PyData} {v : V} {i j : Nat} {Q : L2.St → Hp → Prop} (r : Rp H (.tuple [d1, d2]) v) (q : ∀ u1 u2, Rp H d1 u1 → Rp H d2 u2 → Q ((σ.set i (some u1)).set j (some u2)) H) : gTup K 2 (gCons (gName i) (gCons (gName j) gNil)) v σ H Q := by
  obtain ⟨a, xs, o, rfl, h1, _, u1, r1, rfl, q1, u2, r2, rfl, q2, q3⟩ := r
  cases q3
  exact ⟨a, _, rfl, .inl (.inr ⟨o, h1⟩), rfl, u1, [u2], rfl, u2, [], rfl, rfl, q u1 u2 q1 q2⟩
theorem valV_mem {κ : Type} [DecidableEq κ] {k : κ} {v : V} : ∀ {kvs : List (κ × V)}, (kvs.map (·.1)).Nodup → (k, v) ∈ kvs → valV kvs k = some v
  | [], _, h => by cases h
  | p :: kvs, n, h => by
    rw [List.map_cons, List.nodup_cons] at n
    rcases List.mem_cons.mp h with rfl | h
    · exact valV_pos rfl
    · by_cases e : p.1 = k
      · exact absurd (List.mem_map.mpr ⟨_, h, e.symm⟩) n.1
      · rw [valV_neg e]
        exact valV_mem n.2 h
end
end Bm

/-! Texts: str of an int, join. -/
namespace Bm
open PySem PySem.Spec PyProof.Rows L2 Evl
def rStrI : List V → Hp → VK → Prop := fun xs H Q => ∃ i, xs = [.int i] ∧ i.natAbs.log2 < 1920 ∧ Q (.str (toString i)) H
theorem cr_strI {X : Cx} : CallR X (.type "str") rStrI := call_str_int
def rJoinK (K : PySem.W.Frag) : V → List V → Hp → VK → Prop := fun x xs H Q => ∃ a p, ∃ ys : List Str, x = .str a ∧ xs = [.ref p] ∧ (SqL K H p (ys.map V.str) ∨ SqT K H p (ys.map V.str)) ∧ (ys.map (·.length)).sum + ys.length * a.length ≤ 16777216 ∧ Q (.str (Txt.join a ys)) H
theorem mt_joinK {X : Cx} {K : PySem.W.Frag} (h : X.K = K := by rfl) : MtR X "str.join" (rJoinK K) := h ▸ mt_join
section
variable {K : PySem.W.Frag} {σ : L2.St} {H : Hp} {te to : TE}
theorem cd_strI {i : Int} (h : i.natAbs.log2 < 1920) : CD rStrI [.int i] H (.str (toString i)) := fun H1 vs e r Q q => by
  obtain ⟨v, w, rfl, rfl, rfl⟩ := r
  exact ⟨i, rfl, h, q _ H1 (Ex.refl H1) rfl⟩
theorem evd_join {a : Str} {ys : List Str} (ho : EvD to σ H (.str a)) (h : EvD te σ H (.list (ys.map PyData.str))) (hz : (ys.map (·.length)).sum + ys.length * a.length ≤ 16777216) : EvD (tM1 (rJoinK K) to te) σ H (.str (Txt.join a ys)) := fun H1 e Q q =>
  ho H1 e _ fun v H2 e2 r2 => ⟨⟨a, r2⟩, h H2 (e.trans e2) _ fun u H3 e3 r3 => by
    obtain rfl : v = .str a := r2
    obtain ⟨p, xs, rfl, k1, k2⟩ := r3
    have := k2.strs
    subst this
    exact ⟨a, p, ys, rfl, rfl, .inl (SqL.of k1), hz, q _ H3 (e2.trans e3) rfl⟩⟩
end
def rAddT : R2 := fun x y H Q => ∃ i j : Str, x = .str i ∧ y = .str j ∧ i.length + j.length ≤ sizeLine ∧ Q (.str (i ++ j)) H
theorem op_addT {X : Cx} : OpR X (binaryOp .Add) rAddT := op_add_str
theorem rd_addT {H : Hp} {i j : Str} (h : i.length + j.length ≤ 100000) : RD rAddT (.str i) (.str j) H (.str (i ++ j)) := rd_val fun H1 v u e r1 r2 => ⟨.str (i ++ j), rfl, fun Q q => ⟨i, j, r1, r2, sz_of h, q⟩⟩
end Bm

/-! Slices of tuples, tuple * int, tuple(range), max and min of two, lists of bools, caught errors and isinstance. -/
namespace Bm
open PySem PySem.Spec PyProof.Rows L2 Evl
/-! ### slices of tuples -/
def rSlF (K : PySem.W.Frag) : V → Option Int → Option Int → Hp → VK → Prop := fun x lo hi H Q => ∃ a xs, x = .ref a ∧ SqT K H a xs ∧
  (HT.sIx xs.length 0 lo = 0 ∧ HT.sIx xs.length xs.length hi = xs.length → Q (.ref a) H) ∧ ∀ p o, H p = none → o.dict = none → Q (.ref p) (upd H p (.frz o (.tup (cutV xs lo hi))))
theorem sl_tupF {X : Cx} : SlR X (rSlF X.K) := by
  rintro pins s σ H x v vl vu lo hi sl Q I rx hs pl pu ⟨a, xs, rfl, hx, q1, q2⟩
  cases rx
  obtain ⟨its, r, ht, hz⟩ := I.tuple hx
  have ln : xs.length = its.toArray.size := r.length
  rw [ln] at q1 hz
  refine ⟨"tuple", _, PyProof.Rows.slot_tuple_getitem.lookup, ht.typeIs, ?_⟩
  rcases Classical.em (HT.sIx its.toArray.size 0 lo = 0 ∧ HT.sIx its.toArray.size its.toArray.size hi = its.toArray.size) with all | part
  · exact getItem_tuple_whole ht hs pl pu all ⟨.ref a, H, I, rfl, q1 all⟩
  · refine HT.getItem_tuple_cut ht hs pl pu part ?_ hz
    rw [← ln] at hz ⊢
    exact tupNew (tk := s.toks) I (fun _ _ e => e) ((r.drop _).take _) (Nat.le_trans (cutV_length xs lo hi) hz) q2
theorem sl_tupFK {X : Cx} {K : PySem.W.Frag} (h : X.K = K := by rfl) : SlR X (rSlF K) := h ▸ sl_tupF
theorem cutA_mid {α : Type} {xs : List α} {a b : Nat} (h : a ≤ b) (hb : b ≤ xs.length) : cutA xs (some (a : Int)) (some (b : Int)) = (xs.drop a).take (b - a) := by
  unfold cutA
  rw [HT.sIx_nat, HT.sIx_nat, Nat.min_eq_left hb, Nat.min_eq_left (by omega)]
section
variable {K : PySem.W.Frag} {σ : L2.St} {H : Hp} {ta tb te : TE} {ds : List PyData}
theorem evd_slT {tl th : TO} {lo hi : Option Int} (h : EvD te σ H (.tuple ds)) (h1 : EvP tl σ H lo) (h2 : EvP th σ H hi) : EvD (tSl (rSlF K) te tl th) σ H (.tuple (cutA ds lo hi)) := fun H0 e Q q =>
  h H0 e _ fun v H2 e2 r => h1 H2 (e.trans e2) _ fun H3 e3 => h2 H3 ((e.trans e2).trans e3) _ fun H4 e4 => by
    have e24 := e3.trans e4
    have r4 := r.ex e24
    obtain ⟨a, xs, o, rfl, k1, k0, k2⟩ := id r4
    refine ⟨a, xs, rfl, .inl (.inr ⟨o, k1⟩), fun w => ?_, fun p o' hp ho => q _ _ ((e2.trans e24).trans (Ex.new hp)) ⟨p, _, o', rfl, upd_same, ho, (cutA_rp k2 lo hi).ex (Ex.new hp)⟩⟩
    have ew : cutA ds lo hi = ds := by
      unfold cutA
      rw [← k2.len, w.1, w.2, List.drop_zero, Nat.sub_zero, k2.len, List.take_length]
    rw [ew] at q
    exact q _ H4 (e2.trans e24) r4
end
/-! ### tuple * int -/
theorem tuple_mul1 (l : Addr) (items : Array Value) (n : Nat) (dd : Option Addr) (sl : Array (Option Value)) (u : Tok) :
    Meets (Builtin.«tuple.__mul__» ⟨[.ref l, .int 1 u], []⟩) (fun _ R s => s.heap.get? l = some { cls := .type "tuple", dict := dd, data := .seq items n, slots := sl } ∧ R (.ok (.ret (Value.ref l))) s) :=
  .of_wp fun prog w A R s h => by
    obtain ⟨hp, g, d, tk, os⟩ := s
    obtain ⟨hl, h⟩ := h
    have f1 := AutoSeq1.idx_int
    have hT : (⟨hp, g, d, tk, os⟩ : Shared).TypeIs (.ref l) "tuple" := ⟨_, hl, rfl⟩
    have c0 : (decide ((1 : Int) < -(2 ^ 63)) || decide ((1 : Int) ≥ 2 ^ 63)) = false := by decide
    have c1 : (items.isEmpty || (1 : Int) == 1) = true := by rw [Bool.or_eq_true]; exact .inr rfl
    wp_walk using wpAny_loadPart' hl, wpAny_typeOf hT
    repeat (first
      | (refine wpAny_ite_false (decide_eq_false (by rw [c0]; exact Bool.false_ne_true)) ?_; wp_walk using wpAny_loadPart' hl, wpAny_typeOf hT)
      | (refine wpAny_ite_true (decide_eq_true c1) ?_; wp_walk using wpAny_loadPart' hl, wpAny_typeOf hT))
    all_goals exact ⟨_, rfl, h⟩
def rRepF (K : PySem.W.Frag) : R2 := fun x y H Q => ∃ l k xs, x = .ref l ∧ y = .int k ∧ SqT K H l xs ∧ xs ≠ [] ∧ 1 ≤ k ∧ k ≤ 1000 ∧ xs.length ≤ 1000 ∧ (k = 1 → Q (.ref l) H) ∧ ∀ p o, H p = none → o.dict = none → Q (.ref p) (upd H p (.frz o (.tup (List.replicate k.toNat xs).flatten)))
theorem long_rep {α : Type} {l : List α} {k : Int} (h : k ≤ 1000) (z : l.length ≤ 1000) : (List.replicate k.toNat l).flatten.length ≤ sizeLine := by
  rw [sizeLine_eq, PyProof.Rows.lm_len_rep_flat]
  have := Nat.mul_le_mul (show k.toNat ≤ 1000 by omega) z
  omega
/-- the questions that tuple.__mul__ asks first -/
theorem rep_asks {its : List Value} {k : Int} (n0 : its ≠ []) (n1 : its.length ≤ 1000) (k1 : 1 < k) (k2 : k ≤ 1000) :
    (decide (k < -(2 ^ 63)) || decide (k ≥ 2 ^ 63)) = false ∧ (its.toArray.isEmpty || k == 1) = false ∧ (decide (k ≤ 0) || its.toArray.isEmpty) = false ∧ (its.toArray.size : Int) * k ≤ 1000000 ∧ Builtin.Tuple.tupleTooMany ((its.toArray.size : Int) * k) = false := by
  have some_ : its.toArray.isEmpty = false := by simpa using n0
  have most : (its.toArray.size : Int) * k ≤ 1000000 := by
    have a : (its.length : Int) * k ≤ 1000 * k := Int.mul_le_mul_of_nonneg_right (by omega) (by omega)
    rw [List.size_toArray]
    omega
  refine ⟨by simp; omega, by simp [some_]; omega, by simp [some_]; omega, most, ?_⟩
  simp only [Builtin.Tuple.tupleTooMany, sizeLine_eq, decide_eq_false_iff_not]
  omega
theorem op_repF {X : Cx} : OpR X (binaryOp .Mult) (rRepF X.K) := by
  rintro pins s σ H x y v u Q I rx ry ⟨l, k, xs, rfl, rfl, hT, hne, h1, h2, hz, q1, q⟩
  cases rx
  obtain ⟨t, rfl⟩ := ry
  obtain ⟨its, r, ⟨⟨cls, dd, data, sl⟩, ho, rfl, n, rfl⟩, _⟩ := I.tuple hT
  have il : its.length = xs.length := r.length.symm
  refine wpAny_binaryOp_repeat_ref (T := "tuple") (U := "int") (by decide) ⟨_, ho, rfl⟩ (fun _ => typeIs_int _ k t) noFill_tuple_mul F.fills_int_mul F.slot_int_rmul repeat_tuple F.slot_int_index.lookup (call_meets F.slot_int_rmul (typeIs_int s k t) F.entry_int_rmul (F.args_int_rmul_2 _ _)
    (int_rmul_tuple k t l its.toArray n dd sl) ⟨ho, rfl, ⟨_, ho, rfl⟩, ?_⟩)
  rcases Int.lt_or_eq_of_le h1 with big | rfl
  · obtain ⟨c0, c1, c2, c3, c4⟩ := rep_asks (its := its) (k := k) (fun e => hne (List.eq_nil_of_length_eq_zero (by rw [← il, e]; rfl))) (by omega) big h2
    refine call_meets F.slot_tuple_mul ⟨_, ho, rfl⟩ F.entry_tuple_mul (F.args_tuple_mul_2 _ _) (tuple_mulW l its.toArray n dd sl k t c0 c1 c2 (by omega) c4 (by rw [size_rep, List.size_toArray]; exact long_rep h2 (by omega))) ⟨ho, ?_⟩
    rw [size_rep]
    exact tupNew (tk := s.toks) I (fun _ _ e => e) (r.rep k.toNat) (long_rep h2 hz) q
  · exact call_meets F.slot_tuple_mul ⟨_, ho, rfl⟩ F.entry_tuple_mul (F.args_tuple_mul_2 _ _) (tuple_mul1 l its.toArray n dd sl t) ⟨ho, ⟨.ref l, H, I, rfl, q1 rfl⟩⟩
theorem op_repFK {X : Cx} {K : PySem.W.Frag} (h : X.K = K := by rfl) : OpR X (binaryOp .Mult) (rRepF K) := h ▸ op_repF
section
variable {K : PySem.W.Frag} {σ : L2.St} {H : Hp} {ta tb te : TE} {ds : List PyData}
theorem evd_repT {k : Int} (ha : EvD ta σ H (.tuple ds)) (hb : EvD tb σ H (.int k)) (hk : 1 ≤ k ∧ k ≤ 1000) (hn : ds ≠ []) (hz : ds.length ≤ 1000) : EvD (tOp (rRepF K) ta tb) σ H (.tuple (List.replicate k.toNat ds).flatten) := fun H0 e Q q =>
  ha H0 e _ fun v H2 e2 r2 => hb H2 (e.trans e2) _ fun u H3 e3 r3 => by
    obtain rfl : u = .int k := r3
    have r4 := r2.ex e3
    obtain ⟨a, xs, o, rfl, k1, k0, k2⟩ := id r4
    refine ⟨a, k, xs, rfl, rfl, .inl (.inr ⟨o, k1⟩), fun z => hn (List.eq_nil_of_length_eq_zero (by rw [← k2.len, z]; rfl)), hk.1, hk.2, by rw [k2.len]; exact hz, fun z => ?_, fun p o' hp ho => q _ _ ((e2.trans e3).trans (Ex.new hp)) ⟨p, _, o', rfl, upd_same, ho, (k2.rep k.toNat).ex (Ex.new hp)⟩⟩
    subst z
    have er : (List.replicate (1 : Int).toNat ds).flatten = ds := by
      show ([ds] : List (List PyData)).flatten = ds
      simp
    rw [er] at q
    exact q _ H3 (e2.trans e3) r4
end
/-! ### tuple(range(..)), max, min -/
def tTupRgF (te : L2.St → Hp → (Int → Int → Hp → Prop) → Prop) : TE := fun σ H Q => te σ H fun a b H1 => RgOk a b ∧ ∀ q o, H1 q = none → o.dict = none → Q (.ref q) (upd H1 q (.frz o (.tup (rgV a b))))
theorem pe_tupRgF {X : Cx} {e : Expr} {te : L2.St → Hp → (Int → Int → Hp → Prop) → Prop} {p pos : Pos} (hc : X.calm = true) (hg : Gl X "tuple") (hm : X.mg "tuple" = none) (he : PRg X e te) (na : starEach [e] X.env = (false, eval e X.env) :: starEach [] X.env := by rfl) : PE X (.Call (.Name "tuple" p) [e] [] pos) (tTupRgF te) := by
  constructor
  intro pins s σ H Q I h
  refine Call_ (ld_blt I hg hm boot_tuple ?_)
  refine PyProof.Rows.callWith_type1 (args_cons (thn (he pins s σ H _ I h) fun x s1 ⟨r, a, b, t, u, v, H1, ex, hr, I1, ⟨b1, b2, b3, b4, b5⟩, q⟩ => args_nil ?_) na) na
  subst ex
  refine call_tuple_range (n := (b - a).toNat) (I1.ok.hd hc) hr (small_one b1 b2 b3 b4) (rangeSize_nat a b) b5 fun h' tk acc hk hi => ?_
  have z := tupNew (tk := tk) (I1.kept (t' := tk) hk) (h2 := h') (xs := rgV a b) (us := acc.toList) (fun _ _ e => e) (vals_rg hi) (by rw [rgV_length, sizeLine_eq]; omega) q
  rwa [Array.toArray_toList] at z
theorem rgV_rgI (n : Int) : rgV 0 n = (rgI 0 n.toNat).map V.int := by
  unfold rgV rgI
  rw [List.map_map, Int.sub_zero]
  rfl
section
variable {K : PySem.W.Frag} {σ : L2.St} {H : Hp} {te : TE}
theorem evd_tupRg {n : Int} (h : EvD te σ H (.int n)) (hz : 0 ≤ n ∧ n ≤ 100000) : EvD (tTupRgF (tRg1 te)) σ H (iD (rgI 0 n.toNat)) := fun H0 e Q q =>
  h H0 e _ fun v H2 e2 r => ⟨n, r, RgOk.of_le (by omega) (by omega) (by omega) (by omega), fun p o hp ho => by
    rw [rgV_rgI]
    exact q _ _ (e2.trans (Ex.new hp)) ⟨p, _, o, rfl, upd_same, ho, rpa_ints _⟩⟩
end
def rMin2 : List V → Hp → VK → Prop := fun xs H Q => ∃ i j, xs = [.int i, .int j] ∧ Q (.int (if j < i then j else i)) H
theorem cr_max2 {X : Cx} (hc : X.calm = true) : CallR X (.builtin "max") rMax2 := call_max2 hc
theorem cr_min2 {X : Cx} (hc : X.calm = true) : CallR X (.builtin "min") rMin2 := call_min2 hc
theorem cd_max2 {H : Hp} {i j : Int} : CD rMax2 [.int i, .int j] H (.int (if j > i then j else i)) := fun H1 vs e r Q q => by
  obtain ⟨v, w, rfl, rfl, u, w', rfl, rfl, rfl⟩ := r
  exact ⟨i, j, rfl, q _ H1 (Ex.refl H1) rfl⟩
theorem cd_min2 {H : Hp} {i j : Int} : CD rMin2 [.int i, .int j] H (.int (if j < i then j else i)) := fun H1 vs e r Q q => by
  obtain ⟨v, w, rfl, rfl, u, w', rfl, rfl, rfl⟩ := r
  exact ⟨i, j, rfl, q _ H1 (Ex.refl H1) rfl⟩
/-! ### lists of bools -/
def bL (bs : List Bool) : PyData := .list (bs.map .bool)
theorem eqvA_bools : ∀ bs cs : List Bool, PyData.eqvAll (bs.map .bool) (cs.map .bool) = decide (bs = cs)
  | [], [] => by simp [PyData.eqvAll]
  | [], _ :: _ => by simp [PyData.eqvAll]
  | _ :: _, [] => by simp [PyData.eqvAll]
  | b :: bs, c :: cs => by
    rw [List.map_cons, List.map_cons, PyData.eqvAll, eqvA_bools bs cs]
    cases b <;> cases c <;> simp [PyData.eqv]
theorem eqv_bL (bs cs : List Bool) : PyData.eqv (bL bs) (bL cs) = decide (bs = cs) := by
  unfold bL
  rw [PyData.eqv, eqvA_bools]
theorem shaped_bL (bs : List Bool) : SeqAt.shaped (bL bs) = true := by
  have h1 : (bL bs).canLay0 = true := by
    unfold bL
    rw [PyData.canLay0]
    exact canLayA fun d hd => by
      obtain ⟨b, _, rfl⟩ := List.mem_map.mp hd
      rw [PyData.canLay0]
  have h2 : (bL bs).depth ≤ 64 := by
    unfold bL
    rw [PyData.depth]
    have := depthA (ds := bs.map PyData.bool) (n := 0) fun d hd => by
      obtain ⟨b, _, rfl⟩ := List.mem_map.mp hd
      rw [PyData.depth]
      exact Nat.le_refl _
    omega
  show ((bL bs).canLay0 && decide ((bL bs).depth ≤ 64)) = true
  rw [h1, decide_eq_true h2]
  rfl
theorem rd_neBL {K : PySem.W.Frag} {H : Hp} {bs cs : List Bool} : RD (rNeD K) (bL bs) (bL cs) H (.bool (!decide (bs = cs))) := rd_val fun H1 v u ex r1 r2 =>
  ⟨.bl (!decide (bs = cs)), rfl, fun Q q => ⟨bL bs, bL cs, r1.dp, r2.dp, shaped_bL bs, shaped_bL cs, by rw [eqv_bL]; exact q⟩⟩
theorem imm_bools (bs : List Bool) : immA (bs.map PyData.bool) = true := immA_iff.mpr fun d h => by
  obtain ⟨b, _, rfl⟩ := List.mem_map.mp h
  rfl
/-! ### a caught error -/
def rIsX (K : PySem.W.Frag) (a : Addr) (cls : Value) (d : Option Addr) : List V → Hp → VK → Prop := fun xs H Q => ∃ D, cls = .ref D ∧ d = none ∧ ExcC K D ∧ rIsE K D a xs H Q
theorem call_isX {X : Cx} {K : PySem.W.Frag} {a : Addr} {cls : Value} {d : Option Addr} {oe : Obj} {pn : List (Addr × Obj)} (hz : Zc cls d oe) (hf : ∃ vs, oe.data = .fields vs) (hK : X.K = K := by rfl) : CallR (X.suite a ((a, oe) :: pn)) (.builtin "isinstance") (rIsX K a cls d) := by
  subst hK
  intro pins s σ H xs us Q I r h
  obtain ⟨D, rfl, rfl, C, h⟩ := h
  exact call_isE C hz hf pins s σ H xs us Q I r h
theorem evd_isX {K : PySem.W.Frag} {σ : L2.St} {H : Hp} {i : Nat} {a D : Addr} {c : V} {cv : Value} {b : Bool} (hi : σ[i]? = some (some (.ref a))) (C : ExcC K D) (hc : ∀ u, RelV c u → u = cv) (hk : PySem.W.kitOne K (.ref D) cv = some b) :
    EvD (tCB (rIsX K a (.ref D) none) (tCons (tVar i) (tCons (tC c) tNil))) σ H (.bool b) := fun H1 e Q q => ⟨.ref a, hi, D, rfl, rfl, C, c, cv, b, rfl, hc, hk, q _ H1 (Ex.refl H1) rfl⟩
theorem kit_ref {K : PySem.W.Frag} {D C : Addr} {b : Bool} (hs : PySem.W.subIn K (.ref D) (.ref D) = some true) (h : PySem.W.subIn K (.ref D) (.ref C) = some b) (hd : PySem.W.hasDictIn K C = true) (ht : PySem.W.typeIn K (.ref C) = some (.type "type")) : PySem.W.kitOne K (.ref D) (.ref C) = some b := by
  by_cases e : D = C
  · subst e
    rw [hs] at h
    rw [← h]
    unfold PySem.W.kitOne
    rw [if_pos (beq_self_eq_true _)]
  · have ne : ¬ (((Value.ref D) == (Value.ref C)) = true) := fun z => e (Value.ref.inj (beq_iff_eq.mp z))
    obtain ⟨cd, hc, _⟩ := PySem.W.any_some hd
    have e2 : ((PySem.W.clsIn K C).isSome && PySem.W.typeIn K (.ref C) == some (.type "type")) = true := by rw [hc, ht] <;> rfl
    unfold PySem.W.kitOne
    rw [if_neg ne]
    show (if ((PySem.W.clsIn K C).isSome && PySem.W.typeIn K (.ref C) == some (.type "type")) = true then PySem.W.subIn K (.ref D) (.ref C) else none) = some b
    rw [if_pos e2]
    exact h
theorem kit_ve {K : PySem.W.Frag} {D : Addr} {b : Bool} (h : PySem.W.subIn K (.ref D) (.type "ValueError") = some b) : PySem.W.kitOne K (.ref D) (.type "ValueError") = some b := by
  have ne : ¬ (((Value.ref D) == (Value.type "ValueError")) = true) := fun z => by
    have := beq_iff_eq.mp z
    cases this
  unfold PySem.W.kitOne
  rw [if_neg ne]
  show (if PySem.W.kitMeta "ValueError" = true then PySem.W.subIn K (.ref D) (.type "ValueError") else none) = some b
  rw [if_pos (by decide +kernel)]
  exact h
/-- what an error class of ours answers -/
structure Er (K : PySem.W.Frag) (D C1 C2 C3 C4 C5 B : Addr) (b1 b2 b3 b4 b5 : Bool) : Prop where
  e : ExcC K D
  t : PySem.W.exmOne K (.ref D) (.ref B) = some true
  k1 : PySem.W.kitOne K (.ref D) (.ref C1) = some b1
  k2 : PySem.W.kitOne K (.ref D) (.ref C2) = some b2
  k3 : PySem.W.kitOne K (.ref D) (.ref C3) = some b3
  k4 : PySem.W.kitOne K (.ref D) (.ref C4) = some b4
  k5 : PySem.W.kitOne K (.ref D) (.ref C5) = some b5
  v : PySem.W.kitOne K (.ref D) (.type "ValueError") = some true
structure Ers (K : PySem.W.Frag) (mg : Str → Option Value) (C1 C2 C3 C4 C5 B : Addr) : Prop where
  g_BadCount : mg "BadCount" = some (.ref C1)
  g_BadVoter : mg "BadVoter" = some (.ref C2)
  g_BadWeb : mg "BadWeb" = some (.ref C3)
  g_TooMany : mg "TooMany" = some (.ref C4)
  g_BadNote : mg "BadNote" = some (.ref C5)
  g_BeatError : mg "BeatError" = some (.ref B)
  r1 : Er K C1 C1 C2 C3 C4 C5 B true false false false false
  r2 : Er K C2 C1 C2 C3 C4 C5 B false true false false false
  r3 : Er K C3 C1 C2 C3 C4 C5 B false false true false false
  r4 : Er K C4 C1 C2 C3 C4 C5 B false false false true false
/-- a call's end that is dropped -/
def Out.mute : Out → Out
  | .exc C => .exc C
  | _ => .val .none
theorem gives_mute {o : Out} {H H1 : Hp} {Q : VK} {E : XK} (q : Gives H Q E o.mute) (e : Ex H H1) : Gives H1 (fun _ H2 => Q .non H2) E o := by
  cases o with
  | val d => exact fun v H2 e2 _ => q .non H2 (e.trans e2) rfl
  | new ds => exact fun p ws H2 _ e2 _ _ => q .non H2 (e.trans e2) rfl
  | exc C => exact fun H2 e2 => q H2 (e.trans e2)
  | pair s ds => exact fun p ws a o H2 _ e2 _ _ _ _ => q .non H2 (e.trans e2) rfl
  | duo i ds => exact fun p ws a o H2 _ e2 _ _ _ _ => q .non H2 (e.trans e2) rfl
  | some P => exact fun ds _ p ws H2 _ e2 _ _ => q .non H2 (e.trans e2) rfl
end Bm

/-! A list of rows of bools, made by a comprehension. -/
namespace Bm
open PySem PySem.Spec PyProof.Rows L2 Evl
/-- rows of bools, laid apart from the list at Dl -/
def RowsB (Dl : Addr) (H : Hp) (vs : List V) (rows : List (List Bool)) : Prop := vs.length = rows.length ∧ ∀ (j : Nat) (bs : List Bool), rows[j]? = some bs → ∃ p : Addr, vs[j]? = some (V.ref p) ∧ p ≠ Dl ∧ H p = some (.lst (bs.map V.bl))
theorem RowsB.rp {Dl : Addr} {H : Hp} : ∀ {vs : List V} {rows : List (List Bool)}, RowsB Dl H vs rows → RpA H (rows.map bL) vs
  | [], [], _ => RpA.nil
  | [], _ :: _, h => by have := h.1; simp at this
  | _ :: _, [], h => by have := h.1; simp at this
  | v :: vs, r :: rows, h => by
    obtain ⟨p, e, _, hp⟩ := h.2 0 r rfl
    have ih := RowsB.rp (Dl := Dl) (H := H) (vs := vs) (rows := rows) ⟨by simpa using h.1, fun j bs hj => h.2 (j + 1) bs hj⟩
    obtain rfl : v = .ref p := Option.some.inj e
    exact ⟨_, _, rfl, ⟨p, _, rfl, hp, rpa_bls r⟩, ih⟩
theorem RowsB.keep {Dl : Addr} {H H' : Hp} {vs : List V} {rows : List (List Bool)} (h : RowsB Dl H vs rows) (e : ∀ b xs, b ≠ Dl → H b = some (.lst xs) → H' b = some (.lst xs)) : RowsB Dl H' vs rows :=
  ⟨h.1, fun j bs hj => by
    obtain ⟨p, e1, e2, e3⟩ := h.2 j bs hj
    exact ⟨p, e1, e2, e _ _ e2 e3⟩⟩
theorem RowsB.snoc {Dl p : Addr} {H : Hp} {vs : List V} {rows : List (List Bool)} {bs : List Bool} (h : RowsB Dl H vs rows) (n : p ≠ Dl) (hp : H p = some (.lst (bs.map V.bl))) : RowsB Dl H (vs ++ [.ref p]) (rows ++ [bs]) :=
  ⟨by rw [List.length_append, List.length_append, h.1]; rfl, fun j cs hj => by
    by_cases l : j < rows.length
    · rw [List.getElem?_append_left l] at hj
      obtain ⟨p', e1, e2, e3⟩ := h.2 j cs hj
      exact ⟨p', by rw [List.getElem?_append_left (by rw [h.1]; exact l)]; exact e1, e2, e3⟩
    · rw [List.getElem?_append_right (by omega)] at hj
      have z : j - rows.length = 0 := by
        have := (List.getElem?_eq_some_iff.mp hj).1
        simp at this
        exact this
      rw [z] at hj
      obtain rfl : bs = cs := Option.some.inj hj
      exact ⟨p, by rw [List.getElem?_append_right (by rw [h.1]; omega), h.1, z]; rfl, n, hp⟩⟩
/-- [a new list of bools for x in range(n)] -/
theorem evn_lcRB {σ : L2.St} {H : Hp} {te : TE} {g : TG} {vs : List Nat} {ta : TA} {n : Int} (y : Int → List Bool) (h : EvS ta σ H [.int n]) (hz : 0 ≤ n ∧ n ≤ 50000)
    (turn : ∀ x H1, 0 ≤ x → x < n → Ex H H1 → ∃ σ2, (∀ Q : L2.St → Hp → Prop, Q σ2 H1 → g (.int x) (wipe σ vs) H1 Q) ∧ wipe σ2 vs = wipe σ vs ∧ EvN te σ2 H1 ((y x).map .bool)) :
    EvN (tLc (iRng1 ta) g tYes te vs) σ H (((rgI 0 n.toNat).map y).map bL) := fun H0 e0 Q q => h H0 e0 _ fun ws H1 e1 r => by
  obtain rfl : ws = [.int n] := RpA.ints (ns := [n]) r
  refine ⟨n, rfl, by omega, by omega, fun Dl hD => lc_range (lo := 0) (n := n.toNat) (fun i H' => Ex H1 H' ∧ ∃ acc, H' Dl = some (.lst acc) ∧ RowsB Dl H' acc ((rgI 0 i).map y)) ⟨Ex.new hD, [], upd_same, rfl, fun j bs hj => by simp [rgI] at hj⟩ (fun i H' hi ⟨ex, acc, h1, h2⟩ => ?_) fun H' ⟨ex, acc, h1, h2⟩ => ?_⟩
  · obtain ⟨σ2, g1, g2, g3⟩ := turn (0 + (i : Int)) H' (by omega) (by omega) ((e0.trans e1).trans ex)
    refine g1 _ ⟨g2, et_yes H' (Ex.refl H') _ fun H3 e3 => ?_⟩
    rw [if_pos rfl]
    refine g3 H3 e3 _ fun p ws H4 hp e34 k1 k2 => ?_
    have e4 := e3.trans e34
    have np : p ≠ Dl := fun z => by rw [z, e3 _ _ h1] at hp; cases hp
    refine ⟨acc, e4 _ _ h1, sz_lt (by rw [h2.1, List.length_map, rgI_len]; omega), ?_, acc ++ [.ref p], upd_same, ?_⟩
    · exact Ex.mut (ex.trans e4) hD
    · rw [rgI_snoc, List.map_append]
      have kw := k2.bls
      subst kw
      refine (h2.keep fun b xs nb hb => ?_).snoc np ?_
      · rw [upd_ne nb]
        exact e4 _ _ hb
      · rw [upd_ne np]
        exact k1
  · exact q Dl acc H' (fresh_back e1 hD) (e1.trans ex) h1 h2.rp
end Bm

namespace Bm
open PySem PySem.Spec PyProof.Rows L2 Evl
def topS (i : Nat) : Stmt := PySem.Challenge.pw_beatmakers_k08_refusals.main.body.getD i (.Pass ⟨0, 0, 0, 0⟩)
abbrev s_look_at_count : Stmt := topS 9
theorem c_look_at_count : FnScope ["many"] ["many"] (defScope s_look_at_count) := ⟨rfl, rfl, rfl, by decide +kernel, rfl, by decide +kernel, by decide +kernel⟩
abbrev s_look_at_voters : Stmt := topS 10
theorem c_look_at_voters : FnScope ["many", "voters", "voter"] ["many", "voters"] (defScope s_look_at_voters) := ⟨rfl, rfl, rfl, by decide +kernel, rfl, by decide +kernel, by decide +kernel⟩
abbrev s_lead_of : Stmt := topS 11
theorem c_lead_of : FnScope ["voters", "one", "other", "found", "voter"] ["voters", "one", "other"] (defScope s_lead_of) := ⟨rfl, rfl, rfl, by decide +kernel, rfl, by decide +kernel, by decide +kernel⟩
abbrev s_lead : Stmt := topS 12
theorem c_lead : FnScope ["many", "voters", "one", "other"] ["many", "voters", "one", "other"] (defScope s_lead) := ⟨rfl, rfl, rfl, by decide +kernel, rfl, by decide +kernel, by decide +kernel⟩
abbrev s_beats_of : Stmt := topS 13
theorem c_beats_of : FnScope ["many", "voters", "found", "one", "other"] ["many", "voters"] (defScope s_beats_of) := ⟨rfl, rfl, rfl, by decide +kernel, rfl, by decide +kernel, by decide +kernel⟩
abbrev s_web_of : Stmt := topS 14
theorem c_web_of : FnScope ["many", "voters"] ["many", "voters"] (defScope s_web_of) := ⟨rfl, rfl, rfl, by decide +kernel, rfl, by decide +kernel, by decide +kernel⟩
abbrev s_look_at_web : Stmt := topS 16
theorem c_look_at_web : FnScope ["many", "web", "met", "one", "other"] ["many", "web"] (defScope s_look_at_web) := ⟨rfl, rfl, rfl, by decide +kernel, rfl, by decide +kernel, by decide +kernel⟩
abbrev s_beat_way : Stmt := topS 17
theorem c_beat_way : FnScope ["web", "first", "last", "found", "row", "here", "one", "other"] ["web", "first", "last"] (defScope s_beat_way) := ⟨rfl, rfl, rfl, by decide +kernel, rfl, by decide +kernel, by decide +kernel⟩
abbrev s_shortest_ring : Stmt := topS 18
theorem c_shortest_ring : FnScope ["web", "best", "one", "other", "row"] ["web"] (defScope s_shortest_ring) := ⟨rfl, rfl, rfl, by decide +kernel, rfl, by decide +kernel, by decide +kernel⟩
abbrev s_ring : Stmt := topS 19
theorem c_ring : FnScope ["many", "web"] ["many", "web"] (defScope s_ring) := ⟨rfl, rfl, rfl, by decide +kernel, rfl, by decide +kernel, by decide +kernel⟩
abbrev s_first_order : Stmt := topS 20
theorem c_first_order : FnScope ["many", "web", "found", "free", "thing", "ahead", "one", "other"] ["many", "web"] (defScope s_first_order) := ⟨rfl, rfl, rfl, by decide +kernel, rfl, by decide +kernel, by decide +kernel⟩
abbrev s_ordered : Stmt := topS 21
theorem c_ordered : FnScope ["many", "web"] ["many", "web"] (defScope s_ordered) := ⟨rfl, rfl, rfl, by decide +kernel, rfl, by decide +kernel, by decide +kernel⟩
abbrev s_keeps : Stmt := topS 22
theorem c_keeps : FnScope ["many", "web", "order", "one", "other"] ["many", "web", "order"] (defScope s_keeps) := ⟨rfl, rfl, rfl, by decide +kernel, rfl, by decide +kernel, by decide +kernel⟩
abbrev s_two_for : Stmt := topS 25
theorem c_two_for : FnScope ["many", "one", "other", "rest", "thing"] ["many", "one", "other"] (defScope s_two_for) := ⟨rfl, rfl, rfl, by decide +kernel, rfl, by decide +kernel, by decide +kernel⟩
abbrev s_makers : Stmt := topS 26
theorem c_makers : FnScope ["many", "web", "found", "one", "other"] ["many", "web"] (defScope s_makers) := ⟨rfl, rfl, rfl, by decide +kernel, rfl, by decide +kernel, by decide +kernel⟩
abbrev s_make : Stmt := topS 27
theorem c_make : FnScope ["many", "voters", "web"] ["many", "voters", "web"] (defScope s_make) := ⟨rfl, rfl, rfl, by decide +kernel, rfl, by decide +kernel, by decide +kernel⟩
abbrev s_makes : Stmt := topS 28
theorem c_makes : FnScope ["many", "voters", "web"] ["many", "voters", "web"] (defScope s_makes) := ⟨rfl, rfl, rfl, by decide +kernel, rfl, by decide +kernel, by decide +kernel⟩
abbrev s_orders_of : Stmt := topS 29
theorem c_orders_of : FnScope ["many", "rows", "k", "longer", "row", "thing"] ["many"] (defScope s_orders_of) := ⟨rfl, rfl, rfl, by decide +kernel, rfl, by decide +kernel, by decide +kernel⟩
abbrev s_signs_of : Stmt := topS 30
theorem c_signs_of : FnScope ["many", "voter", "found", "one", "other"] ["many", "voter"] (defScope s_signs_of) := ⟨rfl, rfl, rfl, by decide +kernel, rfl, by decide +kernel, by decide +kernel⟩
abbrev s_wished_signs : Stmt := topS 31
theorem c_wished_signs : FnScope ["many", "web", "found", "one", "other"] ["many", "web"] (defScope s_wished_signs) := ⟨rfl, rfl, rfl, by decide +kernel, rfl, by decide +kernel, by decide +kernel⟩
abbrev s_sign_of : Stmt := topS 32
theorem c_sign_of : FnScope ["number"] ["number"] (defScope s_sign_of) := ⟨rfl, rfl, rfl, by decide +kernel, rfl, by decide +kernel, by decide +kernel⟩
abbrev s_added : Stmt := topS 33
theorem c_added : FnScope ["one", "other", "k"] ["one", "other"] (defScope s_added) := ⟨rfl, rfl, rfl, by decide +kernel, rfl, by decide +kernel, by decide +kernel⟩
abbrev s_fewest : Stmt := topS 34
theorem c_fewest : FnScope ["many", "web", "wished", "single", "rows", "leads", "longer", "voter", "signs", "number"] ["many", "web"] (defScope s_fewest) := ⟨rfl, rfl, rfl, by decide +kernel, rfl, by decide +kernel, by decide +kernel⟩
abbrev s_shown : Stmt := topS 36
theorem c_shown : FnScope ["many", "voters", "words", "voter", "thing"] ["many", "voters"] (defScope s_shown) := ⟨rfl, rfl, rfl, by decide +kernel, rfl, by decide +kernel, by decide +kernel⟩
abbrev s_out_of_reach : Stmt := topS 38
theorem c_out_of_reach : FnScope ["now", "wished"] ["now", "wished"] (defScope s_out_of_reach) := ⟨rfl, rfl, rfl, by decide +kernel, rfl, by decide +kernel, by decide +kernel⟩
abbrev s_bound_by : Stmt := topS 39
theorem c_bound_by : FnScope ["now", "wished", "one", "other"] ["now", "wished", "one", "other"] (defScope s_bound_by) := ⟨rfl, rfl, rfl, by decide +kernel, rfl, by decide +kernel, by decide +kernel⟩
abbrev s_one_more : Stmt := topS 40
theorem c_one_more : FnScope ["many", "voters", "web", "bound", "one", "other", "now", "wished", "found"] ["many", "voters", "web"] (defScope s_one_more) := ⟨rfl, rfl, rfl, by decide +kernel, rfl, by decide +kernel, by decide +kernel⟩
abbrev s__law_cell_at : Stmt := topS 42
theorem c__law_cell_at : FnScope ["script", "k"] ["script", "k"] (defScope s__law_cell_at) := ⟨rfl, rfl, rfl, by decide +kernel, rfl, by decide +kernel, by decide +kernel⟩
abbrev s__law_order : Stmt := topS 43
theorem c__law_order : FnScope ["cell", "many", "left", "order", "k"] ["cell", "many"] (defScope s__law_order) := ⟨rfl, rfl, rfl, by decide +kernel, rfl, by decide +kernel, by decide +kernel⟩
abbrev s__law_voters : Stmt := topS 44
theorem c__law_voters : FnScope ["script", "start", "many", "most", "count", "voters", "more", "k"] ["script", "start", "many", "most"] (defScope s__law_voters) := ⟨rfl, rfl, rfl, by decide +kernel, rfl, by decide +kernel, by decide +kernel⟩
abbrev s__law_web : Stmt := topS 45
theorem c__law_web : FnScope ["script", "start", "many", "cell", "way", "web", "stand", "one", "other", "wish", "turn"] ["script", "start", "many"] (defScope s__law_web) := ⟨rfl, rfl, rfl, by decide +kernel, rfl, by decide +kernel, by decide +kernel⟩
abbrev s__law_asked : Stmt := topS 46
theorem c__law_asked : FnScope ["way", "many", "voters", "web"] ["way", "many", "voters", "web"] (defScope s__law_asked) := ⟨rfl, rfl, rfl, by decide +kernel, rfl, by decide +kernel, by decide +kernel⟩
abbrev s__law_flags : Stmt := topS 47
theorem c__law_flags : FnScope ["way", "many", "voters", "web", "flags", "e"] ["way", "many", "voters", "web"] (defScope s__law_flags) := ⟨rfl, rfl, rfl, by decide +kernel, rfl, by decide +kernel, by decide +kernel⟩
abbrev s__law_ill_voter : Stmt := topS 48
theorem c__law_ill_voter : FnScope ["voter", "many", "cell", "at", "far"] ["voter", "many", "cell"] (defScope s__law_ill_voter) := ⟨rfl, rfl, rfl, by decide +kernel, rfl, by decide +kernel, by decide +kernel⟩
abbrev s__law_ill_web : Stmt := topS 49
theorem c__law_ill_web : FnScope ["web", "many", "cell", "far", "at", "near", "beat", "old"] ["web", "many", "cell", "far"] (defScope s__law_ill_web) := ⟨rfl, rfl, rfl, by decide +kernel, rfl, by decide +kernel, by decide +kernel⟩
abbrev s_law : Stmt := topS 50
theorem c_law : FnScope ["script", "many", "voters", "web", "far", "wrong", "voter", "at", "spoiled", "gone", "bad_web", "bad", "way", "due", "good", "kind", "k"] ["script"] (defScope s_law) := ⟨rfl, rfl, rfl, by decide +kernel, rfl, by decide +kernel, by decide +kernel⟩
local macro_rules | `(tactic| wtm_at "rp") => `(tactic| first | exact rp_int | exact rp_bl | exact rp_str | exact rp_non | assumption | (refine' Rp.ex ?e ?h; (case h => assumption); (case e => assumption)) | exact Own.rp (by assumption))
local macro_rules | `(tactic| wtm_at "side") => `(tactic| first | assumption | omega | decide | rfl | exact ⟨by omega, by omega⟩)
local macro_rules | `(tactic| wtm_at "es") => `(tactic| first | exact evs_nil | (refine' evs_cons ?a ?b; (case a => wtm_at "ev"); (case b => wtm_at "es")))
local macro_rules | `(tactic| wtm_at "ev") => `(tactic| first
  | exact evd_int | exact evd_str | exact evd_bl | exact evd_non
  | (refine' evd_var rfl ?h; (case h => wtm_at "rp"))
  | ((with_reducible refine' evd_op ?a ?b rd_addI); (case a => wtm_at "ev"); (case b => wtm_at "ev"))
  | ((with_reducible refine' evd_op ?a ?b rd_subI); (case a => wtm_at "ev"); (case b => wtm_at "ev"))
  | ((with_reducible refine' evd_op ?a ?b (rd_mulI ?c)); (case a => wtm_at "ev"); (case b => wtm_at "ev"); (case c => wtm_at "side"))
  | ((with_reducible refine' evd_op ?a ?b (rd_divI ?c)); (case a => wtm_at "ev"); (case b => wtm_at "ev"); (case c => wtm_at "side"))
  | ((with_reducible refine' evd_op ?a ?b (rd_modI ?c)); (case a => wtm_at "ev"); (case b => wtm_at "ev"); (case c => wtm_at "side"))
  | ((with_reducible refine' evd_op ?a ?b rd_ltI); (case a => wtm_at "ev"); (case b => wtm_at "ev"))
  | ((with_reducible refine' evd_op ?a ?b rd_leI); (case a => wtm_at "ev"); (case b => wtm_at "ev"))
  | ((with_reducible refine' evd_op ?a ?b rd_gtI); (case a => wtm_at "ev"); (case b => wtm_at "ev"))
  | ((with_reducible refine' evd_op ?a ?b rd_geI); (case a => wtm_at "ev"); (case b => wtm_at "ev"))
  | ((with_reducible refine' evd_op ?a ?b rd_eqI); (case a => wtm_at "ev"); (case b => wtm_at "ev"))
  | ((with_reducible refine' evd_op ?a ?b rd_neI); (case a => wtm_at "ev"); (case b => wtm_at "ev"))
  | ((with_reducible refine' evd_op ?a ?b rd_eqB); (case a => wtm_at "ev"); (case b => wtm_at "ev"))
  | ((with_reducible refine' evd_op ?a ?b rd_neB); (case a => wtm_at "ev"); (case b => wtm_at "ev"))
  | ((with_reducible refine' evd_op ?a ?b rd_isNo); (case a => wtm_at "ev"); (case b => wtm_at "ev"))
  | ((with_reducible refine' evd_op ?a ?b rd_notNo); (case a => wtm_at "ev"); (case b => wtm_at "ev"))
  | ((with_reducible refine' evd_op ?a ?b rd_inIL); (case a => wtm_at "ev"); (case b => wtm_at "ev"))
  | ((with_reducible refine' evd_op ?a ?b rd_niIL); (case a => wtm_at "ev"); (case b => wtm_at "ev"))
  | ((with_reducible refine' evd_op ?a ?b rd_inID); (case a => wtm_at "ev"); (case b => wtm_at "ev"))
  | ((with_reducible refine' evd_op ?a ?b rd_niID); (case a => wtm_at "ev"); (case b => wtm_at "ev"))
  | ((with_reducible refine' evd_neg ?a); (case a => wtm_at "ev"))
  | ((with_reducible refine' evd_tix ?a ?b ?c); (case a => wtm_at "ev"); (case b => wtm_at "ev"); (case c => wtm_at "side"))
  | ((with_reducible refine' evd_tup ?a ?b); (case a => wtm_at "es"); (case b => exact Nat.le_of_ble_eq_true rfl))
  | ((with_reducible refine' evd_cb ?a cd_lenL); (case a => wtm_at "es"))
  | ((with_reducible refine' evd_cb ?a cd_lenT); (case a => wtm_at "es"))
  | ((with_reducible refine' evd_cb ?a cd_intB); (case a => wtm_at "es"))
  | ((with_reducible refine' evd_cb ?a cd_tupL); (case a => wtm_at "es"))
  | ((with_reducible refine' evd_and ?a ?b); (case a => wtm_at "ev"); (case b => intro _; wtm_at "ev"))
  | ((with_reducible refine' evd_or ?a ?b); (case a => wtm_at "ev"); (case b => intro _; wtm_at "ev"))
  | ((with_reducible refine' evd_not ?a); (case a => wtm_at "ev"))
  | ((with_reducible refine' evd_op ?a ?b rd_neIL); (case a => wtm_at "ev"); (case b => wtm_at "ev"))
  | ((with_reducible refine' evd_op ?a ?b rd_eqIL); (case a => wtm_at "ev"); (case b => wtm_at "ev"))
  | ((with_reducible refine' EvN.toD ?a); (case a => wtm_at "en")))
local macro_rules | `(tactic| wtm_at "en") => `(tactic| first
  | ((with_reducible refine' evn_cb ?a cn_sortTI); (case a => wtm_at "es"))
  | ((with_reducible refine' evn_cb ?a cn_listL); (case a => wtm_at "es"))
  | ((with_reducible refine' evn_cb ?a cn_listT); (case a => wtm_at "es"))
  | ((with_reducible refine' evn_rng ?a ?b); (case a => wtm_at "ev"); (case b => wtm_at "side"))
  | ((with_reducible refine' evn_lst ?a ?b); (case a => wtm_at "es"); (case b => exact Nat.le_of_ble_eq_true rfl))
  | ((with_reducible refine' evn_cat ?a ?b ?c); (case a => wtm_at "ev"); (case b => wtm_at "ev"); (case c => wtm_at "side"))
  | ((with_reducible refine' evn_slL ?a ?b ?c); (case a => wtm_at "ev"); (case b => first | exact evp_none | (refine' evp_some ?d; (case d => wtm_at "ev"))); (case c => first | exact evp_none | (refine' evp_some ?d; (case d => wtm_at "ev")))))
local macro_rules | `(tactic| wtm_at "et") => `(tactic| first
  | exact et_yes
  | (refine' ett ?a; (case a => wtm_at "ev"))
  | (refine' etB ?a; (case a => wtm_at "ev"))
  | (refine' et_and ?a ?b; (case a => wtm_at "et"); (case b => intro _; wtm_at "et"))
  | (refine' et_or ?a ?b; (case a => wtm_at "et"); (case b => intro _; wtm_at "et"))
  | (refine' et_not ?a; (case a => wtm_at "et")))
local macro_rules | `(tactic| wtm_at "nx") => `(tactic| try dsimp only [tSeq, tNext])
/-! ### leads, beats, plain -/
/-- what one order gives: 1 where a is ahead of b -/
def sgn1 (v : List Int) (a b : Int) : Int := if ixOf a v < ixOf b v then 1 else -1
def leadF (vs : List (List Int)) (a b : Int) : Int := (vs.map fun v => sgn1 v a b).sum
theorem leadF_snoc (vs : List (List Int)) (v : List Int) (a b : Int) : leadF (vs ++ [v]) a b = leadF vs a b + sgn1 v a b := by
  unfold leadF
  rw [List.map_append, List.sum_append]
  simp
theorem leadF_app (vs ws : List (List Int)) (a b : Int) : leadF (vs ++ ws) a b = leadF vs a b + leadF ws a b := by
  unfold leadF
  rw [List.map_append, List.sum_append]
theorem leadF_take {vs : List (List Int)} {v : List Int} {i : Nat} (h : vs[i]? = some v) (a b : Int) : leadF (vs.take (i + 1)) a b = leadF (vs.take i) a b + sgn1 v a b := by
  rw [List.take_add_one, h]
  exact leadF_snoc _ _ _ _
theorem leadF_abs (a b : Int) : ∀ vs : List (List Int), -(vs.length : Int) ≤ leadF vs a b ∧ leadF vs a b ≤ (vs.length : Int)
  | [] => by simp [leadF]
  | v :: vs => by
    have ih := leadF_abs a b vs
    have e : leadF (v :: vs) a b = sgn1 v a b + leadF vs a b := by unfold leadF; rw [List.map_cons, List.sum_cons]
    rw [e, List.length_cons]
    unfold sgn1
    split <;> omega
/-- an order of m things -/
def isOrd (m : Int) (v : List Int) : Prop := srt v = rgI 0 m.toNat
instance (m : Int) (v : List Int) : Decidable (isOrd m v) := inferInstanceAs (Decidable (_ = _))
theorem isOrd_iff {m : Int} {v : List Int} : isOrd m v ↔ v.Perm (rgI 0 m.toNat) := srt_iff
theorem isOrd.mem {m : Int} {v : List Int} (h : isOrd m v) {x : Int} : x ∈ v ↔ 0 ≤ x ∧ x < m := by
  rw [(isOrd_iff.mp h).mem_iff, mem_rgI]
  omega
theorem isOrd.len {m : Int} {v : List Int} (h : isOrd m v) : v.length = m.toNat := by rw [(isOrd_iff.mp h).length_eq, rgI_len]
theorem rgI_nodup (lo : Int) (n : Nat) : (rgI lo n).Nodup := by
  unfold rgI
  exact List.pairwise_map.mpr (List.pairwise_lt_range.imp fun {i j} l z => by omega)
theorem isOrd.nodup {m : Int} {v : List Int} (h : isOrd m v) : v.Nodup := (isOrd_iff.mp h).nodup_iff.mpr (rgI_nodup 0 m.toNat)
def isVot (m : Int) (vs : List (List Int)) : Prop := ∀ v ∈ vs, isOrd m v
instance (m : Int) (vs : List (List Int)) : Decidable (isVot m vs) := inferInstanceAs (Decidable (∀ v ∈ vs, isOrd m v))
/-- the beats of one thing, the beats of all -/
def beatsOne (m : Int) (vs : List (List Int)) (a : Int) : List (Int × Int) := ((rgI 0 m.toNat).filter fun b => !decide (a = b) && decide (0 < leadF vs a b)).map fun b => (a, b)
def beatsF (m : Int) (vs : List (List Int)) : List (Int × Int) := ((rgI 0 m.toNat).map (beatsOne m vs)).flatten
/-! ### look_at_count -/
def okCount (m : Int) : Prop := 1 ≤ m ∧ m ≤ 6
instance (m : Int) : Decidable (okCount m) := inferInstanceAs (Decidable (_ ∧ _))
def sp_look_at_count (C : Addr) : Sp := spO (α := Int) (fun m => [.int m]) (fun _ => True) fun m => if okCount m then .val .none else .exc C
theorem len_look_at_count {C_BadCount : Addr} (vs : List V) (H : Hp) (Q : VK) (E : XK) (h : (sp_look_at_count C_BadCount) vs H Q E) : vs.length = 1 := by
  unfold sp_look_at_count at h
  obtain ⟨a, r, _⟩ := h
  rw [r.len]
  rfl
section
variable {P : Program} {w : World} {K : PySem.W.Frag} {mg : Str → Option Value} {base : Heap}
theorem ok_look_at_count {f : Addr} {fd : FuncData} (D : Df K mg "look_at_count" s_look_at_count ["many"] f fd) (Bi : Bi mg) {C_BadCount : Addr} (X_BadCount : Xc K mg "BadCount" C_BadCount) {t_MOST_THINGS : Tok} (K_MOST_THINGS : mg "MOST_THINGS" = some (.int 6 t_MOST_THINGS)) : FnOk P w K mg base (L2.CX P w) 1 f fd ["many"] (sp_look_at_count C_BadCount) := by
  refine D.F.okX c_look_at_count (fun vs H Q E h => len_look_at_count _ _ _ _ h) (fun cdv A outer s H vs Q E hr h => ?_)
  refine ⟨_, (pss_one (ps_if (PW.pt (pw_or (pt_cmpR op_ltI (pv 0) pe_int (nomark _)) (pw_or1 (pt_cmpR op_gtI (pv 0) (pe_glob (v := .int 6) (by rfl) K_MOST_THINGS ⟨_, rfl⟩) (nomark _)))))
      (pss_one (ps_raise rfl (takes_of rfl rfl rfl rfl) (pmk_own PySem.F.excBase_ValueError X_BadCount.x X_BadCount.g X_BadCount.k (raises_own X_BadCount.b X_BadCount.t) (by exact rfl))))
      pss_nil)), ?_⟩
  obtain ⟨m, ⟨v, _, rfl, rfl, rfl⟩, -, q⟩ := h
  dsimp only at q
  refine' s_if (b := _) ?t ?yes ?no
  case t => wtm_at "et"
  case yes =>
    intro hb H1 e1
    have hm : ¬ okCount m := by unfold okCount; simp at hb; omega
    rw [if_neg hm] at q
    exact q H1 e1
  case no =>
    intro hb H1 e1
    have hm : okCount m := by unfold okCount; simp at hb; omega
    rw [if_pos hm] at q
    exact q .non H1 e1 rfl
end
/-! ### look_at_voters -/
def chkV (C1 C2 : Addr) (m : Int) (vss : List (List Int)) (o : Out) : Out := if okCount m then (if isVot m vss then o else .exc C2) else .exc C1
theorem chkV_go {C1 C2 : Addr} {m : Int} {vss : List (List Int)} {o : Out} {H H1 : Hp} {Q : VK} {E : XK} {N : Hp → Prop} (q : Gives H Q E (chkV C1 C2 m vss o)) (e : Ex H H1)
    (k : okCount m → isVot m vss → Gives H Q E o → ∀ H2, Ex H1 H2 → N H2) : Gives H1 (fun _ H2 => N H2) E (chkV C1 C2 m vss (.val .none)) := by
  unfold chkV at q ⊢
  by_cases h1 : okCount m
  · rw [if_pos h1] at q ⊢
    by_cases h2 : isVot m vss
    · rw [if_pos h2] at q ⊢
      exact fun v H2 e2 _ => k h1 h2 q H2 e2
    · rw [if_neg h2] at q ⊢
      exact fun H2 e2 => q H2 (e.trans e2)
  · rw [if_neg h1] at q ⊢
    exact fun H2 e2 => q H2 (e.trans e2)
theorem chkV_ok {C1 C2 : Addr} {m : Int} {vss : List (List Int)} {o : Out} (h1 : okCount m) (h2 : isVot m vss) : chkV C1 C2 m vss o = o := by
  unfold chkV
  rw [if_pos h1, if_pos h2]
def sp_look_at_voters (C1 C2 : Addr) : Sp := spO (α := Int × List (List Int)) (fun a => [.int a.1, vD a.2]) (fun _ => True) fun a => chkV C1 C2 a.1 a.2 (.val .none)
theorem len_look_at_voters {C_BadCount : Addr} {C_BadVoter : Addr} (vs : List V) (H : Hp) (Q : VK) (E : XK) (h : (sp_look_at_voters C_BadCount C_BadVoter) vs H Q E) : vs.length = 2 := by
  unfold sp_look_at_voters at h
  obtain ⟨a, r, _⟩ := h
  rw [r.len]
  rfl
section
variable {P : Program} {w : World} {K : PySem.W.Frag} {mg : Str → Option Value} {base : Heap}
theorem ok_look_at_voters {f : Addr} {fd : FuncData} (D : Df K mg "look_at_voters" s_look_at_voters ["many", "voters"] f fd) (Bi : Bi mg) {C_BadVoter : Addr} (X_BadVoter : Xc K mg "BadVoter" C_BadVoter) {f_look_at_count : Addr} {fd_look_at_count : FuncData} (D_look_at_count : Df K mg "look_at_count" s_look_at_count ["many"] f_look_at_count fd_look_at_count) (G_look_at_count : FnOk P w K mg base (L2.CX P w) 1 f_look_at_count fd_look_at_count ["many"] (sp_look_at_count C_BadCount)) : FnOk P w K mg base (L2.CX P w) 2 f fd ["many", "voters"] (sp_look_at_voters C_BadCount C_BadVoter) := by
  refine D.F.okX c_look_at_voters (fun vs H Q E h => len_look_at_voters _ _ _ _ h) (fun cdv A outer s H vs Q E hr h => ?_)
  refine ⟨_, (pss_cons (ps_expr (pe_callS G_look_at_count (hr.mono (by decide)) (by rfl) D_look_at_count.g D_look_at_count.F.kp D_look_at_count.b (fun σ => passAt (takes_of rfl rfl rfl rfl) σ) (pa_cons (pv 0) pa_nil)))
      (pss_one (ps_for (passes_of rfl) rfl (pi_listK (K := K) (pv 1)) (pg_name (i := 2) c_look_at_voters.nd rfl (.inl rfl))
      (pss_one (ps_if (pt_cmpR (op_neDK (K := K) hr.units) (pe_callB (cr_sortedTIK (K := K)) (by rfl) Bi.sorted (by decide +kernel) (pa_cons (pv 2) pa_nil)) (pe_listRg rfl (by rfl) Bi.list (prg_1 (by rfl) Bi.range (pv 0))) (nomark _))
      (pss_one (ps_raise rfl (takes_of rfl rfl rfl rfl) (pmk_own PySem.F.excBase_ValueError X_BadVoter.x X_BadVoter.g X_BadVoter.k (raises_own X_BadVoter.b X_BadVoter.t) (by exact rfl))))
      pss_nil))))), ?_⟩
  obtain ⟨⟨m, vss⟩, ⟨v1, _, rfl, rfl, v2, _, rfl, hv, rfl⟩, -, q⟩ := h
  unfold chkV at q
  dsimp only at q hv
  refine s_callX m ?a trivial fun H1 e1 => ?_
  case a => wtm_at "es"
  by_cases hm : okCount m
  · rw [if_pos hm] at q
    rw [if_pos hm]
    intro _ H2 e2 _
    have e12 := e1.trans e2
    have hv2 := hv.ex e12
    have hmb : 1 ≤ m ∧ m ≤ 6 := hm
    refine s_forD (f := iD) (xs := vss) (evd_var rfl hv2) fun H3 e3 => ⟨fun i σ' H' => (∃ y, σ' = [some (.int m), some v2, y]) ∧ Ex H3 H' ∧ isVot m (vss.take i), ?_, ?_, ?_, ?_⟩
    · exact ⟨⟨none, rfl⟩, Ex.refl _, fun v h => by simp at h⟩
    · rintro i σ' H' ⟨_, e, _⟩
      exact e
    · rintro i x v σ' H' hx hr ⟨⟨y, rfl⟩, e, ho⟩
      refine g_name ?_
      refine' s_if (b := _) ?t ?yes ?no
      case t => wtm_at "et"
      case yes =>
        intro hb H5 e5
        have hn : ¬ isVot m vss := fun z => by
          have z2 := z x (List.mem_of_getElem? hx)
          unfold isOrd at z2
          simp [z2] at hb
        rw [if_neg hn] at q
        exact q H5 (((e12.trans e3).trans e).trans e5)
      case no =>
        intro hb H5 e5
        refine ⟨⟨_, rfl⟩, e.trans e5, fun u hu => ?_⟩
        rw [List.take_add_one, hx] at hu
        rcases List.mem_append.mp hu with hu | hu
        · exact ho u hu
        · simp at hu
          subst hu
          unfold isOrd
          simpa using hb
    · rintro σ' H' ⟨_, e, ho⟩
      rw [List.take_length] at ho
      rw [if_pos ho] at q
      exact q .non H' ((e12.trans e3).trans e) rfl
  · rw [if_neg hm] at q
    rw [if_neg hm]
    intro H2 e2
    exact q H2 (e1.trans e2)
end
/-! ### lead_of -/
def sp_lead_of : Sp := spO (α := List (List Int) × Int × Int) (fun a => [vD a.1, .int a.2.1, .int a.2.2]) (fun a => ∀ v ∈ a.1, a.2.1 ∈ v ∧ a.2.2 ∈ v) fun a => .val (.int (leadF a.1 a.2.1 a.2.2))
theorem len_lead_of (vs : List V) (H : Hp) (Q : VK) (E : XK) (h : sp_lead_of vs H Q E) : vs.length = 3 := by
  unfold sp_lead_of at h
  obtain ⟨a, r, _⟩ := h
  rw [r.len]
  rfl
section
variable {P : Program} {w : World} {K : PySem.W.Frag} {mg : Str → Option Value} {base : Heap}
theorem ok_lead_of {f : Addr} {fd : FuncData} (D : Df K mg "lead_of" s_lead_of ["voters", "one", "other"] f fd) (Bi : Bi mg) : FnOk P w K mg base CX0 1 f fd ["voters", "one", "other"] sp_lead_of := by
  refine D.F.ok c_lead_of (fun vs H Q E h => len_lead_of _ _ _ _ h) (fun cdv A outer s H vs Q E hr h => ?_)
  refine ⟨_, (pss_cons (ps_set (i := 3) c_lead_of.nd rfl (.inl rfl) pe_int)
      (pss_cons (ps_for (PassesOwn.never) rfl (pi_listK (K := K) (pv 0)) (pg_name (i := 4) c_lead_of.nd rfl (.inl rfl))
      (pss_one (ps_if (pt_cmpR op_ltI (pe_tm PySem.F.plainAttrs_tuple PySem.F.slot_tuple_index PySem.F.type_tuple_index (mt_tupIxK (K := K)) (pv 4) (pa_cons (pv 1) pa_nil)) (pe_tm PySem.F.plainAttrs_tuple PySem.F.slot_tuple_index PySem.F.type_tuple_index (mt_tupIxK (K := K)) (pv 4) (pa_cons (pv 2) pa_nil)) (nomark _))
      (pss_one (ps_set (i := 3) c_lead_of.nd rfl (.inl rfl) (pe_op op_addI (pv 3) pe_int)))
      (pss_one (ps_set (i := 3) c_lead_of.nd rfl (.inl rfl) (pe_op op_subI (pv 3) pe_int))))))
      (pss_one (ps_ret (pv 3))))), ?_⟩
  obtain ⟨⟨vss, a, b⟩, ⟨v1, _, rfl, hv, v2, _, rfl, rfl, v3, _, rfl, rfl, rfl⟩, hp, q⟩ := h
  dsimp only at q hv hp
  refine s_asgI evd_int fun H1 e1 => ?_
  refine s_forD (f := iD) (xs := vss) (evd_var rfl (hv.ex e1)) fun H3 e3 => ⟨fun i σ' H' => (∃ y, σ' = [some v1, some (.int a), some (.int b), some (.int (leadF (vss.take i) a b)), y]) ∧ Ex H3 H', ?_, ?_, ?_, ?_⟩
  · exact ⟨⟨none, rfl⟩, Ex.refl _⟩
  · rintro i σ' H' ⟨_, e⟩
    exact e
  · rintro i x v σ' H' hx hr ⟨⟨y, rfl⟩, e⟩
    obtain ⟨pa, pb⟩ := hp x (List.mem_of_getElem? hx)
    refine g_name ?_
    refine' s_if (b := _) ?t ?yes ?no
    case t => wtm_at "et"
    case yes =>
      intro hb H5 e5
      refine' s_asgI (n := leadF (vss.take i) a b + 1) ?x fun H6 e6 => ?_
      case x => wtm_at "ev"
      refine ⟨⟨some v, ?_⟩, (e.trans e5).trans e6⟩
      rw [leadF_take hx, show sgn1 x a b = 1 from if_pos (by simpa using hb)]
      rfl
    case no =>
      intro hb H5 e5
      refine' s_asgI (n := leadF (vss.take i) a b - 1) ?x fun H6 e6 => ?_
      case x => wtm_at "ev"
      refine ⟨⟨some v, ?_⟩, (e.trans e5).trans e6⟩
      rw [leadF_take hx, show sgn1 x a b = -1 from if_neg (by simpa using hb)]
      rfl
  · rintro σ' H' ⟨⟨y, rfl⟩, e⟩
    rw [List.take_length]
    exact s_retD (evd_var rfl rp_int) fun v H5 e5 r => q v H5 (((e1.trans e3).trans e).trans e5) r
end
theorem ev_lead_of {σ : L2.St} {H : Hp} {t1 t2 t3 : TE} {E : XK} {vss : List (List Int)} {a b : Int} (h1 : EvD t1 σ H (vD vss)) (h2 : EvD t2 σ H (.int a)) (h3 : EvD t3 σ H (.int b)) (p : ∀ v ∈ vss, a ∈ v ∧ b ∈ v) :
    EvD (tCall sp_lead_of [] E (tCons t1 (tCons t2 (tCons t3 tNil)))) σ H (.int (leadF vss a b)) := evd_callO (vss, a, b) (evs_cons h1 (evs_cons h2 (evs_cons h3 evs_nil))) p rfl
/-! ### beats_of -/
theorem filter_le {α : Type} (p : α → Bool) (xs : List α) : (xs.filter p).length ≤ xs.length := List.length_filter_le _ _
theorem beatsOne_len (m : Int) (vs : List (List Int)) (a : Int) : (beatsOne m vs a).length ≤ m.toNat := by
  unfold beatsOne
  rw [List.length_map]
  exact Nat.le_trans (filter_le _ _) (by rw [rgI_len]; exact Nat.le_refl _)
theorem flat_len {α : Type} {k : Nat} : ∀ {xss : List (List α)}, (∀ xs ∈ xss, xs.length ≤ k) → xss.flatten.length ≤ xss.length * k
  | [], _ => by simp
  | xs :: xss, h => by
    rw [List.flatten_cons, List.length_append, List.length_cons, Nat.succ_mul]
    have := h xs List.mem_cons_self
    have := flat_len (xss := xss) fun y m => h y (List.mem_cons_of_mem _ m)
    omega
/-- the beats of the things below i -/
def beatsTo (m : Int) (vs : List (List Int)) (i : Nat) : List (Int × Int) := ((rgI 0 i).map (beatsOne m vs)).flatten
theorem beatsTo_succ (m : Int) (vs : List (List Int)) (i : Nat) : beatsTo m vs (i + 1) = beatsTo m vs i ++ beatsOne m vs (i : Int) := by
  unfold beatsTo
  rw [rgI_snoc, List.map_append, List.flatten_append]
  simp
theorem beatsTo_len {m : Int} (h : 0 ≤ m ∧ m ≤ 6) (vs : List (List Int)) {i : Nat} (hi : i ≤ 6) : (beatsTo m vs i).length ≤ 36 := by
  unfold beatsTo
  refine Nat.le_trans (flat_len (k := 6) fun xs hx => ?_) ?_
  · obtain ⟨a, _, rfl⟩ := List.mem_map.mp hx
    exact Nat.le_trans (beatsOne_len m vs a) (by omega)
  · rw [List.length_map, rgI_len]
    omega
def sp_beats_of : Sp := spO (α := Int × List (List Int)) (fun a => [.int a.1, vD a.2]) (fun a => 0 ≤ a.1 ∧ a.1 ≤ 6 ∧ isVot a.1 a.2) fun a => .new ((beatsF a.1 a.2).map pD)
theorem len_beats_of (vs : List V) (H : Hp) (Q : VK) (E : XK) (h : sp_beats_of vs H Q E) : vs.length = 2 := by
  unfold sp_beats_of at h
  obtain ⟨a, r, _⟩ := h
  rw [r.len]
  rfl
section
variable {P : Program} {w : World} {K : PySem.W.Frag} {mg : Str → Option Value} {base : Heap}
theorem ok_beats_of {f : Addr} {fd : FuncData} (D : Df K mg "beats_of" s_beats_of ["many", "voters"] f fd) (Bi : Bi mg) {f_lead_of : Addr} {fd_lead_of : FuncData} (D_lead_of : Df K mg "lead_of" s_lead_of ["voters", "one", "other"] f_lead_of fd_lead_of) (G_lead_of : FnOk P w K mg base CX0 1 f_lead_of fd_lead_of ["voters", "one", "other"] sp_lead_of) : FnOk P w K mg base CX0 2 f fd ["many", "voters"] sp_beats_of := by
  refine D.F.ok c_beats_of (fun vs H Q E h => len_beats_of _ _ _ _ h) (fun cdv A outer s H vs Q E hr h => ?_)
  refine ⟨_, (pss_cons (ps_set (i := 2) c_beats_of.nd rfl (.inl rfl) (pe_lst pa_nil))
      (pss_cons (ps_for (PassesOwn.never) rfl (pi_range1 (by rfl) Bi.range (pa_cons (pv 0) pa_nil)) (pg_name (i := 3) c_beats_of.nd rfl (.inr rfl))
      (pss_one (ps_expr (pe_bm PySem.F.plainAttrs_list PySem.F.slot_list_extend PySem.F.type_list_extend mt_extend (pv 2) (pa_cons (pe_lc (own := [("other", 4)]) (g := (gName 4)) rfl c_beats_of.nd (pi_range1 (by rfl) Bi.range (pa_cons (pv 0) pa_nil)) (blkOk_by (own := [("other", 4)]) (N := ["many", "voters", "found", "one", "other"]) (sc := defScope s_beats_of) (by decide +kernel)) (fun _ _ _ _ _ => (pg_name (i := 4) c_beats_of.nd rfl (.inl rfl))) (fun _ _ _ _ _ => pts_one (PW.pt (pw_and (pt_cmpR op_neI (pv 3) (pv 4) (nomark _)) (pw_and1 (pt_cmpR op_gtI (pe_call G_lead_of (hr.mono (by decide)) (by rfl) D_lead_of.g D_lead_of.F.kp D_lead_of.b .nil pass0 (pa_cons (pv 1) (pa_cons (pv 3) (pa_cons (pv 4) pa_nil)))) pe_int (nomark _)))))) (fun _ _ _ _ _ => (pe_tupF (pa_cons (pv 3) (pa_cons (pv 4) pa_nil))))) pa_nil)))))
      (pss_one (ps_ret (pv 2))))), ?_⟩
  obtain ⟨⟨m, vss⟩, ⟨v1, _, rfl, rfl, v2, _, rfl, hv, rfl⟩, ⟨m0, m6, hp⟩, q⟩ := h
  dsimp only at q hv hp m0 m6
  refine' s_asgO (evn_lst evs_nil (by decide)) rfl fun p H1 e1 o1 => ?_
  wtm_at "nx"
  refine' s_forR (n := m) ?n (by omega) fun H3 e3 => ⟨fun i σ' H' => (∃ y, σ' = [some (.int m), some v2, some (.ref p), y, none]) ∧ i ≤ m.toNat ∧ Own H H' p ((beatsTo m vss i).map pD), ?_, ?_, ?_⟩
  case n => wtm_at "es"
  · exact ⟨⟨none, rfl⟩, Nat.zero_le _, o1.step e3⟩
  · rintro i σ' H' hi ⟨⟨y, rfl⟩, hi2, o⟩
    have l1 := beatsTo_len ⟨m0, m6⟩ vss (i := i) (by omega)
    have hv2 : Rp H' (vD vss) v2 := hv.ex o.ex
    refine g_name ?_
    refine' s_extO o rfl (es := (beatsOne m vss i).map pD) ?x ?im ?sz ?k
    case x =>
      rw [show (beatsOne m vss i).map pD = ((rgI 0 m.toNat).filter fun b => !decide ((i : Int) = b) && decide (0 < leadF vss i b)).map fun b => pD ((i : Int), b) by unfold beatsOne; rw [List.map_map]; rfl]
      refine' evn_lcR (n := m) (fun b => !decide ((i : Int) = b) && decide (0 < leadF vss i b)) (fun b => pD (i, b)) ?es (by omega) ?turn ?imm
      case es => wtm_at "es"
      case imm => intros; rfl
      case turn =>
        intro x H5 x0 x1 e5
        refine ⟨[some (.int m), some v2, some (.ref p), some (.int i), some (.int x)], fun Q hq => hq, rfl, ?_, fun _ => ?_⟩
        · have hv5 : Rp H5 (vD vss) v2 := hv2.ex e5
          refine' et_and ?a fun hab => ?b
          case a => wtm_at "et"
          case b =>
            refine' ett (evd_op (ev_lead_of ?p1 ?p2 ?p3 ?p4) evd_int rd_gtI)
            case p1 => wtm_at "ev"
            case p2 => wtm_at "ev"
            case p3 => wtm_at "ev"
            case p4 =>
              intro v hm
              exact ⟨(hp v hm).mem.mpr (by omega), (hp v hm).mem.mpr ⟨x0, x1⟩⟩
        · wtm_at "ev"
    case im => exact imm_wD _
    case sz =>
      rw [List.length_map, List.length_map]
      have := beatsOne_len m vss i
      omega
    case k =>
      intro H5 x5 o5
      rw [← List.map_append, ← beatsTo_succ] at o5
      exact ⟨⟨_, rfl⟩, by omega, o5⟩
  · rintro σ' H' ⟨⟨y, rfl⟩, _, o⟩
    obtain ⟨ws, k1, k2⟩ := o.has
    exact ⟨_, rfl, q p ws H' (fresh_back (Ex.refl H) o.new) o.ex k1 k2⟩
end
def sp_lead (C1 C2 : Addr) : Sp := spO (α := Int × List (List Int) × Int × Int) (fun a => [.int a.1, vD a.2.1, .int a.2.2.1, .int a.2.2.2])
  (fun a => okCount a.1 → isVot a.1 a.2.1 → (0 ≤ a.2.2.1 ∧ a.2.2.1 < a.1) ∧ 0 ≤ a.2.2.2 ∧ a.2.2.2 < a.1) fun a => chkV C1 C2 a.1 a.2.1 (.val (.int (leadF a.2.1 a.2.2.1 a.2.2.2)))
theorem len_lead {C_BadCount : Addr} {C_BadVoter : Addr} (vs : List V) (H : Hp) (Q : VK) (E : XK) (h : (sp_lead C_BadCount C_BadVoter) vs H Q E) : vs.length = 4 := by
  unfold sp_lead at h
  obtain ⟨a, r, _⟩ := h
  rw [r.len]
  rfl
section
variable {P : Program} {w : World} {K : PySem.W.Frag} {mg : Str → Option Value} {base : Heap}
theorem ok_lead {f : Addr} {fd : FuncData} (D : Df K mg "lead" s_lead ["many", "voters", "one", "other"] f fd) (Bi : Bi mg) {f_look_at_voters : Addr} {fd_look_at_voters : FuncData} (D_look_at_voters : Df K mg "look_at_voters" s_look_at_voters ["many", "voters"] f_look_at_voters fd_look_at_voters) (G_look_at_voters : FnOk P w K mg base (L2.CX P w) 2 f_look_at_voters fd_look_at_voters ["many", "voters"] (sp_look_at_voters C_BadCount C_BadVoter)) {f_lead_of : Addr} {fd_lead_of : FuncData} (D_lead_of : Df K mg "lead_of" s_lead_of ["voters", "one", "other"] f_lead_of fd_lead_of) (G_lead_of : FnOk P w K mg base CX0 1 f_lead_of fd_lead_of ["voters", "one", "other"] sp_lead_of) : FnOk P w K mg base (L2.CX P w) 3 f fd ["many", "voters", "one", "other"] (sp_lead C_BadCount C_BadVoter) := by
  refine D.F.okX c_lead (fun vs H Q E h => len_lead _ _ _ _ h) (fun cdv A outer s H vs Q E hr h => ?_)
  refine ⟨_, (pss_cons (ps_expr (pe_callS G_look_at_voters (hr.mono (by decide)) (by rfl) D_look_at_voters.g D_look_at_voters.F.kp D_look_at_voters.b (fun σ => passAt (takes_of rfl rfl rfl rfl) σ) (pa_cons (pv 0) (pa_cons (pv 1) pa_nil))))
      (pss_one (ps_ret (pe_call G_lead_of (hr.mono (by decide)) (by rfl) D_lead_of.g D_lead_of.F.kp D_lead_of.b .nil pass0 (pa_cons (pv 1) (pa_cons (pv 2) (pa_cons (pv 3) pa_nil))))))), ?_⟩
  obtain ⟨⟨m, vss, a, b⟩, ⟨v1, _, rfl, rfl, v2, _, rfl, hv, v3, _, rfl, rfl, v4, _, rfl, rfl, rfl⟩, hp, q⟩ := h
  dsimp only at q hv hp
  refine s_callX (m, vss) ?a trivial fun H1 e1 => chkV_go q e1 fun h1 h2 q H2 e2 => ?_
  case a => wtm_at "es"
  have hv2 := hv.ex (e1.trans e2)
  refine s_retD (ev_lead_of (a := a) (b := b) (evd_var rfl hv2) (evd_var rfl rp_int) (evd_var rfl rp_int) fun v hm => ?_) fun v H3 e3 r => q v H3 ((e1.trans e2).trans e3) r
  exact ⟨(h2 v hm).mem.mpr (hp h1 h2).1, (h2 v hm).mem.mpr (hp h1 h2).2⟩
end
theorem ev_lead {C1 C2 : Addr} {σ : L2.St} {H : Hp} {t0 t1 t2 t3 : TE} {E : XK} {m : Int} {vss : List (List Int)} {a b : Int} (h0 : EvD t0 σ H (.int m)) (h1 : EvD t1 σ H (vD vss)) (h2 : EvD t2 σ H (.int a)) (h3 : EvD t3 σ H (.int b)) (c : okCount m) (p : isVot m vss) (r : (0 ≤ a ∧ a < m) ∧ 0 ≤ b ∧ b < m) :
    EvD (tCall (sp_lead C1 C2) [] E (tCons t0 (tCons t1 (tCons t2 (tCons t3 tNil))))) σ H (.int (leadF vss a b)) := evd_callO (m, vss, a, b) (evs_cons h0 (evs_cons h1 (evs_cons h2 (evs_cons h3 evs_nil)))) (fun _ _ => r) (chkV_ok c p)
theorem ev_beats_of {σ : L2.St} {H : Hp} {t0 t1 : TE} {E : XK} {m : Int} {vss : List (List Int)} (h0 : EvD t0 σ H (.int m)) (h1 : EvD t1 σ H (vD vss)) (c : 0 ≤ m ∧ m ≤ 6) (p : isVot m vss) :
    EvN (tCall sp_beats_of [] E (tCons t0 (tCons t1 tNil))) σ H ((beatsF m vss).map pD) := evn_callO (m, vss) (evs_cons h0 (evs_cons h1 evs_nil)) ⟨c.1, c.2, p⟩ rfl
def sp_web_of (C1 C2 : Addr) : Sp := spO (α := Int × List (List Int)) (fun a => [.int a.1, vD a.2]) (fun _ => True) fun a => chkV C1 C2 a.1 a.2 (.new ((beatsF a.1 a.2).map pD))
theorem len_web_of {C_BadCount : Addr} {C_BadVoter : Addr} (vs : List V) (H : Hp) (Q : VK) (E : XK) (h : (sp_web_of C_BadCount C_BadVoter) vs H Q E) : vs.length = 2 := by
  unfold sp_web_of at h
  obtain ⟨a, r, _⟩ := h
  rw [r.len]
  rfl
section
variable {P : Program} {w : World} {K : PySem.W.Frag} {mg : Str → Option Value} {base : Heap}
theorem ok_web_of {f : Addr} {fd : FuncData} (D : Df K mg "web_of" s_web_of ["many", "voters"] f fd) (Bi : Bi mg) {f_look_at_voters : Addr} {fd_look_at_voters : FuncData} (D_look_at_voters : Df K mg "look_at_voters" s_look_at_voters ["many", "voters"] f_look_at_voters fd_look_at_voters) (G_look_at_voters : FnOk P w K mg base (L2.CX P w) 2 f_look_at_voters fd_look_at_voters ["many", "voters"] (sp_look_at_voters C_BadCount C_BadVoter)) {f_beats_of : Addr} {fd_beats_of : FuncData} (D_beats_of : Df K mg "beats_of" s_beats_of ["many", "voters"] f_beats_of fd_beats_of) (G_beats_of : FnOk P w K mg base CX0 2 f_beats_of fd_beats_of ["many", "voters"] sp_beats_of) : FnOk P w K mg base (L2.CX P w) 3 f fd ["many", "voters"] (sp_web_of C_BadCount C_BadVoter) := by
  refine D.F.okX c_web_of (fun vs H Q E h => len_web_of _ _ _ _ h) (fun cdv A outer s H vs Q E hr h => ?_)
  refine ⟨_, (pss_cons (ps_expr (pe_callS G_look_at_voters (hr.mono (by decide)) (by rfl) D_look_at_voters.g D_look_at_voters.F.kp D_look_at_voters.b (fun σ => passAt (takes_of rfl rfl rfl rfl) σ) (pa_cons (pv 0) (pa_cons (pv 1) pa_nil))))
      (pss_one (ps_ret (pe_call G_beats_of (hr.mono (by decide)) (by rfl) D_beats_of.g D_beats_of.F.kp D_beats_of.b .nil pass0 (pa_cons (pv 0) (pa_cons (pv 1) pa_nil)))))), ?_⟩
  obtain ⟨⟨m, vss⟩, ⟨v1, _, rfl, rfl, v2, _, rfl, hv, rfl⟩, -, q⟩ := h
  dsimp only at q hv
  refine s_callX (m, vss) ?a trivial fun H1 e1 => chkV_go q e1 fun h1 h2 q H2 e2 => ?_
  case a => wtm_at "es"
  have hv2 := hv.ex (e1.trans e2)
  have e12 := e1.trans e2
  have hm : 1 ≤ m ∧ m ≤ 6 := h1
  exact s_retNw (ev_beats_of (m := m) (vss := vss) (evd_var rfl rp_int) (evd_var rfl hv2) (by omega) h2) fun p ws H3 hn e3 k1 k2 => q p ws H3 (fresh_back e12 hn) (e12.trans e3) k1 k2
end
theorem ev_web_of {C1 C2 : Addr} {σ : L2.St} {H : Hp} {t0 t1 : TE} {E : XK} {m : Int} {vss : List (List Int)} (h0 : EvD t0 σ H (.int m)) (h1 : EvD t1 σ H (vD vss)) (c : okCount m) (p : isVot m vss) :
    EvN (tCall (sp_web_of C1 C2) [] E (tCons t0 (tCons t1 tNil))) σ H ((beatsF m vss).map pD) := evn_callO (m, vss) (evs_cons h0 (evs_cons h1 evs_nil)) trivial (chkV_ok c p)
end Bm

namespace Bm
open PySem PySem.Spec PyProof.Rows L2 Evl
local macro_rules | `(tactic| wtm_at "rp") => `(tactic| first | exact rp_int | exact rp_bl | exact rp_str | exact rp_non | assumption | (refine' Rp.ex ?e ?h; (case h => assumption); (case e => assumption)) | exact Own.rp (by assumption))
local macro_rules | `(tactic| wtm_at "side") => `(tactic| first | assumption | omega | decide | rfl | exact ⟨by omega, by omega⟩)
local macro_rules | `(tactic| wtm_at "es") => `(tactic| first | exact evs_nil | (refine' evs_cons ?a ?b; (case a => wtm_at "ev"); (case b => wtm_at "es")))
local macro_rules | `(tactic| wtm_at "ev") => `(tactic| first
  | exact evd_int | exact evd_str | exact evd_bl | exact evd_non
  | (refine' evd_var rfl ?h; (case h => wtm_at "rp"))
  | ((with_reducible refine' evd_op ?a ?b rd_addI); (case a => wtm_at "ev"); (case b => wtm_at "ev"))
  | ((with_reducible refine' evd_op ?a ?b rd_subI); (case a => wtm_at "ev"); (case b => wtm_at "ev"))
  | ((with_reducible refine' evd_op ?a ?b (rd_mulI ?c)); (case a => wtm_at "ev"); (case b => wtm_at "ev"); (case c => wtm_at "side"))
  | ((with_reducible refine' evd_op ?a ?b (rd_divI ?c)); (case a => wtm_at "ev"); (case b => wtm_at "ev"); (case c => wtm_at "side"))
  | ((with_reducible refine' evd_op ?a ?b (rd_modI ?c)); (case a => wtm_at "ev"); (case b => wtm_at "ev"); (case c => wtm_at "side"))
  | ((with_reducible refine' evd_op ?a ?b rd_ltI); (case a => wtm_at "ev"); (case b => wtm_at "ev"))
  | ((with_reducible refine' evd_op ?a ?b rd_leI); (case a => wtm_at "ev"); (case b => wtm_at "ev"))
  | ((with_reducible refine' evd_op ?a ?b rd_gtI); (case a => wtm_at "ev"); (case b => wtm_at "ev"))
  | ((with_reducible refine' evd_op ?a ?b rd_geI); (case a => wtm_at "ev"); (case b => wtm_at "ev"))
  | ((with_reducible refine' evd_op ?a ?b rd_eqI); (case a => wtm_at "ev"); (case b => wtm_at "ev"))
  | ((with_reducible refine' evd_op ?a ?b rd_neI); (case a => wtm_at "ev"); (case b => wtm_at "ev"))
  | ((with_reducible refine' evd_op ?a ?b rd_eqB); (case a => wtm_at "ev"); (case b => wtm_at "ev"))
  | ((with_reducible refine' evd_op ?a ?b rd_neB); (case a => wtm_at "ev"); (case b => wtm_at "ev"))
  | ((with_reducible refine' evd_op ?a ?b rd_isNo); (case a => wtm_at "ev"); (case b => wtm_at "ev"))
  | ((with_reducible refine' evd_op ?a ?b rd_notNo); (case a => wtm_at "ev"); (case b => wtm_at "ev"))
  | ((with_reducible refine' evd_op ?a ?b rd_inIL); (case a => wtm_at "ev"); (case b => wtm_at "ev"))
  | ((with_reducible refine' evd_op ?a ?b rd_niIL); (case a => wtm_at "ev"); (case b => wtm_at "ev"))
  | ((with_reducible refine' evd_op ?a ?b rd_inID); (case a => wtm_at "ev"); (case b => wtm_at "ev"))
  | ((with_reducible refine' evd_op ?a ?b rd_niID); (case a => wtm_at "ev"); (case b => wtm_at "ev"))
  | ((with_reducible refine' evd_neg ?a); (case a => wtm_at "ev"))
  | ((with_reducible refine' evd_tix ?a ?b ?c); (case a => wtm_at "ev"); (case b => wtm_at "ev"); (case c => wtm_at "side"))
  | ((with_reducible refine' evd_tup ?a ?b); (case a => wtm_at "es"); (case b => exact Nat.le_of_ble_eq_true rfl))
  | ((with_reducible refine' evd_cb ?a cd_lenL); (case a => wtm_at "es"))
  | ((with_reducible refine' evd_cb ?a cd_lenT); (case a => wtm_at "es"))
  | ((with_reducible refine' evd_cb ?a cd_intB); (case a => wtm_at "es"))
  | ((with_reducible refine' evd_cb ?a cd_tupL); (case a => wtm_at "es"))
  | ((with_reducible refine' evd_and ?a ?b); (case a => wtm_at "ev"); (case b => intro _; wtm_at "ev"))
  | ((with_reducible refine' evd_or ?a ?b); (case a => wtm_at "ev"); (case b => intro _; wtm_at "ev"))
  | ((with_reducible refine' evd_not ?a); (case a => wtm_at "ev"))
  | ((with_reducible refine' evd_op ?a ?b rd_neIL); (case a => wtm_at "ev"); (case b => wtm_at "ev"))
  | ((with_reducible refine' evd_op ?a ?b rd_eqIL); (case a => wtm_at "ev"); (case b => wtm_at "ev"))
  | ((with_reducible refine' EvN.toD ?a); (case a => wtm_at "en")))
local macro_rules | `(tactic| wtm_at "en") => `(tactic| first
  | ((with_reducible refine' evn_cb ?a cn_sortTI); (case a => wtm_at "es"))
  | ((with_reducible refine' evn_cb ?a cn_listL); (case a => wtm_at "es"))
  | ((with_reducible refine' evn_cb ?a cn_listT); (case a => wtm_at "es"))
  | ((with_reducible refine' evn_rng ?a ?b); (case a => wtm_at "ev"); (case b => wtm_at "side"))
  | ((with_reducible refine' evn_lst ?a ?b); (case a => wtm_at "es"); (case b => exact Nat.le_of_ble_eq_true rfl))
  | ((with_reducible refine' evn_cat ?a ?b ?c); (case a => wtm_at "ev"); (case b => wtm_at "ev"); (case c => wtm_at "side"))
  | ((with_reducible refine' evn_slL ?a ?b ?c); (case a => wtm_at "ev"); (case b => first | exact evp_none | (refine' evp_some ?d; (case d => wtm_at "ev"))); (case c => first | exact evp_none | (refine' evp_some ?d; (case d => wtm_at "ev")))))
local macro_rules | `(tactic| wtm_at "et") => `(tactic| first
  | exact et_yes
  | (refine' ett ?a; (case a => wtm_at "ev"))
  | (refine' etB ?a; (case a => wtm_at "ev"))
  | (refine' et_and ?a ?b; (case a => wtm_at "et"); (case b => intro _; wtm_at "et"))
  | (refine' et_or ?a ?b; (case a => wtm_at "et"); (case b => intro _; wtm_at "et"))
  | (refine' et_not ?a; (case a => wtm_at "et")))
local macro_rules | `(tactic| wtm_at "nx") => `(tactic| try dsimp only [tSeq, tNext])
/-! ### webs, plain -/
def swp (p : Int × Int) : Int × Int := (p.2, p.1)
def goodB (m : Int) (p : Int × Int) : Bool := decide (0 ≤ p.1) && decide (p.1 < m) && decide (0 ≤ p.2) && decide (p.2 < m) && !decide (p.1 = p.2)
/-- the beats behind those of met are all right -/
def webGo (m : Int) : List (Int × Int) → List (Int × Int) → Bool
  | _, [] => true
  | met, p :: ps => goodB m p && !decide (p ∈ met) && !decide (swp p ∈ met) && webGo m (met ++ [p]) ps
def isWeb (m : Int) (ps : List (Int × Int)) : Prop := webGo m [] ps = true
instance (m : Int) (ps : List (Int × Int)) : Decidable (isWeb m ps) := inferInstanceAs (Decidable (_ = _))
def chkW (C1 C3 : Addr) (m : Int) (ps : List (Int × Int)) (o : Out) : Out := if okCount m then (if isWeb m ps then o else .exc C3) else .exc C1
theorem chkW_go {C1 C3 : Addr} {m : Int} {ps : List (Int × Int)} {o : Out} {H H1 : Hp} {Q : VK} {E : XK} {N : Hp → Prop} (q : Gives H Q E (chkW C1 C3 m ps o)) (e : Ex H H1)
    (k : okCount m → isWeb m ps → Gives H Q E o → ∀ H2, Ex H1 H2 → N H2) : Gives H1 (fun _ H2 => N H2) E (chkW C1 C3 m ps (.val .none)) := by
  unfold chkW at q ⊢
  by_cases h1 : okCount m
  · rw [if_pos h1] at q ⊢
    by_cases h2 : isWeb m ps
    · rw [if_pos h2] at q ⊢
      exact fun v H2 e2 _ => k h1 h2 q H2 e2
    · rw [if_neg h2] at q ⊢
      exact fun H2 e2 => q H2 (e.trans e2)
  · rw [if_neg h1] at q ⊢
    exact fun H2 e2 => q H2 (e.trans e2)
theorem chkW_ok {C1 C3 : Addr} {m : Int} {ps : List (Int × Int)} {o : Out} (h1 : okCount m) (h2 : isWeb m ps) : chkW C1 C3 m ps o = o := by
  unfold chkW
  rw [if_pos h1, if_pos h2]
def pK (p : Int × Int) : List Key := [.inl p.1, .inl p.2]
theorem pK_inj {p q : Int × Int} : pK p = pK q ↔ p = q := by
  obtain ⟨a, b⟩ := p
  obtain ⟨c, d⟩ := q
  unfold pK
  simp
theorem webGo_stop {m : Int} : ∀ {met ps : List (Int × Int)} {i : Nat} {p : Int × Int}, ps[i]? = some p → webGo m met ps = true → goodB m p = true ∧ p ∉ met ++ ps.take i ∧ swp p ∉ met ++ ps.take i
  | _, [], _, _, h, _ => by simp at h
  | met, q :: ps, 0, p, h, w => by
    cases h
    simp only [webGo, Bool.and_eq_true, Bool.not_eq_true', decide_eq_false_iff_not] at w
    rw [List.take_zero, List.append_nil]
    exact ⟨w.1.1.1, w.1.1.2, w.1.2⟩
  | met, q :: ps, i + 1, p, h, w => by
    simp only [webGo, Bool.and_eq_true] at w
    have ih := webGo_stop (ps := ps) (i := i) (p := p) h w.2
    rw [List.take_succ_cons, List.append_cons]
    exact ih
theorem webGo_of {m : Int} : ∀ {met ps : List (Int × Int)}, (∀ (i : Nat) p, ps[i]? = some p → goodB m p = true ∧ p ∉ met ++ ps.take i ∧ swp p ∉ met ++ ps.take i) → webGo m met ps = true
  | _, [], _ => rfl
  | met, q :: ps, h => by
    obtain ⟨h1, h2, h3⟩ := h 0 q rfl
    rw [List.take_zero, List.append_nil] at h2 h3
    simp only [webGo, Bool.and_eq_true, Bool.not_eq_true', decide_eq_false_iff_not]
    refine ⟨⟨⟨h1, h2⟩, h3⟩, webGo_of fun i p e => ?_⟩
    have h4 := h (i + 1) p e
    rw [List.take_succ_cons, List.append_cons] at h4
    exact h4
theorem isWeb_iff {m : Int} {ps : List (Int × Int)} : isWeb m ps ↔ ∀ (i : Nat) p, ps[i]? = some p → goodB m p = true ∧ p ∉ ps.take i ∧ swp p ∉ ps.take i :=
  ⟨fun h i p e => webGo_stop e h, fun h => webGo_of fun i p e => h i p e⟩
theorem goodB_iff {m : Int} {p : Int × Int} : goodB m p = true ↔ 0 ≤ p.1 ∧ p.1 < m ∧ 0 ≤ p.2 ∧ p.2 < m ∧ p.1 ≠ p.2 := by
  unfold goodB
  simp only [Bool.and_eq_true, decide_eq_true_eq, Bool.not_eq_true', decide_eq_false_iff_not, and_assoc]
/-! ### look_at_web -/
def sp_look_at_web (C1 C3 : Addr) : Sp := spO (α := Int × List (Int × Int)) (fun a => [.int a.1, wD a.2]) (fun a => a.2.length ≤ 1000) fun a => chkW C1 C3 a.1 a.2 (.val .none)
theorem len_look_at_web {C_BadCount : Addr} {C_BadWeb : Addr} (vs : List V) (H : Hp) (Q : VK) (E : XK) (h : (sp_look_at_web C_BadCount C_BadWeb) vs H Q E) : vs.length = 2 := by
  unfold sp_look_at_web at h
  obtain ⟨a, r, _⟩ := h
  rw [r.len]
  rfl
theorem et_dinT {σ : L2.St} {H : Hp} {t1 t2 : TE} {a b : Int} {i : Nat} {pm : Addr} {kvs : List (List Key × V)} (h1 : EvD t1 σ H (.int a)) (h2 : EvD t2 σ H (.int b)) (hi : σ[i]? = some (some (.ref pm))) (hd : H pm = some (.dT kvs)) :
    EvT (tB (tDIn (tTup (tCons t1 (tCons t2 tNil))) (tVar i))) σ H (valV kvs (pK (a, b))).isSome := fun H1 e Q q =>
  h1 H1 e _ fun v H2 e2 r2 => h2 H2 (e.trans e2) _ fun u H3 e3 r3 => by
    obtain rfl : v = .int a := r2
    obtain rfl : u = .int b := r3
    refine ⟨by show 2 ≤ sizeLine; decide, fun p hp => ⟨.ref pm, hi, pm, _, rfl, DGet.t (k := pK (a, b)) (kvs := kvs) ?_ upd_same, _, rfl, q _ ((e2.trans e3).trans (Ex.new hp))⟩⟩
    rw [upd_ne (ne_of_none (((e.trans e2).trans e3) _ _ hd) hp)]
    exact ((e.trans e2).trans e3) _ _ hd
section
variable {P : Program} {w : World} {K : PySem.W.Frag} {mg : Str → Option Value} {base : Heap}
theorem ok_look_at_web {f : Addr} {fd : FuncData} (D : Df K mg "look_at_web" s_look_at_web ["many", "web"] f fd) (Bi : Bi mg) {C_BadWeb : Addr} (X_BadWeb : Xc K mg "BadWeb" C_BadWeb) {f_look_at_count : Addr} {fd_look_at_count : FuncData} (D_look_at_count : Df K mg "look_at_count" s_look_at_count ["many"] f_look_at_count fd_look_at_count) (G_look_at_count : FnOk P w K mg base (L2.CX P w) 1 f_look_at_count fd_look_at_count ["many"] (sp_look_at_count C_BadCount)) : FnOk P w K mg base (L2.CX P w) 2 f fd ["many", "web"] (sp_look_at_web C_BadCount C_BadWeb) := by
  refine D.F.okX c_look_at_web (fun vs H Q E h => len_look_at_web _ _ _ _ h) (fun cdv A outer s H vs Q E hr h => ?_)
  refine ⟨_, (pss_cons (ps_expr (pe_callS G_look_at_count (hr.mono (by decide)) (by rfl) D_look_at_count.g D_look_at_count.F.kp D_look_at_count.b (fun σ => passAt (takes_of rfl rfl rfl rfl) σ) (pa_cons (pv 0) pa_nil)))
      (pss_cons (ps_set (i := 2) c_look_at_web.nd rfl (.inl rfl) (pe_dnewT))
      (pss_one (ps_for (passes_of rfl) rfl (pi_listK (K := K) (pv 1)) (pg_tupK (K := K) rfl (pgs_cons (pg_name (i := 3) c_look_at_web.nd rfl (.inl rfl)) (pgs_cons (pg_name (i := 4) c_look_at_web.nd rfl (.inl rfl)) pgs_nil)))
      (pss_cons (ps_if (PW.pt (pw_or (pt_cmpR op_ltI (pv 3) pe_int (nomark _)) (pw_or (pt_cmpR op_geI (pv 3) (pv 0) (nomark _)) (pw_or (pt_cmpR op_ltI (pv 4) pe_int (nomark _)) (pw_or (pt_cmpR op_geI (pv 4) (pv 0) (nomark _)) (pw_or1 (pt_cmpR op_eqI (pv 3) (pv 4) (nomark _))))))))
      (pss_one (ps_raise rfl (takes_of rfl rfl rfl rfl) (pmk_own PySem.F.excBase_ValueError X_BadWeb.x X_BadWeb.g X_BadWeb.k (raises_own X_BadWeb.b X_BadWeb.t) (by exact rfl))))
      pss_nil)
      (pss_cons (ps_if (PW.pt (pw_or (pt_cmp (pc_din (hu_of hr) (pe_tup (pa_cons (pv 3) (pa_cons (pv 4) pa_nil))) (pv 2)) (by rfl)) (pw_or1 (pt_cmp (pc_din (hu_of hr) (pe_tup (pa_cons (pv 4) (pa_cons (pv 3) pa_nil))) (pv 2)) (by rfl)))))
      (pss_one (ps_raise rfl (takes_of rfl rfl rfl rfl) (pmk_own PySem.F.excBase_ValueError X_BadWeb.x X_BadWeb.g X_BadWeb.k (raises_own X_BadWeb.b X_BadWeb.t) (by exact rfl))))
      pss_nil)
      (pss_one (ps_dput (hu_of hr) (pv 2) (pe_tup (pa_cons (pv 3) (pa_cons (pv 4) pa_nil))) pe_bl rfl)))))))), ?_⟩
  obtain ⟨⟨m, ps⟩, ⟨v1, _, rfl, rfl, v2, _, rfl, hv, rfl⟩, hl, q⟩ := h
  unfold chkW at q
  dsimp only at q hv hl
  refine s_callX m ?a trivial fun H1 e1 => ?_
  case a => wtm_at "es"
  by_cases hm : okCount m
  · rw [if_pos hm] at q
    rw [if_pos hm]
    intro _ H2 e2 _
    wtm_at "nx"
    have e12 := e1.trans e2
    refine fun pm hpm => ?_
    have hpmH : H pm = none := fresh_back e12 hpm
    wtm_at "nx"
    refine s_forB (f := pD) (xs := ps) (Hb := H) rfl hv (e12.trans (Ex.new hpm)) (fun i σ' H' => ∃ y z kvs, σ' = [some (.int m), some v2, some (.ref pm), y, z] ∧ Ex H H' ∧ H' pm = some (.dT kvs) ∧ kvs.length ≤ i ∧ (∀ p, (valV kvs (pK p)).isSome = decide (p ∈ ps.take i)) ∧
      ∀ (j : Nat) p, j < i → ps[j]? = some p → goodB m p = true ∧ p ∉ ps.take j ∧ swp p ∉ ps.take j) ?_ ?_ ?_ ?_
    · exact ⟨none, none, [], rfl, e12.trans (Ex.new hpm), upd_same, Nat.le_refl _, fun p => by simp [valV_nil], fun j p h => absurd h (Nat.not_lt_zero _)⟩
    · rintro i σ' H' ⟨_, _, _, _, e, _⟩
      exact e
    · rintro i x v σ' H' hx hr ⟨y, z, kvs, rfl, e, hd, hk, hkv, hok⟩
      refine g_pair hr ?_
      have hi : i < ps.length := (List.getElem?_eq_some_iff.mp hx).1
      have bad : ¬ (goodB m x = true ∧ x ∉ ps.take i ∧ swp x ∉ ps.take i) → ¬ isWeb m ps := fun h z => h (isWeb_iff.mp z i x hx)
      refine' s_if (b := _) ?t ?yes ?no
      case t => wtm_at "et"
      case yes =>
        intro hb H5 e5
        have hn : ¬ isWeb m ps := bad fun h => by
          have g := goodB_iff.mp h.1
          simp only [Bool.or_eq_true, decide_eq_true_eq] at hb
          omega
        rw [if_neg hn] at q
        exact q H5 (e.trans e5)
      case no =>
        intro hb H5 e5
        wtm_at "nx"
        have hg : goodB m x = true := goodB_iff.mpr (by
          simp only [Bool.or_eq_false_iff, decide_eq_false_iff_not] at hb
          omega)
        have hd5 := e5 _ _ hd
        refine' s_if (b := (valV kvs (pK (x.1, x.2))).isSome || (valV kvs (pK (x.2, x.1))).isSome) ?t ?yes ?no
        case t =>
          refine' et_or (et_dinT ?a ?b rfl hd5) fun _ => et_dinT ?c ?d rfl hd5
          case a => wtm_at "ev"
          case b => wtm_at "ev"
          case c => wtm_at "ev"
          case d => wtm_at "ev"
        case yes =>
          intro hb2 H6 e6
          rw [hkv, hkv] at hb2
          have hn : ¬ isWeb m ps := bad fun h => by
            simp only [Bool.or_eq_true, decide_eq_true_eq] at hb2
            exact hb2.elim h.2.1 h.2.2
          rw [if_neg hn] at q
          exact q H6 ((e.trans e5).trans e6)
        case no =>
          intro hb2 H6 e6
          wtm_at "nx"
          rw [hkv, hkv] at hb2
          simp only [Bool.or_eq_false_iff, decide_eq_false_iff_not] at hb2
          have hd6 := e6 _ _ hd5
          have nmap : H pm = none := hpmH
          refine ⟨.ref pm, rfl, _, rfl, _, rfl, by show 2 ≤ sizeLine; decide, fun p hp => ⟨pm, _, rfl, DPut.t (kvs := kvs) (k := pK x) ?_ upd_same (sz_lt (by omega)), ?_⟩⟩
          · rw [upd_ne (ne_of_none hd6 hp)]
            exact hd6
          · have eH : Ex H (upd (upd H6 p (.tup [.int x.1, .int x.2])) pm (.dT (putK kvs (pK x) (.bl true)))) := Ex.mut (((e.trans e5).trans e6).trans (Ex.new hp)) nmap
            refine ⟨_, _, putK kvs (pK x) (.bl true), rfl, eH, upd_same, Nat.le_trans (length_putK _ _ _) (by omega), fun p2 => ?_, fun j p2 hj hx2 => ?_⟩
            · rw [valV_put, List.take_add_one, hx]
              by_cases h2 : p2 = x
              · subst h2
                rw [if_pos rfl]
                simp
              · rw [if_neg (fun z => h2 (pK_inj.mp z)), hkv]
                simp [h2]
            · by_cases h2 : j < i
              · exact hok j p2 h2 hx2
              · obtain rfl : j = i := by omega
                rw [hx] at hx2
                cases hx2
                exact ⟨hg, hb2.1, hb2.2⟩
    · rintro σ' H' ⟨y, z, kvs, rfl, e, hd, hk, hkv, hok⟩
      have hw : isWeb m ps := isWeb_iff.mpr fun i p h => hok i p (List.getElem?_eq_some_iff.mp h).1 h
      rw [if_pos hw] at q
      exact q .non H' e rfl
  · rw [if_neg hm] at q
    rw [if_neg hm]
    intro H2 e2
    exact q H2 (e1.trans e2)
end
end Bm

namespace Bm
open PySem PySem.Spec PyProof.Rows L2 Evl
local macro_rules | `(tactic| wtm_at "rp") => `(tactic| first | exact rp_int | exact rp_bl | exact rp_str | exact rp_non | assumption | (refine' Rp.ex ?e ?h; (case h => assumption); (case e => assumption)) | exact Own.rp (by assumption))
local macro_rules | `(tactic| wtm_at "side") => `(tactic| first | assumption | omega | decide | rfl | exact ⟨by omega, by omega⟩)
local macro_rules | `(tactic| wtm_at "es") => `(tactic| first | exact evs_nil | (refine' evs_cons ?a ?b; (case a => wtm_at "ev"); (case b => wtm_at "es")))
local macro_rules | `(tactic| wtm_at "ev") => `(tactic| first
  | exact evd_int | exact evd_str | exact evd_bl | exact evd_non
  | (refine' evd_var rfl ?h; (case h => wtm_at "rp"))
  | ((with_reducible refine' evd_op ?a ?b rd_addI); (case a => wtm_at "ev"); (case b => wtm_at "ev"))
  | ((with_reducible refine' evd_op ?a ?b rd_subI); (case a => wtm_at "ev"); (case b => wtm_at "ev"))
  | ((with_reducible refine' evd_op ?a ?b (rd_mulI ?c)); (case a => wtm_at "ev"); (case b => wtm_at "ev"); (case c => wtm_at "side"))
  | ((with_reducible refine' evd_op ?a ?b (rd_divI ?c)); (case a => wtm_at "ev"); (case b => wtm_at "ev"); (case c => wtm_at "side"))
  | ((with_reducible refine' evd_op ?a ?b (rd_modI ?c)); (case a => wtm_at "ev"); (case b => wtm_at "ev"); (case c => wtm_at "side"))
  | ((with_reducible refine' evd_op ?a ?b rd_ltI); (case a => wtm_at "ev"); (case b => wtm_at "ev"))
  | ((with_reducible refine' evd_op ?a ?b rd_leI); (case a => wtm_at "ev"); (case b => wtm_at "ev"))
  | ((with_reducible refine' evd_op ?a ?b rd_gtI); (case a => wtm_at "ev"); (case b => wtm_at "ev"))
  | ((with_reducible refine' evd_op ?a ?b rd_geI); (case a => wtm_at "ev"); (case b => wtm_at "ev"))
  | ((with_reducible refine' evd_op ?a ?b rd_eqI); (case a => wtm_at "ev"); (case b => wtm_at "ev"))
  | ((with_reducible refine' evd_op ?a ?b rd_neI); (case a => wtm_at "ev"); (case b => wtm_at "ev"))
  | ((with_reducible refine' evd_op ?a ?b rd_eqB); (case a => wtm_at "ev"); (case b => wtm_at "ev"))
  | ((with_reducible refine' evd_op ?a ?b rd_neB); (case a => wtm_at "ev"); (case b => wtm_at "ev"))
  | ((with_reducible refine' evd_op ?a ?b rd_isNo); (case a => wtm_at "ev"); (case b => wtm_at "ev"))
  | ((with_reducible refine' evd_op ?a ?b rd_notNo); (case a => wtm_at "ev"); (case b => wtm_at "ev"))
  | ((with_reducible refine' evd_op ?a ?b rd_inIL); (case a => wtm_at "ev"); (case b => wtm_at "ev"))
  | ((with_reducible refine' evd_op ?a ?b rd_niIL); (case a => wtm_at "ev"); (case b => wtm_at "ev"))
  | ((with_reducible refine' evd_op ?a ?b rd_inID); (case a => wtm_at "ev"); (case b => wtm_at "ev"))
  | ((with_reducible refine' evd_op ?a ?b rd_niID); (case a => wtm_at "ev"); (case b => wtm_at "ev"))
  | ((with_reducible refine' evd_neg ?a); (case a => wtm_at "ev"))
  | ((with_reducible refine' evd_tix ?a ?b ?c); (case a => wtm_at "ev"); (case b => wtm_at "ev"); (case c => wtm_at "side"))
  | ((with_reducible refine' evd_tup ?a ?b); (case a => wtm_at "es"); (case b => exact Nat.le_of_ble_eq_true rfl))
  | ((with_reducible refine' evd_cb ?a cd_lenL); (case a => wtm_at "es"))
  | ((with_reducible refine' evd_cb ?a cd_lenT); (case a => wtm_at "es"))
  | ((with_reducible refine' evd_cb ?a cd_intB); (case a => wtm_at "es"))
  | ((with_reducible refine' evd_cb ?a cd_tupL); (case a => wtm_at "es"))
  | ((with_reducible refine' evd_and ?a ?b); (case a => wtm_at "ev"); (case b => intro _; wtm_at "ev"))
  | ((with_reducible refine' evd_or ?a ?b); (case a => wtm_at "ev"); (case b => intro _; wtm_at "ev"))
  | ((with_reducible refine' evd_not ?a); (case a => wtm_at "ev"))
  | ((with_reducible refine' evd_op ?a ?b rd_neIL); (case a => wtm_at "ev"); (case b => wtm_at "ev"))
  | ((with_reducible refine' evd_op ?a ?b rd_eqIL); (case a => wtm_at "ev"); (case b => wtm_at "ev"))
  | ((with_reducible refine' EvN.toD ?a); (case a => wtm_at "en")))
local macro_rules | `(tactic| wtm_at "en") => `(tactic| first
  | ((with_reducible refine' evn_cb ?a cn_sortTI); (case a => wtm_at "es"))
  | ((with_reducible refine' evn_cb ?a cn_listL); (case a => wtm_at "es"))
  | ((with_reducible refine' evn_cb ?a cn_listT); (case a => wtm_at "es"))
  | ((with_reducible refine' evn_rng ?a ?b); (case a => wtm_at "ev"); (case b => wtm_at "side"))
  | ((with_reducible refine' evn_lst ?a ?b); (case a => wtm_at "es"); (case b => exact Nat.le_of_ble_eq_true rfl))
  | ((with_reducible refine' evn_cat ?a ?b ?c); (case a => wtm_at "ev"); (case b => wtm_at "ev"); (case c => wtm_at "side"))
  | ((with_reducible refine' evn_slL ?a ?b ?c); (case a => wtm_at "ev"); (case b => first | exact evp_none | (refine' evp_some ?d; (case d => wtm_at "ev"))); (case c => first | exact evp_none | (refine' evp_some ?d; (case d => wtm_at "ev")))))
local macro_rules | `(tactic| wtm_at "et") => `(tactic| first
  | exact et_yes
  | (refine' ett ?a; (case a => wtm_at "ev"))
  | (refine' etB ?a; (case a => wtm_at "ev"))
  | (refine' et_and ?a ?b; (case a => wtm_at "et"); (case b => intro _; wtm_at "et"))
  | (refine' et_or ?a ?b; (case a => wtm_at "et"); (case b => intro _; wtm_at "et"))
  | (refine' et_not ?a; (case a => wtm_at "et")))
local macro_rules | `(tactic| wtm_at "nx") => `(tactic| try dsimp only [tSeq, tNext])
/-! ### webs as sets of pairs -/
def nrm (p : Int × Int) : Int × Int := if p.1 ≤ p.2 then p else swp p
theorem swp_swp (p : Int × Int) : swp (swp p) = p := rfl
theorem nrm_iff {p q : Int × Int} : nrm p = nrm q ↔ p = q ∨ p = swp q := by
  obtain ⟨a, b⟩ := p
  obtain ⟨c, d⟩ := q
  unfold nrm swp
  dsimp only
  split <;> split <;> simp only [Prod.mk.injEq] <;> omega
theorem nrm_mem {p : Int × Int} {met : List (Int × Int)} : nrm p ∈ met.map nrm ↔ p ∈ met ∨ swp p ∈ met := by
  constructor
  · intro h
    obtain ⟨q, hq, e⟩ := List.mem_map.mp h
    rcases nrm_iff.mp e with rfl | rfl
    · exact .inl hq
    · exact .inr hq
  · rintro (h | h)
    · exact List.mem_map.mpr ⟨p, h, rfl⟩
    · exact List.mem_map.mpr ⟨_, h, nrm_iff.mpr (.inr rfl)⟩
theorem webGo_iff {m : Int} : ∀ {met ps : List (Int × Int)}, webGo m met ps = true ↔ (∀ p ∈ ps, goodB m p = true ∧ nrm p ∉ met.map nrm) ∧ (ps.map nrm).Nodup
  | met, [] => by simp [webGo]
  | met, q :: ps => by
    simp only [webGo, Bool.and_eq_true, Bool.not_eq_true', decide_eq_false_iff_not]
    rw [webGo_iff (met := met ++ [q]) (ps := ps), List.map_cons, List.nodup_cons]
    constructor
    · rintro ⟨⟨⟨h1, h2⟩, h3⟩, h4, h5⟩
      refine ⟨fun p hp => ?_, fun z => ?_, h5⟩
      · rcases List.mem_cons.mp hp with rfl | hp
        · exact ⟨h1, fun z => (nrm_mem.mp z).elim h2 h3⟩
        · refine ⟨(h4 p hp).1, fun z => (h4 p hp).2 ?_⟩
          rw [List.map_append]
          exact List.mem_append_left _ z
      · obtain ⟨p, hp, e⟩ := List.mem_map.mp z
        refine (h4 p hp).2 ?_
        rw [List.map_append, e]
        exact List.mem_append_right _ (by simp)
    · rintro ⟨h1, h2, h3⟩
      obtain ⟨g1, g2⟩ := h1 q List.mem_cons_self
      refine ⟨⟨⟨g1, fun z => g2 (nrm_mem.mpr (.inl z))⟩, fun z => g2 (nrm_mem.mpr (.inr z))⟩, fun p hp => ?_, h3⟩
      obtain ⟨k1, k2⟩ := h1 p (List.mem_cons_of_mem _ hp)
      refine ⟨k1, fun z => ?_⟩
      rw [List.map_append] at z
      rcases List.mem_append.mp z with z | z
      · exact k2 z
      · have e : nrm p = nrm q := by simpa using z
        exact h2 (e ▸ List.mem_map.mpr ⟨p, hp, rfl⟩)
theorem isWeb_set {m : Int} {ps : List (Int × Int)} : isWeb m ps ↔ (∀ p ∈ ps, goodB m p = true) ∧ (ps.map nrm).Nodup := by
  unfold isWeb
  rw [webGo_iff]
  simp
theorem isWeb.perm {m : Int} {ps qs : List (Int × Int)} (h : isWeb m ps) (e : ps.Perm qs) : isWeb m qs := by
  rw [isWeb_set] at h ⊢
  exact ⟨fun p hp => h.1 p (e.mem_iff.mpr hp), (e.map nrm).nodup_iff.mp h.2⟩
theorem isWeb.good {m : Int} {ps : List (Int × Int)} (h : isWeb m ps) {p : Int × Int} (hp : p ∈ ps) : 0 ≤ p.1 ∧ p.1 < m ∧ 0 ≤ p.2 ∧ p.2 < m ∧ p.1 ≠ p.2 := goodB_iff.mp ((isWeb_set.mp h).1 p hp)
theorem nodup_of_map {α β : Type} {f : α → β} {xs : List α} (h : (xs.map f).Nodup) : xs.Nodup := (List.pairwise_map.mp h).imp fun ne e => ne (by rw [e])
theorem isWeb.nodup {m : Int} {ps : List (Int × Int)} (h : isWeb m ps) : ps.Nodup := nodup_of_map (isWeb_set.mp h).2
theorem isWeb.swp {m : Int} {ps : List (Int × Int)} (h : isWeb m ps) {p : Int × Int} (hp : p ∈ ps) : swp p ∉ ps := fun hq => by
  obtain ⟨i, hi⟩ := List.getElem?_of_mem hp
  obtain ⟨j, hj⟩ := List.getElem?_of_mem hq
  have hg := h.good hp
  have z := List.pairwise_iff_getElem.mp (isWeb_set.mp h).2
  obtain ⟨li, ei⟩ := List.getElem?_eq_some_iff.mp hi
  obtain ⟨lj, ej⟩ := List.getElem?_eq_some_iff.mp hj
  have hne : p ≠ Bm.swp p := fun e => hg.2.2.2.2 (by have := congrArg Prod.fst e; exact this)
  rcases Nat.lt_trichotomy i j with l | l | l
  · have := z i j (by simpa using li) (by simpa using lj) l
    rw [List.getElem_map, List.getElem_map, ei, ej] at this
    exact this (nrm_iff.mpr (.inr (swp_swp p).symm))
  · subst l
    rw [ei] at ej
    exact hne ej
  · have := z j i (by simpa using lj) (by simpa using li) l
    rw [List.getElem_map, List.getElem_map, ei, ej] at this
    exact this (nrm_iff.mpr (.inr rfl))
theorem isWeb.bd {m : Int} {ps : List (Int × Int)} (h : isWeb m ps) (hm : m ≤ 6) : ∀ p ∈ ps, bdP p := fun p hp => by
  have := h.good hp
  unfold bdP
  omega
/-! ### beats, as a set -/
theorem mem_beatsOne {m : Int} {vs : List (List Int)} {a : Int} {p : Int × Int} (hm : 0 ≤ m) : p ∈ beatsOne m vs a ↔ p.1 = a ∧ 0 ≤ p.2 ∧ p.2 < m ∧ a ≠ p.2 ∧ 0 < leadF vs a p.2 := by
  unfold beatsOne
  rw [List.mem_map]
  constructor
  · rintro ⟨b, hb, rfl⟩
    rw [List.mem_filter, mem_rgI] at hb
    simp only [Bool.and_eq_true, Bool.not_eq_true', decide_eq_false_iff_not, decide_eq_true_eq] at hb
    refine ⟨rfl, hb.1.1, ?_, hb.2.1, hb.2.2⟩
    have := hb.1.2
    dsimp only
    omega
  · rintro ⟨h1, h2, h3, h4, h5⟩
    refine ⟨p.2, ?_, by rw [← h1]⟩
    rw [List.mem_filter, mem_rgI]
    simp only [Bool.and_eq_true, Bool.not_eq_true', decide_eq_false_iff_not, decide_eq_true_eq]
    exact ⟨⟨h2, by omega⟩, h4, h5⟩
theorem mem_beatsF {m : Int} {vs : List (List Int)} {p : Int × Int} (hm : 0 ≤ m) : p ∈ beatsF m vs ↔ 0 ≤ p.1 ∧ p.1 < m ∧ 0 ≤ p.2 ∧ p.2 < m ∧ p.1 ≠ p.2 ∧ 0 < leadF vs p.1 p.2 := by
  unfold beatsF
  rw [List.mem_flatten]
  constructor
  · rintro ⟨l, hl, hp⟩
    obtain ⟨a, ha, rfl⟩ := List.mem_map.mp hl
    rw [mem_rgI] at ha
    obtain ⟨h1, h2, h3, h4, h5⟩ := (mem_beatsOne hm).mp hp
    subst h1
    exact ⟨ha.1, by omega, h2, h3, h4, h5⟩
  · rintro ⟨h1, h2, h3, h4, h5, h6⟩
    exact ⟨_, List.mem_map.mpr ⟨p.1, mem_rgI.mpr ⟨h1, by omega⟩, rfl⟩, (mem_beatsOne hm).mpr ⟨rfl, h3, h4, h5, h6⟩⟩
theorem rgI_lt (lo : Int) (n : Nat) : (rgI lo n).Pairwise (· < ·) := by
  unfold rgI
  exact List.pairwise_map.mpr (List.pairwise_lt_range.imp fun {i j} l => by omega)
theorem beatsF_pw {m : Int} (hm : 0 ≤ m ∧ m ≤ 6) (vs : List (List Int)) : (beatsF m vs).Pairwise fun p q => cdP p < cdP q := by
  unfold beatsF
  rw [List.pairwise_flatten]
  constructor
  · intro l hl
    obtain ⟨a, ha, rfl⟩ := List.mem_map.mp hl
    unfold beatsOne
    rw [List.pairwise_map]
    refine ((rgI_lt 0 m.toNat).filter _).imp fun {b c} h => ?_
    unfold cdP
    dsimp only
    omega
  · rw [List.pairwise_map]
    refine (rgI_lt 0 m.toNat).imp fun {a b} h p hp q hq => ?_
    obtain ⟨h1, h2, h3, _⟩ := (mem_beatsOne hm.1).mp hp
    obtain ⟨k1, k2, k3, _⟩ := (mem_beatsOne hm.1).mp hq
    unfold cdP
    omega
theorem beatsF_nodup {m : Int} (hm : 0 ≤ m ∧ m ≤ 6) (vs : List (List Int)) : (beatsF m vs).Nodup := (beatsF_pw hm vs).imp fun {p q} h e => by rw [e] at h; omega
theorem beatsF_is {m : Int} (hm : 0 ≤ m ∧ m ≤ 6) {vs : List (List Int)} {ps : List (Int × Int)} (hn : ps.Nodup) (h : ∀ p, p ∈ ps ↔ 0 ≤ p.1 ∧ p.1 < m ∧ 0 ≤ p.2 ∧ p.2 < m ∧ p.1 ≠ p.2 ∧ 0 < leadF vs p.1 p.2) : beatsF m vs = srtW ps := by
  refine srtW_of ((List.perm_ext_iff_of_nodup (beatsF_nodup hm vs) hn).mpr fun p => by rw [mem_beatsF hm.1, h]) (fun p hp => ?_) ((beatsF_pw hm vs).imp fun {p q} h => Int.le_of_lt h)
  have := (mem_beatsF hm.1).mp hp
  unfold bdP
  omega
theorem ixOf_ne {a b : Int} : ∀ {v : List Int}, a ∈ v → a ≠ b → ixOf a v ≠ ixOf b v
  | [], h, _ => by simp at h
  | y :: ys, h, ne => by
    unfold ixOf
    by_cases e : y = a
    · rw [if_pos e, if_neg (fun z => ne (e.symm.trans z))]
      omega
    · rw [if_neg e]
      by_cases e2 : y = b
      · rw [if_pos e2]
        omega
      · rw [if_neg e2]
        have := ixOf_ne (v := ys) (b := b) ((List.mem_cons.mp h).resolve_left fun z => e z.symm) ne
        omega
theorem sgn1_neg {v : List Int} {a b : Int} (h : a ∈ v) (ne : a ≠ b) : sgn1 v b a = -sgn1 v a b := by
  have := ixOf_ne (v := v) h ne
  unfold sgn1
  split <;> split <;> omega
theorem leadF_neg {a b : Int} (ne : a ≠ b) : ∀ {vs : List (List Int)}, (∀ v ∈ vs, a ∈ v) → leadF vs b a = -leadF vs a b
  | [], _ => rfl
  | v :: vs, h => by
    have e : ∀ x y, leadF (v :: vs) x y = sgn1 v x y + leadF vs x y := fun x y => by unfold leadF; rw [List.map_cons, List.sum_cons]
    rw [e, e, leadF_neg ne fun u hu => h u (List.mem_cons_of_mem _ hu), sgn1_neg (h v List.mem_cons_self) ne]
    omega
theorem beatsF_web {m : Int} (hm : 0 ≤ m ∧ m ≤ 6) {vs : List (List Int)} (hv : isVot m vs) : isWeb m (beatsF m vs) := by
  refine isWeb_set.mpr ⟨fun p hp => ?_, ?_⟩
  · have := (mem_beatsF hm.1).mp hp
    exact goodB_iff.mpr ⟨this.1, this.2.1, this.2.2.1, this.2.2.2.1, this.2.2.2.2.1⟩
  · refine List.pairwise_map.mpr ((beatsF_nodup hm vs).imp_of_mem fun {p q} hp hq ne e => ?_)
    rcases nrm_iff.mp e with e | e
    · exact ne e
    · obtain ⟨a1, a2, a3, a4, a5, a6⟩ := (mem_beatsF hm.1).mp hp
      obtain ⟨b1, b2, b3, b4, b5, b6⟩ := (mem_beatsF hm.1).mp hq
      rw [e] at a6
      have := leadF_neg (a := q.1) (b := q.2) b5 fun v hv2 => (hv v hv2).mem.mpr ⟨b1, b2⟩
      have a6' : 0 < leadF vs q.2 q.1 := a6
      omega
theorem beatsF_len {m : Int} (hm : 0 ≤ m ∧ m ≤ 6) (vs : List (List Int)) : (beatsF m vs).length ≤ 36 := by
  have e : beatsF m vs = beatsTo m vs m.toNat := rfl
  rw [e]
  exact beatsTo_len hm vs (by omega)
/-! ### the pairs of things, rising -/
theorem rgI_cons (lo : Int) (n : Nat) : rgI lo (n + 1) = lo :: rgI (lo + 1) n := by
  unfold rgI
  rw [List.range_succ_eq_map, List.map_cons, List.map_map]
  congr 1
  · omega
  · refine List.map_congr_left fun i _ => ?_
    show lo + ((i + 1 : Nat) : Int) = lo + 1 + (i : Int)
    omega
/-- the pairs of a with those from b up to m -/
def rowP (m a b : Int) : List (Int × Int) := (rgI b (m - b).toNat).map fun c => (a, c)
/-- the pairs of things from a up to m -/
def prsF (m : Int) : Nat → Int → List (Int × Int)
  | 0, _ => []
  | n + 1, a => rowP m a (a + 1) ++ prsF m n (a + 1)
def prs (m a : Int) : List (Int × Int) := prsF m (m - a).toNat a
theorem prs_end {m a : Int} (h : m ≤ a) : prs m a = [] := by
  unfold prs
  rw [show (m - a).toNat = 0 by omega]
  rfl
theorem prs_step {m a : Int} (h : a < m) : prs m a = rowP m a (a + 1) ++ prs m (a + 1) := by
  unfold prs
  obtain ⟨n, hn⟩ : ∃ n, (m - a).toNat = n + 1 := ⟨(m - a).toNat - 1, by omega⟩
  rw [hn, show (m - (a + 1)).toNat = n by omega]
  rfl
theorem rowP_end {m a b : Int} (h : m ≤ b) : rowP m a b = [] := by
  unfold rowP
  rw [show (m - b).toNat = 0 by omega]
  rfl
theorem rowP_step {m a b : Int} (h : b < m) : rowP m a b = (a, b) :: rowP m a (b + 1) := by
  unfold rowP
  obtain ⟨n, hn⟩ : ∃ n, (m - b).toNat = n + 1 := ⟨(m - b).toNat - 1, by omega⟩
  rw [hn, rgI_cons, List.map_cons, show (m - (b + 1)).toNat = n by omega]
theorem mem_rowP {m a b : Int} {p : Int × Int} : p ∈ rowP m a b ↔ p.1 = a ∧ b ≤ p.2 ∧ p.2 < m := by
  unfold rowP
  rw [List.mem_map]
  constructor
  · rintro ⟨c, hc, rfl⟩
    rw [mem_rgI] at hc
    dsimp only
    omega
  · rintro ⟨h1, h2, h3⟩
    exact ⟨p.2, mem_rgI.mpr (by omega), by rw [← h1]⟩
theorem mem_prsF {m : Int} {p : Int × Int} : ∀ {n : Nat} {a : Int}, a + (n : Int) = m ∨ n = 0 → (p ∈ prsF m n a ↔ a ≤ p.1 ∧ p.1 < a + n ∧ p.1 < p.2 ∧ p.2 < m)
  | 0, a, _ => by
    simp only [prsF, List.not_mem_nil, false_iff]
    omega
  | n + 1, a, h => by
    simp only [prsF, List.mem_append]
    rw [mem_rowP, mem_prsF (n := n) (a := a + 1) (by omega)]
    omega
theorem mem_prs {m a : Int} {p : Int × Int} : p ∈ prs m a ↔ a ≤ p.1 ∧ p.1 < p.2 ∧ p.2 < m := by
  unfold prs
  by_cases h : a ≤ m
  · rw [mem_prsF (.inl (by omega))]
    omega
  · rw [mem_prsF (.inr (by omega))]
    omega
theorem prsF_nodup {m : Int} : ∀ {n : Nat} {a : Int}, a + (n : Int) = m ∨ n = 0 → (prsF m n a).Nodup
  | 0, _, _ => List.nodup_nil
  | n + 1, a, h => by
    show (rowP m a (a + 1) ++ prsF m n (a + 1)).Nodup
    rw [List.nodup_append]
    refine ⟨?_, prsF_nodup (by omega), fun p hp q hq e => ?_⟩
    · unfold rowP
      exact List.pairwise_map.mpr ((rgI_nodup _ _).imp fun ne e => ne (by injection e))
    · subst e
      rw [mem_rowP] at hp
      rw [mem_prsF (by omega)] at hq
      omega
theorem prs_nodup (m a : Int) : (prs m a).Nodup := by
  unfold prs
  by_cases h : a ≤ m
  · exact prsF_nodup (.inl (by omega))
  · exact prsF_nodup (.inr (by omega))
theorem prs_len {m : Int} (hm : 0 ≤ m ∧ m ≤ 6) : (prs m 0).length ≤ 15 := by
  have : m = 0 ∨ m = 1 ∨ m = 2 ∨ m = 3 ∨ m = 4 ∨ m = 5 ∨ m = 6 := by omega
  rcases this with rfl | rfl | rfl | rfl | rfl | rfl | rfl <;> decide
end Bm

namespace Bm
open PySem PySem.Spec PyProof.Rows L2 Evl
local macro_rules | `(tactic| wtm_at "rp") => `(tactic| first | exact rp_int | exact rp_bl | exact rp_str | exact rp_non | assumption | (refine' Rp.ex ?e ?h; (case h => assumption); (case e => assumption)) | exact Own.rp (by assumption))
local macro_rules | `(tactic| wtm_at "side") => `(tactic| first | assumption | omega | decide | rfl | exact ⟨by omega, by omega⟩)
local macro_rules | `(tactic| wtm_at "es") => `(tactic| first | exact evs_nil | (refine' evs_cons ?a ?b; (case a => wtm_at "ev"); (case b => wtm_at "es")))
local macro_rules | `(tactic| wtm_at "ev") => `(tactic| first
  | exact evd_int | exact evd_str | exact evd_bl | exact evd_non
  | (refine' evd_var rfl ?h; (case h => wtm_at "rp"))
  | ((with_reducible refine' evd_op ?a ?b rd_addI); (case a => wtm_at "ev"); (case b => wtm_at "ev"))
  | ((with_reducible refine' evd_op ?a ?b rd_subI); (case a => wtm_at "ev"); (case b => wtm_at "ev"))
  | ((with_reducible refine' evd_op ?a ?b (rd_mulI ?c)); (case a => wtm_at "ev"); (case b => wtm_at "ev"); (case c => wtm_at "side"))
  | ((with_reducible refine' evd_op ?a ?b (rd_divI ?c)); (case a => wtm_at "ev"); (case b => wtm_at "ev"); (case c => wtm_at "side"))
  | ((with_reducible refine' evd_op ?a ?b (rd_modI ?c)); (case a => wtm_at "ev"); (case b => wtm_at "ev"); (case c => wtm_at "side"))
  | ((with_reducible refine' evd_op ?a ?b rd_ltI); (case a => wtm_at "ev"); (case b => wtm_at "ev"))
  | ((with_reducible refine' evd_op ?a ?b rd_leI); (case a => wtm_at "ev"); (case b => wtm_at "ev"))
  | ((with_reducible refine' evd_op ?a ?b rd_gtI); (case a => wtm_at "ev"); (case b => wtm_at "ev"))
  | ((with_reducible refine' evd_op ?a ?b rd_geI); (case a => wtm_at "ev"); (case b => wtm_at "ev"))
  | ((with_reducible refine' evd_op ?a ?b rd_eqI); (case a => wtm_at "ev"); (case b => wtm_at "ev"))
  | ((with_reducible refine' evd_op ?a ?b rd_neI); (case a => wtm_at "ev"); (case b => wtm_at "ev"))
  | ((with_reducible refine' evd_op ?a ?b rd_eqB); (case a => wtm_at "ev"); (case b => wtm_at "ev"))
  | ((with_reducible refine' evd_op ?a ?b rd_neB); (case a => wtm_at "ev"); (case b => wtm_at "ev"))
  | ((with_reducible refine' evd_op ?a ?b rd_isNo); (case a => wtm_at "ev"); (case b => wtm_at "ev"))
  | ((with_reducible refine' evd_op ?a ?b rd_notNo); (case a => wtm_at "ev"); (case b => wtm_at "ev"))
  | ((with_reducible refine' evd_op ?a ?b rd_inIL); (case a => wtm_at "ev"); (case b => wtm_at "ev"))
  | ((with_reducible refine' evd_op ?a ?b rd_niIL); (case a => wtm_at "ev"); (case b => wtm_at "ev"))
  | ((with_reducible refine' evd_op ?a ?b rd_inID); (case a => wtm_at "ev"); (case b => wtm_at "ev"))
  | ((with_reducible refine' evd_op ?a ?b rd_niID); (case a => wtm_at "ev"); (case b => wtm_at "ev"))
  | ((with_reducible refine' evd_neg ?a); (case a => wtm_at "ev"))
  | ((with_reducible refine' evd_tix ?a ?b ?c); (case a => wtm_at "ev"); (case b => wtm_at "ev"); (case c => wtm_at "side"))
  | ((with_reducible refine' evd_tup ?a ?b); (case a => wtm_at "es"); (case b => exact Nat.le_of_ble_eq_true rfl))
  | ((with_reducible refine' evd_cb ?a cd_lenL); (case a => wtm_at "es"))
  | ((with_reducible refine' evd_cb ?a cd_lenT); (case a => wtm_at "es"))
  | ((with_reducible refine' evd_cb ?a cd_intB); (case a => wtm_at "es"))
  | ((with_reducible refine' evd_cb ?a cd_tupL); (case a => wtm_at "es"))
  | ((with_reducible refine' evd_and ?a ?b); (case a => wtm_at "ev"); (case b => intro _; wtm_at "ev"))
  | ((with_reducible refine' evd_or ?a ?b); (case a => wtm_at "ev"); (case b => intro _; wtm_at "ev"))
  | ((with_reducible refine' evd_not ?a); (case a => wtm_at "ev"))
  | ((with_reducible refine' evd_op ?a ?b rd_neIL); (case a => wtm_at "ev"); (case b => wtm_at "ev"))
  | ((with_reducible refine' evd_op ?a ?b rd_eqIL); (case a => wtm_at "ev"); (case b => wtm_at "ev"))
  | ((with_reducible refine' EvN.toD ?a); (case a => wtm_at "en")))
local macro_rules | `(tactic| wtm_at "en") => `(tactic| first
  | ((with_reducible refine' evn_cb ?a cn_sortTI); (case a => wtm_at "es"))
  | ((with_reducible refine' evn_cb ?a cn_listL); (case a => wtm_at "es"))
  | ((with_reducible refine' evn_cb ?a cn_listT); (case a => wtm_at "es"))
  | ((with_reducible refine' evn_rng ?a ?b); (case a => wtm_at "ev"); (case b => wtm_at "side"))
  | ((with_reducible refine' evn_lst ?a ?b); (case a => wtm_at "es"); (case b => exact Nat.le_of_ble_eq_true rfl))
  | ((with_reducible refine' evn_cat ?a ?b ?c); (case a => wtm_at "ev"); (case b => wtm_at "ev"); (case c => wtm_at "side"))
  | ((with_reducible refine' evn_slL ?a ?b ?c); (case a => wtm_at "ev"); (case b => first | exact evp_none | (refine' evp_some ?d; (case d => wtm_at "ev"))); (case c => first | exact evp_none | (refine' evp_some ?d; (case d => wtm_at "ev")))))
local macro_rules | `(tactic| wtm_at "et") => `(tactic| first
  | exact et_yes
  | (refine' ett ?a; (case a => wtm_at "ev"))
  | (refine' etB ?a; (case a => wtm_at "ev"))
  | (refine' et_and ?a ?b; (case a => wtm_at "et"); (case b => intro _; wtm_at "et"))
  | (refine' et_or ?a ?b; (case a => wtm_at "et"); (case b => intro _; wtm_at "et"))
  | (refine' et_not ?a; (case a => wtm_at "et")))
local macro_rules | `(tactic| wtm_at "nx") => `(tactic| try dsimp only [tSeq, tNext])
/-! ### two voters for a beat, plain -/
def restF (m a b : Int) : List Int := (rgI 0 m.toNat).filter fun t => !decide (t = a) && !decide (t = b)
def twoF (m : Int) (p : Int × Int) : List (List Int) := [[p.1, p.2] ++ restF m p.1 p.2, (restF m p.1 p.2).reverse ++ [p.1, p.2]]
def dueF (m : Int) (ps : List (Int × Int)) : List (List Int) := (ps.map (twoF m)).flatten
theorem twoF_all : ((rgI 1 6).all fun m => (rgI 0 m.toNat).all fun x => (rgI 0 m.toNat).all fun y => decide (x = y) || ((twoF m (x, y)).all (fun v => decide (srt v = rgI 0 m.toNat)) &&
    (rgI 0 m.toNat).all fun a => (rgI 0 m.toNat).all fun b => decide (a = b) || decide (leadF (twoF m (x, y)) a b = if (a, b) = (x, y) then 2 else if (b, a) = (x, y) then -2 else 0))) = true := by decide +kernel
theorem twoF_ok {m : Int} (hm : 1 ≤ m ∧ m ≤ 6) {p : Int × Int} (hp : goodB m p = true) : isVot m (twoF m p) ∧
    ∀ a b, 0 ≤ a → a < m → 0 ≤ b → b < m → a ≠ b → leadF (twoF m p) a b = if (a, b) = p then 2 else if (b, a) = p then -2 else 0 := by
  obtain ⟨x, y⟩ := p
  obtain ⟨h1, h2, h3, h4, h5⟩ := goodB_iff.mp hp
  have z := List.all_eq_true.mp twoF_all m (mem_rgI.mpr (by omega))
  have z := List.all_eq_true.mp z x (mem_rgI.mpr (by dsimp only at *; omega))
  have z := List.all_eq_true.mp z y (mem_rgI.mpr (by dsimp only at *; omega))
  rw [decide_eq_false h5, Bool.false_or, Bool.and_eq_true] at z
  refine ⟨fun v hv => of_decide_eq_true (List.all_eq_true.mp z.1 v hv), fun a b a0 a1 b0 b1 ne => ?_⟩
  have w := List.all_eq_true.mp z.2 a (mem_rgI.mpr (by omega))
  have w := List.all_eq_true.mp w b (mem_rgI.mpr (by omega))
  rw [decide_eq_false ne, Bool.false_or, decide_eq_true_eq] at w
  exact w
theorem dueF_cons (m : Int) (p : Int × Int) (ps : List (Int × Int)) : dueF m (p :: ps) = twoF m p ++ dueF m ps := by
  unfold dueF
  rw [List.map_cons, List.flatten_cons]
theorem dueF_snoc (m : Int) (p : Int × Int) (ps : List (Int × Int)) : dueF m (ps ++ [p]) = dueF m ps ++ twoF m p := by
  unfold dueF
  rw [List.map_append, List.flatten_append]
  simp
theorem dueF_take {m : Int} {ps : List (Int × Int)} {i : Nat} {p : Int × Int} (h : ps[i]? = some p) : dueF m (ps.take (i + 1)) = dueF m (ps.take i) ++ twoF m p := by
  rw [List.take_add_one, h]
  exact dueF_snoc _ _ _
theorem dueF_len (m : Int) : ∀ ps : List (Int × Int), (dueF m ps).length = 2 * ps.length
  | [] => rfl
  | p :: ps => by
    rw [dueF_cons, List.length_append, dueF_len m ps, List.length_cons]
    show 2 + _ = _
    omega
theorem dueF_ok {m : Int} (hm : 1 ≤ m ∧ m ≤ 6) : ∀ {ps : List (Int × Int)}, (∀ p ∈ ps, goodB m p = true) → isVot m (dueF m ps)
  | [], _ => fun v h => by simp [dueF] at h
  | p :: ps, h => fun v hv => by
    rw [dueF_cons] at hv
    rcases List.mem_append.mp hv with hv | hv
    · exact (twoF_ok hm (h p List.mem_cons_self)).1 v hv
    · exact dueF_ok hm (fun q hq => h q (List.mem_cons_of_mem _ hq)) v hv
theorem dueF_lead {m : Int} (hm : 1 ≤ m ∧ m ≤ 6) {a b : Int} (ha : 0 ≤ a ∧ a < m) (hb : 0 ≤ b ∧ b < m) (ne : a ≠ b) : ∀ {ps : List (Int × Int)}, (∀ p ∈ ps, goodB m p = true) →
    ((b, a) ∉ ps → 0 ≤ leadF (dueF m ps) a b) ∧ ((b, a) ∉ ps → (a, b) ∈ ps → 0 < leadF (dueF m ps) a b) ∧ ((a, b) ∉ ps → leadF (dueF m ps) a b ≤ 0)
  | [], _ => by simp [dueF, leadF]
  | p :: ps, h => by
    obtain ⟨h1, h2, h3⟩ := dueF_lead hm ha hb ne (ps := ps) fun q hq => h q (List.mem_cons_of_mem _ hq)
    have z := (twoF_ok hm (h p List.mem_cons_self)).2 a b ha.1 ha.2 hb.1 hb.2 ne
    rw [dueF_cons, leadF_app, z]
    simp only [List.mem_cons, not_or]
    refine ⟨fun k => ?_, fun k k2 => ?_, fun k => ?_⟩
    · have := h1 k.2
      rw [if_neg k.1]
      split <;> omega
    · have := h1 k.2
      rw [if_neg k.1]
      rcases k2 with k2 | k2
      · rw [if_pos k2]
        omega
      · have := h2 k.2 k2
        split <;> omega
    · have := h3 k.2
      rw [if_neg k.1]
      split <;> omega
/-- the voters put together for a web make just this web -/
theorem due_beats {m : Int} (hm : 1 ≤ m ∧ m ≤ 6) {ps : List (Int × Int)} (h : isWeb m ps) : beatsF m (dueF m ps) = srtW ps := by
  have hg := (isWeb_set.mp h).1
  refine beatsF_is ⟨by omega, hm.2⟩ h.nodup fun p => ⟨fun hp => ?_, fun hp => ?_⟩
  · obtain ⟨h1, h2, h3, h4, h5⟩ := h.good hp
    exact ⟨h1, h2, h3, h4, h5, (dueF_lead hm ⟨h1, h2⟩ ⟨h3, h4⟩ h5 hg).2.1 (h.swp hp) hp⟩
  · obtain ⟨h1, h2, h3, h4, h5, h6⟩ := hp
    refine Classical.byContradiction fun n => ?_
    have := (dueF_lead hm ⟨h1, h2⟩ ⟨h3, h4⟩ h5 hg).2.2 n
    omega
/-- the lead that the voters for a web give: two for each beat -/
theorem due_lead {m : Int} (hm : 1 ≤ m ∧ m ≤ 6) {a b : Int} (ha : 0 ≤ a ∧ a < m) (hb : 0 ≤ b ∧ b < m) (ne : a ≠ b) : ∀ {ps : List (Int × Int)}, isWeb m ps → leadF (dueF m ps) a b = if (a, b) ∈ ps then 2 else if (b, a) ∈ ps then -2 else 0
  | [], _ => by simp [dueF, leadF]
  | p :: ps, h => by
    obtain ⟨g, n⟩ := isWeb_set.mp h
    rw [List.map_cons, List.nodup_cons] at n
    have hw : isWeb m ps := isWeb_set.mpr ⟨fun q hq => g q (List.mem_cons_of_mem _ hq), n.2⟩
    have nm : p ∉ ps ∧ swp p ∉ ps := ⟨fun z => n.1 (nrm_mem.mpr (.inl z)), fun z => n.1 (nrm_mem.mpr (.inr z))⟩
    have z := (twoF_ok hm (g p List.mem_cons_self)).2 a b ha.1 ha.2 hb.1 hb.2 ne
    rw [dueF_cons, leadF_app, z, due_lead hm ha hb ne hw]
    simp only [List.mem_cons]
    by_cases e1 : (a, b) = p
    · subst e1
      have n2 : (b, a) ∉ ps := nm.2
      rw [if_pos rfl, if_neg nm.1, if_neg n2, if_pos (.inl rfl)]
      rfl
    · by_cases e2 : (b, a) = p
      · subst e2
        have n2 : (a, b) ∉ ps := nm.2
        rw [if_neg e1, if_pos rfl, if_neg n2, if_neg nm.1, if_neg (by simp [e1, n2]), if_pos (.inl rfl)]
        rfl
      · rw [if_neg e1, if_neg e2]
        simp [e1, e2]
end Bm

namespace Bm
open PySem PySem.Spec PyProof.Rows L2 Evl
local macro_rules | `(tactic| wtm_at "rp") => `(tactic| first | exact rp_int | exact rp_bl | exact rp_str | exact rp_non | assumption | (refine' Rp.ex ?e ?h; (case h => assumption); (case e => assumption)) | exact Own.rp (by assumption))
local macro_rules | `(tactic| wtm_at "side") => `(tactic| first | assumption | omega | decide | rfl | exact ⟨by omega, by omega⟩)
local macro_rules | `(tactic| wtm_at "es") => `(tactic| first | exact evs_nil | (refine' evs_cons ?a ?b; (case a => wtm_at "ev"); (case b => wtm_at "es")))
local macro_rules | `(tactic| wtm_at "ev") => `(tactic| first
  | exact evd_int | exact evd_str | exact evd_bl | exact evd_non
  | (refine' evd_var rfl ?h; (case h => wtm_at "rp"))
  | ((with_reducible refine' evd_op ?a ?b rd_addI); (case a => wtm_at "ev"); (case b => wtm_at "ev"))
  | ((with_reducible refine' evd_op ?a ?b rd_subI); (case a => wtm_at "ev"); (case b => wtm_at "ev"))
  | ((with_reducible refine' evd_op ?a ?b (rd_mulI ?c)); (case a => wtm_at "ev"); (case b => wtm_at "ev"); (case c => wtm_at "side"))
  | ((with_reducible refine' evd_op ?a ?b (rd_divI ?c)); (case a => wtm_at "ev"); (case b => wtm_at "ev"); (case c => wtm_at "side"))
  | ((with_reducible refine' evd_op ?a ?b (rd_modI ?c)); (case a => wtm_at "ev"); (case b => wtm_at "ev"); (case c => wtm_at "side"))
  | ((with_reducible refine' evd_op ?a ?b rd_ltI); (case a => wtm_at "ev"); (case b => wtm_at "ev"))
  | ((with_reducible refine' evd_op ?a ?b rd_leI); (case a => wtm_at "ev"); (case b => wtm_at "ev"))
  | ((with_reducible refine' evd_op ?a ?b rd_gtI); (case a => wtm_at "ev"); (case b => wtm_at "ev"))
  | ((with_reducible refine' evd_op ?a ?b rd_geI); (case a => wtm_at "ev"); (case b => wtm_at "ev"))
  | ((with_reducible refine' evd_op ?a ?b rd_eqI); (case a => wtm_at "ev"); (case b => wtm_at "ev"))
  | ((with_reducible refine' evd_op ?a ?b rd_neI); (case a => wtm_at "ev"); (case b => wtm_at "ev"))
  | ((with_reducible refine' evd_op ?a ?b rd_eqB); (case a => wtm_at "ev"); (case b => wtm_at "ev"))
  | ((with_reducible refine' evd_op ?a ?b rd_neB); (case a => wtm_at "ev"); (case b => wtm_at "ev"))
  | ((with_reducible refine' evd_op ?a ?b rd_isNo); (case a => wtm_at "ev"); (case b => wtm_at "ev"))
  | ((with_reducible refine' evd_op ?a ?b rd_notNo); (case a => wtm_at "ev"); (case b => wtm_at "ev"))
  | ((with_reducible refine' evd_op ?a ?b rd_inIL); (case a => wtm_at "ev"); (case b => wtm_at "ev"))
  | ((with_reducible refine' evd_op ?a ?b rd_niIL); (case a => wtm_at "ev"); (case b => wtm_at "ev"))
  | ((with_reducible refine' evd_op ?a ?b rd_inID); (case a => wtm_at "ev"); (case b => wtm_at "ev"))
  | ((with_reducible refine' evd_op ?a ?b rd_niID); (case a => wtm_at "ev"); (case b => wtm_at "ev"))
  | ((with_reducible refine' evd_neg ?a); (case a => wtm_at "ev"))
  | ((with_reducible refine' evd_tix ?a ?b ?c); (case a => wtm_at "ev"); (case b => wtm_at "ev"); (case c => wtm_at "side"))
  | ((with_reducible refine' evd_tup ?a ?b); (case a => wtm_at "es"); (case b => exact Nat.le_of_ble_eq_true rfl))
  | ((with_reducible refine' evd_cb ?a cd_lenL); (case a => wtm_at "es"))
  | ((with_reducible refine' evd_cb ?a cd_lenT); (case a => wtm_at "es"))
  | ((with_reducible refine' evd_cb ?a cd_intB); (case a => wtm_at "es"))
  | ((with_reducible refine' evd_cb ?a cd_tupL); (case a => wtm_at "es"))
  | ((with_reducible refine' evd_and ?a ?b); (case a => wtm_at "ev"); (case b => intro _; wtm_at "ev"))
  | ((with_reducible refine' evd_or ?a ?b); (case a => wtm_at "ev"); (case b => intro _; wtm_at "ev"))
  | ((with_reducible refine' evd_not ?a); (case a => wtm_at "ev"))
  | ((with_reducible refine' evd_op ?a ?b rd_neIL); (case a => wtm_at "ev"); (case b => wtm_at "ev"))
  | ((with_reducible refine' evd_op ?a ?b rd_eqIL); (case a => wtm_at "ev"); (case b => wtm_at "ev"))
  | ((with_reducible refine' EvN.toD ?a); (case a => wtm_at "en")))
local macro_rules | `(tactic| wtm_at "en") => `(tactic| first
  | ((with_reducible refine' evn_cb ?a cn_sortTI); (case a => wtm_at "es"))
  | ((with_reducible refine' evn_cb ?a cn_listL); (case a => wtm_at "es"))
  | ((with_reducible refine' evn_cb ?a cn_listT); (case a => wtm_at "es"))
  | ((with_reducible refine' evn_rng ?a ?b); (case a => wtm_at "ev"); (case b => wtm_at "side"))
  | ((with_reducible refine' evn_lst ?a ?b); (case a => wtm_at "es"); (case b => exact Nat.le_of_ble_eq_true rfl))
  | ((with_reducible refine' evn_cat ?a ?b ?c); (case a => wtm_at "ev"); (case b => wtm_at "ev"); (case c => wtm_at "side"))
  | ((with_reducible refine' evn_slL ?a ?b ?c); (case a => wtm_at "ev"); (case b => first | exact evp_none | (refine' evp_some ?d; (case d => wtm_at "ev"))); (case c => first | exact evp_none | (refine' evp_some ?d; (case d => wtm_at "ev")))))
local macro_rules | `(tactic| wtm_at "et") => `(tactic| first
  | exact et_yes
  | (refine' ett ?a; (case a => wtm_at "ev"))
  | (refine' etB ?a; (case a => wtm_at "ev"))
  | (refine' et_and ?a ?b; (case a => wtm_at "et"); (case b => intro _; wtm_at "et"))
  | (refine' et_or ?a ?b; (case a => wtm_at "et"); (case b => intro _; wtm_at "et"))
  | (refine' et_not ?a; (case a => wtm_at "et")))
local macro_rules | `(tactic| wtm_at "nx") => `(tactic| try dsimp only [tSeq, tNext])
/-! ### ways by beats, breadth first, plain -/
theorem nodup_len {m : Int} {xs : List Int} (n : xs.Nodup) (h : ∀ x ∈ xs, 0 ≤ x ∧ x < m) : xs.length ≤ m.toNat := by
  have hp : ((rgI 0 m.toNat).filter fun x => decide (x ∈ xs)).Perm xs := (List.perm_ext_iff_of_nodup ((rgI_nodup 0 m.toNat).filter _) n).mpr fun a => by
    rw [List.mem_filter, mem_rgI, decide_eq_true_eq]
    exact ⟨fun z => z.2, fun z => ⟨by have := h a z; omega, z⟩⟩
  rw [← hp.length_eq]
  exact Nat.le_trans (List.length_filter_le _ _) (by rw [rgI_len]; exact Nat.le_refl _)
inductive Way (ps : List (Int × Int)) (a : Int) : Int → List Int → Prop where
  | one : Way ps a a [a]
  | snoc {b c : Int} {r : List Int} : Way ps a b r → (b, c) ∈ ps → Way ps a c (r ++ [c])
theorem Way.mono {ps qs : List (Int × Int)} {a b : Int} {r : List Int} (h : Way ps a b r) (e : ∀ p ∈ ps, p ∈ qs) : Way qs a b r := by
  induction h with
  | one => exact .one
  | snoc _ hp ih => exact ih.snoc (e _ hp)
theorem Way.pos {ps : List (Int × Int)} {a b : Int} {r : List Int} (h : Way ps a b r) : 0 < r.length := by
  cases h with
  | one => exact Nat.one_pos
  | snoc _ _ => rw [List.length_append]; exact Nat.succ_pos _
theorem Way.first {ps : List (Int × Int)} {a b : Int} {r : List Int} (h : Way ps a b r) : r[0]? = some a := by
  induction h with
  | one => rfl
  | snoc h _ ih => rw [List.getElem?_append_left h.pos, ih]
theorem Way.last {ps : List (Int × Int)} {a b : Int} {r : List Int} (h : Way ps a b r) : r[r.length - 1]? = some b := by
  cases h with
  | one => rfl
  | snoc h _ => rw [List.length_append]; simp
theorem Way.step {ps : List (Int × Int)} {a b : Int} {r : List Int} (h : Way ps a b r) : ∀ (k : Nat) x y, r[k]? = some x → r[k + 1]? = some y → (x, y) ∈ ps := by
  induction h with
  | one => intro k x y _ h2; simp at h2
  | @snoc b c r h hp ih =>
    intro k x y h1 h2
    by_cases hk : k + 1 < r.length
    · rw [List.getElem?_append_left (by omega)] at h1
      rw [List.getElem?_append_left hk] at h2
      exact ih k x y h1 h2
    · have hk2 : k + 1 = r.length := by
        obtain ⟨z, _⟩ := List.getElem?_eq_some_iff.mp h2
        rw [List.length_append] at z
        simp at z
        omega
      rw [List.getElem?_append_left (by omega)] at h1
      rw [hk2, List.getElem?_append_right (Nat.le_refl _), Nat.sub_self] at h2
      have e2 : y = c := by simpa using h2.symm
      have := h.last
      rw [show r.length - 1 = k by omega, h1] at this
      have e1 : x = b := by simpa using this
      rw [e1, e2]
      exact hp
/-- the state: the things met, each with its way -/
abbrev BSt : Type := List (Int × List Int)
def keysB (st : BSt) : List Int := st.map (·.1)
def stepB (c : Int) (r : List Int) (st : BSt) (p : Int × Int) : BSt := if p.1 = c ∧ p.2 ∉ keysB st then st ++ [(p.2, r ++ [p.2])] else st
def bfsGo (ps : List (Int × Int)) : Nat → Nat → BSt → BSt
  | 0, _, st => st
  | n + 1, h, st => match st[h]? with
    | none => st
    | some e => bfsGo ps n (h + 1) (ps.foldl (stepB e.1 e.2) st)
def bfsF (ps : List (Int × Int)) (a : Int) : BSt := bfsGo ps 8 0 [(a, [a])]
def bwF (ps : List (Int × Int)) (a b : Int) : Option (List Int) := ((bfsF ps a).find? fun e => decide (e.1 = b)).map (·.2)
structure BInv (ps : List (Int × Int)) (m a : Int) (h : Nat) (st : BSt) : Prop where
  nd : (keysB st).Nodup
  rg : ∀ k ∈ keysB st, 0 ≤ k ∧ k < m
  hl : h ≤ st.length
  wy : ∀ e ∈ st, Way ps a e.1 e.2 ∧ e.2.Nodup ∧ ∀ x ∈ e.2, x ∈ keysB st
  mono : ∀ (i j : Nat) (ei ej : Int × List Int), i ≤ j → st[i]? = some ei → st[j]? = some ej → ei.2.length ≤ ej.2.length
  near : ∀ (eh : Int × List Int), st[h]? = some eh → ∀ e ∈ st, e.2.length ≤ eh.2.length + 1
  done : ∀ (i : Nat) (ei : Int × List Int), i < h → st[i]? = some ei → ∀ k, (ei.1, k) ∈ ps → ∃ e ∈ st, e.1 = k ∧ e.2.length ≤ ei.2.length + 1
  st0 : st[0]? = some (a, [a])
theorem BInv.len {ps : List (Int × Int)} {m a : Int} {h : Nat} {st : BSt} (I : BInv ps m a h st) : st.length ≤ m.toNat := by
  have := nodup_len I.nd I.rg
  unfold keysB at this
  rwa [List.length_map] at this
theorem BInv.start {ps : List (Int × Int)} {m a : Int} (ha : 0 ≤ a ∧ a < m) : BInv ps m a 0 [(a, [a])] where
  nd := by simp [keysB]
  rg := fun k hk => by
    have : k = a := by simpa [keysB] using hk
    rw [this]
    exact ha
  hl := Nat.zero_le _
  wy := fun e he => by
    have : e = (a, [a]) := by simpa using he
    rw [this]
    exact ⟨.one, by simp, fun x hx => by simpa [keysB] using hx⟩
  mono := fun i j ei ej hij hi hj => by
    have ei' : ei = (a, [a]) := by simpa using List.mem_of_getElem? hi
    have ej' : ej = (a, [a]) := by simpa using List.mem_of_getElem? hj
    rw [ei', ej']
    exact Nat.le_refl _
  near := fun eh hh e he => by
    have : e = (a, [a]) := by simpa using he
    rw [this]
    show 1 ≤ _
    omega
  done := fun i ei hi => absurd hi (Nat.not_lt_zero _)
  st0 := rfl
structure BIn (ps : List (Int × Int)) (m a : Int) (h : Nat) (c : Int) (r : List Int) (qs : List (Int × Int)) (st : BSt) : Prop where
  I : BInv ps m a h st
  at_ : st[h]? = some (c, r)
  dn : ∀ k, (c, k) ∈ qs → ∃ e ∈ st, e.1 = k ∧ e.2.length ≤ r.length + 1
theorem BIn.step {ps : List (Int × Int)} {m a : Int} {h : Nat} {c : Int} {r : List Int} {qs : List (Int × Int)} {st : BSt} (B : BIn ps m a h c r qs st) {p : Int × Int} (hp : p ∈ ps) (hr : 0 ≤ p.2 ∧ p.2 < m) : BIn ps m a h c r (qs ++ [p]) (stepB c r st p) := by
  obtain ⟨I, ha, hd⟩ := B
  have hmem : (c, r) ∈ st := List.mem_of_getElem? ha
  unfold stepB
  by_cases hc : p.1 = c ∧ p.2 ∉ keysB st
  · rw [if_pos hc]
    obtain ⟨h1, h2⟩ := hc
    obtain ⟨w1, w2, w3⟩ := I.wy _ hmem
    have hh : h < st.length := (List.getElem?_eq_some_iff.mp ha).1
    have old : ∀ {i : Nat} {e : Int × List Int}, (st ++ [(p.2, r ++ [p.2])])[i]? = some e → (i < st.length ∧ st[i]? = some e) ∨ (i = st.length ∧ e = (p.2, r ++ [p.2])) := fun {i e} z => by
      by_cases hi : i < st.length
      · rw [List.getElem?_append_left hi] at z
        exact .inl ⟨hi, z⟩
      · rw [List.getElem?_append_right (by omega)] at z
        have : i - st.length = 0 := by
          obtain ⟨y, _⟩ := List.getElem?_eq_some_iff.mp z
          simp at y
          omega
        rw [this] at z
        exact .inr ⟨by omega, by simpa using z.symm⟩
    refine ⟨⟨?_, ?_, ?_, ?_, ?_, ?_, ?_, ?_⟩, ?_, ?_⟩
    · unfold keysB at h2 ⊢
      rw [List.map_append, List.nodup_append]
      refine ⟨I.nd, by simp, fun x hx y hy e => ?_⟩
      have : y = p.2 := by simpa using hy
      rw [e, this] at hx
      exact h2 hx
    · intro k hk
      unfold keysB at hk
      rw [List.map_append] at hk
      rcases List.mem_append.mp hk with hk | hk
      · exact I.rg k hk
      · have : k = p.2 := by simpa using hk
        rw [this]
        exact hr
    · rw [List.length_append]
      omega
    · intro e he
      have sub : ∀ x ∈ keysB st, x ∈ keysB (st ++ [(p.2, r ++ [p.2])]) := fun x hx => by
        unfold keysB
        rw [List.map_append]
        exact List.mem_append_left _ hx
      rcases List.mem_append.mp he with he | he
      · obtain ⟨v1, v2, v3⟩ := I.wy e he
        exact ⟨v1, v2, fun x hx => sub x (v3 x hx)⟩
      · have : e = (p.2, r ++ [p.2]) := by simpa using he
        rw [this]
        refine ⟨w1.snoc (by rw [← h1]; exact hp), ?_, fun x hx => ?_⟩
        · rw [List.nodup_append]
          refine ⟨w2, by simp, fun x hx y hy e => ?_⟩
          have : y = p.2 := by simpa using hy
          rw [e, this] at hx
          exact h2 (w3 _ hx)
        · rcases List.mem_append.mp hx with hx | hx
          · exact sub x (w3 x hx)
          · have : x = p.2 := by simpa using hx
            rw [this]
            unfold keysB
            simp
    · intro i j ei ej hij hi hj
      rcases old hi with ⟨li, hi⟩ | ⟨li, hi⟩ <;> rcases old hj with ⟨lj, hj⟩ | ⟨lj, hj⟩
      · exact I.mono i j ei ej hij hi hj
      · rw [hj]
        have := I.near _ ha ei (List.mem_of_getElem? hi)
        rw [List.length_append]
        simpa using this
      · omega
      · rw [hi, hj]
        exact Nat.le_refl _
    · intro eh he e hm
      rw [List.getElem?_append_left hh, ha] at he
      cases he
      rcases List.mem_append.mp hm with hm | hm
      · exact I.near _ ha e hm
      · have : e = (p.2, r ++ [p.2]) := by simpa using hm
        rw [this, List.length_append]
        simp
    · intro i ei hi he k hk
      rw [List.getElem?_append_left (by omega)] at he
      obtain ⟨e, he2, e3⟩ := I.done i ei hi he k hk
      exact ⟨e, List.mem_append_left _ he2, e3⟩
    · rw [List.getElem?_append_left (by omega)]
      exact I.st0
    · rw [List.getElem?_append_left hh]
      exact ha
    · intro k hk
      rcases List.mem_append.mp hk with hk | hk
      · obtain ⟨e, he, e2⟩ := hd k hk
        exact ⟨e, List.mem_append_left _ he, e2⟩
      · have e : (c, k) = p := by simpa using hk
        have e2 : k = p.2 := by rw [← e]
        refine ⟨(p.2, r ++ [p.2]), List.mem_append_right _ (by simp), e2.symm, ?_⟩
        rw [List.length_append]
        simp
  · rw [if_neg hc]
    refine ⟨I, ha, fun k hk => ?_⟩
    rcases List.mem_append.mp hk with hk | hk
    · exact hd k hk
    · have e : (c, k) = p := by simpa using hk
      have h2 : p.2 ∈ keysB st := Classical.byContradiction fun z => hc ⟨by rw [← e], z⟩
      obtain ⟨x, hx, e3⟩ := List.mem_map.mp h2
      exact ⟨x, hx, by rw [e3, ← e], I.near _ ha x hx⟩
theorem foldl_take {α β : Type} {f : β → α → β} {s : β} {xs : List α} {i : Nat} {x : α} (h : xs[i]? = some x) : (xs.take (i + 1)).foldl f s = f ((xs.take i).foldl f s) x := by
  rw [List.take_add_one, h, List.foldl_append]
  rfl
theorem BIn.go {ps : List (Int × Int)} {m a : Int} (hps : ∀ p ∈ ps, 0 ≤ p.2 ∧ p.2 < m) {h : Nat} {c : Int} {r : List Int} {st : BSt} (I : BInv ps m a h st) (ha : st[h]? = some (c, r)) : ∀ i, i ≤ ps.length → BIn ps m a h c r (ps.take i) ((ps.take i).foldl (stepB c r) st)
  | 0, _ => ⟨I, ha, fun k hk => by simp at hk⟩
  | i + 1, hi => by
    have hx := List.getElem?_eq_getElem (l := ps) (i := i) (by omega)
    have hm := List.mem_of_getElem? hx
    rw [foldl_take hx, List.take_add_one, hx]
    exact (BIn.go hps I ha i (by omega)).step hm (hps _ hm)
theorem BIn.out {ps : List (Int × Int)} {m a : Int} {h : Nat} {c : Int} {r : List Int} {st : BSt} (B : BIn ps m a h c r ps st) : BInv ps m a (h + 1) st := by
  obtain ⟨I, ha, hd⟩ := B
  refine ⟨I.nd, I.rg, (List.getElem?_eq_some_iff.mp ha).1, I.wy, I.mono, fun eh he e hm => ?_, fun i ei hi he k hk => ?_, I.st0⟩
  · have h1 := I.near _ ha e hm
    have h2 := I.mono h (h + 1) _ _ (Nat.le_succ _) ha he
    dsimp only at h1 h2
    omega
  · by_cases h2 : i < h
    · exact I.done i ei h2 he k hk
    · have : i = h := by omega
      subst this
      rw [ha] at he
      cases he
      exact hd k hk
theorem BInv.next {ps : List (Int × Int)} {m a : Int} (hps : ∀ p ∈ ps, 0 ≤ p.2 ∧ p.2 < m) {h : Nat} {e : Int × List Int} {st : BSt} (I : BInv ps m a h st) (ha : st[h]? = some e) : BInv ps m a (h + 1) (ps.foldl (stepB e.1 e.2) st) := by
  have z := BIn.go hps I ha ps.length (Nat.le_refl _)
  rw [List.take_length] at z
  exact z.out
theorem BInv.run {ps : List (Int × Int)} {m a : Int} (hm : m ≤ 6) (hps : ∀ p ∈ ps, 0 ≤ p.2 ∧ p.2 < m) : ∀ {n h : Nat} {st : BSt}, BInv ps m a h st → 7 ≤ n + h → ∃ h', BInv ps m a h' (bfsGo ps n h st) ∧ (bfsGo ps n h st).length ≤ h'
  | 0, h, st, I, hn => by
    have := I.len
    have := I.hl
    omega
  | n + 1, h, st, I, hn => by
    unfold bfsGo
    cases e : st[h]? with
    | none => exact ⟨h, I, List.getElem?_eq_none_iff.mp e⟩
    | some x => exact BInv.run hm hps (I.next hps e) (by omega)
theorem bfs_all {ps : List (Int × Int)} {m a : Int} (hm : m ≤ 6) (hps : ∀ p ∈ ps, 0 ≤ p.2 ∧ p.2 < m) (ha : 0 ≤ a ∧ a < m) {b : Int} {r : List Int} (h : Way ps a b r) : ∃ e ∈ bfsF ps a, e.1 = b ∧ e.2.length ≤ r.length := by
  obtain ⟨h', I, hl⟩ := BInv.run hm hps (n := 8) (BInv.start (ps := ps) ha) (by omega)
  induction h with
  | one => exact ⟨_, List.mem_of_getElem? I.st0, rfl, Nat.le_refl _⟩
  | @snoc b c r _ hp ih =>
    obtain ⟨e, he, e1, e2⟩ := ih
    obtain ⟨i, hi⟩ := List.getElem?_of_mem he
    obtain ⟨li, _⟩ := List.getElem?_eq_some_iff.mp hi
    have li' : i < h' := Nat.lt_of_lt_of_le li hl
    obtain ⟨e', h1, h2, h3⟩ := I.done i e li' hi c (by rw [e1]; exact hp)
    refine ⟨e', h1, h2, ?_⟩
    rw [List.length_append]
    simp
    omega
theorem find_key {st : BSt} {b : Int} {e : Int × List Int} (h : st.find? (fun e => decide (e.1 = b)) = some e) : e ∈ st ∧ e.1 = b := ⟨List.mem_of_find?_eq_some h, by simpa using List.find?_some h⟩
theorem key_uniq {st : BSt} (n : (keysB st).Nodup) {e f : Int × List Int} (he : e ∈ st) (hf : f ∈ st) (h : e.1 = f.1) : e = f := by
  obtain ⟨i, hi⟩ := List.getElem?_of_mem he
  obtain ⟨j, hj⟩ := List.getElem?_of_mem hf
  obtain ⟨li, ei⟩ := List.getElem?_eq_some_iff.mp hi
  obtain ⟨lj, ej⟩ := List.getElem?_eq_some_iff.mp hj
  have z := List.pairwise_iff_getElem.mp n
  have l1 : (keysB st).length = st.length := List.length_map _
  rcases Nat.lt_trichotomy i j with l | l | l
  · have := z i j (by omega) (by omega) l
    unfold keysB at this
    rw [List.getElem_map, List.getElem_map, ei, ej] at this
    exact absurd h this
  · subst l
    rw [← ei, ← ej]
  · have := z j i (by omega) (by omega) l
    unfold keysB at this
    rw [List.getElem_map, List.getElem_map, ei, ej] at this
    exact absurd h.symm this
theorem bw_some {ps : List (Int × Int)} {m a b : Int} (hm : m ≤ 6) (hps : ∀ p ∈ ps, 0 ≤ p.2 ∧ p.2 < m) (ha : 0 ≤ a ∧ a < m) {r : List Int} (h : bwF ps a b = some r) :
    Way ps a b r ∧ r.Nodup ∧ (∀ x ∈ r, 0 ≤ x ∧ x < m) ∧ ∀ r', Way ps a b r' → r.length ≤ r'.length := by
  obtain ⟨h', I, hl⟩ := BInv.run hm hps (n := 8) (BInv.start (ps := ps) ha) (by omega)
  unfold bwF at h
  obtain ⟨e, he, rfl⟩ := Option.map_eq_some_iff.mp h
  obtain ⟨e1, e2⟩ := find_key he
  obtain ⟨w1, w2, w3⟩ := I.wy e e1
  refine ⟨e2 ▸ w1, w2, fun x hx => I.rg x (w3 x hx), fun r' hw => ?_⟩
  obtain ⟨f, hf, f1, f2⟩ := bfs_all hm hps ha hw
  rw [key_uniq I.nd e1 hf (e2.trans f1.symm)]
  exact f2
theorem bw_none {ps : List (Int × Int)} {m a b : Int} (hm : m ≤ 6) (hps : ∀ p ∈ ps, 0 ≤ p.2 ∧ p.2 < m) (ha : 0 ≤ a ∧ a < m) (h : bwF ps a b = none) (r : List Int) : ¬ Way ps a b r := fun hw => by
  obtain ⟨f, hf, f1, f2⟩ := bfs_all hm hps ha hw
  unfold bwF at h
  rw [Option.map_eq_none_iff, List.find?_eq_none] at h
  exact h f hf (decide_eq_true f1)
end Bm

namespace Bm
open PySem PySem.Spec PyProof.Rows L2 Evl
local macro_rules | `(tactic| wtm_at "rp") => `(tactic| first | exact rp_int | exact rp_bl | exact rp_str | exact rp_non | assumption | (refine' Rp.ex ?e ?h; (case h => assumption); (case e => assumption)) | exact Own.rp (by assumption))
local macro_rules | `(tactic| wtm_at "side") => `(tactic| first | assumption | omega | decide | rfl | exact ⟨by omega, by omega⟩)
local macro_rules | `(tactic| wtm_at "es") => `(tactic| first | exact evs_nil | (refine' evs_cons ?a ?b; (case a => wtm_at "ev"); (case b => wtm_at "es")))
local macro_rules | `(tactic| wtm_at "ev") => `(tactic| first
  | exact evd_int | exact evd_str | exact evd_bl | exact evd_non
  | (refine' evd_var rfl ?h; (case h => wtm_at "rp"))
  | ((with_reducible refine' evd_op ?a ?b rd_addI); (case a => wtm_at "ev"); (case b => wtm_at "ev"))
  | ((with_reducible refine' evd_op ?a ?b rd_subI); (case a => wtm_at "ev"); (case b => wtm_at "ev"))
  | ((with_reducible refine' evd_op ?a ?b (rd_mulI ?c)); (case a => wtm_at "ev"); (case b => wtm_at "ev"); (case c => wtm_at "side"))
  | ((with_reducible refine' evd_op ?a ?b (rd_divI ?c)); (case a => wtm_at "ev"); (case b => wtm_at "ev"); (case c => wtm_at "side"))
  | ((with_reducible refine' evd_op ?a ?b (rd_modI ?c)); (case a => wtm_at "ev"); (case b => wtm_at "ev"); (case c => wtm_at "side"))
  | ((with_reducible refine' evd_op ?a ?b rd_ltI); (case a => wtm_at "ev"); (case b => wtm_at "ev"))
  | ((with_reducible refine' evd_op ?a ?b rd_leI); (case a => wtm_at "ev"); (case b => wtm_at "ev"))
  | ((with_reducible refine' evd_op ?a ?b rd_gtI); (case a => wtm_at "ev"); (case b => wtm_at "ev"))
  | ((with_reducible refine' evd_op ?a ?b rd_geI); (case a => wtm_at "ev"); (case b => wtm_at "ev"))
  | ((with_reducible refine' evd_op ?a ?b rd_eqI); (case a => wtm_at "ev"); (case b => wtm_at "ev"))
  | ((with_reducible refine' evd_op ?a ?b rd_neI); (case a => wtm_at "ev"); (case b => wtm_at "ev"))
  | ((with_reducible refine' evd_op ?a ?b rd_eqB); (case a => wtm_at "ev"); (case b => wtm_at "ev"))
  | ((with_reducible refine' evd_op ?a ?b rd_neB); (case a => wtm_at "ev"); (case b => wtm_at "ev"))
  | ((with_reducible refine' evd_op ?a ?b rd_isNo); (case a => wtm_at "ev"); (case b => wtm_at "ev"))
  | ((with_reducible refine' evd_op ?a ?b rd_notNo); (case a => wtm_at "ev"); (case b => wtm_at "ev"))
  | ((with_reducible refine' evd_op ?a ?b rd_inIL); (case a => wtm_at "ev"); (case b => wtm_at "ev"))
  | ((with_reducible refine' evd_op ?a ?b rd_niIL); (case a => wtm_at "ev"); (case b => wtm_at "ev"))
  | ((with_reducible refine' evd_op ?a ?b rd_inID); (case a => wtm_at "ev"); (case b => wtm_at "ev"))
  | ((with_reducible refine' evd_op ?a ?b rd_niID); (case a => wtm_at "ev"); (case b => wtm_at "ev"))
  | ((with_reducible refine' evd_neg ?a); (case a => wtm_at "ev"))
  | ((with_reducible refine' evd_tix ?a ?b ?c); (case a => wtm_at "ev"); (case b => wtm_at "ev"); (case c => wtm_at "side"))
  | ((with_reducible refine' evd_tup ?a ?b); (case a => wtm_at "es"); (case b => exact Nat.le_of_ble_eq_true rfl))
  | ((with_reducible refine' evd_cb ?a cd_lenL); (case a => wtm_at "es"))
  | ((with_reducible refine' evd_cb ?a cd_lenT); (case a => wtm_at "es"))
  | ((with_reducible refine' evd_cb ?a cd_intB); (case a => wtm_at "es"))
  | ((with_reducible refine' evd_cb ?a cd_tupL); (case a => wtm_at "es"))
  | ((with_reducible refine' evd_and ?a ?b); (case a => wtm_at "ev"); (case b => intro _; wtm_at "ev"))
  | ((with_reducible refine' evd_or ?a ?b); (case a => wtm_at "ev"); (case b => intro _; wtm_at "ev"))
  | ((with_reducible refine' evd_not ?a); (case a => wtm_at "ev"))
  | ((with_reducible refine' evd_op ?a ?b rd_neIL); (case a => wtm_at "ev"); (case b => wtm_at "ev"))
  | ((with_reducible refine' evd_op ?a ?b rd_eqIL); (case a => wtm_at "ev"); (case b => wtm_at "ev"))
  | ((with_reducible refine' EvN.toD ?a); (case a => wtm_at "en")))
local macro_rules | `(tactic| wtm_at "en") => `(tactic| first
  | ((with_reducible refine' evn_cb ?a cn_sortTI); (case a => wtm_at "es"))
  | ((with_reducible refine' evn_cb ?a cn_listL); (case a => wtm_at "es"))
  | ((with_reducible refine' evn_cb ?a cn_listT); (case a => wtm_at "es"))
  | ((with_reducible refine' evn_rng ?a ?b); (case a => wtm_at "ev"); (case b => wtm_at "side"))
  | ((with_reducible refine' evn_lst ?a ?b); (case a => wtm_at "es"); (case b => exact Nat.le_of_ble_eq_true rfl))
  | ((with_reducible refine' evn_cat ?a ?b ?c); (case a => wtm_at "ev"); (case b => wtm_at "ev"); (case c => wtm_at "side"))
  | ((with_reducible refine' evn_slL ?a ?b ?c); (case a => wtm_at "ev"); (case b => first | exact evp_none | (refine' evp_some ?d; (case d => wtm_at "ev"))); (case c => first | exact evp_none | (refine' evp_some ?d; (case d => wtm_at "ev")))))
local macro_rules | `(tactic| wtm_at "et") => `(tactic| first
  | exact et_yes
  | (refine' ett ?a; (case a => wtm_at "ev"))
  | (refine' etB ?a; (case a => wtm_at "ev"))
  | (refine' et_and ?a ?b; (case a => wtm_at "et"); (case b => intro _; wtm_at "et"))
  | (refine' et_or ?a ?b; (case a => wtm_at "et"); (case b => intro _; wtm_at "et"))
  | (refine' et_not ?a; (case a => wtm_at "et")))
local macro_rules | `(tactic| wtm_at "nx") => `(tactic| try dsimp only [tSeq, tNext])
/-! ### rings, orders, plain -/
def srStep (ps : List (Int × Int)) (best : Option (List Int)) (p : Int × Int) : Option (List Int) := match bwF ps p.2 p.1 with
  | none => best
  | some r => match best with
    | none => some r
    | some b => if r.length < b.length then some r else some b
def srTo (ps qs : List (Int × Int)) : Option (List Int) := qs.foldl (srStep ps) none
def srF (ps : List (Int × Int)) : Option (List Int) := srTo ps ps
theorem srTo_snoc (ps qs : List (Int × Int)) (p : Int × Int) : srTo ps (qs ++ [p]) = srStep ps (srTo ps qs) p := by
  unfold srTo
  rw [List.foldl_append]
  rfl
theorem snoc_ind {α : Type} {P : List α → Prop} (h0 : P []) (hs : ∀ xs x, P xs → P (xs ++ [x])) (xs : List α) : P xs := by
  have : ∀ ys : List α, P ys.reverse := fun ys => by
    induction ys with
    | nil => exact h0
    | cons y ys ih =>
      rw [List.reverse_cons]
      exact hs _ _ ih
  have := this xs.reverse
  rwa [List.reverse_reverse] at this
theorem srTo_inv (ps : List (Int × Int)) : ∀ qs : List (Int × Int), (srTo ps qs = none → ∀ p ∈ qs, bwF ps p.2 p.1 = none) ∧
    ∀ r, srTo ps qs = some r → (∃ p ∈ qs, bwF ps p.2 p.1 = some r) ∧ ∀ p ∈ qs, ∀ r', bwF ps p.2 p.1 = some r' → r.length ≤ r'.length := by
  refine snoc_ind ⟨fun _ p hp => by simp at hp, fun r h => by simp [srTo] at h⟩ fun qs x ih => ?_
  obtain ⟨h1, h2⟩ := ih
  rw [srTo_snoc]
  unfold srStep
  cases hb : bwF ps x.2 x.1 with
  | none =>
    refine ⟨fun h p hp => ?_, fun r h => ?_⟩
    · rcases List.mem_append.mp hp with hp | hp
      · exact h1 h p hp
      · rw [List.mem_singleton.mp hp]
        exact hb
    · obtain ⟨⟨p, hp, e⟩, k⟩ := h2 r h
      refine ⟨⟨p, List.mem_append_left _ hp, e⟩, fun q hq r' hr => ?_⟩
      rcases List.mem_append.mp hq with hq | hq
      · exact k q hq r' hr
      · rw [List.mem_singleton.mp hq, hb] at hr
        cases hr
  | some r0 =>
    cases ht : srTo ps qs with
    | none =>
      dsimp only
      refine ⟨(fun h => nomatch h), fun r h => ?_⟩
      cases h
      refine ⟨⟨x, List.mem_append_right _ (by simp), hb⟩, fun q hq r' hr => ?_⟩
      rcases List.mem_append.mp hq with hq | hq
      · rw [h1 ht q hq] at hr
        cases hr
      · rw [List.mem_singleton.mp hq, hb] at hr
        cases hr
        exact Nat.le_refl _
    | some b =>
      dsimp only
      obtain ⟨⟨p, hp, e⟩, k⟩ := h2 b ht
      by_cases hl : r0.length < b.length
      · rw [if_pos hl]
        refine ⟨(fun h => nomatch h), fun r h => ?_⟩
        cases h
        refine ⟨⟨x, List.mem_append_right _ (by simp), hb⟩, fun q hq r' hr => ?_⟩
        rcases List.mem_append.mp hq with hq | hq
        · have := k q hq r' hr
          omega
        · rw [List.mem_singleton.mp hq, hb] at hr
          cases hr
          exact Nat.le_refl _
      · rw [if_neg hl]
        refine ⟨(fun h => nomatch h), fun r h => ?_⟩
        cases h
        refine ⟨⟨p, List.mem_append_left _ hp, e⟩, fun q hq r' hr => ?_⟩
        rcases List.mem_append.mp hq with hq | hq
        · exact k q hq r' hr
        · rw [List.mem_singleton.mp hq, hb] at hr
          cases hr
          omega
theorem Way.cas {ps : List (Int × Int)} {a b : Int} {r : List Int} (h : Way ps a b r) : (b = a ∧ r = [a]) ∨ ∃ c r0, Way ps a c r0 ∧ (c, b) ∈ ps ∧ r = r0 ++ [b] := by
  cases h with
  | one => exact .inl ⟨rfl, rfl⟩
  | snoc h hp => exact .inr ⟨_, _, h, hp, rfl⟩
theorem isWeb.rng {m : Int} {ps : List (Int × Int)} (h : isWeb m ps) : ∀ p ∈ ps, 0 ≤ p.2 ∧ p.2 < m := fun p hp => ⟨(h.good hp).2.2.1, (h.good hp).2.2.2.1⟩
/-- what a told ring is -/
structure Ring (m : Int) (ps : List (Int × Int)) (r : List Int) : Prop where
  l3 : 3 ≤ r.length
  l6 : r.length ≤ m.toNat
  nd : r.Nodup
  ch : ∀ (k : Nat) x y, r[k]? = some x → r[k + 1]? = some y → (x, y) ∈ ps
  cl : ∃ x y, r[0]? = some x ∧ r[r.length - 1]? = some y ∧ (y, x) ∈ ps
theorem sr_some {m : Int} {ps : List (Int × Int)} (hm : m ≤ 6) (h : isWeb m ps) {r : List Int} (e : srF ps = some r) : Ring m ps r ∧ ∀ a b r', Way ps a b r' → (b, a) ∈ ps → r.length ≤ r'.length := by
  obtain ⟨⟨p, hp, e2⟩, k⟩ := (srTo_inv ps ps).2 r e
  obtain ⟨g1, g2, g3, g4, g5⟩ := h.good hp
  obtain ⟨w1, w2, w3, _⟩ := bw_some hm h.rng ⟨g3, g4⟩ e2
  refine ⟨⟨?_, nodup_len w2 w3, w2, w1.step, p.2, p.1, w1.first, w1.last, hp⟩, fun a b r' hw hba => ?_⟩
  · rcases w1.cas with ⟨e, _⟩ | ⟨c, r0, h0, hb0, rfl⟩
    · exact absurd e g5
    · rcases h0.cas with ⟨e, _⟩ | ⟨c2, r1, h1, _, rfl⟩
      · rw [e] at hb0
        exact absurd hb0 (h.swp hp)
      · have := h1.pos
        rw [List.length_append, List.length_append]
        simp
        omega
  · have hb := h.good hba
    cases e3 : bwF ps a b with
    | none => exact absurd hw (bw_none hm h.rng ⟨hb.2.2.1, hb.2.2.2.1⟩ e3 r')
    | some r'' =>
      have h1 := k (b, a) hba r'' e3
      have h2 := (bw_some hm h.rng ⟨hb.2.2.1, hb.2.2.2.1⟩ e3).2.2.2 r' hw
      omega
/-! orders -/
def aheadF (ps : List (Int × Int)) (found : List Int) (t : Int) : List Int := (ps.filter fun p => decide (p.2 = t) && !decide (p.1 ∈ found)).map (·.1)
def freeF (m : Int) (ps : List (Int × Int)) (found : List Int) : List Int := (rgI 0 m.toNat).filter fun t => !decide (t ∈ found) && decide (aheadF ps found t = [])
def foGo (m : Int) (ps : List (Int × Int)) : Nat → List Int → Option (List Int)
  | 0, f => some f
  | n + 1, f => match freeF m ps f with
    | [] => none
    | t :: _ => foGo m ps n (f ++ [t])
def foF (m : Int) (ps : List (Int × Int)) : Option (List Int) := foGo m ps m.toNat []
def keepsF (ps : List (Int × Int)) (v : List Int) : Bool := decide (∀ p ∈ ps, ixOf p.1 v ≤ ixOf p.2 v)
theorem ixOf_lt {x : Int} : ∀ {v : List Int}, x ∈ v → ixOf x v < v.length
  | [], h => by simp at h
  | y :: ys, h => by
    unfold ixOf
    by_cases e : y = x
    · rw [if_pos e]
      exact Nat.succ_pos _
    · rw [if_neg e]
      have := ixOf_lt ((List.mem_cons.mp h).resolve_left fun z => e z.symm)
      rw [List.length_cons]
      omega
theorem ixOf_app {x : Int} : ∀ {v : List Int} (w : List Int), x ∈ v → ixOf x (v ++ w) = ixOf x v
  | [], _, h => by simp at h
  | y :: ys, w, h => by
    rw [List.cons_append]
    unfold ixOf
    by_cases e : y = x
    · rw [if_pos e, if_pos e]
    · rw [if_neg e, if_neg e, ixOf_app w ((List.mem_cons.mp h).resolve_left fun z => e z.symm)]
theorem ixOf_app2 {x : Int} : ∀ {v : List Int} (w : List Int), x ∉ v → ixOf x (v ++ w) = v.length + ixOf x w
  | [], _, _ => by simp
  | y :: ys, w, h => by
    rw [List.cons_append]
    have e : ¬ y = x := fun e => h (e ▸ List.mem_cons_self)
    conv => lhs; unfold ixOf
    rw [if_neg e, ixOf_app2 w fun z => h (List.mem_cons_of_mem _ z), List.length_cons]
    omega
theorem ord_full {m : Int} {f : List Int} (n : f.Nodup) (h : ∀ x ∈ f, 0 ≤ x ∧ x < m) (l : f.length = m.toNat) : isOrd m f := by
  rw [isOrd_iff]
  have hp : ((rgI 0 m.toNat).filter fun x => decide (x ∈ f)).Perm f := (List.perm_ext_iff_of_nodup ((rgI_nodup 0 m.toNat).filter _) n).mpr fun a => by
    rw [List.mem_filter, mem_rgI, decide_eq_true_eq]
    exact ⟨fun z => z.2, fun z => ⟨by have := h a z; omega, z⟩⟩
  have e : (rgI 0 m.toNat).filter (fun x => decide (x ∈ f)) = rgI 0 m.toNat := by
    rw [List.filter_eq_self]
    exact List.length_filter_eq_length_iff.mp (by rw [hp.length_eq, l, rgI_len])
  rw [e] at hp
  exact hp.symm
structure Pref (m : Int) (ps : List (Int × Int)) (f : List Int) : Prop where
  nd : f.Nodup
  rg : ∀ x ∈ f, 0 ≤ x ∧ x < m
  cl : ∀ p ∈ ps, p.2 ∈ f → p.1 ∈ f ∧ ixOf p.1 f ≤ ixOf p.2 f
theorem Pref.nil (m : Int) (ps : List (Int × Int)) : Pref m ps [] := ⟨List.nodup_nil, fun x h => by simp at h, fun p _ h => by simp at h⟩
theorem mem_free {m : Int} {ps : List (Int × Int)} {f : List Int} {t : Int} : t ∈ freeF m ps f ↔ (0 ≤ t ∧ t < m) ∧ t ∉ f ∧ ∀ p ∈ ps, p.2 = t → p.1 ∈ f := by
  unfold freeF
  rw [List.mem_filter, mem_rgI]
  simp only [Bool.and_eq_true, Bool.not_eq_true', decide_eq_false_iff_not, decide_eq_true_eq, aheadF, List.map_eq_nil_iff, List.filter_eq_nil_iff, not_and, Classical.not_not]
  exact ⟨fun ⟨a, b, c⟩ => ⟨by omega, b, c⟩, fun ⟨a, b, c⟩ => ⟨by omega, b, c⟩⟩
theorem Pref.snoc {m : Int} {ps : List (Int × Int)} {f : List Int} (h : Pref m ps f) {t : Int} (ht : t ∈ freeF m ps f) : Pref m ps (f ++ [t]) := by
  obtain ⟨t1, t2, t3⟩ := mem_free.mp ht
  refine ⟨?_, fun x hx => ?_, fun p hp h2 => ?_⟩
  · rw [List.nodup_append]
    refine ⟨h.nd, by simp, fun x hx y hy e => ?_⟩
    rw [List.mem_singleton.mp hy] at e
    exact t2 (e ▸ hx)
  · rcases List.mem_append.mp hx with hx | hx
    · exact h.rg x hx
    · rw [List.mem_singleton.mp hx]
      exact t1
  · by_cases h3 : p.2 ∈ f
    · obtain ⟨c1, c2⟩ := h.cl p hp h3
      refine ⟨List.mem_append_left _ c1, ?_⟩
      rw [ixOf_app _ c1, ixOf_app _ h3]
      exact c2
    · have e : p.2 = t := by
        rcases List.mem_append.mp h2 with h2 | h2
        · exact absurd h2 h3
        · exact List.mem_singleton.mp h2
      have c1 := t3 p hp e
      refine ⟨List.mem_append_left _ c1, ?_⟩
      rw [ixOf_app _ c1, ixOf_app2 _ h3]
      have := ixOf_lt c1
      omega
theorem Pref.keeps {m : Int} {ps : List (Int × Int)} {f : List Int} (h : Pref m ps f) (hl : f.length = m.toNat) (hps : ∀ p ∈ ps, 0 ≤ p.2 ∧ p.2 < m) : isOrd m f ∧ keepsF ps f = true := by
  have ho := ord_full h.nd h.rg hl
  refine ⟨ho, decide_eq_true fun p hp => (h.cl p hp (ho.mem.mpr (hps p hp))).2⟩
theorem foGo_some {m : Int} {ps : List (Int × Int)} (hps : ∀ p ∈ ps, 0 ≤ p.2 ∧ p.2 < m) {v : List Int} : ∀ {n : Nat} {f : List Int}, Pref m ps f → f.length + n = m.toNat → foGo m ps n f = some v → isOrd m v ∧ keepsF ps v = true
  | 0, f, P, hl, e => by
    cases e
    exact P.keeps hl hps
  | n + 1, f, P, hl, e => by
    unfold foGo at e
    cases hf : freeF m ps f with
    | nil => rw [hf] at e; cases e
    | cons t r =>
      rw [hf] at e
      exact foGo_some hps (P.snoc (by rw [hf]; exact List.mem_cons_self)) (by rw [List.length_append]; simp; omega) e
theorem foF_some {m : Int} {ps : List (Int × Int)} (hps : ∀ p ∈ ps, 0 ≤ p.2 ∧ p.2 < m) {v : List Int} (e : foF m ps = some v) : isOrd m v ∧ keepsF ps v = true := foGo_some hps (Pref.nil m ps) (by simp) e
/-- things left, each beaten by one left -/
structure Stuck (m : Int) (ps : List (Int × Int)) (f : List Int) : Prop where
  ne : ∃ t, 0 ≤ t ∧ t < m ∧ t ∉ f
  pr : ∀ t, 0 ≤ t → t < m → t ∉ f → ∃ p ∈ ps, p.2 = t ∧ p.1 ∉ f
theorem foGo_none {m : Int} {ps : List (Int × Int)} : ∀ {n : Nat} {f : List Int}, f.Nodup → (∀ x ∈ f, 0 ≤ x ∧ x < m) → f.length + n = m.toNat → foGo m ps n f = none → ∃ g, Stuck m ps g
  | 0, f, _, _, _, e => by cases e
  | n + 1, f, nd, rg, hl, e => by
    unfold foGo at e
    cases hf : freeF m ps f with
    | nil =>
      refine ⟨f, ?_, fun t t0 t1 tn => ?_⟩
      · refine Classical.byContradiction fun z => ?_
        have hp : (rgI 0 m.toNat).length ≤ f.length := by
          have e2 : (rgI 0 m.toNat).filter (fun x => decide (x ∈ f)) = rgI 0 m.toNat := by
            rw [List.filter_eq_self]
            intro a ha
            rw [mem_rgI] at ha
            exact decide_eq_true (Classical.byContradiction fun k => z ⟨a, ha.1, by omega, k⟩)
          have hp : ((rgI 0 m.toNat).filter fun x => decide (x ∈ f)).Perm f := (List.perm_ext_iff_of_nodup ((rgI_nodup 0 m.toNat).filter _) nd).mpr fun a => by
            rw [List.mem_filter, mem_rgI, decide_eq_true_eq]
            exact ⟨fun z => z.2, fun z => ⟨by have := rg a z; omega, z⟩⟩
          rw [e2] at hp
          rw [hp.length_eq]
          exact Nat.le_refl _
        rw [rgI_len] at hp
        omega
      · refine Classical.byContradiction fun z => ?_
        have : t ∈ freeF m ps f := mem_free.mpr ⟨⟨t0, t1⟩, tn, fun p hp hpt => Classical.byContradiction fun k => z ⟨p, hp, hpt, k⟩⟩
        rw [hf] at this
        cases this
    | cons t r =>
      rw [hf] at e
      have ht : t ∈ freeF m ps f := by rw [hf]; exact List.mem_cons_self
      obtain ⟨t1, t2, t3⟩ := mem_free.mp ht
      refine foGo_none ?_ ?_ (by rw [List.length_append]; simp; omega) e
      · rw [List.nodup_append]
        refine ⟨nd, by simp, fun x hx y hy e => ?_⟩
        rw [List.mem_singleton.mp hy] at e
        exact t2 (e ▸ hx)
      · intro x hx
        rcases List.mem_append.mp hx with hx | hx
        · exact rg x hx
        · rw [List.mem_singleton.mp hx]
          exact t1
theorem foF_none {m : Int} {ps : List (Int × Int)} (e : foF m ps = none) : ∃ g, Stuck m ps g := foGo_none List.nodup_nil (fun x h => by simp at h) (by simp) e
theorem Stuck.no {m : Int} {ps : List (Int × Int)} {f : List Int} (S : Stuck m ps f) (hw : isWeb m ps) {v : List Int} (hv : isOrd m v) : keepsF ps v = false := by
  refine decide_eq_false fun hk => ?_
  have : ∀ (n : Nat) t, 0 ≤ t → t < m → t ∉ f → ixOf t v = n → False := fun n => by
    induction n using Nat.strongRecOn with
    | _ n ih =>
      intro t t0 t1 tn e
      obtain ⟨p, hp, e2, hn⟩ := S.pr t t0 t1 tn
      obtain ⟨g1, g2, g3, g4, g5⟩ := hw.good hp
      have h1 := hk p hp
      have h2 := ixOf_ne (v := v) (hv.mem.mpr ⟨g1, g2⟩) g5
      rw [e2] at h1 h2
      exact ih (ixOf p.1 v) (by omega) p.1 g1 g2 hn rfl
  obtain ⟨t, t0, t1, tn⟩ := S.ne
  exact this _ t t0 t1 tn rfl
theorem Way.cons {ps : List (Int × Int)} {a b c : Int} {r : List Int} (h : Way ps b c r) (hp : (a, b) ∈ ps) : Way ps a c (a :: r) := by
  induction h with
  | one => exact Way.snoc .one hp
  | snoc _ h2 ih => exact Way.snoc ih h2
theorem Way.sub {ps : List (Int × Int)} {a b : Int} {r : List Int} (h : Way ps a b r) : ∀ {d i : Nat} {x y : Int}, r[i]? = some x → r[i + d]? = some y → ∃ r', Way ps x y r'
  | 0, i, x, y, h1, h2 => by
    rw [Nat.add_zero, h1] at h2
    cases h2
    exact ⟨_, .one⟩
  | d + 1, i, x, y, h1, h2 => by
    have hl := (List.getElem?_eq_some_iff.mp h2).1
    have hx := List.getElem?_eq_getElem (l := r) (i := i + d) (by omega)
    obtain ⟨r', hr⟩ := h.sub h1 hx
    exact ⟨_, hr.snoc (h.step (i + d) _ _ hx h2)⟩
theorem Stuck.ring {m : Int} {ps : List (Int × Int)} {f : List Int} (S : Stuck m ps f) (hm : m ≤ 6) (hw : isWeb m ps) : srF ps ≠ none := by
  intro hno
  have long : ∀ n : Nat, ∃ a b r, Way ps a b r ∧ r.length = n + 1 ∧ (∀ x ∈ r, 0 ≤ x ∧ x < m) ∧ a ∉ f := fun n => by
    induction n with
    | zero =>
      obtain ⟨t, t0, t1, tn⟩ := S.ne
      exact ⟨t, t, [t], .one, rfl, fun x hx => by rw [List.mem_singleton.mp hx]; exact ⟨t0, t1⟩, tn⟩
    | succ n ih =>
      obtain ⟨a, b, r, h1, h2, h3, h4⟩ := ih
      have ha := h3 a (List.mem_of_getElem? h1.first)
      obtain ⟨p, hp, e2, hn⟩ := S.pr a ha.1 ha.2 h4
      have g := hw.good hp
      refine ⟨p.1, b, p.1 :: r, h1.cons (by rw [← e2]; exact hp), by rw [List.length_cons, h2], fun x hx => ?_, hn⟩
      rcases List.mem_cons.mp hx with rfl | hx
      · exact ⟨g.1, g.2.1⟩
      · exact h3 x hx
  obtain ⟨a, b, r, h1, h2, h3, _⟩ := long m.toNat
  have hd : ¬ r.Nodup := fun z => by
    have := nodup_len z h3
    omega
  refine hd (List.pairwise_iff_getElem.mpr fun i j hi hj hij e => ?_)
  have xi := List.getElem?_eq_getElem hi
  have xj := List.getElem?_eq_getElem hj
  have xz := List.getElem?_eq_getElem (l := r) (i := i + 1) (by omega)
  have hp := h1.step i _ _ xi xz
  obtain ⟨r', hr⟩ := h1.sub (d := j - (i + 1)) xz (by rw [show i + 1 + (j - (i + 1)) = j by omega]; exact xj)
  have g := hw.good hp
  have hb := (srTo_inv ps ps).1 hno _ hp
  refine bw_none hm hw.rng ⟨g.2.2.1, g.2.2.2.1⟩ hb r' ?_
  rw [e]
  exact hr
theorem keeps_way {ps : List (Int × Int)} {v : List Int} (hk : keepsF ps v = true) {a b : Int} {r : List Int} (h : Way ps a b r) : ixOf a v ≤ ixOf b v := by
  have hk := of_decide_eq_true hk
  induction h with
  | one => exact Nat.le_refl _
  | snoc _ hp ih => exact Nat.le_trans ih (hk _ hp)
theorem keeps_noring {m : Int} {ps : List (Int × Int)} (hm : m ≤ 6) (hw : isWeb m ps) {v : List Int} (hv : isOrd m v) (hk : keepsF ps v = true) : srF ps = none := by
  cases e : srF ps with
  | none => rfl
  | some r =>
    obtain ⟨⟨p, hp, e2⟩, _⟩ := (srTo_inv ps ps).2 r e
    obtain ⟨g1, g2, g3, g4, g5⟩ := hw.good hp
    have h1 := keeps_way hk (bw_some hm hw.rng ⟨g3, g4⟩ e2).1
    have h2 := of_decide_eq_true hk p hp
    have h3 := ixOf_ne (v := v) (hv.mem.mpr ⟨g1, g2⟩) g5
    omega
/-- an order where no ring is, a ring where no order is -/
theorem order_or_ring {m : Int} {ps : List (Int × Int)} (hm : m ≤ 6) (hw : isWeb m ps) : (∃ v, foF m ps = some v ∧ isOrd m v ∧ keepsF ps v = true ∧ srF ps = none) ∨ (foF m ps = none ∧ (∀ v, isOrd m v → keepsF ps v = false) ∧ ∃ r, srF ps = some r) := by
  cases e : foF m ps with
  | some v =>
    obtain ⟨h1, h2⟩ := foF_some hw.rng e
    exact .inl ⟨v, rfl, h1, h2, keeps_noring hm hw h1 h2⟩
  | none =>
    obtain ⟨g, S⟩ := foF_none e
    refine .inr ⟨rfl, fun v hv => S.no hw hv, ?_⟩
    cases e2 : srF ps with
    | none => exact absurd e2 (S.ring hm hw)
    | some r => exact ⟨r, rfl⟩
end Bm

namespace Bm
open PySem PySem.Spec PyProof.Rows L2 Evl
local macro_rules | `(tactic| wtm_at "rp") => `(tactic| first | exact rp_int | exact rp_bl | exact rp_str | exact rp_non | assumption | (refine' Rp.ex ?e ?h; (case h => assumption); (case e => assumption)) | exact Own.rp (by assumption))
local macro_rules | `(tactic| wtm_at "side") => `(tactic| first | assumption | omega | decide | rfl | exact ⟨by omega, by omega⟩)
local macro_rules | `(tactic| wtm_at "es") => `(tactic| first | exact evs_nil | (refine' evs_cons ?a ?b; (case a => wtm_at "ev"); (case b => wtm_at "es")))
local macro_rules | `(tactic| wtm_at "ev") => `(tactic| first
  | exact evd_int | exact evd_str | exact evd_bl | exact evd_non
  | (refine' evd_var rfl ?h; (case h => wtm_at "rp"))
  | ((with_reducible refine' evd_op ?a ?b rd_addI); (case a => wtm_at "ev"); (case b => wtm_at "ev"))
  | ((with_reducible refine' evd_op ?a ?b rd_subI); (case a => wtm_at "ev"); (case b => wtm_at "ev"))
  | ((with_reducible refine' evd_op ?a ?b (rd_mulI ?c)); (case a => wtm_at "ev"); (case b => wtm_at "ev"); (case c => wtm_at "side"))
  | ((with_reducible refine' evd_op ?a ?b (rd_divI ?c)); (case a => wtm_at "ev"); (case b => wtm_at "ev"); (case c => wtm_at "side"))
  | ((with_reducible refine' evd_op ?a ?b (rd_modI ?c)); (case a => wtm_at "ev"); (case b => wtm_at "ev"); (case c => wtm_at "side"))
  | ((with_reducible refine' evd_op ?a ?b rd_ltI); (case a => wtm_at "ev"); (case b => wtm_at "ev"))
  | ((with_reducible refine' evd_op ?a ?b rd_leI); (case a => wtm_at "ev"); (case b => wtm_at "ev"))
  | ((with_reducible refine' evd_op ?a ?b rd_gtI); (case a => wtm_at "ev"); (case b => wtm_at "ev"))
  | ((with_reducible refine' evd_op ?a ?b rd_geI); (case a => wtm_at "ev"); (case b => wtm_at "ev"))
  | ((with_reducible refine' evd_op ?a ?b rd_eqI); (case a => wtm_at "ev"); (case b => wtm_at "ev"))
  | ((with_reducible refine' evd_op ?a ?b rd_neI); (case a => wtm_at "ev"); (case b => wtm_at "ev"))
  | ((with_reducible refine' evd_op ?a ?b rd_eqB); (case a => wtm_at "ev"); (case b => wtm_at "ev"))
  | ((with_reducible refine' evd_op ?a ?b rd_neB); (case a => wtm_at "ev"); (case b => wtm_at "ev"))
  | ((with_reducible refine' evd_op ?a ?b rd_isNo); (case a => wtm_at "ev"); (case b => wtm_at "ev"))
  | ((with_reducible refine' evd_op ?a ?b rd_notNo); (case a => wtm_at "ev"); (case b => wtm_at "ev"))
  | ((with_reducible refine' evd_op ?a ?b rd_inIL); (case a => wtm_at "ev"); (case b => wtm_at "ev"))
  | ((with_reducible refine' evd_op ?a ?b rd_niIL); (case a => wtm_at "ev"); (case b => wtm_at "ev"))
  | ((with_reducible refine' evd_op ?a ?b rd_inID); (case a => wtm_at "ev"); (case b => wtm_at "ev"))
  | ((with_reducible refine' evd_op ?a ?b rd_niID); (case a => wtm_at "ev"); (case b => wtm_at "ev"))
  | ((with_reducible refine' evd_neg ?a); (case a => wtm_at "ev"))
  | ((with_reducible refine' evd_tix ?a ?b ?c); (case a => wtm_at "ev"); (case b => wtm_at "ev"); (case c => wtm_at "side"))
  | ((with_reducible refine' evd_tup ?a ?b); (case a => wtm_at "es"); (case b => exact Nat.le_of_ble_eq_true rfl))
  | ((with_reducible refine' evd_cb ?a cd_lenL); (case a => wtm_at "es"))
  | ((with_reducible refine' evd_cb ?a cd_lenT); (case a => wtm_at "es"))
  | ((with_reducible refine' evd_cb ?a cd_intB); (case a => wtm_at "es"))
  | ((with_reducible refine' evd_cb ?a cd_tupL); (case a => wtm_at "es"))
  | ((with_reducible refine' evd_and ?a ?b); (case a => wtm_at "ev"); (case b => intro _; wtm_at "ev"))
  | ((with_reducible refine' evd_or ?a ?b); (case a => wtm_at "ev"); (case b => intro _; wtm_at "ev"))
  | ((with_reducible refine' evd_not ?a); (case a => wtm_at "ev"))
  | ((with_reducible refine' evd_op ?a ?b rd_neIL); (case a => wtm_at "ev"); (case b => wtm_at "ev"))
  | ((with_reducible refine' evd_op ?a ?b rd_eqIL); (case a => wtm_at "ev"); (case b => wtm_at "ev"))
  | ((with_reducible refine' EvN.toD ?a); (case a => wtm_at "en")))
local macro_rules | `(tactic| wtm_at "en") => `(tactic| first
  | ((with_reducible refine' evn_cb ?a cn_sortTI); (case a => wtm_at "es"))
  | ((with_reducible refine' evn_cb ?a cn_listL); (case a => wtm_at "es"))
  | ((with_reducible refine' evn_cb ?a cn_listT); (case a => wtm_at "es"))
  | ((with_reducible refine' evn_rng ?a ?b); (case a => wtm_at "ev"); (case b => wtm_at "side"))
  | ((with_reducible refine' evn_lst ?a ?b); (case a => wtm_at "es"); (case b => exact Nat.le_of_ble_eq_true rfl))
  | ((with_reducible refine' evn_cat ?a ?b ?c); (case a => wtm_at "ev"); (case b => wtm_at "ev"); (case c => wtm_at "side"))
  | ((with_reducible refine' evn_slL ?a ?b ?c); (case a => wtm_at "ev"); (case b => first | exact evp_none | (refine' evp_some ?d; (case d => wtm_at "ev"))); (case c => first | exact evp_none | (refine' evp_some ?d; (case d => wtm_at "ev")))))
local macro_rules | `(tactic| wtm_at "et") => `(tactic| first
  | exact et_yes
  | (refine' ett ?a; (case a => wtm_at "ev"))
  | (refine' etB ?a; (case a => wtm_at "ev"))
  | (refine' et_and ?a ?b; (case a => wtm_at "et"); (case b => intro _; wtm_at "et"))
  | (refine' et_or ?a ?b; (case a => wtm_at "et"); (case b => intro _; wtm_at "et"))
  | (refine' et_not ?a; (case a => wtm_at "et")))
local macro_rules | `(tactic| wtm_at "nx") => `(tactic| try dsimp only [tSeq, tNext])
/-! ### all orders, rising -/
def extRow (m : Int) (row : List Int) : List (List Int) := ((rgI 0 m.toNat).filter fun t => !decide (t ∈ row)).map fun t => row ++ [t]
def rowsF (m : Int) : Nat → List (List Int)
  | 0 => [[]]
  | k + 1 => ((rowsF m k).map (extRow m)).flatten
def extAll (m : Int) : Nat → List Int → List (List Int)
  | 0, r => [r]
  | n + 1, r => ((extRow m r).map (extAll m n)).flatten
theorem extAll_succ (m : Int) : ∀ (n : Nat) (r : List Int), extAll m (n + 1) r = ((extAll m n r).map (extRow m)).flatten
  | 0, r => by
    show ((extRow m r).map fun r => [r]).flatten = ([r].map (extRow m)).flatten
    have e : ∀ xs : List (List Int), (xs.map fun r => [r]).flatten = xs := fun xs => by
      induction xs with
      | nil => rfl
      | cons x xs ih => rw [List.map_cons, List.flatten_cons, ih]; rfl
    rw [e]
    simp
  | n + 1, r => by
    have ih := extAll_succ m n
    show ((extRow m r).map (extAll m (n + 1))).flatten = (((extRow m r).map (extAll m n)).flatten.map (extRow m)).flatten
    have e : ∀ xs : List (List Int), (xs.map (extAll m (n + 1))).flatten = ((xs.map (extAll m n)).flatten.map (extRow m)).flatten := fun xs => by
      induction xs with
      | nil => rfl
      | cons x xs ihx => rw [List.map_cons, List.flatten_cons, List.map_cons, List.flatten_cons, List.map_append, List.flatten_append, ihx, ih]
    exact e _
theorem rowsF_all (m : Int) : ∀ k, rowsF m k = extAll m k []
  | 0 => rfl
  | k + 1 => by
    rw [extAll_succ, ← rowsF_all m k]
    rfl
theorem extRow_len {m : Int} (hm : m ≤ 6) (r : List Int) : (extRow m r).length ≤ 6 := by
  unfold extRow
  rw [List.length_map]
  exact Nat.le_trans (List.length_filter_le _ _) (by rw [rgI_len]; omega)
theorem rowsF_len {m : Int} (hm : m ≤ 6) : ∀ k, (rowsF m k).length ≤ 6 ^ k
  | 0 => Nat.le_refl _
  | k + 1 => by
    show ((rowsF m k).map (extRow m)).flatten.length ≤ _
    refine Nat.le_trans (flat_len (k := 6) fun xs hx => ?_) ?_
    · obtain ⟨r, _, rfl⟩ := List.mem_map.mp hx
      exact extRow_len hm r
    · rw [List.length_map, Nat.pow_succ]
      exact Nat.mul_le_mul (rowsF_len hm k) (Nat.le_refl _)
theorem mem_extAll {m : Int} {w : List Int} : ∀ {n : Nat} {r : List Int}, w ∈ extAll m n r → r.Nodup → (∀ x ∈ r, 0 ≤ x ∧ x < m) → (∃ s, w = r ++ s ∧ s.length = n) ∧ w.Nodup ∧ ∀ x ∈ w, 0 ≤ x ∧ x < m
  | 0, r, h, nd, rg => by
    rw [List.mem_singleton.mp h]
    exact ⟨⟨[], by simp⟩, nd, rg⟩
  | n + 1, r, h, nd, rg => by
    obtain ⟨l, hl, hw⟩ := List.mem_flatten.mp h
    obtain ⟨r', hr, rfl⟩ := List.mem_map.mp hl
    unfold extRow at hr
    obtain ⟨t, ht, rfl⟩ := List.mem_map.mp hr
    rw [List.mem_filter, mem_rgI] at ht
    have tn : t ∉ r := by simpa using ht.2
    obtain ⟨⟨s, e, hs⟩, h2, h3⟩ := mem_extAll hw (by
      rw [List.nodup_append]
      refine ⟨nd, by simp, fun x hx y hy e => ?_⟩
      rw [List.mem_singleton.mp hy] at e
      exact tn (e ▸ hx)) (fun x hx => by
      rcases List.mem_append.mp hx with hx | hx
      · exact rg x hx
      · rw [List.mem_singleton.mp hx]
        have := ht.1
        omega)
    refine ⟨⟨t :: s, by rw [e, List.append_assoc]; rfl, by rw [List.length_cons, hs]⟩, h2, h3⟩
theorem rowsF_ord {m : Int} {w : List Int} (h : w ∈ rowsF m m.toNat) : isOrd m w := by
  rw [rowsF_all] at h
  obtain ⟨⟨s, e, hs⟩, h2, h3⟩ := mem_extAll h List.nodup_nil fun x h => by simp at h
  exact ord_full h2 h3 (by rw [e]; simpa using hs)
theorem rowsF_sz {m : Int} {w : List Int} {k : Nat} (h : w ∈ rowsF m k) : w.length = k := by
  rw [rowsF_all] at h
  obtain ⟨⟨s, e, hs⟩, _⟩ := mem_extAll h List.nodup_nil fun x h => by simp at h
  rw [e]
  simpa using hs
theorem filter_split {α : Type} {p : α → Bool} {t : α} {rest : List α} : ∀ {l : List α}, l.filter p = t :: rest → ∃ l1 l2, l = l1 ++ t :: l2 ∧ (∀ x ∈ l1, p x = false)
  | [], h => by cases h
  | x :: l, h => by
    rw [List.filter_cons] at h
    by_cases hx : p x = true
    · rw [if_pos hx] at h
      injection h with h1 h2
      subst h1
      exact ⟨[], l, rfl, fun x h => by simp at h⟩
    · rw [if_neg hx] at h
      obtain ⟨l1, l2, e, k⟩ := filter_split h
      refine ⟨x :: l1, l2, by rw [e]; rfl, fun y hy => ?_⟩
      rcases List.mem_cons.mp hy with rfl | hy
      · simpa using hx
      · exact k y hy
theorem extAll_head {m : Int} {ps : List (Int × Int)} (hw : isWeb m ps) {v : List Int} : ∀ {n : Nat} {f : List Int}, Pref m ps f → f.length + n = m.toNat → foGo m ps n f = some v → ∃ tl, (extAll m n f).filter (keepsF ps) = v :: tl
  | 0, f, P, hl, e => by
    have e2 : f = v := Option.some.inj e
    refine ⟨[], ?_⟩
    show [f].filter _ = _
    rw [List.filter_cons, if_pos (P.keeps hl hw.rng).2, e2]
    rfl
  | n + 1, f, P, hl, e => by
    unfold foGo at e
    cases hf : freeF m ps f with
    | nil => rw [hf] at e; cases e
    | cons t rest =>
      rw [hf] at e
      have ht : t ∈ freeF m ps f := by rw [hf]; exact List.mem_cons_self
      obtain ⟨tl, ih⟩ := extAll_head hw (P.snoc ht) (by rw [List.length_append]; show f.length + 1 + n = _; omega) e
      have e2 : ((rgI 0 m.toNat).filter fun t => !decide (t ∈ f)).filter (fun t => decide (aheadF ps f t = [])) = t :: rest := by
        rw [List.filter_filter, ← hf]
        unfold freeF
        refine List.filter_congr fun x _ => ?_
        exact Bool.and_comm _ _
      obtain ⟨l1, l2, e3, k⟩ := filter_split e2
      have no : ∀ xs : List Int, (∀ x ∈ xs, x ∉ f ∧ decide (aheadF ps f x = []) = false) → (((xs.map fun t => f ++ [t]).map (extAll m n)).flatten).filter (keepsF ps) = [] := fun xs hx => by
        rw [List.filter_eq_nil_iff]
        intro w hw2
        obtain ⟨l, hl2, hwl⟩ := List.mem_flatten.mp hw2
        obtain ⟨r', hr, rfl⟩ := List.mem_map.mp hl2
        obtain ⟨u, hu, rfl⟩ := List.mem_map.mp hr
        obtain ⟨un, ua⟩ := hx u hu
        have ua : ¬ aheadF ps f u = [] := by simpa using ua
        unfold aheadF at ua
        rw [List.map_eq_nil_iff, List.filter_eq_nil_iff] at ua
        have ⟨p, hp⟩ := Classical.not_forall.mp ua
        obtain ⟨hp1, hp2⟩ := Classical.not_imp.mp hp
        have hp3 : p.2 = u ∧ p.1 ∉ f := by simpa using hp2
        have sx : ∃ s, w = (f ++ [u]) ++ s := by
          have : ∀ {n : Nat} {r : List Int}, w ∈ extAll m n r → ∃ s, w = r ++ s := fun {n} => by
            induction n with
            | zero => exact fun {r} h => ⟨[], by rw [List.mem_singleton.mp h]; simp⟩
            | succ n ihn =>
              intro r h
              obtain ⟨l, hl, hw⟩ := List.mem_flatten.mp h
              obtain ⟨r', hr, rfl⟩ := List.mem_map.mp hl
              unfold extRow at hr
              obtain ⟨t, ht, rfl⟩ := List.mem_map.mp hr
              obtain ⟨s, e⟩ := ihn hw
              exact ⟨t :: s, by rw [e, List.append_assoc]; rfl⟩
          exact this hwl
        obtain ⟨s, rfl⟩ := sx
        intro hk
        have hk := of_decide_eq_true hk p hp1
        have g := hw.good hp1
        rw [hp3.1, List.append_assoc, ixOf_app2 _ hp3.2, ixOf_app2 _ un, List.singleton_append] at hk
        have z1 : ixOf u (u :: s) = 0 := by unfold ixOf; exact if_pos rfl
        have z2 : ixOf p.1 (u :: s) ≠ 0 := by
          unfold ixOf
          rw [if_neg (fun z => g.2.2.2.2 (z.symm.trans hp3.1.symm))]
          omega
        omega
      refine ⟨tl ++ ((((l2.map fun t => f ++ [t]).map (extAll m n)).flatten).filter (keepsF ps)), ?_⟩
      show (((extRow m f).map (extAll m n)).flatten).filter (keepsF ps) = _
      unfold extRow
      rw [e3, List.map_append, List.map_append, List.flatten_append, List.filter_append, no l1 fun x hx => ⟨?_, k x hx⟩, List.map_cons, List.map_cons, List.flatten_cons, List.filter_append, ih]
      · rfl
      · have : x ∈ (rgI 0 m.toNat).filter fun t => !decide (t ∈ f) := by
          rw [e3]
          exact List.mem_append_left _ hx
        rw [List.mem_filter] at this
        simpa using this.2
theorem due_some {m : Int} {ps : List (Int × Int)} (hw : isWeb m ps) {v : List Int} (e : foF m ps = some v) : ∃ tl, (rowsF m m.toNat).filter (keepsF ps) = v :: tl := by
  rw [rowsF_all]
  exact extAll_head hw (Pref.nil m ps) (by simp) e
theorem due_none {m : Int} {ps : List (Int × Int)} (h : ∀ v, isOrd m v → keepsF ps v = false) : (rowsF m m.toNat).filter (keepsF ps) = [] := by
  rw [List.filter_eq_nil_iff]
  intro w hw
  rw [h w (rowsF_ord hw)]
  exact Bool.false_ne_true
end Bm

namespace Bm
open PySem PySem.Spec PyProof.Rows L2 Evl
local macro_rules | `(tactic| wtm_at "rp") => `(tactic| first | exact rp_int | exact rp_bl | exact rp_str | exact rp_non | assumption | (refine' Rp.ex ?e ?h; (case h => assumption); (case e => assumption)) | exact Own.rp (by assumption))
local macro_rules | `(tactic| wtm_at "side") => `(tactic| first | assumption | omega | decide | rfl | exact ⟨by omega, by omega⟩)
local macro_rules | `(tactic| wtm_at "es") => `(tactic| first | exact evs_nil | (refine' evs_cons ?a ?b; (case a => wtm_at "ev"); (case b => wtm_at "es")))
local macro_rules | `(tactic| wtm_at "ev") => `(tactic| first
  | exact evd_int | exact evd_str | exact evd_bl | exact evd_non
  | (refine' evd_var rfl ?h; (case h => wtm_at "rp"))
  | ((with_reducible refine' evd_op ?a ?b rd_addI); (case a => wtm_at "ev"); (case b => wtm_at "ev"))
  | ((with_reducible refine' evd_op ?a ?b rd_subI); (case a => wtm_at "ev"); (case b => wtm_at "ev"))
  | ((with_reducible refine' evd_op ?a ?b (rd_mulI ?c)); (case a => wtm_at "ev"); (case b => wtm_at "ev"); (case c => wtm_at "side"))
  | ((with_reducible refine' evd_op ?a ?b (rd_divI ?c)); (case a => wtm_at "ev"); (case b => wtm_at "ev"); (case c => wtm_at "side"))
  | ((with_reducible refine' evd_op ?a ?b (rd_modI ?c)); (case a => wtm_at "ev"); (case b => wtm_at "ev"); (case c => wtm_at "side"))
  | ((with_reducible refine' evd_op ?a ?b rd_ltI); (case a => wtm_at "ev"); (case b => wtm_at "ev"))
  | ((with_reducible refine' evd_op ?a ?b rd_leI); (case a => wtm_at "ev"); (case b => wtm_at "ev"))
  | ((with_reducible refine' evd_op ?a ?b rd_gtI); (case a => wtm_at "ev"); (case b => wtm_at "ev"))
  | ((with_reducible refine' evd_op ?a ?b rd_geI); (case a => wtm_at "ev"); (case b => wtm_at "ev"))
  | ((with_reducible refine' evd_op ?a ?b rd_eqI); (case a => wtm_at "ev"); (case b => wtm_at "ev"))
  | ((with_reducible refine' evd_op ?a ?b rd_neI); (case a => wtm_at "ev"); (case b => wtm_at "ev"))
  | ((with_reducible refine' evd_op ?a ?b rd_eqB); (case a => wtm_at "ev"); (case b => wtm_at "ev"))
  | ((with_reducible refine' evd_op ?a ?b rd_neB); (case a => wtm_at "ev"); (case b => wtm_at "ev"))
  | ((with_reducible refine' evd_op ?a ?b rd_isNo); (case a => wtm_at "ev"); (case b => wtm_at "ev"))
  | ((with_reducible refine' evd_op ?a ?b rd_notNo); (case a => wtm_at "ev"); (case b => wtm_at "ev"))
  | ((with_reducible refine' evd_op ?a ?b rd_inIL); (case a => wtm_at "ev"); (case b => wtm_at "ev"))
  | ((with_reducible refine' evd_op ?a ?b rd_niIL); (case a => wtm_at "ev"); (case b => wtm_at "ev"))
  | ((with_reducible refine' evd_op ?a ?b rd_inID); (case a => wtm_at "ev"); (case b => wtm_at "ev"))
  | ((with_reducible refine' evd_op ?a ?b rd_niID); (case a => wtm_at "ev"); (case b => wtm_at "ev"))
  | ((with_reducible refine' evd_neg ?a); (case a => wtm_at "ev"))
  | ((with_reducible refine' evd_tix ?a ?b ?c); (case a => wtm_at "ev"); (case b => wtm_at "ev"); (case c => wtm_at "side"))
  | ((with_reducible refine' evd_tup ?a ?b); (case a => wtm_at "es"); (case b => exact Nat.le_of_ble_eq_true rfl))
  | ((with_reducible refine' evd_cb ?a cd_lenL); (case a => wtm_at "es"))
  | ((with_reducible refine' evd_cb ?a cd_lenT); (case a => wtm_at "es"))
  | ((with_reducible refine' evd_cb ?a cd_intB); (case a => wtm_at "es"))
  | ((with_reducible refine' evd_cb ?a cd_tupL); (case a => wtm_at "es"))
  | ((with_reducible refine' evd_and ?a ?b); (case a => wtm_at "ev"); (case b => intro _; wtm_at "ev"))
  | ((with_reducible refine' evd_or ?a ?b); (case a => wtm_at "ev"); (case b => intro _; wtm_at "ev"))
  | ((with_reducible refine' evd_not ?a); (case a => wtm_at "ev"))
  | ((with_reducible refine' evd_op ?a ?b rd_neIL); (case a => wtm_at "ev"); (case b => wtm_at "ev"))
  | ((with_reducible refine' evd_op ?a ?b rd_eqIL); (case a => wtm_at "ev"); (case b => wtm_at "ev"))
  | ((with_reducible refine' EvN.toD ?a); (case a => wtm_at "en")))
local macro_rules | `(tactic| wtm_at "en") => `(tactic| first
  | ((with_reducible refine' evn_cb ?a cn_sortTI); (case a => wtm_at "es"))
  | ((with_reducible refine' evn_cb ?a cn_listL); (case a => wtm_at "es"))
  | ((with_reducible refine' evn_cb ?a cn_listT); (case a => wtm_at "es"))
  | ((with_reducible refine' evn_rng ?a ?b); (case a => wtm_at "ev"); (case b => wtm_at "side"))
  | ((with_reducible refine' evn_lst ?a ?b); (case a => wtm_at "es"); (case b => exact Nat.le_of_ble_eq_true rfl))
  | ((with_reducible refine' evn_cat ?a ?b ?c); (case a => wtm_at "ev"); (case b => wtm_at "ev"); (case c => wtm_at "side"))
  | ((with_reducible refine' evn_slL ?a ?b ?c); (case a => wtm_at "ev"); (case b => first | exact evp_none | (refine' evp_some ?d; (case d => wtm_at "ev"))); (case c => first | exact evp_none | (refine' evp_some ?d; (case d => wtm_at "ev")))))
local macro_rules | `(tactic| wtm_at "et") => `(tactic| first
  | exact et_yes
  | (refine' ett ?a; (case a => wtm_at "ev"))
  | (refine' etB ?a; (case a => wtm_at "ev"))
  | (refine' et_and ?a ?b; (case a => wtm_at "et"); (case b => intro _; wtm_at "et"))
  | (refine' et_or ?a ?b; (case a => wtm_at "et"); (case b => intro _; wtm_at "et"))
  | (refine' et_not ?a; (case a => wtm_at "et")))
local macro_rules | `(tactic| wtm_at "nx") => `(tactic| try dsimp only [tSeq, tNext])
/-! ### orders_of, signs_of, wished_signs, sign_of -/
def sp_orders_of : Sp := spO (α := Int) (fun a => [.int a]) (fun a => 0 ≤ a ∧ a ≤ 6) fun a => .new ((rowsF a a.toNat).map iD)
theorem len_orders_of (vs : List V) (H : Hp) (Q : VK) (E : XK) (h : sp_orders_of vs H Q E) : vs.length = 1 := by
  unfold sp_orders_of at h
  obtain ⟨a, r, _⟩ := h
  rw [r.len]
  rfl
theorem rowsTo_len2 {m : Int} (hm : m ≤ 6) (rs : List (List Int)) : ((rs.map (extRow m)).flatten).length ≤ rs.length * 6 := by
  have := flat_len (k := 6) (xss := rs.map (extRow m)) fun xs hx => by
    obtain ⟨r, _, rfl⟩ := List.mem_map.mp hx
    exact extRow_len hm r
  rwa [List.length_map] at this
section
variable {P : Program} {w : World} {K : PySem.W.Frag} {mg : Str → Option Value} {base : Heap}
theorem ok_orders_of {f : Addr} {fd : FuncData} (D : Df K mg "orders_of" s_orders_of ["many"] f fd) (Bi : Bi mg) : FnOk P w K mg base CX0 1 f fd ["many"] sp_orders_of := by
  refine D.F.ok c_orders_of (fun vs H Q E h => len_orders_of _ _ _ _ h) (fun cdv A outer s H vs Q E hr h => ?_)
  refine ⟨_, (pss_cons (ps_set (i := 1) c_orders_of.nd rfl (.inl rfl) (pe_lst (pa_cons (pe_tupF pa_nil) pa_nil)))
      (pss_cons (ps_for (PassesOwn.never) rfl (pi_range1 (by rfl) Bi.range (pa_cons (pv 0) pa_nil)) (pg_name (i := 2) c_orders_of.nd rfl (.inl rfl))
      (pss_cons (ps_set (i := 3) c_orders_of.nd rfl (.inl rfl) (pe_lst pa_nil))
      (pss_cons (ps_for (PassesOwn.never) rfl (pi_listK (K := K) (pv 1)) (pg_name (i := 4) c_orders_of.nd rfl (.inr rfl))
      (pss_one (ps_expr (pe_bm PySem.F.plainAttrs_list PySem.F.slot_list_extend PySem.F.type_list_extend mt_extend (pv 3) (pa_cons (pe_lc (own := [("thing", 5)]) (g := (gName 5)) rfl c_orders_of.nd (pi_range1 (by rfl) Bi.range (pa_cons (pv 0) pa_nil)) (blkOk_by (own := [("thing", 5)]) (N := ["many", "rows", "k", "longer", "row", "thing"]) (sc := defScope s_orders_of) (by decide +kernel)) (fun _ _ _ _ _ => (pg_name (i := 5) c_orders_of.nd rfl (.inl rfl))) (fun _ _ _ _ _ => pts_one (pt_cmpR (op_niFK (K := K)) (pv 5) (pv 4) (by rfl))) (fun _ _ _ _ _ => (pe_op (op_catFK (K := K)) (pv 4) (pe_tupF (pa_cons (pv 5) pa_nil))))) pa_nil)))))
      (pss_one (ps_set (i := 1) c_orders_of.nd rfl (.inl rfl) (pv 3))))))
      (pss_one (ps_ret (pv 1))))), ?_⟩
  obtain ⟨m, ⟨v1, _, rfl, rfl, rfl⟩, ⟨m0, m6⟩, q⟩ := h
  dsimp only at q m0 m6
  refine' s_asgNL (ds := [[]].map iD) (evn_lst (ds := [.tuple []]) (evs_cons (evd_tup evs_nil (Nat.zero_le _)) evs_nil) (by decide)) (Ex.refl H) fun vr H1 e1 r1 => ?_
  wtm_at "nx"
  refine' s_forR (n := m) ?n (by omega) fun H3 e3 => ⟨fun i σ' H' => (∃ vr y z u t, σ' = [some (.int m), some vr, y, z, u, t] ∧ NL H H' ((rowsF m i).map iD) vr) ∧ i ≤ m.toNat ∧ Ex H H', ?_, ?_, ?_⟩
  case n => wtm_at "es"
  · exact ⟨⟨vr, none, none, none, none, rfl, r1.ex e3⟩, Nat.zero_le _, e1.trans e3⟩
  · rintro i σ' H' hi ⟨⟨vr, y, z, u, t, rfl, hr⟩, hi2, e⟩
    refine g_name ?_
    refine' s_asgO (evn_lst evs_nil (by decide)) rfl fun pl H5 e5 o5 => ?_
    wtm_at "nx"
    have hlen : (rowsF m i).length ≤ 7776 := Nat.le_trans (rowsF_len m6 i) (Nat.le_trans (Nat.pow_le_pow_right (by decide) (by omega : i ≤ 5)) (by decide))
    refine s_forB (f := iD) (xs := rowsF m i) (Hb := H') rfl hr.rp e5 (fun j σ' H'' => (∃ u, σ' = [some (.int m), some vr, some (.int (i : Int)), some (.ref pl), u, t]) ∧ Own H' H'' pl ((((rowsF m i).take j).map (extRow m)).flatten.map iD)) ?_ ?_ ?_ ?_
    · exact ⟨⟨u, rfl⟩, o5⟩
    · rintro j σ' H' ⟨_, o⟩
      exact o.ex
    · rintro j x v σ' H'' hx hrx ⟨⟨u, rfl⟩, o⟩
      refine g_name ?_
      have hj : j < (rowsF m i).length := (List.getElem?_eq_some_iff.mp hx).1
      have hxl : x.length ≤ 6 := by
        rw [rowsF_sz (List.mem_of_getElem? hx)]
        omega
      have l1 := rowsTo_len2 m6 ((rowsF m i).take j)
      have l2 := extRow_len m6 x
      rw [List.length_take] at l1
      refine' s_extO o rfl (es := (extRow m x).map iD) ?x (imm_vD _) (by rw [List.length_map, List.length_map]; omega) fun H7 x7 o7 => ?_
      case x =>
        unfold extRow
        rw [List.map_map]
        refine' evn_lcR (n := m) (fun t => !decide (t ∈ x)) (fun t => iD (x ++ [t])) ?es (by omega) ?turn ?imm
        case es => wtm_at "es"
        case imm => exact fun t _ _ _ => imm_iD _
        case turn =>
          intro t H8 t0 t1 e8
          have hrx8 : Rp H8 (iD x) v := hrx.ex e8
          refine' ⟨_, fun Q hq => hq, rfl, ett (evd_op ?a (evd_var rfl hrx8) rd_niID), fun _ => (evd_catT (ds := x.map .int) (es := [.int t]) (evd_var rfl hrx8) ?b (by rw [List.length_map]; show _ + 1 ≤ _; omega)).is (by unfold iD; rw [List.map_append]; rfl)⟩
          case a => wtm_at "ev"
          case b => wtm_at "ev"
      refine ⟨⟨_, rfl⟩, ?_⟩
      rw [List.take_add_one, hx, List.map_append, List.flatten_append, List.map_append]
      have e2 : (List.map (extRow m) (some x).toList).flatten = extRow m x := by simp
      rw [e2]
      exact o7
    · rintro σ' H'' ⟨⟨u, rfl⟩, o⟩
      rw [List.take_length] at o
      wtm_at "nx"
      obtain ⟨vs, k1, k2⟩ := o.has
      exact ⟨_, rfl, ⟨_, _, _, _, _, rfl, pl, vs, rfl, fresh_back e o.new, k1, k2⟩, by omega, e.trans o.ex⟩
  · rintro σ' H' ⟨⟨vr, y, z, u, t, rfl, hr⟩, _, e⟩
    wtm_at "nx"
    obtain ⟨a, vs, rfl, n, k1, k2⟩ := hr
    exact ⟨_, rfl, q a vs H' n e k1 k2⟩
end
theorem ev_orders_of {σ : L2.St} {H : Hp} {t0 : TE} {E : XK} {m : Int} (h0 : EvD t0 σ H (.int m)) (c : 0 ≤ m ∧ m ≤ 6) : EvN (tCall sp_orders_of [] E (tCons t0 tNil)) σ H ((rowsF m m.toNat).map iD) := evn_callO m (evs_cons h0 evs_nil) c rfl
def sigF (n : Int) : Int := (if 0 < n then 1 else 0) - (if n < 0 then 1 else 0)
def sp_sign_of : Sp := spO (α := Int) (fun a => [.int a]) (fun _ => True) fun a => .val (.int (sigF a))
theorem len_sign_of (vs : List V) (H : Hp) (Q : VK) (E : XK) (h : sp_sign_of vs H Q E) : vs.length = 1 := by
  unfold sp_sign_of at h
  obtain ⟨a, r, _⟩ := h
  rw [r.len]
  rfl
section
variable {P : Program} {w : World} {K : PySem.W.Frag} {mg : Str → Option Value} {base : Heap}
theorem ok_sign_of {f : Addr} {fd : FuncData} (D : Df K mg "sign_of" s_sign_of ["number"] f fd) (Bi : Bi mg) : FnOk P w K mg base CX0 1 f fd ["number"] sp_sign_of := by
  refine D.F.ok c_sign_of (fun vs H Q E h => len_sign_of _ _ _ _ h) (fun cdv A outer s H vs Q E hr h => ?_)
  refine ⟨_, (pss_one (ps_ret (pe_op op_subI (pe_callTy cr_intB (by rfl) Bi.int (by decide +kernel) (pa_cons (pe_cmpR op_gtI (pv 0) pe_int (nomark _)) pa_nil)) (pe_callTy cr_intB (by rfl) Bi.int (by decide +kernel) (pa_cons (pe_cmpR op_ltI (pv 0) pe_int (nomark _)) pa_nil))))), ?_⟩
  obtain ⟨n, ⟨v1, _, rfl, rfl, rfl⟩, -, q⟩ := h
  dsimp only at q
  refine s_retD (d := .int (sigF n)) ((evd_op (evd_cb (evs_cons (evd_op (evd_var rfl rp_int) evd_int rd_gtI) evs_nil) cd_intB) (evd_cb (evs_cons (evd_op (evd_var rfl rp_int) evd_int rd_ltI) evs_nil) cd_intB) rd_subI).is (by unfold sigF; simp only [decide_eq_true_eq])) q
end
theorem ev_sign_of {σ : L2.St} {H : Hp} {t0 : TE} {E : XK} {n : Int} (h0 : EvD t0 σ H (.int n)) : EvD (tCall sp_sign_of [] E (tCons t0 tNil)) σ H (.int (sigF n)) := evd_callO n (evs_cons h0 evs_nil) trivial rfl
/-- the signs that a voter gives, the signs that a web wishes -/
def sgnV (m : Int) (v : List Int) : List Int := (prs m 0).map fun p => sgn1 v p.1 p.2
def wishV (m : Int) (ps : List (Int × Int)) : List Int := (prs m 0).map fun p => (if p ∈ ps then 1 else 0) - (if swp p ∈ ps then 1 else 0)
theorem prs_row (m : Int) {i : Int} (f : Int × Int → Int) : (rowP m i (i + 1)).map f = (rgI (i + 1) (m - (i + 1)).toNat).map fun j => f (i, j) := by
  unfold rowP
  rw [List.map_map]
  rfl
def sp_signs_of : Sp := spO (α := Int × List Int) (fun a => [.int a.1, iD a.2]) (fun a => (0 ≤ a.1 ∧ a.1 ≤ 6) ∧ isOrd a.1 a.2) fun a => .val (iD (sgnV a.1 a.2))
theorem len_signs_of (vs : List V) (H : Hp) (Q : VK) (E : XK) (h : sp_signs_of vs H Q E) : vs.length = 2 := by
  unfold sp_signs_of at h
  obtain ⟨a, r, _⟩ := h
  rw [r.len]
  rfl
section
variable {P : Program} {w : World} {K : PySem.W.Frag} {mg : Str → Option Value} {base : Heap}
theorem ok_signs_of {f : Addr} {fd : FuncData} (D : Df K mg "signs_of" s_signs_of ["many", "voter"] f fd) (Bi : Bi mg) : FnOk P w K mg base CX0 1 f fd ["many", "voter"] sp_signs_of := by
  refine D.F.ok c_signs_of (fun vs H Q E h => len_signs_of _ _ _ _ h) (fun cdv A outer s H vs Q E hr h => ?_)
  refine ⟨_, (pss_cons (ps_set (i := 2) c_signs_of.nd rfl (.inl rfl) (pe_lst pa_nil))
      (pss_cons (ps_for (PassesOwn.never) rfl (pi_range1 (by rfl) Bi.range (pa_cons (pv 0) pa_nil)) (pg_name (i := 3) c_signs_of.nd rfl (.inr rfl))
      (pss_one (ps_expr (pe_bm PySem.F.plainAttrs_list PySem.F.slot_list_extend PySem.F.type_list_extend mt_extend (pv 2) (pa_cons (pe_lc (own := [("other", 4)]) (g := (gName 4)) (tt := tYes) rfl c_signs_of.nd (pi_range2 (by rfl) Bi.range (pa_cons (pe_op op_addI (pv 3) pe_int) (pa_cons (pv 0) pa_nil))) (blkOk_by (own := [("other", 4)]) (N := ["many", "voter", "found", "one", "other"]) (sc := defScope s_signs_of) (by decide +kernel)) (fun _ _ _ _ _ => (pg_name (i := 4) c_signs_of.nd rfl (.inl rfl))) (fun _ _ _ _ _ => pts_nil) (fun _ _ _ _ _ => (pe_op op_subI pe_int (pe_op op_mulI pe_int (pe_callTy cr_intB (by rfl) Bi.int (by decide +kernel) (pa_cons (pe_cmpR op_gtI (pe_tm PySem.F.plainAttrs_tuple PySem.F.slot_tuple_index PySem.F.type_tuple_index (mt_tupIxK (K := K)) (pv 1) (pa_cons (pv 3) pa_nil)) (pe_tm PySem.F.plainAttrs_tuple PySem.F.slot_tuple_index PySem.F.type_tuple_index (mt_tupIxK (K := K)) (pv 1) (pa_cons (pv 4) pa_nil)) (nomark _)) pa_nil)))))) pa_nil)))))
      (pss_one (ps_ret (pe_callTy (cr_tupLK (K := K)) (by rfl) Bi.tuple (by decide +kernel) (pa_cons (pv 2) pa_nil)))))), ?_⟩
  obtain ⟨⟨m, u⟩, ⟨v1, _, rfl, rfl, v2, _, rfl, hu, rfl⟩, ⟨⟨m0, m6⟩, ho⟩, q⟩ := h
  dsimp only at q hu m0 m6 ho
  have hpl := prs_len ⟨m0, m6⟩
  refine' s_asgO (evn_lst evs_nil (by decide)) rfl fun pf H1 e1 o1 => ?_
  wtm_at "nx"
  refine' s_forR (n := m) ?n (by omega) fun H3 e3 => ⟨fun i σ' H' => ∃ acc y, σ' = [some (.int m), some v2, some (.ref pf), y, none] ∧ Own H H' pf ((acc : List Int).map .int) ∧ acc ++ (prs m i).map (fun p => sgn1 u p.1 p.2) = sgnV m u, ?_, ?_, ?_⟩
  case n => wtm_at "es"
  · exact ⟨[], none, rfl, o1.step e3, rfl⟩
  · rintro i σ' H' hi ⟨acc, y, rfl, o, hacc⟩
    refine g_name ?_
    rw [prs_step hi, List.map_append] at hacc
    have hlen : acc.length + ((rowP m i ((i : Int) + 1)).map fun p => sgn1 u p.1 p.2).length ≤ 15 := by
      have := congrArg List.length hacc
      unfold sgnV at this
      rw [List.length_append, List.length_append, List.length_map (as := prs m 0)] at this
      omega
    have hu' : Rp H' (iD u) v2 := hu.ex o.ex
    refine' s_extO o rfl (es := ((rowP m i ((i : Int) + 1)).map fun p => sgn1 u p.1 p.2).map .int) ?x (imm_ints _) (by rw [List.length_map, List.length_map]; omega) fun H5 x5 o5 => ?_
    case x =>
      rw [prs_row m (fun p => sgn1 u p.1 p.2), List.map_map]
      have z : (rgI ((i : Int) + 1) (m - ((i : Int) + 1)).toNat).map (PyData.int ∘ fun j => sgn1 u (i : Int) j) = ((rgI ((i : Int) + 1) (m - ((i : Int) + 1)).toNat).filter fun _ => true).map fun j => PyData.int (sgn1 u (i : Int) j) := by
        rw [List.filter_eq_self.mpr (fun _ _ => rfl)]
        rfl
      refine EvN.is ?_ z.symm
      refine' evn_lcR2 (lo := (i : Int) + 1) (n := m) (fun _ => true) (fun j => .int (sgn1 u (i : Int) j)) ?es (by omega) ?turn fun _ _ _ _ => rfl
      case es => wtm_at "es"
      case turn =>
        intro j H6 j0 j1 e6
        have hu6 : Rp H6 (iD u) v2 := hu'.ex e6
        have hne := ixOf_ne (v := u) (a := (i : Int)) (b := j) (ho.mem.mpr (by omega)) (by omega)
        refine' ⟨_, fun Q hq => hq, rfl, et_yes, fun _ => (evd_op (evd_int (i := 1)) (evd_op (evd_int (i := 2)) (evd_cb (evs_cons (evd_op (evd_tix (k := (i : Int)) (evd_var rfl hu6) ?a (ho.mem.mpr (by omega))) (evd_tix (k := j) (evd_var rfl hu6) ?b (ho.mem.mpr (by omega))) rd_gtI) evs_nil) cd_intB) (rd_mulI (.inl ⟨by decide, by decide⟩))) rd_subI).is ?c⟩
        case a => wtm_at "ev"
        case b => wtm_at "ev"
        case c =>
          unfold sgn1
          by_cases c : ixOf (i : Int) u < ixOf j u
          · rw [if_pos c, decide_eq_false (by omega)]
            rfl
          · rw [if_neg c, decide_eq_true (by omega)]
            rfl
    refine ⟨acc ++ (rowP m i ((i : Int) + 1)).map (fun p => sgn1 u p.1 p.2), _, rfl, ?_, ?_⟩
    · rw [List.map_append]
      exact o5
    · rw [List.append_assoc, show ((i + 1 : Nat) : Int) = (i : Int) + 1 by omega]
      exact hacc
  · rintro σ' H' ⟨acc, y, rfl, o, hacc⟩
    wtm_at "nx"
    rw [prs_end (m := m) (a := (m.toNat : Int)) (by omega), List.map_nil, List.append_nil] at hacc
    subst hacc
    exact s_retD (d := iD (sgnV m u)) (evd_cb (evs_cons (evd_var rfl o.rp) evs_nil) cd_tupL) fun v H5 e5 r => q v H5 (o.ex.trans e5) r
end
theorem ev_signs_of {σ : L2.St} {H : Hp} {t0 t1 : TE} {E : XK} {m : Int} {u : List Int} (h0 : EvD t0 σ H (.int m)) (h1 : EvD t1 σ H (iD u)) (c : 0 ≤ m ∧ m ≤ 6) (o : isOrd m u) : EvD (tCall sp_signs_of [] E (tCons t0 (tCons t1 tNil))) σ H (iD (sgnV m u)) := evd_callO (m, u) (evs_cons h0 (evs_cons h1 evs_nil)) ⟨c, o⟩ rfl
end Bm

namespace Bm
open PySem PySem.Spec PyProof.Rows L2 Evl
local macro_rules | `(tactic| wtm_at "rp") => `(tactic| first | exact rp_int | exact rp_bl | exact rp_str | exact rp_non | assumption | (refine' Rp.ex ?e ?h; (case h => assumption); (case e => assumption)) | exact Own.rp (by assumption))
local macro_rules | `(tactic| wtm_at "side") => `(tactic| first | assumption | omega | decide | rfl | exact ⟨by omega, by omega⟩)
local macro_rules | `(tactic| wtm_at "es") => `(tactic| first | exact evs_nil | (refine' evs_cons ?a ?b; (case a => wtm_at "ev"); (case b => wtm_at "es")))
local macro_rules | `(tactic| wtm_at "ev") => `(tactic| first
  | exact evd_int | exact evd_str | exact evd_bl | exact evd_non
  | (refine' evd_var rfl ?h; (case h => wtm_at "rp"))
  | ((with_reducible refine' evd_op ?a ?b rd_addI); (case a => wtm_at "ev"); (case b => wtm_at "ev"))
  | ((with_reducible refine' evd_op ?a ?b rd_subI); (case a => wtm_at "ev"); (case b => wtm_at "ev"))
  | ((with_reducible refine' evd_op ?a ?b (rd_mulI ?c)); (case a => wtm_at "ev"); (case b => wtm_at "ev"); (case c => wtm_at "side"))
  | ((with_reducible refine' evd_op ?a ?b (rd_divI ?c)); (case a => wtm_at "ev"); (case b => wtm_at "ev"); (case c => wtm_at "side"))
  | ((with_reducible refine' evd_op ?a ?b (rd_modI ?c)); (case a => wtm_at "ev"); (case b => wtm_at "ev"); (case c => wtm_at "side"))
  | ((with_reducible refine' evd_op ?a ?b rd_ltI); (case a => wtm_at "ev"); (case b => wtm_at "ev"))
  | ((with_reducible refine' evd_op ?a ?b rd_leI); (case a => wtm_at "ev"); (case b => wtm_at "ev"))
  | ((with_reducible refine' evd_op ?a ?b rd_gtI); (case a => wtm_at "ev"); (case b => wtm_at "ev"))
  | ((with_reducible refine' evd_op ?a ?b rd_geI); (case a => wtm_at "ev"); (case b => wtm_at "ev"))
  | ((with_reducible refine' evd_op ?a ?b rd_eqI); (case a => wtm_at "ev"); (case b => wtm_at "ev"))
  | ((with_reducible refine' evd_op ?a ?b rd_neI); (case a => wtm_at "ev"); (case b => wtm_at "ev"))
  | ((with_reducible refine' evd_op ?a ?b rd_eqB); (case a => wtm_at "ev"); (case b => wtm_at "ev"))
  | ((with_reducible refine' evd_op ?a ?b rd_neB); (case a => wtm_at "ev"); (case b => wtm_at "ev"))
  | ((with_reducible refine' evd_op ?a ?b rd_isNo); (case a => wtm_at "ev"); (case b => wtm_at "ev"))
  | ((with_reducible refine' evd_op ?a ?b rd_notNo); (case a => wtm_at "ev"); (case b => wtm_at "ev"))
  | ((with_reducible refine' evd_op ?a ?b rd_inIL); (case a => wtm_at "ev"); (case b => wtm_at "ev"))
  | ((with_reducible refine' evd_op ?a ?b rd_niIL); (case a => wtm_at "ev"); (case b => wtm_at "ev"))
  | ((with_reducible refine' evd_op ?a ?b rd_inID); (case a => wtm_at "ev"); (case b => wtm_at "ev"))
  | ((with_reducible refine' evd_op ?a ?b rd_niID); (case a => wtm_at "ev"); (case b => wtm_at "ev"))
  | ((with_reducible refine' evd_neg ?a); (case a => wtm_at "ev"))
  | ((with_reducible refine' evd_tix ?a ?b ?c); (case a => wtm_at "ev"); (case b => wtm_at "ev"); (case c => wtm_at "side"))
  | ((with_reducible refine' evd_tup ?a ?b); (case a => wtm_at "es"); (case b => exact Nat.le_of_ble_eq_true rfl))
  | ((with_reducible refine' evd_cb ?a cd_lenL); (case a => wtm_at "es"))
  | ((with_reducible refine' evd_cb ?a cd_lenT); (case a => wtm_at "es"))
  | ((with_reducible refine' evd_cb ?a cd_intB); (case a => wtm_at "es"))
  | ((with_reducible refine' evd_cb ?a cd_tupL); (case a => wtm_at "es"))
  | ((with_reducible refine' evd_and ?a ?b); (case a => wtm_at "ev"); (case b => intro _; wtm_at "ev"))
  | ((with_reducible refine' evd_or ?a ?b); (case a => wtm_at "ev"); (case b => intro _; wtm_at "ev"))
  | ((with_reducible refine' evd_not ?a); (case a => wtm_at "ev"))
  | ((with_reducible refine' evd_op ?a ?b rd_neIL); (case a => wtm_at "ev"); (case b => wtm_at "ev"))
  | ((with_reducible refine' evd_op ?a ?b rd_eqIL); (case a => wtm_at "ev"); (case b => wtm_at "ev"))
  | ((with_reducible refine' EvN.toD ?a); (case a => wtm_at "en")))
local macro_rules | `(tactic| wtm_at "en") => `(tactic| first
  | ((with_reducible refine' evn_cb ?a cn_sortTI); (case a => wtm_at "es"))
  | ((with_reducible refine' evn_cb ?a cn_listL); (case a => wtm_at "es"))
  | ((with_reducible refine' evn_cb ?a cn_listT); (case a => wtm_at "es"))
  | ((with_reducible refine' evn_rng ?a ?b); (case a => wtm_at "ev"); (case b => wtm_at "side"))
  | ((with_reducible refine' evn_lst ?a ?b); (case a => wtm_at "es"); (case b => exact Nat.le_of_ble_eq_true rfl))
  | ((with_reducible refine' evn_cat ?a ?b ?c); (case a => wtm_at "ev"); (case b => wtm_at "ev"); (case c => wtm_at "side"))
  | ((with_reducible refine' evn_slL ?a ?b ?c); (case a => wtm_at "ev"); (case b => first | exact evp_none | (refine' evp_some ?d; (case d => wtm_at "ev"))); (case c => first | exact evp_none | (refine' evp_some ?d; (case d => wtm_at "ev")))))
local macro_rules | `(tactic| wtm_at "et") => `(tactic| first
  | exact et_yes
  | (refine' ett ?a; (case a => wtm_at "ev"))
  | (refine' etB ?a; (case a => wtm_at "ev"))
  | (refine' et_and ?a ?b; (case a => wtm_at "et"); (case b => intro _; wtm_at "et"))
  | (refine' et_or ?a ?b; (case a => wtm_at "et"); (case b => intro _; wtm_at "et"))
  | (refine' et_not ?a; (case a => wtm_at "et")))
local macro_rules | `(tactic| wtm_at "nx") => `(tactic| try dsimp only [tSeq, tNext])
/-! ### leads as rows, plain -/
def ldV (m : Int) (vs : List (List Int)) : List Int := (prs m 0).map fun p => leadF vs p.1 p.2
def addV (a b : List Int) : List Int := List.zipWith (· + ·) a b
theorem ldV_len (m : Int) (vs : List (List Int)) : (ldV m vs).length = (prs m 0).length := List.length_map _
theorem sgnV_len (m : Int) (v : List Int) : (sgnV m v).length = (prs m 0).length := List.length_map _
theorem ldV_snoc (m : Int) (vs : List (List Int)) (v : List Int) : ldV m (vs ++ [v]) = addV (ldV m vs) (sgnV m v) := by
  unfold ldV sgnV addV
  rw [List.zipWith_map]
  have : ∀ l : List (Int × Int), (l.map fun p => leadF (vs ++ [v]) p.1 p.2) = List.zipWith (fun a b => leadF vs a.1 a.2 + sgn1 v b.1 b.2) l l := fun l => by
    induction l with
    | nil => rfl
    | cons p l ih => rw [List.map_cons, List.zipWith_cons_cons, ih, leadF_snoc]
  exact this _
theorem ldV_nil (m : Int) : ldV m [] = List.replicate (prs m 0).length 0 := by
  unfold ldV
  have : ∀ l : List (Int × Int), (l.map fun p => leadF [] p.1 p.2) = List.replicate l.length 0 := fun l => by
    induction l with
    | nil => rfl
    | cons p l ih => rw [List.map_cons, ih, List.length_cons, List.replicate_succ]; rfl
  exact this _
/-- the row of leads is what the web wishes -/
def makesP (m : Int) (ps : List (Int × Int)) (vs : List (List Int)) : Prop := (ldV m vs).map sigF = wishV m ps
theorem makesP_iff {m : Int} (hm : 0 ≤ m ∧ m ≤ 6) {ps : List (Int × Int)} (hw : isWeb m ps) {vs : List (List Int)} (hv : isVot m vs) : makesP m ps vs ↔ beatsF m vs = srtW ps := by
  have e1 : makesP m ps vs ↔ ∀ p ∈ prs m 0, sigF (leadF vs p.1 p.2) = (if p ∈ ps then 1 else 0) - (if swp p ∈ ps then 1 else 0) := by
    unfold makesP ldV wishV
    rw [List.map_map]
    have : ∀ l : List (Int × Int), (l.map (sigF ∘ fun p => leadF vs p.1 p.2) = l.map fun p => (if p ∈ ps then 1 else 0) - (if swp p ∈ ps then (1 : Int) else 0)) ↔ ∀ p ∈ l, sigF (leadF vs p.1 p.2) = (if p ∈ ps then 1 else 0) - (if swp p ∈ ps then 1 else 0) := fun l => by
      induction l with
      | nil => simp
      | cons p l ih => rw [List.map_cons, List.map_cons, List.cons.injEq, ih, List.forall_mem_cons]; rfl
    exact this _
  have pt : ∀ p ∈ prs m 0, (sigF (leadF vs p.1 p.2) = (if p ∈ ps then 1 else 0) - (if swp p ∈ ps then 1 else 0)) ↔ ((0 < leadF vs p.1 p.2 ↔ p ∈ ps) ∧ (0 < -leadF vs p.1 p.2 ↔ swp p ∈ ps)) := fun p hp => by
    unfold sigF
    by_cases h1 : p ∈ ps
    · have h2 := hw.swp h1
      simp only [h1, h2, if_true, if_false, iff_true, iff_false]
      split <;> split <;> omega
    · by_cases h2 : swp p ∈ ps
      · simp only [h1, h2, if_true, if_false, iff_true, iff_false]
        split <;> split <;> omega
      · simp only [h1, h2, if_false, iff_false]
        split <;> split <;> omega
  have ms : ∀ p, p ∈ srtW ps ↔ p ∈ ps := fun p => (srtW_perm ps).mem_iff
  rw [e1]
  constructor
  · intro h
    refine beatsF_is hm hw.nodup fun p => ⟨fun hp => ?_, fun hp => ?_⟩
    · obtain ⟨g1, g2, g3, g4, g5⟩ := hw.good hp
      refine ⟨g1, g2, g3, g4, g5, ?_⟩
      by_cases l : p.1 < p.2
      · have hq := mem_prs.mpr ⟨g1, l, g4⟩
        exact ((pt p hq).mp (h p hq)).1.mpr hp
      · have hq : swp p ∈ prs m 0 := mem_prs.mpr ⟨g3, by unfold swp; dsimp only; omega, g2⟩
        have := ((pt _ hq).mp (h _ hq)).2.mpr hp
        rw [← leadF_neg (a := (swp p).1) (b := (swp p).2) (fun z => g5 z.symm) fun u hu => (hv u hu).mem.mpr ⟨g3, g4⟩] at this
        exact this
    · obtain ⟨g1, g2, g3, g4, g5, g6⟩ := hp
      by_cases l : p.1 < p.2
      · have hq := mem_prs.mpr ⟨g1, l, g4⟩
        exact ((pt p hq).mp (h p hq)).1.mp g6
      · have hq : swp p ∈ prs m 0 := mem_prs.mpr ⟨g3, by unfold swp; dsimp only; omega, g2⟩
        refine ((pt _ hq).mp (h _ hq)).2.mp ?_
        rw [← leadF_neg (a := (swp p).1) (b := (swp p).2) (fun z => g5 z.symm) fun u hu => (hv u hu).mem.mpr ⟨g3, g4⟩]
        exact g6
  · intro e p hp
    rw [pt p hp]
    have g := mem_prs.mp hp
    have k : ∀ q : Int × Int, q ∈ ps ↔ 0 ≤ q.1 ∧ q.1 < m ∧ 0 ≤ q.2 ∧ q.2 < m ∧ q.1 ≠ q.2 ∧ 0 < leadF vs q.1 q.2 := fun q => by rw [← ms, ← e, mem_beatsF hm.1]
    have hneg := leadF_neg (a := p.1) (b := p.2) (vs := vs) (by omega) fun u hu => (hv u hu).mem.mpr (by omega)
    rw [k p, k (swp p)]
    unfold swp
    dsimp only
    omega
/-- two for each beat make it -/
theorem due_makes {m : Int} (hm : 1 ≤ m ∧ m ≤ 6) {ps : List (Int × Int)} (hw : isWeb m ps) : isVot m (dueF m ps) ∧ makesP m ps (dueF m ps) ∧ (dueF m ps).length = 2 * ps.length := by
  have hv := dueF_ok hm (isWeb_set.mp hw).1
  exact ⟨hv, (makesP_iff ⟨by omega, hm.2⟩ hw hv).mpr (due_beats hm hw), dueF_len m ps⟩
theorem prs_len4 {m : Int} (hm : 0 ≤ m ∧ m ≤ 4) : (prs m 0).length ≤ 6 := by
  have : m = 0 ∨ m = 1 ∨ m = 2 ∨ m = 3 ∨ m = 4 := by omega
  rcases this with rfl | rfl | rfl | rfl | rfl <;> decide
theorem isWeb_len4 {m : Int} (hm : 0 ≤ m ∧ m ≤ 4) {ps : List (Int × Int)} (hw : isWeb m ps) : ps.length ≤ 6 := by
  have nd := (isWeb_set.mp hw).2
  have sub : ∀ q ∈ ps.map nrm, q ∈ prs m 0 := fun q hq => by
    obtain ⟨p, hp, rfl⟩ := List.mem_map.mp hq
    have g := hw.good hp
    rw [mem_prs]
    unfold nrm
    split
    · omega
    · unfold swp
      dsimp only
      omega
  have hp : ((prs m 0).filter fun x => decide (x ∈ ps.map nrm)).Perm (ps.map nrm) := (List.perm_ext_iff_of_nodup ((prs_nodup m 0).filter _) nd).mpr fun a => by
    rw [List.mem_filter, decide_eq_true_eq]
    exact ⟨fun z => z.2, fun z => ⟨sub a z, z⟩⟩
  have h1 := hp.length_eq
  have h2 : ((prs m 0).filter fun x => decide (x ∈ ps.map nrm)).length ≤ (prs m 0).length := List.length_filter_le _ _
  have h3 := prs_len4 hm
  rw [List.length_map] at h1
  omega
/-! how many rows of leads so many voters can give -/
def digs (k : Nat) (l : List Int) : List Int := l.map fun x => (x + (k : Int)) / 2
theorem leadF_par (a b : Int) : ∀ vs : List (List Int), (leadF vs a b + (vs.length : Int)) % 2 = 0
  | [] => rfl
  | v :: vs => by
    have ih := leadF_par a b vs
    have e : leadF (v :: vs) a b = sgn1 v a b + leadF vs a b := by unfold leadF; rw [List.map_cons, List.sum_cons]
    rw [e, List.length_cons]
    unfold sgn1
    split <;> omega
def rowOk (k : Nat) (l : List Int) : Prop := ∀ x ∈ l, -(k : Int) ≤ x ∧ x ≤ k ∧ (x + (k : Int)) % 2 = 0
theorem ldV_ok (m : Int) (vs : List (List Int)) : rowOk vs.length (ldV m vs) := fun x hx => by
  obtain ⟨p, _, rfl⟩ := List.mem_map.mp hx
  have := leadF_abs p.1 p.2 vs
  exact ⟨this.1, this.2, leadF_par p.1 p.2 vs⟩
theorem digs_inj {k : Nat} : ∀ {a b : List Int}, rowOk k a → rowOk k b → digs k a = digs k b → a = b
  | [], [], _, _, _ => rfl
  | [], _ :: _, _, _, h => by cases h
  | _ :: _, [], _, _, h => by cases h
  | x :: a, y :: b, ha, hb, h => by
    unfold digs at h
    rw [List.map_cons, List.map_cons, List.cons.injEq] at h
    have h1 := ha x List.mem_cons_self
    have h2 := hb y List.mem_cons_self
    rw [show x = y by omega, digs_inj (fun z hz => ha z (List.mem_cons_of_mem _ hz)) (fun z hz => hb z (List.mem_cons_of_mem _ hz)) h.2]
theorem digs_bd {k : Nat} {l : List Int} (h : rowOk k l) : TS.Bd ((k : Int) + 1) (digs k l) := fun x hx => by
  obtain ⟨y, hy, rfl⟩ := List.mem_map.mp hx
  have := h y hy
  omega
theorem code_inj {B : Int} : ∀ {a b : List Int}, TS.Bd B a → TS.Bd B b → a.length = b.length → TS.code B a = TS.code B b → a = b
  | [], [], _, _, _, _ => rfl
  | [], _ :: _, _, _, h, _ => by cases h
  | _ :: _, [], _, _, h, _ => by cases h
  | x :: a, y :: b, ha, hb, hl, h => by
    have hl2 : a.length = b.length := by simpa using hl
    have e : x = y := by
      rcases Int.lt_trichotomy x y with c | c | c
      · have := TS.code_lt hl2 ha.tail hb.tail c
        omega
      · exact c
      · have := TS.code_lt hl2.symm hb.tail ha.tail c
        omega
    subst e
    have h2 : TS.code B a = TS.code B b := by
      have h3 : x * B ^ a.length + TS.code B a = x * B ^ b.length + TS.code B b := h
      rw [hl2] at h3
      omega
    rw [code_inj ha.tail hb.tail hl2 h2]
theorem rows_few {k d : Nat} {rs : List (List Int)} (nd : rs.Nodup) (h : ∀ r ∈ rs, r.length = d ∧ rowOk k r) : rs.length ≤ (k + 1) ^ d := by
  have n2 : (rs.map fun r => TS.code ((k : Int) + 1) (digs k r)).Nodup := List.pairwise_map.mpr (nd.imp_of_mem fun {a b} ha hb ne e => by
    obtain ⟨a1, a2⟩ := h a ha
    obtain ⟨b1, b2⟩ := h b hb
    exact ne (digs_inj a2 b2 (code_inj (digs_bd a2) (digs_bd b2) (by unfold digs; rw [List.length_map, List.length_map, a1, b1]) e)))
  have := nodup_len (m := ((k : Int) + 1) ^ d) n2 fun x hx => by
    obtain ⟨r, hr, rfl⟩ := List.mem_map.mp hx
    obtain ⟨r1, r2⟩ := h r hr
    have := TS.code_bd _ (digs_bd r2)
    rwa [show (digs k r).length = d by unfold digs; rw [List.length_map, r1]] at this
  rw [List.length_map] at this
  have e : (((k : Int) + 1) ^ d).toNat = (k + 1) ^ d := by
    have : ((k : Int) + 1) ^ d = (((k + 1) ^ d : Nat) : Int) := by push_cast; rfl
    rw [this]
    rfl
  omega
end Bm

namespace Bm
open PySem PySem.Spec PyProof.Rows L2 Evl
local macro_rules | `(tactic| wtm_at "rp") => `(tactic| first | exact rp_int | exact rp_bl | exact rp_str | exact rp_non | assumption | (refine' Rp.ex ?e ?h; (case h => assumption); (case e => assumption)) | exact Own.rp (by assumption))
local macro_rules | `(tactic| wtm_at "side") => `(tactic| first | assumption | omega | decide | rfl | exact ⟨by omega, by omega⟩)
local macro_rules | `(tactic| wtm_at "es") => `(tactic| first | exact evs_nil | (refine' evs_cons ?a ?b; (case a => wtm_at "ev"); (case b => wtm_at "es")))
local macro_rules | `(tactic| wtm_at "ev") => `(tactic| first
  | exact evd_int | exact evd_str | exact evd_bl | exact evd_non
  | (refine' evd_var rfl ?h; (case h => wtm_at "rp"))
  | ((with_reducible refine' evd_op ?a ?b rd_addI); (case a => wtm_at "ev"); (case b => wtm_at "ev"))
  | ((with_reducible refine' evd_op ?a ?b rd_subI); (case a => wtm_at "ev"); (case b => wtm_at "ev"))
  | ((with_reducible refine' evd_op ?a ?b (rd_mulI ?c)); (case a => wtm_at "ev"); (case b => wtm_at "ev"); (case c => wtm_at "side"))
  | ((with_reducible refine' evd_op ?a ?b (rd_divI ?c)); (case a => wtm_at "ev"); (case b => wtm_at "ev"); (case c => wtm_at "side"))
  | ((with_reducible refine' evd_op ?a ?b (rd_modI ?c)); (case a => wtm_at "ev"); (case b => wtm_at "ev"); (case c => wtm_at "side"))
  | ((with_reducible refine' evd_op ?a ?b rd_ltI); (case a => wtm_at "ev"); (case b => wtm_at "ev"))
  | ((with_reducible refine' evd_op ?a ?b rd_leI); (case a => wtm_at "ev"); (case b => wtm_at "ev"))
  | ((with_reducible refine' evd_op ?a ?b rd_gtI); (case a => wtm_at "ev"); (case b => wtm_at "ev"))
  | ((with_reducible refine' evd_op ?a ?b rd_geI); (case a => wtm_at "ev"); (case b => wtm_at "ev"))
  | ((with_reducible refine' evd_op ?a ?b rd_eqI); (case a => wtm_at "ev"); (case b => wtm_at "ev"))
  | ((with_reducible refine' evd_op ?a ?b rd_neI); (case a => wtm_at "ev"); (case b => wtm_at "ev"))
  | ((with_reducible refine' evd_op ?a ?b rd_eqB); (case a => wtm_at "ev"); (case b => wtm_at "ev"))
  | ((with_reducible refine' evd_op ?a ?b rd_neB); (case a => wtm_at "ev"); (case b => wtm_at "ev"))
  | ((with_reducible refine' evd_op ?a ?b rd_isNo); (case a => wtm_at "ev"); (case b => wtm_at "ev"))
  | ((with_reducible refine' evd_op ?a ?b rd_notNo); (case a => wtm_at "ev"); (case b => wtm_at "ev"))
  | ((with_reducible refine' evd_op ?a ?b rd_inIL); (case a => wtm_at "ev"); (case b => wtm_at "ev"))
  | ((with_reducible refine' evd_op ?a ?b rd_niIL); (case a => wtm_at "ev"); (case b => wtm_at "ev"))
  | ((with_reducible refine' evd_op ?a ?b rd_inID); (case a => wtm_at "ev"); (case b => wtm_at "ev"))
  | ((with_reducible refine' evd_op ?a ?b rd_niID); (case a => wtm_at "ev"); (case b => wtm_at "ev"))
  | ((with_reducible refine' evd_neg ?a); (case a => wtm_at "ev"))
  | ((with_reducible refine' evd_tix ?a ?b ?c); (case a => wtm_at "ev"); (case b => wtm_at "ev"); (case c => wtm_at "side"))
  | ((with_reducible refine' evd_tup ?a ?b); (case a => wtm_at "es"); (case b => exact Nat.le_of_ble_eq_true rfl))
  | ((with_reducible refine' evd_cb ?a cd_lenL); (case a => wtm_at "es"))
  | ((with_reducible refine' evd_cb ?a cd_lenT); (case a => wtm_at "es"))
  | ((with_reducible refine' evd_cb ?a cd_intB); (case a => wtm_at "es"))
  | ((with_reducible refine' evd_cb ?a cd_tupL); (case a => wtm_at "es"))
  | ((with_reducible refine' evd_and ?a ?b); (case a => wtm_at "ev"); (case b => intro _; wtm_at "ev"))
  | ((with_reducible refine' evd_or ?a ?b); (case a => wtm_at "ev"); (case b => intro _; wtm_at "ev"))
  | ((with_reducible refine' evd_not ?a); (case a => wtm_at "ev"))
  | ((with_reducible refine' evd_op ?a ?b rd_neIL); (case a => wtm_at "ev"); (case b => wtm_at "ev"))
  | ((with_reducible refine' evd_op ?a ?b rd_eqIL); (case a => wtm_at "ev"); (case b => wtm_at "ev"))
  | ((with_reducible refine' EvN.toD ?a); (case a => wtm_at "en")))
local macro_rules | `(tactic| wtm_at "en") => `(tactic| first
  | ((with_reducible refine' evn_cb ?a cn_sortTI); (case a => wtm_at "es"))
  | ((with_reducible refine' evn_cb ?a cn_listL); (case a => wtm_at "es"))
  | ((with_reducible refine' evn_cb ?a cn_listT); (case a => wtm_at "es"))
  | ((with_reducible refine' evn_rng ?a ?b); (case a => wtm_at "ev"); (case b => wtm_at "side"))
  | ((with_reducible refine' evn_lst ?a ?b); (case a => wtm_at "es"); (case b => exact Nat.le_of_ble_eq_true rfl))
  | ((with_reducible refine' evn_cat ?a ?b ?c); (case a => wtm_at "ev"); (case b => wtm_at "ev"); (case c => wtm_at "side"))
  | ((with_reducible refine' evn_slL ?a ?b ?c); (case a => wtm_at "ev"); (case b => first | exact evp_none | (refine' evp_some ?d; (case d => wtm_at "ev"))); (case c => first | exact evp_none | (refine' evp_some ?d; (case d => wtm_at "ev")))))
local macro_rules | `(tactic| wtm_at "et") => `(tactic| first
  | exact et_yes
  | (refine' ett ?a; (case a => wtm_at "ev"))
  | (refine' etB ?a; (case a => wtm_at "ev"))
  | (refine' et_and ?a ?b; (case a => wtm_at "et"); (case b => intro _; wtm_at "et"))
  | (refine' et_or ?a ?b; (case a => wtm_at "et"); (case b => intro _; wtm_at "et"))
  | (refine' et_not ?a; (case a => wtm_at "et")))
local macro_rules | `(tactic| wtm_at "nx") => `(tactic| try dsimp only [tSeq, tNext])
/-! ### one voter more, plain -/
def wishF (ps : List (Int × Int)) (p : Int × Int) : Int := (if p ∈ ps then 1 else 0) - (if swp p ∈ ps then 1 else 0)
def outB (now w : Int) : Bool := if w = 0 then !decide (now = 1) && !decide (now = -1) else decide (now * w < 0)
def bndF (now w : Int) (p : Int × Int) : List (Int × Int) := if w = 0 then (if 0 < -now then [p] else [swp p]) else if 1 < now * w then [] else if 0 < w then [p] else [swp p]
def outP (vs : List (List Int)) (ps : List (Int × Int)) (p : Int × Int) : Bool := outB (leadF vs p.1 p.2) (wishF ps p)
def bndP (vs : List (List Int)) (ps : List (Int × Int)) (p : Int × Int) : List (Int × Int) := bndF (leadF vs p.1 p.2) (wishF ps p) p
def boundF (m : Int) (vs : List (List Int)) (ps : List (Int × Int)) : List (Int × Int) := ((prs m 0).map (bndP vs ps)).flatten
theorem pick_web {m : Int} {h : Int × Int → List (Int × Int)} (hh : ∀ p, h p = [] ∨ h p = [p] ∨ h p = [swp p]) : ∀ {l : List (Int × Int)}, (∀ p ∈ l, 0 ≤ p.1 ∧ p.1 < p.2 ∧ p.2 < m) → l.Nodup → isWeb m ((l.map h).flatten) ∧ ∀ q ∈ (l.map h).flatten, q ∈ l ∨ swp q ∈ l
  | [], _, _ => ⟨rfl, fun q hq => by simp at hq⟩
  | p :: l, hl, n => by
    obtain ⟨ih, ih2⟩ := pick_web hh (l := l) (fun q hq => hl q (List.mem_cons_of_mem _ hq)) (List.nodup_cons.mp n).2
    have hp := hl p List.mem_cons_self
    have np := (List.nodup_cons.mp n).1
    have ns : swp p ∉ l := fun z => by
      have := (hl _ (List.mem_cons_of_mem _ z)).2.1
      unfold swp at this
      dsimp only at this
      omega
    obtain ⟨g1, g2⟩ := isWeb_set.mp ih
    have key : nrm p ∉ ((l.map h).flatten).map nrm := fun z => by
      rcases nrm_mem.mp z with z | z
      · exact (ih2 _ z).elim np ns
      · exact (ih2 _ z).elim ns np
    rw [List.map_cons, List.flatten_cons]
    rcases hh p with e | e | e <;> rw [e]
    · exact ⟨ih, fun q hq => (ih2 q hq).imp (List.mem_cons_of_mem _) (List.mem_cons_of_mem _)⟩
    · refine ⟨isWeb_set.mpr ⟨fun q hq => ?_, ?_⟩, fun q hq => ?_⟩
      · rcases List.mem_cons.mp hq with rfl | hq
        · exact goodB_iff.mpr (by omega)
        · exact g1 q hq
      · rw [List.singleton_append, List.map_cons]
        exact List.nodup_cons.mpr ⟨key, g2⟩
      · rcases List.mem_cons.mp hq with rfl | hq
        · exact .inl List.mem_cons_self
        · exact (ih2 q hq).imp (List.mem_cons_of_mem _) (List.mem_cons_of_mem _)
    · refine ⟨isWeb_set.mpr ⟨fun q hq => ?_, ?_⟩, fun q hq => ?_⟩
      · rcases List.mem_cons.mp hq with rfl | hq
        · refine goodB_iff.mpr ?_
          unfold swp
          dsimp only
          omega
        · exact g1 q hq
      · rw [List.singleton_append, List.map_cons, show nrm (swp p) = nrm p from nrm_iff.mpr (.inr rfl)]
        exact List.nodup_cons.mpr ⟨key, g2⟩
      · rcases List.mem_cons.mp hq with rfl | hq
        · exact .inr List.mem_cons_self
        · exact (ih2 q hq).imp (List.mem_cons_of_mem _) (List.mem_cons_of_mem _)
theorem bndF_pick (now w : Int) (p : Int × Int) : bndF now w p = [] ∨ bndF now w p = [p] ∨ bndF now w p = [swp p] := by
  unfold bndF
  split
  · split
    · exact .inr (.inl rfl)
    · exact .inr (.inr rfl)
  · split
    · exact .inl rfl
    · split
      · exact .inr (.inl rfl)
      · exact .inr (.inr rfl)
theorem prs_rg {m : Int} : ∀ p ∈ prs m 0, 0 ≤ p.1 ∧ p.1 < p.2 ∧ p.2 < m := fun p hp => mem_prs.mp hp
theorem boundF_web (m : Int) (vs : List (List Int)) (ps : List (Int × Int)) : isWeb m (boundF m vs ps) := (pick_web (fun p => bndF_pick _ _ p) prs_rg (prs_nodup m 0)).1
theorem pick_len {h : Int × Int → List (Int × Int)} (hh : ∀ p, h p = [] ∨ h p = [p] ∨ h p = [swp p]) (l : List (Int × Int)) : ((l.map h).flatten).length ≤ l.length := by
  have := flat_len (k := 1) (xss := l.map h) fun xs hx => by
    obtain ⟨p, _, rfl⟩ := List.mem_map.mp hx
    rcases hh p with e | e | e <;> rw [e] <;> simp
  rw [List.length_map] at this
  omega
theorem boundF_len {m : Int} (hm : 0 ≤ m ∧ m ≤ 6) (vs : List (List Int)) (ps : List (Int × Int)) : (boundF m vs ps).length ≤ 15 := Nat.le_trans (pick_len (fun p => bndF_pick _ _ p) _) (prs_len hm)
theorem wish_cas {m : Int} {ps : List (Int × Int)} (hw : isWeb m ps) (p : Int × Int) : (wishF ps p = 1 ∧ p ∈ ps ∧ swp p ∉ ps) ∨ (wishF ps p = -1 ∧ p ∉ ps ∧ swp p ∈ ps) ∨ (wishF ps p = 0 ∧ p ∉ ps ∧ swp p ∉ ps) := by
  unfold wishF
  by_cases h1 : p ∈ ps
  · have h2 := hw.swp h1
    rw [if_pos h1, if_neg h2]
    exact .inl ⟨rfl, h1, h2⟩
  · rw [if_neg h1]
    by_cases h2 : swp p ∈ ps
    · rw [if_pos h2]
      exact .inr (.inl ⟨rfl, h1, h2⟩)
    · rw [if_neg h2]
      exact .inr (.inr ⟨rfl, h1, h2⟩)
def fitsP (vs : List (List Int)) (ps : List (Int × Int)) (v : List Int) (p : Int × Int) : Prop := (0 < leadF vs p.1 p.2 + sgn1 v p.1 p.2 ↔ p ∈ ps) ∧ (0 < -(leadF vs p.1 p.2 + sgn1 v p.1 p.2) ↔ swp p ∈ ps)
theorem fits_iff {m : Int} (hm : 0 ≤ m ∧ m ≤ 6) {vs : List (List Int)} (hv : isVot m vs) {ps : List (Int × Int)} (hw : isWeb m ps) {v : List Int} (ho : isOrd m v) : beatsF m (vs ++ [v]) = srtW ps ↔ ∀ p ∈ prs m 0, fitsP vs ps v p := by
  have hv2 : isVot m (vs ++ [v]) := fun u hu => (List.mem_append.mp hu).elim (hv u) fun h => by rw [List.mem_singleton.mp h]; exact ho
  have ms : ∀ p, p ∈ srtW ps ↔ p ∈ ps := fun p => (srtW_perm ps).mem_iff
  constructor
  · intro e p hp
    have g := mem_prs.mp hp
    have k : ∀ q : Int × Int, q ∈ ps ↔ 0 ≤ q.1 ∧ q.1 < m ∧ 0 ≤ q.2 ∧ q.2 < m ∧ q.1 ≠ q.2 ∧ 0 < leadF (vs ++ [v]) q.1 q.2 := fun q => by rw [← ms, ← e, mem_beatsF hm.1]
    have hneg := leadF_neg (a := p.1) (b := p.2) (vs := vs ++ [v]) (by omega) fun u hu => (hv2 u hu).mem.mpr (by omega)
    unfold fitsP
    rw [k p, k (swp p), ← leadF_snoc]
    unfold swp
    dsimp only
    omega
  · intro h
    refine beatsF_is hm hw.nodup fun p => ⟨fun hp => ?_, fun hp => ?_⟩
    · obtain ⟨g1, g2, g3, g4, g5⟩ := hw.good hp
      refine ⟨g1, g2, g3, g4, g5, ?_⟩
      by_cases l : p.1 < p.2
      · have := (h p (mem_prs.mpr ⟨g1, l, g4⟩)).1.mpr hp
        rwa [← leadF_snoc] at this
      · have := (h (swp p) (mem_prs.mpr ⟨g3, by unfold swp; dsimp only; omega, g2⟩)).2.mpr hp
        rw [← leadF_snoc, ← leadF_neg (a := (swp p).1) (b := (swp p).2) (fun z => g5 z.symm) fun u hu => (hv2 u hu).mem.mpr ⟨g3, g4⟩] at this
        exact this
    · obtain ⟨g1, g2, g3, g4, g5, g6⟩ := hp
      by_cases l : p.1 < p.2
      · exact (h p (mem_prs.mpr ⟨g1, l, g4⟩)).1.mp (by rw [← leadF_snoc]; exact g6)
      · refine (h (swp p) (mem_prs.mpr ⟨g3, by unfold swp; dsimp only; omega, g2⟩)).2.mp ?_
        rw [← leadF_snoc, ← leadF_neg (a := (swp p).1) (b := (swp p).2) (fun z => g5 z.symm) fun u hu => (hv2 u hu).mem.mpr ⟨g3, g4⟩]
        exact g6
theorem fitsP_out {m : Int} {vs : List (List Int)} {ps : List (Int × Int)} (hw : isWeb m ps) {v : List Int} {p : Int × Int} (h : outP vs ps p = true) : ¬ fitsP vs ps v p := by
  unfold outP outB at h
  unfold fitsP
  have hs : sgn1 v p.1 p.2 = 1 ∨ sgn1 v p.1 p.2 = -1 := by
    unfold sgn1
    split
    · exact .inl rfl
    · exact .inr rfl
  generalize leadF vs p.1 p.2 = now at h ⊢
  rcases wish_cas hw p with ⟨e, h1, h2⟩ | ⟨e, h1, h2⟩ | ⟨e, h1, h2⟩ <;> rw [e] at h <;> simp only [h1, h2, iff_true, iff_false]
  · have h3 : now * 1 < 0 := by simpa using h
    omega
  · have h3 : now * -1 < 0 := by simpa using h
    omega
  · have h3 : now ≠ 1 ∧ now ≠ -1 := by simpa using h
    omega
theorem fitsP_bnd {m : Int} {vs : List (List Int)} {ps : List (Int × Int)} (hw : isWeb m ps) {v : List Int} (ho : isOrd m v) {p : Int × Int} (hp : p ∈ prs m 0) (h : outP vs ps p = false) : fitsP vs ps v p ↔ ∀ q ∈ bndP vs ps p, ixOf q.1 v ≤ ixOf q.2 v := by
  have g := mem_prs.mp hp
  have hne := ixOf_ne (v := v) (a := p.1) (b := p.2) (ho.mem.mpr (by omega)) (by omega)
  unfold outP outB at h
  unfold fitsP bndP bndF
  unfold sgn1
  generalize leadF vs p.1 p.2 = now at h ⊢
  generalize hi : ixOf p.1 v = i at hne ⊢
  generalize hj : ixOf p.2 v = j at hne ⊢
  have k1 : (∀ q ∈ [p], ixOf q.1 v ≤ ixOf q.2 v) ↔ i ≤ j := by simp [hi, hj]
  have k2 : (∀ q ∈ [swp p], ixOf q.1 v ≤ ixOf q.2 v) ↔ j ≤ i := by simp [swp, hi, hj]
  rcases wish_cas hw p with ⟨e, h1, h2⟩ | ⟨e, h1, h2⟩ | ⟨e, h1, h2⟩ <;> rw [e] at h ⊢ <;> simp only [h1, h2, iff_true, iff_false]
  · have h3 : ¬ now * 1 < 0 := by simpa using h
    rw [if_neg (by decide : ¬ (1 : Int) = 0)]
    by_cases c : 1 < now * 1
    · rw [if_pos c]
      simp only [List.not_mem_nil, false_implies, implies_true, iff_true]
      split <;> omega
    · rw [if_neg c, if_pos (by decide : (0 : Int) < 1), k1]
      split <;> omega
  · have h3 : ¬ now * -1 < 0 := by simpa using h
    rw [if_neg (by decide : ¬ (-1 : Int) = 0)]
    by_cases c : 1 < now * -1
    · rw [if_pos c]
      simp only [List.not_mem_nil, false_implies, implies_true, iff_true]
      split <;> omega
    · rw [if_neg c, if_neg (by decide : ¬ (0 : Int) < -1), k2]
      split <;> omega
  · have h3 : now = 1 ∨ now = -1 := by
      rw [if_pos rfl] at h
      by_cases c : now = 1
      · exact .inl c
      · exact .inr (by simpa [c] using h)
    rw [if_pos trivial]
    by_cases c : 0 < -now
    · rw [if_pos c, k1]
      split <;> omega
    · rw [if_neg c, k2]
      split <;> omega
def fitL (m : Int) (vs : List (List Int)) (ps : List (Int × Int)) : List (List Int) := (rowsF m m.toNat).filter fun v => decide (beatsF m (vs ++ [v]) = srtW ps)
theorem fit_out {m : Int} (hm : 0 ≤ m ∧ m ≤ 6) {vs : List (List Int)} (hv : isVot m vs) {ps : List (Int × Int)} (hw : isWeb m ps) {p : Int × Int} (hp : p ∈ prs m 0) (h : outP vs ps p = true) : fitL m vs ps = [] := by
  unfold fitL
  rw [List.filter_eq_nil_iff]
  intro v hr
  rw [decide_eq_true_eq, fits_iff hm hv hw (rowsF_ord hr)]
  exact fun z => fitsP_out hw h (z p hp)
theorem fit_in {m : Int} (hm : 0 ≤ m ∧ m ≤ 6) {vs : List (List Int)} (hv : isVot m vs) {ps : List (Int × Int)} (hw : isWeb m ps) (h : ∀ p ∈ prs m 0, outP vs ps p = false) : fitL m vs ps = (rowsF m m.toNat).filter (keepsF (boundF m vs ps)) := by
  unfold fitL
  refine List.filter_congr fun v hr => ?_
  have ho := rowsF_ord hr
  refine decide_eq_decide.mpr ?_
  rw [fits_iff hm hv hw ho]
  constructor
  · intro z q hq
    obtain ⟨l, hl, hql⟩ := List.mem_flatten.mp hq
    obtain ⟨p, hp, rfl⟩ := List.mem_map.mp hl
    exact (fitsP_bnd hw ho hp (h p hp)).mp (z p hp) q hql
  · intro z p hp
    exact (fitsP_bnd hw ho hp (h p hp)).mpr fun q hq => z q (List.mem_flatten.mpr ⟨_, List.mem_map.mpr ⟨p, hp, rfl⟩, hq⟩)
/-- the beats that bind, as the law tells them -/
def lbndF (now w : Int) (p : Int × Int) : List (Int × Int) := (if (-1 ≤ now ∧ now ≤ 1) ∧ 0 < (if w = 0 then -now else w) then [p] else []) ++ (if (-1 ≤ now ∧ now ≤ 1) ∧ (if w = 0 then -now else w) < 0 then [swp p] else [])
def lboundF (m : Int) (vs : List (List Int)) (ps : List (Int × Int)) : List (Int × Int) := ((prs m 0).map fun p => lbndF (leadF vs p.1 p.2) (wishF ps p) p).flatten
theorem lbndF_eq {now w : Int} {p : Int × Int} (hw : w = 1 ∨ w = -1 ∨ w = 0) (h : outB now w = false) : lbndF now w p = bndF now w p := by
  unfold outB at h
  unfold lbndF bndF
  rcases hw with rfl | rfl | rfl
  · have h3 : ¬ now * 1 < 0 := by simpa using h
    rw [if_neg (by decide : ¬ (1 : Int) = 0), if_neg (by decide : ¬ (1 : Int) = 0)]
    by_cases c : 1 < now * 1
    · rw [if_pos c, if_neg (by omega), if_neg (by omega)]
      rfl
    · rw [if_neg c, if_pos (by omega), if_neg (by omega), if_pos (by decide)]
      rfl
  · have h3 : ¬ now * -1 < 0 := by simpa using h
    rw [if_neg (by decide : ¬ (-1 : Int) = 0), if_neg (by decide : ¬ (-1 : Int) = 0)]
    by_cases c : 1 < now * -1
    · rw [if_pos c, if_neg (by omega), if_neg (by omega)]
      rfl
    · rw [if_neg c, if_neg (by omega), if_pos (by omega), if_neg (by decide)]
      rfl
  · have h3 : now = 1 ∨ now = -1 := by
      rw [if_pos rfl] at h
      by_cases c : now = 1
      · exact .inl c
      · exact .inr (by simpa [c] using h)
    rw [if_pos rfl, if_pos rfl]
    by_cases c : 0 < -now
    · rw [if_pos c, if_pos (by omega), if_neg (by omega)]
      rfl
    · rw [if_neg c, if_neg (by omega), if_pos (by omega)]
      rfl
theorem lboundF_eq {m : Int} {vs : List (List Int)} {ps : List (Int × Int)} (hw : isWeb m ps) (h : ∀ p ∈ prs m 0, outP vs ps p = false) : lboundF m vs ps = boundF m vs ps := by
  unfold lboundF boundF
  congr 1
  refine List.map_congr_left fun p hp => lbndF_eq ?_ (h p hp)
  rcases wish_cas hw p with ⟨e, _⟩ | ⟨e, _⟩ | ⟨e, _⟩
  · exact .inl e
  · exact .inr (.inl e)
  · exact .inr (.inr e)
/-! what is told -/
def oneF (m : Int) (vs : List (List Int)) (ps : List (Int × Int)) : Out := match (prs m 0).find? (outP vs ps) with
  | some p => .val (.tuple [.str "out", pD p])
  | none => match foF m (boundF m vs ps) with
    | some v => .val (.tuple [.str "voter", iD v])
    | none => match srF (boundF m vs ps) with
      | some r => .pair "ring" (r.map .int)
      | none => .val (.tuple [.str "ring", .none])
theorem wish_bd (ps : List (Int × Int)) (p : Int × Int) : -1 ≤ wishF ps p ∧ wishF ps p ≤ 1 := by
  unfold wishF
  split <;> split <;> omega
theorem ev_wish {K : PySem.W.Frag} {σ : L2.St} {H : Hp} {ta tb tw : TE} {ps : List (Int × Int)} {a b : Int} (ha : EvD ta σ H (.int a)) (hb : EvD tb σ H (.int b)) (hw : EvD tw σ H (wD ps)) :
    EvD (tOp rSubI (tCB rIntB (tCons (tOp (rInD K) (tTupF (tCons ta (tCons tb tNil))) tw) tNil)) (tCB rIntB (tCons (tOp (rInD K) (tTupF (tCons tb (tCons ta tNil))) tw) tNil))) σ H (.int (wishF ps (a, b))) := by
  have z : EvD (tOp rSubI (tCB rIntB (tCons (tOp (rInD K) (tTupF (tCons ta (tCons tb tNil))) tw) tNil)) (tCB rIntB (tCons (tOp (rInD K) (tTupF (tCons tb (tCons ta tNil))) tw) tNil))) σ H (.int ((if decide ((a, b) ∈ ps) then 1 else 0) - (if decide ((b, a) ∈ ps) then 1 else 0))) :=
    evd_op (evd_cb (evs_cons (evd_op (x := pD (a, b)) (evd_tup (evs_cons ha (evs_cons hb evs_nil)) (Nat.le_of_ble_eq_true rfl)) hw rd_inW) evs_nil) cd_intB) (evd_cb (evs_cons (evd_op (x := pD (b, a)) (evd_tup (evs_cons hb (evs_cons ha evs_nil)) (Nat.le_of_ble_eq_true rfl)) hw rd_inW) evs_nil) cd_intB) rd_subI
  simp only [decide_eq_true_eq] at z
  exact z
end Bm

namespace Bm
open PySem PySem.Spec PyProof.Rows L2 Evl
local macro_rules | `(tactic| wtm_at "rp") => `(tactic| first | exact rp_int | exact rp_bl | exact rp_str | exact rp_non | assumption | (refine' Rp.ex ?e ?h; (case h => assumption); (case e => assumption)) | exact Own.rp (by assumption))
local macro_rules | `(tactic| wtm_at "side") => `(tactic| first | assumption | omega | decide | rfl | exact ⟨by omega, by omega⟩)
local macro_rules | `(tactic| wtm_at "es") => `(tactic| first | exact evs_nil | (refine' evs_cons ?a ?b; (case a => wtm_at "ev"); (case b => wtm_at "es")))
local macro_rules | `(tactic| wtm_at "ev") => `(tactic| first
  | exact evd_int | exact evd_str | exact evd_bl | exact evd_non
  | (refine' evd_var rfl ?h; (case h => wtm_at "rp"))
  | ((with_reducible refine' evd_op ?a ?b rd_addI); (case a => wtm_at "ev"); (case b => wtm_at "ev"))
  | ((with_reducible refine' evd_op ?a ?b rd_subI); (case a => wtm_at "ev"); (case b => wtm_at "ev"))
  | ((with_reducible refine' evd_op ?a ?b (rd_mulI ?c)); (case a => wtm_at "ev"); (case b => wtm_at "ev"); (case c => wtm_at "side"))
  | ((with_reducible refine' evd_op ?a ?b (rd_divI ?c)); (case a => wtm_at "ev"); (case b => wtm_at "ev"); (case c => wtm_at "side"))
  | ((with_reducible refine' evd_op ?a ?b (rd_modI ?c)); (case a => wtm_at "ev"); (case b => wtm_at "ev"); (case c => wtm_at "side"))
  | ((with_reducible refine' evd_op ?a ?b rd_ltI); (case a => wtm_at "ev"); (case b => wtm_at "ev"))
  | ((with_reducible refine' evd_op ?a ?b rd_leI); (case a => wtm_at "ev"); (case b => wtm_at "ev"))
  | ((with_reducible refine' evd_op ?a ?b rd_gtI); (case a => wtm_at "ev"); (case b => wtm_at "ev"))
  | ((with_reducible refine' evd_op ?a ?b rd_geI); (case a => wtm_at "ev"); (case b => wtm_at "ev"))
  | ((with_reducible refine' evd_op ?a ?b rd_eqI); (case a => wtm_at "ev"); (case b => wtm_at "ev"))
  | ((with_reducible refine' evd_op ?a ?b rd_neI); (case a => wtm_at "ev"); (case b => wtm_at "ev"))
  | ((with_reducible refine' evd_op ?a ?b rd_eqB); (case a => wtm_at "ev"); (case b => wtm_at "ev"))
  | ((with_reducible refine' evd_op ?a ?b rd_neB); (case a => wtm_at "ev"); (case b => wtm_at "ev"))
  | ((with_reducible refine' evd_op ?a ?b rd_isNo); (case a => wtm_at "ev"); (case b => wtm_at "ev"))
  | ((with_reducible refine' evd_op ?a ?b rd_notNo); (case a => wtm_at "ev"); (case b => wtm_at "ev"))
  | ((with_reducible refine' evd_op ?a ?b rd_inIL); (case a => wtm_at "ev"); (case b => wtm_at "ev"))
  | ((with_reducible refine' evd_op ?a ?b rd_niIL); (case a => wtm_at "ev"); (case b => wtm_at "ev"))
  | ((with_reducible refine' evd_op ?a ?b rd_inID); (case a => wtm_at "ev"); (case b => wtm_at "ev"))
  | ((with_reducible refine' evd_op ?a ?b rd_niID); (case a => wtm_at "ev"); (case b => wtm_at "ev"))
  | ((with_reducible refine' evd_neg ?a); (case a => wtm_at "ev"))
  | ((with_reducible refine' evd_tix ?a ?b ?c); (case a => wtm_at "ev"); (case b => wtm_at "ev"); (case c => wtm_at "side"))
  | ((with_reducible refine' evd_tup ?a ?b); (case a => wtm_at "es"); (case b => exact Nat.le_of_ble_eq_true rfl))
  | ((with_reducible refine' evd_cb ?a cd_lenL); (case a => wtm_at "es"))
  | ((with_reducible refine' evd_cb ?a cd_lenT); (case a => wtm_at "es"))
  | ((with_reducible refine' evd_cb ?a cd_intB); (case a => wtm_at "es"))
  | ((with_reducible refine' evd_cb ?a cd_tupL); (case a => wtm_at "es"))
  | ((with_reducible refine' evd_and ?a ?b); (case a => wtm_at "ev"); (case b => intro _; wtm_at "ev"))
  | ((with_reducible refine' evd_or ?a ?b); (case a => wtm_at "ev"); (case b => intro _; wtm_at "ev"))
  | ((with_reducible refine' evd_not ?a); (case a => wtm_at "ev"))
  | ((with_reducible refine' evd_op ?a ?b rd_neIL); (case a => wtm_at "ev"); (case b => wtm_at "ev"))
  | ((with_reducible refine' evd_op ?a ?b rd_eqIL); (case a => wtm_at "ev"); (case b => wtm_at "ev"))
  | ((with_reducible refine' EvN.toD ?a); (case a => wtm_at "en")))
local macro_rules | `(tactic| wtm_at "en") => `(tactic| first
  | ((with_reducible refine' evn_cb ?a cn_sortTI); (case a => wtm_at "es"))
  | ((with_reducible refine' evn_cb ?a cn_listL); (case a => wtm_at "es"))
  | ((with_reducible refine' evn_cb ?a cn_listT); (case a => wtm_at "es"))
  | ((with_reducible refine' evn_rng ?a ?b); (case a => wtm_at "ev"); (case b => wtm_at "side"))
  | ((with_reducible refine' evn_lst ?a ?b); (case a => wtm_at "es"); (case b => exact Nat.le_of_ble_eq_true rfl))
  | ((with_reducible refine' evn_cat ?a ?b ?c); (case a => wtm_at "ev"); (case b => wtm_at "ev"); (case c => wtm_at "side"))
  | ((with_reducible refine' evn_slL ?a ?b ?c); (case a => wtm_at "ev"); (case b => first | exact evp_none | (refine' evp_some ?d; (case d => wtm_at "ev"))); (case c => first | exact evp_none | (refine' evp_some ?d; (case d => wtm_at "ev")))))
local macro_rules | `(tactic| wtm_at "et") => `(tactic| first
  | exact et_yes
  | (refine' ett ?a; (case a => wtm_at "ev"))
  | (refine' etB ?a; (case a => wtm_at "ev"))
  | (refine' et_and ?a ?b; (case a => wtm_at "et"); (case b => intro _; wtm_at "et"))
  | (refine' et_or ?a ?b; (case a => wtm_at "et"); (case b => intro _; wtm_at "et"))
  | (refine' et_not ?a; (case a => wtm_at "et")))
local macro_rules | `(tactic| wtm_at "nx") => `(tactic| try dsimp only [tSeq, tNext])
/-! ### wished_signs, added -/
def sp_wished_signs : Sp := spO (α := Int × List (Int × Int)) (fun a => [.int a.1, wD a.2]) (fun a => 0 ≤ a.1 ∧ a.1 ≤ 6) fun a => .new ((wishV a.1 a.2).map .int)
theorem len_wished_signs (vs : List V) (H : Hp) (Q : VK) (E : XK) (h : sp_wished_signs vs H Q E) : vs.length = 2 := by
  unfold sp_wished_signs at h
  obtain ⟨a, r, _⟩ := h
  rw [r.len]
  rfl
section
variable {P : Program} {w : World} {K : PySem.W.Frag} {mg : Str → Option Value} {base : Heap}
theorem ok_wished_signs {f : Addr} {fd : FuncData} (D : Df K mg "wished_signs" s_wished_signs ["many", "web"] f fd) (Bi : Bi mg) : FnOk P w K mg base CX0 1 f fd ["many", "web"] sp_wished_signs := by
  refine D.F.ok c_wished_signs (fun vs H Q E h => len_wished_signs _ _ _ _ h) (fun cdv A outer s H vs Q E hr h => ?_)
  refine ⟨_, (pss_cons (ps_set (i := 2) c_wished_signs.nd rfl (.inl rfl) (pe_lst pa_nil))
      (pss_cons (ps_for (PassesOwn.never) rfl (pi_range1 (by rfl) Bi.range (pa_cons (pv 0) pa_nil)) (pg_name (i := 3) c_wished_signs.nd rfl (.inr rfl))
      (pss_one (ps_expr (pe_bm PySem.F.plainAttrs_list PySem.F.slot_list_extend PySem.F.type_list_extend mt_extend (pv 2) (pa_cons (pe_lc (own := [("other", 4)]) (g := (gName 4)) (tt := tYes) rfl c_wished_signs.nd (pi_range2 (by rfl) Bi.range (pa_cons (pe_op op_addI (pv 3) pe_int) (pa_cons (pv 0) pa_nil))) (blkOk_by (own := [("other", 4)]) (N := ["many", "web", "found", "one", "other"]) (sc := defScope s_wished_signs) (by decide +kernel)) (fun _ _ _ _ _ => (pg_name (i := 4) c_wished_signs.nd rfl (.inl rfl))) (fun _ _ _ _ _ => pts_nil) (fun _ _ _ _ _ => (pe_op op_subI (pe_callTy cr_intB (by rfl) Bi.int (by decide +kernel) (pa_cons (pe_cmpR (op_inDK (K := K) (hu65 hr)) (pe_tupF (pa_cons (pv 3) (pa_cons (pv 4) pa_nil))) (pv 1) (by rfl)) pa_nil)) (pe_callTy cr_intB (by rfl) Bi.int (by decide +kernel) (pa_cons (pe_cmpR (op_inDK (K := K) (hu65 hr)) (pe_tupF (pa_cons (pv 4) (pa_cons (pv 3) pa_nil))) (pv 1) (by rfl)) pa_nil))))) pa_nil)))))
      (pss_one (ps_ret (pv 2))))), ?_⟩
  obtain ⟨⟨m, ps⟩, ⟨v1, _, rfl, rfl, v2, _, rfl, hw, rfl⟩, ⟨m0, m6⟩, q⟩ := h
  dsimp only at q hw m0 m6
  have hpl := prs_len ⟨m0, m6⟩
  refine' s_asgO (evn_lst evs_nil (by decide)) rfl fun pf H1 e1 o1 => ?_
  wtm_at "nx"
  refine' s_forR (n := m) ?n (by omega) fun H3 e3 => ⟨fun i σ' H' => ∃ acc y, σ' = [some (.int m), some v2, some (.ref pf), y, none] ∧ Own H H' pf ((acc : List Int).map .int) ∧ acc ++ (prs m i).map (wishF ps) = wishV m ps, ?_, ?_, ?_⟩
  case n => wtm_at "es"
  · exact ⟨[], none, rfl, o1.step e3, rfl⟩
  · rintro i σ' H' hi ⟨acc, y, rfl, o, hacc⟩
    refine g_name ?_
    rw [prs_step hi, List.map_append] at hacc
    have hlen : acc.length + ((rowP m i ((i : Int) + 1)).map (wishF ps)).length ≤ 15 := by
      have := congrArg List.length hacc
      unfold wishV at this
      rw [List.length_append, List.length_append, List.length_map (as := prs m 0)] at this
      omega
    have hw' : Rp H' (wD ps) v2 := hw.ex o.ex
    refine' s_extO o rfl (es := ((rowP m i ((i : Int) + 1)).map (wishF ps)).map .int) ?x (imm_ints _) (by rw [List.length_map, List.length_map]; omega) fun H5 x5 o5 => ?_
    case x =>
      rw [prs_row m (wishF ps), List.map_map]
      have z : (rgI ((i : Int) + 1) (m - ((i : Int) + 1)).toNat).map (PyData.int ∘ fun j => wishF ps ((i : Int), j)) = ((rgI ((i : Int) + 1) (m - ((i : Int) + 1)).toNat).filter fun _ => true).map fun j => PyData.int (wishF ps ((i : Int), j)) := by
        rw [List.filter_eq_self.mpr (fun _ _ => rfl)]
        rfl
      refine EvN.is ?_ z.symm
      refine' evn_lcR2 (lo := (i : Int) + 1) (n := m) (fun _ => true) (fun j => .int (wishF ps ((i : Int), j))) ?es (by omega) ?turn fun _ _ _ _ => rfl
      case es => wtm_at "es"
      case turn =>
        intro j H6 j0 j1 e6
        exact ⟨_, fun Q hq => hq, rfl, et_yes, fun _ => ev_wish (a := (i : Int)) (b := j) (evd_var rfl rp_int) (evd_var rfl rp_int) (evd_var rfl (hw'.ex e6))⟩
    refine ⟨acc ++ (rowP m i ((i : Int) + 1)).map (wishF ps), _, rfl, ?_, ?_⟩
    · rw [List.map_append]
      exact o5
    · rw [List.append_assoc, show ((i + 1 : Nat) : Int) = (i : Int) + 1 by omega]
      exact hacc
  · rintro σ' H' ⟨acc, y, rfl, o, hacc⟩
    wtm_at "nx"
    rw [prs_end (m := m) (a := (m.toNat : Int)) (by omega), List.map_nil, List.append_nil] at hacc
    subst hacc
    obtain ⟨ws, k1, k2⟩ := o.has
    exact ⟨_, rfl, q pf ws H' o.new o.ex k1 k2⟩
end
theorem ev_wished_signs {σ : L2.St} {H : Hp} {t0 t1 : TE} {E : XK} {m : Int} {ps : List (Int × Int)} (h0 : EvD t0 σ H (.int m)) (h1 : EvD t1 σ H (wD ps)) (c : 0 ≤ m ∧ m ≤ 6) : EvN (tCall sp_wished_signs [] E (tCons t0 (tCons t1 tNil))) σ H ((wishV m ps).map .int) := evn_callO (m, ps) (evs_cons h0 (evs_cons h1 evs_nil)) c rfl
def sp_added : Sp := fun vs H Q _ => ∃ (a b : List Int) (v1 v2 : V), vs = [v1, v2] ∧ PT H a v1 ∧ Rp H (iD b) v2 ∧ a.length = b.length ∧ a.length ≤ 1000 ∧ ∀ p H', H p = none → Ex H H' → H' p = some (.tup ((addV a b).map V.int)) → Q (.ref p) H'
theorem len_added (vs : List V) (H : Hp) (Q : VK) (E : XK) (h : sp_added vs H Q E) : vs.length = 2 := by
  obtain ⟨a, b, v1, v2, rfl, _⟩ := h
  rfl
theorem addV_rg : ∀ {a b : List Int}, a.length = b.length → addV a b = (rgI 0 a.length).map fun k => a.getD k.toNat 0 + b.getD k.toNat 0 := fun {a b} h => by
  refine List.ext_getElem? fun i => ?_
  unfold addV
  rw [List.getElem?_map]
  by_cases hi : i < a.length
  · rw [rgI_get hi, List.getElem?_zipWith]
    have h2 : i < b.length := by omega
    simp [hi, h2]
  · rw [List.getElem?_eq_none (by rw [List.length_zipWith]; omega), List.getElem?_eq_none (by rw [rgI_len]; omega)]
    rfl
section
variable {P : Program} {w : World} {K : PySem.W.Frag} {mg : Str → Option Value} {base : Heap}
theorem ok_added {f : Addr} {fd : FuncData} (D : Df K mg "added" s_added ["one", "other"] f fd) (Bi : Bi mg) : FnOk P w K mg base CX0 1 f fd ["one", "other"] sp_added := by
  refine D.F.ok c_added (fun vs H Q E h => len_added _ _ _ _ h) (fun cdv A outer s H vs Q E hr h => ?_)
  refine ⟨_, (pss_one (ps_ret (pe_callTy (cr_tupPK (K := K)) (by rfl) Bi.tuple (by decide +kernel) (pa_cons (pe_lc (own := [("k", 2)]) (g := (gName 2)) (tt := tYes) rfl c_added.nd (pi_range1 (by rfl) Bi.range (pa_cons (pe_callB (cr_lenK (K := K)) (by rfl) Bi.len (by decide +kernel) (pa_cons (pv 0) pa_nil)) pa_nil)) (blkOk_by (own := [("k", 2)]) (N := ["one", "other", "k"]) (sc := defScope s_added) (by decide +kernel)) (fun _ _ _ _ _ => (pg_name (i := 2) c_added.nd rfl (.inl rfl))) (fun _ _ _ _ _ => pts_nil) (fun _ _ _ _ _ => (pe_op op_addI (pe_ix (ix_tupK (K := K)) (pv 0) (pv 2) (fun _ _ => rfl)) (pe_ix (ix_tupK (K := K)) (pv 1) (pv 2) (fun _ _ => rfl))))) pa_nil)))), ?_⟩
  obtain ⟨a, b, v1, v2, rfl, ⟨pa, rfl, ha⟩, hb, hl, hl2, q⟩ := h
  refine evp_tup (ns := addV a b) (EvN.toD ?_) H (Ex.refl _) _ fun p H1 hp e1 h1 => q p H1 hp e1 h1
  rw [addV_rg hl, List.map_map]
  have z : (rgI 0 a.length).map (PyData.int ∘ fun k => a.getD k.toNat 0 + b.getD k.toNat 0) = ((rgI 0 ((a.length : Int)).toNat).filter fun _ => true).map fun k => PyData.int (a.getD k.toNat 0 + b.getD k.toNat 0) := by
    rw [List.filter_eq_self.mpr (fun _ _ => rfl)]
    rfl
  refine EvN.is ?_ z.symm
  refine evn_lcR (n := (a.length : Int)) (fun _ => true) (fun k => .int (a.getD k.toNat 0 + b.getD k.toNat 0)) (evs_cons (evd_lenP rfl ha) evs_nil) (by omega) ?turn fun _ _ _ _ => rfl
  intro k H6 k0 k1 e6
  have hk : k.toNat < a.length := by omega
  have ek : k = ((k.toNat : Nat) : Int) := by omega
  have h1 : atI a k = some (a.getD k.toNat 0) := by
    conv => lhs; rw [ek]
    exact atI_nat (by rw [List.getD_eq_getElem?_getD, List.getElem?_eq_getElem hk]; rfl)
  have h2 : atI (b.map PyData.int) k = some (.int (b.getD k.toNat 0)) := by
    refine atI_map ?_
    conv => lhs; rw [ek]
    exact atI_nat (by rw [List.getD_eq_getElem?_getD, List.getElem?_eq_getElem (by omega)]; rfl)
  have hb6 : Rp H6 (iD b) v2 := hb.ex e6
  exact ⟨_, fun Q hq => hq, rfl, et_yes, fun _ => evd_op (evd_ixP rfl (e6 _ _ ha) (evd_var rfl rp_int) h1) (evd_op (evd_var rfl hb6) (evd_var rfl rp_int) (rd_ixT h2)) rd_addI⟩
end
end Bm

namespace Bm
open PySem PySem.Spec PyProof.Rows L2 Evl
local macro_rules | `(tactic| wtm_at "rp") => `(tactic| first | exact rp_int | exact rp_bl | exact rp_str | exact rp_non | assumption | (refine' Rp.ex ?e ?h; (case h => assumption); (case e => assumption)) | exact Own.rp (by assumption))
local macro_rules | `(tactic| wtm_at "side") => `(tactic| first | assumption | omega | decide | rfl | exact ⟨by omega, by omega⟩)
local macro_rules | `(tactic| wtm_at "es") => `(tactic| first | exact evs_nil | (refine' evs_cons ?a ?b; (case a => wtm_at "ev"); (case b => wtm_at "es")))
local macro_rules | `(tactic| wtm_at "ev") => `(tactic| first
  | exact evd_int | exact evd_str | exact evd_bl | exact evd_non
  | (refine' evd_var rfl ?h; (case h => wtm_at "rp"))
  | ((with_reducible refine' evd_op ?a ?b rd_addI); (case a => wtm_at "ev"); (case b => wtm_at "ev"))
  | ((with_reducible refine' evd_op ?a ?b rd_subI); (case a => wtm_at "ev"); (case b => wtm_at "ev"))
  | ((with_reducible refine' evd_op ?a ?b (rd_mulI ?c)); (case a => wtm_at "ev"); (case b => wtm_at "ev"); (case c => wtm_at "side"))
  | ((with_reducible refine' evd_op ?a ?b (rd_divI ?c)); (case a => wtm_at "ev"); (case b => wtm_at "ev"); (case c => wtm_at "side"))
  | ((with_reducible refine' evd_op ?a ?b (rd_modI ?c)); (case a => wtm_at "ev"); (case b => wtm_at "ev"); (case c => wtm_at "side"))
  | ((with_reducible refine' evd_op ?a ?b rd_ltI); (case a => wtm_at "ev"); (case b => wtm_at "ev"))
  | ((with_reducible refine' evd_op ?a ?b rd_leI); (case a => wtm_at "ev"); (case b => wtm_at "ev"))
  | ((with_reducible refine' evd_op ?a ?b rd_gtI); (case a => wtm_at "ev"); (case b => wtm_at "ev"))
  | ((with_reducible refine' evd_op ?a ?b rd_geI); (case a => wtm_at "ev"); (case b => wtm_at "ev"))
  | ((with_reducible refine' evd_op ?a ?b rd_eqI); (case a => wtm_at "ev"); (case b => wtm_at "ev"))
  | ((with_reducible refine' evd_op ?a ?b rd_neI); (case a => wtm_at "ev"); (case b => wtm_at "ev"))
  | ((with_reducible refine' evd_op ?a ?b rd_eqB); (case a => wtm_at "ev"); (case b => wtm_at "ev"))
  | ((with_reducible refine' evd_op ?a ?b rd_neB); (case a => wtm_at "ev"); (case b => wtm_at "ev"))
  | ((with_reducible refine' evd_op ?a ?b rd_isNo); (case a => wtm_at "ev"); (case b => wtm_at "ev"))
  | ((with_reducible refine' evd_op ?a ?b rd_notNo); (case a => wtm_at "ev"); (case b => wtm_at "ev"))
  | ((with_reducible refine' evd_op ?a ?b rd_inIL); (case a => wtm_at "ev"); (case b => wtm_at "ev"))
  | ((with_reducible refine' evd_op ?a ?b rd_niIL); (case a => wtm_at "ev"); (case b => wtm_at "ev"))
  | ((with_reducible refine' evd_op ?a ?b rd_inID); (case a => wtm_at "ev"); (case b => wtm_at "ev"))
  | ((with_reducible refine' evd_op ?a ?b rd_niID); (case a => wtm_at "ev"); (case b => wtm_at "ev"))
  | ((with_reducible refine' evd_neg ?a); (case a => wtm_at "ev"))
  | ((with_reducible refine' evd_tix ?a ?b ?c); (case a => wtm_at "ev"); (case b => wtm_at "ev"); (case c => wtm_at "side"))
  | ((with_reducible refine' evd_tup ?a ?b); (case a => wtm_at "es"); (case b => exact Nat.le_of_ble_eq_true rfl))
  | ((with_reducible refine' evd_cb ?a cd_lenL); (case a => wtm_at "es"))
  | ((with_reducible refine' evd_cb ?a cd_lenT); (case a => wtm_at "es"))
  | ((with_reducible refine' evd_cb ?a cd_intB); (case a => wtm_at "es"))
  | ((with_reducible refine' evd_cb ?a cd_tupL); (case a => wtm_at "es"))
  | ((with_reducible refine' evd_and ?a ?b); (case a => wtm_at "ev"); (case b => intro _; wtm_at "ev"))
  | ((with_reducible refine' evd_or ?a ?b); (case a => wtm_at "ev"); (case b => intro _; wtm_at "ev"))
  | ((with_reducible refine' evd_not ?a); (case a => wtm_at "ev"))
  | ((with_reducible refine' evd_op ?a ?b rd_neIL); (case a => wtm_at "ev"); (case b => wtm_at "ev"))
  | ((with_reducible refine' evd_op ?a ?b rd_eqIL); (case a => wtm_at "ev"); (case b => wtm_at "ev"))
  | ((with_reducible refine' EvN.toD ?a); (case a => wtm_at "en")))
local macro_rules | `(tactic| wtm_at "en") => `(tactic| first
  | ((with_reducible refine' evn_cb ?a cn_sortTI); (case a => wtm_at "es"))
  | ((with_reducible refine' evn_cb ?a cn_listL); (case a => wtm_at "es"))
  | ((with_reducible refine' evn_cb ?a cn_listT); (case a => wtm_at "es"))
  | ((with_reducible refine' evn_rng ?a ?b); (case a => wtm_at "ev"); (case b => wtm_at "side"))
  | ((with_reducible refine' evn_lst ?a ?b); (case a => wtm_at "es"); (case b => exact Nat.le_of_ble_eq_true rfl))
  | ((with_reducible refine' evn_cat ?a ?b ?c); (case a => wtm_at "ev"); (case b => wtm_at "ev"); (case c => wtm_at "side"))
  | ((with_reducible refine' evn_slL ?a ?b ?c); (case a => wtm_at "ev"); (case b => first | exact evp_none | (refine' evp_some ?d; (case d => wtm_at "ev"))); (case c => first | exact evp_none | (refine' evp_some ?d; (case d => wtm_at "ev")))))
local macro_rules | `(tactic| wtm_at "et") => `(tactic| first
  | exact et_yes
  | (refine' ett ?a; (case a => wtm_at "ev"))
  | (refine' etB ?a; (case a => wtm_at "ev"))
  | (refine' et_and ?a ?b; (case a => wtm_at "et"); (case b => intro _; wtm_at "et"))
  | (refine' et_or ?a ?b; (case a => wtm_at "et"); (case b => intro _; wtm_at "et"))
  | (refine' et_not ?a; (case a => wtm_at "et")))
local macro_rules | `(tactic| wtm_at "nx") => `(tactic| try dsimp only [tSeq, tNext])
/-! ### every order is gone through; a dict's keys -/
theorem extAll_mem {m : Int} : ∀ {s r : List Int}, (r ++ s).Nodup → (∀ x ∈ s, 0 ≤ x ∧ x < m) → r ++ s ∈ extAll m s.length r
  | [], r, _, _ => by
    rw [List.append_nil]
    exact List.mem_singleton.mpr rfl
  | t :: s, r, n, h => by
    have e : r ++ t :: s = (r ++ [t]) ++ s := by rw [List.append_assoc]; rfl
    have ih := extAll_mem (m := m) (s := s) (r := r ++ [t]) (by rw [← e]; exact n) fun x hx => h x (List.mem_cons_of_mem _ hx)
    rw [e]
    refine List.mem_flatten.mpr ⟨_, List.mem_map.mpr ⟨r ++ [t], ?_, rfl⟩, ih⟩
    unfold extRow
    refine List.mem_map.mpr ⟨t, ?_, rfl⟩
    rw [List.mem_filter, mem_rgI]
    have ht := h t List.mem_cons_self
    refine ⟨by omega, ?_⟩
    have : t ∉ r := fun z => (List.nodup_append.mp n).2.2 t z t List.mem_cons_self rfl
    simpa using this
theorem rowsF_mem {m : Int} {v : List Int} (h : isOrd m v) : v ∈ rowsF m m.toNat := by
  rw [rowsF_all]
  have := extAll_mem (m := m) (s := v) (r := []) (by simpa using h.nodup) fun x hx => h.mem.mp hx
  rwa [List.nil_append, h.len] at this
theorem putK_keys {κ : Type} [DecidableEq κ] {kvs : List (κ × V)} {k : κ} {v : V} (n : (kvs.map (·.1)).Nodup) : ((putK kvs k v).map (·.1)).Nodup := by
  unfold putK
  by_cases a : (kvs.any fun kv => decide (kv.1 = k)) = true
  · rw [if_pos a, List.map_map]
    have : ((·.1) ∘ fun kv : κ × V => if kv.1 = k then (kv.1, v) else kv) = fun kv : κ × V => kv.1 := by
      funext kv
      show (if kv.1 = k then (kv.1, v) else kv).1 = kv.1
      split <;> rfl
    rw [this]
    exact n
  · rw [if_neg a, List.map_append, List.nodup_append]
    refine ⟨n, by simp, fun x hx y hy e => ?_⟩
    have hy : y = k := by simpa using hy
    obtain ⟨kv, h1, h2⟩ := List.mem_map.mp hx
    exact a (List.any_eq_true.mpr ⟨kv, h1, decide_eq_true (by rw [h2, e, hy])⟩)
theorem putK_mem {κ : Type} [DecidableEq κ] {kvs : List (κ × V)} {k : κ} {v : V} {p : κ × V} (h : p ∈ putK kvs k v) : p ∈ kvs ∨ p = (k, v) := by
  unfold putK at h
  by_cases a : (kvs.any fun kv => decide (kv.1 = k)) = true
  · rw [if_pos a] at h
    obtain ⟨q, hq, rfl⟩ := List.mem_map.mp h
    by_cases e : q.1 = k
    · rw [if_pos e, e]
      exact .inr rfl
    · rw [if_neg e]
      exact .inl hq
  · rw [if_neg a] at h
    rcases List.mem_append.mp h with h | h
    · exact .inl h
    · exact .inr (List.mem_singleton.mp h)
/-! ### what is neither a dict nor a locked one stays -/
def ndO (o : HO) : Prop := (∀ kvs, o ≠ .dT kvs) ∧ ∀ ob kvs, o ≠ .frz ob (.dT kvs)
def KL (H H' : Hp) : Prop := ∀ a o, ndO o → H a = some o → H' a = some o
theorem KL.refl (H : Hp) : KL H H := fun _ _ _ h => h
theorem KL.trans {H H1 H2 : Hp} (a : KL H H1) (b : KL H1 H2) : KL H H2 := fun x o n h => b x o n (a x o n h)
theorem KL.of {H H' : Hp} (e : Ex H H') : KL H H' := fun a o _ h => e a o h
theorem nd_lst (xs : List V) : ndO (.lst xs) := ⟨(fun _ h => nomatch h), (fun _ _ h => nomatch h)⟩
theorem nd_tup (xs : List V) : ndO (.tup xs) := ⟨(fun _ h => nomatch h), (fun _ _ h => nomatch h)⟩
theorem nd_ftup (ob : Obj) (xs : List V) : ndO (.frz ob (.tup xs)) := ⟨(fun _ h => nomatch h), (fun _ _ h => nomatch h)⟩
theorem KL.upd {H : Hp} {d : Addr} {u o : HO} (h : H d = some u) (n : ¬ ndO u) : KL H (L2.upd H d o) := fun a x nx e => by
  rw [upd_ne (fun z => by rw [z, h] at e; cases e; exact n nx)]
  exact e
theorem not_dT (kvs : List (List Key × V)) : ¬ ndO (.dT kvs) := fun h => h.1 kvs rfl
theorem not_fdT (ob : Obj) (kvs : List (List Key × V)) : ¬ ndO (.frz ob (.dT kvs)) := fun h => h.2 ob kvs rfl
mutual
theorem Rp.kl {H H' : Hp} (e : KL H H') : ∀ {d : PyData} {v : V}, Rp H d v → Rp H' d v
  | .none, _, h => h
  | .bool _, _, h => h
  | .int _, _, h => h
  | .str _, _, h => h
  | .list _, _, h => by
    obtain ⟨a, xs, e1, e2, e3⟩ := h
    exact ⟨a, xs, e1, e a _ (nd_lst _) e2, RpA.kl e e3⟩
  | .tuple _, _, h => by
    obtain ⟨a, xs, o, e1, e2, e4, e3⟩ := h
    exact ⟨a, xs, o, e1, e a _ (nd_ftup _ _) e2, e4, RpA.kl e e3⟩
  | .dict _, _, h => h
theorem RpA.kl {H H' : Hp} (e : KL H H') : ∀ {ds : List PyData} {vs : List V}, RpA H ds vs → RpA H' ds vs
  | [], _, h => h
  | _ :: _, _, h => by
    obtain ⟨v, r, e1, e2, e3⟩ := h
    exact ⟨v, r, e1, Rp.kl e e2, RpA.kl e e3⟩
end
theorem NL.kl {H0 H1 H2 : Hp} {ds : List PyData} {v : V} (h : NL H0 H1 ds v) (e : KL H1 H2) : NL H0 H2 ds v := by
  obtain ⟨a, vs, e1, n, k1, k2⟩ := h
  exact ⟨a, vs, e1, n, e _ _ (nd_lst _) k1, k2.kl e⟩
def keyV (l : List Int) : List Key := l.map Sum.inl
theorem keyV_kV (l : List Int) : (keyV l).map kV = l.map V.int := by
  unfold keyV
  rw [List.map_map]
  rfl
theorem keyV_inj {a b : List Int} (h : keyV a = keyV b) : a = b := by
  unfold keyV at h
  induction a generalizing b with
  | nil =>
    cases b with
    | nil => rfl
    | cons y b => cases h
  | cons x a ih =>
    cases b with
    | nil => cases h
    | cons y b =>
      rw [List.map_cons, List.map_cons, List.cons.injEq] at h
      rw [Sum.inl.inj h.1, ih h.2]
/-- entries of a dict of rows of leads of k voters -/
structure RowsOk (m : Int) (k : Nat) (H0 H : Hp) (kvs : List (List Key × V)) : Prop where
  nd : (kvs.map (·.1)).Nodup
  ent : ∀ p ∈ kvs, ∃ vs, isVot m vs ∧ vs.length = k ∧ p.1 = keyV (ldV m vs) ∧ NL H0 H (vs.map iD) p.2
theorem RowsOk.kl {m : Int} {k : Nat} {H0 H1 H2 : Hp} {kvs : List (List Key × V)} (h : RowsOk m k H0 H1 kvs) (e : KL H1 H2) : RowsOk m k H0 H2 kvs := ⟨h.nd, fun p hp => by
  obtain ⟨vs, a, b, c, d⟩ := h.ent p hp
  exact ⟨vs, a, b, c, d.kl e⟩⟩
theorem RowsOk.put {m : Int} {k : Nat} {H0 H : Hp} {kvs : List (List Key × V)} (h : RowsOk m k H0 H kvs) {vs : List (List Int)} {v : V} (hv : isVot m vs) (hl : vs.length = k) (hn : NL H0 H (vs.map iD) v) : RowsOk m k H0 H (putK kvs (keyV (ldV m vs)) v) := ⟨putK_keys h.nd, fun p hp => by
  rcases putK_mem hp with hp | rfl
  · exact h.ent p hp
  · exact ⟨vs, hv, hl, rfl, hn⟩⟩
theorem RowsOk.few {m : Int} (hm : 0 ≤ m ∧ m ≤ 4) {k : Nat} (hk : k ≤ 12) {H0 H : Hp} {kvs : List (List Key × V)} (h : RowsOk m k H0 H kvs) : kvs.length < sizeLine := by
  have hd := prs_len4 hm
  have e : ∃ rs : List (List Int), kvs.map (·.1) = rs.map keyV ∧ ∀ r ∈ rs, r.length = (prs m 0).length ∧ rowOk k r := by
    have ent := h.ent
    clear h
    induction kvs with
    | nil => exact ⟨[], rfl, fun r hr => by simp at hr⟩
    | cons p kvs ih =>
      obtain ⟨rs, h1, h2⟩ := ih fun q hq => ent q (List.mem_cons_of_mem _ hq)
      obtain ⟨vs, a, b, c, d⟩ := ent p List.mem_cons_self
      refine ⟨ldV m vs :: rs, by rw [List.map_cons, List.map_cons, h1, c], fun r hr => ?_⟩
      rcases List.mem_cons.mp hr with rfl | hr
      · exact ⟨ldV_len m vs, by rw [← b]; exact ldV_ok m vs⟩
      · exact h2 r hr
  obtain ⟨rs, h1, h2⟩ := e
  have nd := h.nd
  rw [h1] at nd
  have l := rows_few (nodup_of_map nd) h2
  have e2 : kvs.length = rs.length := by
    have := congrArg List.length h1
    rwa [List.length_map, List.length_map] at this
  rw [e2, sizeLine_eq]
  have b1 : (k + 1) ^ (prs m 0).length ≤ 13 ^ (prs m 0).length := Nat.pow_le_pow_left (by omega) _
  have b2 : 13 ^ (prs m 0).length ≤ 13 ^ 6 := Nat.pow_le_pow_right (by decide) hd
  have b3 : (13 : Nat) ^ 6 = 4826809 := by decide
  omega
end Bm

namespace Bm
open PySem PySem.Spec PyProof.Rows L2 Evl
local macro_rules | `(tactic| wtm_at "rp") => `(tactic| first | exact rp_int | exact rp_bl | exact rp_str | exact rp_non | assumption | (refine' Rp.ex ?e ?h; (case h => assumption); (case e => assumption)) | exact Own.rp (by assumption))
local macro_rules | `(tactic| wtm_at "side") => `(tactic| first | assumption | omega | decide | rfl | exact ⟨by omega, by omega⟩)
local macro_rules | `(tactic| wtm_at "es") => `(tactic| first | exact evs_nil | (refine' evs_cons ?a ?b; (case a => wtm_at "ev"); (case b => wtm_at "es")))
local macro_rules | `(tactic| wtm_at "ev") => `(tactic| first
  | exact evd_int | exact evd_str | exact evd_bl | exact evd_non
  | (refine' evd_var rfl ?h; (case h => wtm_at "rp"))
  | ((with_reducible refine' evd_op ?a ?b rd_addI); (case a => wtm_at "ev"); (case b => wtm_at "ev"))
  | ((with_reducible refine' evd_op ?a ?b rd_subI); (case a => wtm_at "ev"); (case b => wtm_at "ev"))
  | ((with_reducible refine' evd_op ?a ?b (rd_mulI ?c)); (case a => wtm_at "ev"); (case b => wtm_at "ev"); (case c => wtm_at "side"))
  | ((with_reducible refine' evd_op ?a ?b (rd_divI ?c)); (case a => wtm_at "ev"); (case b => wtm_at "ev"); (case c => wtm_at "side"))
  | ((with_reducible refine' evd_op ?a ?b (rd_modI ?c)); (case a => wtm_at "ev"); (case b => wtm_at "ev"); (case c => wtm_at "side"))
  | ((with_reducible refine' evd_op ?a ?b rd_ltI); (case a => wtm_at "ev"); (case b => wtm_at "ev"))
  | ((with_reducible refine' evd_op ?a ?b rd_leI); (case a => wtm_at "ev"); (case b => wtm_at "ev"))
  | ((with_reducible refine' evd_op ?a ?b rd_gtI); (case a => wtm_at "ev"); (case b => wtm_at "ev"))
  | ((with_reducible refine' evd_op ?a ?b rd_geI); (case a => wtm_at "ev"); (case b => wtm_at "ev"))
  | ((with_reducible refine' evd_op ?a ?b rd_eqI); (case a => wtm_at "ev"); (case b => wtm_at "ev"))
  | ((with_reducible refine' evd_op ?a ?b rd_neI); (case a => wtm_at "ev"); (case b => wtm_at "ev"))
  | ((with_reducible refine' evd_op ?a ?b rd_eqB); (case a => wtm_at "ev"); (case b => wtm_at "ev"))
  | ((with_reducible refine' evd_op ?a ?b rd_neB); (case a => wtm_at "ev"); (case b => wtm_at "ev"))
  | ((with_reducible refine' evd_op ?a ?b rd_isNo); (case a => wtm_at "ev"); (case b => wtm_at "ev"))
  | ((with_reducible refine' evd_op ?a ?b rd_notNo); (case a => wtm_at "ev"); (case b => wtm_at "ev"))
  | ((with_reducible refine' evd_op ?a ?b rd_inIL); (case a => wtm_at "ev"); (case b => wtm_at "ev"))
  | ((with_reducible refine' evd_op ?a ?b rd_niIL); (case a => wtm_at "ev"); (case b => wtm_at "ev"))
  | ((with_reducible refine' evd_op ?a ?b rd_inID); (case a => wtm_at "ev"); (case b => wtm_at "ev"))
  | ((with_reducible refine' evd_op ?a ?b rd_niID); (case a => wtm_at "ev"); (case b => wtm_at "ev"))
  | ((with_reducible refine' evd_neg ?a); (case a => wtm_at "ev"))
  | ((with_reducible refine' evd_tix ?a ?b ?c); (case a => wtm_at "ev"); (case b => wtm_at "ev"); (case c => wtm_at "side"))
  | ((with_reducible refine' evd_tup ?a ?b); (case a => wtm_at "es"); (case b => exact Nat.le_of_ble_eq_true rfl))
  | ((with_reducible refine' evd_cb ?a cd_lenL); (case a => wtm_at "es"))
  | ((with_reducible refine' evd_cb ?a cd_lenT); (case a => wtm_at "es"))
  | ((with_reducible refine' evd_cb ?a cd_intB); (case a => wtm_at "es"))
  | ((with_reducible refine' evd_cb ?a cd_tupL); (case a => wtm_at "es"))
  | ((with_reducible refine' evd_and ?a ?b); (case a => wtm_at "ev"); (case b => intro _; wtm_at "ev"))
  | ((with_reducible refine' evd_or ?a ?b); (case a => wtm_at "ev"); (case b => intro _; wtm_at "ev"))
  | ((with_reducible refine' evd_not ?a); (case a => wtm_at "ev"))
  | ((with_reducible refine' evd_op ?a ?b rd_neIL); (case a => wtm_at "ev"); (case b => wtm_at "ev"))
  | ((with_reducible refine' evd_op ?a ?b rd_eqIL); (case a => wtm_at "ev"); (case b => wtm_at "ev"))
  | ((with_reducible refine' EvN.toD ?a); (case a => wtm_at "en")))
local macro_rules | `(tactic| wtm_at "en") => `(tactic| first
  | ((with_reducible refine' evn_cb ?a cn_sortTI); (case a => wtm_at "es"))
  | ((with_reducible refine' evn_cb ?a cn_listL); (case a => wtm_at "es"))
  | ((with_reducible refine' evn_cb ?a cn_listT); (case a => wtm_at "es"))
  | ((with_reducible refine' evn_rng ?a ?b); (case a => wtm_at "ev"); (case b => wtm_at "side"))
  | ((with_reducible refine' evn_lst ?a ?b); (case a => wtm_at "es"); (case b => exact Nat.le_of_ble_eq_true rfl))
  | ((with_reducible refine' evn_cat ?a ?b ?c); (case a => wtm_at "ev"); (case b => wtm_at "ev"); (case c => wtm_at "side"))
  | ((with_reducible refine' evn_slL ?a ?b ?c); (case a => wtm_at "ev"); (case b => first | exact evp_none | (refine' evp_some ?d; (case d => wtm_at "ev"))); (case c => first | exact evp_none | (refine' evp_some ?d; (case d => wtm_at "ev")))))
local macro_rules | `(tactic| wtm_at "et") => `(tactic| first
  | exact et_yes
  | (refine' ett ?a; (case a => wtm_at "ev"))
  | (refine' etB ?a; (case a => wtm_at "ev"))
  | (refine' et_and ?a ?b; (case a => wtm_at "et"); (case b => intro _; wtm_at "et"))
  | (refine' et_or ?a ?b; (case a => wtm_at "et"); (case b => intro _; wtm_at "et"))
  | (refine' et_not ?a; (case a => wtm_at "et")))
local macro_rules | `(tactic| wtm_at "nx") => `(tactic| try dsimp only [tSeq, tNext])
/-! ### fewest -/
def fewP (m : Int) (ps : List (Int × Int)) : List PyData → Prop := fun ds => ∃ vs : List (List Int), ds = vs.map iD ∧ isVot m vs ∧ makesP m ps vs ∧ ∀ ws, isVot m ws → makesP m ps ws → vs.length ≤ ws.length
def sp_fewest (C1 C3 C4 : Addr) : Sp := spO (α := Int × List (Int × Int)) (fun a => [.int a.1, wD a.2]) (fun a => a.2.length ≤ 1000) fun a => chkW C1 C3 a.1 a.2 (if 4 < a.1 then .exc C4 else .some (fewP a.1 a.2))
theorem len_fewest {C_BadCount : Addr} {C_BadWeb : Addr} {C_TooMany : Addr} (vs : List V) (H : Hp) (Q : VK) (E : XK) (h : (sp_fewest C_BadCount C_BadWeb C_TooMany) vs H Q E) : vs.length = 2 := by
  unfold sp_fewest at h
  obtain ⟨a, r, _⟩ := h
  rw [r.len]
  rfl
def sgD (m : Int) (v : List Int) : PyData := .tuple [iD v, iD (sgnV m v)]
def Compl (m : Int) (k : Nat) (kvs : List (List Key × V)) : Prop := ∀ vs, isVot m vs → vs.length = k → ∃ v, (keyV (ldV m vs), v) ∈ kvs
theorem valV_some_mem {κ : Type} [DecidableEq κ] {k : κ} {v : V} {kvs : List (κ × V)} (h : valV kvs k = some v) : (k, v) ∈ kvs := by
  unfold valV at h
  obtain ⟨p, hp, rfl⟩ := Option.map_eq_some_iff.mp h
  have h1 := List.mem_of_find?_eq_some hp
  have h2 := List.find?_some hp
  have e : p.1 = k := by simpa using h2
  rw [← e]
  exact h1
section
variable {P : Program} {w : World} {K : PySem.W.Frag} {mg : Str → Option Value} {base : Heap}
theorem ok_fewest {f : Addr} {fd : FuncData} (D : Df K mg "fewest" s_fewest ["many", "web"] f fd) (Bi : Bi mg) {C_TooMany : Addr} (X_TooMany : Xc K mg "TooMany" C_TooMany) {t_MOST_SEARCHED : Tok} (K_MOST_SEARCHED : mg "MOST_SEARCHED" = some (.int 4 t_MOST_SEARCHED)) {f_look_at_web : Addr} {fd_look_at_web : FuncData} (D_look_at_web : Df K mg "look_at_web" s_look_at_web ["many", "web"] f_look_at_web fd_look_at_web) (G_look_at_web : FnOk P w K mg base (L2.CX P w) 2 f_look_at_web fd_look_at_web ["many", "web"] (sp_look_at_web C_BadCount C_BadWeb)) {f_wished_signs : Addr} {fd_wished_signs : FuncData} (D_wished_signs : Df K mg "wished_signs" s_wished_signs ["many", "web"] f_wished_signs fd_wished_signs) (G_wished_signs : FnOk P w K mg base CX0 1 f_wished_signs fd_wished_signs ["many", "web"] sp_wished_signs) {f_orders_of : Addr} {fd_orders_of : FuncData} (D_orders_of : Df K mg "orders_of" s_orders_of ["many"] f_orders_of fd_orders_of) (G_orders_of : FnOk P w K mg base CX0 1 f_orders_of fd_orders_of ["many"] sp_orders_of) {f_signs_of : Addr} {fd_signs_of : FuncData} (D_signs_of : Df K mg "signs_of" s_signs_of ["many", "voter"] f_signs_of fd_signs_of) (G_signs_of : FnOk P w K mg base CX0 1 f_signs_of fd_signs_of ["many", "voter"] sp_signs_of) {f_sign_of : Addr} {fd_sign_of : FuncData} (D_sign_of : Df K mg "sign_of" s_sign_of ["number"] f_sign_of fd_sign_of) (G_sign_of : FnOk P w K mg base CX0 1 f_sign_of fd_sign_of ["number"] sp_sign_of) {f_added : Addr} {fd_added : FuncData} (D_added : Df K mg "added" s_added ["one", "other"] f_added fd_added) (G_added : FnOk P w K mg base CX0 1 f_added fd_added ["one", "other"] sp_added) : FnOk P w K mg base (L2.CX P w) 3 f fd ["many", "web"] (sp_fewest C_BadCount C_BadWeb C_TooMany) := by
  refine D.F.okX c_fewest (fun vs H Q E h => len_fewest _ _ _ _ h) (fun cdv A outer s H vs Q E hr h => ?_)
  refine ⟨_, (pss_cons (ps_expr (pe_callS G_look_at_web (hr.mono (by decide)) (by rfl) D_look_at_web.g D_look_at_web.F.kp D_look_at_web.b (fun σ => passAt (takes_of rfl rfl rfl rfl) σ) (pa_cons (pv 0) (pa_cons (pv 1) pa_nil))))
      (pss_cons (ps_if (pt_cmpR op_gtI (pv 0) (pe_glob (v := .int 4) (by rfl) K_MOST_SEARCHED ⟨_, rfl⟩) (nomark _))
      (pss_one (ps_raise rfl (takes_of rfl rfl rfl rfl) (pmk_own PySem.F.excBase_ValueError X_TooMany.x X_TooMany.g X_TooMany.k (raises_own X_TooMany.b X_TooMany.t) (by exact rfl))))
      pss_nil)
      (pss_cons (ps_set (i := 2) c_fewest.nd rfl (.inl rfl) (pe_call G_wished_signs (hr.mono (by decide)) (by rfl) D_wished_signs.g D_wished_signs.F.kp D_wished_signs.b .nil pass0 (pa_cons (pv 0) (pa_cons (pv 1) pa_nil))))
      (pss_cons (ps_setLc (i := 3) (own := [("voter", 7)]) (g := (gName 7)) (tt := tYes) rfl c_fewest.nd rfl rfl (sw_true rfl rfl rfl (by decide +kernel)) (pi_listK (K := K) (pe_call G_orders_of (hr.mono (by decide)) (by rfl) D_orders_of.g D_orders_of.F.kp D_orders_of.b .nil pass0 (pa_cons (pv 0) pa_nil))) (blkOk_by (own := [("voter", 7)]) (N := ["many", "web", "wished", "single", "rows", "leads", "longer", "voter", "signs", "number"]) (sc := defScope s_fewest) (by decide +kernel)) (fun _ _ _ _ _ => (pg_name (i := 7) c_fewest.nd rfl (.inl rfl))) (fun _ _ _ _ _ => pts_nil) (fun _ _ _ _ _ => (pe_tupF (pa_cons (pv 7) (pa_cons (pe_call G_signs_of (hr.mono (by decide)) (by rfl) D_signs_of.g D_signs_of.F.kp D_signs_of.b .nil pass0 (pa_cons (pv 0) (pa_cons (pv 7) pa_nil))) pa_nil)))))
      (pss_cons (ps_set (i := 4) c_fewest.nd rfl (.inl rfl) (pe_dispT (hu_of0 hr) (pe_callTy (cr_tupPK (K := K)) (by rfl) Bi.tuple (by decide +kernel) (pa_cons (pe_op op_rep (pe_lst (pa_cons pe_int pa_nil)) (pe_callB (cr_lenK (K := K)) (by rfl) Bi.len (by decide +kernel) (pa_cons (pv 2) pa_nil))) pa_nil)) (pe_lst pa_nil)))
      (pss_one (ps_while (passes_of rfl) (pt_val pe_bl)
      (pss_cons (ps_lock (ps_for (passes_of rfl) rfl (pi_keys (pv 4)) (pg_name (i := 5) c_fewest.nd rfl (.inl rfl))
      (pss_one (ps_if (pt_cmpR (op_eqDK (K := K) hr.units) (pe_lc (own := [("number", 9)]) (g := (gName 9)) (tt := tYes) rfl c_fewest.nd (pi_tupK (K := K) (pv 5)) (blkOk_by (own := [("number", 9)]) (N := ["many", "web", "wished", "single", "rows", "leads", "longer", "voter", "signs", "number"]) (sc := defScope s_fewest) (by decide +kernel)) (fun _ _ _ _ _ => (pg_name (i := 9) c_fewest.nd rfl (.inl rfl))) (fun _ _ _ _ _ => pts_nil) (fun _ _ _ _ _ => (pe_call G_sign_of (hr.mono (by decide)) (by rfl) D_sign_of.g D_sign_of.F.kp D_sign_of.b .nil pass0 (pa_cons (pv 9) pa_nil)))) (pv 2) (nomark _))
      (pss_one (ps_ret (pe_callTy (cr_listK (K := K)) (by rfl) Bi.list (by decide +kernel) (pa_cons (pe_dget (hu_of hr) (pv 4) (pv 5) (fun _ _ => rfl)) pa_nil))))
      pss_nil))))
      (pss_cons (ps_set (i := 6) c_fewest.nd rfl (.inl rfl) (pe_dnewT))
      (pss_cons (ps_lock (ps_for (passes_of rfl) rfl (pi_keys (pv 4)) (pg_name (i := 5) c_fewest.nd rfl (.inl rfl))
      (pss_one (ps_for (passes_of rfl) rfl (pi_listK (K := K) (pv 3)) (pg_tupK (K := K) rfl (pgs_cons (pg_name (i := 7) c_fewest.nd rfl (.inl rfl)) (pgs_cons (pg_name (i := 8) c_fewest.nd rfl (.inl rfl)) pgs_nil)))
      (pss_one (ps_dput (hu_of hr) (pv 6) (pe_call G_added (hr.mono (by decide)) (by rfl) D_added.g D_added.F.kp D_added.b .nil pass0 (pa_cons (pv 5) (pa_cons (pv 8) pa_nil))) (pe_op op_cat (pe_dget (hu_of hr) (pv 4) (pv 5) (fun _ _ => rfl)) (pe_lst (pa_cons (pv 7) pa_nil))) rfl))))))
      (pss_one (ps_set (i := 4) c_fewest.nd rfl (.inl rfl) (pv 6))))))))))))), ?_⟩
  obtain ⟨⟨m, ps⟩, ⟨v1, _, rfl, rfl, v2, _, rfl, hw, rfl⟩, hl, q⟩ := h
  dsimp only at q hw hl
  refine s_callX (m, ps) ?a hl fun H1 e1 => chkW_go q e1 fun h1 h2 q H2 e2 => ?_
  case a => wtm_at "es"
  wtm_at "nx"
  have hm : 1 ≤ m ∧ m ≤ 6 := h1
  have e12 := e1.trans e2
  refine' s_if (b := decide (4 < m)) ?t1 ?y1 ?n1
  case t1 => wtm_at "et"
  case y1 =>
    intro hb H3 e3
    rw [if_pos (by simpa using hb)] at q
    exact q H3 (e12.trans e3)
  case n1 =>
  intro hb H3 e3
  wtm_at "nx"
  have hm4 : ¬ 4 < m := by simpa using hb
  rw [if_neg hm4] at q
  have hm4 : 0 ≤ m ∧ m ≤ 4 := by omega
  have hm6 : 0 ≤ m ∧ m ≤ 6 := by omega
  have hpl := prs_len4 hm4
  have hpsl : ps.length ≤ 6 := isWeb_len4 hm4 h2
  have e13 := e12.trans e3
  have hw3 := hw.ex e13
  refine' s_asgNw (ev_wished_signs (m := m) (ps := ps) (evd_var rfl rp_int) (evd_var rfl hw3) hm6) fun p4 vs4 H4 n4 e4 k1 k2 => ?_
  wtm_at "nx"
  have hwi : Rp H4 (iL (wishV m ps)) (.ref p4) := ⟨p4, vs4, rfl, k1, k2⟩
  have hrl : (rowsF m m.toNat).length ≤ 46656 := Nat.le_trans (rowsF_len hm6.2 _) (Nat.pow_le_pow_right (by decide) (by omega : m.toNat ≤ 6))
  refine' s_asgD (d := .list ((rowsF m m.toNat).map (sgD m))) ((EvN.toD (ds := ((rowsF m m.toNat).filter fun _ => true).map (sgD m)) ?x).is (by rw [List.filter_eq_self.mpr (fun _ _ => rfl)])) fun vsg H5 e5 hsg => ?_
  case x =>
    refine' evn_lcL (f := iD) (xs := rowsF m m.toNat) (fun _ => true) (sgD m) (EvN.toD (ev_orders_of (m := m) (evd_var rfl rp_int) hm6)) (by omega) ?tn fun x _ _ => ?_
    · intro x v H6 hx e6 r
      exact ⟨_, fun Q hq => hq, rfl, et_yes, fun _ => evd_tup (ds := [iD x, iD (sgnV m x)]) (evs_cons (evd_var rfl r) (evs_cons (ev_signs_of (m := m) (evd_var rfl rp_int) (evd_var rfl r) hm6 (rowsF_ord hx)) evs_nil)) (Nat.le_of_ble_eq_true rfl)⟩
    · show imm (.tuple [iD x, iD (sgnV m x)]) = true
      simp only [imm, immA, imm_ints, Bool.and_self]
  wtm_at "nx"
  have hwi5 := hwi.ex e5
  have eH5 := (e13.trans e4).trans e5
  -- rows
  refine fun pr hpr => ?_
  have exr : Ex H5 (upd H5 pr (.dT [])) := Ex.new hpr
  refine evp_tup (ns := List.replicate (prs m 0).length 0) (h := ?z0) _ (Ex.refl _) _ fun pk H6 hpk e6 hk6 => ?_
  case z0 =>
    have hln : ((wishV m ps).map PyData.int).length = (prs m 0).length := by
      unfold wishV
      rw [List.length_map, List.length_map]
    have l1 : EvD (tCB (rLenS K) (tCons (tVar 2) tNil)) [some (V.int m), some v2, some (.ref p4), some vsg, none, none, none, none, none, none] (upd H5 pr (.dT [])) (.int ((wishV m ps).map PyData.int).length) := evd_cb (evs_cons (evd_var rfl (hwi5.ex exr)) evs_nil) cd_lenL
    rw [hln] at l1
    have z := EvN.toD (evn_rep (ds := [.int 0]) (k := (((prs m 0).length : Nat) : Int)) (EvN.toD (evn_lst (evs_cons evd_int evs_nil) (by decide))) l1 (by omega) (by decide))
    refine z.is ?_
    have : ∀ n : Nat, (List.replicate n [PyData.int 0]).flatten = (List.replicate n (0 : Int)).map PyData.int := fun n => by
      induction n with
      | zero => rfl
      | succ n ih => rw [List.replicate_succ, List.flatten_cons, ih, List.replicate_succ]; rfl
    rw [Int.toNat_natCast, this]
  refine evn_lst evs_nil (by decide) H6 (Ex.refl _) _ fun pe vse H7 npe e7 k7 r7 => ?_
  have hk7 := e7 _ _ hk6
  refine ⟨keyV (List.replicate (prs m 0).length 0), pk, rfl, by rw [keyV_kV]; exact hk7, (e6.trans e7) _ _ upd_same, ?_⟩
  wtm_at "nx"
  generalize hH8 : upd H7 pr (.dT [(keyV (List.replicate (prs m 0).length 0), V.ref pe)]) = H8
  have hpr7 : H7 pr = some (.dT []) := (e6.trans e7) _ _ upd_same
  have kl78 : KL H7 H8 := by rw [← hH8]; exact KL.upd hpr7 (not_dT _)
  have ex58 : Ex H5 H8 := by
    rw [← hH8]
    exact Ex.mut ((exr.trans e6).trans e7) hpr
  have npe5 : H5 pe = none := by
    have := fresh_back (e6) npe
    exact fresh_back exr this
  have rows0 : RowsOk m 0 H H8 [(keyV (List.replicate (prs m 0).length 0), V.ref pe)] := ⟨by simp, fun p hp => by
    have e : p = (keyV (List.replicate (prs m 0).length 0), V.ref pe) := by simpa using hp
    rw [e]
    refine ⟨[], (fun v hv => by simp at hv), rfl, (by rw [ldV_nil]), pe, vse, rfl, fresh_back eH5 npe5, kl78 _ _ (nd_lst _) k7, r7.kl kl78⟩⟩
  have compl0 : Compl m 0 [(keyV (List.replicate (prs m 0).length 0), V.ref pe)] := fun vs _ hl => by
    rw [List.eq_nil_of_length_eq_zero hl, ldV_nil]
    exact ⟨_, List.mem_cons_self⟩
  obtain ⟨dv, dmk, dl⟩ := due_makes hm h2
  have prH : H pr = none := fresh_back eH5 hpr
  refine' s_while (fun k' σ' H' => ∃ (k : Nat) (kvs : List (List Key × V)) (pr : Addr) (y5 y6 y7 y8 : Option V), σ' = [some (.int m), some v2, some (.ref p4), some vsg, some (.ref pr), y5, y6, y7, y8, none] ∧ Ex H5 H' ∧ H5 pr = none ∧ H' pr = some (.dT kvs) ∧ RowsOk m k H H' kvs ∧ Compl m k kvs ∧
    (∀ ws, isVot m ws → makesP m ps ws → k ≤ ws.length) ∧ k' + k = 2 * ps.length) (2 * ps.length) ⟨0, _, pr, none, none, none, none, rfl, ex58, hpr, by rw [← hH8, upd_same], rows0, compl0, fun _ _ _ => Nat.zero_le _, rfl⟩ ?wl
  rintro k' σ' H' ⟨k, kvs, pr, y5, y6, y7, y8, rfl, ex, npr, hd, R, C, mn, hk⟩
  refine ⟨true, etB evd_bl, fun _ H9 e9 => ?_, fun z => by cases z⟩
  have hd9 := e9 _ _ hd
  have ex9 := ex.trans e9
  have R9 := R.kl (KL.of e9)
  refine ⟨fun σ2 H2 => ∃ k2, k2 < k' ∧ ∃ (k : Nat) (kvs : List (List Key × V)) (pr : Addr) (y5 y6 y7 y8 : Option V), σ2 = [some (.int m), some v2, some (.ref p4), some vsg, some (.ref pr), y5, y6, y7, y8, none] ∧ Ex H5 H2 ∧ H5 pr = none ∧ H2 pr = some (.dT kvs) ∧ RowsOk m k H H2 kvs ∧ Compl m k kvs ∧
    (∀ ws, isVot m ws → makesP m ps ws → k ≤ ws.length) ∧ k2 + k = 2 * ps.length, fun σ2 H2 ⟨k2, h, z⟩ => ⟨k2, h, z⟩, ?_⟩
  wtm_at "nx"
  refine s_forDT (i := 4) rfl hd9 (fun od j σ' H' => (∃ y5, σ' = [some (.int m), some v2, some (.ref p4), some vsg, some (.ref pr), y5, y6, y7, y8, none]) ∧ Ex H5 H' ∧ H' pr = some (.frz od (.dT kvs)) ∧ RowsOk m k H H' kvs ∧ ∀ (j' : Nat) p, j' < j → kvs[j']? = some p → ∀ vs, isVot m vs → p.1 = keyV (ldV m vs) → ¬ makesP m ps vs) ?_ ?_ ?_ ?_
  · exact fun od => ⟨⟨y5, rfl⟩, Ex.mut ex9 npr, upd_same, R9.kl (KL.upd hd9 (not_dT _)), fun j' p h => absurd h (Nat.not_lt_zero _)⟩
  · rintro od j σ' H' ⟨_, _, h, _⟩
    exact h
  · rintro od j key v qa σ' H' hj hq ⟨⟨y5, rfl⟩, ex', hd', R', hno⟩
    refine g_name ?_
    obtain ⟨vs, hv, hvl, hkey, hnl⟩ := R'.ent _ (List.mem_of_getElem? hj)
    dsimp only at hkey hnl
    rw [hkey, keyV_kV] at hq
    have hwi' : Rp H' (iL (wishV m ps)) (.ref p4) := hwi5.ex ex'
    have hll : (ldV m vs).length ≤ 6 := by rw [ldV_len]; exact hpl
    refine' s_if (b := decide ((ldV m vs).map sigF = wishV m ps)) ?t2 ?y2 ?n2
    case t2 =>
      refine ett (evd_op (x := iL ((ldV m vs).map sigF)) ((EvN.toD (evn_lcP (ns := ldV m vs) (fun x => .int (sigF x)) rfl hq (by omega) ?tn3 fun _ _ => rfl)).is (by unfold iL; rw [List.map_map]; rfl)) (evd_var rfl hwi') (rd_eqIL (a := (ldV m vs).map sigF) (b := wishV m ps)))
      intro x H10 hx e10
      exact ⟨_, fun Q hq => hq, rfl, et_yes, ev_sign_of (evd_var rfl rp_int)⟩
    case n2 =>
      intro hb2 H10 e10
      refine ⟨⟨_, rfl⟩, ex'.trans e10, e10 _ _ hd', R'.kl (KL.of e10), fun j' p hlt hp us hu hk2 => ?_⟩
      by_cases c : j' < j
      · exact hno j' p c hp us hu hk2
      · obtain rfl : j' = j := by omega
        rw [hj] at hp
        cases hp
        dsimp only at hk2
        have e : ldV m us = ldV m vs := keyV_inj (hk2.symm.trans hkey)
        unfold makesP
        rw [e]
        simpa using hb2
    case y2 =>
      intro hb2 H10 e10
      have hd10 := e10 _ _ hd'
      have hq10 := e10 _ _ hq
      have hmk0 : (ldV m vs).map sigF = wishV m ps := of_decide_eq_true hb2
      have hmk : makesP m ps vs := hmk0
      have hval : valV kvs key = some v := valV_mem R'.nd (List.mem_of_getElem? hj)
      obtain ⟨a, ws, rfl, na, ha, hra⟩ := hnl.kl (KL.of e10)
      refine ⟨.ref pr, rfl, .ref qa, rfl, pr, .ref a, rfl, .inr ⟨kvs, key, qa, .inr ⟨od, hd10⟩, rfl, by rw [hkey, keyV_kV]; exact hq10, hval.symm⟩, a, ws, rfl, .inl (SqL.of ha), fun pl hpl => ?_⟩
      have npl : pl ≠ pr := (ne_of_none hd10 hpl).symm
      refine ⟨by rw [upd_ne npl.symm]; exact hd10, ?_⟩
      have kl : KL H10 (upd (upd H10 pl (.lst ws)) pr (.dT kvs)) := (KL.of (Ex.new hpl)).trans (KL.upd (by rw [upd_ne npl.symm]; exact hd10) (not_fdT _ _))
      refine q (vs.map iD) ⟨vs, rfl, hv, hmk, fun us hu hus => by rw [hvl]; exact mn us hu hus⟩ pl ws _ ?_ ?_ ?_ (hra.kl kl)
      · exact fresh_back (eH5.trans (ex'.trans e10)) hpl
      · exact eH5.trans (Ex.mut ((ex'.trans e10).trans (Ex.new hpl)) npr)
      · rw [upd_ne npl, upd_same]
  · rintro od σ' H' ⟨⟨y5, rfl⟩, ex', hd', R', hno⟩
    wtm_at "nx"
    generalize hH10 : upd H' pr (.dT kvs) = H10
    have kl10 : KL H' H10 := by rw [← hH10]; exact KL.upd hd' (not_fdT _ _)
    have R10 := R'.kl kl10
    have ex10 : Ex H5 H10 := by rw [← hH10]; exact Ex.mut ex' npr
    have hd10 : H10 pr = some (.dT kvs) := by rw [← hH10, upd_same]
    -- none of k voters makes it
    have none_k : ∀ us, isVot m us → us.length = k → ¬ makesP m ps us := fun us hu hul => by
      obtain ⟨v, hmem⟩ := C us hu hul
      obtain ⟨i, hi⟩ := List.getElem?_of_mem hmem
      exact hno i _ (List.getElem?_eq_some_iff.mp hi).1 hi us hu rfl
    have hk2 : k ≠ 2 * ps.length := fun e => none_k _ dv (dl.trans e.symm) dmk
    have mn2 : ∀ ws, isVot m ws → makesP m ps ws → k + 1 ≤ ws.length := fun us hu hus => by
      have h1 := mn us hu hus
      have h2 : us.length ≠ k := fun e => none_k us hu e hus
      omega
    -- the longer rows
    refine fun pl hpl => ?_
    wtm_at "nx"
    have npl : pr ≠ pl := ne_of_none hd10 hpl
    have ex11 : Ex H5 (upd H10 pl (.dT [])) := ex10.trans (Ex.new hpl)
    have npl5 : H5 pl = none := fresh_back ex10 hpl
    have hd11 : (upd H10 pl (.dT [])) pr = some (.dT kvs) := by rw [upd_ne npl]; exact hd10
    have R11 : RowsOk m k H (upd H10 pl (.dT [])) kvs := R10.kl (KL.of (Ex.new hpl))
    refine s_forDT (i := 4) rfl hd11 (fun od j σ' H' => ∃ (kl : List (List Key × V)) (y5 y7 y8 : Option V), σ' = [some (.int m), some v2, some (.ref p4), some vsg, some (.ref pr), y5, some (.ref pl), y7, y8, none] ∧ Ex H5 H' ∧ H' pr = some (.frz od (.dT kvs)) ∧ H' pl = some (.dT kl) ∧ RowsOk m k H H' kvs ∧ RowsOk m (k + 1) H H' kl ∧
      ∀ (j' : Nat) p, j' < j → kvs[j']? = some p → ∀ vs, p.1 = keyV (ldV m vs) → ∀ x ∈ rowsF m m.toNat, (valV kl (keyV (ldV m (vs ++ [x])))).isSome = true) ?_ ?_ ?_ ?_
    · intro od
      have kk := KL.upd (o := .frz od (.dT kvs)) hd11 (not_dT _)
      exact ⟨[], _, _, _, rfl, Ex.mut ex11 npr, upd_same, by rw [upd_ne npl.symm, upd_same], R11.kl kk, ⟨by simp, fun p hp => by simp at hp⟩, fun j' p h => absurd h (Nat.not_lt_zero _)⟩
    · rintro od j σ' H' ⟨kl, y5, y7, y8, _, _, h, _⟩
      exact h
    · rintro od j key v qa σ' H' hj hq ⟨kl, y5, y7, y8, rfl, ex', hd', hdl, R', RL, hall⟩
      refine g_name ?_
      obtain ⟨vs, hv, hvl, hkey, hnl⟩ := R'.ent _ (List.mem_of_getElem? hj)
      dsimp only at hkey hnl
      rw [hkey, keyV_kV] at hq
      have hval : valV kvs key = some v := valV_mem R'.nd (List.mem_of_getElem? hj)
      have hkb : k + 1 ≤ 12 := by omega
      refine s_forB (f := sgD m) (xs := rowsF m m.toNat) (Hb := H5) rfl hsg ex' (fun i σ' H' => ∃ (kl : List (List Key × V)) (y7 y8 : Option V), σ' = [some (.int m), some v2, some (.ref p4), some vsg, some (.ref pr), some (.ref qa), some (.ref pl), y7, y8, none] ∧ Ex H5 H' ∧ H' pr = some (.frz od (.dT kvs)) ∧ H' pl = some (.dT kl) ∧ RowsOk m k H H' kvs ∧ RowsOk m (k + 1) H H' kl ∧ H' qa = some (.tup ((ldV m vs).map V.int)) ∧ NL H H' (vs.map iD) v ∧
        (∀ (j' : Nat) p, j' < j → kvs[j']? = some p → ∀ vs, p.1 = keyV (ldV m vs) → ∀ x ∈ rowsF m m.toNat, (valV kl (keyV (ldV m (vs ++ [x])))).isSome = true) ∧ ∀ x ∈ (rowsF m m.toNat).take i, (valV kl (keyV (ldV m (vs ++ [x])))).isSome = true) ?_ ?_ ?_ ?_
      · exact ⟨kl, _, _, rfl, ex', hd', hdl, R', RL, hq, hnl, hall, fun x hx => by simp at hx⟩
      · rintro i σ' H' ⟨_, _, _, _, e, _⟩
        exact e
      · rintro i x vx σ' H' hx hrx ⟨kl, y7, y8, rfl, ex', hd', hdl, R', RL, hq, hnl, hall, hall2⟩
        refine g_two hrx fun u1 u2 hu1 hu2 => ?_
        have hxo := rowsF_ord (List.mem_of_getElem? hx)
        have hcat : EvN (tOp rCat (tDGet (tVar 4) (tVar 5)) (tLst (tCons (tVar 7) tNil))) [some (V.int m), some v2, some (.ref p4), some vsg, some (.ref pr), some (.ref qa), some (.ref pl), some u1, some u2, none] H' ((vs ++ [x]).map iD) := by
          rw [List.map_append]
          refine evn_cat (ds := vs.map iD) (es := [iD x]) (fun H1 e Q q => ⟨.ref pr, rfl, .ref qa, rfl, pr, v, rfl, .inr ⟨kvs, key, qa, .inr ⟨od, e _ _ hd'⟩, rfl, by rw [hkey, keyV_kV]; exact e _ _ hq, hval.symm⟩, q v H1 (Ex.refl _) (hnl.ex e).rp⟩) (EvN.toD (evn_lst (evs_cons (evd_var rfl hu1) evs_nil) (Nat.le_of_ble_eq_true rfl))) ?_
          rw [List.length_map]
          show vs.length + 1 ≤ _
          omega
        refine hcat H' (Ex.refl _) _ fun pn ws H12 hpn e12' k1 k2 => ?_
        have hq12 := e12' _ _ hq
        refine ⟨.ref pl, rfl, .ref qa, rfl, u2, rfl, ldV m vs, sgnV m x, .ref qa, u2, rfl, ⟨qa, rfl, hq12⟩, hu2.ex e12', by rw [ldV_len, sgnV_len], by rw [ldV_len]; omega, fun pk H13 hpk e13' hk13 => ?_⟩
        rw [← ldV_snoc] at hk13
        have e123 := e12'.trans e13'
        have hdl13 := e123 _ _ hdl
        have RL13 := RL.kl (KL.of e123)
        refine ⟨pl, _, rfl, DPut.t (k := keyV (ldV m (vs ++ [x]))) hdl13 (by rw [keyV_kV]; exact hk13) (RL13.few hm4 hkb), ?_⟩
        have kl14 : KL H13 (upd H13 pl (.dT (putK kl (keyV (ldV m (vs ++ [x]))) (.ref pn)))) := KL.upd hdl13 (not_dT _)
        have hvx : isVot m (vs ++ [x]) := fun u hu => (List.mem_append.mp hu).elim (hv u) fun h => by rw [List.mem_singleton.mp h]; exact hxo
        have nn : NL H H13 ((vs ++ [x]).map iD) (.ref pn) := ⟨pn, ws, rfl, fresh_back (eH5.trans ex') hpn, e13' _ _ k1, k2.ex e13'⟩
        have keep : ∀ ky : List Key, (valV kl ky).isSome = true → (valV (putK kl (keyV (ldV m (vs ++ [x]))) (.ref pn)) ky).isSome = true := fun ky h => by
          rw [valV_put]
          split
          · rfl
          · exact h
        refine ⟨_, _, _, rfl, Ex.mut (ex'.trans e123) npl5, by rw [upd_ne npl]; exact e123 _ _ hd', upd_same, (R'.kl (KL.of e123)).kl kl14, (RL13.put hvx (by rw [List.length_append, hvl]; rfl) nn).kl kl14, kl14 _ _ (nd_tup _) (e123 _ _ hq), (hnl.ex e123).kl kl14, fun j' p a b us c z d => keep _ (hall j' p a b us c z d), fun z hz => ?_⟩
        rw [List.take_add_one, hx] at hz
        rcases List.mem_append.mp hz with hz | hz
        · exact keep _ (hall2 z hz)
        · have : z = x := by simpa using hz
          rw [this, valV_put, if_pos rfl]
          rfl
      · rintro σ' H' ⟨kl, y7, y8, rfl, ex', hd', hdl, R', RL, hq, hnl, hall, hall2⟩
        rw [List.take_length] at hall2
        refine ⟨kl, _, _, _, rfl, ex', hd', hdl, R', RL, fun j' p hlt hp us hk3 x hx => ?_⟩
        by_cases c : j' < j
        · exact hall j' p c hp us hk3 x hx
        · obtain rfl : j' = j := by omega
          rw [hj] at hp
          cases hp
          dsimp only at hk3
          have e : ldV m us = ldV m vs := keyV_inj (hk3.symm.trans hkey)
          have := hall2 x hx
          rw [ldV_snoc] at this ⊢
          rw [e]
          exact this
    · rintro od σ' H' ⟨kl, y5, y7, y8, rfl, ex', hd', hdl, R', RL, hall⟩
      wtm_at "nx"
      have kk : KL H' (upd H' pr (.dT kvs)) := KL.upd hd' (not_fdT _ _)
      refine ⟨.ref pl, rfl, k' - 1, by omega, k + 1, kl, pl, _, _, _, _, rfl, Ex.mut ex' npr, npl5, by rw [upd_ne npl.symm]; exact hdl, RL.kl kk, fun us hu hul => ?_, mn2, by omega⟩
      rcases List.eq_nil_or_concat us with e | ⟨ws, x, e⟩
      · rw [e] at hul
        cases hul
      · rw [List.concat_eq_append] at e
        subst e
        rw [List.length_append] at hul
        have hwsl : ws.length = k := by
          have : ws.length + 1 = k + 1 := hul
          omega
        obtain ⟨v, hmem⟩ := C ws (fun u h => hu u (List.mem_append_left _ h)) hwsl
        obtain ⟨i, hi⟩ := List.getElem?_of_mem hmem
        have := hall i _ (List.getElem?_eq_some_iff.mp hi).1 hi ws rfl x (rowsF_mem (hu x (List.mem_append_right _ (by simp))))
        obtain ⟨y, hy⟩ := Option.isSome_iff_exists.mp this
        exact ⟨y, valV_some_mem hy⟩
end
end Bm

namespace Bm
open PySem PySem.Spec PyProof.Rows L2 Evl
local macro_rules | `(tactic| wtm_at "rp") => `(tactic| first | exact rp_int | exact rp_bl | exact rp_str | exact rp_non | assumption | (refine' Rp.ex ?e ?h; (case h => assumption); (case e => assumption)) | exact Own.rp (by assumption))
local macro_rules | `(tactic| wtm_at "side") => `(tactic| first | assumption | omega | decide | rfl | exact ⟨by omega, by omega⟩)
local macro_rules | `(tactic| wtm_at "es") => `(tactic| first | exact evs_nil | (refine' evs_cons ?a ?b; (case a => wtm_at "ev"); (case b => wtm_at "es")))
local macro_rules | `(tactic| wtm_at "ev") => `(tactic| first
  | exact evd_int | exact evd_str | exact evd_bl | exact evd_non
  | (refine' evd_var rfl ?h; (case h => wtm_at "rp"))
  | ((with_reducible refine' evd_op ?a ?b rd_addI); (case a => wtm_at "ev"); (case b => wtm_at "ev"))
  | ((with_reducible refine' evd_op ?a ?b rd_subI); (case a => wtm_at "ev"); (case b => wtm_at "ev"))
  | ((with_reducible refine' evd_op ?a ?b (rd_mulI ?c)); (case a => wtm_at "ev"); (case b => wtm_at "ev"); (case c => wtm_at "side"))
  | ((with_reducible refine' evd_op ?a ?b (rd_divI ?c)); (case a => wtm_at "ev"); (case b => wtm_at "ev"); (case c => wtm_at "side"))
  | ((with_reducible refine' evd_op ?a ?b (rd_modI ?c)); (case a => wtm_at "ev"); (case b => wtm_at "ev"); (case c => wtm_at "side"))
  | ((with_reducible refine' evd_op ?a ?b rd_ltI); (case a => wtm_at "ev"); (case b => wtm_at "ev"))
  | ((with_reducible refine' evd_op ?a ?b rd_leI); (case a => wtm_at "ev"); (case b => wtm_at "ev"))
  | ((with_reducible refine' evd_op ?a ?b rd_gtI); (case a => wtm_at "ev"); (case b => wtm_at "ev"))
  | ((with_reducible refine' evd_op ?a ?b rd_geI); (case a => wtm_at "ev"); (case b => wtm_at "ev"))
  | ((with_reducible refine' evd_op ?a ?b rd_eqI); (case a => wtm_at "ev"); (case b => wtm_at "ev"))
  | ((with_reducible refine' evd_op ?a ?b rd_neI); (case a => wtm_at "ev"); (case b => wtm_at "ev"))
  | ((with_reducible refine' evd_op ?a ?b rd_eqB); (case a => wtm_at "ev"); (case b => wtm_at "ev"))
  | ((with_reducible refine' evd_op ?a ?b rd_neB); (case a => wtm_at "ev"); (case b => wtm_at "ev"))
  | ((with_reducible refine' evd_op ?a ?b rd_isNo); (case a => wtm_at "ev"); (case b => wtm_at "ev"))
  | ((with_reducible refine' evd_op ?a ?b rd_notNo); (case a => wtm_at "ev"); (case b => wtm_at "ev"))
  | ((with_reducible refine' evd_op ?a ?b rd_inIL); (case a => wtm_at "ev"); (case b => wtm_at "ev"))
  | ((with_reducible refine' evd_op ?a ?b rd_niIL); (case a => wtm_at "ev"); (case b => wtm_at "ev"))
  | ((with_reducible refine' evd_op ?a ?b rd_inID); (case a => wtm_at "ev"); (case b => wtm_at "ev"))
  | ((with_reducible refine' evd_op ?a ?b rd_niID); (case a => wtm_at "ev"); (case b => wtm_at "ev"))
  | ((with_reducible refine' evd_neg ?a); (case a => wtm_at "ev"))
  | ((with_reducible refine' evd_tix ?a ?b ?c); (case a => wtm_at "ev"); (case b => wtm_at "ev"); (case c => wtm_at "side"))
  | ((with_reducible refine' evd_tup ?a ?b); (case a => wtm_at "es"); (case b => exact Nat.le_of_ble_eq_true rfl))
  | ((with_reducible refine' evd_cb ?a cd_lenL); (case a => wtm_at "es"))
  | ((with_reducible refine' evd_cb ?a cd_lenT); (case a => wtm_at "es"))
  | ((with_reducible refine' evd_cb ?a cd_intB); (case a => wtm_at "es"))
  | ((with_reducible refine' evd_cb ?a cd_tupL); (case a => wtm_at "es"))
  | ((with_reducible refine' evd_and ?a ?b); (case a => wtm_at "ev"); (case b => intro _; wtm_at "ev"))
  | ((with_reducible refine' evd_or ?a ?b); (case a => wtm_at "ev"); (case b => intro _; wtm_at "ev"))
  | ((with_reducible refine' evd_not ?a); (case a => wtm_at "ev"))
  | ((with_reducible refine' evd_op ?a ?b rd_neIL); (case a => wtm_at "ev"); (case b => wtm_at "ev"))
  | ((with_reducible refine' evd_op ?a ?b rd_eqIL); (case a => wtm_at "ev"); (case b => wtm_at "ev"))
  | ((with_reducible refine' EvN.toD ?a); (case a => wtm_at "en")))
local macro_rules | `(tactic| wtm_at "en") => `(tactic| first
  | ((with_reducible refine' evn_cb ?a cn_sortTI); (case a => wtm_at "es"))
  | ((with_reducible refine' evn_cb ?a cn_listL); (case a => wtm_at "es"))
  | ((with_reducible refine' evn_cb ?a cn_listT); (case a => wtm_at "es"))
  | ((with_reducible refine' evn_rng ?a ?b); (case a => wtm_at "ev"); (case b => wtm_at "side"))
  | ((with_reducible refine' evn_lst ?a ?b); (case a => wtm_at "es"); (case b => exact Nat.le_of_ble_eq_true rfl))
  | ((with_reducible refine' evn_cat ?a ?b ?c); (case a => wtm_at "ev"); (case b => wtm_at "ev"); (case c => wtm_at "side"))
  | ((with_reducible refine' evn_slL ?a ?b ?c); (case a => wtm_at "ev"); (case b => first | exact evp_none | (refine' evp_some ?d; (case d => wtm_at "ev"))); (case c => first | exact evp_none | (refine' evp_some ?d; (case d => wtm_at "ev")))))
local macro_rules | `(tactic| wtm_at "et") => `(tactic| first
  | exact et_yes
  | (refine' ett ?a; (case a => wtm_at "ev"))
  | (refine' etB ?a; (case a => wtm_at "ev"))
  | (refine' et_and ?a ?b; (case a => wtm_at "et"); (case b => intro _; wtm_at "et"))
  | (refine' et_or ?a ?b; (case a => wtm_at "et"); (case b => intro _; wtm_at "et"))
  | (refine' et_not ?a; (case a => wtm_at "et")))
local macro_rules | `(tactic| wtm_at "nx") => `(tactic| try dsimp only [tSeq, tNext])
/-! ### beat_way -/
/-- a list of these ints, made since H0, not the one at pr -/
def VL (H0 H' : Hp) (pr : Addr) (r : List Int) (v : V) : Prop := ∃ a, v = .ref a ∧ H0 a = none ∧ a ≠ pr ∧ H' a = some (.lst (r.map V.int))
/-- the dict of ways -/
structure BW (H0 H' : Hp) (pd pr : Addr) (st : BSt) : Prop where
  new : H0 pd = none
  ne : pd ≠ pr
  has : ∃ kvs, H' pd = some (.dK kvs) ∧ kvs.length = st.length ∧ (∀ k e, st.find? (fun e => decide (e.1 = k)) = some e → ∃ v, valV kvs (.inl k) = some v ∧ VL H0 H' pr e.2 v) ∧ ∀ k, st.find? (fun e => decide (e.1 = k)) = none → valV kvs (.inl k) = none
theorem VL.keep {H0 H1 H2 : Hp} {pr : Addr} {r : List Int} {v : V} (h : VL H0 H1 pr r v) (k : ∀ a xs, H0 a = none → a ≠ pr → H1 a = some (.lst xs) → H2 a = some (.lst xs)) : VL H0 H2 pr r v := by
  obtain ⟨a, e, n, ne, h1⟩ := h
  exact ⟨a, e, n, ne, k a _ n ne h1⟩
theorem BW.keep {H0 H1 H2 : Hp} {pd pr : Addr} {st : BSt} (h : BW H0 H1 pd pr st) (kd : ∀ o, H1 pd = some o → H2 pd = some o) (k : ∀ a xs, H0 a = none → a ≠ pr → H1 a = some (.lst xs) → H2 a = some (.lst xs)) : BW H0 H2 pd pr st := by
  obtain ⟨kvs, h1, h2, h3, h4⟩ := h.has
  refine ⟨h.new, h.ne, kvs, kd _ h1, h2, fun j e he => ?_, h4⟩
  obtain ⟨v, hv, w⟩ := h3 j e he
  exact ⟨v, hv, w.keep k⟩
theorem BW.ex {H0 H1 H2 : Hp} {pd pr : Addr} {st : BSt} (h : BW H0 H1 pd pr st) (e : Ex H1 H2) : BW H0 H2 pd pr st := h.keep (fun o z => e _ _ z) fun a xs _ _ z => e _ _ z
theorem BW.exB {H0 H1 H2 : Hp} {pd pr : Addr} {st : BSt} (h : BW H0 H1 pd pr st) (e : ExB pr H1 H2) : BW H0 H2 pd pr st := h.keep (fun o z => e _ _ h.ne z) fun a xs _ ne z => e _ _ ne z
theorem find_none {st : BSt} {k : Int} : st.find? (fun e => decide (e.1 = k)) = none ↔ k ∉ keysB st := by
  rw [List.find?_eq_none]
  unfold keysB
  rw [List.mem_map]
  constructor
  · rintro h ⟨e, he, e2⟩
    exact h e he (decide_eq_true e2)
  · intro h e he z
    exact h ⟨e, he, of_decide_eq_true z⟩
theorem evd_dgetB {σ : L2.St} {H0 H : Hp} {te : TE} {pd pr : Addr} {st : BSt} {i : Nat} {k : Int} {e : Int × List Int} (B : BW H0 H pd pr st) (hi : σ[i]? = some (some (.ref pd))) (hk : EvD te σ H (.int k)) (he : st.find? (fun e => decide (e.1 = k)) = some e) : EvD (tDGet (tVar i) te) σ H (iL e.2) := fun H1 e1 Q q =>
  ⟨.ref pd, hi, hk H1 e1 _ fun u H2 e2 r => by
    obtain rfl : u = .int k := r
    obtain ⟨kvs, h1, h2, h3, h4⟩ := B.has
    obtain ⟨v, hv, a, rfl, _, _, ha⟩ := h3 k e he
    exact ⟨pd, .ref a, rfl, by rw [← hv]; exact DGet.k (k := .inl k) ((e1.trans e2) _ _ h1), q _ H2 e2 ⟨a, _, rfl, (e1.trans e2) _ _ ha, rpa_ints _⟩⟩⟩
theorem et_dniB {σ : L2.St} {H0 H : Hp} {te : TE} {pd pr : Addr} {st : BSt} {i : Nat} {k : Int} (B : BW H0 H pd pr st) (hi : σ[i]? = some (some (.ref pd))) (hk : EvD te σ H (.int k)) : EvT (tB (tDNotIn te (tVar i))) σ H (decide (k ∉ keysB st)) := fun H1 e1 Q q =>
  hk H1 e1 _ fun u H2 e2 r => by
    obtain rfl : u = .int k := r
    obtain ⟨kvs, h1, h2, h3, h4⟩ := B.has
    refine ⟨.ref pd, hi, pd, _, rfl, DGet.k (k := .inl k) ((e1.trans e2) _ _ h1), _, rfl, ?_⟩
    have e : (!(valV kvs (.inl k)).isSome) = decide (k ∉ keysB st) := by
      cases hf : st.find? (fun e => decide (e.1 = k)) with
      | none =>
        rw [h4 k hf, decide_eq_true (find_none.mp hf)]
        rfl
      | some e =>
        obtain ⟨v, hv, _⟩ := h3 k e hf
        rw [hv, decide_eq_false]
        · rfl
        · intro z
          rw [find_none.mpr z] at hf
          cases hf
    rw [e]
    exact q H2 e2
def outL : Option (List Int) → Out
  | none => .val .none
  | some r => .new (r.map .int)
def sp_beat_way : Sp := spO (α := List (Int × Int) × Int × Int) (fun a => [wD a.1, .int a.2.1, .int a.2.2]) (fun a => a.1.length ≤ 1000 ∧ ∃ m : Int, m ≤ 6 ∧ (∀ p ∈ a.1, 0 ≤ p.2 ∧ p.2 < m) ∧ 0 ≤ a.2.1 ∧ a.2.1 < m) fun a => outL (bwF a.1 a.2.1 a.2.2)
theorem len_beat_way (vs : List V) (H : Hp) (Q : VK) (E : XK) (h : sp_beat_way vs H Q E) : vs.length = 3 := by
  unfold sp_beat_way at h
  obtain ⟨a, r, _⟩ := h
  rw [r.len]
  rfl
section
variable {P : Program} {w : World} {K : PySem.W.Frag} {mg : Str → Option Value} {base : Heap}
theorem ok_beat_way {f : Addr} {fd : FuncData} (D : Df K mg "beat_way" s_beat_way ["web", "first", "last"] f fd) (Bi : Bi mg) : FnOk P w K mg base CX0 1 f fd ["web", "first", "last"] sp_beat_way := by
  refine D.F.ok c_beat_way (fun vs H Q E h => len_beat_way _ _ _ _ h) (fun cdv A outer s H vs Q E hr h => ?_)
  refine ⟨_, (pss_cons (ps_set (i := 3) c_beat_way.nd rfl (.inl rfl) (pe_disp (pps_cons (pv 1) (pe_lst (pa_cons (pv 1) pa_nil)) pps_nil) (by rfl) (by rfl) (fun z => by cases z) (by decide)))
      (pss_cons (ps_set (i := 4) c_beat_way.nd rfl (.inl rfl) (pe_lst (pa_cons (pv 1) pa_nil)))
      (pss_cons (ps_set (i := 5) c_beat_way.nd rfl (.inl rfl) pe_int)
      (pss_cons (ps_while (PassesOwn.never) (pt_cmpR op_ltI (pv 5) (pe_callB (cr_lenK (K := K)) (by rfl) Bi.len (by decide +kernel) (pa_cons (pv 4) pa_nil)) (nomark _))
      (pss_cons (ps_for (PassesOwn.never) rfl (pi_listK (K := K) (pv 0)) (pg_tupK (K := K) rfl (pgs_cons (pg_name (i := 6) c_beat_way.nd rfl (.inl rfl)) (pgs_cons (pg_name (i := 7) c_beat_way.nd rfl (.inl rfl)) pgs_nil)))
      (pss_one (ps_if (PW.pt (pw_and (pt_cmpR op_eqI (pv 6) (pe_ix (ix_listK (K := K)) (pv 4) (pv 5) (fun _ _ => rfl)) (nomark _)) (pw_and1 (pt_cmp (pc_dnotin (hu_of hr) (pv 7) (pv 3)) (by rfl)))))
      (pss_cons (ps_dput (hu_of hr) (pv 3) (pv 7) (pe_op op_cat (pe_dget (hu_of hr) (pv 3) (pv 6) (fun _ _ => rfl)) (pe_lst (pa_cons (pv 7) pa_nil))) rfl)
      (pss_one (ps_expr (pe_bm PySem.F.plainAttrs_list PySem.F.slot_list_append PySem.F.type_list_append mt_append (pv 4) (pa_cons (pv 7) pa_nil)))))
      pss_nil)))
      (pss_one (ps_set (i := 5) c_beat_way.nd rfl (.inl rfl) (pe_op op_addI (pv 5) pe_int)))))
      (pss_one (ps_ret (pe_dget1 (hu_of hr) (pv 3) (pv 2) ⟨rfl, rfl, rfl, rfl⟩))))))), ?_⟩
  obtain ⟨⟨ps, a, b⟩, ⟨v1, _, rfl, hv, v2, _, rfl, rfl, v3, _, rfl, rfl, rfl⟩, ⟨hl, m, m6, hps, ha⟩, q⟩ := h
  dsimp only at q hv hl hps ha
  -- found
  refine fun pd hpd => ⟨.int a, rfl, .int a, rfl, by show 1 ≤ sizeLine; decide, fun pl hpl => ⟨?_, [(.inl a, .ref pl)], rfl, Nat.le_of_ble_eq_true rfl, ?_⟩⟩
  · have ne : pd ≠ pl := fun e => by
      rw [← e, upd_same] at hpl
      cases hpl
    rw [upd_ne ne, upd_same]
  have npl : pl ≠ pd := fun e => by
    rw [e, upd_same] at hpl
    cases hpl
  have hpl0 : H pl = none := by rwa [upd_ne npl] at hpl
  wtm_at "nx"
  generalize hH1 : upd (upd (upd H pd (.dK [])) pl (.lst [V.int a])) pd (.dK (mergeK [] [(.inl a, .ref pl)])) = H1
  have e1 : Ex H H1 := by
    rw [← hH1]
    exact Ex.mut (Ex.mut (Ex.new hpd) hpl0) hpd
  have hd1 : H1 pd = some (.dK [(.inl a, .ref pl)]) := by
    rw [← hH1, upd_same]
    rfl
  have hl1 : H1 pl = some (.lst [V.int a]) := by
    rw [← hH1, upd_ne npl, upd_same]
  -- row
  refine' s_asgO (ds := [.int a]) (evn_lst ?x (Nat.le_of_ble_eq_true rfl)) rfl fun pr H2 e2 o2 => ?_
  case x => wtm_at "es"
  wtm_at "nx"
  have npr : pd ≠ pr := ne_of_none hd1 o2.new
  have npr2 : pl ≠ pr := ne_of_none hl1 o2.new
  have o2 := o2.lower e1
  have b2 : BW H H2 pd pr [(a, [a])] := by
    refine ⟨hpd, npr, [(.inl a, .ref pl)], e2 _ _ hd1, rfl, fun k e he => ?_, fun k he => ?_⟩
    · obtain ⟨z1, z2⟩ := find_key he
      have z3 : e = (a, [a]) := by simpa using z1
      subst z3
      dsimp only at z2
      subst z2
      exact ⟨.ref pl, valV_pos rfl, pl, rfl, hpl0, npr2, e2 _ _ hl1⟩
    · rw [find_none] at he
      refine valV_neg (fun z => he ?_)
      have : a = k := by simpa using z
      simp [keysB, this]
  refine s_asgI evd_int fun H3 e3 => ?_
  wtm_at "nx"
  refine' s_while (fun k σ' H' => ∃ (h : Nat) (st : BSt) (y z : Option V) (n : Nat), σ' = [some v1, some (.int a), some (.int b), some (.ref pd), some (.ref pr), some (.int (h : Int)), y, z] ∧ BInv ps m a h st ∧ BW H H' pd pr st ∧ Own H H' pr ((keysB st).map .int) ∧
    bfsGo ps n h st = bfsF ps a ∧ n + h = 8 ∧ k = 8 - h) 8 ⟨0, [(a, [a])], none, none, 8, rfl, BInv.start ha, b2.ex e3, o2.step e3, rfl, rfl, rfl⟩ ?turn
  rintro k σ' H' ⟨h, st, y, z, n, rfl, I, B, O, hgo, hn, hk⟩
  have hlen := I.len
  have l1 : EvD (tCB (rLenS K) (tCons (tVar 4) tNil)) [some v1, some (V.int a), some (.int b), some (.ref pd), some (.ref pr), some (.int (h : Int)), y, z] H' (.int ((keysB st).map PyData.int).length) := evd_cb (evs_cons (evd_var rfl O.rp) evs_nil) cd_lenL
  have l2 : ((keysB st).map PyData.int).length = st.length := by
    unfold keysB
    rw [List.length_map, List.length_map]
  rw [l2] at l1
  refine ⟨decide ((h : Int) < (st.length : Int)), ett (evd_op (evd_var rfl rp_int) l1 rd_ltI), fun hb H4 e4 => ?_, fun hb H4 e4 => ?_⟩
  · have hb' : h < st.length := by simpa using hb
    obtain ⟨⟨c, r⟩, hcr⟩ : ∃ e, st[h]? = some e := ⟨_, List.getElem?_eq_getElem hb'⟩
    obtain ⟨n', rfl⟩ : ∃ n', n = n' + 1 := ⟨n - 1, by omega⟩
    have hgo2 : bfsGo ps n' (h + 1) (ps.foldl (stepB c r) st) = bfsF ps a := by
      rw [← hgo]
      conv => rhs; unfold bfsGo
      rw [hcr]
    have Inx := I.next hps hcr
    refine ⟨fun σ2 H2 => ∃ y z, σ2 = [some v1, some (.int a), some (.int b), some (.ref pd), some (.ref pr), some (.int ((h + 1 : Nat) : Int)), y, z] ∧ BW H H2 pd pr (ps.foldl (stepB c r) st) ∧ Own H H2 pr ((keysB (ps.foldl (stepB c r) st)).map .int), ?_, ?_⟩
    · rintro σ2 H2 ⟨y, z, rfl, B2, O2⟩
      exact ⟨8 - (h + 1), by omega, h + 1, _, y, z, n', rfl, Inx, B2, O2, hgo2, by omega, rfl⟩
    · wtm_at "nx"
      refine s_forB (f := pD) (xs := ps) (Hb := H) rfl hv (O.ex.trans e4) (fun i σ' H' => (∃ y z, σ' = [some v1, some (.int a), some (.int b), some (.ref pd), some (.ref pr), some (.int (h : Int)), y, z]) ∧ BW H H' pd pr ((ps.take i).foldl (stepB c r) st) ∧ Own H H' pr ((keysB ((ps.take i).foldl (stepB c r) st)).map .int)) ?_ ?_ ?_ ?_
      · exact ⟨⟨_, _, rfl⟩, B.ex e4, O.step e4⟩
      · rintro i σ' H' ⟨_, _, O⟩
        exact O.ex
      · rintro i x v σ' H' hx hr ⟨⟨y, z, rfl⟩, B, O⟩
        refine g_pair hr ?_
        have hi : i < ps.length := (List.getElem?_eq_some_iff.mp hx).1
        have G := BIn.go hps I hcr i (by omega)
        rw [foldl_take hx]
        generalize (ps.take i).foldl (stepB c r) st = si at G B O
        have hsl := G.I.len
        have hix : atI ((keysB si).map PyData.int) (h : Int) = some (.int c) := by
          refine atI_nat (j := h) ?_
          unfold keysB
          rw [List.getElem?_map, List.getElem?_map, G.at_]
          rfl
        refine' s_if (b := decide (x.1 = c) && decide (x.2 ∉ keysB si)) ?t ?yes ?no
        case t =>
          refine' et_and (ett (evd_op ?a (evd_op (evd_var rfl O.rp) ?b (rd_ixL hix)) rd_eqI)) fun _ => et_dniB B rfl ?c
          case a => wtm_at "ev"
          case b => wtm_at "ev"
          case c => wtm_at "ev"
        case no =>
          intro hb2 H5 e5
          have hs : stepB c r si x = si := if_neg (by simpa using hb2)
          rw [hs]
          exact ⟨⟨_, _, rfl⟩, B.ex e5, O.step e5⟩
        case yes =>
          intro hb2 H5 e5
          have hb3 : x.1 = c ∧ x.2 ∉ keysB si := by simpa using hb2
          have hs : stepB c r si x = si ++ [(x.2, r ++ [x.2])] := if_pos hb3
          rw [hs]
          have B5 := B.ex e5
          have O5 := O.step e5
          have hfc : si.find? (fun e => decide (e.1 = x.1)) = some (c, r) := by
            cases hf : si.find? (fun e => decide (e.1 = x.1)) with
            | none =>
              rw [List.find?_eq_none] at hf
              exact absurd (decide_eq_true hb3.1.symm) (hf _ (List.mem_of_getElem? G.at_))
            | some e =>
              obtain ⟨z1, z2⟩ := find_key hf
              rw [key_uniq G.I.nd z1 (List.mem_of_getElem? G.at_) (z2.trans hb3.1)]
          have hcat : EvN (tOp rCat (tDGet (tVar 3) (tVar 6)) (tLst (tCons (tVar 7) tNil))) [some v1, some (V.int a), some (.int b), some (.ref pd), some (.ref pr), some (.int (h : Int)), some (.int x.1), some (.int x.2)] H5 ((r ++ [x.2]).map .int) := by
            rw [List.map_append]
            have hrl : r.length ≤ 6 := by
              obtain ⟨_, w2, w3⟩ := G.I.wy _ (List.mem_of_getElem? G.at_)
              have := nodup_len w2 fun x hx => G.I.rg x (w3 x hx)
              dsimp only at this
              omega
            refine' evn_cat (evd_dgetB (e := (c, r)) B5 rfl ?a hfc) (EvN.toD (evn_lst (ds := [.int x.2]) ?b (Nat.le_of_ble_eq_true rfl))) (by rw [List.length_map]; show r.length + 1 ≤ _; omega)
            case a => wtm_at "ev"
            case b => wtm_at "es"
          refine hcat H5 (Ex.refl _) _ fun pn ws H6 npn e6 k1 k2 => ?_
          obtain rfl := RpA.ints (ns := r ++ [x.2]) k2
          have B6 := B5.ex e6
          have O6 := O5.step e6
          obtain ⟨kvs, h1, h2, h3, h4⟩ := B6.has
          have hno : si.find? (fun e => decide (e.1 = x.2)) = none := find_none.mpr hb3.2
          refine ⟨.ref pd, rfl, .int x.2, rfl, pd, _, rfl, DPut.k (k := .inl x.2) h1 (sz_lt (by omega)), ?_⟩
          rw [putK_new _ (h4 _ hno)]
          generalize hH7 : upd H6 pd (.dK (kvs ++ [(.inl x.2, .ref pn)])) = H7
          have hH5pr : ∃ vs, H5 pr = some (.lst vs) := by
            obtain ⟨vs, z, _⟩ := O5.has
            exact ⟨vs, z⟩
          obtain ⟨_, zpr⟩ := hH5pr
          have npnr : pn ≠ pr := (ne_of_none zpr npn).symm
          have x67 : ExB pd H6 H7 := by rw [← hH7]; exact ExB.upd
          have npd : H pd = none := B.new
          have npnH : H pn = none := fresh_back O5.ex npn
          have O7 : Own H H7 pr ((keysB si).map .int) := by
            obtain ⟨vs, z1, z2⟩ := O6.has
            refine ⟨O6.new, x67.base npd O6.ex, ⟨vs, x67 _ _ B.ne.symm z1, ?_⟩, O6.im⟩
            rw [z2.ints]
            exact rpa_ints _
          have npnd : pn ≠ pd := ne_of k1 h1 (fun z => by cases z)
          have lk : ∀ (A : Addr) xs, H A = none → A ≠ pr → H6 A = some (.lst xs) → H7 A = some (.lst xs) := fun A xs _ _ z => x67 A _ (ne_of z h1 (fun z => by cases z)) z
          have B7 : BW H H7 pd pr (si ++ [(x.2, r ++ [x.2])]) := by
            refine ⟨npd, B.ne, kvs ++ [(.inl x.2, .ref pn)], by rw [← hH7, upd_same], by rw [List.length_append, List.length_append, h2]; rfl, fun k e he => ?_, fun k he => ?_⟩
            · rw [List.find?_append] at he
              rw [valV_snoc _ _ _ _ (h4 _ hno)]
              by_cases hk : k = x.2
              · subst hk
                rw [hno] at he
                have e2 : e = (x.2, r ++ [x.2]) := by simpa using he.symm
                rw [if_pos rfl, e2]
                exact ⟨_, rfl, pn, rfl, npnH, npnr, x67 _ _ npnd k1⟩
              · rw [if_neg (fun z => hk (by simpa using z))]
                have hf : si.find? (fun e => decide (e.1 = k)) = some e := by
                  cases hf : si.find? (fun e => decide (e.1 = k)) with
                  | none =>
                    rw [hf] at he
                    have hk2 : ¬ x.2 = k := fun z => hk z.symm
                    simp [hk2] at he
                  | some e' =>
                    rw [hf] at he
                    exact he
                obtain ⟨v, hv, w⟩ := h3 k e hf
                exact ⟨v, hv, w.keep lk⟩
            · rw [find_none] at he
              unfold keysB at he
              rw [List.map_append, List.mem_append, not_or] at he
              rw [valV_snoc _ _ _ _ (h4 _ hno), if_neg (fun z => he.2 (by simpa using z))]
              exact h4 k (find_none.mpr he.1)
          wtm_at "nx"
          refine' s_appO (d := .int x.2) O7 rfl ?x rfl ?sz fun H8 x8 o8 => ?_
          case x => wtm_at "ev"
          case sz =>
            unfold keysB
            rw [List.length_map, List.length_map]
            omega
          refine ⟨⟨_, _, rfl⟩, B7.exB x8, ?_⟩
          unfold keysB at o8 ⊢
          rw [List.map_append, List.map_append]
          exact o8
      · rintro σ' H' ⟨⟨y, z, rfl⟩, B, O⟩
        rw [List.take_length] at B O
        wtm_at "nx"
        refine' s_asgI (n := ((h + 1 : Nat) : Int)) ?x fun H5 e5 => ?_
        case x =>
          rw [show ((h + 1 : Nat) : Int) = (h : Int) + 1 by omega]
          wtm_at "ev"
        exact ⟨_, _, rfl, B.ex e5, O.step e5⟩
  · have hb' : ¬ h < st.length := by simpa using hb
    wtm_at "nx"
    have hfin : st = bfsF ps a := by
      rw [← hgo]
      cases n with
      | zero => rfl
      | succ n =>
        unfold bfsGo
        rw [List.getElem?_eq_none (by omega)]
    have B4 := B.ex e4
    have O4 := O.step e4
    obtain ⟨kvs, h1, h2, h3, h4⟩ := B4.has
    refine ⟨.ref pd, rfl, pd, rfl, .inl ⟨_, .inl h1⟩, .int b, rfl, _, DGet.k (k := .inl b) h1, ?_⟩
    unfold bwF at q
    rw [← hfin] at q
    cases hf : st.find? (fun e => decide (e.1 = b)) with
    | none =>
      rw [hf] at q
      rw [h4 b hf]
      exact q .non H4 O4.ex rfl
    | some e =>
      rw [hf] at q
      obtain ⟨v, hv, pa, rfl, n1, n2, n3⟩ := h3 b e hf
      rw [hv]
      exact q pa _ H4 n1 O4.ex n3 (rpa_ints _)
end
end Bm

namespace Bm
open PySem PySem.Spec PyProof.Rows L2 Evl
local macro_rules | `(tactic| wtm_at "rp") => `(tactic| first | exact rp_int | exact rp_bl | exact rp_str | exact rp_non | assumption | (refine' Rp.ex ?e ?h; (case h => assumption); (case e => assumption)) | exact Own.rp (by assumption))
local macro_rules | `(tactic| wtm_at "side") => `(tactic| first | assumption | omega | decide | rfl | exact ⟨by omega, by omega⟩)
local macro_rules | `(tactic| wtm_at "es") => `(tactic| first | exact evs_nil | (refine' evs_cons ?a ?b; (case a => wtm_at "ev"); (case b => wtm_at "es")))
local macro_rules | `(tactic| wtm_at "ev") => `(tactic| first
  | exact evd_int | exact evd_str | exact evd_bl | exact evd_non
  | (refine' evd_var rfl ?h; (case h => wtm_at "rp"))
  | ((with_reducible refine' evd_op ?a ?b rd_addI); (case a => wtm_at "ev"); (case b => wtm_at "ev"))
  | ((with_reducible refine' evd_op ?a ?b rd_subI); (case a => wtm_at "ev"); (case b => wtm_at "ev"))
  | ((with_reducible refine' evd_op ?a ?b (rd_mulI ?c)); (case a => wtm_at "ev"); (case b => wtm_at "ev"); (case c => wtm_at "side"))
  | ((with_reducible refine' evd_op ?a ?b (rd_divI ?c)); (case a => wtm_at "ev"); (case b => wtm_at "ev"); (case c => wtm_at "side"))
  | ((with_reducible refine' evd_op ?a ?b (rd_modI ?c)); (case a => wtm_at "ev"); (case b => wtm_at "ev"); (case c => wtm_at "side"))
  | ((with_reducible refine' evd_op ?a ?b rd_ltI); (case a => wtm_at "ev"); (case b => wtm_at "ev"))
  | ((with_reducible refine' evd_op ?a ?b rd_leI); (case a => wtm_at "ev"); (case b => wtm_at "ev"))
  | ((with_reducible refine' evd_op ?a ?b rd_gtI); (case a => wtm_at "ev"); (case b => wtm_at "ev"))
  | ((with_reducible refine' evd_op ?a ?b rd_geI); (case a => wtm_at "ev"); (case b => wtm_at "ev"))
  | ((with_reducible refine' evd_op ?a ?b rd_eqI); (case a => wtm_at "ev"); (case b => wtm_at "ev"))
  | ((with_reducible refine' evd_op ?a ?b rd_neI); (case a => wtm_at "ev"); (case b => wtm_at "ev"))
  | ((with_reducible refine' evd_op ?a ?b rd_eqB); (case a => wtm_at "ev"); (case b => wtm_at "ev"))
  | ((with_reducible refine' evd_op ?a ?b rd_neB); (case a => wtm_at "ev"); (case b => wtm_at "ev"))
  | ((with_reducible refine' evd_op ?a ?b rd_isNo); (case a => wtm_at "ev"); (case b => wtm_at "ev"))
  | ((with_reducible refine' evd_op ?a ?b rd_notNo); (case a => wtm_at "ev"); (case b => wtm_at "ev"))
  | ((with_reducible refine' evd_op ?a ?b rd_inIL); (case a => wtm_at "ev"); (case b => wtm_at "ev"))
  | ((with_reducible refine' evd_op ?a ?b rd_niIL); (case a => wtm_at "ev"); (case b => wtm_at "ev"))
  | ((with_reducible refine' evd_op ?a ?b rd_inID); (case a => wtm_at "ev"); (case b => wtm_at "ev"))
  | ((with_reducible refine' evd_op ?a ?b rd_niID); (case a => wtm_at "ev"); (case b => wtm_at "ev"))
  | ((with_reducible refine' evd_neg ?a); (case a => wtm_at "ev"))
  | ((with_reducible refine' evd_tix ?a ?b ?c); (case a => wtm_at "ev"); (case b => wtm_at "ev"); (case c => wtm_at "side"))
  | ((with_reducible refine' evd_tup ?a ?b); (case a => wtm_at "es"); (case b => exact Nat.le_of_ble_eq_true rfl))
  | ((with_reducible refine' evd_cb ?a cd_lenL); (case a => wtm_at "es"))
  | ((with_reducible refine' evd_cb ?a cd_lenT); (case a => wtm_at "es"))
  | ((with_reducible refine' evd_cb ?a cd_intB); (case a => wtm_at "es"))
  | ((with_reducible refine' evd_cb ?a cd_tupL); (case a => wtm_at "es"))
  | ((with_reducible refine' evd_and ?a ?b); (case a => wtm_at "ev"); (case b => intro _; wtm_at "ev"))
  | ((with_reducible refine' evd_or ?a ?b); (case a => wtm_at "ev"); (case b => intro _; wtm_at "ev"))
  | ((with_reducible refine' evd_not ?a); (case a => wtm_at "ev"))
  | ((with_reducible refine' evd_op ?a ?b rd_neIL); (case a => wtm_at "ev"); (case b => wtm_at "ev"))
  | ((with_reducible refine' evd_op ?a ?b rd_eqIL); (case a => wtm_at "ev"); (case b => wtm_at "ev"))
  | ((with_reducible refine' EvN.toD ?a); (case a => wtm_at "en")))
local macro_rules | `(tactic| wtm_at "en") => `(tactic| first
  | ((with_reducible refine' evn_cb ?a cn_sortTI); (case a => wtm_at "es"))
  | ((with_reducible refine' evn_cb ?a cn_listL); (case a => wtm_at "es"))
  | ((with_reducible refine' evn_cb ?a cn_listT); (case a => wtm_at "es"))
  | ((with_reducible refine' evn_rng ?a ?b); (case a => wtm_at "ev"); (case b => wtm_at "side"))
  | ((with_reducible refine' evn_lst ?a ?b); (case a => wtm_at "es"); (case b => exact Nat.le_of_ble_eq_true rfl))
  | ((with_reducible refine' evn_cat ?a ?b ?c); (case a => wtm_at "ev"); (case b => wtm_at "ev"); (case c => wtm_at "side"))
  | ((with_reducible refine' evn_slL ?a ?b ?c); (case a => wtm_at "ev"); (case b => first | exact evp_none | (refine' evp_some ?d; (case d => wtm_at "ev"))); (case c => first | exact evp_none | (refine' evp_some ?d; (case d => wtm_at "ev")))))
local macro_rules | `(tactic| wtm_at "et") => `(tactic| first
  | exact et_yes
  | (refine' ett ?a; (case a => wtm_at "ev"))
  | (refine' etB ?a; (case a => wtm_at "ev"))
  | (refine' et_and ?a ?b; (case a => wtm_at "et"); (case b => intro _; wtm_at "et"))
  | (refine' et_or ?a ?b; (case a => wtm_at "et"); (case b => intro _; wtm_at "et"))
  | (refine' et_not ?a; (case a => wtm_at "et")))
local macro_rules | `(tactic| wtm_at "nx") => `(tactic| try dsimp only [tSeq, tNext])
/-! ### shortest_ring, ring -/
def Best (H0 H' : Hp) : Option (List Int) → V → Prop
  | none, v => v = .non
  | some r, v => ∃ a, v = .ref a ∧ H0 a = none ∧ H' a = some (.lst (r.map V.int))
def bestD : Option (List Int) → PyData
  | none => .none
  | some r => iL r
theorem Best.ex {H0 H1 H2 : Hp} {o : Option (List Int)} {v : V} (h : Best H0 H1 o v) (e : Ex H1 H2) : Best H0 H2 o v := by
  cases o with
  | none => exact h
  | some r =>
    obtain ⟨a, h1, h2, h3⟩ := h
    exact ⟨a, h1, h2, e _ _ h3⟩
theorem Best.rp {H0 H1 : Hp} {o : Option (List Int)} {v : V} (h : Best H0 H1 o v) : Rp H1 (bestD o) v := by
  cases o with
  | none => exact h
  | some r =>
    obtain ⟨a, h1, h2, h3⟩ := h
    exact ⟨a, _, h1, h3, rpa_ints _⟩
theorem Best.give {H0 H1 : Hp} {o : Option (List Int)} {v : V} {Q : VK} {E : XK} (h : Best H0 H1 o v) (e : Ex H0 H1) (q : Gives H0 Q E (outL o)) : Q v H1 := by
  cases o with
  | none => exact q v H1 e h
  | some r =>
    obtain ⟨a, rfl, h2, h3⟩ := h
    exact q a _ H1 h2 e h3 (rpa_ints _)
/-- a call that answers None or a new list -/
def EvB (te : TE) (σ : L2.St) (H : Hp) (o : Option (List Int)) : Prop := ∀ H1, Ex H H1 → ∀ Q : VK, (∀ v H2, Ex H1 H2 → Best H1 H2 o v → Q v H2) → te σ H1 Q
theorem evb_callO {σ : L2.St} {H : Hp} {tr : TA} {E : XK} {α : Type} {enc : α → List PyData} {pre : α → Prop} {out : α → Out} {o : Option (List Int)} (a : α) (h : EvS tr σ H (enc a)) (hp : pre a) (ho : out a = outL o) : EvB (tCall (spO enc pre out) [] E tr) σ H o := fun H1 e Q q => by
  cases o with
  | none => exact evd_callO a h hp ho H1 e Q fun v H2 e2 r => q v H2 e2 r
  | some r => exact evn_callO a h hp ho H1 e Q fun p ws H2 n e2 k1 k2 => q _ H2 e2 ⟨p, rfl, n, by rw [← k2.ints]; exact k1⟩
theorem s_asgB2 {i : Nat} {te : TE} {D : Ends} {σ : L2.St} {H : Hp} {o : Option (List Int)} (h : EvB te σ H o) (k : ∀ v H1, Ex H H1 → Best H H1 o v → D.nx (σ.set i (some v)) H1) : tAsg te (gName i) D σ H := h H (Ex.refl H) _ fun v H1 e r => k v H1 e r
theorem s_retB2 {te : TE} {D : Ends} {σ : L2.St} {H : Hp} {o : Option (List Int)} (h : EvB te σ H o) (k : ∀ v H1, Ex H H1 → Best H H1 o v → D.rt v H1) : tRet te D σ H := h H (Ex.refl H) _ fun v H1 e r => k v H1 e r
theorem Best.lower {H0 H1 H2 : Hp} {o : Option (List Int)} {v : V} (h : Best H1 H2 o v) (e : Ex H0 H1) : Best H0 H2 o v := by
  cases o with
  | none => exact h
  | some r =>
    obtain ⟨a, h1, h2, h3⟩ := h
    exact ⟨a, h1, fresh_back e h2, h3⟩
theorem isNo_bestD (o : Option (List Int)) : isNo (bestD o) = o.isNone := by
  cases o with
  | none => rfl
  | some r => rfl
theorem ev_beat_way {σ : L2.St} {H : Hp} {t0 t1 t2 : TE} {E : XK} {ps : List (Int × Int)} {a b : Int} (h0 : EvD t0 σ H (wD ps)) (h1 : EvD t1 σ H (.int a)) (h2 : EvD t2 σ H (.int b)) (hl : ps.length ≤ 1000) (p : ∃ m : Int, m ≤ 6 ∧ (∀ p ∈ ps, 0 ≤ p.2 ∧ p.2 < m) ∧ 0 ≤ a ∧ a < m) :
    EvB (tCall sp_beat_way [] E (tCons t0 (tCons t1 (tCons t2 tNil)))) σ H (bwF ps a b) := evb_callO (ps, a, b) (evs_cons h0 (evs_cons h1 (evs_cons h2 evs_nil))) ⟨hl, p⟩ rfl
def sp_shortest_ring : Sp := spO (α := List (Int × Int)) (fun a => [wD a]) (fun a => a.length ≤ 1000 ∧ ∃ m : Int, m ≤ 6 ∧ ∀ p ∈ a, 0 ≤ p.2 ∧ p.2 < m) fun a => outL (srF a)
theorem len_shortest_ring (vs : List V) (H : Hp) (Q : VK) (E : XK) (h : sp_shortest_ring vs H Q E) : vs.length = 1 := by
  unfold sp_shortest_ring at h
  obtain ⟨a, r, _⟩ := h
  rw [r.len]
  rfl
section
variable {P : Program} {w : World} {K : PySem.W.Frag} {mg : Str → Option Value} {base : Heap}
theorem ok_shortest_ring {f : Addr} {fd : FuncData} (D : Df K mg "shortest_ring" s_shortest_ring ["web"] f fd) (Bi : Bi mg) {f_beat_way : Addr} {fd_beat_way : FuncData} (D_beat_way : Df K mg "beat_way" s_beat_way ["web", "first", "last"] f_beat_way fd_beat_way) (G_beat_way : FnOk P w K mg base CX0 1 f_beat_way fd_beat_way ["web", "first", "last"] sp_beat_way) : FnOk P w K mg base CX0 2 f fd ["web"] sp_shortest_ring := by
  refine D.F.ok c_shortest_ring (fun vs H Q E h => len_shortest_ring _ _ _ _ h) (fun cdv A outer s H vs Q E hr h => ?_)
  refine ⟨_, (pss_cons (ps_set (i := 1) c_shortest_ring.nd rfl (.inl rfl) pe_non)
      (pss_cons (ps_for (PassesOwn.never) rfl (pi_listK (K := K) (pv 0)) (pg_tupK (K := K) rfl (pgs_cons (pg_name (i := 2) c_shortest_ring.nd rfl (.inl rfl)) (pgs_cons (pg_name (i := 3) c_shortest_ring.nd rfl (.inl rfl)) pgs_nil)))
      (pss_cons (ps_set (i := 4) c_shortest_ring.nd rfl (.inl rfl) (pe_call G_beat_way (hr.mono (by decide)) (by rfl) D_beat_way.g D_beat_way.F.kp D_beat_way.b .nil pass0 (pa_cons (pv 0) (pa_cons (pv 3) (pa_cons (pv 2) pa_nil)))))
      (pss_one (ps_if (PW.pt (pw_and (pt_cmpR op_notNo (pv 4) pe_non (nomark _)) (pw_and1 (PW.pt (pw_or (pt_cmpR op_isNo (pv 1) pe_non (nomark _)) (pw_or1 (pt_cmpR op_ltI (pe_callB (cr_lenK (K := K)) (by rfl) Bi.len (by decide +kernel) (pa_cons (pv 4) pa_nil)) (pe_callB (cr_lenK (K := K)) (by rfl) Bi.len (by decide +kernel) (pa_cons (pv 1) pa_nil)) (nomark _))))))))
      (pss_one (ps_set (i := 1) c_shortest_ring.nd rfl (.inl rfl) (pv 4)))
      pss_nil))))
      (pss_one (ps_ret (pv 1))))), ?_⟩
  obtain ⟨ps, ⟨v1, _, rfl, hv, rfl⟩, ⟨hl, m, m6, hps⟩, q⟩ := h
  dsimp only at q hv hl hps
  refine s_asgD evd_non fun vb H1 e1 hb1 => ?_
  wtm_at "nx"
  have hvb : vb = .non := hb1
  refine s_forB (f := pD) (xs := ps) (Hb := H) rfl hv e1 (fun i σ' H' => (∃ vb y z u, σ' = [some v1, some vb, y, z, u] ∧ Best H H' (srTo ps (ps.take i)) vb) ∧ Ex H H') ?_ ?_ ?_ ?_
  · exact ⟨⟨vb, none, none, none, rfl, hvb⟩, e1⟩
  · rintro i σ' H' ⟨_, e⟩
    exact e
  · rintro i x v σ' H' hx hr ⟨⟨vb, y, z, u, rfl, hb⟩, e⟩
    refine g_pair hr ?_
    have hm := List.mem_of_getElem? hx
    have hw' : Rp H' (wD ps) v1 := hv.ex e
    rw [List.take_add_one, hx]
    rw [show ps.take i ++ (some x).toList = ps.take i ++ [x] from rfl, srTo_snoc]
    generalize srTo ps (ps.take i) = best at hb
    refine' s_asgB2 (ev_beat_way (a := x.2) (b := x.1) (evd_var rfl hw') ?a ?b hl ⟨m, m6, hps, (hps x hm).1, (hps x hm).2⟩) fun vr H5 e5 hbr => ?_
    case a => wtm_at "ev"
    case b => wtm_at "ev"
    wtm_at "nx"
    have hb5 := hb.ex e5
    have hbr' := hbr.lower e
    unfold srStep
    generalize bwF ps x.2 x.1 = row at hbr'
    cases row with
    | none =>
      dsimp only
      refine s_if (b := false && false) (et_and (ett ((evd_op (evd_var rfl (d := .none) hbr'.rp) evd_non rd_notNo))) fun z => by cases z) (fun z => by cases z) fun _ H6 e6 => ?_
      exact ⟨⟨vb, _, _, _, rfl, hb5.ex e6⟩, (e.trans e5).trans e6⟩
    | some r =>
      dsimp only
      cases best with
      | none =>
        dsimp only
        refine s_if (b := true && (true || false)) (et_and (ett ((evd_op (evd_var rfl (d := iL r) hbr'.rp) evd_non rd_notNo))) fun _ => et_or (ett (evd_op (evd_var rfl (d := .none) hb5.rp) evd_non rd_isNo)) fun z => by cases z) (fun _ H6 e6 => ?_) (fun z => by cases z)
        exact ⟨vr, rfl, ⟨vr, _, _, _, rfl, hbr'.ex e6⟩, (e.trans e5).trans e6⟩
      | some b =>
        dsimp only
        have l1 : EvD (tCB (rLenS K) (tCons (tVar 4) tNil)) [some v1, some vb, some (V.int x.1), some (.int x.2), some vr] H5 (.int (r.map PyData.int).length) := evd_cb (evs_cons (evd_var rfl (d := iL r) hbr'.rp) evs_nil) cd_lenL
        have l2 : EvD (tCB (rLenS K) (tCons (tVar 1) tNil)) [some v1, some vb, some (V.int x.1), some (.int x.2), some vr] H5 (.int (b.map PyData.int).length) := evd_cb (evs_cons (evd_var rfl (d := iL b) hb5.rp) evs_nil) cd_lenL
        rw [List.length_map] at l1 l2
        refine s_if (b := true && (false || decide ((r.length : Int) < (b.length : Int)))) (et_and (ett ((evd_op (evd_var rfl (d := iL r) hbr'.rp) evd_non rd_notNo))) fun _ => et_or (ett (evd_op (evd_var rfl (d := iL b) hb5.rp) evd_non rd_isNo)) fun _ => ett (evd_op l1 l2 rd_ltI)) (fun hb2 H6 e6 => ?_) (fun hb2 H6 e6 => ?_)
        · rw [if_pos (by simpa using hb2)]
          exact ⟨vr, rfl, ⟨vr, _, _, _, rfl, hbr'.ex e6⟩, (e.trans e5).trans e6⟩
        · rw [if_neg (by simpa using hb2)]
          exact ⟨⟨vb, _, _, _, rfl, hb5.ex e6⟩, (e.trans e5).trans e6⟩
  · rintro σ' H' ⟨⟨vb, y, z, u, rfl, hb⟩, e⟩
    rw [List.take_length] at hb
    wtm_at "nx"
    exact ⟨vb, rfl, hb.give e q⟩
end
theorem ev_shortest {σ : L2.St} {H : Hp} {t0 : TE} {E : XK} {ps : List (Int × Int)} (h0 : EvD t0 σ H (wD ps)) (hl : ps.length ≤ 1000) (p : ∃ m : Int, m ≤ 6 ∧ ∀ p ∈ ps, 0 ≤ p.2 ∧ p.2 < m) :
    EvB (tCall sp_shortest_ring [] E (tCons t0 tNil)) σ H (srF ps) := evb_callO ps (evs_cons h0 evs_nil) ⟨hl, p⟩ rfl
def sp_ring (C1 C3 : Addr) : Sp := spO (α := Int × List (Int × Int)) (fun a => [.int a.1, wD a.2]) (fun a => a.2.length ≤ 1000) fun a => chkW C1 C3 a.1 a.2 (outL (srF a.2))
theorem len_ring {C_BadCount : Addr} {C_BadWeb : Addr} (vs : List V) (H : Hp) (Q : VK) (E : XK) (h : (sp_ring C_BadCount C_BadWeb) vs H Q E) : vs.length = 2 := by
  unfold sp_ring at h
  obtain ⟨a, r, _⟩ := h
  rw [r.len]
  rfl
section
variable {P : Program} {w : World} {K : PySem.W.Frag} {mg : Str → Option Value} {base : Heap}
theorem ok_ring {f : Addr} {fd : FuncData} (D : Df K mg "ring" s_ring ["many", "web"] f fd) (Bi : Bi mg) {f_look_at_web : Addr} {fd_look_at_web : FuncData} (D_look_at_web : Df K mg "look_at_web" s_look_at_web ["many", "web"] f_look_at_web fd_look_at_web) (G_look_at_web : FnOk P w K mg base (L2.CX P w) 2 f_look_at_web fd_look_at_web ["many", "web"] (sp_look_at_web C_BadCount C_BadWeb)) {f_shortest_ring : Addr} {fd_shortest_ring : FuncData} (D_shortest_ring : Df K mg "shortest_ring" s_shortest_ring ["web"] f_shortest_ring fd_shortest_ring) (G_shortest_ring : FnOk P w K mg base CX0 2 f_shortest_ring fd_shortest_ring ["web"] sp_shortest_ring) : FnOk P w K mg base (L2.CX P w) 3 f fd ["many", "web"] (sp_ring C_BadCount C_BadWeb) := by
  refine D.F.okX c_ring (fun vs H Q E h => len_ring _ _ _ _ h) (fun cdv A outer s H vs Q E hr h => ?_)
  refine ⟨_, (pss_cons (ps_expr (pe_callS G_look_at_web (hr.mono (by decide)) (by rfl) D_look_at_web.g D_look_at_web.F.kp D_look_at_web.b (fun σ => passAt (takes_of rfl rfl rfl rfl) σ) (pa_cons (pv 0) (pa_cons (pv 1) pa_nil))))
      (pss_one (ps_ret (pe_call G_shortest_ring (hr.mono (by decide)) (by rfl) D_shortest_ring.g D_shortest_ring.F.kp D_shortest_ring.b .nil pass0 (pa_cons (pv 1) pa_nil))))), ?_⟩
  obtain ⟨⟨m, ps⟩, ⟨v1, _, rfl, rfl, v2, _, rfl, hv, rfl⟩, hl, q⟩ := h
  dsimp only at q hv hl
  refine s_callX (m, ps) ?a hl fun H1 e1 => chkW_go q e1 fun h1 h2 q H2 e2 => ?_
  case a => wtm_at "es"
  wtm_at "nx"
  have e12 := e1.trans e2
  have hm : 1 ≤ m ∧ m ≤ 6 := h1
  exact s_retB2 (ev_shortest (evd_var rfl (hv.ex e12)) hl ⟨m, hm.2, h2.rng⟩) fun v H3 e3 hb => (hb.lower e12).give (e12.trans e3) q
end
theorem ev_ring {C1 C3 : Addr} {σ : L2.St} {H : Hp} {t0 t1 : TE} {E : XK} {m : Int} {ps : List (Int × Int)} (h0 : EvD t0 σ H (.int m)) (h1 : EvD t1 σ H (wD ps)) (c : okCount m) (p : isWeb m ps) (l : ps.length ≤ 1000) :
    EvB (tCall (sp_ring C1 C3) [] E (tCons t0 (tCons t1 tNil))) σ H (srF ps) := evb_callO (m, ps) (evs_cons h0 (evs_cons h1 evs_nil)) l (chkW_ok c p)
/-! ### first_order, ordered, keeps -/
def outT : Option (List Int) → Out
  | none => .val .none
  | some r => .val (iD r)
def ordD : Option (List Int) → PyData
  | none => .none
  | some r => iD r
theorem outT_eq (o : Option (List Int)) : outT o = .val (ordD o) := by
  cases o with
  | none => rfl
  | some r => rfl
def freeTo (ps : List (Int × Int)) (f : List Int) (i : Nat) : List Int := (rgI 0 i).filter fun t => !decide (t ∈ f) && decide (aheadF ps f t = [])
theorem freeTo_succ (ps : List (Int × Int)) (f : List Int) (i : Nat) : freeTo ps f (i + 1) = freeTo ps f i ++ if (!decide ((i : Int) ∈ f) && decide (aheadF ps f i = [])) = true then [(i : Int)] else [] := by
  unfold freeTo
  rw [rgI_snoc, List.filter_append, Int.zero_add, List.filter_cons]
  congr 1
theorem freeTo_len (ps : List (Int × Int)) (f : List Int) (i : Nat) : (freeTo ps f i).length ≤ i := by
  unfold freeTo
  exact Nat.le_trans (List.length_filter_le _ _) (by rw [rgI_len]; exact Nat.le_refl _)
def sp_first_order : Sp := spO (α := Int × List (Int × Int)) (fun a => [.int a.1, wD a.2]) (fun a => (0 ≤ a.1 ∧ a.1 ≤ 6) ∧ a.2.length ≤ 1000) fun a => .val (ordD (foF a.1 a.2))
theorem len_first_order (vs : List V) (H : Hp) (Q : VK) (E : XK) (h : sp_first_order vs H Q E) : vs.length = 2 := by
  unfold sp_first_order at h
  obtain ⟨a, r, _⟩ := h
  rw [r.len]
  rfl
section
variable {P : Program} {w : World} {K : PySem.W.Frag} {mg : Str → Option Value} {base : Heap}
theorem ok_first_order {f : Addr} {fd : FuncData} (D : Df K mg "first_order" s_first_order ["many", "web"] f fd) (Bi : Bi mg) : FnOk P w K mg base CX0 1 f fd ["many", "web"] sp_first_order := by
  refine D.F.ok c_first_order (fun vs H Q E h => len_first_order _ _ _ _ h) (fun cdv A outer s H vs Q E hr h => ?_)
  refine ⟨_, (pss_cons (ps_set (i := 2) c_first_order.nd rfl (.inr rfl) (pe_lst pa_nil))
      (pss_cons (ps_while (PassesOwn.never) (pt_cmpR op_ltI (pe_callB (cr_lenK (K := K)) (by rfl) Bi.len (by decide +kernel) (pa_cons (pv 2) pa_nil)) (pv 0) (nomark _))
      (pss_cons (ps_set (i := 3) c_first_order.nd rfl (.inl rfl) (pe_lst pa_nil))
      (pss_cons (ps_for (PassesOwn.never) rfl (pi_range1 (by rfl) Bi.range (pa_cons (pv 0) pa_nil)) (pg_name (i := 4) c_first_order.nd rfl (.inr rfl))
      (pss_cons (ps_setLc (i := 5) (own := [("one", 6), ("other", 7)]) (g := (gTup K 2 (gCons (gName 6) (gCons (gName 7) gNil)))) rfl c_first_order.nd rfl rfl (sw_true rfl rfl rfl (by decide +kernel)) (pi_listK (K := K) (pv 1)) (blkOk_by (own := [("one", 6), ("other", 7)]) (N := ["many", "web", "found", "free", "thing", "ahead", "one", "other"]) (sc := defScope s_first_order) (by decide +kernel)) (fun _ _ _ _ _ => (pg_tupK (K := K) rfl (pgs_cons (pg_name (i := 6) c_first_order.nd rfl (.inl rfl)) (pgs_cons (pg_name (i := 7) c_first_order.nd rfl (.inl rfl)) pgs_nil)))) (fun _ _ _ _ _ => pts_one (PW.pt (pw_and (pt_cmpR op_eqI (pv 7) (pv 4) (nomark _)) (pw_and1 (pt_cmpR (op_niFK (K := K)) (pv 6) (pv 2) (by rfl)))))) (fun _ _ _ _ _ => (pv 6)))
      (pss_one (ps_if (PW.pt (pw_and (pt_cmpR (op_niFK (K := K)) (pv 4) (pv 2) (by rfl)) (pw_and1 (pt_cmpR (op_eqDK (K := K) hr.units) (pv 5) (pe_lst pa_nil) (nomark _)))))
      (pss_one (ps_expr (pe_bm PySem.F.plainAttrs_list PySem.F.slot_list_append PySem.F.type_list_append mt_append (pv 3) (pa_cons (pv 4) pa_nil))))
      pss_nil))))
      (pss_cons (ps_if (pt_cmpR (op_eqDK (K := K) hr.units) (pv 3) (pe_lst pa_nil) (nomark _))
      (pss_one (ps_ret pe_non))
      pss_nil)
      (pss_one (ps_expr (pe_bm PySem.F.plainAttrs_list PySem.F.slot_list_append PySem.F.type_list_append mt_append (pv 2) (pa_cons (pe_ix (ix_listK (K := K)) (pv 3) pe_int (fun _ _ => rfl)) pa_nil))))))))
      (pss_one (ps_ret (pe_callTy (cr_tupLK (K := K)) (by rfl) Bi.tuple (by decide +kernel) (pa_cons (pv 2) pa_nil)))))), ?_⟩
  obtain ⟨⟨m, ps⟩, ⟨v1, _, rfl, rfl, v2, _, rfl, hv, rfl⟩, ⟨⟨m0, m6⟩, hl⟩, q⟩ := h
  dsimp only at q hv m0 m6 hl
  refine' s_asgO (evn_lst evs_nil (by decide)) rfl fun pf H1 e1 o1 => ?_
  wtm_at "nx"
  refine' s_while (fun k σ' H' => ∃ (f : List Int) (y3 y4 y5 : Option V), σ' = [some (.int m), some v2, some (.ref pf), y3, y4, y5, none, none] ∧ Own H H' pf (f.map .int) ∧ foGo m ps k f = foF m ps ∧ f.length + k = m.toNat) m.toNat ⟨[], none, none, none, rfl, o1, rfl, by simp⟩ ?wl
  rintro k σ' H' ⟨f, y3, y4, y5, rfl, O, hgo, hn⟩
  have l1 : EvD (tCB (rLenS K) (tCons (tVar 2) tNil)) [some (V.int m), some v2, some (.ref pf), y3, y4, y5, none, none] H' (.int (f.map PyData.int).length) := evd_cb (evs_cons (evd_var rfl O.rp) evs_nil) cd_lenL
  rw [List.length_map] at l1
  refine ⟨decide ((f.length : Int) < m), ett (evd_op l1 (evd_var rfl rp_int) rd_ltI), fun hb H4 e4 => ?_, fun hb H4 e4 => ?_⟩
  · have hb' : (f.length : Int) < m := by simpa using hb
    obtain ⟨k', rfl⟩ : ∃ k', k = k' + 1 := ⟨k - 1, by omega⟩
    refine ⟨fun σ2 H2 => ∃ (f : List Int) (y3 y4 y5 : Option V), σ2 = [some (.int m), some v2, some (.ref pf), y3, y4, y5, none, none] ∧ Own H H2 pf (f.map .int) ∧ foGo m ps k' f = foF m ps ∧ f.length + k' = m.toNat, fun σ2 H2 z => ⟨k', Nat.lt_succ_self _, z⟩, ?_⟩
    wtm_at "nx"
    have O4 := O.step e4
    refine' s_asgO (evn_lst evs_nil (by decide)) rfl fun pq H5 e5 o5 => ?_
    wtm_at "nx"
    have npq : pf ≠ pq := by
      obtain ⟨_, z, _⟩ := O4.has
      exact ne_of_none z o5.new
    have o5 := o5.lower O4.ex
    have O5 := O4.step e5
    refine' s_forR (n := m) ?n (by omega) fun H6 e6 => ⟨fun i σ' H' => (∃ y4 y5, σ' = [some (.int m), some v2, some (.ref pf), some (.ref pq), y4, y5, none, none]) ∧ i ≤ m.toNat ∧ Own H H' pf (f.map .int) ∧ Own H H' pq ((freeTo ps f i).map .int), ?_, ?_, ?_⟩
    case n => wtm_at "es"
    · exact ⟨⟨_, _, rfl⟩, Nat.zero_le _, O5.step e6, o5.step e6⟩
    · rintro i σ' H' hi ⟨⟨y4, y5, rfl⟩, hi2, Of, Oq⟩
      refine g_name ?_
      have hw' : Rp H' (wD ps) v2 := hv.ex Of.ex
      refine' s_asgD (d := iL (aheadF ps f i)) (EvN.toD (ds := (aheadF ps f i).map .int) ?x) fun va H7 e7 r7 => ?_
      case x =>
        unfold aheadF
        rw [List.map_map]
        refine' evn_lcL (f := pD) (xs := ps) (fun p => decide (p.2 = (i : Int)) && !decide (p.1 ∈ f)) (fun p => .int p.1) (evd_var rfl hw') (by omega) ?turn fun _ _ _ => rfl
        intro x u H8 hx e8 r
        refine' ⟨[some (.int m), some v2, some (.ref pf), some (.ref pq), some (.int i), y5, some (.int x.1), some (.int x.2)], fun Q hq => g_pair r hq, rfl, ?_, fun _ => ?_⟩
        · have Of8 : Rp H8 (iL f) (.ref pf) := (Of.step e8).rp
          refine' et_and ?a fun _ => ett (evd_op ?b (evd_var rfl Of8) rd_niIL)
          case a => wtm_at "et"
          case b => wtm_at "ev"
        · wtm_at "ev"
      wtm_at "nx"
      have Of7 := Of.step e7
      have Oq7 := Oq.step e7
      have l2 := freeTo_len ps f i
      refine' s_if (b := !decide ((i : Int) ∈ f) && decide (aheadF ps f i = [])) ?t ?yes ?no
      case t =>
        have Of7r : Rp H7 (iL f) (.ref pf) := Of7.rp
        refine' et_and (ett (evd_op ?b (evd_var rfl Of7r) rd_niIL)) fun _ => ett (evd_op (evd_var rfl r7) (EvN.toD (evn_lst evs_nil (by decide))) (rd_eqIL (b := [])))
        case b => wtm_at "ev"
      case no =>
        intro hb2 H8 e8
        refine ⟨⟨_, _, rfl⟩, by omega, Of7.step e8, ?_⟩
        rw [freeTo_succ, if_neg (by rw [hb2]; exact Bool.false_ne_true), List.append_nil]
        exact Oq7.step e8
      case yes =>
        intro hb2 H8 e8
        have Oq8 := Oq7.step e8
        refine' s_appO (d := .int i) Oq8 rfl ?x rfl ?sz fun H9 x9 o9 => ?_
        case x => wtm_at "ev"
        case sz =>
          rw [List.length_map]
          omega
        obtain ⟨_, zq, _⟩ := Oq8.has
        refine ⟨⟨_, _, rfl⟩, by omega, (Of7.step e8).other x9 npq Oq8.new zq, ?_⟩
        rw [freeTo_succ, if_pos hb2, List.map_append]
        exact o9
    · rintro σ' H' ⟨⟨y4, y5, rfl⟩, _, Of, Oq⟩
      wtm_at "nx"
      have hfr : freeTo ps f m.toNat = freeF m ps f := rfl
      rw [hfr] at Oq
      have Oqr : Rp H' (iL (freeF m ps f)) (.ref pq) := Oq.rp
      refine' s_if (b := decide (freeF m ps f = [])) ?t ?yes ?no
      case t => exact ett (evd_op (evd_var rfl Oqr) (EvN.toD (evn_lst evs_nil (by decide))) (rd_eqIL (b := [])))
      case yes =>
        intro hb2 H7 e7
        have hb3 : freeF m ps f = [] := by simpa using hb2
        unfold foGo at hgo
        rw [hb3] at hgo
        rw [← hgo] at q
        exact s_retD evd_non fun v H8 e8 r => q v H8 ((Of.ex.trans e7).trans e8) r
      case no =>
        intro hb2 H7 e7
        wtm_at "nx"
        have hb3 : ¬ freeF m ps f = [] := by simpa using hb2
        obtain ⟨t, rest, ht⟩ : ∃ t rest, freeF m ps f = t :: rest := by
          cases hf : freeF m ps f with
          | nil => exact absurd hf hb3
          | cons t rest => exact ⟨t, rest, rfl⟩
        unfold foGo at hgo
        rw [ht] at hgo
        have Oqr7 := Oqr.ex e7
        rw [ht] at Oqr7
        refine' s_appO (d := .int t) (Of.step e7) rfl (evd_op (evd_var rfl Oqr7) evd_int (rd_ixL (atI_nat (j := 0) rfl))) rfl ?sz fun H9 x9 o9 => ?_
        case sz =>
          rw [List.length_map]
          omega
        refine ⟨f ++ [t], _, _, _, rfl, ?_, hgo, by rw [List.length_append]; show f.length + 1 + k' = _; omega⟩
        rw [List.map_append]
        exact o9
  · have hb' : ¬ (f.length : Int) < m := by simpa using hb
    wtm_at "nx"
    obtain rfl : k = 0 := by omega
    have O4 := O.step e4
    rw [← hgo] at q
    exact s_retD (d := iD f) (evd_cb (evs_cons (evd_var rfl O4.rp) evs_nil) cd_tupL) fun v H5 e5 r => q v H5 (O4.ex.trans e5) r
end
theorem ev_first_order {σ : L2.St} {H : Hp} {t0 t1 : TE} {E : XK} {m : Int} {ps : List (Int × Int)} (h0 : EvD t0 σ H (.int m)) (h1 : EvD t1 σ H (wD ps)) (c : 0 ≤ m ∧ m ≤ 6) (hl : ps.length ≤ 1000) :
    EvD (tCall sp_first_order [] E (tCons t0 (tCons t1 tNil))) σ H (ordD (foF m ps)) := evd_callO (m, ps) (evs_cons h0 (evs_cons h1 evs_nil)) ⟨c, hl⟩ rfl
def sp_ordered (C1 C3 : Addr) : Sp := spO (α := Int × List (Int × Int)) (fun a => [.int a.1, wD a.2]) (fun a => a.2.length ≤ 1000) fun a => chkW C1 C3 a.1 a.2 (.val (ordD (foF a.1 a.2)))
theorem len_ordered {C_BadCount : Addr} {C_BadWeb : Addr} (vs : List V) (H : Hp) (Q : VK) (E : XK) (h : (sp_ordered C_BadCount C_BadWeb) vs H Q E) : vs.length = 2 := by
  unfold sp_ordered at h
  obtain ⟨a, r, _⟩ := h
  rw [r.len]
  rfl
section
variable {P : Program} {w : World} {K : PySem.W.Frag} {mg : Str → Option Value} {base : Heap}
theorem ok_ordered {f : Addr} {fd : FuncData} (D : Df K mg "ordered" s_ordered ["many", "web"] f fd) (Bi : Bi mg) {f_look_at_web : Addr} {fd_look_at_web : FuncData} (D_look_at_web : Df K mg "look_at_web" s_look_at_web ["many", "web"] f_look_at_web fd_look_at_web) (G_look_at_web : FnOk P w K mg base (L2.CX P w) 2 f_look_at_web fd_look_at_web ["many", "web"] (sp_look_at_web C_BadCount C_BadWeb)) {f_first_order : Addr} {fd_first_order : FuncData} (D_first_order : Df K mg "first_order" s_first_order ["many", "web"] f_first_order fd_first_order) (G_first_order : FnOk P w K mg base CX0 1 f_first_order fd_first_order ["many", "web"] sp_first_order) : FnOk P w K mg base (L2.CX P w) 3 f fd ["many", "web"] (sp_ordered C_BadCount C_BadWeb) := by
  refine D.F.okX c_ordered (fun vs H Q E h => len_ordered _ _ _ _ h) (fun cdv A outer s H vs Q E hr h => ?_)
  refine ⟨_, (pss_cons (ps_expr (pe_callS G_look_at_web (hr.mono (by decide)) (by rfl) D_look_at_web.g D_look_at_web.F.kp D_look_at_web.b (fun σ => passAt (takes_of rfl rfl rfl rfl) σ) (pa_cons (pv 0) (pa_cons (pv 1) pa_nil))))
      (pss_one (ps_ret (pe_call G_first_order (hr.mono (by decide)) (by rfl) D_first_order.g D_first_order.F.kp D_first_order.b .nil pass0 (pa_cons (pv 0) (pa_cons (pv 1) pa_nil)))))), ?_⟩
  obtain ⟨⟨m, ps⟩, ⟨v1, _, rfl, rfl, v2, _, rfl, hv, rfl⟩, hl, q⟩ := h
  dsimp only at q hv hl
  refine s_callX (m, ps) ?a hl fun H1 e1 => chkW_go q e1 fun h1 h2 q H2 e2 => ?_
  case a => wtm_at "es"
  wtm_at "nx"
  have e12 := e1.trans e2
  have hm : 1 ≤ m ∧ m ≤ 6 := h1
  exact s_retD (ev_first_order (evd_var rfl rp_int) (evd_var rfl (hv.ex e12)) (by omega) hl) fun v H3 e3 r => q v H3 (e12.trans e3) r
end
theorem ev_ordered {C1 C3 : Addr} {σ : L2.St} {H : Hp} {t0 t1 : TE} {E : XK} {m : Int} {ps : List (Int × Int)} (h0 : EvD t0 σ H (.int m)) (h1 : EvD t1 σ H (wD ps)) (c : okCount m) (p : isWeb m ps) (l : ps.length ≤ 1000) :
    EvD (tCall (sp_ordered C1 C3) [] E (tCons t0 (tCons t1 tNil))) σ H (ordD (foF m ps)) := evd_callO (m, ps) (evs_cons h0 (evs_cons h1 evs_nil)) l (chkW_ok c p)
def sp_keeps (C1 C3 : Addr) : Sp := spO (α := Int × List (Int × Int) × List Int) (fun a => [.int a.1, wD a.2.1, iD a.2.2]) (fun a => a.2.1.length ≤ 1000 ∧ (okCount a.1 → isWeb a.1 a.2.1 → isOrd a.1 a.2.2)) fun a => chkW C1 C3 a.1 a.2.1 (.val (.bool (keepsF a.2.1 a.2.2)))
theorem len_keeps {C_BadCount : Addr} {C_BadWeb : Addr} (vs : List V) (H : Hp) (Q : VK) (E : XK) (h : (sp_keeps C_BadCount C_BadWeb) vs H Q E) : vs.length = 3 := by
  unfold sp_keeps at h
  obtain ⟨a, r, _⟩ := h
  rw [r.len]
  rfl
section
variable {P : Program} {w : World} {K : PySem.W.Frag} {mg : Str → Option Value} {base : Heap}
theorem ok_keeps {f : Addr} {fd : FuncData} (D : Df K mg "keeps" s_keeps ["many", "web", "order"] f fd) (Bi : Bi mg) {f_look_at_web : Addr} {fd_look_at_web : FuncData} (D_look_at_web : Df K mg "look_at_web" s_look_at_web ["many", "web"] f_look_at_web fd_look_at_web) (G_look_at_web : FnOk P w K mg base (L2.CX P w) 2 f_look_at_web fd_look_at_web ["many", "web"] (sp_look_at_web C_BadCount C_BadWeb)) : FnOk P w K mg base (L2.CX P w) 3 f fd ["many", "web", "order"] (sp_keeps C_BadCount C_BadWeb) := by
  refine D.F.okX c_keeps (fun vs H Q E h => len_keeps _ _ _ _ h) (fun cdv A outer s H vs Q E hr h => ?_)
  refine ⟨_, (pss_cons (ps_expr (pe_callS G_look_at_web (hr.mono (by decide)) (by rfl) D_look_at_web.g D_look_at_web.F.kp D_look_at_web.b (fun σ => passAt (takes_of rfl rfl rfl rfl) σ) (pa_cons (pv 0) (pa_cons (pv 1) pa_nil))))
      (pss_cons (ps_for (passes_of rfl) rfl (pi_listK (K := K) (pv 1)) (pg_tupK (K := K) rfl (pgs_cons (pg_name (i := 3) c_keeps.nd rfl (.inl rfl)) (pgs_cons (pg_name (i := 4) c_keeps.nd rfl (.inl rfl)) pgs_nil)))
      (pss_one (ps_if (pt_cmpR op_gtI (pe_tm PySem.F.plainAttrs_tuple PySem.F.slot_tuple_index PySem.F.type_tuple_index (mt_tupIxK (K := K)) (pv 2) (pa_cons (pv 3) pa_nil)) (pe_tm PySem.F.plainAttrs_tuple PySem.F.slot_tuple_index PySem.F.type_tuple_index (mt_tupIxK (K := K)) (pv 2) (pa_cons (pv 4) pa_nil)) (nomark _))
      (pss_one (ps_ret pe_bl))
      pss_nil)))
      (pss_one (ps_ret pe_bl)))), ?_⟩
  obtain ⟨⟨m, ps, u⟩, ⟨v1, _, rfl, rfl, v2, _, rfl, hv, v3, _, rfl, hu, rfl⟩, ⟨hl, ho⟩, q⟩ := h
  dsimp only at q hv hu hl ho
  refine s_callX (m, ps) ?a hl fun H1 e1 => chkW_go q e1 fun h1 h2 q H2 e2 => ?_
  case a => wtm_at "es"
  wtm_at "nx"
  have e12 := e1.trans e2
  have ho := ho h1 h2
  refine s_forB (f := pD) (xs := ps) (Hb := H) rfl hv e12 (fun i σ' H' => (∃ y z, σ' = [some (.int m), some v2, some v3, y, z]) ∧ Ex H H' ∧ ∀ p ∈ ps.take i, ixOf p.1 u ≤ ixOf p.2 u) ?_ ?_ ?_ ?_
  · exact ⟨⟨none, none, rfl⟩, e12, fun p hp => by simp at hp⟩
  · rintro i σ' H' ⟨_, e, _⟩
    exact e
  · rintro i x v σ' H' hx hr ⟨⟨y, z, rfl⟩, e, hk⟩
    refine g_pair hr ?_
    have hm := List.mem_of_getElem? hx
    have hg := h2.good hm
    have hu' : Rp H' (iD u) v3 := hu.ex e
    refine' s_if (b := decide ((ixOf x.2 u : Int) < (ixOf x.1 u : Int))) ?t ?yes ?no
    case t =>
      refine' ett (evd_op (evd_tix (evd_var rfl hu') ?a (ho.mem.mpr (by omega))) (evd_tix (evd_var rfl hu') ?b (ho.mem.mpr (by omega))) rd_gtI)
      case a => wtm_at "ev"
      case b => wtm_at "ev"
    case yes =>
      intro hb H5 e5
      have hf : keepsF ps u = false := decide_eq_false fun z => by
        have := z x hm
        have hb : (ixOf x.2 u : Int) < (ixOf x.1 u : Int) := by simpa using hb
        omega
      rw [hf] at q
      exact s_retD evd_bl fun v H6 e6 r => q v H6 ((e.trans e5).trans e6) r
    case no =>
      intro hb H5 e5
      refine ⟨⟨_, _, rfl⟩, e.trans e5, fun p hp => ?_⟩
      rw [List.take_add_one, hx] at hp
      rcases List.mem_append.mp hp with hp | hp
      · exact hk p hp
      · have : p = x := by simpa using hp
        rw [this]
        have hb : ¬ (ixOf x.2 u : Int) < (ixOf x.1 u : Int) := by simpa using hb
        omega
  · rintro σ' H' ⟨⟨y, z, rfl⟩, e, hk⟩
    rw [List.take_length] at hk
    have hf : keepsF ps u = true := decide_eq_true hk
    rw [hf] at q
    wtm_at "nx"
    exact s_retD evd_bl fun v H6 e6 r => q v H6 (e.trans e6) r
end
theorem ev_keeps {C1 C3 : Addr} {σ : L2.St} {H : Hp} {t0 t1 t2 : TE} {E : XK} {m : Int} {ps : List (Int × Int)} {u : List Int} (h0 : EvD t0 σ H (.int m)) (h1 : EvD t1 σ H (wD ps)) (h2 : EvD t2 σ H (iD u)) (c : okCount m) (p : isWeb m ps) (l : ps.length ≤ 1000) (o : isOrd m u) :
    EvD (tCall (sp_keeps C1 C3) [] E (tCons t0 (tCons t1 (tCons t2 tNil)))) σ H (.bool (keepsF ps u)) := evd_callO (m, ps, u) (evs_cons h0 (evs_cons h1 (evs_cons h2 evs_nil))) ⟨l, fun _ _ => o⟩ (chkW_ok c p)
end Bm

namespace Bm
open PySem PySem.Spec PyProof.Rows L2 Evl
local macro_rules | `(tactic| wtm_at "rp") => `(tactic| first | exact rp_int | exact rp_bl | exact rp_str | exact rp_non | assumption | (refine' Rp.ex ?e ?h; (case h => assumption); (case e => assumption)) | exact Own.rp (by assumption))
local macro_rules | `(tactic| wtm_at "side") => `(tactic| first | assumption | omega | decide | rfl | exact ⟨by omega, by omega⟩)
local macro_rules | `(tactic| wtm_at "es") => `(tactic| first | exact evs_nil | (refine' evs_cons ?a ?b; (case a => wtm_at "ev"); (case b => wtm_at "es")))
local macro_rules | `(tactic| wtm_at "ev") => `(tactic| first
  | exact evd_int | exact evd_str | exact evd_bl | exact evd_non
  | (refine' evd_var rfl ?h; (case h => wtm_at "rp"))
  | ((with_reducible refine' evd_op ?a ?b rd_addI); (case a => wtm_at "ev"); (case b => wtm_at "ev"))
  | ((with_reducible refine' evd_op ?a ?b rd_subI); (case a => wtm_at "ev"); (case b => wtm_at "ev"))
  | ((with_reducible refine' evd_op ?a ?b (rd_mulI ?c)); (case a => wtm_at "ev"); (case b => wtm_at "ev"); (case c => wtm_at "side"))
  | ((with_reducible refine' evd_op ?a ?b (rd_divI ?c)); (case a => wtm_at "ev"); (case b => wtm_at "ev"); (case c => wtm_at "side"))
  | ((with_reducible refine' evd_op ?a ?b (rd_modI ?c)); (case a => wtm_at "ev"); (case b => wtm_at "ev"); (case c => wtm_at "side"))
  | ((with_reducible refine' evd_op ?a ?b rd_ltI); (case a => wtm_at "ev"); (case b => wtm_at "ev"))
  | ((with_reducible refine' evd_op ?a ?b rd_leI); (case a => wtm_at "ev"); (case b => wtm_at "ev"))
  | ((with_reducible refine' evd_op ?a ?b rd_gtI); (case a => wtm_at "ev"); (case b => wtm_at "ev"))
  | ((with_reducible refine' evd_op ?a ?b rd_geI); (case a => wtm_at "ev"); (case b => wtm_at "ev"))
  | ((with_reducible refine' evd_op ?a ?b rd_eqI); (case a => wtm_at "ev"); (case b => wtm_at "ev"))
  | ((with_reducible refine' evd_op ?a ?b rd_neI); (case a => wtm_at "ev"); (case b => wtm_at "ev"))
  | ((with_reducible refine' evd_op ?a ?b rd_eqB); (case a => wtm_at "ev"); (case b => wtm_at "ev"))
  | ((with_reducible refine' evd_op ?a ?b rd_neB); (case a => wtm_at "ev"); (case b => wtm_at "ev"))
  | ((with_reducible refine' evd_op ?a ?b rd_isNo); (case a => wtm_at "ev"); (case b => wtm_at "ev"))
  | ((with_reducible refine' evd_op ?a ?b rd_notNo); (case a => wtm_at "ev"); (case b => wtm_at "ev"))
  | ((with_reducible refine' evd_op ?a ?b rd_inIL); (case a => wtm_at "ev"); (case b => wtm_at "ev"))
  | ((with_reducible refine' evd_op ?a ?b rd_niIL); (case a => wtm_at "ev"); (case b => wtm_at "ev"))
  | ((with_reducible refine' evd_op ?a ?b rd_inID); (case a => wtm_at "ev"); (case b => wtm_at "ev"))
  | ((with_reducible refine' evd_op ?a ?b rd_niID); (case a => wtm_at "ev"); (case b => wtm_at "ev"))
  | ((with_reducible refine' evd_neg ?a); (case a => wtm_at "ev"))
  | ((with_reducible refine' evd_tix ?a ?b ?c); (case a => wtm_at "ev"); (case b => wtm_at "ev"); (case c => wtm_at "side"))
  | ((with_reducible refine' evd_tup ?a ?b); (case a => wtm_at "es"); (case b => exact Nat.le_of_ble_eq_true rfl))
  | ((with_reducible refine' evd_cb ?a cd_lenL); (case a => wtm_at "es"))
  | ((with_reducible refine' evd_cb ?a cd_lenT); (case a => wtm_at "es"))
  | ((with_reducible refine' evd_cb ?a cd_intB); (case a => wtm_at "es"))
  | ((with_reducible refine' evd_cb ?a cd_tupL); (case a => wtm_at "es"))
  | ((with_reducible refine' evd_and ?a ?b); (case a => wtm_at "ev"); (case b => intro _; wtm_at "ev"))
  | ((with_reducible refine' evd_or ?a ?b); (case a => wtm_at "ev"); (case b => intro _; wtm_at "ev"))
  | ((with_reducible refine' evd_not ?a); (case a => wtm_at "ev"))
  | ((with_reducible refine' evd_op ?a ?b rd_neIL); (case a => wtm_at "ev"); (case b => wtm_at "ev"))
  | ((with_reducible refine' evd_op ?a ?b rd_eqIL); (case a => wtm_at "ev"); (case b => wtm_at "ev"))
  | ((with_reducible refine' EvN.toD ?a); (case a => wtm_at "en")))
local macro_rules | `(tactic| wtm_at "en") => `(tactic| first
  | ((with_reducible refine' evn_cb ?a cn_sortTI); (case a => wtm_at "es"))
  | ((with_reducible refine' evn_cb ?a cn_listL); (case a => wtm_at "es"))
  | ((with_reducible refine' evn_cb ?a cn_listT); (case a => wtm_at "es"))
  | ((with_reducible refine' evn_rng ?a ?b); (case a => wtm_at "ev"); (case b => wtm_at "side"))
  | ((with_reducible refine' evn_lst ?a ?b); (case a => wtm_at "es"); (case b => exact Nat.le_of_ble_eq_true rfl))
  | ((with_reducible refine' evn_cat ?a ?b ?c); (case a => wtm_at "ev"); (case b => wtm_at "ev"); (case c => wtm_at "side"))
  | ((with_reducible refine' evn_slL ?a ?b ?c); (case a => wtm_at "ev"); (case b => first | exact evp_none | (refine' evp_some ?d; (case d => wtm_at "ev"))); (case c => first | exact evp_none | (refine' evp_some ?d; (case d => wtm_at "ev")))))
local macro_rules | `(tactic| wtm_at "et") => `(tactic| first
  | exact et_yes
  | (refine' ett ?a; (case a => wtm_at "ev"))
  | (refine' etB ?a; (case a => wtm_at "ev"))
  | (refine' et_and ?a ?b; (case a => wtm_at "et"); (case b => intro _; wtm_at "et"))
  | (refine' et_or ?a ?b; (case a => wtm_at "et"); (case b => intro _; wtm_at "et"))
  | (refine' et_not ?a; (case a => wtm_at "et")))
local macro_rules | `(tactic| wtm_at "nx") => `(tactic| try dsimp only [tSeq, tNext])
/-! ### two_for, makers, make, makes -/
def sp_two_for : Sp := spO (α := Int × Int × Int) (fun a => [.int a.1, .int a.2.1, .int a.2.2]) (fun a => 0 ≤ a.1 ∧ a.1 ≤ 6) fun a => .new ((twoF a.1 (a.2.1, a.2.2)).map iD)
theorem len_two_for (vs : List V) (H : Hp) (Q : VK) (E : XK) (h : sp_two_for vs H Q E) : vs.length = 3 := by
  unfold sp_two_for at h
  obtain ⟨a, r, _⟩ := h
  rw [r.len]
  rfl
theorem restF_len (m a b : Int) : (restF m a b).length ≤ m.toNat := by
  unfold restF
  exact Nat.le_trans (List.length_filter_le _ _) (by rw [rgI_len]; exact Nat.le_refl _)
section
variable {P : Program} {w : World} {K : PySem.W.Frag} {mg : Str → Option Value} {base : Heap}
theorem ok_two_for {f : Addr} {fd : FuncData} (D : Df K mg "two_for" s_two_for ["many", "one", "other"] f fd) (Bi : Bi mg) : FnOk P w K mg base CX0 1 f fd ["many", "one", "other"] sp_two_for := by
  refine D.F.ok c_two_for (fun vs H Q E h => len_two_for _ _ _ _ h) (fun cdv A outer s H vs Q E hr h => ?_)
  refine ⟨_, (pss_cons (ps_setLc (i := 3) (own := [("thing", 4)]) (g := (gName 4)) rfl c_two_for.nd rfl rfl (sw_true rfl rfl rfl (by decide +kernel)) (pi_range1 (by rfl) Bi.range (pa_cons (pv 0) pa_nil)) (blkOk_by (own := [("thing", 4)]) (N := ["many", "one", "other", "rest", "thing"]) (sc := defScope s_two_for) (by decide +kernel)) (fun _ _ _ _ _ => (pg_name (i := 4) c_two_for.nd rfl (.inl rfl))) (fun _ _ _ _ _ => pts_one (PW.pt (pw_and (pt_cmpR op_neI (pv 4) (pv 1) (nomark _)) (pw_and1 (pt_cmpR op_neI (pv 4) (pv 2) (nomark _)))))) (fun _ _ _ _ _ => (pv 4)))
      (pss_one (ps_ret (pe_lst (pa_cons (pe_op (op_catFK (K := K)) (pe_tupF (pa_cons (pv 1) (pa_cons (pv 2) pa_nil))) (pe_callTy (cr_tupLK (K := K)) (by rfl) Bi.tuple (by decide +kernel) (pa_cons (pv 3) pa_nil))) (pa_cons (pe_op (op_catFK (K := K)) (pe_tupRevF rfl (by rfl) Bi.tuple (by rfl) Bi.reversed (pv 3)) (pe_tupF (pa_cons (pv 1) (pa_cons (pv 2) pa_nil)))) pa_nil)))))), ?_⟩
  obtain ⟨⟨m, a, b⟩, ⟨v1, _, rfl, rfl, v2, _, rfl, rfl, v3, _, rfl, rfl, rfl⟩, ⟨m0, m6⟩, q⟩ := h
  dsimp only at q m0 m6
  have hl := restF_len m a b
  refine' s_asgO (ds := (restF m a b).map .int) ?x (imm_ints _) fun p H1 e1 o1 => ?_
  case x =>
    unfold restF
    refine' evn_lcR (n := m) (fun t => !decide (t = a) && !decide (t = b)) (fun t => .int t) ?es (by omega) ?turn ?imm
    case es => wtm_at "es"
    case imm => intros; rfl
    case turn =>
      intro x H5 x0 x1 e5
      refine ⟨_, fun Q hq => hq, rfl, ?_, fun _ => ?_⟩
      · wtm_at "et"
      · wtm_at "ev"
  wtm_at "nx"
  have hr := o1.rp
  refine' s_retNw (ds := (twoF m (a, b)).map iD) ?r fun p2 ws H3 hn e3 k1 k2 => q p2 ws H3 (fresh_back e1 hn) (e1.trans e3) k1 k2
  case r =>
    rw [show (twoF m (a, b)).map iD = [.tuple ([.int a, .int b] ++ (restF m a b).map .int), .tuple (((restF m a b).map .int).reverse ++ [.int a, .int b])] by
      unfold twoF iD
      simp]
    refine' evn_lst (evs_cons (evd_catT ?a (evd_cb (evs_cons (evd_var rfl hr) evs_nil) cd_tupL) ?c) (evs_cons (evd_catT (evd_revL (evd_var rfl hr) ?d) ?e ?f) evs_nil)) (Nat.le_of_ble_eq_true rfl)
    case a => wtm_at "ev"
    case e => wtm_at "ev"
    case c =>
      rw [List.length_map]
      show 2 + _ ≤ _
      omega
    case d =>
      rw [List.length_map]
      omega
    case f =>
      rw [List.length_reverse, List.length_map]
      show _ + 2 ≤ _
      omega
end
theorem ev_two_for {σ : L2.St} {H : Hp} {t0 t1 t2 : TE} {E : XK} {m a b : Int} (h0 : EvD t0 σ H (.int m)) (h1 : EvD t1 σ H (.int a)) (h2 : EvD t2 σ H (.int b)) (c : 0 ≤ m ∧ m ≤ 6) :
    EvN (tCall sp_two_for [] E (tCons t0 (tCons t1 (tCons t2 tNil)))) σ H ((twoF m (a, b)).map iD) := evn_callO (m, a, b) (evs_cons h0 (evs_cons h1 (evs_cons h2 evs_nil))) c rfl
def sp_makers (C1 C3 : Addr) : Sp := spO (α := Int × List (Int × Int)) (fun a => [.int a.1, wD a.2]) (fun a => a.2.length ≤ 1000) fun a => chkW C1 C3 a.1 a.2 (.new ((dueF a.1 a.2).map iD))
theorem len_makers {C_BadCount : Addr} {C_BadWeb : Addr} (vs : List V) (H : Hp) (Q : VK) (E : XK) (h : (sp_makers C_BadCount C_BadWeb) vs H Q E) : vs.length = 2 := by
  unfold sp_makers at h
  obtain ⟨a, r, _⟩ := h
  rw [r.len]
  rfl
section
variable {P : Program} {w : World} {K : PySem.W.Frag} {mg : Str → Option Value} {base : Heap}
theorem ok_makers {f : Addr} {fd : FuncData} (D : Df K mg "makers" s_makers ["many", "web"] f fd) (Bi : Bi mg) {f_look_at_web : Addr} {fd_look_at_web : FuncData} (D_look_at_web : Df K mg "look_at_web" s_look_at_web ["many", "web"] f_look_at_web fd_look_at_web) (G_look_at_web : FnOk P w K mg base (L2.CX P w) 2 f_look_at_web fd_look_at_web ["many", "web"] (sp_look_at_web C_BadCount C_BadWeb)) {f_two_for : Addr} {fd_two_for : FuncData} (D_two_for : Df K mg "two_for" s_two_for ["many", "one", "other"] f_two_for fd_two_for) (G_two_for : FnOk P w K mg base CX0 1 f_two_for fd_two_for ["many", "one", "other"] sp_two_for) : FnOk P w K mg base (L2.CX P w) 3 f fd ["many", "web"] (sp_makers C_BadCount C_BadWeb) := by
  refine D.F.okX c_makers (fun vs H Q E h => len_makers _ _ _ _ h) (fun cdv A outer s H vs Q E hr h => ?_)
  refine ⟨_, (pss_cons (ps_expr (pe_callS G_look_at_web (hr.mono (by decide)) (by rfl) D_look_at_web.g D_look_at_web.F.kp D_look_at_web.b (fun σ => passAt (takes_of rfl rfl rfl rfl) σ) (pa_cons (pv 0) (pa_cons (pv 1) pa_nil))))
      (pss_cons (ps_set (i := 2) c_makers.nd rfl (.inl rfl) (pe_lst pa_nil))
      (pss_cons (ps_for (passes_of rfl) rfl (pi_listK (K := K) (pv 1)) (pg_tupK (K := K) rfl (pgs_cons (pg_name (i := 3) c_makers.nd rfl (.inl rfl)) (pgs_cons (pg_name (i := 4) c_makers.nd rfl (.inl rfl)) pgs_nil)))
      (pss_one (ps_expr (pe_bm PySem.F.plainAttrs_list PySem.F.slot_list_extend PySem.F.type_list_extend mt_extend (pv 2) (pa_cons (pe_call G_two_for (hr.mono (by decide)) (by rfl) D_two_for.g D_two_for.F.kp D_two_for.b .nil pass0 (pa_cons (pv 0) (pa_cons (pv 3) (pa_cons (pv 4) pa_nil)))) pa_nil)))))
      (pss_one (ps_ret (pv 2)))))), ?_⟩
  obtain ⟨⟨m, ps⟩, ⟨v1, _, rfl, rfl, v2, _, rfl, hv, rfl⟩, hl, q⟩ := h
  dsimp only at q hv hl
  refine s_callX (m, ps) ?a hl fun H1 e1 => chkW_go q e1 fun h1 h2 q H2 e2 => ?_
  case a => wtm_at "es"
  wtm_at "nx"
  have e12 := e1.trans e2
  have hm : 1 ≤ m ∧ m ≤ 6 := h1
  refine' s_asgO (evn_lst evs_nil (by decide)) rfl fun p H3 e3 o3 => ?_
  wtm_at "nx"
  have o3 := o3.lower e12
  refine s_forB (f := pD) (xs := ps) (Hb := H) rfl hv (e12.trans e3) (fun i σ' H' => (∃ y z, σ' = [some (.int m), some v2, some (.ref p), y, z]) ∧ Own H H' p ((dueF m (ps.take i)).map iD)) ?_ ?_ ?_ ?_
  · exact ⟨⟨none, none, rfl⟩, o3⟩
  · rintro i σ' H' ⟨_, o⟩
    exact o.ex
  · rintro i x v σ' H' hx hr ⟨⟨y, z, rfl⟩, o⟩
    refine g_pair hr ?_
    have hi : i < ps.length := (List.getElem?_eq_some_iff.mp hx).1
    refine' s_extO o rfl (es := (twoF m x).map iD) (ev_two_for (a := x.1) (b := x.2) ?a ?b ?c (by omega)) (imm_vD _) ?sz fun H5 x5 o5 => ?_
    case a => wtm_at "ev"
    case b => wtm_at "ev"
    case c => wtm_at "ev"
    case sz =>
      rw [List.length_map, List.length_map, dueF_len, List.length_take]
      show _ + 2 ≤ _
      omega
    rw [← List.map_append, ← dueF_take hx] at o5
    exact ⟨⟨_, _, rfl⟩, o5⟩
  · rintro σ' H' ⟨⟨y, z, rfl⟩, o⟩
    rw [List.take_length] at o
    obtain ⟨ws, k1, k2⟩ := o.has
    exact ⟨_, rfl, q p ws H' o.new o.ex k1 k2⟩
end
theorem ev_makers {C1 C3 : Addr} {σ : L2.St} {H : Hp} {t0 t1 : TE} {E : XK} {m : Int} {ps : List (Int × Int)} (h0 : EvD t0 σ H (.int m)) (h1 : EvD t1 σ H (wD ps)) (c : okCount m) (p : isWeb m ps) (l : ps.length ≤ 1000) :
    EvN (tCall (sp_makers C1 C3) [] E (tCons t0 (tCons t1 tNil))) σ H ((dueF m ps).map iD) := evn_callO (m, ps) (evs_cons h0 (evs_cons h1 evs_nil)) l (chkW_ok c p)
def makeF (m : Int) (vs : List (List Int)) (ps : List (Int × Int)) : Bool := decide (beatsF m vs = srtW ps)
def sp_make : Sp := spO (α := Int × List (List Int) × List (Int × Int)) (fun a => [.int a.1, vD a.2.1, wD a.2.2]) (fun a => (0 ≤ a.1 ∧ a.1 ≤ 6) ∧ isVot a.1 a.2.1 ∧ a.2.2.length < 64 ∧ ∀ p ∈ a.2.2, bdP p) fun a => .val (.bool (makeF a.1 a.2.1 a.2.2))
theorem len_make (vs : List V) (H : Hp) (Q : VK) (E : XK) (h : sp_make vs H Q E) : vs.length = 3 := by
  unfold sp_make at h
  obtain ⟨a, r, _⟩ := h
  rw [r.len]
  rfl
section
variable {P : Program} {w : World} {K : PySem.W.Frag} {mg : Str → Option Value} {base : Heap}
theorem ok_make {f : Addr} {fd : FuncData} (D : Df K mg "make" s_make ["many", "voters", "web"] f fd) (Bi : Bi mg) {f_beats_of : Addr} {fd_beats_of : FuncData} (D_beats_of : Df K mg "beats_of" s_beats_of ["many", "voters"] f_beats_of fd_beats_of) (G_beats_of : FnOk P w K mg base CX0 2 f_beats_of fd_beats_of ["many", "voters"] sp_beats_of) : FnOk P w K mg base CX0 3 f fd ["many", "voters", "web"] sp_make := by
  refine D.F.ok c_make (fun vs H Q E h => len_make _ _ _ _ h) (fun cdv A outer s H vs Q E hr h => ?_)
  refine ⟨_, (pss_one (ps_ret (pe_cmpR (op_eqDK (K := K) hr.units) (pe_call G_beats_of (hr.mono (by decide)) (by rfl) D_beats_of.g D_beats_of.F.kp D_beats_of.b .nil pass0 (pa_cons (pv 0) (pa_cons (pv 1) pa_nil))) (pe_callB (cr_sortedWK (K := K)) (by rfl) Bi.sorted (by decide +kernel) (pa_cons (pv 2) pa_nil)) (nomark _)))), ?_⟩
  obtain ⟨⟨m, vss, ps⟩, ⟨v1, _, rfl, rfl, v2, _, rfl, hv, v3, _, rfl, hw, rfl⟩, ⟨hm, hp, hl, hb⟩, q⟩ := h
  dsimp only at q hv hw hm hp hl hb
  refine s_retD (d := .bool (makeF m vss ps)) (evd_op (ev_beats_of (m := m) (vss := vss) (evd_var rfl rp_int) (evd_var rfl hv) hm hp).toD (evn_cb (evs_cons (evd_var rfl hw) evs_nil) (cn_sortW hl hb)).toD rd_eqW) q
end
theorem ev_make {σ : L2.St} {H : Hp} {t0 t1 t2 : TE} {E : XK} {m : Int} {vss : List (List Int)} {ps : List (Int × Int)} (h0 : EvD t0 σ H (.int m)) (h1 : EvD t1 σ H (vD vss)) (h2 : EvD t2 σ H (wD ps)) (c : 0 ≤ m ∧ m ≤ 6) (p : isVot m vss) (l : ps.length < 64) (b : ∀ p ∈ ps, bdP p) :
    EvD (tCall sp_make [] E (tCons t0 (tCons t1 (tCons t2 tNil)))) σ H (.bool (makeF m vss ps)) := evd_callO (m, vss, ps) (evs_cons h0 (evs_cons h1 (evs_cons h2 evs_nil))) ⟨c, p, l, b⟩ rfl
def sp_makes (C1 C2 C3 : Addr) : Sp := spO (α := Int × List (List Int) × List (Int × Int)) (fun a => [.int a.1, vD a.2.1, wD a.2.2]) (fun a => a.2.2.length < 64) fun a => chkV C1 C2 a.1 a.2.1 (chkW C1 C3 a.1 a.2.2 (.val (.bool (makeF a.1 a.2.1 a.2.2))))
theorem len_makes {C_BadCount : Addr} {C_BadVoter : Addr} {C_BadWeb : Addr} (vs : List V) (H : Hp) (Q : VK) (E : XK) (h : (sp_makes C_BadCount C_BadVoter C_BadWeb) vs H Q E) : vs.length = 3 := by
  unfold sp_makes at h
  obtain ⟨a, r, _⟩ := h
  rw [r.len]
  rfl
section
variable {P : Program} {w : World} {K : PySem.W.Frag} {mg : Str → Option Value} {base : Heap}
theorem ok_makes {f : Addr} {fd : FuncData} (D : Df K mg "makes" s_makes ["many", "voters", "web"] f fd) (Bi : Bi mg) {f_look_at_voters : Addr} {fd_look_at_voters : FuncData} (D_look_at_voters : Df K mg "look_at_voters" s_look_at_voters ["many", "voters"] f_look_at_voters fd_look_at_voters) (G_look_at_voters : FnOk P w K mg base (L2.CX P w) 2 f_look_at_voters fd_look_at_voters ["many", "voters"] (sp_look_at_voters C_BadCount C_BadVoter)) {f_look_at_web : Addr} {fd_look_at_web : FuncData} (D_look_at_web : Df K mg "look_at_web" s_look_at_web ["many", "web"] f_look_at_web fd_look_at_web) (G_look_at_web : FnOk P w K mg base (L2.CX P w) 2 f_look_at_web fd_look_at_web ["many", "web"] (sp_look_at_web C_BadCount C_BadWeb)) {f_make : Addr} {fd_make : FuncData} (D_make : Df K mg "make" s_make ["many", "voters", "web"] f_make fd_make) (G_make : FnOk P w K mg base CX0 3 f_make fd_make ["many", "voters", "web"] sp_make) : FnOk P w K mg base (L2.CX P w) 4 f fd ["many", "voters", "web"] (sp_makes C_BadCount C_BadVoter C_BadWeb) := by
  refine D.F.okX c_makes (fun vs H Q E h => len_makes _ _ _ _ h) (fun cdv A outer s H vs Q E hr h => ?_)
  refine ⟨_, (pss_cons (ps_expr (pe_callS G_look_at_voters (hr.mono (by decide)) (by rfl) D_look_at_voters.g D_look_at_voters.F.kp D_look_at_voters.b (fun σ => passAt (takes_of rfl rfl rfl rfl) σ) (pa_cons (pv 0) (pa_cons (pv 1) pa_nil))))
      (pss_cons (ps_expr (pe_callS G_look_at_web (hr.mono (by decide)) (by rfl) D_look_at_web.g D_look_at_web.F.kp D_look_at_web.b (fun σ => passAt (takes_of rfl rfl rfl rfl) σ) (pa_cons (pv 0) (pa_cons (pv 2) pa_nil))))
      (pss_one (ps_ret (pe_call G_make (hr.mono (by decide)) (by rfl) D_make.g D_make.F.kp D_make.b .nil pass0 (pa_cons (pv 0) (pa_cons (pv 1) (pa_cons (pv 2) pa_nil)))))))), ?_⟩
  obtain ⟨⟨m, vss, ps⟩, ⟨v1, _, rfl, rfl, v2, _, rfl, hv, v3, _, rfl, hw, rfl⟩, hl, q⟩ := h
  dsimp only at q hv hw hl
  refine s_callX (m, vss) ?a trivial fun H1 e1 => chkV_go q e1 fun h1 h2 q H2 e2 => ?_
  case a => wtm_at "es"
  wtm_at "nx"
  have e12 := e1.trans e2
  have hv2 := hv.ex e12
  have hw2 := hw.ex e12
  refine s_callX (m, ps) ?a (by show ps.length ≤ 1000; omega) fun H3 e3 => chkW_go q (e12.trans e3) fun h3 h4 q H4 e4 => ?_
  case a => wtm_at "es"
  wtm_at "nx"
  have e34 := e3.trans e4
  have hm : 1 ≤ m ∧ m ≤ 6 := h1
  exact s_retD (ev_make (evd_var rfl rp_int) (evd_var rfl (hv2.ex e34)) (evd_var rfl (hw2.ex e34)) (by omega) h2 hl (h4.bd hm.2)) fun v H5 e5 r => q v H5 ((e12.trans e34).trans e5) r
end
theorem ev_makes {C1 C2 C3 : Addr} {σ : L2.St} {H : Hp} {t0 t1 t2 : TE} {E : XK} {m : Int} {vss : List (List Int)} {ps : List (Int × Int)} (h0 : EvD t0 σ H (.int m)) (h1 : EvD t1 σ H (vD vss)) (h2 : EvD t2 σ H (wD ps)) (c : okCount m) (p : isVot m vss) (p2 : isWeb m ps) (l : ps.length < 64) :
    EvD (tCall (sp_makes C1 C2 C3) [] E (tCons t0 (tCons t1 (tCons t2 tNil)))) σ H (.bool (makeF m vss ps)) := evd_callO (m, vss, ps) (evs_cons h0 (evs_cons h1 (evs_cons h2 evs_nil))) l (by rw [chkV_ok c p, chkW_ok c p2])
end Bm

namespace Bm
open PySem PySem.Spec PyProof.Rows L2 Evl
local macro_rules | `(tactic| wtm_at "rp") => `(tactic| first | exact rp_int | exact rp_bl | exact rp_str | exact rp_non | assumption | (refine' Rp.ex ?e ?h; (case h => assumption); (case e => assumption)) | exact Own.rp (by assumption))
local macro_rules | `(tactic| wtm_at "side") => `(tactic| first | assumption | omega | decide | rfl | exact ⟨by omega, by omega⟩)
local macro_rules | `(tactic| wtm_at "es") => `(tactic| first | exact evs_nil | (refine' evs_cons ?a ?b; (case a => wtm_at "ev"); (case b => wtm_at "es")))
local macro_rules | `(tactic| wtm_at "ev") => `(tactic| first
  | exact evd_int | exact evd_str | exact evd_bl | exact evd_non
  | (refine' evd_var rfl ?h; (case h => wtm_at "rp"))
  | ((with_reducible refine' evd_op ?a ?b rd_addI); (case a => wtm_at "ev"); (case b => wtm_at "ev"))
  | ((with_reducible refine' evd_op ?a ?b rd_subI); (case a => wtm_at "ev"); (case b => wtm_at "ev"))
  | ((with_reducible refine' evd_op ?a ?b (rd_mulI ?c)); (case a => wtm_at "ev"); (case b => wtm_at "ev"); (case c => wtm_at "side"))
  | ((with_reducible refine' evd_op ?a ?b (rd_divI ?c)); (case a => wtm_at "ev"); (case b => wtm_at "ev"); (case c => wtm_at "side"))
  | ((with_reducible refine' evd_op ?a ?b (rd_modI ?c)); (case a => wtm_at "ev"); (case b => wtm_at "ev"); (case c => wtm_at "side"))
  | ((with_reducible refine' evd_op ?a ?b rd_ltI); (case a => wtm_at "ev"); (case b => wtm_at "ev"))
  | ((with_reducible refine' evd_op ?a ?b rd_leI); (case a => wtm_at "ev"); (case b => wtm_at "ev"))
  | ((with_reducible refine' evd_op ?a ?b rd_gtI); (case a => wtm_at "ev"); (case b => wtm_at "ev"))
  | ((with_reducible refine' evd_op ?a ?b rd_geI); (case a => wtm_at "ev"); (case b => wtm_at "ev"))
  | ((with_reducible refine' evd_op ?a ?b rd_eqI); (case a => wtm_at "ev"); (case b => wtm_at "ev"))
  | ((with_reducible refine' evd_op ?a ?b rd_neI); (case a => wtm_at "ev"); (case b => wtm_at "ev"))
  | ((with_reducible refine' evd_op ?a ?b rd_eqB); (case a => wtm_at "ev"); (case b => wtm_at "ev"))
  | ((with_reducible refine' evd_op ?a ?b rd_neB); (case a => wtm_at "ev"); (case b => wtm_at "ev"))
  | ((with_reducible refine' evd_op ?a ?b rd_isNo); (case a => wtm_at "ev"); (case b => wtm_at "ev"))
  | ((with_reducible refine' evd_op ?a ?b rd_notNo); (case a => wtm_at "ev"); (case b => wtm_at "ev"))
  | ((with_reducible refine' evd_op ?a ?b rd_inIL); (case a => wtm_at "ev"); (case b => wtm_at "ev"))
  | ((with_reducible refine' evd_op ?a ?b rd_niIL); (case a => wtm_at "ev"); (case b => wtm_at "ev"))
  | ((with_reducible refine' evd_op ?a ?b rd_inID); (case a => wtm_at "ev"); (case b => wtm_at "ev"))
  | ((with_reducible refine' evd_op ?a ?b rd_niID); (case a => wtm_at "ev"); (case b => wtm_at "ev"))
  | ((with_reducible refine' evd_neg ?a); (case a => wtm_at "ev"))
  | ((with_reducible refine' evd_tix ?a ?b ?c); (case a => wtm_at "ev"); (case b => wtm_at "ev"); (case c => wtm_at "side"))
  | ((with_reducible refine' evd_tup ?a ?b); (case a => wtm_at "es"); (case b => exact Nat.le_of_ble_eq_true rfl))
  | ((with_reducible refine' evd_cb ?a cd_lenL); (case a => wtm_at "es"))
  | ((with_reducible refine' evd_cb ?a cd_lenT); (case a => wtm_at "es"))
  | ((with_reducible refine' evd_cb ?a cd_intB); (case a => wtm_at "es"))
  | ((with_reducible refine' evd_cb ?a cd_tupL); (case a => wtm_at "es"))
  | ((with_reducible refine' evd_and ?a ?b); (case a => wtm_at "ev"); (case b => intro _; wtm_at "ev"))
  | ((with_reducible refine' evd_or ?a ?b); (case a => wtm_at "ev"); (case b => intro _; wtm_at "ev"))
  | ((with_reducible refine' evd_not ?a); (case a => wtm_at "ev"))
  | ((with_reducible refine' evd_op ?a ?b rd_neIL); (case a => wtm_at "ev"); (case b => wtm_at "ev"))
  | ((with_reducible refine' evd_op ?a ?b rd_eqIL); (case a => wtm_at "ev"); (case b => wtm_at "ev"))
  | ((with_reducible refine' EvN.toD ?a); (case a => wtm_at "en")))
local macro_rules | `(tactic| wtm_at "en") => `(tactic| first
  | ((with_reducible refine' evn_cb ?a cn_sortTI); (case a => wtm_at "es"))
  | ((with_reducible refine' evn_cb ?a cn_listL); (case a => wtm_at "es"))
  | ((with_reducible refine' evn_cb ?a cn_listT); (case a => wtm_at "es"))
  | ((with_reducible refine' evn_rng ?a ?b); (case a => wtm_at "ev"); (case b => wtm_at "side"))
  | ((with_reducible refine' evn_lst ?a ?b); (case a => wtm_at "es"); (case b => exact Nat.le_of_ble_eq_true rfl))
  | ((with_reducible refine' evn_cat ?a ?b ?c); (case a => wtm_at "ev"); (case b => wtm_at "ev"); (case c => wtm_at "side"))
  | ((with_reducible refine' evn_slL ?a ?b ?c); (case a => wtm_at "ev"); (case b => first | exact evp_none | (refine' evp_some ?d; (case d => wtm_at "ev"))); (case c => first | exact evp_none | (refine' evp_some ?d; (case d => wtm_at "ev")))))
local macro_rules | `(tactic| wtm_at "et") => `(tactic| first
  | exact et_yes
  | (refine' ett ?a; (case a => wtm_at "ev"))
  | (refine' etB ?a; (case a => wtm_at "ev"))
  | (refine' et_and ?a ?b; (case a => wtm_at "et"); (case b => intro _; wtm_at "et"))
  | (refine' et_or ?a ?b; (case a => wtm_at "et"); (case b => intro _; wtm_at "et"))
  | (refine' et_not ?a; (case a => wtm_at "et")))
local macro_rules | `(tactic| wtm_at "nx") => `(tactic| try dsimp only [tSeq, tNext])
/-! ### out_of_reach, bound_by, one_more -/
def sp_out_of_reach : Sp := spO (α := Int × Int) (fun a => [.int a.1, .int a.2]) (fun a => -1 ≤ a.2 ∧ a.2 ≤ 1) fun a => .val (.bool (outB a.1 a.2))
theorem len_out_of_reach (vs : List V) (H : Hp) (Q : VK) (E : XK) (h : sp_out_of_reach vs H Q E) : vs.length = 2 := by
  unfold sp_out_of_reach at h
  obtain ⟨a, r, _⟩ := h
  rw [r.len]
  rfl
section
variable {P : Program} {w : World} {K : PySem.W.Frag} {mg : Str → Option Value} {base : Heap}
theorem ok_out_of_reach {f : Addr} {fd : FuncData} (D : Df K mg "out_of_reach" s_out_of_reach ["now", "wished"] f fd) (Bi : Bi mg) : FnOk P w K mg base CX0 1 f fd ["now", "wished"] sp_out_of_reach := by
  refine D.F.ok c_out_of_reach (fun vs H Q E h => len_out_of_reach _ _ _ _ h) (fun cdv A outer s H vs Q E hr h => ?_)
  refine ⟨_, (pss_cons (ps_if (pt_cmpR op_eqI (pv 1) pe_int (nomark _))
      (pss_one (ps_ret (pe_and (pe_cmpR op_neI (pv 0) pe_int (nomark _)) (pe_one (pe_cmpR op_neI (pv 0) (pe_un un_negI pe_int) (nomark _))))))
      pss_nil)
      (pss_one (ps_ret (pe_cmpR op_ltI (pe_op op_mulI (pv 0) (pv 1)) pe_int (nomark _))))), ?_⟩
  obtain ⟨⟨n, u⟩, ⟨v1, _, rfl, rfl, v2, _, rfl, rfl, rfl⟩, ⟨u0, u1⟩, q⟩ := h
  dsimp only at q u0 u1
  refine' s_if (b := decide (u = 0)) ?t ?yes ?no
  case t => wtm_at "et"
  case yes =>
    intro hb H1 e1
    have hb : u = 0 := by simpa using hb
    unfold outB at q
    rw [if_pos hb] at q
    refine' s_retD (d := .bool (!decide (n = 1) && !decide (n = -1))) ?r fun v H2 e2 r => q v H2 (e1.trans e2) r
    case r => wtm_at "ev"
  case no =>
    intro hb H1 e1
    wtm_at "nx"
    have hb : ¬ u = 0 := by simpa using hb
    unfold outB at q
    rw [if_neg hb] at q
    refine' s_retD (d := .bool (decide (n * u < 0))) (evd_op (evd_op ?a ?b (rd_mulI (.inr ⟨by omega, by omega⟩))) evd_int rd_ltI) fun v H2 e2 r => q v H2 (e1.trans e2) r
    case a => wtm_at "ev"
    case b => wtm_at "ev"
end
theorem ev_out {σ : L2.St} {H : Hp} {t0 t1 : TE} {E : XK} {n u : Int} (h0 : EvD t0 σ H (.int n)) (h1 : EvD t1 σ H (.int u)) (c : -1 ≤ u ∧ u ≤ 1) : EvD (tCall sp_out_of_reach [] E (tCons t0 (tCons t1 tNil))) σ H (.bool (outB n u)) := evd_callO (n, u) (evs_cons h0 (evs_cons h1 evs_nil)) c rfl
def sp_bound_by : Sp := spO (α := Int × Int × Int × Int) (fun a => [.int a.1, .int a.2.1, .int a.2.2.1, .int a.2.2.2]) (fun a => -1 ≤ a.2.1 ∧ a.2.1 ≤ 1) fun a => .new ((bndF a.1 a.2.1 (a.2.2.1, a.2.2.2)).map pD)
theorem len_bound_by (vs : List V) (H : Hp) (Q : VK) (E : XK) (h : sp_bound_by vs H Q E) : vs.length = 4 := by
  unfold sp_bound_by at h
  obtain ⟨a, r, _⟩ := h
  rw [r.len]
  rfl
section
variable {P : Program} {w : World} {K : PySem.W.Frag} {mg : Str → Option Value} {base : Heap}
theorem ok_bound_by {f : Addr} {fd : FuncData} (D : Df K mg "bound_by" s_bound_by ["now", "wished", "one", "other"] f fd) (Bi : Bi mg) : FnOk P w K mg base CX0 1 f fd ["now", "wished", "one", "other"] sp_bound_by := by
  refine D.F.ok c_bound_by (fun vs H Q E h => len_bound_by _ _ _ _ h) (fun cdv A outer s H vs Q E hr h => ?_)
  refine ⟨_, (pss_cons (ps_if (pt_cmpR op_eqI (pv 1) pe_int (nomark _))
      (pss_one (ps_set (i := 1) c_bound_by.nd rfl (.inl rfl) (pe_un un_negI (pv 0))))
      (pss_one (ps_if (pt_cmpR op_gtI (pe_op op_mulI (pv 0) (pv 1)) pe_int (nomark _))
      (pss_one (ps_ret (pe_lst pa_nil)))
      pss_nil)))
      (pss_cons (ps_if (pt_cmpR op_gtI (pv 1) pe_int (nomark _))
      (pss_one (ps_ret (pe_lst (pa_cons (pe_tupF (pa_cons (pv 2) (pa_cons (pv 3) pa_nil))) pa_nil))))
      pss_nil)
      (pss_one (ps_ret (pe_lst (pa_cons (pe_tupF (pa_cons (pv 3) (pa_cons (pv 2) pa_nil))) pa_nil)))))), ?_⟩
  obtain ⟨⟨n, u, a, b⟩, ⟨v1, _, rfl, rfl, v2, _, rfl, rfl, v3, _, rfl, rfl, v4, _, rfl, rfl, rfl⟩, ⟨u0, u1⟩, q⟩ := h
  dsimp only at q u0 u1
  wtm_at "nx"
  refine joinK (A := Int) (fun z => [some (.int n), some (.int z), some (.int a), some (.int b)]) (fun z H' => Ex H H' ∧ bndF n u (a, b) = (if 0 < z then [(a, b)] else [(b, a)])) (fun z H1 => ?_) fun cont => ?_
  rotate_left
  · refine' s_if (b := decide (u = 0)) ?t ?yes ?no
    case t => wtm_at "et"
    case yes =>
      intro hb H1 e1
      have hb : u = 0 := by simpa using hb
      refine' s_asgI (n := -n) ?x fun H2 e2 => cont (-n) H2 ⟨e1.trans e2, by unfold bndF; rw [if_pos hb]; rfl⟩
      case x => wtm_at "ev"
    case no =>
      intro hb H1 e1
      have hb : ¬ u = 0 := by simpa using hb
      refine' s_if (b := decide (1 < n * u)) ?t ?yes ?no
      case t =>
        refine' ett (evd_op (evd_op ?a ?b (rd_mulI (.inr ⟨by omega, by omega⟩))) evd_int rd_gtI)
        case a => wtm_at "ev"
        case b => wtm_at "ev"
      case yes =>
        intro hb2 H2 e2
        unfold bndF at q
        rw [if_neg hb, if_pos (by simpa using hb2)] at q
        exact s_retNw (evn_lst evs_nil (by decide)) fun p ws H3 hn e3 k1 k2 => q p ws H3 (fresh_back (e1.trans e2) hn) ((e1.trans e2).trans e3) k1 k2
      case no =>
        intro hb2 H2 e2
        exact cont u H2 ⟨e1.trans e2, by unfold bndF; rw [if_neg hb, if_neg (by simpa using hb2)]; rfl⟩
  · rintro ⟨e1, hz⟩
    wtm_at "nx"
    rw [hz] at q
    refine' s_if (b := decide (0 < z)) ?t ?yes ?no
    case t => wtm_at "et"
    case yes =>
      intro hb H2 e2
      rw [if_pos (by simpa using hb)] at q
      refine' s_retNw (ds := [pD (a, b)]) ?r fun p ws H3 hn e3 k1 k2 => q p ws H3 (fresh_back (e1.trans e2) hn) ((e1.trans e2).trans e3) k1 k2
      case r => wtm_at "en"
    case no =>
      intro hb H2 e2
      wtm_at "nx"
      rw [if_neg (by simpa using hb)] at q
      refine' s_retNw (ds := [pD (b, a)]) ?r fun p ws H3 hn e3 k1 k2 => q p ws H3 (fresh_back (e1.trans e2) hn) ((e1.trans e2).trans e3) k1 k2
      case r => wtm_at "en"
end
theorem ev_bound_by {σ : L2.St} {H : Hp} {t0 t1 t2 t3 : TE} {E : XK} {n u a b : Int} (h0 : EvD t0 σ H (.int n)) (h1 : EvD t1 σ H (.int u)) (h2 : EvD t2 σ H (.int a)) (h3 : EvD t3 σ H (.int b)) (c : -1 ≤ u ∧ u ≤ 1) :
    EvN (tCall sp_bound_by [] E (tCons t0 (tCons t1 (tCons t2 (tCons t3 tNil))))) σ H ((bndF n u (a, b)).map pD) := evn_callO (n, u, a, b) (evs_cons h0 (evs_cons h1 (evs_cons h2 (evs_cons h3 evs_nil)))) c rfl
def sp_one_more (C1 C2 C3 : Addr) : Sp := spO (α := Int × List (List Int) × List (Int × Int)) (fun a => [.int a.1, vD a.2.1, wD a.2.2]) (fun a => a.2.2.length ≤ 1000) fun a => chkV C1 C2 a.1 a.2.1 (chkW C1 C3 a.1 a.2.2 (oneF a.1 a.2.1 a.2.2))
theorem len_one_more {C_BadCount : Addr} {C_BadVoter : Addr} {C_BadWeb : Addr} (vs : List V) (H : Hp) (Q : VK) (E : XK) (h : (sp_one_more C_BadCount C_BadVoter C_BadWeb) vs H Q E) : vs.length = 3 := by
  unfold sp_one_more at h
  obtain ⟨a, r, _⟩ := h
  rw [r.len]
  rfl
section
variable {P : Program} {w : World} {K : PySem.W.Frag} {mg : Str → Option Value} {base : Heap}
theorem ok_one_more {f : Addr} {fd : FuncData} (D : Df K mg "one_more" s_one_more ["many", "voters", "web"] f fd) (Bi : Bi mg) {f_look_at_voters : Addr} {fd_look_at_voters : FuncData} (D_look_at_voters : Df K mg "look_at_voters" s_look_at_voters ["many", "voters"] f_look_at_voters fd_look_at_voters) (G_look_at_voters : FnOk P w K mg base (L2.CX P w) 2 f_look_at_voters fd_look_at_voters ["many", "voters"] (sp_look_at_voters C_BadCount C_BadVoter)) {f_look_at_web : Addr} {fd_look_at_web : FuncData} (D_look_at_web : Df K mg "look_at_web" s_look_at_web ["many", "web"] f_look_at_web fd_look_at_web) (G_look_at_web : FnOk P w K mg base (L2.CX P w) 2 f_look_at_web fd_look_at_web ["many", "web"] (sp_look_at_web C_BadCount C_BadWeb)) {f_lead_of : Addr} {fd_lead_of : FuncData} (D_lead_of : Df K mg "lead_of" s_lead_of ["voters", "one", "other"] f_lead_of fd_lead_of) (G_lead_of : FnOk P w K mg base CX0 1 f_lead_of fd_lead_of ["voters", "one", "other"] sp_lead_of) {f_out_of_reach : Addr} {fd_out_of_reach : FuncData} (D_out_of_reach : Df K mg "out_of_reach" s_out_of_reach ["now", "wished"] f_out_of_reach fd_out_of_reach) (G_out_of_reach : FnOk P w K mg base CX0 1 f_out_of_reach fd_out_of_reach ["now", "wished"] sp_out_of_reach) {f_bound_by : Addr} {fd_bound_by : FuncData} (D_bound_by : Df K mg "bound_by" s_bound_by ["now", "wished", "one", "other"] f_bound_by fd_bound_by) (G_bound_by : FnOk P w K mg base CX0 1 f_bound_by fd_bound_by ["now", "wished", "one", "other"] sp_bound_by) {f_first_order : Addr} {fd_first_order : FuncData} (D_first_order : Df K mg "first_order" s_first_order ["many", "web"] f_first_order fd_first_order) (G_first_order : FnOk P w K mg base CX0 1 f_first_order fd_first_order ["many", "web"] sp_first_order) {f_shortest_ring : Addr} {fd_shortest_ring : FuncData} (D_shortest_ring : Df K mg "shortest_ring" s_shortest_ring ["web"] f_shortest_ring fd_shortest_ring) (G_shortest_ring : FnOk P w K mg base CX0 2 f_shortest_ring fd_shortest_ring ["web"] sp_shortest_ring) : FnOk P w K mg base (L2.CX P w) 3 f fd ["many", "voters", "web"] (sp_one_more C_BadCount C_BadVoter C_BadWeb) := by
  refine D.F.okX c_one_more (fun vs H Q E h => len_one_more _ _ _ _ h) (fun cdv A outer s H vs Q E hr h => ?_)
  refine ⟨_, (pss_cons (ps_expr (pe_callS G_look_at_voters (hr.mono (by decide)) (by rfl) D_look_at_voters.g D_look_at_voters.F.kp D_look_at_voters.b (fun σ => passAt (takes_of rfl rfl rfl rfl) σ) (pa_cons (pv 0) (pa_cons (pv 1) pa_nil))))
      (pss_cons (ps_expr (pe_callS G_look_at_web (hr.mono (by decide)) (by rfl) D_look_at_web.g D_look_at_web.F.kp D_look_at_web.b (fun σ => passAt (takes_of rfl rfl rfl rfl) σ) (pa_cons (pv 0) (pa_cons (pv 2) pa_nil))))
      (pss_cons (ps_set (i := 3) c_one_more.nd rfl (.inl rfl) (pe_lst pa_nil))
      (pss_cons (ps_for (passes_of rfl) rfl (pi_range1 (by rfl) Bi.range (pa_cons (pv 0) pa_nil)) (pg_name (i := 4) c_one_more.nd rfl (.inl rfl))
      (pss_one (ps_for (passes_of rfl) rfl (pi_range2 (by rfl) Bi.range (pa_cons (pe_op op_addI (pv 4) pe_int) (pa_cons (pv 0) pa_nil))) (pg_name (i := 5) c_one_more.nd rfl (.inl rfl))
      (pss_cons (ps_set (i := 6) c_one_more.nd rfl (.inl rfl) (pe_call G_lead_of (hr.mono (by decide)) (by rfl) D_lead_of.g D_lead_of.F.kp D_lead_of.b .nil pass0 (pa_cons (pv 1) (pa_cons (pv 4) (pa_cons (pv 5) pa_nil)))))
      (pss_cons (ps_set (i := 7) c_one_more.nd rfl (.inl rfl) (pe_op op_subI (pe_callTy cr_intB (by rfl) Bi.int (by decide +kernel) (pa_cons (pe_cmpR (op_inDK (K := K) (hu65 hr)) (pe_tupF (pa_cons (pv 4) (pa_cons (pv 5) pa_nil))) (pv 2) (by rfl)) pa_nil)) (pe_callTy cr_intB (by rfl) Bi.int (by decide +kernel) (pa_cons (pe_cmpR (op_inDK (K := K) (hu65 hr)) (pe_tupF (pa_cons (pv 5) (pa_cons (pv 4) pa_nil))) (pv 2) (by rfl)) pa_nil))))
      (pss_cons (ps_if (pt_val (pe_call G_out_of_reach (hr.mono (by decide)) (by rfl) D_out_of_reach.g D_out_of_reach.F.kp D_out_of_reach.b .nil pass0 (pa_cons (pv 6) (pa_cons (pv 7) pa_nil))))
      (pss_one (ps_ret (pe_tupF (pa_cons pe_str (pa_cons (pe_tupF (pa_cons (pv 4) (pa_cons (pv 5) pa_nil))) pa_nil)))))
      pss_nil)
      (pss_one (ps_expr (pe_bm PySem.F.plainAttrs_list PySem.F.slot_list_extend PySem.F.type_list_extend mt_extend (pv 3) (pa_cons (pe_call G_bound_by (hr.mono (by decide)) (by rfl) D_bound_by.g D_bound_by.F.kp D_bound_by.b .nil pass0 (pa_cons (pv 6) (pa_cons (pv 7) (pa_cons (pv 4) (pa_cons (pv 5) pa_nil))))) pa_nil))))))))))
      (pss_cons (ps_set (i := 8) c_one_more.nd rfl (.inl rfl) (pe_call G_first_order (hr.mono (by decide)) (by rfl) D_first_order.g D_first_order.F.kp D_first_order.b .nil pass0 (pa_cons (pv 0) (pa_cons (pv 3) pa_nil))))
      (pss_cons (ps_if (pt_cmpR op_notNo (pv 8) pe_non (nomark _))
      (pss_one (ps_ret (pe_tupF (pa_cons pe_str (pa_cons (pv 8) pa_nil)))))
      pss_nil)
      (pss_one (ps_ret (pe_tupF (pa_cons pe_str (pa_cons (pe_call G_shortest_ring (hr.mono (by decide)) (by rfl) D_shortest_ring.g D_shortest_ring.F.kp D_shortest_ring.b .nil pass0 (pa_cons (pv 3) pa_nil)) pa_nil))))))))))), ?_⟩
  obtain ⟨⟨m, vss, ps⟩, ⟨v1, _, rfl, rfl, v2, _, rfl, hv, v3, _, rfl, hw, rfl⟩, hl, q⟩ := h
  dsimp only at q hv hw hl
  refine s_callX (m, vss) ?a trivial fun H1 e1 => chkV_go q e1 fun h1 h2 q H2 e2 => ?_
  case a => wtm_at "es"
  wtm_at "nx"
  have e12 := e1.trans e2
  have hv2 := hv.ex e12
  have hw2 := hw.ex e12
  refine s_callX (m, ps) ?a hl fun H3 e3 => chkW_go q (e12.trans e3) fun h3 h4 q H4 e4 => ?_
  case a => wtm_at "es"
  wtm_at "nx"
  have e34 := e12.trans (e3.trans e4)
  have hm : 1 ≤ m ∧ m ≤ 6 := h1
  have hm6 : 0 ≤ m ∧ m ≤ 6 := by omega
  have hpl := prs_len hm6
  refine' s_asgO (evn_lst evs_nil (by decide)) rfl fun pb H5 e5 o5 => ?_
  wtm_at "nx"
  have o5 := o5.lower e34
  refine' s_forR (n := m) ?n (by omega) fun H6 e6 => ⟨fun i σ' H' => ∃ pre y z u t, σ' = [some (.int m), some v2, some v3, some (.ref pb), y, z, u, t, none] ∧ prs m 0 = pre ++ prs m i ∧ (∀ p ∈ pre, outP vss ps p = false) ∧ Own H H' pb (((pre.map (bndP vss ps)).flatten).map pD), ?_, ?_, ?_⟩
  case n => wtm_at "es"
  · exact ⟨[], none, none, none, none, rfl, rfl, (fun p hp => by simp at hp), o5.step e6⟩
  · rintro i σ' H' hi ⟨pre, y, z, u, t, rfl, hpre, hno, o⟩
    refine g_name ?_
    refine' s_forR2 (lo := (i : Int) + 1) (n := m) ?n (by omega) fun H7 e7 => ⟨fun j σ' H' => ∃ pre z u t, σ' = [some (.int m), some v2, some v3, some (.ref pb), some (.int i), z, u, t, none] ∧ prs m 0 = pre ++ (rowP m i ((i : Int) + 1 + (j : Int)) ++ prs m ((i : Int) + 1)) ∧ (∀ p ∈ pre, outP vss ps p = false) ∧ Own H H' pb (((pre.map (bndP vss ps)).flatten).map pD), ?_, ?_, ?_⟩
    case n => wtm_at "es"
    · refine ⟨pre, z, u, t, rfl, ?_, hno, o.step e7⟩
      rw [Int.natCast_zero, Int.add_zero, ← prs_step hi]
      exact hpre
    · rintro j σ' H' hj ⟨pre, z, u, t, rfl, hpre, hno, o⟩
      generalize hb : (i : Int) + 1 + (j : Int) = b at hj hpre
      rw [rowP_step hj, List.cons_append] at hpre
      have hlen : pre.length ≤ 15 := by
        have := congrArg List.length hpre
        rw [List.length_append] at this
        omega
      refine g_name ?_
      have hv8 : Rp H' (vD vss) v2 := hv.ex o.ex
      refine' s_asgI (n := leadF vss i b) (ev_lead_of (a := (i : Int)) (b := b) (evd_var rfl hv8) ?a ?b fun v hm2 => ⟨(h2 v hm2).mem.mpr (by omega), (h2 v hm2).mem.mpr (by omega)⟩) fun H8 e8 => ?_
      case a => wtm_at "ev"
      case b => wtm_at "ev"
      wtm_at "nx"
      have o8 := o.step e8
      have hw8 : Rp H8 (wD ps) v3 := hw.ex o8.ex
      refine' s_asgI (n := wishF ps ((i : Int), b)) (ev_wish ?a ?b (evd_var rfl hw8)) fun H9 e9 => ?_
      case a => wtm_at "ev"
      case b => wtm_at "ev"
      wtm_at "nx"
      have o9 := o8.step e9
      have hbd := wish_bd ps ((i : Int), b)
      refine' s_if (b := outB (leadF vss i b) (wishF ps ((i : Int), b))) ?t ?yes ?no
      case t =>
        refine' etB (ev_out ?a ?b hbd)
        case a => wtm_at "ev"
        case b => wtm_at "ev"
      case yes =>
        intro hb2 H10 e10
        have hf : (prs m 0).find? (outP vss ps) = some ((i : Int), b) := by
          rw [hpre, List.find?_append, List.find?_eq_none.mpr (fun p hp => by rw [hno p hp]; exact Bool.false_ne_true), List.find?_cons, show outP vss ps ((i : Int), b) = true from hb2]
          rfl
        unfold oneF at q
        rw [hf] at q
        refine' s_retD (d := .tuple [.str "out", pD ((i : Int), b)]) ?r fun v H11 e11 r => q v H11 ((o9.ex.trans e10).trans e11) r
        case r => wtm_at "ev"
      case no =>
        intro hb2 H10 e10
        wtm_at "nx"
        have o10 := o9.step e10
        have bl := pick_len (fun p => bndF_pick _ _ p) (h := bndP vss ps) pre
        have bl2 : (bndF (leadF vss i b) (wishF ps ((i : Int), b)) ((i : Int), b)).length ≤ 1 := by
          rcases bndF_pick (leadF vss i b) (wishF ps ((i : Int), b)) ((i : Int), b) with e | e | e <;> rw [e] <;> simp
        refine' s_extO o10 rfl (es := (bndF (leadF vss i b) (wishF ps ((i : Int), b)) ((i : Int), b)).map pD) (ev_bound_by ?a ?b ?c ?d hbd) (imm_wD _) (by rw [List.length_map, List.length_map]; omega) fun H11 x11 o11 => ?_
        case a => wtm_at "ev"
        case b => wtm_at "ev"
        case c => wtm_at "ev"
        case d => wtm_at "ev"
        refine ⟨pre ++ [((i : Int), b)], _, _, _, rfl, ?_, fun p hp => ?_, ?_⟩
        · rw [show (i : Int) + 1 + ((j + 1 : Nat) : Int) = b + 1 by omega, List.append_assoc]
          exact hpre
        · rcases List.mem_append.mp hp with hp | hp
          · exact hno p hp
          · rw [List.mem_singleton.mp hp]
            exact hb2
        · rw [List.map_append, List.flatten_append, List.map_append]
          have e : ([((i : Int), b)].map (bndP vss ps)).flatten = bndF (leadF vss i b) (wishF ps ((i : Int), b)) ((i : Int), b) := by simp [bndP]
          rw [e]
          exact o11
    · rintro σ' H' ⟨pre, z, u, t, rfl, hpre, hno, o⟩
      refine ⟨pre, _, _, _, _, rfl, ?_, hno, o⟩
      rw [rowP_end (by omega), List.nil_append] at hpre
      rw [show ((i + 1 : Nat) : Int) = (i : Int) + 1 by omega]
      exact hpre
  · rintro σ' H' ⟨pre, y, z, u, t, rfl, hpre, hno, o⟩
    wtm_at "nx"
    rw [prs_end (m := m) (a := (m.toNat : Int)) (by omega), List.append_nil] at hpre
    subst hpre
    have hf : (prs m 0).find? (outP vss ps) = none := List.find?_eq_none.mpr fun p hp => by rw [hno p hp]; exact Bool.false_ne_true
    have hbl := boundF_len hm6 vss ps
    have hbw := boundF_web m vss ps
    have ho : Own H H' pb ((boundF m vss ps).map pD) := o
    refine' s_asgD (ev_first_order (m := m) ?a (evd_var rfl ho.rp) hm6 (by omega)) fun vf H7 e7 hfo => ?_
    case a => wtm_at "ev"
    wtm_at "nx"
    have o7 := ho.step e7
    unfold oneF at q
    rw [hf] at q
    rcases order_or_ring hm.2 hbw with ⟨v, ev, ov, kv, sn⟩ | ⟨en, no, r, er⟩
    · rw [ev] at q hfo
      have hfo : Rp H7 (iD v) vf := hfo
      refine s_if (b := !false) (ett (evd_op (evd_var rfl hfo) evd_non rd_notNo)) (fun _ H8 e8 => ?_) (fun hb => by cases hb)
      refine s_retD (d := .tuple [.str "voter", iD v]) (evd_tup (evs_cons evd_str (evs_cons (evd_var rfl (hfo.ex e8)) evs_nil)) (Nat.le_of_ble_eq_true rfl)) fun v H9 e9 r => q v H9 ((o7.ex.trans e8).trans e9) r
    · rw [en] at q hfo
      rw [er] at q
      refine s_if (b := !true) (ett (evd_op (evd_var rfl (d := .none) hfo) evd_non rd_notNo)) (fun hb => by cases hb) fun _ H8 e8 => ?_
      wtm_at "nx"
      have o8 := o7.step e8
      refine ev_shortest (ps := boundF m vss ps) (evd_var rfl o8.rp) (by omega) ⟨m, hm.2, hbw.rng⟩ H8 (Ex.refl _) _ fun vr H9 e9 hbest => ?_
      rw [er] at hbest
      obtain ⟨pa, rfl, n1, n2⟩ := hbest
      refine ⟨by show 2 ≤ sizeLine; decide, fun pt ot hpt hot => ?_⟩
      have e89 := o8.ex.trans e9
      have npt : pa ≠ pt := ne_of_none n2 hpt
      exact q pa _ pt ot _ (fresh_back o8.ex n1) (e89.trans (Ex.new hpt)) (by rw [upd_ne npt]; exact n2) (rpa_ints _) upd_same hot
end
end Bm

namespace Bm
open PySem PySem.Spec PyProof.Rows L2 Evl
local macro_rules | `(tactic| wtm_at "rp") => `(tactic| first | exact rp_int | exact rp_bl | exact rp_str | exact rp_non | assumption | (refine' Rp.ex ?e ?h; (case h => assumption); (case e => assumption)) | exact Own.rp (by assumption))
local macro_rules | `(tactic| wtm_at "side") => `(tactic| first | assumption | omega | decide | rfl | exact ⟨by omega, by omega⟩)
local macro_rules | `(tactic| wtm_at "es") => `(tactic| first | exact evs_nil | (refine' evs_cons ?a ?b; (case a => wtm_at "ev"); (case b => wtm_at "es")))
local macro_rules | `(tactic| wtm_at "ev") => `(tactic| first
  | exact evd_int | exact evd_str | exact evd_bl | exact evd_non
  | (refine' evd_var rfl ?h; (case h => wtm_at "rp"))
  | ((with_reducible refine' evd_op ?a ?b rd_addI); (case a => wtm_at "ev"); (case b => wtm_at "ev"))
  | ((with_reducible refine' evd_op ?a ?b rd_subI); (case a => wtm_at "ev"); (case b => wtm_at "ev"))
  | ((with_reducible refine' evd_op ?a ?b (rd_mulI ?c)); (case a => wtm_at "ev"); (case b => wtm_at "ev"); (case c => wtm_at "side"))
  | ((with_reducible refine' evd_op ?a ?b (rd_divI ?c)); (case a => wtm_at "ev"); (case b => wtm_at "ev"); (case c => wtm_at "side"))
  | ((with_reducible refine' evd_op ?a ?b (rd_modI ?c)); (case a => wtm_at "ev"); (case b => wtm_at "ev"); (case c => wtm_at "side"))
  | ((with_reducible refine' evd_op ?a ?b rd_ltI); (case a => wtm_at "ev"); (case b => wtm_at "ev"))
  | ((with_reducible refine' evd_op ?a ?b rd_leI); (case a => wtm_at "ev"); (case b => wtm_at "ev"))
  | ((with_reducible refine' evd_op ?a ?b rd_gtI); (case a => wtm_at "ev"); (case b => wtm_at "ev"))
  | ((with_reducible refine' evd_op ?a ?b rd_geI); (case a => wtm_at "ev"); (case b => wtm_at "ev"))
  | ((with_reducible refine' evd_op ?a ?b rd_eqI); (case a => wtm_at "ev"); (case b => wtm_at "ev"))
  | ((with_reducible refine' evd_op ?a ?b rd_neI); (case a => wtm_at "ev"); (case b => wtm_at "ev"))
  | ((with_reducible refine' evd_op ?a ?b rd_eqB); (case a => wtm_at "ev"); (case b => wtm_at "ev"))
  | ((with_reducible refine' evd_op ?a ?b rd_neB); (case a => wtm_at "ev"); (case b => wtm_at "ev"))
  | ((with_reducible refine' evd_op ?a ?b rd_isNo); (case a => wtm_at "ev"); (case b => wtm_at "ev"))
  | ((with_reducible refine' evd_op ?a ?b rd_notNo); (case a => wtm_at "ev"); (case b => wtm_at "ev"))
  | ((with_reducible refine' evd_op ?a ?b rd_inIL); (case a => wtm_at "ev"); (case b => wtm_at "ev"))
  | ((with_reducible refine' evd_op ?a ?b rd_niIL); (case a => wtm_at "ev"); (case b => wtm_at "ev"))
  | ((with_reducible refine' evd_op ?a ?b rd_inID); (case a => wtm_at "ev"); (case b => wtm_at "ev"))
  | ((with_reducible refine' evd_op ?a ?b rd_niID); (case a => wtm_at "ev"); (case b => wtm_at "ev"))
  | ((with_reducible refine' evd_neg ?a); (case a => wtm_at "ev"))
  | ((with_reducible refine' evd_tix ?a ?b ?c); (case a => wtm_at "ev"); (case b => wtm_at "ev"); (case c => wtm_at "side"))
  | ((with_reducible refine' evd_tup ?a ?b); (case a => wtm_at "es"); (case b => exact Nat.le_of_ble_eq_true rfl))
  | ((with_reducible refine' evd_cb ?a cd_lenL); (case a => wtm_at "es"))
  | ((with_reducible refine' evd_cb ?a cd_lenT); (case a => wtm_at "es"))
  | ((with_reducible refine' evd_cb ?a cd_intB); (case a => wtm_at "es"))
  | ((with_reducible refine' evd_cb ?a cd_tupL); (case a => wtm_at "es"))
  | ((with_reducible refine' evd_and ?a ?b); (case a => wtm_at "ev"); (case b => intro _; wtm_at "ev"))
  | ((with_reducible refine' evd_or ?a ?b); (case a => wtm_at "ev"); (case b => intro _; wtm_at "ev"))
  | ((with_reducible refine' evd_not ?a); (case a => wtm_at "ev"))
  | ((with_reducible refine' evd_op ?a ?b rd_neIL); (case a => wtm_at "ev"); (case b => wtm_at "ev"))
  | ((with_reducible refine' evd_op ?a ?b rd_eqIL); (case a => wtm_at "ev"); (case b => wtm_at "ev"))
  | ((with_reducible refine' EvN.toD ?a); (case a => wtm_at "en")))
local macro_rules | `(tactic| wtm_at "en") => `(tactic| first
  | ((with_reducible refine' evn_cb ?a cn_sortTI); (case a => wtm_at "es"))
  | ((with_reducible refine' evn_cb ?a cn_listL); (case a => wtm_at "es"))
  | ((with_reducible refine' evn_cb ?a cn_listT); (case a => wtm_at "es"))
  | ((with_reducible refine' evn_rng ?a ?b); (case a => wtm_at "ev"); (case b => wtm_at "side"))
  | ((with_reducible refine' evn_lst ?a ?b); (case a => wtm_at "es"); (case b => exact Nat.le_of_ble_eq_true rfl))
  | ((with_reducible refine' evn_cat ?a ?b ?c); (case a => wtm_at "ev"); (case b => wtm_at "ev"); (case c => wtm_at "side"))
  | ((with_reducible refine' evn_slL ?a ?b ?c); (case a => wtm_at "ev"); (case b => first | exact evp_none | (refine' evp_some ?d; (case d => wtm_at "ev"))); (case c => first | exact evp_none | (refine' evp_some ?d; (case d => wtm_at "ev")))))
local macro_rules | `(tactic| wtm_at "et") => `(tactic| first
  | exact et_yes
  | (refine' ett ?a; (case a => wtm_at "ev"))
  | (refine' etB ?a; (case a => wtm_at "ev"))
  | (refine' et_and ?a ?b; (case a => wtm_at "et"); (case b => intro _; wtm_at "et"))
  | (refine' et_or ?a ?b; (case a => wtm_at "et"); (case b => intro _; wtm_at "et"))
  | (refine' et_not ?a; (case a => wtm_at "et")))
local macro_rules | `(tactic| wtm_at "nx") => `(tactic| try dsimp only [tSeq, tNext])
/-! ### shown -/
def wordF (v : List Int) : Str := Txt.join "" (v.map fun i => (toString i : Str))
def shownF (m : Int) (vs : List (List Int)) : Str := Txt.join " " (((toString m : Str) ++ ":") :: vs.map wordF)
theorem fig_len {m : Int} (hm : m ≤ 6) {x : Int} (h : 0 ≤ x ∧ x < m) : ((toString x : Str)).length = 1 ∧ x.natAbs.log2 < 1920 := by
  have : x = 0 ∨ x = 1 ∨ x = 2 ∨ x = 3 ∨ x = 4 ∨ x = 5 := by omega
  rcases this with rfl | rfl | rfl | rfl | rfl | rfl <;> decide +kernel
theorem sum_le {B : Nat} : ∀ {ys : List Str}, (∀ y ∈ ys, y.length ≤ B) → (ys.map (·.length)).sum ≤ ys.length * B
  | [], _ => by simp
  | y :: ys, h => by
    have h1 := h y List.mem_cons_self
    have h2 := sum_le (ys := ys) fun z hz => h z (List.mem_cons_of_mem _ hz)
    rw [List.map_cons, List.sum_cons, List.length_cons, Nat.succ_mul]
    omega
def sp_shown (C1 C2 : Addr) : Sp := spO (α := Int × List (List Int)) (fun a => [.int a.1, vD a.2]) (fun a => a.2.length ≤ 1000) fun a => chkV C1 C2 a.1 a.2 (.val (.str (shownF a.1 a.2)))
theorem len_shown {C_BadCount : Addr} {C_BadVoter : Addr} (vs : List V) (H : Hp) (Q : VK) (E : XK) (h : (sp_shown C_BadCount C_BadVoter) vs H Q E) : vs.length = 2 := by
  unfold sp_shown at h
  obtain ⟨a, r, _⟩ := h
  rw [r.len]
  rfl
section
variable {P : Program} {w : World} {K : PySem.W.Frag} {mg : Str → Option Value} {base : Heap}
theorem ok_shown {f : Addr} {fd : FuncData} (D : Df K mg "shown" s_shown ["many", "voters"] f fd) (Bi : Bi mg) {f_look_at_voters : Addr} {fd_look_at_voters : FuncData} (D_look_at_voters : Df K mg "look_at_voters" s_look_at_voters ["many", "voters"] f_look_at_voters fd_look_at_voters) (G_look_at_voters : FnOk P w K mg base (L2.CX P w) 2 f_look_at_voters fd_look_at_voters ["many", "voters"] (sp_look_at_voters C_BadCount C_BadVoter)) : FnOk P w K mg base (L2.CX P w) 3 f fd ["many", "voters"] (sp_shown C_BadCount C_BadVoter) := by
  refine D.F.okX c_shown (fun vs H Q E h => len_shown _ _ _ _ h) (fun cdv A outer s H vs Q E hr h => ?_)
  refine ⟨_, (pss_cons (ps_expr (pe_callS G_look_at_voters (hr.mono (by decide)) (by rfl) D_look_at_voters.g D_look_at_voters.F.kp D_look_at_voters.b (fun σ => passAt (takes_of rfl rfl rfl rfl) σ) (pa_cons (pv 0) (pa_cons (pv 1) pa_nil))))
      (pss_cons (ps_setLc (i := 2) (own := [("voter", 3)]) (g := (gName 3)) (tt := tYes) rfl c_shown.nd rfl rfl (sw_true rfl rfl rfl (by decide +kernel)) (pi_listK (K := K) (pv 1)) (blkOk_by (own := [("voter", 3)]) (N := ["many", "voters", "words", "voter", "thing"]) (sc := defScope s_shown) (by decide +kernel)) (fun _ _ _ _ _ => (pg_name (i := 3) c_shown.nd rfl (.inl rfl))) (fun _ _ _ _ _ => pts_nil) (fun _ _ _ _ _ => (pe_m1 PySem.F.slot_str_join PySem.F.type_str_join (mt_joinK (K := K)) pe_str (pe_lc (own := [("thing", 4)]) (g := (gName 4)) (tt := tYes) rfl c_shown.nd (pi_tupK (K := K) (pv 3)) (blkOk_by (by kernel_rfl)) (fun _ _ _ _ _ => (pg_name (i := 4) c_shown.nd rfl (.inl rfl))) (fun _ _ _ _ _ => pts_nil) (fun _ _ _ _ _ => (pe_callTy cr_strI (by rfl) Bi.str (by decide +kernel) (pa_cons (pv 4) pa_nil)))))))
      (pss_one (ps_ret (pe_m1 PySem.F.slot_str_join PySem.F.type_str_join (mt_joinK (K := K)) pe_str (pe_op op_cat (pe_lst (pa_cons (pe_op op_addT (pe_callTy cr_strI (by rfl) Bi.str (by decide +kernel) (pa_cons (pv 0) pa_nil)) pe_str) pa_nil)) (pv 2))))))), ?_⟩
  obtain ⟨⟨m, vss⟩, ⟨v1, _, rfl, rfl, v2, _, rfl, hv, rfl⟩, hl, q⟩ := h
  dsimp only at q hv hl
  refine s_callX (m, vss) ?a trivial fun H1 e1 => chkV_go q e1 fun h1 h2 q H2 e2 => ?_
  case a => wtm_at "es"
  wtm_at "nx"
  have hm : 1 ≤ m ∧ m ≤ 6 := h1
  have e12 := e1.trans e2
  have hv2 := hv.ex e12
  have wl : ∀ v ∈ vss, (wordF v).length = v.length := fun v hvm => by
    unfold wordF
    rw [PySem.W.KT.join_ones _ fun a ha => ?_, List.length_map]
    obtain ⟨x, hx, rfl⟩ := List.mem_map.mp ha
    exact (fig_len hm.2 ((h2 v hvm).mem.mp hx)).1
  refine' s_asgD (d := .list ((vss.map wordF).map .str)) ((EvN.toD (ds := (vss.filter fun _ => true).map fun v => .str (wordF v)) ?x).is ?is) fun vw H3 e3 hwd => ?_
  case is =>
    rw [List.filter_eq_self.mpr (fun _ _ => rfl), List.map_map]
    rfl
  case x =>
    refine' evn_lcL (f := iD) (xs := vss) (fun _ => true) (fun v => .str (wordF v)) (evd_var rfl hv2) (by omega) ?tn fun _ _ _ => rfl
    intro x v H5 hx e5 r
    have ho := h2 x hx
    refine ⟨_, fun Q hq => hq, rfl, et_yes, fun _ => evd_join (ys := x.map fun i => (toString i : Str)) evd_str ((EvN.toD (ds := (x.filter fun _ => true).map fun i => .str (toString i)) ?_).is ?_) ?_⟩
    · refine' evn_lcT (f := PyData.int) (xs := x) (fun _ => true) (fun i => .str (toString i)) (evd_var rfl r) (by rw [ho.len]; omega) ?tn2 fun _ _ _ => rfl
      intro i vi H6 hi e6 r6
      exact ⟨_, fun Q hq => hq, rfl, et_yes, fun _ => evd_cb (evs_cons (evd_var rfl r6) evs_nil) (cd_strI (fig_len hm.2 (ho.mem.mp hi)).2)⟩
    · rw [List.filter_eq_self.mpr (fun _ _ => rfl), List.map_map]
      rfl
    · have := sum_le (B := 1) (ys := x.map fun i => (toString i : Str)) fun y hy => by
        obtain ⟨i, hi, rfl⟩ := List.mem_map.mp hy
        rw [(fig_len hm.2 (ho.mem.mp hi)).1]
        exact Nat.le_refl _
      rw [List.length_map] at this
      have l0 : ("" : Str).length = 0 := by decide +kernel
      rw [l0, ho.len] at *
      omega
  wtm_at "nx"
  have hml : ((toString m : Str)).length ≤ 1 ∧ m.natAbs.log2 < 1920 := by
    have : m = 1 ∨ m = 2 ∨ m = 3 ∨ m = 4 ∨ m = 5 ∨ m = 6 := by omega
    rcases this with rfl | rfl | rfl | rfl | rfl | rfl <;> decide +kernel
  have hwl : (vss.map wordF).length = vss.length := List.length_map _
  have hll : ((toString m : Str) ++ ":").length ≤ 6 := by
    rw [PySem.Str.length_append]
    have : (":" : Str).length = 1 := by decide +kernel
    omega
  have hsum := sum_le (B := 6) (ys := ((toString m : Str) ++ ":") :: vss.map wordF) fun y hy => by
    rcases List.mem_cons.mp hy with rfl | hy
    · exact hll
    · obtain ⟨v, hvm, rfl⟩ := List.mem_map.mp hy
      rw [wl v hvm, (h2 v hvm).len]
      have : m ≤ 6 := hm.2
      show m.toNat ≤ 6
      omega
  refine s_retD (d := .str (shownF m vss)) (evd_join (ys := ((toString m : Str) ++ ":") :: vss.map wordF) evd_str ((EvN.toD (evn_cat (ds := [.str ((toString m : Str) ++ ":")]) (es := (vss.map wordF).map .str) (EvN.toD (evn_lst (evs_cons (evd_op (evd_cb (evs_cons (evd_var rfl rp_int) evs_nil) (cd_strI hml.2)) evd_str (rd_addT ?z)) evs_nil) (Nat.le_of_ble_eq_true rfl))) (evd_var rfl hwd) ?y)).is rfl) ?w) fun v H4 e4 r => q v H4 ((e12.trans e3).trans e4) r
  case z =>
    have : (":" : Str).length = 1 := by decide +kernel
    have := hml.1
    omega
  case y =>
    rw [List.length_map, hwl]
    show 1 + _ ≤ _
    omega
  case w =>
    have : (" " : Str).length = 1 := by decide +kernel
    rw [this]
    rw [List.length_cons, hwl] at *
    omega
end
end Bm

namespace Bm
open PySem PySem.Spec PyProof.Rows L2 Evl
local macro_rules | `(tactic| wtm_at "rp") => `(tactic| first | exact rp_int | exact rp_bl | exact rp_str | exact rp_non | assumption | (refine' Rp.ex ?e ?h; (case h => assumption); (case e => assumption)) | exact Own.rp (by assumption))
local macro_rules | `(tactic| wtm_at "side") => `(tactic| first | assumption | omega | decide | rfl | exact ⟨by omega, by omega⟩)
local macro_rules | `(tactic| wtm_at "es") => `(tactic| first | exact evs_nil | (refine' evs_cons ?a ?b; (case a => wtm_at "ev"); (case b => wtm_at "es")))
local macro_rules | `(tactic| wtm_at "ev") => `(tactic| first
  | exact evd_int | exact evd_str | exact evd_bl | exact evd_non
  | (refine' evd_var rfl ?h; (case h => wtm_at "rp"))
  | ((with_reducible refine' evd_op ?a ?b rd_addI); (case a => wtm_at "ev"); (case b => wtm_at "ev"))
  | ((with_reducible refine' evd_op ?a ?b rd_subI); (case a => wtm_at "ev"); (case b => wtm_at "ev"))
  | ((with_reducible refine' evd_op ?a ?b (rd_mulI ?c)); (case a => wtm_at "ev"); (case b => wtm_at "ev"); (case c => wtm_at "side"))
  | ((with_reducible refine' evd_op ?a ?b (rd_divI ?c)); (case a => wtm_at "ev"); (case b => wtm_at "ev"); (case c => wtm_at "side"))
  | ((with_reducible refine' evd_op ?a ?b (rd_modI ?c)); (case a => wtm_at "ev"); (case b => wtm_at "ev"); (case c => wtm_at "side"))
  | ((with_reducible refine' evd_op ?a ?b rd_ltI); (case a => wtm_at "ev"); (case b => wtm_at "ev"))
  | ((with_reducible refine' evd_op ?a ?b rd_leI); (case a => wtm_at "ev"); (case b => wtm_at "ev"))
  | ((with_reducible refine' evd_op ?a ?b rd_gtI); (case a => wtm_at "ev"); (case b => wtm_at "ev"))
  | ((with_reducible refine' evd_op ?a ?b rd_geI); (case a => wtm_at "ev"); (case b => wtm_at "ev"))
  | ((with_reducible refine' evd_op ?a ?b rd_eqI); (case a => wtm_at "ev"); (case b => wtm_at "ev"))
  | ((with_reducible refine' evd_op ?a ?b rd_neI); (case a => wtm_at "ev"); (case b => wtm_at "ev"))
  | ((with_reducible refine' evd_op ?a ?b rd_eqB); (case a => wtm_at "ev"); (case b => wtm_at "ev"))
  | ((with_reducible refine' evd_op ?a ?b rd_neB); (case a => wtm_at "ev"); (case b => wtm_at "ev"))
  | ((with_reducible refine' evd_op ?a ?b rd_isNo); (case a => wtm_at "ev"); (case b => wtm_at "ev"))
  | ((with_reducible refine' evd_op ?a ?b rd_notNo); (case a => wtm_at "ev"); (case b => wtm_at "ev"))
  | ((with_reducible refine' evd_op ?a ?b rd_inIL); (case a => wtm_at "ev"); (case b => wtm_at "ev"))
  | ((with_reducible refine' evd_op ?a ?b rd_niIL); (case a => wtm_at "ev"); (case b => wtm_at "ev"))
  | ((with_reducible refine' evd_op ?a ?b rd_inID); (case a => wtm_at "ev"); (case b => wtm_at "ev"))
  | ((with_reducible refine' evd_op ?a ?b rd_niID); (case a => wtm_at "ev"); (case b => wtm_at "ev"))
  | ((with_reducible refine' evd_neg ?a); (case a => wtm_at "ev"))
  | ((with_reducible refine' evd_tix ?a ?b ?c); (case a => wtm_at "ev"); (case b => wtm_at "ev"); (case c => wtm_at "side"))
  | ((with_reducible refine' evd_tup ?a ?b); (case a => wtm_at "es"); (case b => exact Nat.le_of_ble_eq_true rfl))
  | ((with_reducible refine' evd_cb ?a cd_lenL); (case a => wtm_at "es"))
  | ((with_reducible refine' evd_cb ?a cd_lenT); (case a => wtm_at "es"))
  | ((with_reducible refine' evd_cb ?a cd_intB); (case a => wtm_at "es"))
  | ((with_reducible refine' evd_cb ?a cd_tupL); (case a => wtm_at "es"))
  | ((with_reducible refine' evd_and ?a ?b); (case a => wtm_at "ev"); (case b => intro _; wtm_at "ev"))
  | ((with_reducible refine' evd_or ?a ?b); (case a => wtm_at "ev"); (case b => intro _; wtm_at "ev"))
  | ((with_reducible refine' evd_not ?a); (case a => wtm_at "ev"))
  | ((with_reducible refine' evd_op ?a ?b rd_neIL); (case a => wtm_at "ev"); (case b => wtm_at "ev"))
  | ((with_reducible refine' evd_op ?a ?b rd_eqIL); (case a => wtm_at "ev"); (case b => wtm_at "ev"))
  | ((with_reducible refine' EvN.toD ?a); (case a => wtm_at "en")))
local macro_rules | `(tactic| wtm_at "en") => `(tactic| first
  | ((with_reducible refine' evn_cb ?a cn_sortTI); (case a => wtm_at "es"))
  | ((with_reducible refine' evn_cb ?a cn_listL); (case a => wtm_at "es"))
  | ((with_reducible refine' evn_cb ?a cn_listT); (case a => wtm_at "es"))
  | ((with_reducible refine' evn_rng ?a ?b); (case a => wtm_at "ev"); (case b => wtm_at "side"))
  | ((with_reducible refine' evn_lst ?a ?b); (case a => wtm_at "es"); (case b => exact Nat.le_of_ble_eq_true rfl))
  | ((with_reducible refine' evn_cat ?a ?b ?c); (case a => wtm_at "ev"); (case b => wtm_at "ev"); (case c => wtm_at "side"))
  | ((with_reducible refine' evn_slL ?a ?b ?c); (case a => wtm_at "ev"); (case b => first | exact evp_none | (refine' evp_some ?d; (case d => wtm_at "ev"))); (case c => first | exact evp_none | (refine' evp_some ?d; (case d => wtm_at "ev")))))
local macro_rules | `(tactic| wtm_at "et") => `(tactic| first
  | exact et_yes
  | (refine' ett ?a; (case a => wtm_at "ev"))
  | (refine' etB ?a; (case a => wtm_at "ev"))
  | (refine' et_and ?a ?b; (case a => wtm_at "et"); (case b => intro _; wtm_at "et"))
  | (refine' et_or ?a ?b; (case a => wtm_at "et"); (case b => intro _; wtm_at "et"))
  | (refine' et_not ?a; (case a => wtm_at "et")))
local macro_rules | `(tactic| wtm_at "nx") => `(tactic| try dsimp only [tSeq, tNext])
/-! ### the law's own helpers: cells, whole numbers, orders, voters, leads, beats -/
def sp__law_cell_at (K : PySem.W.Frag) : Sp := spS (α := Int) K (fun k => [.int k]) (fun _ k => 0 ≤ k) fun ns k => .val (.int (cellF ns k))
theorem len__law_cell_at {K : PySem.W.Frag} (vs : List V) (H : Hp) (Q : VK) (E : XK) (h : (sp__law_cell_at K) vs H Q E) : vs.length = 2 := by
  unfold sp__law_cell_at at h
  obtain ⟨ns, a, sa, r, rfl, _, h, _⟩ := h
  rw [List.length_cons, h.len]
  rfl
theorem cellF_at {ns : List Int} {k : Int} (h0 : 0 ≤ k) (h : k < ns.length) : atI ns k = some (cellF ns k) := by
  have hk : k = ((k.toNat : Nat) : Int) := by omega
  have hl : k.toNat < ns.length := by omega
  have e : ns[k.toNat]? = some (cellF ns k) := by
    unfold cellF
    rw [List.getD_eq_getElem?_getD, List.getElem?_eq_getElem hl]
    rfl
  conv => lhs; rw [hk]
  exact atI_nat e
theorem cellF_out {ns : List Int} {k : Int} (h : ¬ k < ns.length) : cellF ns k = 0 := by
  unfold cellF
  rw [List.getD_eq_getElem?_getD, List.getElem?_eq_none (by omega)]
  rfl
section
variable {P : Program} {w : World} {K : PySem.W.Frag} {mg : Str → Option Value} {base : Heap}
theorem ok__law_cell_at {f : Addr} {fd : FuncData} (D : Df K mg "_law_cell_at" s__law_cell_at ["script", "k"] f fd) (Bi : Bi mg) : FnOk P w K mg base CX0 1 f fd ["script", "k"] (sp__law_cell_at K) := by
  refine D.F.ok c__law_cell_at (fun vs H Q E h => len__law_cell_at _ _ _ _ h) (fun cdv A outer s H vs Q E hr h => ?_)
  refine ⟨_, (pss_cons (ps_if (pt_cmpR op_ltI (pv 1) (pe_callB (cr_lenK (K := K)) (by rfl) Bi.len (by decide +kernel) (pa_cons (pv 0) pa_nil)) (nomark _))
      (pss_one (ps_ret (pe_ix (ix_listK (K := K)) (pv 0) (pv 1) (fun _ _ => rfl))))
      pss_nil)
      (pss_one (ps_ret pe_int))), ?_⟩
  obtain ⟨ns, k, sa, _, rfl, hs, ⟨v1, _, rfl, rfl, rfl⟩, hk, q⟩ := h
  dsimp only at q
  refine' s_if (b := decide (k < (ns.length : Int))) ?t ?yes ?no
  case t => exact ett (evd_op (evd_var rfl rp_int) (evd_lenS hs rfl) rd_ltI)
  case yes =>
    intro hb H1 e1
    have hb' : k < ns.length := by simpa using hb
    exact s_retD (evd_ixS (ex_l e1 hs) rfl (evd_var rfl rp_int) (cellF_at hk hb')) fun v H2 e2 r => q v H2 (e1.trans e2) r
  case no =>
    intro hb H1 e1
    have hb' : ¬ k < ns.length := by simpa using hb
    rw [cellF_out hb'] at q
    wtm_at "nx"
    exact s_retD evd_int fun v H2 e2 r => q v H2 (e1.trans e2) r
end
theorem ev_cell {K : PySem.W.Frag} {σ : L2.St} {H : Hp} {tb : TE} {E : XK} {ns : List Int} {sa : Addr} {i : Nat} {k : Int} (hs : SqL K H sa (ns.map V.int)) (hi : σ[i]? = some (some (.ref sa))) (h : EvD tb σ H (.int k)) (p : 0 ≤ k) :
    EvD (tCall (sp__law_cell_at K) [] E (tCons (tVar i) (tCons tb tNil))) σ H (.int (cellF ns k)) := evd_callS k hs hi (evs_cons h evs_nil) p rfl
/-- orders drawn by a cell -/
def ordR : Nat → List Int → Int → List Int
  | 0, _, _ => []
  | n + 1, left, c => left.getD (c % (left.length : Int)).toNat 0 :: ordR n (left.eraseIdx (c % (left.length : Int)).toNat) (c / (left.length : Int))
def lawOrd (c m : Int) : List Int := ordR m.toNat (rgI 0 m.toNat) c
theorem map_erase {α β : Type} (f : α → β) : ∀ (l : List α) (k : Nat), (l.map f).eraseIdx k = (l.eraseIdx k).map f
  | [], _ => rfl
  | _ :: _, 0 => rfl
  | x :: xs, k + 1 => by
    rw [List.map_cons, List.eraseIdx_cons_succ, List.eraseIdx_cons_succ, List.map_cons, map_erase f xs k]
theorem erase_perm : ∀ {l : List Int} {k : Nat} (h : k < l.length), (l[k] :: l.eraseIdx k).Perm l
  | [], _, h => by simp at h
  | x :: xs, 0, _ => .refl _
  | x :: xs, k + 1, h => by
    have ih := erase_perm (l := xs) (k := k) (by simpa using h)
    rw [List.getElem_cons_succ, List.eraseIdx_cons_succ]
    exact (List.Perm.swap _ _ _).trans (ih.cons x)
theorem ordR_perm : ∀ {n : Nat} {left : List Int} {c : Int}, left.length = n → (ordR n left c).Perm left
  | 0, left, c, h => by
    rw [List.eq_nil_of_length_eq_zero h]
    exact .refl _
  | n + 1, left, c, h => by
    have h0 : (0 : Int) < (left.length : Int) := by omega
    have l1 := Int.emod_nonneg c (Int.ne_of_gt h0)
    have l2 := Int.emod_lt_of_pos c h0
    have hk : (c % (left.length : Int)).toNat < left.length := by omega
    unfold ordR
    generalize (c % (left.length : Int)).toNat = k at hk
    have ih := ordR_perm (n := n) (left := left.eraseIdx k) (c := c / (left.length : Int)) (by rw [List.length_eraseIdx_of_lt hk]; omega)
    have e : left.getD k 0 = left[k] := by rw [List.getD_eq_getElem?_getD, List.getElem?_eq_getElem hk]; rfl
    rw [e]
    exact (ih.cons _).trans (erase_perm hk)
theorem lawOrd_ord (c m : Int) : isOrd m (lawOrd c m) := isOrd_iff.mpr (ordR_perm (rgI_len _ _))
def sp__law_order : Sp := spO (α := Int × Int) (fun a => [.int a.1, .int a.2]) (fun a => 0 ≤ a.2 ∧ a.2 ≤ 6) fun a => .val (iD (lawOrd a.1 a.2))
theorem len__law_order (vs : List V) (H : Hp) (Q : VK) (E : XK) (h : sp__law_order vs H Q E) : vs.length = 2 := by
  unfold sp__law_order at h
  obtain ⟨a, r, _⟩ := h
  rw [r.len]
  rfl
section
variable {P : Program} {w : World} {K : PySem.W.Frag} {mg : Str → Option Value} {base : Heap}
theorem ok__law_order {f : Addr} {fd : FuncData} (D : Df K mg "_law_order" s__law_order ["cell", "many"] f fd) (Bi : Bi mg) : FnOk P w K mg base CX0 1 f fd ["cell", "many"] sp__law_order := by
  refine D.F.ok c__law_order (fun vs H Q E h => len__law_order _ _ _ _ h) (fun cdv A outer s H vs Q E hr h => ?_)
  refine ⟨_, (pss_cons (ps_set (i := 2) c__law_order.nd rfl (.inl rfl) (pe_listRg rfl (by rfl) Bi.list (prg_1 (by rfl) Bi.range (pv 1))))
      (pss_cons (ps_set (i := 3) c__law_order.nd rfl (.inl rfl) (pe_lst pa_nil))
      (pss_cons (ps_for (PassesOwn.never) rfl (pi_range1 (by rfl) Bi.range (pa_cons (pv 1) pa_nil)) (pg_name (i := 4) c__law_order.nd rfl (.inl rfl))
      (pss_cons (ps_expr (pe_bm PySem.F.plainAttrs_list PySem.F.slot_list_append PySem.F.type_list_append mt_append (pv 3) (pa_cons (pe_bm PySem.F.plainAttrs_list PySem.F.slot_list_pop PySem.F.type_list_pop mt_popAt (pv 2) (pa_cons (pe_op op_modI (pv 0) (pe_callB (cr_lenK (K := K)) (by rfl) Bi.len (by decide +kernel) (pa_cons (pv 2) pa_nil))) pa_nil)) pa_nil)))
      (pss_one (ps_set (i := 0) c__law_order.nd rfl (.inl rfl) (pe_op op_divI (pv 0) (pe_op op_addI (pe_callB (cr_lenK (K := K)) (by rfl) Bi.len (by decide +kernel) (pa_cons (pv 2) pa_nil)) pe_int))))))
      (pss_one (ps_ret (pe_callTy (cr_tupLK (K := K)) (by rfl) Bi.tuple (by decide +kernel) (pa_cons (pv 3) pa_nil))))))), ?_⟩
  obtain ⟨⟨c, m⟩, ⟨v1, _, rfl, rfl, v2, _, rfl, rfl, rfl⟩, ⟨m0, m6⟩, q⟩ := h
  dsimp only at q m0 m6
  refine' s_asgO (evn_rng (n := m) ?n (by omega)) (imm_ints _) fun pl H1 e1 o1 => ?_
  case n => wtm_at "ev"
  wtm_at "nx"
  refine' s_asgO (evn_lst evs_nil (by decide)) rfl fun po H2 e2 o2 => ?_
  wtm_at "nx"
  have npo : pl ≠ po := by
    obtain ⟨_, z, _⟩ := o1.has
    exact ne_of_none z o2.new
  refine' s_forR (n := m) ?n (by omega) fun H3 e3 => ⟨fun i σ' H' => ∃ y left order cell, σ' = [some (.int cell), some (.int m), some (.ref pl), some (.ref po), y] ∧ Own H H' pl (left.map .int) ∧ Own H H' po (order.map .int) ∧
    left.length + i = m.toNat ∧ order.length = i ∧ order ++ ordR left.length left cell = lawOrd c m, ?_, ?_, ?_⟩
  case n => wtm_at "es"
  · exact ⟨none, _, [], c, rfl, (o1.step e2).step e3, (o2.step e3).lower e1, by rw [rgI_len]; omega, rfl, by rw [rgI_len]; rfl⟩
  · rintro i σ' H' hi ⟨y, left, order, cell, rfl, ol, oo, hl, ho, hm⟩
    refine g_name ?_
    have h0 : (0 : Int) < (left.length : Int) := by omega
    have l1 := Int.emod_nonneg cell (Int.ne_of_gt h0)
    have l2 := Int.emod_lt_of_pos cell h0
    have hk : (cell % (left.length : Int)).toNat < left.length := by omega
    obtain ⟨ws, w1, w2⟩ := oo.has
    obtain ⟨us, u1, u2⟩ := ol.has
    have ix : EvD (tOp rModI (tVar 0) (tCB (rLenS K) (tCons (tVar 2) tNil))) ([some (V.int cell), some (V.int m), some (V.ref pl), some (V.ref po), y].set 4 (some (V.int (i : Int)))) H' (.int (cell % (left.length : Int))) := by
      have lz : EvD (tCB (rLenS K) (tCons (tVar 2) tNil)) ([some (V.int cell), some (V.int m), some (V.ref pl), some (V.ref po), y].set 4 (some (V.int (i : Int)))) H' (.int (left.map PyData.int).length) := evd_cb (evs_cons (evd_var rfl ol.rp) evs_nil) cd_lenL
      rw [List.length_map] at lz
      exact evd_op (evd_var rfl rp_int) lz (rd_modI h0)
    have u3 := u2.ints
    have w3 := w2.ints
    subst u3 w3
    refine ⟨.ref po, rfl, .inl ⟨rfl, _, SqL.of w1⟩, .ref pl, rfl, .inl ⟨rfl, _, SqL.of u1⟩, ix H' (Ex.refl _) _ fun v5 H5 e5 r5 => ?_⟩
    obtain rfl : v5 = .int (cell % (left.length : Int)) := r5
    have g : (left.map V.int)[(cell % (left.length : Int)).toNat]? = some (.int (left.getD (cell % (left.length : Int)).toNat 0)) := by
      rw [List.getElem?_map, List.getD_eq_getElem?_getD, List.getElem?_eq_getElem hk]
      rfl
    have sx : seqIndex? (cell % (left.length : Int)) (left.map V.int).length = some (cell % (left.length : Int)).toNat := by
      rw [List.length_map]
      exact (ixN_seq (by unfold ixN; rw [if_pos l1, if_pos l2])).1
    refine ⟨pl, _, _, (cell % (left.length : Int)).toNat, _, rfl, rfl, e5 _ _ u1, by omega, by omega, sx, g, ?_⟩
    have w5 : (upd H5 pl (.lst ((left.map V.int).eraseIdx (cell % (left.length : Int)).toNat))) po = some (.lst (order.map V.int)) := by
      rw [upd_ne npo.symm]
      exact e5 _ _ w1
    refine ⟨po, _, _, rfl, rfl, w5, sz_lt (by rw [List.length_map]; omega), ?_⟩
    have nHl : H pl = none := ol.new
    have nHo : H po = none := oo.new
    have hlen2 : (left.eraseIdx (cell % (left.length : Int)).toNat).length = left.length - 1 := List.length_eraseIdx_of_lt hk
    have hstep : ordR left.length left cell = left.getD (cell % (left.length : Int)).toNat 0 :: ordR (left.length - 1) (left.eraseIdx (cell % (left.length : Int)).toNat) (cell / (left.length : Int)) := by
      have e1 : ∀ n, n = left.length - 1 → ordR (n + 1) left cell = left.getD (cell % (left.length : Int)).toNat 0 :: ordR n (left.eraseIdx (cell % (left.length : Int)).toNat) (cell / (left.length : Int)) := fun n _ => rfl
      have e2 := e1 _ rfl
      rwa [Nat.sub_add_cancel (by omega)] at e2
    generalize hk' : (cell % (left.length : Int)).toNat = k at *
    rw [map_erase V.int left k]
    have exB : Ex H (upd (upd H5 pl (.lst ((left.eraseIdx k).map V.int))) po (.lst (order.map V.int ++ [V.int (left.getD k 0)]))) := Ex.mut (Ex.mut (ol.ex.trans e5) nHl) nHo
    have own1 : Own H (upd (upd H5 pl (.lst ((left.eraseIdx k).map V.int))) po (.lst (order.map V.int ++ [V.int (left.getD k 0)]))) pl ((left.eraseIdx k).map .int) := by
      refine ⟨nHl, exB, ⟨_, ?_, rpa_ints _⟩, imm_ints _⟩
      rw [upd_ne npo, upd_same]
    have own2 : Own H (upd (upd H5 pl (.lst ((left.eraseIdx k).map V.int))) po (.lst (order.map V.int ++ [V.int (left.getD k 0)]))) po ((order ++ [left.getD k 0]).map .int) := by
      refine ⟨nHo, exB, ⟨_, upd_same, ?_⟩, imm_ints _⟩
      rw [List.map_append]
      exact (rpa_ints order).app (rpa_ints [left.getD k 0])
    generalize (upd (upd H5 pl (.lst ((left.eraseIdx k).map V.int))) po (.lst (order.map V.int ++ [V.int (left.getD k 0)]))) = H6 at own1 own2 ⊢
    wtm_at "nx"
    have lz : EvD (tCB (rLenS K) (tCons (tVar 2) tNil)) ([some (V.int cell), some (V.int m), some (V.ref pl), some (V.ref po), y].set 4 (some (V.int (i : Int)))) H6 (.int ((left.eraseIdx k).map PyData.int).length) := evd_cb (evs_cons (evd_var rfl own1.rp) evs_nil) cd_lenL
    rw [List.length_map, hlen2] at lz
    refine s_asgI (n := cell / ((left.length - 1 : Nat) + 1 : Int)) (evd_op (evd_var rfl rp_int) (evd_op lz evd_int rd_addI) (rd_divI ⟨by omega, by omega⟩)) fun H7 e7 => ?_
    rw [show ((left.length - 1 : Nat) + 1 : Int) = (left.length : Int) by omega]
    refine ⟨some (.int i), left.eraseIdx k, order ++ [left.getD k 0], _, rfl, own1.step e7, own2.step e7, by omega, by rw [List.length_append, ho]; rfl, ?_⟩
    rw [hlen2, List.append_assoc, List.singleton_append, ← hstep]
    exact hm
  · rintro σ' H' ⟨y, left, order, cell, rfl, ol, oo, hl, ho, hm⟩
    have l0 : left = [] := List.eq_nil_of_length_eq_zero (by omega)
    subst l0
    rw [show ordR ([] : List Int).length [] cell = [] from rfl, List.append_nil] at hm
    wtm_at "nx"
    refine s_retD (d := iD order) ?r fun v H5 e5 r => ?_
    case r => wtm_at "ev"
    rw [hm] at r
    exact q v H5 (ol.ex.trans e5) r
end
end Bm

namespace Bm
open PySem PySem.Spec PyProof.Rows L2 Evl
local macro_rules | `(tactic| wtm_at "rp") => `(tactic| first | exact rp_int | exact rp_bl | exact rp_str | exact rp_non | assumption | (refine' Rp.ex ?e ?h; (case h => assumption); (case e => assumption)) | exact Own.rp (by assumption))
local macro_rules | `(tactic| wtm_at "side") => `(tactic| first | assumption | omega | decide | rfl | exact ⟨by omega, by omega⟩)
local macro_rules | `(tactic| wtm_at "es") => `(tactic| first | exact evs_nil | (refine' evs_cons ?a ?b; (case a => wtm_at "ev"); (case b => wtm_at "es")))
local macro_rules | `(tactic| wtm_at "ev") => `(tactic| first
  | exact evd_int | exact evd_str | exact evd_bl | exact evd_non
  | (refine' evd_var rfl ?h; (case h => wtm_at "rp"))
  | ((with_reducible refine' evd_op ?a ?b rd_addI); (case a => wtm_at "ev"); (case b => wtm_at "ev"))
  | ((with_reducible refine' evd_op ?a ?b rd_subI); (case a => wtm_at "ev"); (case b => wtm_at "ev"))
  | ((with_reducible refine' evd_op ?a ?b (rd_mulI ?c)); (case a => wtm_at "ev"); (case b => wtm_at "ev"); (case c => wtm_at "side"))
  | ((with_reducible refine' evd_op ?a ?b (rd_divI ?c)); (case a => wtm_at "ev"); (case b => wtm_at "ev"); (case c => wtm_at "side"))
  | ((with_reducible refine' evd_op ?a ?b (rd_modI ?c)); (case a => wtm_at "ev"); (case b => wtm_at "ev"); (case c => wtm_at "side"))
  | ((with_reducible refine' evd_op ?a ?b rd_ltI); (case a => wtm_at "ev"); (case b => wtm_at "ev"))
  | ((with_reducible refine' evd_op ?a ?b rd_leI); (case a => wtm_at "ev"); (case b => wtm_at "ev"))
  | ((with_reducible refine' evd_op ?a ?b rd_gtI); (case a => wtm_at "ev"); (case b => wtm_at "ev"))
  | ((with_reducible refine' evd_op ?a ?b rd_geI); (case a => wtm_at "ev"); (case b => wtm_at "ev"))
  | ((with_reducible refine' evd_op ?a ?b rd_eqI); (case a => wtm_at "ev"); (case b => wtm_at "ev"))
  | ((with_reducible refine' evd_op ?a ?b rd_neI); (case a => wtm_at "ev"); (case b => wtm_at "ev"))
  | ((with_reducible refine' evd_op ?a ?b rd_eqB); (case a => wtm_at "ev"); (case b => wtm_at "ev"))
  | ((with_reducible refine' evd_op ?a ?b rd_neB); (case a => wtm_at "ev"); (case b => wtm_at "ev"))
  | ((with_reducible refine' evd_op ?a ?b rd_isNo); (case a => wtm_at "ev"); (case b => wtm_at "ev"))
  | ((with_reducible refine' evd_op ?a ?b rd_notNo); (case a => wtm_at "ev"); (case b => wtm_at "ev"))
  | ((with_reducible refine' evd_op ?a ?b rd_inIL); (case a => wtm_at "ev"); (case b => wtm_at "ev"))
  | ((with_reducible refine' evd_op ?a ?b rd_niIL); (case a => wtm_at "ev"); (case b => wtm_at "ev"))
  | ((with_reducible refine' evd_op ?a ?b rd_inID); (case a => wtm_at "ev"); (case b => wtm_at "ev"))
  | ((with_reducible refine' evd_op ?a ?b rd_niID); (case a => wtm_at "ev"); (case b => wtm_at "ev"))
  | ((with_reducible refine' evd_neg ?a); (case a => wtm_at "ev"))
  | ((with_reducible refine' evd_tix ?a ?b ?c); (case a => wtm_at "ev"); (case b => wtm_at "ev"); (case c => wtm_at "side"))
  | ((with_reducible refine' evd_tup ?a ?b); (case a => wtm_at "es"); (case b => exact Nat.le_of_ble_eq_true rfl))
  | ((with_reducible refine' evd_cb ?a cd_lenL); (case a => wtm_at "es"))
  | ((with_reducible refine' evd_cb ?a cd_lenT); (case a => wtm_at "es"))
  | ((with_reducible refine' evd_cb ?a cd_intB); (case a => wtm_at "es"))
  | ((with_reducible refine' evd_cb ?a cd_tupL); (case a => wtm_at "es"))
  | ((with_reducible refine' evd_and ?a ?b); (case a => wtm_at "ev"); (case b => intro _; wtm_at "ev"))
  | ((with_reducible refine' evd_or ?a ?b); (case a => wtm_at "ev"); (case b => intro _; wtm_at "ev"))
  | ((with_reducible refine' evd_not ?a); (case a => wtm_at "ev"))
  | ((with_reducible refine' evd_op ?a ?b rd_neIL); (case a => wtm_at "ev"); (case b => wtm_at "ev"))
  | ((with_reducible refine' evd_op ?a ?b rd_eqIL); (case a => wtm_at "ev"); (case b => wtm_at "ev"))
  | ((with_reducible refine' EvN.toD ?a); (case a => wtm_at "en")))
local macro_rules | `(tactic| wtm_at "en") => `(tactic| first
  | ((with_reducible refine' evn_cb ?a cn_sortTI); (case a => wtm_at "es"))
  | ((with_reducible refine' evn_cb ?a cn_listL); (case a => wtm_at "es"))
  | ((with_reducible refine' evn_cb ?a cn_listT); (case a => wtm_at "es"))
  | ((with_reducible refine' evn_rng ?a ?b); (case a => wtm_at "ev"); (case b => wtm_at "side"))
  | ((with_reducible refine' evn_lst ?a ?b); (case a => wtm_at "es"); (case b => exact Nat.le_of_ble_eq_true rfl))
  | ((with_reducible refine' evn_cat ?a ?b ?c); (case a => wtm_at "ev"); (case b => wtm_at "ev"); (case c => wtm_at "side"))
  | ((with_reducible refine' evn_slL ?a ?b ?c); (case a => wtm_at "ev"); (case b => first | exact evp_none | (refine' evp_some ?d; (case d => wtm_at "ev"))); (case c => first | exact evp_none | (refine' evp_some ?d; (case d => wtm_at "ev")))))
local macro_rules | `(tactic| wtm_at "et") => `(tactic| first
  | exact et_yes
  | (refine' ett ?a; (case a => wtm_at "ev"))
  | (refine' etB ?a; (case a => wtm_at "ev"))
  | (refine' et_and ?a ?b; (case a => wtm_at "et"); (case b => intro _; wtm_at "et"))
  | (refine' et_or ?a ?b; (case a => wtm_at "et"); (case b => intro _; wtm_at "et"))
  | (refine' et_not ?a; (case a => wtm_at "et")))
local macro_rules | `(tactic| wtm_at "nx") => `(tactic| try dsimp only [tSeq, tNext])
theorem ev_order {σ : L2.St} {H : Hp} {t1 t2 : TE} {E : XK} {c m : Int} (h1 : EvD t1 σ H (.int c)) (h2 : EvD t2 σ H (.int m)) (p : 0 ≤ m ∧ m ≤ 6) :
    EvD (tCall sp__law_order [] E (tCons t1 (tCons t2 tNil))) σ H (iD (lawOrd c m)) := evd_callO (c, m) (evs_cons h1 (evs_cons h2 evs_nil)) p rfl
/-- voters drawn by cells -/
def votBase (ns : List Int) (start m most : Int) : List (List Int) := (rgI 0 (cellF ns start % (most + 1)).toNat).map fun k => lawOrd (cellF ns (start + 1 + k)) m
def lawVot (ns : List Int) (start m most : Int) : List (List Int) :=
  if cellF ns start / (most + 1) % 8 = 5 then (List.replicate 60 (votBase ns start m most)).flatten.take (most + cellF ns start / (most + 1) / 8 % (61 - most)).toNat
  else votBase ns start m most ++ (votBase ns start m most).take (cellF ns start / (most + 1) % 4).toNat
theorem votBase_ok (ns : List Int) (start m most : Int) : isVot m (votBase ns start m most) := fun v h => by
  obtain ⟨k, _, rfl⟩ := List.mem_map.mp h
  exact lawOrd_ord _ _
theorem lawVot_ok (ns : List Int) (start m most : Int) : isVot m (lawVot ns start m most) := fun v h => by
  unfold lawVot at h
  split at h
  · have h2 := List.mem_of_mem_take h
    obtain ⟨l, h3, h4⟩ := List.mem_flatten.mp h2
    rw [(List.mem_replicate.mp h3).2] at h4
    exact votBase_ok ns start m most v h4
  · rcases List.mem_append.mp h with h | h
    · exact votBase_ok ns start m most v h
    · exact votBase_ok ns start m most v (List.mem_of_mem_take h)
theorem votBase_len (ns : List Int) (start m : Int) {most : Int} (h : 0 ≤ most) : ((votBase ns start m most).length : Int) ≤ most := by
  unfold votBase
  rw [List.length_map, rgI_len]
  have := Int.emod_nonneg (cellF ns start) (show most + 1 ≠ 0 by omega)
  have := Int.emod_lt_of_pos (cellF ns start) (show 0 < most + 1 by omega)
  omega
theorem lawVot_len (ns : List Int) (start m : Int) {most : Int} (h : 0 ≤ most ∧ most ≤ 30) : (lawVot ns start m most).length ≤ 60 := by
  unfold lawVot
  have l := votBase_len ns start m h.1
  split
  · rw [List.length_take]
    have := Int.emod_nonneg (cellF ns start / (most + 1) / 8) (show 61 - most ≠ 0 by omega)
    have := Int.emod_lt_of_pos (cellF ns start / (most + 1) / 8) (show 0 < 61 - most by omega)
    omega
  · rw [List.length_append, List.length_take]
    omega
def sp__law_voters (K : PySem.W.Frag) : Sp := spS (α := Int × Int × Int) K (fun a => [.int a.1, .int a.2.1, .int a.2.2]) (fun _ a => 0 ≤ a.1 ∧ (0 ≤ a.2.1 ∧ a.2.1 ≤ 6) ∧ 0 ≤ a.2.2 ∧ a.2.2 ≤ 30) fun ns a => .new ((lawVot ns a.1 a.2.1 a.2.2).map iD)
theorem len__law_voters {K : PySem.W.Frag} (vs : List V) (H : Hp) (Q : VK) (E : XK) (h : (sp__law_voters K) vs H Q E) : vs.length = 4 := by
  unfold sp__law_voters at h
  obtain ⟨ns, a, sa, r, rfl, _, h, _⟩ := h
  rw [List.length_cons, h.len]
  rfl
section
variable {P : Program} {w : World} {K : PySem.W.Frag} {mg : Str → Option Value} {base : Heap}
theorem ok__law_voters {f : Addr} {fd : FuncData} (D : Df K mg "_law_voters" s__law_voters ["script", "start", "many", "most"] f fd) (Bi : Bi mg) {f__law_cell_at : Addr} {fd__law_cell_at : FuncData} (D__law_cell_at : Df K mg "_law_cell_at" s__law_cell_at ["script", "k"] f__law_cell_at fd__law_cell_at) (G__law_cell_at : FnOk P w K mg base CX0 1 f__law_cell_at fd__law_cell_at ["script", "k"] (sp__law_cell_at K)) {f__law_order : Addr} {fd__law_order : FuncData} (D__law_order : Df K mg "_law_order" s__law_order ["cell", "many"] f__law_order fd__law_order) (G__law_order : FnOk P w K mg base CX0 1 f__law_order fd__law_order ["cell", "many"] sp__law_order) : FnOk P w K mg base CX0 2 f fd ["script", "start", "many", "most"] (sp__law_voters K) := by
  refine D.F.ok c__law_voters (fun vs H Q E h => len__law_voters _ _ _ _ h) (fun cdv A outer s H vs Q E hr h => ?_)
  refine ⟨_, (pss_cons (ps_set (i := 4) c__law_voters.nd rfl (.inl rfl) (pe_op op_modI (pe_call G__law_cell_at (hr.mono (by decide)) (by rfl) D__law_cell_at.g D__law_cell_at.F.kp D__law_cell_at.b .nil pass0 (pa_cons (pv 0) (pa_cons (pv 1) pa_nil))) (pe_op op_addI (pv 3) pe_int)))
      (pss_cons (ps_setLc (i := 5) (own := [("k", 7)]) (g := (gName 7)) (tt := tYes) rfl c__law_voters.nd rfl rfl (sw_true rfl rfl rfl (by decide +kernel)) (pi_range1 (by rfl) Bi.range (pa_cons (pv 4) pa_nil)) (blkOk_by (own := [("k", 7)]) (N := ["script", "start", "many", "most", "count", "voters", "more", "k"]) (sc := defScope s__law_voters) (by decide +kernel)) (fun _ _ _ _ _ => (pg_name (i := 7) c__law_voters.nd rfl (.inl rfl))) (fun _ _ _ _ _ => pts_nil) (fun _ _ _ _ _ => (pe_call G__law_order (hr.mono (by decide)) (by rfl) D__law_order.g D__law_order.F.kp D__law_order.b .nil pass0 (pa_cons (pe_call G__law_cell_at (hr.mono (by decide)) (by rfl) D__law_cell_at.g D__law_cell_at.F.kp D__law_cell_at.b .nil pass0 (pa_cons (pv 0) (pa_cons (pe_op op_addI (pe_op op_addI (pv 1) pe_int) (pv 7)) pa_nil))) (pa_cons (pv 2) pa_nil)))))
      (pss_cons (ps_set (i := 6) c__law_voters.nd rfl (.inl rfl) (pe_op op_divI (pe_call G__law_cell_at (hr.mono (by decide)) (by rfl) D__law_cell_at.g D__law_cell_at.F.kp D__law_cell_at.b .nil pass0 (pa_cons (pv 0) (pa_cons (pv 1) pa_nil))) (pe_op op_addI (pv 3) pe_int)))
      (pss_cons (ps_if (pt_cmpR op_eqI (pe_op op_modI (pv 6) pe_int) pe_int (nomark _))
      (pss_one (ps_ret (pe_slice (sl_listK (K := K)) (pe_op op_rep (pv 5) pe_int) po_none (po_some (pe_op op_addI (pv 3) (pe_op op_modI (pe_op op_divI (pv 6) pe_int) (pe_op op_subI pe_int (pv 3))))))))
      pss_nil)
      (pss_one (ps_ret (pe_op op_cat (pv 5) (pe_slice (sl_listK (K := K)) (pv 5) po_none (po_some (pe_op op_modI (pv 6) pe_int)))))))))), ?_⟩
  obtain ⟨ns, ⟨start, m, most⟩, sa, _, rfl, hs, ⟨v2, _, rfl, rfl, v3, _, rfl, rfl, v4, _, rfl, rfl, rfl⟩, ⟨s0, ⟨m0, m6⟩, t0, t9⟩, q⟩ := h
  dsimp only at q s0 m0 m6 t0 t9
  have cn := Int.emod_nonneg (cellF ns start) (show most + 1 ≠ 0 by omega)
  have cl := Int.emod_lt_of_pos (cellF ns start) (show 0 < most + 1 by omega)
  have vl := votBase_len ns start m t0
  -- count
  refine' s_asgI (n := cellF ns start % (most + 1)) (evd_op (ev_cell hs rfl ?a s0) ?b (rd_modI (by omega))) fun H1 e1 => ?_
  case a => wtm_at "ev"
  case b => wtm_at "ev"
  wtm_at "nx"
  have hs1 := ex_l e1 hs
  -- voters
  have eb : (votBase ns start m most).map iD = ((rgI 0 (cellF ns start % (most + 1)).toNat).filter fun _ => true).map fun k => iD (lawOrd (cellF ns (start + 1 + k)) m) := by
    unfold votBase
    rw [List.filter_eq_self.mpr (fun _ _ => rfl), List.map_map]
    rfl
  refine' s_asgNw (ds := (votBase ns start m most).map iD) ?x fun p vs H2 hp e2 k1 k2 => ?_
  case x =>
    rw [eb]
    refine' evn_lcR (n := cellF ns start % (most + 1)) _ _ ?es (by omega) ?turn ?imm
    case es => wtm_at "es"
    case imm => exact fun x _ _ _ => imm_iD _
    case turn =>
      intro x H5 x0 x1 e5
      refine ⟨_, fun Q hq => hq, rfl, et_yes, fun _ => ?_⟩
      refine' ev_order (ev_cell (ex_l e5 hs1) rfl ?a (by omega)) ?b ⟨m0, m6⟩
      case a => wtm_at "ev"
      case b => wtm_at "ev"
  wtm_at "nx"
  have hs2 := ex_l e2 hs1
  have hv : Rp H2 (vD (votBase ns start m most)) (.ref p) := ⟨p, vs, rfl, k1, k2⟩
  -- more
  refine' s_asgI (n := cellF ns start / (most + 1)) (evd_op (ev_cell hs2 rfl ?a s0) ?b (rd_divI ⟨by omega, by omega⟩)) fun H3 e3 => ?_
  case a => wtm_at "ev"
  case b => wtm_at "ev"
  wtm_at "nx"
  have hv3 := hv.ex e3
  have e123 := (e1.trans e2).trans e3
  generalize hmore : cellF ns start / (most + 1) = more
  unfold lawVot at q
  rw [hmore] at q
  refine' s_if (b := decide (more % 8 = 5)) ?t ?yes ?no
  case t => wtm_at "et"
  case yes =>
    intro hb H4 e4
    have hb' : more % 8 = 5 := by simpa using hb
    rw [if_pos hb'] at q
    have d0 := Int.emod_nonneg (more / 8) (show 61 - most ≠ 0 by omega)
    have d1 := Int.emod_lt_of_pos (more / 8) (show 0 < 61 - most by omega)
    have hk : most + more / 8 % (61 - most) = (((most + more / 8 % (61 - most)).toNat : Nat) : Int) := by omega
    refine' s_retNw (ds := cutA (List.replicate (60 : Int).toNat ((votBase ns start m most).map iD)).flatten none (some (((most + more / 8 % (61 - most)).toNat : Nat) : Int))) (evn_slL (evn_rep ?a ?b (by omega) (by rw [List.length_map]; omega)).toD evp_none (evp_some ?c)) fun p2 ws H5 hn e5 g1 g2 => ?_
    case a => exact evd_var rfl (hv3.ex e4)
    case b => wtm_at "ev"
    case c =>
      rw [← hk]
      wtm_at "ev"
    rw [cutA_to] at g2
    refine q p2 ws H5 (fresh_back (e123.trans e4) hn) ((e123.trans e4).trans e5) g1 ?_
    have ef : ∀ n, (List.replicate n ((votBase ns start m most).map iD)).flatten = (List.replicate n (votBase ns start m most)).flatten.map iD := fun n => by
      rw [List.map_flatten, List.map_replicate]
    rw [List.map_take, ← ef]
    exact g2
  case no =>
    intro hb H4 e4
    wtm_at "nx"
    have hb' : ¬ more % 8 = 5 := by simpa using hb
    rw [if_neg hb'] at q
    have d0 := Int.emod_nonneg more (show (4 : Int) ≠ 0 by omega)
    have d1 := Int.emod_lt_of_pos more (show (0 : Int) < 4 by omega)
    have hk : more % 4 = (((more % 4).toNat : Nat) : Int) := by omega
    refine' s_retNw (ds := (votBase ns start m most).map iD ++ cutA ((votBase ns start m most).map iD) none (some (((more % 4).toNat : Nat) : Int))) (evn_cat ?a (evn_slL ?b evp_none (evp_some ?c)).toD ?d) fun p2 ws H5 hn e5 g1 g2 => ?_
    case a => exact evd_var rfl (hv3.ex e4)
    case b => exact evd_var rfl (hv3.ex e4)
    case c =>
      rw [← hk]
      wtm_at "ev"
    case d =>
      rw [cutA_to, List.length_take, List.length_map]
      omega
    rw [cutA_to] at g2
    refine q p2 ws H5 (fresh_back (e123.trans e4) hn) ((e123.trans e4).trans e5) g1 ?_
    rw [List.map_append, List.map_take]
    exact g2
end
theorem ev_voters {K : PySem.W.Frag} {σ : L2.St} {H : Hp} {t1 t2 t3 : TE} {E : XK} {ns : List Int} {sa : Addr} {i : Nat} {start m most : Int} (hs : SqL K H sa (ns.map V.int)) (hi : σ[i]? = some (some (.ref sa))) (h1 : EvD t1 σ H (.int start)) (h2 : EvD t2 σ H (.int m)) (h3 : EvD t3 σ H (.int most))
    (p : 0 ≤ start) (p2 : 0 ≤ m ∧ m ≤ 6) (p3 : 0 ≤ most ∧ most ≤ 30) : EvN (tCall (sp__law_voters K) [] E (tCons (tVar i) (tCons t1 (tCons t2 (tCons t3 tNil))))) σ H ((lawVot ns start m most).map iD) := evn_callS (start, m, most) hs hi (evs_cons h1 (evs_cons h2 (evs_cons h3 evs_nil))) ⟨p, p2, p3⟩ rfl
end Bm

namespace Bm
open PySem PySem.Spec PyProof.Rows L2 Evl
local macro_rules | `(tactic| wtm_at "rp") => `(tactic| first | exact rp_int | exact rp_bl | exact rp_str | exact rp_non | assumption | (refine' Rp.ex ?e ?h; (case h => assumption); (case e => assumption)) | exact Own.rp (by assumption))
local macro_rules | `(tactic| wtm_at "side") => `(tactic| first | assumption | omega | decide | rfl | exact ⟨by omega, by omega⟩)
local macro_rules | `(tactic| wtm_at "es") => `(tactic| first | exact evs_nil | (refine' evs_cons ?a ?b; (case a => wtm_at "ev"); (case b => wtm_at "es")))
local macro_rules | `(tactic| wtm_at "ev") => `(tactic| first
  | exact evd_int | exact evd_str | exact evd_bl | exact evd_non
  | (refine' evd_var rfl ?h; (case h => wtm_at "rp"))
  | ((with_reducible refine' evd_op ?a ?b rd_addI); (case a => wtm_at "ev"); (case b => wtm_at "ev"))
  | ((with_reducible refine' evd_op ?a ?b rd_subI); (case a => wtm_at "ev"); (case b => wtm_at "ev"))
  | ((with_reducible refine' evd_op ?a ?b (rd_mulI ?c)); (case a => wtm_at "ev"); (case b => wtm_at "ev"); (case c => wtm_at "side"))
  | ((with_reducible refine' evd_op ?a ?b (rd_divI ?c)); (case a => wtm_at "ev"); (case b => wtm_at "ev"); (case c => wtm_at "side"))
  | ((with_reducible refine' evd_op ?a ?b (rd_modI ?c)); (case a => wtm_at "ev"); (case b => wtm_at "ev"); (case c => wtm_at "side"))
  | ((with_reducible refine' evd_op ?a ?b rd_ltI); (case a => wtm_at "ev"); (case b => wtm_at "ev"))
  | ((with_reducible refine' evd_op ?a ?b rd_leI); (case a => wtm_at "ev"); (case b => wtm_at "ev"))
  | ((with_reducible refine' evd_op ?a ?b rd_gtI); (case a => wtm_at "ev"); (case b => wtm_at "ev"))
  | ((with_reducible refine' evd_op ?a ?b rd_geI); (case a => wtm_at "ev"); (case b => wtm_at "ev"))
  | ((with_reducible refine' evd_op ?a ?b rd_eqI); (case a => wtm_at "ev"); (case b => wtm_at "ev"))
  | ((with_reducible refine' evd_op ?a ?b rd_neI); (case a => wtm_at "ev"); (case b => wtm_at "ev"))
  | ((with_reducible refine' evd_op ?a ?b rd_eqB); (case a => wtm_at "ev"); (case b => wtm_at "ev"))
  | ((with_reducible refine' evd_op ?a ?b rd_neB); (case a => wtm_at "ev"); (case b => wtm_at "ev"))
  | ((with_reducible refine' evd_op ?a ?b rd_isNo); (case a => wtm_at "ev"); (case b => wtm_at "ev"))
  | ((with_reducible refine' evd_op ?a ?b rd_notNo); (case a => wtm_at "ev"); (case b => wtm_at "ev"))
  | ((with_reducible refine' evd_op ?a ?b rd_inIL); (case a => wtm_at "ev"); (case b => wtm_at "ev"))
  | ((with_reducible refine' evd_op ?a ?b rd_niIL); (case a => wtm_at "ev"); (case b => wtm_at "ev"))
  | ((with_reducible refine' evd_op ?a ?b rd_inID); (case a => wtm_at "ev"); (case b => wtm_at "ev"))
  | ((with_reducible refine' evd_op ?a ?b rd_niID); (case a => wtm_at "ev"); (case b => wtm_at "ev"))
  | ((with_reducible refine' evd_neg ?a); (case a => wtm_at "ev"))
  | ((with_reducible refine' evd_tix ?a ?b ?c); (case a => wtm_at "ev"); (case b => wtm_at "ev"); (case c => wtm_at "side"))
  | ((with_reducible refine' evd_tup ?a ?b); (case a => wtm_at "es"); (case b => exact Nat.le_of_ble_eq_true rfl))
  | ((with_reducible refine' evd_cb ?a cd_lenL); (case a => wtm_at "es"))
  | ((with_reducible refine' evd_cb ?a cd_lenT); (case a => wtm_at "es"))
  | ((with_reducible refine' evd_cb ?a cd_intB); (case a => wtm_at "es"))
  | ((with_reducible refine' evd_cb ?a cd_tupL); (case a => wtm_at "es"))
  | ((with_reducible refine' evd_and ?a ?b); (case a => wtm_at "ev"); (case b => intro _; wtm_at "ev"))
  | ((with_reducible refine' evd_or ?a ?b); (case a => wtm_at "ev"); (case b => intro _; wtm_at "ev"))
  | ((with_reducible refine' evd_not ?a); (case a => wtm_at "ev"))
  | ((with_reducible refine' evd_op ?a ?b rd_neIL); (case a => wtm_at "ev"); (case b => wtm_at "ev"))
  | ((with_reducible refine' evd_op ?a ?b rd_eqIL); (case a => wtm_at "ev"); (case b => wtm_at "ev"))
  | ((with_reducible refine' EvN.toD ?a); (case a => wtm_at "en")))
local macro_rules | `(tactic| wtm_at "en") => `(tactic| first
  | ((with_reducible refine' evn_cb ?a cn_sortTI); (case a => wtm_at "es"))
  | ((with_reducible refine' evn_cb ?a cn_listL); (case a => wtm_at "es"))
  | ((with_reducible refine' evn_cb ?a cn_listT); (case a => wtm_at "es"))
  | ((with_reducible refine' evn_rng ?a ?b); (case a => wtm_at "ev"); (case b => wtm_at "side"))
  | ((with_reducible refine' evn_lst ?a ?b); (case a => wtm_at "es"); (case b => exact Nat.le_of_ble_eq_true rfl))
  | ((with_reducible refine' evn_cat ?a ?b ?c); (case a => wtm_at "ev"); (case b => wtm_at "ev"); (case c => wtm_at "side"))
  | ((with_reducible refine' evn_slL ?a ?b ?c); (case a => wtm_at "ev"); (case b => first | exact evp_none | (refine' evp_some ?d; (case d => wtm_at "ev"))); (case c => first | exact evp_none | (refine' evp_some ?d; (case d => wtm_at "ev")))))
local macro_rules | `(tactic| wtm_at "et") => `(tactic| first
  | exact et_yes
  | (refine' ett ?a; (case a => wtm_at "ev"))
  | (refine' etB ?a; (case a => wtm_at "ev"))
  | (refine' et_and ?a ?b; (case a => wtm_at "et"); (case b => intro _; wtm_at "et"))
  | (refine' et_or ?a ?b; (case a => wtm_at "et"); (case b => intro _; wtm_at "et"))
  | (refine' et_not ?a; (case a => wtm_at "et")))
local macro_rules | `(tactic| wtm_at "nx") => `(tactic| try dsimp only [tSeq, tNext])
/-! ### a drawn web -/
def wish1 (way : Int) (st : List Int) (p : Int × Int) (cell : Int) : Int := if way = 3 then (if cell % 3 < 2 then (if ixOf p.2 st < ixOf p.1 st then 1 else 0) else cell % 3) else cell % 3
def wish2 (way : Int) (st : List Int) (p : Int × Int) (cell : Int) : Int := if way = 1 then wish1 way st p cell % 2 else wish1 way st p cell
def pickF (way : Int) (st : List Int) (p : Int × Int) (cell : Int) : List (Int × Int) := if wish2 way st p cell < 2 ∨ way = 2 then [if wish2 way st p cell % 2 = 0 then p else swp p] else []
def webL (way : Int) (st : List Int) : List (Int × Int) → Int → List (Int × Int)
  | [], _ => []
  | p :: r, cell => pickF way st p cell ++ webL way st r (cell / 3)
def webRaw (ns : List Int) (start m : Int) : List (Int × Int) := webL (cellF ns (start + 1) % 4) (lawOrd (cellF ns (start + 1) / 16) m) (prs m 0) (cellF ns start)
def lawTurn (ns : List Int) (start m : Int) : Nat := (cellF ns (start + 1) / 4 % ((webRaw ns start m).length + 1 : Int)).toNat
def lawWeb (ns : List Int) (start m : Int) : List (Int × Int) := (webRaw ns start m).drop (lawTurn ns start m) ++ (webRaw ns start m).take (lawTurn ns start m)
theorem pickF_len (way : Int) (st : List Int) (p : Int × Int) (cell : Int) : (pickF way st p cell).length ≤ 1 := by
  unfold pickF
  split
  · exact Nat.le_refl _
  · exact Nat.zero_le _
theorem webL_len (way : Int) (st : List Int) : ∀ (r : List (Int × Int)) (cell : Int), (webL way st r cell).length ≤ r.length
  | [], _ => Nat.le_refl _
  | p :: r, cell => by
    have := pickF_len way st p cell
    have := webL_len way st r (cell / 3)
    show (pickF way st p cell ++ webL way st r (cell / 3)).length ≤ _
    rw [List.length_append, List.length_cons]
    omega
theorem webL_mem {way : Int} {st : List Int} {q : Int × Int} : ∀ {r : List (Int × Int)} {cell : Int}, q ∈ webL way st r cell → q ∈ r ∨ swp q ∈ r
  | [], _, h => by simp [webL] at h
  | p :: r, cell, h => by
    rcases List.mem_append.mp (show q ∈ pickF way st p cell ++ webL way st r (cell / 3) from h) with h | h
    · unfold pickF at h
      split at h
      · rw [List.mem_singleton] at h
        split at h
        · exact .inl (h ▸ List.mem_cons_self)
        · exact .inr (by rw [h, swp_swp]; exact List.mem_cons_self)
      · cases h
    · exact (webL_mem h).imp (List.mem_cons_of_mem _) (List.mem_cons_of_mem _)
theorem webL_nodup {way : Int} {st : List Int} : ∀ {r : List (Int × Int)} {cell : Int}, (∀ p ∈ r, p.1 < p.2) → r.Nodup → ((webL way st r cell).map nrm).Nodup
  | [], _, _, _ => List.nodup_nil
  | p :: r, cell, h, n => by
    have ih := webL_nodup (way := way) (st := st) (r := r) (cell := cell / 3) (fun q hq => h q (List.mem_cons_of_mem _ hq)) (List.nodup_cons.mp n).2
    have hp := h p List.mem_cons_self
    have key : nrm p ∉ (webL way st r (cell / 3)).map nrm := fun z => by
      have np := (List.nodup_cons.mp n).1
      have ns : swp p ∉ r := fun z => by
        have := h _ (List.mem_cons_of_mem _ z)
        have e : (swp p).1 < (swp p).2 := this
        unfold swp at e
        dsimp only at e
        omega
      rcases nrm_mem.mp z with z | z
      · exact (webL_mem z).elim np ns
      · exact (webL_mem z).elim ns np
    show ((pickF way st p cell ++ webL way st r (cell / 3)).map nrm).Nodup
    unfold pickF
    split
    · rw [List.singleton_append, List.map_cons]
      refine List.nodup_cons.mpr ⟨?_, ih⟩
      have e : ∀ b : Bool, nrm (if b = true then p else swp p) = nrm p := fun b => by
        cases b with
        | true => rfl
        | false => exact nrm_iff.mpr (.inr rfl)
      have e2 := e (decide (wish2 way st p cell % 2 = 0))
      simp only [decide_eq_true_eq] at e2
      rw [e2]
      exact key
    · exact ih
theorem webRaw_web (ns : List Int) (start : Int) {m : Int} : isWeb m (webRaw ns start m) := by
  unfold webRaw
  refine isWeb_set.mpr ⟨fun p hp => ?_, webL_nodup (fun p hp => (mem_prs.mp hp).2.1) (prs_nodup m 0)⟩
  rw [goodB_iff]
  rcases webL_mem hp with h | h
  · rw [mem_prs] at h
    omega
  · rw [mem_prs] at h
    unfold swp at h
    dsimp only at h
    omega
theorem webRaw_len (ns : List Int) (start : Int) {m : Int} (hm : 0 ≤ m ∧ m ≤ 6) : (webRaw ns start m).length ≤ 15 := Nat.le_trans (webL_len _ _ _ _) (prs_len hm)
theorem lawWeb_perm (ns : List Int) (start m : Int) : (lawWeb ns start m).Perm (webRaw ns start m) := by
  unfold lawWeb
  have := List.perm_append_comm (l₁ := (webRaw ns start m).drop (lawTurn ns start m)) (l₂ := (webRaw ns start m).take (lawTurn ns start m))
  rwa [List.take_append_drop] at this
theorem lawWeb_web (ns : List Int) (start m : Int) : isWeb m (lawWeb ns start m) := (webRaw_web ns start).perm (lawWeb_perm ns start m).symm
theorem lawWeb_len (ns : List Int) (start : Int) {m : Int} (hm : 0 ≤ m ∧ m ≤ 6) : (lawWeb ns start m).length ≤ 15 := by
  rw [(lawWeb_perm ns start m).length_eq]
  exact webRaw_len ns start hm
def sp__law_web (K : PySem.W.Frag) : Sp := spS (α := Int × Int) K (fun a => [.int a.1, .int a.2]) (fun _ a => 0 ≤ a.1 ∧ 0 ≤ a.2 ∧ a.2 ≤ 6) fun ns a => .new ((lawWeb ns a.1 a.2).map pD)
theorem len__law_web {K : PySem.W.Frag} (vs : List V) (H : Hp) (Q : VK) (E : XK) (h : (sp__law_web K) vs H Q E) : vs.length = 3 := by
  unfold sp__law_web at h
  obtain ⟨ns, a, sa, r, rfl, _, h, _⟩ := h
  rw [List.length_cons, h.len]
  rfl
section
variable {P : Program} {w : World} {K : PySem.W.Frag} {mg : Str → Option Value} {base : Heap}
theorem ok__law_web {f : Addr} {fd : FuncData} (D : Df K mg "_law_web" s__law_web ["script", "start", "many"] f fd) (Bi : Bi mg) {f__law_cell_at : Addr} {fd__law_cell_at : FuncData} (D__law_cell_at : Df K mg "_law_cell_at" s__law_cell_at ["script", "k"] f__law_cell_at fd__law_cell_at) (G__law_cell_at : FnOk P w K mg base CX0 1 f__law_cell_at fd__law_cell_at ["script", "k"] (sp__law_cell_at K)) {f__law_order : Addr} {fd__law_order : FuncData} (D__law_order : Df K mg "_law_order" s__law_order ["cell", "many"] f__law_order fd__law_order) (G__law_order : FnOk P w K mg base CX0 1 f__law_order fd__law_order ["cell", "many"] sp__law_order) : FnOk P w K mg base CX0 2 f fd ["script", "start", "many"] (sp__law_web K) := by
  refine D.F.ok c__law_web (fun vs H Q E h => len__law_web _ _ _ _ h) (fun cdv A outer s H vs Q E hr h => ?_)
  refine ⟨_, (pss_cons (ps_set (i := 3) c__law_web.nd rfl (.inl rfl) (pe_call G__law_cell_at (hr.mono (by decide)) (by rfl) D__law_cell_at.g D__law_cell_at.F.kp D__law_cell_at.b .nil pass0 (pa_cons (pv 0) (pa_cons (pv 1) pa_nil))))
      (pss_cons (ps_set (i := 4) c__law_web.nd rfl (.inl rfl) (pe_op op_modI (pe_call G__law_cell_at (hr.mono (by decide)) (by rfl) D__law_cell_at.g D__law_cell_at.F.kp D__law_cell_at.b .nil pass0 (pa_cons (pv 0) (pa_cons (pe_op op_addI (pv 1) pe_int) pa_nil))) pe_int))
      (pss_cons (ps_set (i := 5) c__law_web.nd rfl (.inl rfl) (pe_lst pa_nil))
      (pss_cons (ps_set (i := 6) c__law_web.nd rfl (.inl rfl) (pe_listRg rfl (by rfl) Bi.list (prg_1 (by rfl) Bi.range (pv 2))))
      (pss_cons (ps_if (pt_cmpR op_eqI (pv 4) pe_int (nomark _))
      (pss_one (ps_set (i := 6) c__law_web.nd rfl (.inl rfl) (pe_call G__law_order (hr.mono (by decide)) (by rfl) D__law_order.g D__law_order.F.kp D__law_order.b .nil pass0 (pa_cons (pe_op op_divI (pe_call G__law_cell_at (hr.mono (by decide)) (by rfl) D__law_cell_at.g D__law_cell_at.F.kp D__law_cell_at.b .nil pass0 (pa_cons (pv 0) (pa_cons (pe_op op_addI (pv 1) pe_int) pa_nil))) pe_int) (pa_cons (pv 2) pa_nil)))))
      pss_nil)
      (pss_cons (ps_for (PassesOwn.never) rfl (pi_range1 (by rfl) Bi.range (pa_cons (pv 2) pa_nil)) (pg_name (i := 7) c__law_web.nd rfl (.inl rfl))
      (pss_one (ps_for (PassesOwn.never) rfl (pi_range2 (by rfl) Bi.range (pa_cons (pe_op op_addI (pv 7) pe_int) (pa_cons (pv 2) pa_nil))) (pg_name (i := 8) c__law_web.nd rfl (.inl rfl))
      (pss_cons (ps_set (i := 9) c__law_web.nd rfl (.inl rfl) (pe_op op_modI (pv 3) pe_int))
      (pss_cons (ps_set (i := 3) c__law_web.nd rfl (.inl rfl) (pe_op op_divI (pv 3) pe_int))
      (pss_cons (ps_if (pt_cmpR op_eqI (pv 4) pe_int (nomark _))
      (pss_one (ps_if (pt_cmpR op_ltI (pv 9) pe_int (nomark _))
      (pss_one (ps_set (i := 9) c__law_web.nd rfl (.inl rfl) (pe_callTy cr_intB (by rfl) Bi.int (by decide +kernel) (pa_cons (pe_cmpR op_gtI (pe_tm PySem.F.plainAttrs_tuple PySem.F.slot_tuple_index PySem.F.type_tuple_index (mt_tupIxK (K := K)) (pv 6) (pa_cons (pv 7) pa_nil)) (pe_tm PySem.F.plainAttrs_tuple PySem.F.slot_tuple_index PySem.F.type_tuple_index (mt_tupIxK (K := K)) (pv 6) (pa_cons (pv 8) pa_nil)) (nomark _)) pa_nil))))
      pss_nil))
      pss_nil)
      (pss_cons (ps_if (pt_cmpR op_eqI (pv 4) pe_int (nomark _))
      (pss_one (ps_set (i := 9) c__law_web.nd rfl (.inl rfl) (pe_op op_modI (pv 9) pe_int)))
      pss_nil)
      (pss_one (ps_if (PW.pt (pw_or (pt_cmpR op_ltI (pv 9) pe_int (nomark _)) (pw_or1 (pt_cmpR op_eqI (pv 4) pe_int (nomark _)))))
      (pss_one (ps_expr (pe_bm PySem.F.plainAttrs_list PySem.F.slot_list_append PySem.F.type_list_append mt_append (pv 5) (pa_cons (pe_ix (ix_listK (K := K)) (pe_lst (pa_cons (pe_tupF (pa_cons (pv 7) (pa_cons (pv 8) pa_nil))) (pa_cons (pe_tupF (pa_cons (pv 8) (pa_cons (pv 7) pa_nil))) pa_nil))) (pe_op op_modI (pv 9) pe_int) (fun _ _ => rfl)) pa_nil))))
      pss_nil)))))))))
      (pss_cons (ps_set (i := 10) c__law_web.nd rfl (.inl rfl) (pe_op op_modI (pe_op op_divI (pe_call G__law_cell_at (hr.mono (by decide)) (by rfl) D__law_cell_at.g D__law_cell_at.F.kp D__law_cell_at.b .nil pass0 (pa_cons (pv 0) (pa_cons (pe_op op_addI (pv 1) pe_int) pa_nil))) pe_int) (pe_op op_addI (pe_callB (cr_lenK (K := K)) (by rfl) Bi.len (by decide +kernel) (pa_cons (pv 5) pa_nil)) pe_int)))
      (pss_one (ps_ret (pe_op op_cat (pe_slice (sl_listK (K := K)) (pv 5) (po_some (pv 10)) po_none) (pe_slice (sl_listK (K := K)) (pv 5) po_none (po_some (pv 10))))))))))))), ?_⟩
  obtain ⟨ns, ⟨start, m⟩, sa, _, rfl, hs, ⟨v2, _, rfl, rfl, v3, _, rfl, rfl, rfl⟩, ⟨s0, m0, m6⟩, q⟩ := h
  dsimp only at q s0 m0 m6
  have hrl := webRaw_len ns start ⟨m0, m6⟩
  refine' s_asgI (n := cellF ns start) (ev_cell hs rfl ?a s0) fun H1 e1 => ?_
  case a => wtm_at "ev"
  wtm_at "nx"
  have hs1 := ex_l e1 hs
  refine' s_asgI (n := cellF ns (start + 1) % 4) (evd_op (ev_cell hs1 rfl ?a (by omega)) ?b (rd_modI (by omega))) fun H2 e2 => ?_
  case a => wtm_at "ev"
  case b => wtm_at "ev"
  wtm_at "nx"
  have hs2 := ex_l e2 hs1
  have e12 := e1.trans e2
  generalize hway : cellF ns (start + 1) % 4 = way
  refine' s_asgO (evn_lst evs_nil (by decide)) rfl fun pw H3 e3 o3 => ?_
  wtm_at "nx"
  have hs3 := ex_l e3 hs2
  have o3 := o3.lower e12
  -- how they stand
  generalize hst : lawOrd (cellF ns (start + 1) / 16) m = st
  have hord : isOrd m st := hst ▸ lawOrd_ord _ _
  have hraw : webL way st (prs m 0) (cellF ns start) = webRaw ns start m := by
    unfold webRaw
    rw [hway, hst]
  refine' s_asgNw (ds := (rgI 0 m.toNat).map .int) (evn_rng (n := m) ?n (by omega)) fun p4 vs4 H4 n4 e4 g1 g2 => ?_
  case n => wtm_at "ev"
  wtm_at "nx"
  have hs4 := ex_l e4 hs3
  have o4 := o3.step e4
  refine joinK (A := V) (fun v => [some (.ref sa), some (.int start), some (.int m), some (.int (cellF ns start)), some (.int way), some (.ref pw), some v, none, none, none, none])
    (fun v H' => Ex H4 H' ∧ (way = 3 → Rp H' (iD st) v)) (fun vst H5 => ?_) fun cont => ?_
  rotate_left
  · refine' s_if (b := decide (way = 3)) ?t ?yes ?no
    case t => wtm_at "et"
    case yes =>
      intro hb H5 e5
      have hs5 := ex_l e5 hs4
      refine' s_asgD (d := iD st) ((ev_order (c := cellF ns (start + 1) / 16) (m := m) (evd_op (ev_cell (k := start + 1) hs5 rfl ?a (by omega)) evd_int (rd_divI (j := 16) ⟨by omega, by omega⟩)) ?c ⟨m0, m6⟩).is (by rw [hst])) fun v H6 e6 r => ?_
      case a => wtm_at "ev"
      case c => wtm_at "ev"
      exact cont v H6 ⟨e5.trans e6, fun _ => r⟩
    case no =>
      intro hb H5 e5
      exact cont _ H5 ⟨e5, fun z => absurd z (by simpa using hb)⟩
  · rintro ⟨e5, hv5⟩
    wtm_at "nx"
    have o5 := o4.step e5
    have hbig : ∀ {acc r : List (Int × Int)} {cell : Int}, acc ++ webL way st r cell = webRaw ns start m → acc.length ≤ 15 := fun h => by
      have := congrArg List.length h
      rw [List.length_append] at this
      omega
    refine' s_forR (n := m) ?n (by omega) fun H6 e6 => ⟨fun i σ' H' => ∃ cell acc y z u, σ' = [some (.ref sa), some (.int start), some (.int m), some (.int cell), some (.int way), some (.ref pw), some vst, y, z, u, none] ∧ i ≤ m.toNat ∧ Own H H' pw (acc.map pD) ∧ (way = 3 → Rp H' (iD st) vst) ∧ acc ++ webL way st (prs m i) cell = webRaw ns start m, ?_, ?_, ?_⟩
    case n => wtm_at "es"
    · exact ⟨_, [], none, none, none, rfl, Nat.zero_le _, o5.step e6, fun h => (hv5 h).ex e6, hraw⟩
    · rintro i σ' H' hi ⟨cell, acc, y, z, u, rfl, hi2, o, hv, hm⟩
      refine g_name ?_
      refine' s_forR2 (lo := (i : Int) + 1) (n := m) ?n (by omega) fun H7 e7 => ⟨fun j σ' H' => ∃ cell acc z u, σ' = [some (.ref sa), some (.int start), some (.int m), some (.int cell), some (.int way), some (.ref pw), some vst, some (.int i), z, u, none] ∧ j ≤ (m - ((i : Int) + 1)).toNat ∧ Own H H' pw (acc.map pD) ∧ (way = 3 → Rp H' (iD st) vst) ∧
        acc ++ webL way st (rowP m i ((i : Int) + 1 + (j : Int)) ++ prs m ((i : Int) + 1)) cell = webRaw ns start m, ?_, ?_, ?_⟩
      case n => wtm_at "es"
      · refine ⟨cell, acc, z, u, rfl, Nat.zero_le _, o.step e7, fun h => (hv h).ex e7, ?_⟩
        rw [Int.natCast_zero, Int.add_zero, ← prs_step hi]
        exact hm
      · rintro j σ' H' hj ⟨cell, acc, z, u, rfl, hj2, o, hv, hm⟩
        generalize hb : (i : Int) + 1 + (j : Int) = b at hj hm
        rw [rowP_step hj, List.cons_append] at hm
        have hm : acc ++ (pickF way st ((i : Int), b) cell ++ webL way st (rowP m i (b + 1) ++ prs m ((i : Int) + 1)) (cell / 3)) = webRaw ns start m := hm
        have hacc := hbig (cell := cell) (r := ((i : Int), b) :: (rowP m i (b + 1) ++ prs m ((i : Int) + 1))) hm
        rw [← List.append_assoc] at hm
        refine g_name ?_
        refine' s_asgI (n := cell % 3) ?x fun H8 e8 => ?_
        case x => wtm_at "ev"
        wtm_at "nx"
        refine' s_asgI (n := cell / 3) (evd_op ?x ?y (rd_divI ⟨by omega, by omega⟩)) fun H9 e9 => ?_
        case x => wtm_at "ev"
        case y => wtm_at "ev"
        wtm_at "nx"
        have o9 := (o.step e8).step e9
        have hv9 : way = 3 → Rp H9 (iD st) vst := fun h => ((hv h).ex e8).ex e9
        -- the wish
        refine joinK (A := Unit) (fun _ => [some (.ref sa), some (.int start), some (.int m), some (.int (cell / 3)), some (.int way), some (.ref pw), some vst, some (.int i), some (.int b), some (.int (wish1 way st ((i : Int), b) cell)), none])
          (fun _ H' => Ex H9 H') (fun _ H10 e10 => ?_) fun cont => ?_
        rotate_left
        · refine' s_if (b := decide (way = 3)) ?t ?yes ?no
          case t => wtm_at "et"
          case no =>
            intro hb2 H10 e10
            have z := cont () H10 e10
            have nw : ¬ way = 3 := by simpa using hb2
            unfold wish1 at z
            rw [if_neg nw] at z
            exact z
          case yes =>
            intro hb2 H10 e10
            have hw3 : way = 3 := by simpa using hb2
            refine' s_if (b := decide (cell % 3 < 2)) ?t ?yes ?no
            case t => wtm_at "et"
            case no =>
              intro hb3 H11 e11
              have z := cont () H11 (e10.trans e11)
              unfold wish1 at z
              rw [if_pos hw3, if_neg (by simpa using hb3)] at z
              exact z
            case yes =>
              intro hb3 H11 e11
              have hv11 := ((hv9 hw3).ex e10).ex e11
              refine' s_asgI (n := if ixOf b st < ixOf (i : Int) st then 1 else 0) ?x fun H12 e12 => ?_
              case x =>
                have z : EvD (tCB rIntB (tCons (tOp rGtI (tTM (rIxI K) (tVar 6) (tCons (tVar 7) tNil)) (tTM (rIxI K) (tVar 6) (tCons (tVar 8) tNil))) tNil)) [some (V.ref sa), some (.int start), some (.int m), some (.int (cell / 3)), some (.int way), some (.ref pw), some vst, some (.int i), some (.int b), some (.int (cell % 3)), none] H11 (.int (if decide (((ixOf b st : Nat) : Int) < ((ixOf (i : Int) st : Nat) : Int)) then 1 else 0)) := by
                  refine' evd_cb (evs_cons (evd_op (evd_tix (evd_var rfl hv11) ?a (hord.mem.mpr (by omega))) (evd_tix (evd_var rfl hv11) ?b (hord.mem.mpr (by omega))) rd_gtI) evs_nil) cd_intB
                  case a => wtm_at "ev"
                  case b => wtm_at "ev"
                rw [show (if decide (((ixOf b st : Nat) : Int) < ((ixOf (i : Int) st : Nat) : Int)) then (1 : Int) else 0) = if ixOf b st < ixOf (i : Int) st then 1 else 0 by
                  simp only [decide_eq_true_eq, Int.ofNat_lt]] at z
                exact z
              have z := cont () H12 ((e10.trans e11).trans e12)
              unfold wish1 at z
              rw [if_pos hw3, if_pos (by simpa using hb3)] at z
              exact z
        · wtm_at "nx"
          have o10 := o9.step e10
          have hv10 : way = 3 → Rp H10 (iD st) vst := fun h => (hv9 h).ex e10
          refine joinK (A := Unit) (fun _ => [some (.ref sa), some (.int start), some (.int m), some (.int (cell / 3)), some (.int way), some (.ref pw), some vst, some (.int i), some (.int b), some (.int (wish2 way st ((i : Int), b) cell)), none])
            (fun _ H' => Ex H10 H') (fun _ H11 e11 => ?_) fun cont => ?_
          rotate_left
          · refine' s_if (b := decide (way = 1)) ?t ?yes ?no
            case t => wtm_at "et"
            case no =>
              intro hb2 H11 e11
              have z := cont () H11 e11
              unfold wish2 at z
              rw [if_neg (by simpa using hb2)] at z
              exact z
            case yes =>
              intro hb2 H11 e11
              refine' s_asgI (n := wish1 way st ((i : Int), b) cell % 2) ?x fun H12 e12 => ?_
              case x => wtm_at "ev"
              have z := cont () H12 (e11.trans e12)
              unfold wish2 at z
              rw [if_pos (by simpa using hb2)] at z
              exact z
          · wtm_at "nx"
            have o11 := o10.step e11
            have hv11 : way = 3 → Rp H11 (iD st) vst := fun h => (hv10 h).ex e11
            have hb1 : (i : Int) + 1 + ((j + 1 : Nat) : Int) = b + 1 := by omega
            refine' s_if (b := decide (wish2 way st ((i : Int), b) cell < 2) || decide (way = 2)) ?t ?yes ?no
            case t => wtm_at "et"
            case no =>
              intro hb2 H12 e12
              have hp : pickF way st ((i : Int), b) cell = [] := by
                unfold pickF
                rw [if_neg (by simpa using hb2)]
              rw [hp, List.append_nil] at hm
              refine ⟨cell / 3, acc, _, _, rfl, by omega, o11.step e12, fun h => (hv11 h).ex e12, ?_⟩
              rw [hb1]
              exact hm
            case yes =>
              intro hb2 H12 e12
              have hp : pickF way st ((i : Int), b) cell = [if wish2 way st ((i : Int), b) cell % 2 = 0 then ((i : Int), b) else swp ((i : Int), b)] := by
                unfold pickF
                rw [if_pos (by simpa using hb2)]
              rw [hp] at hm
              have w0 := Int.emod_nonneg (wish2 way st ((i : Int), b) cell) (show (2 : Int) ≠ 0 by omega)
              have w1 := Int.emod_lt_of_pos (wish2 way st ((i : Int), b) cell) (show (0 : Int) < 2 by omega)
              have o12 := o11.step e12
              have hv12 : way = 3 → Rp H12 (iD st) vst := fun h => (hv11 h).ex e12
              refine' s_appO (d := pD (if wish2 way st ((i : Int), b) cell % 2 = 0 then ((i : Int), b) else swp ((i : Int), b))) o12 rfl ?x rfl ?sz fun H13 x13 o13 => ?_
              case x =>
                refine' evd_op (EvN.toD (evn_lst (ds := [pD ((i : Int), b), pD (b, (i : Int))]) ?l (Nat.le_of_ble_eq_true rfl))) (y := .int (wish2 way st ((i : Int), b) cell % 2)) ?k (rd_ixL ?ix)
                case l => wtm_at "es"
                case k => wtm_at "ev"
                case ix =>
                  generalize wish2 way st ((i : Int), b) cell % 2 = k at w0 w1
                  have : k = 0 ∨ k = 1 := by omega
                  rcases this with rfl | rfl <;> rfl
              case sz =>
                rw [List.length_map]
                omega
              obtain ⟨ws, k1, _⟩ := o12.has
              refine ⟨cell / 3, acc ++ [if wish2 way st ((i : Int), b) cell % 2 = 0 then ((i : Int), b) else swp ((i : Int), b)], _, _, rfl, by omega, ?_, fun h => Rp.keep (x13.kt k1) (imm_iD _) (hv12 h), ?_⟩
              · rw [List.map_append]
                exact o13
              · rw [hb1]
                exact hm
      · rintro σ' H' ⟨cell, acc, z, u, rfl, _, o, hv, hm⟩
        refine ⟨cell, acc, _, _, _, rfl, by omega, o, hv, ?_⟩
        rw [rowP_end (by omega), List.nil_append] at hm
        rw [show ((i + 1 : Nat) : Int) = (i : Int) + 1 by omega]
        exact hm
    · rintro σ' H' ⟨cell, acc, y, z, u, rfl, _, o, hv, hm⟩
      wtm_at "nx"
      rw [prs_end (by omega)] at hm
      have hm : acc = webRaw ns start m := by
        rw [← hm]
        show acc = acc ++ []
        rw [List.append_nil]
      subst hm
      have hs' := ex_l o.ex hs
      have t0 := Int.emod_nonneg (cellF ns (start + 1) / 4) (show ((webRaw ns start m).length + 1 : Int) ≠ 0 by omega)
      have t1 := Int.emod_lt_of_pos (cellF ns (start + 1) / 4) (show (0 : Int) < ((webRaw ns start m).length + 1 : Int) by omega)
      have hk : cellF ns (start + 1) / 4 % ((webRaw ns start m).length + 1 : Int) = ((lawTurn ns start m : Nat) : Int) := by
        unfold lawTurn
        omega
      have lz : EvD (tCB (rLenS K) (tCons (tVar 5) tNil)) [some (V.ref sa), some (.int start), some (.int m), some (.int cell), some (.int way), some (.ref pw), some vst, y, z, u, none] H' (.int ((webRaw ns start m).map pD).length) := evd_cb (evs_cons (evd_var rfl o.rp) evs_nil) cd_lenL
      rw [List.length_map] at lz
      refine' s_asgI (n := ((lawTurn ns start m : Nat) : Int)) ((evd_op (evd_op (ev_cell (k := start + 1) hs' rfl ?a (by omega)) evd_int (rd_divI (j := 4) ⟨by omega, by omega⟩)) (evd_op lz evd_int (rd_addI (j := 1))) (rd_modI (by omega))).is (by rw [hk])) fun H7 e7 => ?_
      case a => wtm_at "ev"
      wtm_at "nx"
      have o7 := o.step e7
      refine' s_retNw (ds := cutA ((webRaw ns start m).map pD) (some ((lawTurn ns start m : Nat) : Int)) none ++ cutA ((webRaw ns start m).map pD) none (some ((lawTurn ns start m : Nat) : Int))) (evn_cat (evn_slL (evd_var rfl o7.rp) (evp_some ?a) evp_none).toD (evn_slL (evd_var rfl o7.rp) evp_none (evp_some ?b)).toD ?c) fun p8 ws8 H8 n8 e8 k1 k2 => ?_
      case a => wtm_at "ev"
      case b => wtm_at "ev"
      case c =>
        rw [cutA_to, cutA_from, List.length_take, List.length_drop, List.length_map]
        omega
      rw [cutA_to, cutA_from, ← List.map_take, ← List.map_drop, ← List.map_append] at k2
      exact q p8 ws8 H8 (fresh_back o7.ex n8) (o7.ex.trans e8) k1 k2
end
theorem ev_lweb {K : PySem.W.Frag} {σ : L2.St} {H : Hp} {t1 t2 : TE} {E : XK} {ns : List Int} {sa : Addr} {i : Nat} {start m : Int} (hs : SqL K H sa (ns.map V.int)) (hi : σ[i]? = some (some (.ref sa))) (h1 : EvD t1 σ H (.int start)) (h2 : EvD t2 σ H (.int m))
    (p : 0 ≤ start) (p2 : 0 ≤ m ∧ m ≤ 6) : EvN (tCall (sp__law_web K) [] E (tCons (tVar i) (tCons t1 (tCons t2 tNil)))) σ H ((lawWeb ns start m).map pD) := evn_callS (start, m) hs hi (evs_cons h1 (evs_cons h2 evs_nil)) ⟨p, p2⟩ rfl
end Bm

namespace Bm
open PySem PySem.Spec PyProof.Rows L2 Evl
local macro_rules | `(tactic| wtm_at "rp") => `(tactic| first | exact rp_int | exact rp_bl | exact rp_str | exact rp_non | assumption | (refine' Rp.ex ?e ?h; (case h => assumption); (case e => assumption)) | exact Own.rp (by assumption))
local macro_rules | `(tactic| wtm_at "side") => `(tactic| first | assumption | omega | decide | rfl | exact ⟨by omega, by omega⟩)
local macro_rules | `(tactic| wtm_at "es") => `(tactic| first | exact evs_nil | (refine' evs_cons ?a ?b; (case a => wtm_at "ev"); (case b => wtm_at "es")))
local macro_rules | `(tactic| wtm_at "ev") => `(tactic| first
  | exact evd_int | exact evd_str | exact evd_bl | exact evd_non
  | (refine' evd_var rfl ?h; (case h => wtm_at "rp"))
  | ((with_reducible refine' evd_op ?a ?b rd_addI); (case a => wtm_at "ev"); (case b => wtm_at "ev"))
  | ((with_reducible refine' evd_op ?a ?b rd_subI); (case a => wtm_at "ev"); (case b => wtm_at "ev"))
  | ((with_reducible refine' evd_op ?a ?b (rd_mulI ?c)); (case a => wtm_at "ev"); (case b => wtm_at "ev"); (case c => wtm_at "side"))
  | ((with_reducible refine' evd_op ?a ?b (rd_divI ?c)); (case a => wtm_at "ev"); (case b => wtm_at "ev"); (case c => wtm_at "side"))
  | ((with_reducible refine' evd_op ?a ?b (rd_modI ?c)); (case a => wtm_at "ev"); (case b => wtm_at "ev"); (case c => wtm_at "side"))
  | ((with_reducible refine' evd_op ?a ?b rd_ltI); (case a => wtm_at "ev"); (case b => wtm_at "ev"))
  | ((with_reducible refine' evd_op ?a ?b rd_leI); (case a => wtm_at "ev"); (case b => wtm_at "ev"))
  | ((with_reducible refine' evd_op ?a ?b rd_gtI); (case a => wtm_at "ev"); (case b => wtm_at "ev"))
  | ((with_reducible refine' evd_op ?a ?b rd_geI); (case a => wtm_at "ev"); (case b => wtm_at "ev"))
  | ((with_reducible refine' evd_op ?a ?b rd_eqI); (case a => wtm_at "ev"); (case b => wtm_at "ev"))
  | ((with_reducible refine' evd_op ?a ?b rd_neI); (case a => wtm_at "ev"); (case b => wtm_at "ev"))
  | ((with_reducible refine' evd_op ?a ?b rd_eqB); (case a => wtm_at "ev"); (case b => wtm_at "ev"))
  | ((with_reducible refine' evd_op ?a ?b rd_neB); (case a => wtm_at "ev"); (case b => wtm_at "ev"))
  | ((with_reducible refine' evd_op ?a ?b rd_isNo); (case a => wtm_at "ev"); (case b => wtm_at "ev"))
  | ((with_reducible refine' evd_op ?a ?b rd_notNo); (case a => wtm_at "ev"); (case b => wtm_at "ev"))
  | ((with_reducible refine' evd_op ?a ?b rd_inIL); (case a => wtm_at "ev"); (case b => wtm_at "ev"))
  | ((with_reducible refine' evd_op ?a ?b rd_niIL); (case a => wtm_at "ev"); (case b => wtm_at "ev"))
  | ((with_reducible refine' evd_op ?a ?b rd_inID); (case a => wtm_at "ev"); (case b => wtm_at "ev"))
  | ((with_reducible refine' evd_op ?a ?b rd_niID); (case a => wtm_at "ev"); (case b => wtm_at "ev"))
  | ((with_reducible refine' evd_neg ?a); (case a => wtm_at "ev"))
  | ((with_reducible refine' evd_tix ?a ?b ?c); (case a => wtm_at "ev"); (case b => wtm_at "ev"); (case c => wtm_at "side"))
  | ((with_reducible refine' evd_tup ?a ?b); (case a => wtm_at "es"); (case b => exact Nat.le_of_ble_eq_true rfl))
  | ((with_reducible refine' evd_cb ?a cd_lenL); (case a => wtm_at "es"))
  | ((with_reducible refine' evd_cb ?a cd_lenT); (case a => wtm_at "es"))
  | ((with_reducible refine' evd_cb ?a cd_intB); (case a => wtm_at "es"))
  | ((with_reducible refine' evd_cb ?a cd_tupL); (case a => wtm_at "es"))
  | ((with_reducible refine' evd_and ?a ?b); (case a => wtm_at "ev"); (case b => intro _; wtm_at "ev"))
  | ((with_reducible refine' evd_or ?a ?b); (case a => wtm_at "ev"); (case b => intro _; wtm_at "ev"))
  | ((with_reducible refine' evd_not ?a); (case a => wtm_at "ev"))
  | ((with_reducible refine' evd_op ?a ?b rd_neIL); (case a => wtm_at "ev"); (case b => wtm_at "ev"))
  | ((with_reducible refine' evd_op ?a ?b rd_eqIL); (case a => wtm_at "ev"); (case b => wtm_at "ev"))
  | ((with_reducible refine' EvN.toD ?a); (case a => wtm_at "en")))
local macro_rules | `(tactic| wtm_at "en") => `(tactic| first
  | ((with_reducible refine' evn_cb ?a cn_sortTI); (case a => wtm_at "es"))
  | ((with_reducible refine' evn_cb ?a cn_listL); (case a => wtm_at "es"))
  | ((with_reducible refine' evn_cb ?a cn_listT); (case a => wtm_at "es"))
  | ((with_reducible refine' evn_rng ?a ?b); (case a => wtm_at "ev"); (case b => wtm_at "side"))
  | ((with_reducible refine' evn_lst ?a ?b); (case a => wtm_at "es"); (case b => exact Nat.le_of_ble_eq_true rfl))
  | ((with_reducible refine' evn_cat ?a ?b ?c); (case a => wtm_at "ev"); (case b => wtm_at "ev"); (case c => wtm_at "side"))
  | ((with_reducible refine' evn_slL ?a ?b ?c); (case a => wtm_at "ev"); (case b => first | exact evp_none | (refine' evp_some ?d; (case d => wtm_at "ev"))); (case c => first | exact evp_none | (refine' evp_some ?d; (case d => wtm_at "ev")))))
local macro_rules | `(tactic| wtm_at "et") => `(tactic| first
  | exact et_yes
  | (refine' ett ?a; (case a => wtm_at "ev"))
  | (refine' etB ?a; (case a => wtm_at "ev"))
  | (refine' et_and ?a ?b; (case a => wtm_at "et"); (case b => intro _; wtm_at "et"))
  | (refine' et_or ?a ?b; (case a => wtm_at "et"); (case b => intro _; wtm_at "et"))
  | (refine' et_not ?a; (case a => wtm_at "et")))
local macro_rules | `(tactic| wtm_at "nx") => `(tactic| try dsimp only [tSeq, tNext])
/-! ### the refusals asked: _law_asked, _law_flags -/
def kindF (way m : Int) (vs : List (List Int)) (ps : List (Int × Int)) : Option Nat := if ¬ okCount m then some 0 else if way ≤ 4 ∧ ¬ isVot m vs then some 1 else if 3 ≤ way ∧ ¬ isWeb m ps then some 2 else if 9 ≤ way ∧ 4 < m then some 3 else none
def ckA (C1 C2 C3 C4 : Addr) : Nat → Addr
  | 0 => C1
  | 1 => C2
  | 2 => C3
  | _ => C4
def askO (C1 C2 C3 C4 : Addr) : Option Nat → Out
  | none => .val .none
  | some k => .exc (ckA C1 C2 C3 C4 k)
theorem chkV_mute {C1 C2 : Addr} {m : Int} {vs : List (List Int)} {o : Out} : (chkV C1 C2 m vs o).mute = chkV C1 C2 m vs o.mute := by
  unfold chkV
  split
  · split <;> rfl
  · rfl
theorem chkW_mute {C1 C2 : Addr} {m : Int} {vs : List (Int × Int)} {o : Out} : (chkW C1 C2 m vs o).mute = chkW C1 C2 m vs o.mute := by
  unfold chkW
  split
  · split <;> rfl
  · rfl
section
variable {C1 C2 C3 C4 : Addr} {way m : Int} {vs : List (List Int)} {ps : List (Int × Int)}
theorem ask_V (h : way ≤ 2) : askO C1 C2 C3 C4 (kindF way m vs ps) = chkV C1 C2 m vs (.val .none) := by
  have h3 : ¬ 3 ≤ way := by omega
  have h4 : way ≤ 4 := by omega
  have h9 : ¬ 9 ≤ way := by omega
  unfold kindF chkV
  by_cases c : okCount m <;> by_cases v : isVot m vs <;> simp [c, v, h3, h4, h9, askO, ckA]
theorem ask_VW (h : 3 ≤ way ∧ way ≤ 4) : askO C1 C2 C3 C4 (kindF way m vs ps) = chkV C1 C2 m vs (chkW C1 C3 m ps (.val .none)) := by
  have h9 : ¬ 9 ≤ way := by omega
  unfold kindF chkV chkW
  by_cases c : okCount m <;> by_cases v : isVot m vs <;> by_cases w : isWeb m ps <;> simp [c, v, w, h.1, h.2, h9, askO, ckA]
theorem ask_W (h : 5 ≤ way ∧ way ≤ 8) : askO C1 C2 C3 C4 (kindF way m vs ps) = chkW C1 C3 m ps (.val .none) := by
  have h3 : 3 ≤ way := by omega
  have h4 : ¬ way ≤ 4 := by omega
  have h9 : ¬ 9 ≤ way := by omega
  unfold kindF chkW
  by_cases c : okCount m <;> by_cases w : isWeb m ps <;> simp [c, w, h3, h4, h9, askO, ckA]
theorem ask_F (h : 9 ≤ way) : askO C1 C2 C3 C4 (kindF way m vs ps) = chkW C1 C3 m ps (if 4 < m then .exc C4 else .val .none) := by
  have h3 : 3 ≤ way := by omega
  have h4 : ¬ way ≤ 4 := by omega
  unfold kindF chkW
  by_cases c : okCount m <;> by_cases w : isWeb m ps <;> by_cases f : 4 < m <;> simp [c, w, f, h3, h4, h, askO, ckA]
end
def preA (a : Int × Int × List (List Int) × List (Int × Int)) : Prop := (0 ≤ a.1 ∧ a.1 ≤ 9) ∧ (a.1 = 0 → okCount a.2.1 → isVot a.2.1 a.2.2.1 → 1 < a.2.1) ∧ a.2.2.1.length ≤ 1000 ∧ a.2.2.2.length < 64
def encA (a : Int × Int × List (List Int) × List (Int × Int)) : List PyData := [.int a.1, .int a.2.1, vD a.2.2.1, wD a.2.2.2]
def sp__law_asked (C1 C2 C3 C4 : Addr) : Sp := spO (α := Int × Int × List (List Int) × List (Int × Int)) encA preA fun a => askO C1 C2 C3 C4 (kindF a.1 a.2.1 a.2.2.1 a.2.2.2)
theorem len__law_asked {C_BadCount : Addr} {C_BadVoter : Addr} {C_BadWeb : Addr} {C_TooMany : Addr} (vs : List V) (H : Hp) (Q : VK) (E : XK) (h : (sp__law_asked C_BadCount C_BadVoter C_BadWeb C_TooMany) vs H Q E) : vs.length = 4 := by
  unfold sp__law_asked at h
  obtain ⟨a, r, _⟩ := h
  rw [r.len]
  rfl
section
variable {P : Program} {w : World} {K : PySem.W.Frag} {mg : Str → Option Value} {base : Heap}
theorem ok__law_asked {f : Addr} {fd : FuncData} (D : Df K mg "_law_asked" s__law_asked ["way", "many", "voters", "web"] f fd) (Bi : Bi mg) {f_lead : Addr} {fd_lead : FuncData} (D_lead : Df K mg "lead" s_lead ["many", "voters", "one", "other"] f_lead fd_lead) (G_lead : FnOk P w K mg base (L2.CX P w) 3 f_lead fd_lead ["many", "voters", "one", "other"] (sp_lead C_BadCount C_BadVoter)) {f_web_of : Addr} {fd_web_of : FuncData} (D_web_of : Df K mg "web_of" s_web_of ["many", "voters"] f_web_of fd_web_of) (G_web_of : FnOk P w K mg base (L2.CX P w) 3 f_web_of fd_web_of ["many", "voters"] (sp_web_of C_BadCount C_BadVoter)) {f_shown : Addr} {fd_shown : FuncData} (D_shown : Df K mg "shown" s_shown ["many", "voters"] f_shown fd_shown) (G_shown : FnOk P w K mg base (L2.CX P w) 3 f_shown fd_shown ["many", "voters"] (sp_shown C_BadCount C_BadVoter)) {f_makes : Addr} {fd_makes : FuncData} (D_makes : Df K mg "makes" s_makes ["many", "voters", "web"] f_makes fd_makes) (G_makes : FnOk P w K mg base (L2.CX P w) 4 f_makes fd_makes ["many", "voters", "web"] (sp_makes C_BadCount C_BadVoter C_BadWeb)) {f_one_more : Addr} {fd_one_more : FuncData} (D_one_more : Df K mg "one_more" s_one_more ["many", "voters", "web"] f_one_more fd_one_more) (G_one_more : FnOk P w K mg base (L2.CX P w) 3 f_one_more fd_one_more ["many", "voters", "web"] (sp_one_more C_BadCount C_BadVoter C_BadWeb)) {f_ring : Addr} {fd_ring : FuncData} (D_ring : Df K mg "ring" s_ring ["many", "web"] f_ring fd_ring) (G_ring : FnOk P w K mg base (L2.CX P w) 3 f_ring fd_ring ["many", "web"] (sp_ring C_BadCount C_BadWeb)) {f_ordered : Addr} {fd_ordered : FuncData} (D_ordered : Df K mg "ordered" s_ordered ["many", "web"] f_ordered fd_ordered) (G_ordered : FnOk P w K mg base (L2.CX P w) 3 f_ordered fd_ordered ["many", "web"] (sp_ordered C_BadCount C_BadWeb)) {f_keeps : Addr} {fd_keeps : FuncData} (D_keeps : Df K mg "keeps" s_keeps ["many", "web", "order"] f_keeps fd_keeps) (G_keeps : FnOk P w K mg base (L2.CX P w) 3 f_keeps fd_keeps ["many", "web", "order"] (sp_keeps C_BadCount C_BadWeb)) {f_makers : Addr} {fd_makers : FuncData} (D_makers : Df K mg "makers" s_makers ["many", "web"] f_makers fd_makers) (G_makers : FnOk P w K mg base (L2.CX P w) 3 f_makers fd_makers ["many", "web"] (sp_makers C_BadCount C_BadWeb)) {f_fewest : Addr} {fd_fewest : FuncData} (D_fewest : Df K mg "fewest" s_fewest ["many", "web"] f_fewest fd_fewest) (G_fewest : FnOk P w K mg base (L2.CX P w) 3 f_fewest fd_fewest ["many", "web"] (sp_fewest C_BadCount C_BadWeb C_TooMany)) : FnOk P w K mg base (L2.CX P w) 5 f fd ["way", "many", "voters", "web"] (sp__law_asked C_BadCount C_BadVoter C_BadWeb C_TooMany) := by
  refine D.F.okX c__law_asked (fun vs H Q E h => len__law_asked _ _ _ _ h) (fun cdv A outer s H vs Q E hr h => ?_)
  refine ⟨_, (pss_one (ps_if (pt_cmpR op_eqI (pv 0) pe_int (nomark _))
      (pss_one (ps_expr (pe_callS G_lead (hr.mono (by decide)) (by rfl) D_lead.g D_lead.F.kp D_lead.b (fun σ => passAt (takes_of rfl rfl rfl rfl) σ) (pa_cons (pv 1) (pa_cons (pv 2) (pa_cons pe_int (pa_cons pe_int pa_nil)))))))
      (pss_one (ps_if (pt_cmpR op_eqI (pv 0) pe_int (nomark _))
      (pss_one (ps_expr (pe_callS G_web_of (hr.mono (by decide)) (by rfl) D_web_of.g D_web_of.F.kp D_web_of.b (fun σ => passAt (takes_of rfl rfl rfl rfl) σ) (pa_cons (pv 1) (pa_cons (pv 2) pa_nil)))))
      (pss_one (ps_if (pt_cmpR op_eqI (pv 0) pe_int (nomark _))
      (pss_one (ps_expr (pe_callS G_shown (hr.mono (by decide)) (by rfl) D_shown.g D_shown.F.kp D_shown.b (fun σ => passAt (takes_of rfl rfl rfl rfl) σ) (pa_cons (pv 1) (pa_cons (pv 2) pa_nil)))))
      (pss_one (ps_if (pt_cmpR op_eqI (pv 0) pe_int (nomark _))
      (pss_one (ps_expr (pe_callS G_makes (hr.mono (by decide)) (by rfl) D_makes.g D_makes.F.kp D_makes.b (fun σ => passAt (takes_of rfl rfl rfl rfl) σ) (pa_cons (pv 1) (pa_cons (pv 2) (pa_cons (pv 3) pa_nil))))))
      (pss_one (ps_if (pt_cmpR op_eqI (pv 0) pe_int (nomark _))
      (pss_one (ps_expr (pe_callS G_one_more (hr.mono (by decide)) (by rfl) D_one_more.g D_one_more.F.kp D_one_more.b (fun σ => passAt (takes_of rfl rfl rfl rfl) σ) (pa_cons (pv 1) (pa_cons (pv 2) (pa_cons (pv 3) pa_nil))))))
      (pss_one (ps_if (pt_cmpR op_eqI (pv 0) pe_int (nomark _))
      (pss_one (ps_expr (pe_callS G_ring (hr.mono (by decide)) (by rfl) D_ring.g D_ring.F.kp D_ring.b (fun σ => passAt (takes_of rfl rfl rfl rfl) σ) (pa_cons (pv 1) (pa_cons (pv 3) pa_nil)))))
      (pss_one (ps_if (pt_cmpR op_eqI (pv 0) pe_int (nomark _))
      (pss_one (ps_expr (pe_callS G_ordered (hr.mono (by decide)) (by rfl) D_ordered.g D_ordered.F.kp D_ordered.b (fun σ => passAt (takes_of rfl rfl rfl rfl) σ) (pa_cons (pv 1) (pa_cons (pv 3) pa_nil)))))
      (pss_one (ps_if (pt_cmpR op_eqI (pv 0) pe_int (nomark _))
      (pss_one (ps_expr (pe_callS G_keeps (hr.mono (by decide)) (by rfl) D_keeps.g D_keeps.F.kp D_keeps.b (fun σ => passAt (takes_of rfl rfl rfl rfl) σ) (pa_cons (pv 1) (pa_cons (pv 3) (pa_cons (pe_tupRgF rfl (by rfl) Bi.tuple (prg_1 (by rfl) Bi.range (pe_callB (cr_max2 rfl) (by rfl) Bi.max (by decide +kernel) (pa_cons pe_int (pa_cons (pe_callB (cr_min2 rfl) (by rfl) Bi.min (by decide +kernel) (pa_cons pe_int (pa_cons (pv 1) pa_nil))) pa_nil))))) pa_nil))))))
      (pss_one (ps_if (pt_cmpR op_eqI (pv 0) pe_int (nomark _))
      (pss_one (ps_expr (pe_callS G_makers (hr.mono (by decide)) (by rfl) D_makers.g D_makers.F.kp D_makers.b (fun σ => passAt (takes_of rfl rfl rfl rfl) σ) (pa_cons (pv 1) (pa_cons (pv 3) pa_nil)))))
      (pss_one (ps_expr (pe_callS G_fewest (hr.mono (by decide)) (by rfl) D_fewest.g D_fewest.F.kp D_fewest.b (fun σ => passAt (takes_of rfl rfl rfl rfl) σ) (pa_cons (pv 1) (pa_cons (pv 3) pa_nil))))))))))))))))))))))), ?_⟩
  obtain ⟨⟨way, m, vss, ps⟩, ⟨v1, _, rfl, rfl, v2, _, rfl, rfl, v3, _, rfl, hv, v4, _, rfl, hw, rfl⟩, ⟨hway, h0, hl1, hl2⟩, q⟩ := h
  dsimp only at q hv hw hway h0 hl1 hl2
  refine' s_if (b := decide (way = 0)) ?t0 ?y0 ?n0
  case t0 => wtm_at "et"
  case y0 =>
    intro hb H1 e1
    have hb : way = 0 := by simpa using hb
    rw [ask_V (by omega)] at q
    refine s_callX (m, vss, 0, 1) ?es1 (fun c p => ⟨⟨by show (0 : Int) ≤ 0; omega, by have := c.1; show (0 : Int) < m; omega⟩, by show (0 : Int) ≤ 1; omega, h0 hb c p⟩) fun H2 e2 => gives_mute (by rw [chkV_mute]; exact q) (e1.trans e2)
    have hv1 := hv.ex e1
    wtm_at "es"
  case n0 =>
    intro hb0 H1 e1
    have hv1 := hv.ex e1
    have hw1 := hw.ex e1
    wtm_at "nx"
    refine' s_if (b := decide (way = 1)) ?t1 ?y1 ?n1
    case t1 => wtm_at "et"
    case y1 =>
      intro hb H2 e2
      have hb : way = 1 := by simpa using hb
      rw [ask_V (by omega)] at q
      have hv2 := hv1.ex e2
      refine s_callX (m, vss) ?es2 trivial fun H3 e3 => gives_mute (by rw [chkV_mute]; exact q) ((e1.trans e2).trans e3)
      wtm_at "es"
    case n1 =>
      intro hb1 H2 e2
      have hv2 := hv1.ex e2
      have hw2 := hw1.ex e2
      have e12 := e1.trans e2
      wtm_at "nx"
      refine' s_if (b := decide (way = 2)) ?t2 ?y2 ?n2
      case t2 => wtm_at "et"
      case y2 =>
        intro hb H3 e3
        have hb : way = 2 := by simpa using hb
        rw [ask_V (by omega)] at q
        have hv3 := hv2.ex e3
        refine s_callX (m, vss) ?es3 hl1 fun H4 e4 => gives_mute (by rw [chkV_mute]; exact q) ((e12.trans e3).trans e4)
        wtm_at "es"
      case n2 =>
        intro hb2 H3 e3
        have hv3 := hv2.ex e3
        have hw3 := hw2.ex e3
        have e13 := e12.trans e3
        wtm_at "nx"
        refine' s_if (b := decide (way = 3)) ?t3 ?y3 ?n3
        case t3 => wtm_at "et"
        case y3 =>
          intro hb H4 e4
          have hb : way = 3 := by simpa using hb
          rw [ask_VW (by omega)] at q
          have hv4 := hv3.ex e4
          have hw4 := hw3.ex e4
          refine s_callX (m, vss, ps) ?es4 hl2 fun H5 e5 => gives_mute (by rw [chkV_mute, chkW_mute]; exact q) ((e13.trans e4).trans e5)
          wtm_at "es"
        case n3 =>
          intro hb3 H4 e4
          have hv4 := hv3.ex e4
          have hw4 := hw3.ex e4
          have e14 := e13.trans e4
          wtm_at "nx"
          refine' s_if (b := decide (way = 4)) ?t4 ?y4 ?n4
          case t4 => wtm_at "et"
          case y4 =>
            intro hb H5 e5
            have hb : way = 4 := by simpa using hb
            rw [ask_VW (by omega)] at q
            have hv5 := hv4.ex e5
            have hw5 := hw4.ex e5
            refine s_callX (m, vss, ps) ?es5 (by show ps.length ≤ 1000; omega) fun H6 e6 => gives_mute ?mu5 ((e14.trans e5).trans e6)
            case es5 => wtm_at "es"
            case mu5 =>
              rw [chkV_mute, chkW_mute]
              have z : (oneF m vss ps).mute = .val .none := by
                unfold oneF
                repeat' split
                all_goals rfl
              rw [z]
              exact q
          case n4 =>
            intro hb4 H5 e5
            have hw5 := hw4.ex e5
            have e15 := e14.trans e5
            wtm_at "nx"
            refine' s_if (b := decide (way = 5)) ?t5 ?y5 ?n5
            case t5 => wtm_at "et"
            case y5 =>
              intro hb H6 e6
              have hb : way = 5 := by simpa using hb
              rw [ask_W (by omega)] at q
              have hw6 := hw5.ex e6
              refine s_callX (m, ps) ?es6 (by show ps.length ≤ 1000; omega) fun H7 e7 => gives_mute ?mu6 ((e15.trans e6).trans e7)
              case es6 => wtm_at "es"
              case mu6 =>
                rw [chkW_mute]
                have z : (outL (srF ps)).mute = .val .none := by
                  unfold outL
                  repeat' split
                  all_goals rfl
                rw [z]
                exact q
            case n5 =>
              intro hb5 H6 e6
              have hw6 := hw5.ex e6
              have e16 := e15.trans e6
              wtm_at "nx"
              refine' s_if (b := decide (way = 6)) ?t6 ?y6 ?n6
              case t6 => wtm_at "et"
              case y6 =>
                intro hb H7 e7
                have hb : way = 6 := by simpa using hb
                rw [ask_W (by omega)] at q
                have hw7 := hw6.ex e7
                refine s_callX (m, ps) ?es7 (by show ps.length ≤ 1000; omega) fun H8 e8 => gives_mute (by rw [chkW_mute]; exact q) ((e16.trans e7).trans e8)
                wtm_at "es"
              case n6 =>
                intro hb6 H7 e7
                have hw7 := hw6.ex e7
                have e17 := e16.trans e7
                wtm_at "nx"
                refine' s_if (b := decide (way = 7)) ?t7 ?y7 ?n7
                case t7 => wtm_at "et"
                case y7 =>
                  intro hb H8 e8
                  have hb : way = 7 := by simpa using hb
                  rw [ask_W (by omega)] at q
                  have hw8 := hw7.ex e8
                  have ex : EvD (tCB rMax2 (tCons (tC (.int 0)) (tCons (tCB rMin2 (tCons (tC (.int 6)) (tCons (tVar 1) tNil))) tNil))) [some (V.int way), some (.int m), some v3, some v4] H8 (.int (if (if m < 6 then m else 6) > 0 then (if m < 6 then m else 6) else 0)) :=
                    evd_cb (evs_cons evd_int (evs_cons (evd_cb (evs_cons evd_int (evs_cons (evd_var rfl rp_int) evs_nil)) cd_min2) evs_nil)) cd_max2
                  refine s_callX (m, ps, rgI 0 (if (if m < 6 then m else 6) > 0 then (if m < 6 then m else 6) else 0).toNat) ?es8 ⟨by show ps.length ≤ 1000; omega, fun c _ => ?ord8⟩ fun H9 e9 => gives_mute (by rw [chkW_mute]; exact q) ((e17.trans e8).trans e9)
                  case es8 =>
                    refine evs_cons (evd_var rfl rp_int) (evs_cons (evd_var rfl hw8) (evs_cons (evd_tupRg ex ?sz8) evs_nil))
                    split
                    · split <;> omega
                    · omega
                  case ord8 =>
                    have c1 : 1 ≤ m := c.1
                    have c2 : m ≤ 6 := c.2
                    have z : (if (if m < 6 then m else 6) > 0 then (if m < 6 then m else 6) else 0) = m := by
                      split
                      · split <;> omega
                      · split at * <;> omega
                    show isOrd m (rgI 0 _)
                    rw [z]
                    exact isOrd_iff.mpr (.refl _)
                case n7 =>
                  intro hb7 H8 e8
                  have hw8 := hw7.ex e8
                  have e18 := e17.trans e8
                  wtm_at "nx"
                  refine' s_if (b := decide (way = 8)) ?t8 ?y8 ?n8
                  case t8 => wtm_at "et"
                  case y8 =>
                    intro hb H9 e9
                    have hb : way = 8 := by simpa using hb
                    rw [ask_W (by omega)] at q
                    have hw9 := hw8.ex e9
                    refine s_callX (m, ps) ?es9 (by show ps.length ≤ 1000; omega) fun H10 e10 => gives_mute (by rw [chkW_mute]; exact q) ((e18.trans e9).trans e10)
                    wtm_at "es"
                  case n8 =>
                    intro hb8 H9 e9
                    have hw9 := hw8.ex e9
                    wtm_at "nx"
                    simp only [decide_eq_false_iff_not] at hb0 hb1 hb2 hb3 hb4 hb5 hb6 hb7 hb8
                    rw [ask_F (by omega)] at q
                    refine s_callX (m, ps) ?es10 (by show ps.length ≤ 1000; omega) fun H10 e10 => gives_mute ?mu10 ((e18.trans e9).trans e10)
                    case es10 => wtm_at "es"
                    case mu10 =>
                      rw [chkW_mute]
                      have z : (if 4 < m then Out.exc C_TooMany else .some (fewP m ps)).mute = (if 4 < m then Out.exc C_TooMany else .val .none) := by
                        split <;> rfl
                      rw [z]
                      exact q
end
def flagsL : Option Nat → List Bool
  | none => []
  | some 0 => [true, false, false, false, false, true]
  | some 1 => [false, true, false, false, false, true]
  | some 2 => [false, false, true, false, false, true]
  | some _ => [false, false, false, true, false, true]
def sp__law_flags : Sp := spO (α := Int × Int × List (List Int) × List (Int × Int)) encA preA fun a => .new ((flagsL (kindF a.1 a.2.1 a.2.2.1 a.2.2.2)).map .bool)
theorem len__law_flags (vs : List V) (H : Hp) (Q : VK) (E : XK) (h : sp__law_flags vs H Q E) : vs.length = 4 := by
  unfold sp__law_flags at h
  obtain ⟨a, r, _⟩ := h
  rw [r.len]
  rfl
section
variable {P : Program} {w : World} {K : PySem.W.Frag} {mg : Str → Option Value} {base : Heap}
theorem ok__law_flags {f : Addr} {fd : FuncData} (D : Df K mg "_law_flags" s__law_flags ["way", "many", "voters", "web"] f fd) (Bi : Bi mg) {C_BadCount C_BadVoter C_BadWeb C_TooMany C_BadNote C_BeatError : Addr} (Y : Ers K mg C_BadCount C_BadVoter C_BadWeb C_TooMany C_BadNote C_BeatError) {f__law_asked : Addr} {fd__law_asked : FuncData} (D__law_asked : Df K mg "_law_asked" s__law_asked ["way", "many", "voters", "web"] f__law_asked fd__law_asked) (G__law_asked : FnOk P w K mg base (L2.CX P w) 5 f__law_asked fd__law_asked ["way", "many", "voters", "web"] (sp__law_asked C_BadCount C_BadVoter C_BadWeb C_TooMany)) : FnOk P w K mg base CX0 6 f fd ["way", "many", "voters", "web"] sp__law_flags := by
  refine D.F.ok c__law_flags (fun vs H Q E h => len__law_flags _ _ _ _ h) (fun cdv A outer s H vs Q E hr h => ?_)
  refine ⟨_, (pss_cons (ps_set (i := 4) c__law_flags.nd rfl (.inl rfl) (pe_lst pa_nil))
      (pss_cons (ps_try_as (i := 5) (Wout := fun _ _ _ _ => False) rfl rfl c__law_flags.nd rfl rfl ⟨rfl, by decide, .inl Y.g_BeatError⟩ takes0
      (fun W pn xe tk _ => (pss_one (ps_expr (pe_callS G__law_asked (hr.mono (by decide)) (by rfl) D__law_asked.g D__law_asked.F.kp D__law_asked.b (fun σ => passAt tk σ) (pa_cons (pv 0) (pa_cons (pv 1) (pa_cons (pv 2) (pa_cons (pv 3) pa_nil))))))))
      (fun a oe cls d pn hz hf => (pss_cons (ps_set (i := 4) c__law_flags.nd rfl (.inl rfl) (pe_lst (pa_cons (pe_callB (call_isX (K := K) hz hf) (by rfl) Bi.isinstance (by decide +kernel) (pa_cons (pv 5) (pa_cons (pe_glob (v := .ref C_BadCount) (by rfl) Y.g_BadCount rfl) pa_nil))) (pa_cons (pe_callB (call_isX (K := K) hz hf) (by rfl) Bi.isinstance (by decide +kernel) (pa_cons (pv 5) (pa_cons (pe_glob (v := .ref C_BadVoter) (by rfl) Y.g_BadVoter rfl) pa_nil))) (pa_cons (pe_callB (call_isX (K := K) hz hf) (by rfl) Bi.isinstance (by decide +kernel) (pa_cons (pv 5) (pa_cons (pe_glob (v := .ref C_BadWeb) (by rfl) Y.g_BadWeb rfl) pa_nil))) (pa_cons (pe_callB (call_isX (K := K) hz hf) (by rfl) Bi.isinstance (by decide +kernel) (pa_cons (pv 5) (pa_cons (pe_glob (v := .ref C_TooMany) (by rfl) Y.g_TooMany rfl) pa_nil))) pa_nil))))))
      (pss_one (ps_set (i := 4) c__law_flags.nd rfl (.inl rfl) (pe_op op_cat (pv 4) (pe_lst (pa_cons (pe_callB (call_isX (K := K) hz hf) (by rfl) Bi.isinstance (by decide +kernel) (pa_cons (pv 5) (pa_cons (pe_glob (v := .ref C_BadNote) (by rfl) Y.g_BadNote rfl) pa_nil))) (pa_cons (pe_callB (call_isX (K := K) hz hf) (by rfl) Bi.isinstance (by decide +kernel) (pa_cons (pv 5) (pa_cons (pe_bltn (v := .ty "ValueError") (by rfl) Bi.ValueError (by decide +kernel) rfl) pa_nil))) pa_nil)))))))))
      (pss_one (ps_ret (pv 4))))), ?_⟩
  obtain ⟨⟨way, m, vss, ps⟩, ⟨v1, _, rfl, rfl, v2, _, rfl, rfl, v3, _, rfl, hv, v4, _, rfl, hw, rfl⟩, hp, q⟩ := h
  dsimp only at q hv hw
  refine' s_asgNw (evn_lst evs_nil (by decide)) fun p0 vs0 H1 n1 e1 k1 k2 => ?_
  wtm_at "nx"
  have hv1 := hv.ex e1
  have hw1 := hw.ex e1
  refine s_callX (way, m, vss, ps) ?es hp fun H2 e2 => ?_
  case es => wtm_at "es"
  dsimp only
  cases hk : kindF way m vss ps with
  | none =>
    rw [hk] at q
    intro v H3 e3 _
    exact ⟨_, rfl, q p0 vs0 H3 n1 (e1.trans (e2.trans e3)) ((e2.trans e3) _ _ k1) (k2.ex (e2.trans e3))⟩
  | some k =>
    rw [hk] at q
    intro H3 e3
    obtain ⟨C, b1, b2, b3, b4, r, ec, ef⟩ : ∃ C b1 b2 b3 b4, Er K C C_BadCount C_BadVoter C_BadWeb C_TooMany C_BadNote C_BeatError b1 b2 b3 b4 false ∧ ckA C_BadCount C_BadVoter C_BadWeb C_TooMany k = C ∧ flagsL (some k) = [b1, b2, b3, b4, false, true] := by
      match k with
      | 0 => exact ⟨_, _, _, _, _, Y.r1, rfl, rfl⟩
      | 1 => exact ⟨_, _, _, _, _, Y.r2, rfl, rfl⟩
      | 2 => exact ⟨_, _, _, _, _, Y.r3, rfl, rfl⟩
      | _ + 3 => exact ⟨_, _, _, _, _, Y.r4, rfl, rfl⟩
    rw [ec]
    rw [ef] at q
    refine ⟨true, r.t, fun _ a ha => ?_, fun z => nomatch z⟩
    refine' s_asgNw (ds := [.bool b1, .bool b2, .bool b3, .bool b4]) (evn_lst (evs_cons (evd_isX rfl r.e (fun _ z => z) r.k1) (evs_cons (evd_isX rfl r.e (fun _ z => z) r.k2) (evs_cons (evd_isX rfl r.e (fun _ z => z) r.k3) (evs_cons (evd_isX rfl r.e (fun _ z => z) r.k4) evs_nil)))) (Nat.le_of_ble_eq_true rfl)) fun p1 ws1 H4 n4 e4 g1 g2 => ?_
    wtm_at "nx"
    refine' s_asgNw (evn_cat (ds := [.bool b1, .bool b2, .bool b3, .bool b4]) (es := [.bool false, .bool true]) (evd_var rfl ⟨p1, ws1, rfl, g1, g2⟩) (EvN.toD (evn_lst (evs_cons (evd_isX rfl r.e (fun _ z => z) r.k5) (evs_cons (evd_isX rfl r.e (fun _ z => z) r.v) evs_nil)) (Nat.le_of_ble_eq_true rfl))) (Nat.le_of_ble_eq_true rfl)) fun p2 ws2 H5 n5 e5 g3 g4 => ?_
    have ex := (((e1.trans e2).trans e3).trans e4)
    exact ⟨_, rfl, q p2 ws2 H5 (fresh_back ex n5) (ex.trans e5) g3 g4⟩
end
end Bm

namespace Bm
open PySem PySem.Spec PyProof.Rows L2 Evl
local macro_rules | `(tactic| wtm_at "rp") => `(tactic| first | exact rp_int | exact rp_bl | exact rp_str | exact rp_non | assumption | (refine' Rp.ex ?e ?h; (case h => assumption); (case e => assumption)) | exact Own.rp (by assumption))
local macro_rules | `(tactic| wtm_at "side") => `(tactic| first | assumption | omega | decide | rfl | exact ⟨by omega, by omega⟩)
local macro_rules | `(tactic| wtm_at "es") => `(tactic| first | exact evs_nil | (refine' evs_cons ?a ?b; (case a => wtm_at "ev"); (case b => wtm_at "es")))
local macro_rules | `(tactic| wtm_at "ev") => `(tactic| first
  | exact evd_int | exact evd_str | exact evd_bl | exact evd_non
  | (refine' evd_var rfl ?h; (case h => wtm_at "rp"))
  | ((with_reducible refine' evd_op ?a ?b rd_addI); (case a => wtm_at "ev"); (case b => wtm_at "ev"))
  | ((with_reducible refine' evd_op ?a ?b rd_subI); (case a => wtm_at "ev"); (case b => wtm_at "ev"))
  | ((with_reducible refine' evd_op ?a ?b (rd_mulI ?c)); (case a => wtm_at "ev"); (case b => wtm_at "ev"); (case c => wtm_at "side"))
  | ((with_reducible refine' evd_op ?a ?b (rd_divI ?c)); (case a => wtm_at "ev"); (case b => wtm_at "ev"); (case c => wtm_at "side"))
  | ((with_reducible refine' evd_op ?a ?b (rd_modI ?c)); (case a => wtm_at "ev"); (case b => wtm_at "ev"); (case c => wtm_at "side"))
  | ((with_reducible refine' evd_op ?a ?b rd_ltI); (case a => wtm_at "ev"); (case b => wtm_at "ev"))
  | ((with_reducible refine' evd_op ?a ?b rd_leI); (case a => wtm_at "ev"); (case b => wtm_at "ev"))
  | ((with_reducible refine' evd_op ?a ?b rd_gtI); (case a => wtm_at "ev"); (case b => wtm_at "ev"))
  | ((with_reducible refine' evd_op ?a ?b rd_geI); (case a => wtm_at "ev"); (case b => wtm_at "ev"))
  | ((with_reducible refine' evd_op ?a ?b rd_eqI); (case a => wtm_at "ev"); (case b => wtm_at "ev"))
  | ((with_reducible refine' evd_op ?a ?b rd_neI); (case a => wtm_at "ev"); (case b => wtm_at "ev"))
  | ((with_reducible refine' evd_op ?a ?b rd_eqB); (case a => wtm_at "ev"); (case b => wtm_at "ev"))
  | ((with_reducible refine' evd_op ?a ?b rd_neB); (case a => wtm_at "ev"); (case b => wtm_at "ev"))
  | ((with_reducible refine' evd_op ?a ?b rd_isNo); (case a => wtm_at "ev"); (case b => wtm_at "ev"))
  | ((with_reducible refine' evd_op ?a ?b rd_notNo); (case a => wtm_at "ev"); (case b => wtm_at "ev"))
  | ((with_reducible refine' evd_op ?a ?b rd_inIL); (case a => wtm_at "ev"); (case b => wtm_at "ev"))
  | ((with_reducible refine' evd_op ?a ?b rd_niIL); (case a => wtm_at "ev"); (case b => wtm_at "ev"))
  | ((with_reducible refine' evd_op ?a ?b rd_inID); (case a => wtm_at "ev"); (case b => wtm_at "ev"))
  | ((with_reducible refine' evd_op ?a ?b rd_niID); (case a => wtm_at "ev"); (case b => wtm_at "ev"))
  | ((with_reducible refine' evd_neg ?a); (case a => wtm_at "ev"))
  | ((with_reducible refine' evd_tix ?a ?b ?c); (case a => wtm_at "ev"); (case b => wtm_at "ev"); (case c => wtm_at "side"))
  | ((with_reducible refine' evd_tup ?a ?b); (case a => wtm_at "es"); (case b => exact Nat.le_of_ble_eq_true rfl))
  | ((with_reducible refine' evd_cb ?a cd_lenL); (case a => wtm_at "es"))
  | ((with_reducible refine' evd_cb ?a cd_lenT); (case a => wtm_at "es"))
  | ((with_reducible refine' evd_cb ?a cd_intB); (case a => wtm_at "es"))
  | ((with_reducible refine' evd_cb ?a cd_tupL); (case a => wtm_at "es"))
  | ((with_reducible refine' evd_and ?a ?b); (case a => wtm_at "ev"); (case b => intro _; wtm_at "ev"))
  | ((with_reducible refine' evd_or ?a ?b); (case a => wtm_at "ev"); (case b => intro _; wtm_at "ev"))
  | ((with_reducible refine' evd_not ?a); (case a => wtm_at "ev"))
  | ((with_reducible refine' evd_op ?a ?b rd_neIL); (case a => wtm_at "ev"); (case b => wtm_at "ev"))
  | ((with_reducible refine' evd_op ?a ?b rd_eqIL); (case a => wtm_at "ev"); (case b => wtm_at "ev"))
  | ((with_reducible refine' EvN.toD ?a); (case a => wtm_at "en")))
local macro_rules | `(tactic| wtm_at "en") => `(tactic| first
  | ((with_reducible refine' evn_cb ?a cn_sortTI); (case a => wtm_at "es"))
  | ((with_reducible refine' evn_cb ?a cn_listL); (case a => wtm_at "es"))
  | ((with_reducible refine' evn_cb ?a cn_listT); (case a => wtm_at "es"))
  | ((with_reducible refine' evn_rng ?a ?b); (case a => wtm_at "ev"); (case b => wtm_at "side"))
  | ((with_reducible refine' evn_lst ?a ?b); (case a => wtm_at "es"); (case b => exact Nat.le_of_ble_eq_true rfl))
  | ((with_reducible refine' evn_cat ?a ?b ?c); (case a => wtm_at "ev"); (case b => wtm_at "ev"); (case c => wtm_at "side"))
  | ((with_reducible refine' evn_slL ?a ?b ?c); (case a => wtm_at "ev"); (case b => first | exact evp_none | (refine' evp_some ?d; (case d => wtm_at "ev"))); (case c => first | exact evp_none | (refine' evp_some ?d; (case d => wtm_at "ev")))))
local macro_rules | `(tactic| wtm_at "et") => `(tactic| first
  | exact et_yes
  | (refine' ett ?a; (case a => wtm_at "ev"))
  | (refine' etB ?a; (case a => wtm_at "ev"))
  | (refine' et_and ?a ?b; (case a => wtm_at "et"); (case b => intro _; wtm_at "et"))
  | (refine' et_or ?a ?b; (case a => wtm_at "et"); (case b => intro _; wtm_at "et"))
  | (refine' et_not ?a; (case a => wtm_at "et")))
local macro_rules | `(tactic| wtm_at "nx") => `(tactic| try dsimp only [tSeq, tNext])
/-! ### spoiled voters and webs -/
def illFar (m cell : Int) : Int := if cell / 16 % 3 = 0 then m else if cell / 16 % 3 = 1 then -1 else m + cell / 64 % 10 ^ (20 : Int).toNat
def illAt (m cell : Int) : Nat := (cell / 4 % m).toNat
def illPrev (v : List Int) (m cell : Int) : Int := v.getD (if illAt m cell = 0 then v.length - 1 else illAt m cell - 1) 0
def illV (v : List Int) (m cell : Int) : List Int :=
  if cell % 4 = 0 then v.take (illAt m cell) ++ v.drop (illAt m cell + 1)
  else if cell % 4 = 1 then v.take (illAt m cell) ++ [illFar m cell] ++ v.drop (illAt m cell + 1)
  else if cell % 4 = 2 then v ++ (v.drop (illAt m cell)).take 1
  else v.take (illAt m cell) ++ List.replicate (if m = 1 then 2 else 1) (illPrev v m cell) ++ v.drop (illAt m cell + 1)
theorem illAt_lt {m cell : Int} (h : 1 ≤ m) : illAt m cell < m.toNat := by
  have h1 := Int.emod_nonneg (cell / 4) (show m ≠ 0 by omega)
  have h2 := Int.emod_lt_of_pos (cell / 4) (show 0 < m by omega)
  unfold illAt
  omega
theorem illFar_out {m cell : Int} (h : 1 ≤ m) : ¬ (0 ≤ illFar m cell ∧ illFar m cell < m) := by
  unfold illFar
  split
  · omega
  · split
    · omega
    · have := Int.emod_nonneg (cell / 64) (show (10 : Int) ^ (20 : Int).toNat ≠ 0 by decide)
      omega
theorem illV_not {v : List Int} {m cell : Int} (h : 1 ≤ m) (ho : isOrd m v) : ¬ isOrd m (illV v m cell) := fun ho2 => by
  have hl := ho.len
  have hl2 := ho2.len
  have ha := illAt_lt (cell := cell) h
  have nd := ho.nodup
  unfold illV illPrev at ho2 hl2
  generalize illAt m cell = a at *
  have ht : (v.take a).length = a := by rw [List.length_take]; omega
  have hd : (v.drop (a + 1)).length = m.toNat - (a + 1) := by rw [List.length_drop]; omega
  split at ho2
  · rw [if_pos ‹_›, List.length_append] at hl2
    omega
  · rename_i c0
    rw [if_neg c0] at hl2
    split at ho2
    · have := ho2.mem (x := illFar m cell)
      exact illFar_out (cell := cell) h (this.mp (by simp))
    · rename_i c1
      rw [if_neg c1] at hl2
      split at ho2
      · rw [if_pos ‹_›, List.length_append, List.length_take, List.length_drop] at hl2
        omega
      · rename_i c2
        rw [if_neg c2, List.length_append, List.length_append, List.length_replicate] at hl2
        by_cases m1 : m = 1
        · rw [if_pos m1] at hl2
          omega
        · rw [if_neg m1] at ho2
          -- the thing at a is gone
          have hav : a < v.length := by omega
          have hx : v[a] ∈ v := List.getElem_mem hav
          have hx2 := ho2.mem.mpr (ho.mem.mp hx)
          have key : ∀ j, j < v.length → j ≠ a → v[a] ≠ v.getD j 0 := fun j hj ne e => by
            rw [List.getD_eq_getElem?_getD, List.getElem?_eq_getElem hj] at e
            exact ne ((List.getElem_inj nd).mp e).symm
          rw [List.mem_append, List.mem_append] at hx2
          rcases hx2 with (hx2 | hx2) | hx2
          · obtain ⟨j, hj, e⟩ := List.getElem_of_mem hx2
            rw [List.getElem_take] at e
            have hj2 : j < a := by omega
            have := (List.getElem_inj nd).mp e
            omega
          · rw [List.mem_replicate] at hx2
            refine key _ ?_ ?_ hx2.2
            · split <;> omega
            · split <;> omega
          · obtain ⟨j, hj, e⟩ := List.getElem_of_mem hx2
            rw [List.getElem_drop] at e
            have := (List.getElem_inj nd).mp e
            omega
/-- a beat that is none -/
def illBeat (ps : List (Int × Int)) (m cell far : Int) : Int × Int :=
  if cell / 4 % 2 = 1 ∧ 0 < ps.length then (if cell % 2 = 0 then ps.getD (cell / 2048 % (ps.length : Int)).toNat (0, 0) else swp (ps.getD (cell / 2048 % (ps.length : Int)).toNat (0, 0)))
  else if cell % 4 = 0 then (cell / 2048 % m, cell / 2048 % m) else if cell % 4 = 1 then (cell / 2048 % m, far) else if cell % 4 = 2 then (far, cell / 2048 % m) else (far, far + 1)
def illWat (ps : List (Int × Int)) (cell : Int) : Nat := (cell / 16 % ((ps.length : Int) + 1)).toNat
def illW (ps : List (Int × Int)) (m cell far : Int) : List (Int × Int) := ps.take (illWat ps cell) ++ [illBeat ps m cell far] ++ ps.drop (illWat ps cell)
theorem illW_len (ps : List (Int × Int)) (m cell far : Int) : (illW ps m cell far).length = ps.length + 1 := by
  unfold illW
  rw [List.length_append, List.length_append, List.length_take, List.length_drop]
  show _ + 1 + _ = _
  omega
theorem illW_not {ps : List (Int × Int)} {m cell far : Int} (h : 1 ≤ m) (hf : far < 0 ∨ m ≤ far) (hw : isWeb m ps) : ¬ isWeb m (illW ps m cell far) := fun h2 => by
  have pm : (illW ps m cell far).Perm (illBeat ps m cell far :: ps) := by
    unfold illW
    rw [List.append_assoc]
    refine (List.perm_middle (l₁ := ps.take _) (l₂ := ps.drop _)).trans ?_
    rw [List.take_append_drop]
  have h3 := isWeb_set.mp (h2.perm pm)
  have g := h3.1 _ List.mem_cons_self
  have n := h3.2
  rw [List.map_cons, List.nodup_cons] at n
  unfold illBeat at g n
  split at g
  · rename_i c
    rw [if_pos c] at n
    have hl : (0 : Int) < (ps.length : Int) := by omega
    have b1 := Int.emod_nonneg (cell / 2048) (show (ps.length : Int) ≠ 0 by omega)
    have b2 := Int.emod_lt_of_pos (cell / 2048) hl
    have hk : (cell / 2048 % (ps.length : Int)).toNat < ps.length := by omega
    generalize (cell / 2048 % (ps.length : Int)).toNat = k at *
    have e : ps.getD k (0, 0) = ps[k] := by rw [List.getD_eq_getElem?_getD, List.getElem?_eq_getElem hk]; rfl
    rw [e] at n
    refine n.1 ?_
    have hm : nrm ps[k] ∈ ps.map nrm := List.mem_map.mpr ⟨_, List.getElem_mem hk, rfl⟩
    split
    · exact hm
    · rw [show nrm (swp ps[k]) = nrm ps[k] from nrm_iff.mpr (.inr rfl)]
      exact hm
  · have g := goodB_iff.mp g
    repeat' split at g
    all_goals (dsimp only at g; omega)
def sp__law_ill_voter : Sp := spO (α := List Int × Int × Int) (fun a => [iD a.1, .int a.2.1, .int a.2.2]) (fun a => (1 ≤ a.2.1 ∧ a.2.1 ≤ 6) ∧ isOrd a.2.1 a.1) fun a => .val (iD (illV a.1 a.2.1 a.2.2))
theorem len__law_ill_voter (vs : List V) (H : Hp) (Q : VK) (E : XK) (h : sp__law_ill_voter vs H Q E) : vs.length = 3 := by
  unfold sp__law_ill_voter at h
  obtain ⟨a, r, _⟩ := h
  rw [r.len]
  rfl
theorem illFar_at {m c : Int} {z : Int} (hz : z = m + c / 64 % 10 ^ (20 : Int).toNat) : atI [PyData.int m, .int (-1), .int z] (c / 16 % 3) = some (.int (illFar m c)) := by
  subst hz
  unfold illFar
  have h1 := Int.emod_nonneg (c / 16) (show (3 : Int) ≠ 0 by omega)
  have h2 := Int.emod_lt_of_pos (c / 16) (show (0 : Int) < 3 by omega)
  have h3 : c / 16 % 3 = 0 ∨ c / 16 % 3 = 1 ∨ c / 16 % 3 = 2 := by omega
  rcases h3 with h | h | h <;> rw [h] <;> rfl
section
variable {P : Program} {w : World} {K : PySem.W.Frag} {mg : Str → Option Value} {base : Heap}
theorem ok__law_ill_voter {f : Addr} {fd : FuncData} (D : Df K mg "_law_ill_voter" s__law_ill_voter ["voter", "many", "cell"] f fd) (Bi : Bi mg) : FnOk P w K mg base CX0 1 f fd ["voter", "many", "cell"] sp__law_ill_voter := by
  refine D.F.ok c__law_ill_voter (fun vs H Q E h => len__law_ill_voter _ _ _ _ h) (fun cdv A outer s H vs Q E hr h => ?_)
  refine ⟨_, (pss_cons (ps_set (i := 3) c__law_ill_voter.nd rfl (.inl rfl) (pe_op op_modI (pe_op op_divI (pv 2) pe_int) (pv 1)))
      (pss_cons (ps_set (i := 4) c__law_ill_voter.nd rfl (.inl rfl) (pe_ix (ix_listK (K := K)) (pe_lst (pa_cons (pv 1) (pa_cons (pe_un un_negI pe_int) (pa_cons (pe_op op_addI (pv 1) (pe_op op_modI (pe_op op_divI (pv 2) pe_int) (pe_op op_powI pe_int pe_int))) pa_nil)))) (pe_op op_modI (pe_op op_divI (pv 2) pe_int) pe_int) (fun _ _ => rfl)))
      (pss_cons (ps_if (pt_cmpR op_eqI (pe_op op_modI (pv 2) pe_int) pe_int (nomark _))
      (pss_one (ps_ret (pe_op (op_catFK (K := K)) (pe_slice (sl_tupFK (K := K)) (pv 0) po_none (po_some (pv 3))) (pe_slice (sl_tupFK (K := K)) (pv 0) (po_some (pe_op op_addI (pv 3) pe_int)) po_none))))
      pss_nil)
      (pss_cons (ps_if (pt_cmpR op_eqI (pe_op op_modI (pv 2) pe_int) pe_int (nomark _))
      (pss_one (ps_ret (pe_op (op_catFK (K := K)) (pe_op (op_catFK (K := K)) (pe_slice (sl_tupFK (K := K)) (pv 0) po_none (po_some (pv 3))) (pe_tupF (pa_cons (pv 4) pa_nil))) (pe_slice (sl_tupFK (K := K)) (pv 0) (po_some (pe_op op_addI (pv 3) pe_int)) po_none))))
      pss_nil)
      (pss_cons (ps_if (pt_cmpR op_eqI (pe_op op_modI (pv 2) pe_int) pe_int (nomark _))
      (pss_one (ps_ret (pe_op (op_catFK (K := K)) (pv 0) (pe_slice (sl_tupFK (K := K)) (pv 0) (po_some (pv 3)) (po_some (pe_op op_addI (pv 3) pe_int))))))
      pss_nil)
      (pss_one (ps_ret (pe_op (op_catFK (K := K)) (pe_op (op_catFK (K := K)) (pe_slice (sl_tupFK (K := K)) (pv 0) po_none (po_some (pv 3))) (pe_op (op_repFK (K := K)) (pe_tupF (pa_cons (pe_ix (ix_tupK (K := K)) (pv 0) (pe_op op_subI (pv 3) pe_int) (fun _ _ => rfl)) pa_nil)) (pe_op op_addI pe_int (pe_callTy cr_intB (by rfl) Bi.int (by decide +kernel) (pa_cons (pe_cmpR op_eqI (pv 1) pe_int (nomark _)) pa_nil))))) (pe_slice (sl_tupFK (K := K)) (pv 0) (po_some (pe_op op_addI (pv 3) pe_int)) po_none))))))))), ?_⟩
  obtain ⟨⟨v, m, c⟩, ⟨v1, _, rfl, hv, v2, _, rfl, rfl, v3, _, rfl, rfl, rfl⟩, ⟨hm, ho⟩, q⟩ := h
  dsimp only at q hv hm ho
  have hl := ho.len
  have ha := illAt_lt (cell := c) hm.1
  have hat : c / 4 % m = ((illAt m c : Nat) : Int) := by
    have := Int.emod_nonneg (c / 4) (show m ≠ 0 by omega)
    unfold illAt
    omega
  refine' s_asgI (n := ((illAt m c : Nat) : Int)) ((evd_op (evd_op (evd_var rfl rp_int) evd_int (rd_divI ⟨by decide, by decide⟩)) (evd_var rfl rp_int) (rd_modI (by show (0 : Int) < m; omega))).is (by rw [hat])) fun H1 e1 => ?_
  wtm_at "nx"
  have hv1 := hv.ex e1
  refine' s_asgI (n := illFar m c) (evd_op (EvN.toD (evn_lst (ds := [PyData.int m, .int (-1), .int (m + c / 64 % 10 ^ (20 : Int).toNat)]) ?l (Nat.le_of_ble_eq_true rfl))) (y := .int (c / 16 % 3)) ?k (rd_ixL (illFar_at rfl))) fun H2 e2 => ?_
  case k => exact evd_op (evd_op (evd_var rfl rp_int) evd_int (rd_divI ⟨by decide, by decide⟩)) evd_int (rd_modI (by decide))
  case l => exact evs_cons (evd_var rfl rp_int) (evs_cons (evd_neg evd_int) (evs_cons (evd_op (evd_var rfl rp_int) (evd_op (evd_op (evd_var rfl rp_int) evd_int (rd_divI ⟨by decide, by decide⟩)) (evd_op evd_int evd_int (rd_powI ⟨by decide, by decide, by decide⟩)) (rd_modI (by decide))) rd_addI) evs_nil))
  wtm_at "nx"
  have hv2 := hv1.ex e2
  have e12 := e1.trans e2
  have at1 : ((illAt m c : Nat) : Int) + 1 = ((illAt m c + 1 : Nat) : Int) := by omega
  have lens : ∀ k, (v.take k).length ≤ 6 ∧ (v.drop k).length ≤ 6 := fun k => by
    rw [List.length_take, List.length_drop]
    omega
  have pre : ∀ (σ : L2.St) (H3 : Hp), σ[0]? = some (some v1) → σ[3]? = some (some (.int ((illAt m c : Nat) : Int))) → Ex H2 H3 → EvD (tSl (rSlF K) (tVar 0) tNoPart (tPart (tVar 3))) σ H3 (iD (v.take (illAt m c))) := fun σ H3 s0 s3 e3 => by
    refine (evd_slT (evd_var s0 (hv2.ex e3)) evp_none (evp_some (evd_var s3 rp_int))).is ?_
    rw [cutA_map, cutA_to]
  have post : ∀ (σ : L2.St) (H3 : Hp), σ[0]? = some (some v1) → σ[3]? = some (some (.int ((illAt m c : Nat) : Int))) → Ex H2 H3 → EvD (tSl (rSlF K) (tVar 0) (tPart (tOp rAddI (tVar 3) (tC (.int 1)))) tNoPart) σ H3 (iD (v.drop (illAt m c + 1))) := fun σ H3 s0 s3 e3 => by
    refine (evd_slT (evd_var s0 (hv2.ex e3)) (evp_some (evd_op (evd_var s3 rp_int) evd_int rd_addI)) evp_none).is ?_
    rw [at1, cutA_map, cutA_from]
  have ht : ∀ (x : Int) (H3 : Hp) (σ : L2.St), σ[2]? = some (some (.int c)) → EvT (tTest (tOp rEqI (tOp rModI (tVar 2) (tC (.int 4))) (tC (.int x)))) σ H3 (decide (c % 4 = x)) := fun x H3 σ s2 => ett (evd_op (evd_op (evd_var s2 rp_int) evd_int (rd_modI (by decide))) evd_int rd_eqI)
  refine' s_if (b := decide (c % 4 = 0)) (ht 0 _ _ rfl) (fun hb H3 e3 => ?_) (fun hb H3 e3 => ?_)
  · have hb : c % 4 = 0 := by simpa using hb
    unfold illV at q
    rw [if_pos hb] at q
    refine s_retD (d := iD (v.take (illAt m c) ++ v.drop (illAt m c + 1))) ((evd_catT (pre _ _ rfl rfl e3) (post _ _ rfl rfl e3) ?szx1).is (by rw [← List.map_append])) fun u H4 e4 r => q u H4 ((e12.trans e3).trans e4) r
    rw [List.length_map, List.length_map]
    have := lens (illAt m c)
    have := lens (illAt m c + 1)
    omega
  · have hb : ¬ c % 4 = 0 := by simpa using hb
    unfold illV at q
    rw [if_neg hb] at q
    wtm_at "nx"
    refine' s_if (b := decide (c % 4 = 1)) (ht 1 _ _ rfl) (fun hb2 H4 e4 => ?_) (fun hb2 H4 e4 => ?_)
    · have hb2 : c % 4 = 1 := by simpa using hb2
      rw [if_pos hb2] at q
      have e34 := e3.trans e4
      refine s_retD (d := iD (v.take (illAt m c) ++ [illFar m c] ++ v.drop (illAt m c + 1))) ((evd_catT (evd_catT (es := [.int (illFar m c)]) (pre _ _ rfl rfl e34) (evd_tup (evs_cons (evd_var rfl rp_int) evs_nil) (Nat.le_of_ble_eq_true rfl)) ?szy2) (post _ _ rfl rfl e34) ?szx2).is (by show PyData.tuple _ = PyData.tuple _; rw [List.map_append, List.map_append]; rfl)) fun u H5 e5 r => q u H5 ((e12.trans e34).trans e5) r
      case szy2 =>
        rw [List.length_map]
        have := lens (illAt m c)
        show _ + 1 ≤ _
        omega
      case szx2 =>
        rw [List.length_append, List.length_map, List.length_map]
        have := lens (illAt m c)
        have := lens (illAt m c + 1)
        show _ + 1 + _ ≤ _
        omega
    · have hb2 : ¬ c % 4 = 1 := by simpa using hb2
      rw [if_neg hb2] at q
      have e34 := e3.trans e4
      wtm_at "nx"
      refine' s_if (b := decide (c % 4 = 2)) (ht 2 _ _ rfl) (fun hb3 H5 e5 => ?_) (fun hb3 H5 e5 => ?_)
      · have hb3 : c % 4 = 2 := by simpa using hb3
        rw [if_pos hb3] at q
        have e35 := e34.trans e5
        refine s_retD (d := iD (v ++ (v.drop (illAt m c)).take 1)) ((evd_catT (evd_var rfl (hv2.ex e35)) (evd_slT (evd_var rfl (hv2.ex e35)) (evp_some (evd_var rfl rp_int)) (evp_some (evd_op (evd_var rfl rp_int) evd_int rd_addI))) ?szx3).is ?eqx3) fun u H6 e6 r => q u H6 ((e12.trans e35).trans e6) r
        case eqx3 =>
          show PyData.tuple _ = PyData.tuple _
          rw [at1, cutA_map, cutA_mid (xs := v) (a := illAt m c) (b := illAt m c + 1) (by omega) (by omega), ← List.map_append, Nat.add_sub_cancel_left]
        case szx3 =>
          rw [at1, cutA_map, cutA_mid (xs := v) (a := illAt m c) (b := illAt m c + 1) (by omega) (by omega), List.length_map, List.length_map, List.length_take, List.length_drop]
          omega
      · have hb3 : ¬ c % 4 = 2 := by simpa using hb3
        rw [if_neg hb3] at q
        have e35 := e34.trans e5
        wtm_at "nx"
        have hpv : atI (v.map PyData.int) (((illAt m c : Nat) : Int) - 1) = some (.int (illPrev v m c)) := by
          unfold illPrev
          by_cases z : illAt m c = 0
          · rw [z, if_pos rfl]
            refine atI_map (f := PyData.int) ?_
            show atI v (-1) = _
            refine atI_m1 ?_
            rw [List.getD_eq_getElem?_getD, List.getElem?_eq_getElem (by omega)]
            rfl
          · rw [if_neg z]
            refine atI_map (f := PyData.int) ?_
            rw [show ((illAt m c : Nat) : Int) - 1 = ((illAt m c - 1 : Nat) : Int) by omega]
            refine atI_nat ?_
            rw [List.getD_eq_getElem?_getD, List.getElem?_eq_getElem (by omega)]
            rfl
        have hk : (1 : Int) + (if decide (m = 1) then 1 else 0) = (if m = 1 then 2 else 1) := by
          by_cases z : m = 1
          · simp [z]
          · simp [z]
        have hk2 : (if m = 1 then (2 : Int) else 1).toNat = if m = 1 then 2 else 1 := by split <;> rfl
        have hk3 : 1 ≤ (if m = 1 then (2 : Int) else 1) ∧ (if m = 1 then (2 : Int) else 1) ≤ 1000 := by split <;> omega
        have hrep : (List.replicate (if m = 1 then (2 : Int) else 1).toNat [PyData.int (illPrev v m c)]).flatten = (List.replicate (if m = 1 then 2 else 1) (illPrev v m c)).map PyData.int := by
          split <;> rfl
        have evk : EvD (tOp rAddI (tC (.int 1)) (tCB rIntB (tCons (tOp rEqI (tVar 1) (tC (.int 1))) tNil))) [some v1, some (.int m), some (.int c), some (.int ((illAt m c : Nat) : Int)), some (.int (illFar m c))] H5 (.int (if m = 1 then 2 else 1)) :=
          (evd_op evd_int (evd_cb (evs_cons (evd_op (evd_var rfl rp_int) evd_int rd_eqI) evs_nil) cd_intB) rd_addI).is (by rw [hk])
        refine s_retD (d := iD (v.take (illAt m c) ++ List.replicate (if m = 1 then 2 else 1) (illPrev v m c) ++ v.drop (illAt m c + 1))) ((evd_catT (evd_catT (pre _ _ rfl rfl e35) (evd_repT (ds := [.int (illPrev v m c)]) (evd_tup (evs_cons (evd_op (evd_var rfl (hv2.ex e35)) (evd_op (evd_var rfl rp_int) evd_int rd_subI) (rd_ixT hpv)) evs_nil) (Nat.le_of_ble_eq_true rfl)) evk hk3 (by simp) (by simp)) ?szy4) (post _ _ rfl rfl e35) ?szx4).is ?eqx4) fun u H6 e6 r => q u H6 ((e12.trans e35).trans e6) r
        case eqx4 =>
          show PyData.tuple _ = PyData.tuple _
          rw [hrep, List.map_append, List.map_append]
        case szy4 =>
          rw [hrep, List.length_map, List.length_map, List.length_replicate]
          have := lens (illAt m c)
          split <;> omega
        case szx4 =>
          rw [hrep, List.length_append, List.length_map, List.length_map, List.length_map, List.length_replicate]
          have := lens (illAt m c)
          have := lens (illAt m c + 1)
          split <;> omega
end
theorem ev_ill_voter {σ : L2.St} {H : Hp} {t0 t1 t2 : TE} {E : XK} {v : List Int} {m c : Int} (h0 : EvD t0 σ H (iD v)) (h1 : EvD t1 σ H (.int m)) (h2 : EvD t2 σ H (.int c)) (hm : 1 ≤ m ∧ m ≤ 6) (ho : isOrd m v) :
    EvD (tCall sp__law_ill_voter [] E (tCons t0 (tCons t1 (tCons t2 tNil)))) σ H (iD (illV v m c)) := evd_callO (v, m, c) (evs_cons h0 (evs_cons h1 (evs_cons h2 evs_nil))) ⟨hm, ho⟩ rfl
def sp__law_ill_web : Sp := spO (α := List (Int × Int) × Int × Int × Int) (fun a => [wD a.1, .int a.2.1, .int a.2.2.1, .int a.2.2.2]) (fun a => 1 ≤ a.2.1 ∧ a.1.length ≤ 1000) fun a => .new ((illW a.1 a.2.1 a.2.2.1 a.2.2.2).map pD)
theorem len__law_ill_web (vs : List V) (H : Hp) (Q : VK) (E : XK) (h : sp__law_ill_web vs H Q E) : vs.length = 4 := by
  unfold sp__law_ill_web at h
  obtain ⟨a, r, _⟩ := h
  rw [r.len]
  rfl
theorem m4_at {c : Int} {a b d e : PyData} : atI [a, b, d, e] (c % 4) = some (if c % 4 = 0 then a else if c % 4 = 1 then b else if c % 4 = 2 then d else e) := by
  have h1 := Int.emod_nonneg c (show (4 : Int) ≠ 0 by omega)
  have h2 := Int.emod_lt_of_pos c (show (0 : Int) < 4 by omega)
  have h3 : c % 4 = 0 ∨ c % 4 = 1 ∨ c % 4 = 2 ∨ c % 4 = 3 := by omega
  rcases h3 with h | h | h | h <;> rw [h] <;> rfl
theorem m2_at {c : Int} {a b : PyData} : atI [a, b] (c % 2) = some (if c % 2 = 0 then a else b) := by
  have h1 := Int.emod_nonneg c (show (2 : Int) ≠ 0 by omega)
  have h2 := Int.emod_lt_of_pos c (show (0 : Int) < 2 by omega)
  have h3 : c % 2 = 0 ∨ c % 2 = 1 := by omega
  rcases h3 with h | h <;> rw [h] <;> rfl
section
variable {P : Program} {w : World} {K : PySem.W.Frag} {mg : Str → Option Value} {base : Heap}
theorem ok__law_ill_web {f : Addr} {fd : FuncData} (D : Df K mg "_law_ill_web" s__law_ill_web ["web", "many", "cell", "far"] f fd) (Bi : Bi mg) : FnOk P w K mg base CX0 1 f fd ["web", "many", "cell", "far"] sp__law_ill_web := by
  refine D.F.ok c__law_ill_web (fun vs H Q E h => len__law_ill_web _ _ _ _ h) (fun cdv A outer s H vs Q E hr h => ?_)
  refine ⟨_, (pss_cons (ps_set (i := 4) c__law_ill_web.nd rfl (.inl rfl) (pe_op op_modI (pe_op op_divI (pv 2) pe_int) (pe_op op_addI (pe_callB (cr_lenK (K := K)) (by rfl) Bi.len (by decide +kernel) (pa_cons (pv 0) pa_nil)) pe_int)))
      (pss_cons (ps_set (i := 5) c__law_ill_web.nd rfl (.inl rfl) (pe_op op_modI (pe_op op_divI (pv 2) pe_int) (pv 1)))
      (pss_cons (ps_set (i := 6) c__law_ill_web.nd rfl (.inl rfl) (pe_ix (ix_listK (K := K)) (pe_lst (pa_cons (pe_tupF (pa_cons (pv 5) (pa_cons (pv 5) pa_nil))) (pa_cons (pe_tupF (pa_cons (pv 5) (pa_cons (pv 3) pa_nil))) (pa_cons (pe_tupF (pa_cons (pv 3) (pa_cons (pv 5) pa_nil))) (pa_cons (pe_tupF (pa_cons (pv 3) (pa_cons (pe_op op_addI (pv 3) pe_int) pa_nil))) pa_nil))))) (pe_op op_modI (pv 2) pe_int) (fun _ _ => rfl)))
      (pss_cons (ps_if (PW.pt (pw_and (pt_cmpR op_eqI (pe_op op_modI (pe_op op_divI (pv 2) pe_int) pe_int) pe_int (nomark _)) (pw_and1 (pt_cmpR op_gtI (pe_callB (cr_lenK (K := K)) (by rfl) Bi.len (by decide +kernel) (pa_cons (pv 0) pa_nil)) pe_int (nomark _)))))
      (pss_cons (ps_set (i := 7) c__law_ill_web.nd rfl (.inl rfl) (pe_ix (ix_listK (K := K)) (pv 0) (pe_op op_modI (pe_op op_divI (pv 2) pe_int) (pe_callB (cr_lenK (K := K)) (by rfl) Bi.len (by decide +kernel) (pa_cons (pv 0) pa_nil))) (fun _ _ => rfl)))
      (pss_one (ps_set (i := 6) c__law_ill_web.nd rfl (.inl rfl) (pe_ix (ix_listK (K := K)) (pe_lst (pa_cons (pv 7) (pa_cons (pe_tupF (pa_cons (pe_ix (ix_tupK (K := K)) (pv 7) pe_int (fun _ _ => rfl)) (pa_cons (pe_ix (ix_tupK (K := K)) (pv 7) pe_int (fun _ _ => rfl)) pa_nil))) pa_nil))) (pe_op op_modI (pv 2) pe_int) (fun _ _ => rfl)))))
      pss_nil)
      (pss_one (ps_ret (pe_op op_cat (pe_op op_cat (pe_slice (sl_listK (K := K)) (pv 0) po_none (po_some (pv 4))) (pe_lst (pa_cons (pv 6) pa_nil))) (pe_slice (sl_listK (K := K)) (pv 0) (po_some (pv 4)) po_none)))))))), ?_⟩
  obtain ⟨⟨ps, m, c, far⟩, ⟨v1, _, rfl, hw, v2, _, rfl, rfl, v3, _, rfl, rfl, v4, _, rfl, rfl, rfl⟩, ⟨hm, hl⟩, q⟩ := h
  dsimp only at q hw hm hl
  have lz : ∀ {σ : L2.St} {H3 : Hp}, σ[0]? = some (some v1) → Ex H H3 → EvD (tCB (rLenS K) (tCons (tVar 0) tNil)) σ H3 (.int (ps.length : Int)) := fun {σ H3} s0 e3 => by
    have z : EvD (tCB (rLenS K) (tCons (tVar 0) tNil)) σ H3 (.int (ps.map pD).length) := evd_cb (evs_cons (evd_var s0 (hw.ex e3)) evs_nil) cd_lenL
    rwa [List.length_map] at z
  have hat : c / 16 % ((ps.length : Int) + 1) = ((illWat ps c : Nat) : Int) := by
    have := Int.emod_nonneg (c / 16) (show (ps.length : Int) + 1 ≠ 0 by omega)
    unfold illWat
    omega
  refine' s_asgI (n := ((illWat ps c : Nat) : Int)) ((evd_op (evd_op (evd_var rfl rp_int) evd_int (rd_divI ⟨by decide, by decide⟩)) (evd_op (lz rfl (Ex.refl _)) evd_int rd_addI) (rd_modI (by omega))).is (by rw [hat])) fun H1 e1 => ?_
  wtm_at "nx"
  refine' s_asgI (n := c / 2048 % m) (evd_op (evd_op (evd_var rfl rp_int) evd_int (rd_divI ⟨by decide, by decide⟩)) (evd_var rfl rp_int) (rd_modI (by omega))) fun H2 e2 => ?_
  wtm_at "nx"
  have e12 := e1.trans e2
  refine' s_asgD (d := if c % 4 = 0 then pD (c / 2048 % m, c / 2048 % m) else if c % 4 = 1 then pD (c / 2048 % m, far) else if c % 4 = 2 then pD (far, c / 2048 % m) else pD (far, far + 1)) (evd_op (EvN.toD (evn_lst ?l (Nat.le_of_ble_eq_true rfl))) (evd_op (evd_var rfl rp_int) evd_int (rd_modI (by decide))) (rd_ixL m4_at)) fun vb H3 e3 hb3 => ?_
  case l => exact evs_cons (evd_tup (evs_cons (evd_var rfl rp_int) (evs_cons (evd_var rfl rp_int) evs_nil)) (Nat.le_of_ble_eq_true rfl)) (evs_cons (evd_tup (evs_cons (evd_var rfl rp_int) (evs_cons (evd_var rfl rp_int) evs_nil)) (Nat.le_of_ble_eq_true rfl)) (evs_cons (evd_tup (evs_cons (evd_var rfl rp_int) (evs_cons (evd_var rfl rp_int) evs_nil)) (Nat.le_of_ble_eq_true rfl)) (evs_cons (evd_tup (evs_cons (evd_var rfl rp_int) (evs_cons (evd_op (evd_var rfl rp_int) evd_int rd_addI) evs_nil)) (Nat.le_of_ble_eq_true rfl)) evs_nil)))
  wtm_at "nx"
  have e13 := e12.trans e3
  refine joinK (A := V × Option V) (fun z => [some v1, some (.int m), some (.int c), some (.int far), some (.int ((illWat ps c : Nat) : Int)), some (.int (c / 2048 % m)), some z.1, z.2]) (fun z H' => Ex H3 H' ∧ Rp H' (pD (illBeat ps m c far)) z.1) (fun z H4 => ?_) fun cont => ?_
  rotate_left
  · refine' s_if (b := decide (c / 4 % 2 = 1) && decide (0 < (ps.length : Int))) ?t (fun hb H4 e4 => ?_) (fun hb H4 e4 => ?_)
    case t => exact et_and (ett (evd_op (evd_op (evd_op (evd_var rfl rp_int) evd_int (rd_divI ⟨by decide, by decide⟩)) evd_int (rd_modI (by decide))) evd_int rd_eqI)) fun _ => ett (evd_op (lz rfl e13) evd_int rd_gtI)
    · have hb : c / 4 % 2 = 1 ∧ 0 < ps.length := by simpa using hb
      have hl0 : (0 : Int) < (ps.length : Int) := by omega
      have b1 := Int.emod_nonneg (c / 2048) (show (ps.length : Int) ≠ 0 by omega)
      have b2 := Int.emod_lt_of_pos (c / 2048) hl0
      have hk : (c / 2048 % (ps.length : Int)).toNat < ps.length := by omega
      have hix : atI (ps.map pD) (c / 2048 % (ps.length : Int)) = some (pD (ps.getD (c / 2048 % (ps.length : Int)).toNat (0, 0))) := by
        refine atI_map (f := pD) ?_
        conv => lhs; rw [show c / 2048 % (ps.length : Int) = (((c / 2048 % (ps.length : Int)).toNat : Nat) : Int) by omega]
        refine atI_nat ?_
        rw [List.getD_eq_getElem?_getD, List.getElem?_eq_getElem hk]
        rfl
      refine' s_asgD (d := pD (ps.getD (c / 2048 % (ps.length : Int)).toNat (0, 0))) (evd_op (evd_var rfl (hw.ex (e13.trans e4))) (evd_op (evd_op (evd_var rfl rp_int) evd_int (rd_divI ⟨by decide, by decide⟩)) (lz rfl (e13.trans e4)) (rd_modI hl0)) (rd_ixL hix)) fun vo H5 e5 ho => ?_
      wtm_at "nx"
      generalize hg : ps.getD (c / 2048 % (ps.length : Int)).toNat (0, 0) = old at ho
      refine' s_asgD (d := if c % 2 = 0 then pD old else pD (swp old)) (evd_op (EvN.toD (evn_lst (evs_cons (evd_var rfl ho) (evs_cons (evd_tup (ds := [.int old.2, .int old.1]) (evs_cons (evd_op (evd_var rfl ho) evd_int (rd_ixT (atI_nat (j := 1) rfl))) (evs_cons (evd_op (evd_var rfl ho) evd_int (rd_ixT (atI_nat (j := 0) rfl))) evs_nil)) (Nat.le_of_ble_eq_true rfl)) evs_nil)) (Nat.le_of_ble_eq_true rfl))) (evd_op (evd_var rfl rp_int) evd_int (rd_modI (by decide))) (rd_ixL m2_at)) fun vb2 H6 e6 hb6 => ?_
      refine cont (vb2, some vo) H6 ⟨(e4.trans e5).trans e6, ?_⟩
      unfold illBeat
      rw [if_pos hb, hg]
      split <;> rename_i z
      · rw [if_pos z] at hb6
        exact hb6
      · rw [if_neg z] at hb6
        exact hb6
    · refine cont (vb, none) H4 ⟨e4, ?_⟩
      have hb : ¬ (c / 4 % 2 = 1 ∧ 0 < ps.length) := by simpa using hb
      have hb4 := hb3.ex e4
      unfold illBeat
      rw [if_neg hb]
      split at hb4
      · rename_i z
        rw [if_pos z]
        exact hb4
      · rename_i z
        rw [if_neg z]
        split at hb4
        · rename_i z2
          rw [if_pos z2]
          exact hb4
        · rename_i z2
          rw [if_neg z2]
          split at hb4
          · rename_i z3
            rw [if_pos z3]
            exact hb4
          · rename_i z3
            rw [if_neg z3]
            exact hb4
  · rintro ⟨e4, hz⟩
    wtm_at "nx"
    have hw4 := hw.ex (e13.trans e4)
    refine' s_retNw (ds := cutA (ps.map pD) none (some ((illWat ps c : Nat) : Int)) ++ [pD (illBeat ps m c far)] ++ cutA (ps.map pD) (some ((illWat ps c : Nat) : Int)) none) (evn_cat (evn_cat (evn_slL (evd_var rfl hw4) evp_none (evp_some (evd_var rfl rp_int))).toD (evn_lst (evs_cons (evd_var rfl hz) evs_nil) (Nat.le_of_ble_eq_true rfl)).toD ?sz1).toD (evn_slL (evd_var rfl hw4) (evp_some (evd_var rfl rp_int)) evp_none).toD ?sz) fun p ws H5 hn e5 k1 k2 => ?_
    case sz1 =>
      rw [cutA_to, List.length_take, List.length_map]
      show _ + 1 ≤ _
      omega
    case sz =>
      rw [cutA_to, cutA_from, List.length_append, List.length_take, List.length_drop, List.length_map]
      show _ + 1 + _ ≤ _
      omega
    have e : cutA (ps.map pD) none (some ((illWat ps c : Nat) : Int)) ++ [pD (illBeat ps m c far)] ++ cutA (ps.map pD) (some ((illWat ps c : Nat) : Int)) none = (illW ps m c far).map pD := by
      unfold illW
      rw [cutA_to, cutA_from, List.map_append, List.map_append, List.map_take, List.map_drop]
      rfl
    rw [e] at k2
    exact q p ws H5 (fresh_back (e13.trans e4) hn) ((e13.trans e4).trans e5) k1 k2
end
theorem ev_ill_web {σ : L2.St} {H : Hp} {t0 t1 t2 t3 : TE} {E : XK} {ps : List (Int × Int)} {m c far : Int} (h0 : EvD t0 σ H (wD ps)) (h1 : EvD t1 σ H (.int m)) (h2 : EvD t2 σ H (.int c)) (h3 : EvD t3 σ H (.int far)) (hm : 1 ≤ m) (hl : ps.length ≤ 1000) :
    EvN (tCall sp__law_ill_web [] E (tCons t0 (tCons t1 (tCons t2 (tCons t3 tNil))))) σ H ((illW ps m c far).map pD) := evn_callO (ps, m, c, far) (evs_cons h0 (evs_cons h1 (evs_cons h2 (evs_cons h3 evs_nil)))) ⟨hm, hl⟩ rfl
end Bm

namespace Bm
open PySem PySem.Spec PyProof.Rows L2 Evl
local macro_rules | `(tactic| wtm_at "rp") => `(tactic| first | exact rp_int | exact rp_bl | exact rp_str | exact rp_non | assumption | (refine' Rp.ex ?e ?h; (case h => assumption); (case e => assumption)) | exact Own.rp (by assumption))
local macro_rules | `(tactic| wtm_at "side") => `(tactic| first | assumption | omega | decide | rfl | exact ⟨by omega, by omega⟩)
local macro_rules | `(tactic| wtm_at "es") => `(tactic| first | exact evs_nil | (refine' evs_cons ?a ?b; (case a => wtm_at "ev"); (case b => wtm_at "es")))
local macro_rules | `(tactic| wtm_at "ev") => `(tactic| first
  | exact evd_int | exact evd_str | exact evd_bl | exact evd_non
  | (refine' evd_var rfl ?h; (case h => wtm_at "rp"))
  | ((with_reducible refine' evd_op ?a ?b rd_addI); (case a => wtm_at "ev"); (case b => wtm_at "ev"))
  | ((with_reducible refine' evd_op ?a ?b rd_subI); (case a => wtm_at "ev"); (case b => wtm_at "ev"))
  | ((with_reducible refine' evd_op ?a ?b (rd_mulI ?c)); (case a => wtm_at "ev"); (case b => wtm_at "ev"); (case c => wtm_at "side"))
  | ((with_reducible refine' evd_op ?a ?b (rd_divI ?c)); (case a => wtm_at "ev"); (case b => wtm_at "ev"); (case c => wtm_at "side"))
  | ((with_reducible refine' evd_op ?a ?b (rd_modI ?c)); (case a => wtm_at "ev"); (case b => wtm_at "ev"); (case c => wtm_at "side"))
  | ((with_reducible refine' evd_op ?a ?b rd_ltI); (case a => wtm_at "ev"); (case b => wtm_at "ev"))
  | ((with_reducible refine' evd_op ?a ?b rd_leI); (case a => wtm_at "ev"); (case b => wtm_at "ev"))
  | ((with_reducible refine' evd_op ?a ?b rd_gtI); (case a => wtm_at "ev"); (case b => wtm_at "ev"))
  | ((with_reducible refine' evd_op ?a ?b rd_geI); (case a => wtm_at "ev"); (case b => wtm_at "ev"))
  | ((with_reducible refine' evd_op ?a ?b rd_eqI); (case a => wtm_at "ev"); (case b => wtm_at "ev"))
  | ((with_reducible refine' evd_op ?a ?b rd_neI); (case a => wtm_at "ev"); (case b => wtm_at "ev"))
  | ((with_reducible refine' evd_op ?a ?b rd_eqB); (case a => wtm_at "ev"); (case b => wtm_at "ev"))
  | ((with_reducible refine' evd_op ?a ?b rd_neB); (case a => wtm_at "ev"); (case b => wtm_at "ev"))
  | ((with_reducible refine' evd_op ?a ?b rd_isNo); (case a => wtm_at "ev"); (case b => wtm_at "ev"))
  | ((with_reducible refine' evd_op ?a ?b rd_notNo); (case a => wtm_at "ev"); (case b => wtm_at "ev"))
  | ((with_reducible refine' evd_op ?a ?b rd_inIL); (case a => wtm_at "ev"); (case b => wtm_at "ev"))
  | ((with_reducible refine' evd_op ?a ?b rd_niIL); (case a => wtm_at "ev"); (case b => wtm_at "ev"))
  | ((with_reducible refine' evd_op ?a ?b rd_inID); (case a => wtm_at "ev"); (case b => wtm_at "ev"))
  | ((with_reducible refine' evd_op ?a ?b rd_niID); (case a => wtm_at "ev"); (case b => wtm_at "ev"))
  | ((with_reducible refine' evd_neg ?a); (case a => wtm_at "ev"))
  | ((with_reducible refine' evd_tix ?a ?b ?c); (case a => wtm_at "ev"); (case b => wtm_at "ev"); (case c => wtm_at "side"))
  | ((with_reducible refine' evd_tup ?a ?b); (case a => wtm_at "es"); (case b => exact Nat.le_of_ble_eq_true rfl))
  | ((with_reducible refine' evd_cb ?a cd_lenL); (case a => wtm_at "es"))
  | ((with_reducible refine' evd_cb ?a cd_lenT); (case a => wtm_at "es"))
  | ((with_reducible refine' evd_cb ?a cd_intB); (case a => wtm_at "es"))
  | ((with_reducible refine' evd_cb ?a cd_tupL); (case a => wtm_at "es"))
  | ((with_reducible refine' evd_and ?a ?b); (case a => wtm_at "ev"); (case b => intro _; wtm_at "ev"))
  | ((with_reducible refine' evd_or ?a ?b); (case a => wtm_at "ev"); (case b => intro _; wtm_at "ev"))
  | ((with_reducible refine' evd_not ?a); (case a => wtm_at "ev"))
  | ((with_reducible refine' evd_op ?a ?b rd_neIL); (case a => wtm_at "ev"); (case b => wtm_at "ev"))
  | ((with_reducible refine' evd_op ?a ?b rd_eqIL); (case a => wtm_at "ev"); (case b => wtm_at "ev"))
  | ((with_reducible refine' EvN.toD ?a); (case a => wtm_at "en")))
local macro_rules | `(tactic| wtm_at "en") => `(tactic| first
  | ((with_reducible refine' evn_cb ?a cn_sortTI); (case a => wtm_at "es"))
  | ((with_reducible refine' evn_cb ?a cn_listL); (case a => wtm_at "es"))
  | ((with_reducible refine' evn_cb ?a cn_listT); (case a => wtm_at "es"))
  | ((with_reducible refine' evn_rng ?a ?b); (case a => wtm_at "ev"); (case b => wtm_at "side"))
  | ((with_reducible refine' evn_lst ?a ?b); (case a => wtm_at "es"); (case b => exact Nat.le_of_ble_eq_true rfl))
  | ((with_reducible refine' evn_cat ?a ?b ?c); (case a => wtm_at "ev"); (case b => wtm_at "ev"); (case c => wtm_at "side"))
  | ((with_reducible refine' evn_slL ?a ?b ?c); (case a => wtm_at "ev"); (case b => first | exact evp_none | (refine' evp_some ?d; (case d => wtm_at "ev"))); (case c => first | exact evp_none | (refine' evp_some ?d; (case d => wtm_at "ev")))))
local macro_rules | `(tactic| wtm_at "et") => `(tactic| first
  | exact et_yes
  | (refine' ett ?a; (case a => wtm_at "ev"))
  | (refine' etB ?a; (case a => wtm_at "ev"))
  | (refine' et_and ?a ?b; (case a => wtm_at "et"); (case b => intro _; wtm_at "et"))
  | (refine' et_or ?a ?b; (case a => wtm_at "et"); (case b => intro _; wtm_at "et"))
  | (refine' et_not ?a; (case a => wtm_at "et")))
local macro_rules | `(tactic| wtm_at "nx") => `(tactic| try dsimp only [tSeq, tNext])
theorem many5 (c : Int) : 1 ≤ 1 + c % 6 ∧ 1 + c % 6 ≤ 6 := by omega
theorem isWeb.take {m : Int} {ps : List (Int × Int)} (h : isWeb m ps) (k : Nat) : isWeb m (ps.take k) := by
  obtain ⟨h1, h2⟩ := isWeb_set.mp h
  refine isWeb_set.mpr ⟨fun p hp => h1 p (List.mem_of_mem_take hp), ?_⟩
  rw [List.map_take]
  exact h2.sublist (List.take_sublist _ _)
theorem ev_flags {σ : L2.St} {H : Hp} {t0 t1 t2 t3 : TE} {E : XK} {way m : Int} {vs : List (List Int)} {ps : List (Int × Int)} (h0 : EvD t0 σ H (.int way)) (h1 : EvD t1 σ H (.int m)) (h2 : EvD t2 σ H (vD vs)) (h3 : EvD t3 σ H (wD ps)) (p : preA (way, m, vs, ps)) {bs : List Bool} (e : flagsL (kindF way m vs ps) = bs) :
    EvD (tCall sp__law_flags [] E (tCons t0 (tCons t1 (tCons t2 (tCons t3 tNil))))) σ H (bL bs) := by
  subst e
  exact EvN.toD (evn_callO (way, m, vs, ps) (evs_cons h0 (evs_cons h1 (evs_cons h2 (evs_cons h3 evs_nil)))) p rfl)
def badF : List (List Bool) := [[true, false, false, false, false, true], [false, true, false, false, false, true], [false, false, true, false, false, true], [false, false, false, true, false, true]]
def badR (x : Int) : List Bool := ((rgI 0 (5 : Int).toNat).map fun k => decide (k = x)) ++ [true]
theorem badF_eq : (rgI 0 (4 : Int).toNat).map badR = badF := by decide
def wrongF (far c : Int) : Int := if c % 4 = 0 then 0 else if c % 4 = 1 then 7 else if c % 4 = 2 then -1 - far else 7 + far
theorem wrongF_not {far c : Int} (h : 0 ≤ far) : ¬ okCount (wrongF far c) := fun z => by
  have z1 : 1 ≤ wrongF far c := z.1
  have z2 : wrongF far c ≤ 6 := z.2
  unfold wrongF at z1 z2
  split at z1
  · omega
  · split at z1
    · rename_i a b
      rw [if_neg a, if_pos b] at z2
      omega
    · split at z1
      · omega
      · rename_i a b c
        rw [if_neg a, if_neg b, if_neg c] at z2
        omega
def goneF (m far c : Int) : Int := if c % 4 = 0 then m else if c % 4 = 1 then m + far else if c % 4 = 2 then -2 else -2 - far
theorem goneF_out {m far c : Int} (h : 0 ≤ far) : goneF m far c < 0 ∨ m ≤ goneF m far c := by
  unfold goneF
  repeat' split
  all_goals omega
theorem int4_at {a b d e c : Int} : atI [PyData.int a, .int b, .int d, .int e] (c % 4) = some (.int (if c % 4 = 0 then a else if c % 4 = 1 then b else if c % 4 = 2 then d else e)) := by
  have h1 := Int.emod_nonneg c (show (4 : Int) ≠ 0 by omega)
  have h2 := Int.emod_lt_of_pos c (show (0 : Int) < 4 by omega)
  have h3 : c % 4 = 0 ∨ c % 4 = 1 ∨ c % 4 = 2 ∨ c % 4 = 3 := by omega
  rcases h3 with h | h | h | h <;> rw [h] <;> rfl
def sp_law (K : PySem.W.Frag) : Sp := fun vs H Q _ => ∃ (a : Addr) (ns : List Int), vs = [.ref a] ∧ SqL K H a (ns.map V.int) ∧ ns.length ≤ 63 ∧ ∀ H2, Q (.bl true) H2
theorem len_law {K : PySem.W.Frag} (vs : List V) (H : Hp) (Q : VK) (E : XK) (h : sp_law K vs H Q E) : vs.length = 1 := by
  obtain ⟨a, ns, rfl, _⟩ := h
  rfl
section
variable {P : Program} {w : World} {K : PySem.W.Frag} {mg : Str → Option Value} {base : Heap}
theorem ok_law {f : Addr} {fd : FuncData} (D : Df K mg "law" s_law ["script"] f fd) (Bi : Bi mg) {f__law_cell_at : Addr} {fd__law_cell_at : FuncData} (D__law_cell_at : Df K mg "_law_cell_at" s__law_cell_at ["script", "k"] f__law_cell_at fd__law_cell_at) (G__law_cell_at : FnOk P w K mg base CX0 1 f__law_cell_at fd__law_cell_at ["script", "k"] (sp__law_cell_at K)) {f__law_voters : Addr} {fd__law_voters : FuncData} (D__law_voters : Df K mg "_law_voters" s__law_voters ["script", "start", "many", "most"] f__law_voters fd__law_voters) (G__law_voters : FnOk P w K mg base CX0 2 f__law_voters fd__law_voters ["script", "start", "many", "most"] (sp__law_voters K)) {f__law_web : Addr} {fd__law_web : FuncData} (D__law_web : Df K mg "_law_web" s__law_web ["script", "start", "many"] f__law_web fd__law_web) (G__law_web : FnOk P w K mg base CX0 2 f__law_web fd__law_web ["script", "start", "many"] (sp__law_web K)) {f__law_order : Addr} {fd__law_order : FuncData} (D__law_order : Df K mg "_law_order" s__law_order ["cell", "many"] f__law_order fd__law_order) (G__law_order : FnOk P w K mg base CX0 1 f__law_order fd__law_order ["cell", "many"] sp__law_order) {f__law_ill_voter : Addr} {fd__law_ill_voter : FuncData} (D__law_ill_voter : Df K mg "_law_ill_voter" s__law_ill_voter ["voter", "many", "cell"] f__law_ill_voter fd__law_ill_voter) (G__law_ill_voter : FnOk P w K mg base CX0 1 f__law_ill_voter fd__law_ill_voter ["voter", "many", "cell"] sp__law_ill_voter) {f__law_ill_web : Addr} {fd__law_ill_web : FuncData} (D__law_ill_web : Df K mg "_law_ill_web" s__law_ill_web ["web", "many", "cell", "far"] f__law_ill_web fd__law_ill_web) (G__law_ill_web : FnOk P w K mg base CX0 1 f__law_ill_web fd__law_ill_web ["web", "many", "cell", "far"] sp__law_ill_web) {f__law_flags : Addr} {fd__law_flags : FuncData} (D__law_flags : Df K mg "_law_flags" s__law_flags ["way", "many", "voters", "web"] f__law_flags fd__law_flags) (G__law_flags : FnOk P w K mg base CX0 6 f__law_flags fd__law_flags ["way", "many", "voters", "web"] sp__law_flags) : FnOk P w K mg base CX0 7 f fd ["script"] (sp_law K) := by
  refine D.F.ok c_law (fun vs H Q E h => len_law _ _ _ _ h) (fun cdv A outer s H vs Q E hr h => ?_)
  refine ⟨_, (pss_cons (ps_set (i := 1) c_law.nd rfl (.inl rfl) (pe_op op_addI pe_int (pe_op op_modI (pe_call G__law_cell_at (hr.mono (by decide)) (by rfl) D__law_cell_at.g D__law_cell_at.F.kp D__law_cell_at.b .nil pass0 (pa_cons (pv 0) (pa_cons pe_int pa_nil))) pe_int)))
      (pss_cons (ps_set (i := 2) c_law.nd rfl (.inl rfl) (pe_slice (sl_listK (K := K)) (pe_call G__law_voters (hr.mono (by decide)) (by rfl) D__law_voters.g D__law_voters.F.kp D__law_voters.b .nil pass0 (pa_cons (pv 0) (pa_cons pe_int (pa_cons (pv 1) (pa_cons pe_int pa_nil))))) po_none (po_some pe_int)))
      (pss_cons (ps_set (i := 3) c_law.nd rfl (.inl rfl) (pe_call G__law_web (hr.mono (by decide)) (by rfl) D__law_web.g D__law_web.F.kp D__law_web.b .nil pass0 (pa_cons (pv 0) (pa_cons pe_int (pa_cons (pv 1) pa_nil)))))
      (pss_cons (ps_set (i := 4) c_law.nd rfl (.inl rfl) (pe_op op_modI (pe_call G__law_cell_at (hr.mono (by decide)) (by rfl) D__law_cell_at.g D__law_cell_at.F.kp D__law_cell_at.b .nil pass0 (pa_cons (pv 0) (pa_cons pe_int pa_nil))) (pe_op op_powI pe_int pe_int)))
      (pss_cons (ps_set (i := 5) c_law.nd rfl (.inl rfl) (pe_ix (ix_listK (K := K)) (pe_lst (pa_cons pe_int (pa_cons pe_int (pa_cons (pe_op op_subI (pe_un un_negI pe_int) (pv 4)) (pa_cons (pe_op op_addI pe_int (pv 4)) pa_nil))))) (pe_op op_modI (pe_call G__law_cell_at (hr.mono (by decide)) (by rfl) D__law_cell_at.g D__law_cell_at.F.kp D__law_cell_at.b .nil pass0 (pa_cons (pv 0) (pa_cons pe_int pa_nil))) pe_int) (fun _ _ => rfl)))
      (pss_cons (ps_set (i := 6) c_law.nd rfl (.inl rfl) (pe_call G__law_order (hr.mono (by decide)) (by rfl) D__law_order.g D__law_order.F.kp D__law_order.b .nil pass0 (pa_cons (pe_call G__law_cell_at (hr.mono (by decide)) (by rfl) D__law_cell_at.g D__law_cell_at.F.kp D__law_cell_at.b .nil pass0 (pa_cons (pv 0) (pa_cons pe_int pa_nil))) (pa_cons (pv 1) pa_nil))))
      (pss_cons (ps_set (i := 7) c_law.nd rfl (.inl rfl) (pe_op op_modI (pe_call G__law_cell_at (hr.mono (by decide)) (by rfl) D__law_cell_at.g D__law_cell_at.F.kp D__law_cell_at.b .nil pass0 (pa_cons (pv 0) (pa_cons pe_int pa_nil))) (pe_op op_addI (pe_callB (cr_lenK (K := K)) (by rfl) Bi.len (by decide +kernel) (pa_cons (pv 2) pa_nil)) pe_int)))
      (pss_cons (ps_set (i := 8) c_law.nd rfl (.inl rfl) (pe_op op_cat (pe_op op_cat (pe_slice (sl_listK (K := K)) (pv 2) po_none (po_some (pv 7))) (pe_lst (pa_cons (pe_call G__law_ill_voter (hr.mono (by decide)) (by rfl) D__law_ill_voter.g D__law_ill_voter.F.kp D__law_ill_voter.b .nil pass0 (pa_cons (pv 6) (pa_cons (pv 1) (pa_cons (pe_op op_modI (pe_call G__law_cell_at (hr.mono (by decide)) (by rfl) D__law_cell_at.g D__law_cell_at.F.kp D__law_cell_at.b .nil pass0 (pa_cons (pv 0) (pa_cons pe_int pa_nil))) (pe_op op_powI pe_int pe_int)) pa_nil)))) pa_nil))) (pe_slice (sl_listK (K := K)) (pv 2) (po_some (pv 7)) po_none)))
      (pss_cons (ps_set (i := 9) c_law.nd rfl (.inl rfl) (pe_ix (ix_listK (K := K)) (pe_lst (pa_cons (pv 1) (pa_cons (pe_op op_addI (pv 1) (pv 4)) (pa_cons (pe_un un_negI pe_int) (pa_cons (pe_op op_subI (pe_un un_negI pe_int) (pv 4)) pa_nil))))) (pe_op op_modI (pe_op op_divI (pe_call G__law_cell_at (hr.mono (by decide)) (by rfl) D__law_cell_at.g D__law_cell_at.F.kp D__law_cell_at.b .nil pass0 (pa_cons (pv 0) (pa_cons pe_int pa_nil))) pe_int) pe_int) (fun _ _ => rfl)))
      (pss_cons (ps_set (i := 10) c_law.nd rfl (.inl rfl) (pe_call G__law_ill_web (hr.mono (by decide)) (by rfl) D__law_ill_web.g D__law_ill_web.F.kp D__law_ill_web.b .nil pass0 (pa_cons (pv 3) (pa_cons (pv 1) (pa_cons (pe_call G__law_cell_at (hr.mono (by decide)) (by rfl) D__law_cell_at.g D__law_cell_at.F.kp D__law_cell_at.b .nil pass0 (pa_cons (pv 0) (pa_cons pe_int pa_nil))) (pa_cons (pv 9) pa_nil))))))
      (pss_cons (ps_setLc (i := 11) (own := [("kind", 15)]) (g := (gName 15)) (tt := tYes) rfl c_law.nd rfl rfl (sw_true rfl rfl rfl (by decide +kernel)) (pi_range1 (by rfl) Bi.range (pa_cons pe_int pa_nil)) (blkOk_by (own := [("kind", 15)]) (N := ["script", "many", "voters", "web", "far", "wrong", "voter", "at", "spoiled", "gone", "bad_web", "bad", "way", "due", "good", "kind", "k"]) (sc := defScope s_law) (by decide +kernel)) (fun _ _ _ _ _ => (pg_name (i := 15) c_law.nd rfl (.inr rfl))) (fun _ _ _ _ _ => pts_nil) (fun _ _ _ _ _ => (pe_op op_cat (pe_lc (own := [("k", 16)]) (g := (gName 16)) (tt := tYes) rfl c_law.nd (pi_range1 (by rfl) Bi.range (pa_cons pe_int pa_nil)) (blkOk_by (by kernel_rfl)) (fun _ _ _ _ _ => (pg_name (i := 16) c_law.nd rfl (.inl rfl))) (fun _ _ _ _ _ => pts_nil) (fun _ _ _ _ _ => (pe_cmpR op_eqI (pv 16) (pv 15) (nomark _)))) (pe_lst (pa_cons pe_bl pa_nil)))))
      (pss_cons (ps_for (PassesOwn.never) rfl (pi_range1 (by rfl) Bi.range (pa_cons pe_int pa_nil)) (pg_name (i := 12) c_law.nd rfl (.inl rfl))
      (pss_cons (ps_if (pt_cmpR (op_neDK (K := K) hr.units) (pe_call G__law_flags (hr.mono (by decide)) (by rfl) D__law_flags.g D__law_flags.F.kp D__law_flags.b .nil pass0 (pa_cons (pv 12) (pa_cons (pv 5) (pa_cons (pv 8) (pa_cons (pv 10) pa_nil))))) (pe_ix (ix_listK (K := K)) (pv 11) pe_int (fun _ _ => rfl)) (nomark _))
      (pss_one (ps_ret pe_bl))
      pss_nil)
      (pss_cons (ps_if (PW.pt (pw_and (pt_cmpR op_ltI (pv 12) pe_int (nomark _)) (pw_and (pt_cmpR op_geI (pv 12) (pe_callTy cr_intB (by rfl) Bi.int (by decide +kernel) (pa_cons (pe_cmpR op_eqI (pv 1) pe_int (nomark _)) pa_nil)) (nomark _)) (pw_and1 (pt_cmpR (op_neDK (K := K) hr.units) (pe_call G__law_flags (hr.mono (by decide)) (by rfl) D__law_flags.g D__law_flags.F.kp D__law_flags.b .nil pass0 (pa_cons (pv 12) (pa_cons (pv 1) (pa_cons (pv 8) (pa_cons (pv 10) pa_nil))))) (pe_ix (ix_listK (K := K)) (pv 11) pe_int (fun _ _ => rfl)) (nomark _))))))
      (pss_one (ps_ret pe_bl))
      pss_nil)
      (pss_cons (ps_if (PW.pt (pw_and (pt_cmpR op_gtI (pv 12) pe_int (nomark _)) (pw_and1 (pt_cmpR (op_neDK (K := K) hr.units) (pe_call G__law_flags (hr.mono (by decide)) (by rfl) D__law_flags.g D__law_flags.F.kp D__law_flags.b .nil pass0 (pa_cons (pv 12) (pa_cons (pv 1) (pa_cons (pv 2) (pa_cons (pv 10) pa_nil))))) (pe_ix (ix_listK (K := K)) (pv 11) pe_int (fun _ _ => rfl)) (nomark _)))))
      (pss_one (ps_ret pe_bl))
      pss_nil)
      (pss_cons (ps_set (i := 13) c_law.nd rfl (.inl rfl) (pe_lst pa_nil))
      (pss_cons (ps_if (PW.pt (pw_and (pt_cmpR op_eqI (pv 12) pe_int (nomark _)) (pw_and1 (pt_cmpR op_gtI (pv 1) pe_int (nomark _)))))
      (pss_one (ps_set (i := 13) c_law.nd rfl (.inl rfl) (pe_ix (ix_listK (K := K)) (pv 11) pe_int (fun _ _ => rfl))))
      pss_nil)
      (pss_cons (ps_set (i := 14) c_law.nd rfl (.inl rfl) (pv 3))
      (pss_cons (ps_if (pt_cmpR op_eqI (pv 12) pe_int (nomark _))
      (pss_one (ps_set (i := 14) c_law.nd rfl (.inl rfl) (pe_slice (sl_listK (K := K)) (pv 3) po_none (po_some pe_int))))
      pss_nil)
      (pss_one (ps_if (PW.pt (pw_and (PW.pt (pw_or (pt_cmpR op_gtI (pv 12) pe_int (nomark _)) (pw_or1 (pt_cmpR op_gtI (pv 1) pe_int (nomark _))))) (pw_and1 (pt_cmpR (op_neDK (K := K) hr.units) (pe_call G__law_flags (hr.mono (by decide)) (by rfl) D__law_flags.g D__law_flags.F.kp D__law_flags.b .nil pass0 (pa_cons (pv 12) (pa_cons (pv 1) (pa_cons (pv 2) (pa_cons (pv 14) pa_nil))))) (pv 13) (nomark _)))))
      (pss_one (ps_ret pe_bl))
      pss_nil))))))))))
      (pss_one (ps_ret pe_bl)))))))))))))), ?_⟩
  obtain ⟨sa, ns, rfl, hs, hlen, q⟩ := h
  have hm := many5 (cellF ns 0)
  refine' s_asgI (n := 1 + cellF ns 0 % 6) (evd_op evd_int (evd_op (ev_cell hs rfl evd_int (by decide)) evd_int (rd_modI (by decide))) rd_addI) fun H1 e1 => ?_
  wtm_at "nx"
  generalize 1 + cellF ns 0 % 6 = m at hm
  have hm6 : 0 ≤ m ∧ m ≤ 6 := by omega
  have okm : okCount m := hm
  have hs1 := ex_l e1 hs
  -- voters
  have hvot0 := lawVot_ok ns 1 m 5
  refine' s_asgD (d := vD ((lawVot ns 1 m 5).take 59)) ((EvN.toD (evn_slL (ev_voters (start := 1) (m := m) (most := 5) hs1 rfl evd_int (evd_var rfl rp_int) evd_int (by decide) hm6 (by omega)).toD evp_none (evp_some evd_int))).is (by show PyData.list (cutA _ none (some ((59 : Nat) : Int))) = _; rw [cutA_to, ← List.map_take])) fun vv H2 e2 hv2 => ?_
  wtm_at "nx"
  have hvl : ((lawVot ns 1 m 5).take 59).length ≤ 59 := by rw [List.length_take]; omega
  have hvot : isVot m ((lawVot ns 1 m 5).take 59) := fun v h => hvot0 v (List.mem_of_mem_take h)
  generalize (lawVot ns 1 m 5).take 59 = vss at hv2 hvl hvot
  have hs2 := ex_l e2 hs1
  -- web
  have hweb := lawWeb_web ns 8 m
  have hwl := lawWeb_len ns 8 hm6
  refine' s_asgD (d := wD (lawWeb ns 8 m)) (EvN.toD (ev_lweb (start := 8) (m := m) hs2 rfl evd_int (evd_var rfl rp_int) (by decide) hm6)) fun vw H3 e3 hw3 => ?_
  wtm_at "nx"
  generalize lawWeb ns 8 m = ps at hweb hwl hw3
  have hs3 := ex_l e3 hs2
  have hv3 := hv2.ex e3
  -- far
  have hfar := Int.emod_nonneg (cellF ns 10) (show (10 : Int) ^ (30 : Int).toNat ≠ 0 by decide)
  refine' s_asgI (n := cellF ns 10 % 10 ^ (30 : Int).toNat) (evd_op (ev_cell hs3 rfl evd_int (by decide)) (evd_op evd_int evd_int (rd_powI ⟨by decide, by decide, by decide⟩)) (rd_modI (by decide))) fun H4 e4 => ?_
  wtm_at "nx"
  generalize cellF ns 10 % 10 ^ (30 : Int).toNat = far at hfar
  have hs4 := ex_l e4 hs3
  -- wrong
  refine' s_asgI (n := wrongF far (cellF ns 11)) (evd_op (EvN.toD (evn_lst (ds := [.int 0, .int 7, .int (-1 - far), .int (7 + far)]) ?l1 (Nat.le_of_ble_eq_true rfl))) (evd_op (ev_cell hs4 rfl evd_int (by decide)) evd_int (rd_modI (by decide))) (rd_ixL int4_at)) fun H5 e5 => ?_
  case l1 => exact evs_cons evd_int (evs_cons evd_int (evs_cons (evd_op (evd_neg evd_int) (evd_var rfl rp_int) rd_subI) (evs_cons (evd_op evd_int (evd_var rfl rp_int) rd_addI) evs_nil)))
  wtm_at "nx"
  have hwr := wrongF_not (c := cellF ns 11) hfar
  generalize wrongF far (cellF ns 11) = wrong at hwr
  have hs5 := ex_l e5 hs4
  -- voter
  have hord := lawOrd_ord (cellF ns 12) m
  refine' s_asgD (d := iD (lawOrd (cellF ns 12) m)) (ev_order (ev_cell hs5 rfl evd_int (by decide)) (evd_var rfl rp_int) hm6) fun v1 H6 e6 hv6 => ?_
  wtm_at "nx"
  generalize lawOrd (cellF ns 12) m = vo at hord hv6
  have hs6 := ex_l e6 hs5
  have e36 := (e4.trans e5).trans e6
  have hv36 := hv3.ex e36
  -- at
  have lz : EvD (tCB (rLenS K) (tCons (tVar 2) tNil)) [some (V.ref sa), some (.int m), some vv, some vw, some (.int far), some (.int wrong), some v1, none, none, none, none, none, none, none, none, none, none] H6 (.int (vss.map iD).length) := evd_cb (evs_cons (evd_var rfl hv36) evs_nil) cd_lenL
  rw [List.length_map] at lz
  have a0 := Int.emod_nonneg (cellF ns 13) (show ((vss.length : Nat) : Int) + 1 ≠ 0 by omega)
  refine' s_asgI (n := (((cellF ns 13 % ((vss.length : Int) + 1)).toNat : Nat) : Int)) ((evd_op (ev_cell hs6 rfl evd_int (by decide)) (evd_op lz evd_int rd_addI) (rd_modI (by omega))).is (by rw [show (((cellF ns 13 % ((vss.length : Int) + 1)).toNat : Nat) : Int) = cellF ns 13 % ((vss.length : Int) + 1) by omega])) fun H7 e7 => ?_
  wtm_at "nx"
  generalize (cellF ns 13 % ((vss.length : Int) + 1)).toNat = at_
  have hs7 := ex_l e7 hs6
  have hv7 := hv36.ex e7
  have hvo7 := hv6.ex e7
  -- spoiled
  generalize hc14 : cellF ns 14 % 10 ^ (30 : Int).toNat = c14
  refine' s_asgD (d := vD (vss.take at_ ++ [illV vo m c14] ++ vss.drop at_)) ((EvN.toD (evn_cat (evn_cat (evn_slL (evd_var rfl hv7) evp_none (evp_some (evd_var rfl rp_int))).toD (evn_lst (evs_cons (ev_ill_voter (v := vo) (m := m) (c := c14) (evd_var rfl hvo7) (evd_var rfl rp_int) ?c14 hm hord) evs_nil) (Nat.le_of_ble_eq_true rfl)).toD ?sz1).toD (evn_slL (evd_var rfl hv7) (evp_some (evd_var rfl rp_int)) evp_none).toD ?sz2)).is ?eq) fun vsp H8 e8 hsp => ?_
  case c14 => exact (evd_op (ev_cell hs7 rfl evd_int (by decide)) (evd_op evd_int evd_int (rd_powI ⟨by decide, by decide, by decide⟩)) (rd_modI (by decide))).is (by rw [hc14])
  case eq =>
    rw [cutA_to, cutA_from, ← List.map_take, ← List.map_drop]
    show PyData.list _ = PyData.list _
    rw [List.map_append, List.map_append]
    rfl
  case sz1 =>
    rw [cutA_to, List.length_take, List.length_map]
    show _ + 1 ≤ _
    omega
  case sz2 =>
    rw [cutA_to, cutA_from, List.length_append, List.length_take, List.length_drop, List.length_map]
    show _ + 1 + _ ≤ _
    omega
  wtm_at "nx"
  have hspn : ¬ isVot m (vss.take at_ ++ [illV vo m c14] ++ vss.drop at_) := fun z => illV_not (cell := c14) hm.1 hord (z (illV vo m c14) (by simp))
  have hspl : (vss.take at_ ++ [illV vo m c14] ++ vss.drop at_).length ≤ 1000 := by
    rw [List.length_append, List.length_append, List.length_take, List.length_drop]
    show _ + 1 + _ ≤ _
    omega
  generalize vss.take at_ ++ [illV vo m c14] ++ vss.drop at_ = spo at hsp hspn hspl
  have hs8 := ex_l e8 hs7
  -- gone
  refine' s_asgI (n := goneF m far (cellF ns 11 / 4)) (evd_op (EvN.toD (evn_lst (ds := [.int m, .int (m + far), .int (-2), .int (-2 - far)]) ?l2 (Nat.le_of_ble_eq_true rfl))) (evd_op (evd_op (ev_cell hs8 rfl evd_int (by decide)) evd_int (rd_divI ⟨by decide, by decide⟩)) evd_int (rd_modI (by decide))) (rd_ixL int4_at)) fun H9 e9 => ?_
  case l2 => exact evs_cons (evd_var rfl rp_int) (evs_cons (evd_op (evd_var rfl rp_int) (evd_var rfl rp_int) rd_addI) (evs_cons (evd_neg evd_int) (evs_cons (evd_op (evd_neg evd_int) (evd_var rfl rp_int) rd_subI) evs_nil)))
  wtm_at "nx"
  have hgo := goneF_out (m := m) (c := cellF ns 11 / 4) hfar
  generalize goneF m far (cellF ns 11 / 4) = gone at hgo
  have hs9 := ex_l e9 hs8
  have e39 := ((e36.trans e7).trans e8).trans e9
  have hw9 := hw3.ex e39
  -- bad_web
  refine' s_asgD (d := wD (illW ps m (cellF ns 15) gone)) (EvN.toD (ev_ill_web (evd_var rfl hw9) (evd_var rfl rp_int) (ev_cell hs9 rfl evd_int (by decide)) (evd_var rfl rp_int) hm.1 (by omega))) fun vb H10 e10 hb10 => ?_
  wtm_at "nx"
  have hbn := illW_not (cell := cellF ns 15) hm.1 hgo hweb
  have hbl := illW_len ps m (cellF ns 15) gone
  generalize illW ps m (cellF ns 15) gone = bw at hb10 hbn hbl
  -- bad
  refine' s_asgD (d := .list (badF.map bL)) ((EvN.toD (evn_lcRB (n := 4) badR (evs_cons evd_int evs_nil) (by omega) fun x H11 x0 x1 e11 => ?turn)).is (by show PyData.list (List.map bL ((rgI 0 (4 : Int).toNat).map badR)) = _; rw [badF_eq])) fun vbad H11 e11 hbad => ?_
  case turn =>
    refine ⟨_, fun Q hq => hq, rfl, ?_⟩
    have e : (badR x).map PyData.bool = (((rgI 0 (5 : Int).toNat).filter fun _ => true).map fun k => PyData.bool (decide (k = x))) ++ [PyData.bool true] := by
      unfold badR
      rw [List.filter_eq_self.mpr (fun _ _ => rfl), List.map_append, List.map_map]
      rfl
    rw [e]
    refine' evn_cat (EvN.toD (evn_lcR (n := 5) (fun _ => true) (fun k => .bool (decide (k = x))) (evs_cons evd_int evs_nil) (by omega) (fun k H12 k0 k1 e12 => ⟨_, fun Q hq => hq, rfl, et_yes, fun _ => ?_⟩) fun _ _ _ _ => rfl)) (EvN.toD (evn_lst (evs_cons evd_bl evs_nil) (Nat.le_of_ble_eq_true rfl))) (Nat.le_of_ble_eq_true rfl)
    exact evd_op (evd_var rfl rp_int) (evd_var rfl rp_int) rd_eqI
  wtm_at "nx"
  have e3b := (e39.trans e10).trans e11
  have hv11 := hv3.ex e3b
  have hw11 := hw3.ex e3b
  have hsp11 := hsp.ex ((e9.trans e10).trans e11)
  have hb11 := hb10.ex e11
  refine' s_forR (n := 10) ?n (by omega) fun H12 e12 => ⟨fun i σ' H' => (∃ y z u, σ' = [some (.ref sa), some (.int m), some vv, some vw, some (.int far), some (.int wrong), some v1, some (.int (at_ : Int)), some vsp, some (.int gone), some vb, some vbad, y, z, u, none, none]) ∧ Ex H12 H', ?_, ?_, ?_⟩
  case n => wtm_at "es"
  · exact ⟨⟨_, _, _, rfl⟩, Ex.refl _⟩
  · rintro i σ' H' hi ⟨⟨y, z, u, rfl⟩, e⟩
    refine g_name ?_
    have hi10 : (0 : Int) ≤ (i : Int) ∧ (i : Int) ≤ 9 := by omega
    generalize (i : Int) = way at hi10
    have eb := e12.trans e
    have hv := hv11.ex eb
    have hw := hw11.ex eb
    have hsp' := hsp11.ex eb
    have hb := hb11.ex eb
    have hbad' := hbad.ex eb
    -- too few or too many things
    refine' s_if (b := !decide True) ?t1 (fun z => absurd z (by simp)) fun _ H13 e13 => ?_
    case t1 =>
      refine ett (evd_op (ev_flags (bs := [true, false, false, false, false, true]) (evd_var rfl rp_int) (evd_var rfl rp_int) (evd_var rfl hsp') (evd_var rfl hb) ⟨hi10, fun _ c => absurd c hwr, hspl, by show bw.length < 64; omega⟩ ?e) (evd_op (evd_var rfl hbad') evd_int (rd_ixL (atI_nat (j := 0) rfl))) (by have z := rd_neBL (K := K) (H := H') (bs := [true, false, false, false, false, true]) (cs := [true, false, false, false, false, true]); exact z))
      unfold kindF
      rw [if_pos hwr]
      rfl
    wtm_at "nx"
    have k13 : Ex H11 H13 := eb.trans e13
    have hv13 := hv.ex e13
    have hw13 := hw.ex e13
    have hsp13 := hsp'.ex e13
    have hb13 := hb.ex e13
    have hbad13 := hbad'.ex e13
    -- voters
    refine' s_if (b := decide (way < 5) && (decide ((if decide (m = 1) then (1 : Int) else 0) ≤ way) && !decide True)) ?t2 (fun z => absurd z (by simp)) fun _ H14 e14 => ?_
    case t2 =>
      refine et_and (ett (evd_op (evd_var rfl rp_int) evd_int rd_ltI)) fun h5 => et_and (ett (evd_op (evd_var rfl rp_int) (evd_cb (evs_cons (evd_op (evd_var rfl rp_int) evd_int rd_eqI) evs_nil) cd_intB) rd_geI)) fun _ => ?_
      have h5 : way < 5 := by simpa using h5
      refine ett (evd_op (ev_flags (bs := [false, true, false, false, false, true]) (evd_var rfl rp_int) (evd_var rfl rp_int) (evd_var rfl hsp13) (evd_var rfl hb13) ⟨hi10, fun _ _ c => absurd c hspn, hspl, by show bw.length < 64; omega⟩ ?e2) (evd_op (evd_var rfl hbad13) evd_int (rd_ixL (atI_nat (j := 1) rfl))) (by have z := rd_neBL (K := K) (H := H13) (bs := [false, true, false, false, false, true]) (cs := [false, true, false, false, false, true]); exact z))
      unfold kindF
      rw [if_neg (fun z => z okm), if_pos ⟨by omega, hspn⟩]
      rfl
    wtm_at "nx"
    have hv14 := hv13.ex e14
    have hw14 := hw13.ex e14
    have hb14 := hb13.ex e14
    have hbad14 := hbad13.ex e14
    -- webs
    refine' s_if (b := decide (2 < way) && !decide True) ?t3 (fun z => absurd z (by simp)) fun _ H15 e15 => ?_
    case t3 =>
      refine et_and (ett (evd_op (evd_var rfl rp_int) evd_int rd_gtI)) fun h5 => ?_
      have h5 : 2 < way := by simpa using h5
      refine ett (evd_op (ev_flags (bs := [false, false, true, false, false, true]) (evd_var rfl rp_int) (evd_var rfl rp_int) (evd_var rfl hv14) (evd_var rfl hb14) ⟨hi10, fun z => by dsimp only at z; omega, by show vss.length ≤ 1000; omega, by show bw.length < 64; omega⟩ ?e3) (evd_op (evd_var rfl hbad14) evd_int (rd_ixL (atI_nat (j := 2) rfl))) (by have z := rd_neBL (K := K) (H := H14) (bs := [false, false, true, false, false, true]) (cs := [false, false, true, false, false, true]); exact z))
      unfold kindF
      rw [if_neg (fun z => z okm), if_neg (fun z => z.2 hvot), if_pos ⟨by omega, hbn⟩]
      rfl
    wtm_at "nx"
    have hv15 := hv14.ex e15
    have hw15 := hw14.ex e15
    have hbad15 := hbad14.ex e15
    have k15 : Ex H12 H15 := ((e.trans e13).trans e14).trans e15
    -- due
    refine' s_asgD (d := bL []) (EvN.toD (evn_lst evs_nil (by decide))) fun vd H16 e16 hd16 => ?_
    wtm_at "nx"
    refine joinK (A := V) (fun v => [some (.ref sa), some (.int m), some vv, some vw, some (.int far), some (.int wrong), some v1, some (.int (at_ : Int)), some vsp, some (.int gone), some vb, some vbad, some (.int way), some v, u, none, none]) (fun v H' => Ex H15 H' ∧ Rp H' (bL (if way = 9 ∧ 4 < m then [false, false, false, true, false, true] else [])) v) (fun v H17 => ?_) fun cont => ?_
    rotate_left
    · refine' s_if (b := decide (way = 9) && decide (4 < m)) (et_and (ett (evd_op (evd_var rfl rp_int) evd_int rd_eqI)) fun _ => ett (evd_op (evd_var rfl rp_int) evd_int rd_gtI)) (fun hb H17 e17 => ?_) (fun hb H17 e17 => ?_)
      · have hb : way = 9 ∧ 4 < m := by simpa using hb
        refine' s_asgD (d := bL [false, false, false, true, false, true]) (evd_op (evd_var rfl (hbad15.ex (e16.trans e17))) evd_int (rd_ixL (atI_nat (j := 3) rfl))) fun v H18 e18 r => ?_
        refine cont v H18 ⟨(e16.trans e17).trans e18, ?_⟩
        rw [if_pos hb]
        exact r
      · have hb : ¬ (way = 9 ∧ 4 < m) := by simpa using hb
        refine cont vd H17 ⟨e16.trans e17, ?_⟩
        rw [if_neg hb]
        exact hd16.ex e17
    · rintro ⟨e17, hd17⟩
      wtm_at "nx"
      have hw17 := hw15.ex e17
      refine' s_asgD (d := wD ps) (evd_var rfl hw17) fun vg H18 e18 hg18 => ?_
      wtm_at "nx"
      refine joinK (A := V) (fun x => [some (.ref sa), some (.int m), some vv, some vw, some (.int far), some (.int wrong), some v1, some (.int (at_ : Int)), some vsp, some (.int gone), some vb, some vbad, some (.int way), some v, some x, none, none]) (fun x H' => Ex H17 H' ∧ ∃ qs, Rp H' (wD qs) x ∧ isWeb m qs ∧ qs.length ≤ 15) (fun x H19 => ?_) fun cont => ?_
      rotate_left
      · refine' s_if (b := decide (way = 9)) (ett (evd_op (evd_var rfl rp_int) evd_int rd_eqI)) (fun hb H19 e19 => ?_) (fun hb H19 e19 => ?_)
        · refine' s_asgD (d := wD (ps.take 1)) ((EvN.toD (evn_slL (evd_var rfl (hw17.ex (e18.trans e19))) evp_none (evp_some evd_int))).is (by show PyData.list (cutA _ none (some ((1 : Nat) : Int))) = _; rw [cutA_to, ← List.map_take])) fun x H20 e20 r => ?_
          exact cont x H20 ⟨(e18.trans e19).trans e20, _, r, hweb.take 1, by rw [List.length_take]; omega⟩
        · exact cont vg H19 ⟨e18.trans e19, ps, hg18.ex e19, hweb, hwl⟩
      · rintro ⟨e19, qs, hq, hqw, hql⟩
        wtm_at "nx"
        have hv19 := (hv15.ex e17).ex e19
        have hd19 := hd17.ex e19
        refine' s_if (b := (decide (0 < way) || decide (1 < m)) && !decide True) ?t4 (fun z => absurd z (by simp)) fun _ H20 e20 => ?_
        case t4 =>
          refine et_and (et_or (ett (evd_op (evd_var rfl rp_int) evd_int rd_gtI)) fun _ => ett (evd_op (evd_var rfl rp_int) evd_int rd_gtI)) fun h5 => ?_
          have h5 : 0 < way ∨ 1 < m := by simpa using h5
          refine ett (evd_op (ev_flags (bs := if way = 9 ∧ 4 < m then [false, false, false, true, false, true] else []) (evd_var rfl rp_int) (evd_var rfl rp_int) (evd_var rfl hv19) (evd_var rfl hq) ⟨hi10, fun z _ _ => by dsimp only at z ⊢; omega, by show vss.length ≤ 1000; omega, by show qs.length < 64; omega⟩ ?e4) (evd_var rfl hd19) (by have z := rd_neBL (K := K) (H := H19) (bs := if way = 9 ∧ 4 < m then [false, false, false, true, false, true] else []) (cs := if way = 9 ∧ 4 < m then [false, false, false, true, false, true] else []); simpa using z))
          unfold kindF
          rw [if_neg (fun z => z okm), if_neg (fun z => z.2 hvot), if_neg (fun z => z.2 hqw)]
          by_cases c9 : way = 9 ∧ 4 < m
          · rw [if_pos c9, if_pos ⟨by omega, c9.2⟩]
            rfl
          · rw [if_neg c9, if_neg (fun z => c9 ⟨by omega, z.2⟩)]
            rfl
        exact ⟨⟨_, _, _, rfl⟩, ((k15.trans e17).trans e19).trans e20⟩
  · rintro σ' H' ⟨⟨y, z, u, rfl⟩, e⟩
    wtm_at "nx"
    exact s_retD evd_bl fun v H7 e7 r => by
      obtain rfl : v = .bl true := r
      exact q H7
end
end Bm

namespace Bm
open PySem PySem.Spec PyProof.Rows L2 Evl
/-! ### the end -/
theorem all_mk {l : PySem.W.OpenLaw} {w : World} {K : PySem.W.Frag} {h : Heap} {mg : Str → Option Value} {fa : Addr} (X : K.In h) (G : h.Ns mainGlobals mg) (hfa : mg "law" = some (.ref fa))
    {f__law_cell_at : Addr} {od__law_cell_at an__law_cell_at : Option Addr} {sl__law_cell_at : Array (Option Value)} {oc__law_cell_at kV__law_cell_at dc__law_cell_at pm__law_cell_at cd__law_cell_at ct__law_cell_at : Value}
    (a__law_cell_at : PySem.W.nsIn K mainGlobals "_law_cell_at" = some (some (.ref f__law_cell_at))) (l__law_cell_at : K.lookup f__law_cell_at = some ⟨oc__law_cell_at, od__law_cell_at, .func (PySem.W.fnOf "_law_cell_at" "_law_cell_at" (defArgs s__law_cell_at) (defBody s__law_cell_at) (defScope s__law_cell_at) .none kV__law_cell_at dc__law_cell_at pm__law_cell_at an__law_cell_at cd__law_cell_at ct__law_cell_at), sl__law_cell_at⟩) (c__law_cell_at : PySem.W.codeIn K cd__law_cell_at "_law_cell_at" = true) (k__law_cell_at : PySem.W.keepIn K (.ref f__law_cell_at) = true)
    {f__law_order : Addr} {od__law_order an__law_order : Option Addr} {sl__law_order : Array (Option Value)} {oc__law_order kV__law_order dc__law_order pm__law_order cd__law_order ct__law_order : Value}
    (a__law_order : PySem.W.nsIn K mainGlobals "_law_order" = some (some (.ref f__law_order))) (l__law_order : K.lookup f__law_order = some ⟨oc__law_order, od__law_order, .func (PySem.W.fnOf "_law_order" "_law_order" (defArgs s__law_order) (defBody s__law_order) (defScope s__law_order) .none kV__law_order dc__law_order pm__law_order an__law_order cd__law_order ct__law_order), sl__law_order⟩) (c__law_order : PySem.W.codeIn K cd__law_order "_law_order" = true) (k__law_order : PySem.W.keepIn K (.ref f__law_order) = true)
    {f__law_voters : Addr} {od__law_voters an__law_voters : Option Addr} {sl__law_voters : Array (Option Value)} {oc__law_voters kV__law_voters dc__law_voters pm__law_voters cd__law_voters ct__law_voters : Value}
    (a__law_voters : PySem.W.nsIn K mainGlobals "_law_voters" = some (some (.ref f__law_voters))) (l__law_voters : K.lookup f__law_voters = some ⟨oc__law_voters, od__law_voters, .func (PySem.W.fnOf "_law_voters" "_law_voters" (defArgs s__law_voters) (defBody s__law_voters) (defScope s__law_voters) .none kV__law_voters dc__law_voters pm__law_voters an__law_voters cd__law_voters ct__law_voters), sl__law_voters⟩) (c__law_voters : PySem.W.codeIn K cd__law_voters "_law_voters" = true) (k__law_voters : PySem.W.keepIn K (.ref f__law_voters) = true)
    {f__law_web : Addr} {od__law_web an__law_web : Option Addr} {sl__law_web : Array (Option Value)} {oc__law_web kV__law_web dc__law_web pm__law_web cd__law_web ct__law_web : Value}
    (a__law_web : PySem.W.nsIn K mainGlobals "_law_web" = some (some (.ref f__law_web))) (l__law_web : K.lookup f__law_web = some ⟨oc__law_web, od__law_web, .func (PySem.W.fnOf "_law_web" "_law_web" (defArgs s__law_web) (defBody s__law_web) (defScope s__law_web) .none kV__law_web dc__law_web pm__law_web an__law_web cd__law_web ct__law_web), sl__law_web⟩) (c__law_web : PySem.W.codeIn K cd__law_web "_law_web" = true) (k__law_web : PySem.W.keepIn K (.ref f__law_web) = true)
    {f__law_ill_voter : Addr} {od__law_ill_voter an__law_ill_voter : Option Addr} {sl__law_ill_voter : Array (Option Value)} {oc__law_ill_voter kV__law_ill_voter dc__law_ill_voter pm__law_ill_voter cd__law_ill_voter ct__law_ill_voter : Value}
    (a__law_ill_voter : PySem.W.nsIn K mainGlobals "_law_ill_voter" = some (some (.ref f__law_ill_voter))) (l__law_ill_voter : K.lookup f__law_ill_voter = some ⟨oc__law_ill_voter, od__law_ill_voter, .func (PySem.W.fnOf "_law_ill_voter" "_law_ill_voter" (defArgs s__law_ill_voter) (defBody s__law_ill_voter) (defScope s__law_ill_voter) .none kV__law_ill_voter dc__law_ill_voter pm__law_ill_voter an__law_ill_voter cd__law_ill_voter ct__law_ill_voter), sl__law_ill_voter⟩) (c__law_ill_voter : PySem.W.codeIn K cd__law_ill_voter "_law_ill_voter" = true) (k__law_ill_voter : PySem.W.keepIn K (.ref f__law_ill_voter) = true)
    {f__law_ill_web : Addr} {od__law_ill_web an__law_ill_web : Option Addr} {sl__law_ill_web : Array (Option Value)} {oc__law_ill_web kV__law_ill_web dc__law_ill_web pm__law_ill_web cd__law_ill_web ct__law_ill_web : Value}
    (a__law_ill_web : PySem.W.nsIn K mainGlobals "_law_ill_web" = some (some (.ref f__law_ill_web))) (l__law_ill_web : K.lookup f__law_ill_web = some ⟨oc__law_ill_web, od__law_ill_web, .func (PySem.W.fnOf "_law_ill_web" "_law_ill_web" (defArgs s__law_ill_web) (defBody s__law_ill_web) (defScope s__law_ill_web) .none kV__law_ill_web dc__law_ill_web pm__law_ill_web an__law_ill_web cd__law_ill_web ct__law_ill_web), sl__law_ill_web⟩) (c__law_ill_web : PySem.W.codeIn K cd__law_ill_web "_law_ill_web" = true) (k__law_ill_web : PySem.W.keepIn K (.ref f__law_ill_web) = true)
    {f_look_at_count : Addr} {od_look_at_count an_look_at_count : Option Addr} {sl_look_at_count : Array (Option Value)} {oc_look_at_count kV_look_at_count dc_look_at_count pm_look_at_count cd_look_at_count ct_look_at_count : Value}
    (a_look_at_count : PySem.W.nsIn K mainGlobals "look_at_count" = some (some (.ref f_look_at_count))) (l_look_at_count : K.lookup f_look_at_count = some ⟨oc_look_at_count, od_look_at_count, .func (PySem.W.fnOf "look_at_count" "look_at_count" (defArgs s_look_at_count) (defBody s_look_at_count) (defScope s_look_at_count) .none kV_look_at_count dc_look_at_count pm_look_at_count an_look_at_count cd_look_at_count ct_look_at_count), sl_look_at_count⟩) (c_look_at_count : PySem.W.codeIn K cd_look_at_count "look_at_count" = true) (k_look_at_count : PySem.W.keepIn K (.ref f_look_at_count) = true)
    {f_look_at_voters : Addr} {od_look_at_voters an_look_at_voters : Option Addr} {sl_look_at_voters : Array (Option Value)} {oc_look_at_voters kV_look_at_voters dc_look_at_voters pm_look_at_voters cd_look_at_voters ct_look_at_voters : Value}
    (a_look_at_voters : PySem.W.nsIn K mainGlobals "look_at_voters" = some (some (.ref f_look_at_voters))) (l_look_at_voters : K.lookup f_look_at_voters = some ⟨oc_look_at_voters, od_look_at_voters, .func (PySem.W.fnOf "look_at_voters" "look_at_voters" (defArgs s_look_at_voters) (defBody s_look_at_voters) (defScope s_look_at_voters) .none kV_look_at_voters dc_look_at_voters pm_look_at_voters an_look_at_voters cd_look_at_voters ct_look_at_voters), sl_look_at_voters⟩) (c_look_at_voters : PySem.W.codeIn K cd_look_at_voters "look_at_voters" = true) (k_look_at_voters : PySem.W.keepIn K (.ref f_look_at_voters) = true)
    {f_lead_of : Addr} {od_lead_of an_lead_of : Option Addr} {sl_lead_of : Array (Option Value)} {oc_lead_of kV_lead_of dc_lead_of pm_lead_of cd_lead_of ct_lead_of : Value}
    (a_lead_of : PySem.W.nsIn K mainGlobals "lead_of" = some (some (.ref f_lead_of))) (l_lead_of : K.lookup f_lead_of = some ⟨oc_lead_of, od_lead_of, .func (PySem.W.fnOf "lead_of" "lead_of" (defArgs s_lead_of) (defBody s_lead_of) (defScope s_lead_of) .none kV_lead_of dc_lead_of pm_lead_of an_lead_of cd_lead_of ct_lead_of), sl_lead_of⟩) (c_lead_of : PySem.W.codeIn K cd_lead_of "lead_of" = true) (k_lead_of : PySem.W.keepIn K (.ref f_lead_of) = true)
    {f_lead : Addr} {od_lead an_lead : Option Addr} {sl_lead : Array (Option Value)} {oc_lead kV_lead dc_lead pm_lead cd_lead ct_lead : Value}
    (a_lead : PySem.W.nsIn K mainGlobals "lead" = some (some (.ref f_lead))) (l_lead : K.lookup f_lead = some ⟨oc_lead, od_lead, .func (PySem.W.fnOf "lead" "lead" (defArgs s_lead) (defBody s_lead) (defScope s_lead) .none kV_lead dc_lead pm_lead an_lead cd_lead ct_lead), sl_lead⟩) (c_lead : PySem.W.codeIn K cd_lead "lead" = true) (k_lead : PySem.W.keepIn K (.ref f_lead) = true)
    {f_beats_of : Addr} {od_beats_of an_beats_of : Option Addr} {sl_beats_of : Array (Option Value)} {oc_beats_of kV_beats_of dc_beats_of pm_beats_of cd_beats_of ct_beats_of : Value}
    (a_beats_of : PySem.W.nsIn K mainGlobals "beats_of" = some (some (.ref f_beats_of))) (l_beats_of : K.lookup f_beats_of = some ⟨oc_beats_of, od_beats_of, .func (PySem.W.fnOf "beats_of" "beats_of" (defArgs s_beats_of) (defBody s_beats_of) (defScope s_beats_of) .none kV_beats_of dc_beats_of pm_beats_of an_beats_of cd_beats_of ct_beats_of), sl_beats_of⟩) (c_beats_of : PySem.W.codeIn K cd_beats_of "beats_of" = true) (k_beats_of : PySem.W.keepIn K (.ref f_beats_of) = true)
    {f_web_of : Addr} {od_web_of an_web_of : Option Addr} {sl_web_of : Array (Option Value)} {oc_web_of kV_web_of dc_web_of pm_web_of cd_web_of ct_web_of : Value}
    (a_web_of : PySem.W.nsIn K mainGlobals "web_of" = some (some (.ref f_web_of))) (l_web_of : K.lookup f_web_of = some ⟨oc_web_of, od_web_of, .func (PySem.W.fnOf "web_of" "web_of" (defArgs s_web_of) (defBody s_web_of) (defScope s_web_of) .none kV_web_of dc_web_of pm_web_of an_web_of cd_web_of ct_web_of), sl_web_of⟩) (c_web_of : PySem.W.codeIn K cd_web_of "web_of" = true) (k_web_of : PySem.W.keepIn K (.ref f_web_of) = true)
    {f_shown : Addr} {od_shown an_shown : Option Addr} {sl_shown : Array (Option Value)} {oc_shown kV_shown dc_shown pm_shown cd_shown ct_shown : Value}
    (a_shown : PySem.W.nsIn K mainGlobals "shown" = some (some (.ref f_shown))) (l_shown : K.lookup f_shown = some ⟨oc_shown, od_shown, .func (PySem.W.fnOf "shown" "shown" (defArgs s_shown) (defBody s_shown) (defScope s_shown) .none kV_shown dc_shown pm_shown an_shown cd_shown ct_shown), sl_shown⟩) (c_shown : PySem.W.codeIn K cd_shown "shown" = true) (k_shown : PySem.W.keepIn K (.ref f_shown) = true)
    {f_look_at_web : Addr} {od_look_at_web an_look_at_web : Option Addr} {sl_look_at_web : Array (Option Value)} {oc_look_at_web kV_look_at_web dc_look_at_web pm_look_at_web cd_look_at_web ct_look_at_web : Value}
    (a_look_at_web : PySem.W.nsIn K mainGlobals "look_at_web" = some (some (.ref f_look_at_web))) (l_look_at_web : K.lookup f_look_at_web = some ⟨oc_look_at_web, od_look_at_web, .func (PySem.W.fnOf "look_at_web" "look_at_web" (defArgs s_look_at_web) (defBody s_look_at_web) (defScope s_look_at_web) .none kV_look_at_web dc_look_at_web pm_look_at_web an_look_at_web cd_look_at_web ct_look_at_web), sl_look_at_web⟩) (c_look_at_web : PySem.W.codeIn K cd_look_at_web "look_at_web" = true) (k_look_at_web : PySem.W.keepIn K (.ref f_look_at_web) = true)
    {f_make : Addr} {od_make an_make : Option Addr} {sl_make : Array (Option Value)} {oc_make kV_make dc_make pm_make cd_make ct_make : Value}
    (a_make : PySem.W.nsIn K mainGlobals "make" = some (some (.ref f_make))) (l_make : K.lookup f_make = some ⟨oc_make, od_make, .func (PySem.W.fnOf "make" "make" (defArgs s_make) (defBody s_make) (defScope s_make) .none kV_make dc_make pm_make an_make cd_make ct_make), sl_make⟩) (c_make : PySem.W.codeIn K cd_make "make" = true) (k_make : PySem.W.keepIn K (.ref f_make) = true)
    {f_makes : Addr} {od_makes an_makes : Option Addr} {sl_makes : Array (Option Value)} {oc_makes kV_makes dc_makes pm_makes cd_makes ct_makes : Value}
    (a_makes : PySem.W.nsIn K mainGlobals "makes" = some (some (.ref f_makes))) (l_makes : K.lookup f_makes = some ⟨oc_makes, od_makes, .func (PySem.W.fnOf "makes" "makes" (defArgs s_makes) (defBody s_makes) (defScope s_makes) .none kV_makes dc_makes pm_makes an_makes cd_makes ct_makes), sl_makes⟩) (c_makes : PySem.W.codeIn K cd_makes "makes" = true) (k_makes : PySem.W.keepIn K (.ref f_makes) = true)
    {f_out_of_reach : Addr} {od_out_of_reach an_out_of_reach : Option Addr} {sl_out_of_reach : Array (Option Value)} {oc_out_of_reach kV_out_of_reach dc_out_of_reach pm_out_of_reach cd_out_of_reach ct_out_of_reach : Value}
    (a_out_of_reach : PySem.W.nsIn K mainGlobals "out_of_reach" = some (some (.ref f_out_of_reach))) (l_out_of_reach : K.lookup f_out_of_reach = some ⟨oc_out_of_reach, od_out_of_reach, .func (PySem.W.fnOf "out_of_reach" "out_of_reach" (defArgs s_out_of_reach) (defBody s_out_of_reach) (defScope s_out_of_reach) .none kV_out_of_reach dc_out_of_reach pm_out_of_reach an_out_of_reach cd_out_of_reach ct_out_of_reach), sl_out_of_reach⟩) (c_out_of_reach : PySem.W.codeIn K cd_out_of_reach "out_of_reach" = true) (k_out_of_reach : PySem.W.keepIn K (.ref f_out_of_reach) = true)
    {f_bound_by : Addr} {od_bound_by an_bound_by : Option Addr} {sl_bound_by : Array (Option Value)} {oc_bound_by kV_bound_by dc_bound_by pm_bound_by cd_bound_by ct_bound_by : Value}
    (a_bound_by : PySem.W.nsIn K mainGlobals "bound_by" = some (some (.ref f_bound_by))) (l_bound_by : K.lookup f_bound_by = some ⟨oc_bound_by, od_bound_by, .func (PySem.W.fnOf "bound_by" "bound_by" (defArgs s_bound_by) (defBody s_bound_by) (defScope s_bound_by) .none kV_bound_by dc_bound_by pm_bound_by an_bound_by cd_bound_by ct_bound_by), sl_bound_by⟩) (c_bound_by : PySem.W.codeIn K cd_bound_by "bound_by" = true) (k_bound_by : PySem.W.keepIn K (.ref f_bound_by) = true)
    {f_first_order : Addr} {od_first_order an_first_order : Option Addr} {sl_first_order : Array (Option Value)} {oc_first_order kV_first_order dc_first_order pm_first_order cd_first_order ct_first_order : Value}
    (a_first_order : PySem.W.nsIn K mainGlobals "first_order" = some (some (.ref f_first_order))) (l_first_order : K.lookup f_first_order = some ⟨oc_first_order, od_first_order, .func (PySem.W.fnOf "first_order" "first_order" (defArgs s_first_order) (defBody s_first_order) (defScope s_first_order) .none kV_first_order dc_first_order pm_first_order an_first_order cd_first_order ct_first_order), sl_first_order⟩) (c_first_order : PySem.W.codeIn K cd_first_order "first_order" = true) (k_first_order : PySem.W.keepIn K (.ref f_first_order) = true)
    {f_beat_way : Addr} {od_beat_way an_beat_way : Option Addr} {sl_beat_way : Array (Option Value)} {oc_beat_way kV_beat_way dc_beat_way pm_beat_way cd_beat_way ct_beat_way : Value}
    (a_beat_way : PySem.W.nsIn K mainGlobals "beat_way" = some (some (.ref f_beat_way))) (l_beat_way : K.lookup f_beat_way = some ⟨oc_beat_way, od_beat_way, .func (PySem.W.fnOf "beat_way" "beat_way" (defArgs s_beat_way) (defBody s_beat_way) (defScope s_beat_way) .none kV_beat_way dc_beat_way pm_beat_way an_beat_way cd_beat_way ct_beat_way), sl_beat_way⟩) (c_beat_way : PySem.W.codeIn K cd_beat_way "beat_way" = true) (k_beat_way : PySem.W.keepIn K (.ref f_beat_way) = true)
    {f_shortest_ring : Addr} {od_shortest_ring an_shortest_ring : Option Addr} {sl_shortest_ring : Array (Option Value)} {oc_shortest_ring kV_shortest_ring dc_shortest_ring pm_shortest_ring cd_shortest_ring ct_shortest_ring : Value}
    (a_shortest_ring : PySem.W.nsIn K mainGlobals "shortest_ring" = some (some (.ref f_shortest_ring))) (l_shortest_ring : K.lookup f_shortest_ring = some ⟨oc_shortest_ring, od_shortest_ring, .func (PySem.W.fnOf "shortest_ring" "shortest_ring" (defArgs s_shortest_ring) (defBody s_shortest_ring) (defScope s_shortest_ring) .none kV_shortest_ring dc_shortest_ring pm_shortest_ring an_shortest_ring cd_shortest_ring ct_shortest_ring), sl_shortest_ring⟩) (c_shortest_ring : PySem.W.codeIn K cd_shortest_ring "shortest_ring" = true) (k_shortest_ring : PySem.W.keepIn K (.ref f_shortest_ring) = true)
    {f_one_more : Addr} {od_one_more an_one_more : Option Addr} {sl_one_more : Array (Option Value)} {oc_one_more kV_one_more dc_one_more pm_one_more cd_one_more ct_one_more : Value}
    (a_one_more : PySem.W.nsIn K mainGlobals "one_more" = some (some (.ref f_one_more))) (l_one_more : K.lookup f_one_more = some ⟨oc_one_more, od_one_more, .func (PySem.W.fnOf "one_more" "one_more" (defArgs s_one_more) (defBody s_one_more) (defScope s_one_more) .none kV_one_more dc_one_more pm_one_more an_one_more cd_one_more ct_one_more), sl_one_more⟩) (c_one_more : PySem.W.codeIn K cd_one_more "one_more" = true) (k_one_more : PySem.W.keepIn K (.ref f_one_more) = true)
    {f_ring : Addr} {od_ring an_ring : Option Addr} {sl_ring : Array (Option Value)} {oc_ring kV_ring dc_ring pm_ring cd_ring ct_ring : Value}
    (a_ring : PySem.W.nsIn K mainGlobals "ring" = some (some (.ref f_ring))) (l_ring : K.lookup f_ring = some ⟨oc_ring, od_ring, .func (PySem.W.fnOf "ring" "ring" (defArgs s_ring) (defBody s_ring) (defScope s_ring) .none kV_ring dc_ring pm_ring an_ring cd_ring ct_ring), sl_ring⟩) (c_ring : PySem.W.codeIn K cd_ring "ring" = true) (k_ring : PySem.W.keepIn K (.ref f_ring) = true)
    {f_ordered : Addr} {od_ordered an_ordered : Option Addr} {sl_ordered : Array (Option Value)} {oc_ordered kV_ordered dc_ordered pm_ordered cd_ordered ct_ordered : Value}
    (a_ordered : PySem.W.nsIn K mainGlobals "ordered" = some (some (.ref f_ordered))) (l_ordered : K.lookup f_ordered = some ⟨oc_ordered, od_ordered, .func (PySem.W.fnOf "ordered" "ordered" (defArgs s_ordered) (defBody s_ordered) (defScope s_ordered) .none kV_ordered dc_ordered pm_ordered an_ordered cd_ordered ct_ordered), sl_ordered⟩) (c_ordered : PySem.W.codeIn K cd_ordered "ordered" = true) (k_ordered : PySem.W.keepIn K (.ref f_ordered) = true)
    {f_keeps : Addr} {od_keeps an_keeps : Option Addr} {sl_keeps : Array (Option Value)} {oc_keeps kV_keeps dc_keeps pm_keeps cd_keeps ct_keeps : Value}
    (a_keeps : PySem.W.nsIn K mainGlobals "keeps" = some (some (.ref f_keeps))) (l_keeps : K.lookup f_keeps = some ⟨oc_keeps, od_keeps, .func (PySem.W.fnOf "keeps" "keeps" (defArgs s_keeps) (defBody s_keeps) (defScope s_keeps) .none kV_keeps dc_keeps pm_keeps an_keeps cd_keeps ct_keeps), sl_keeps⟩) (c_keeps : PySem.W.codeIn K cd_keeps "keeps" = true) (k_keeps : PySem.W.keepIn K (.ref f_keeps) = true)
    {f_two_for : Addr} {od_two_for an_two_for : Option Addr} {sl_two_for : Array (Option Value)} {oc_two_for kV_two_for dc_two_for pm_two_for cd_two_for ct_two_for : Value}
    (a_two_for : PySem.W.nsIn K mainGlobals "two_for" = some (some (.ref f_two_for))) (l_two_for : K.lookup f_two_for = some ⟨oc_two_for, od_two_for, .func (PySem.W.fnOf "two_for" "two_for" (defArgs s_two_for) (defBody s_two_for) (defScope s_two_for) .none kV_two_for dc_two_for pm_two_for an_two_for cd_two_for ct_two_for), sl_two_for⟩) (c_two_for : PySem.W.codeIn K cd_two_for "two_for" = true) (k_two_for : PySem.W.keepIn K (.ref f_two_for) = true)
    {f_makers : Addr} {od_makers an_makers : Option Addr} {sl_makers : Array (Option Value)} {oc_makers kV_makers dc_makers pm_makers cd_makers ct_makers : Value}
    (a_makers : PySem.W.nsIn K mainGlobals "makers" = some (some (.ref f_makers))) (l_makers : K.lookup f_makers = some ⟨oc_makers, od_makers, .func (PySem.W.fnOf "makers" "makers" (defArgs s_makers) (defBody s_makers) (defScope s_makers) .none kV_makers dc_makers pm_makers an_makers cd_makers ct_makers), sl_makers⟩) (c_makers : PySem.W.codeIn K cd_makers "makers" = true) (k_makers : PySem.W.keepIn K (.ref f_makers) = true)
    {f_wished_signs : Addr} {od_wished_signs an_wished_signs : Option Addr} {sl_wished_signs : Array (Option Value)} {oc_wished_signs kV_wished_signs dc_wished_signs pm_wished_signs cd_wished_signs ct_wished_signs : Value}
    (a_wished_signs : PySem.W.nsIn K mainGlobals "wished_signs" = some (some (.ref f_wished_signs))) (l_wished_signs : K.lookup f_wished_signs = some ⟨oc_wished_signs, od_wished_signs, .func (PySem.W.fnOf "wished_signs" "wished_signs" (defArgs s_wished_signs) (defBody s_wished_signs) (defScope s_wished_signs) .none kV_wished_signs dc_wished_signs pm_wished_signs an_wished_signs cd_wished_signs ct_wished_signs), sl_wished_signs⟩) (c_wished_signs : PySem.W.codeIn K cd_wished_signs "wished_signs" = true) (k_wished_signs : PySem.W.keepIn K (.ref f_wished_signs) = true)
    {f_orders_of : Addr} {od_orders_of an_orders_of : Option Addr} {sl_orders_of : Array (Option Value)} {oc_orders_of kV_orders_of dc_orders_of pm_orders_of cd_orders_of ct_orders_of : Value}
    (a_orders_of : PySem.W.nsIn K mainGlobals "orders_of" = some (some (.ref f_orders_of))) (l_orders_of : K.lookup f_orders_of = some ⟨oc_orders_of, od_orders_of, .func (PySem.W.fnOf "orders_of" "orders_of" (defArgs s_orders_of) (defBody s_orders_of) (defScope s_orders_of) .none kV_orders_of dc_orders_of pm_orders_of an_orders_of cd_orders_of ct_orders_of), sl_orders_of⟩) (c_orders_of : PySem.W.codeIn K cd_orders_of "orders_of" = true) (k_orders_of : PySem.W.keepIn K (.ref f_orders_of) = true)
    {f_signs_of : Addr} {od_signs_of an_signs_of : Option Addr} {sl_signs_of : Array (Option Value)} {oc_signs_of kV_signs_of dc_signs_of pm_signs_of cd_signs_of ct_signs_of : Value}
    (a_signs_of : PySem.W.nsIn K mainGlobals "signs_of" = some (some (.ref f_signs_of))) (l_signs_of : K.lookup f_signs_of = some ⟨oc_signs_of, od_signs_of, .func (PySem.W.fnOf "signs_of" "signs_of" (defArgs s_signs_of) (defBody s_signs_of) (defScope s_signs_of) .none kV_signs_of dc_signs_of pm_signs_of an_signs_of cd_signs_of ct_signs_of), sl_signs_of⟩) (c_signs_of : PySem.W.codeIn K cd_signs_of "signs_of" = true) (k_signs_of : PySem.W.keepIn K (.ref f_signs_of) = true)
    {f_sign_of : Addr} {od_sign_of an_sign_of : Option Addr} {sl_sign_of : Array (Option Value)} {oc_sign_of kV_sign_of dc_sign_of pm_sign_of cd_sign_of ct_sign_of : Value}
    (a_sign_of : PySem.W.nsIn K mainGlobals "sign_of" = some (some (.ref f_sign_of))) (l_sign_of : K.lookup f_sign_of = some ⟨oc_sign_of, od_sign_of, .func (PySem.W.fnOf "sign_of" "sign_of" (defArgs s_sign_of) (defBody s_sign_of) (defScope s_sign_of) .none kV_sign_of dc_sign_of pm_sign_of an_sign_of cd_sign_of ct_sign_of), sl_sign_of⟩) (c_sign_of : PySem.W.codeIn K cd_sign_of "sign_of" = true) (k_sign_of : PySem.W.keepIn K (.ref f_sign_of) = true)
    {f_added : Addr} {od_added an_added : Option Addr} {sl_added : Array (Option Value)} {oc_added kV_added dc_added pm_added cd_added ct_added : Value}
    (a_added : PySem.W.nsIn K mainGlobals "added" = some (some (.ref f_added))) (l_added : K.lookup f_added = some ⟨oc_added, od_added, .func (PySem.W.fnOf "added" "added" (defArgs s_added) (defBody s_added) (defScope s_added) .none kV_added dc_added pm_added an_added cd_added ct_added), sl_added⟩) (c_added : PySem.W.codeIn K cd_added "added" = true) (k_added : PySem.W.keepIn K (.ref f_added) = true)
    {f_fewest : Addr} {od_fewest an_fewest : Option Addr} {sl_fewest : Array (Option Value)} {oc_fewest kV_fewest dc_fewest pm_fewest cd_fewest ct_fewest : Value}
    (a_fewest : PySem.W.nsIn K mainGlobals "fewest" = some (some (.ref f_fewest))) (l_fewest : K.lookup f_fewest = some ⟨oc_fewest, od_fewest, .func (PySem.W.fnOf "fewest" "fewest" (defArgs s_fewest) (defBody s_fewest) (defScope s_fewest) .none kV_fewest dc_fewest pm_fewest an_fewest cd_fewest ct_fewest), sl_fewest⟩) (c_fewest : PySem.W.codeIn K cd_fewest "fewest" = true) (k_fewest : PySem.W.keepIn K (.ref f_fewest) = true)
    {f__law_asked : Addr} {od__law_asked an__law_asked : Option Addr} {sl__law_asked : Array (Option Value)} {oc__law_asked kV__law_asked dc__law_asked pm__law_asked cd__law_asked ct__law_asked : Value}
    (a__law_asked : PySem.W.nsIn K mainGlobals "_law_asked" = some (some (.ref f__law_asked))) (l__law_asked : K.lookup f__law_asked = some ⟨oc__law_asked, od__law_asked, .func (PySem.W.fnOf "_law_asked" "_law_asked" (defArgs s__law_asked) (defBody s__law_asked) (defScope s__law_asked) .none kV__law_asked dc__law_asked pm__law_asked an__law_asked cd__law_asked ct__law_asked), sl__law_asked⟩) (c__law_asked : PySem.W.codeIn K cd__law_asked "_law_asked" = true) (k__law_asked : PySem.W.keepIn K (.ref f__law_asked) = true)
    {f__law_flags : Addr} {od__law_flags an__law_flags : Option Addr} {sl__law_flags : Array (Option Value)} {oc__law_flags kV__law_flags dc__law_flags pm__law_flags cd__law_flags ct__law_flags : Value}
    (a__law_flags : PySem.W.nsIn K mainGlobals "_law_flags" = some (some (.ref f__law_flags))) (l__law_flags : K.lookup f__law_flags = some ⟨oc__law_flags, od__law_flags, .func (PySem.W.fnOf "_law_flags" "_law_flags" (defArgs s__law_flags) (defBody s__law_flags) (defScope s__law_flags) .none kV__law_flags dc__law_flags pm__law_flags an__law_flags cd__law_flags ct__law_flags), sl__law_flags⟩) (c__law_flags : PySem.W.codeIn K cd__law_flags "_law_flags" = true) (k__law_flags : PySem.W.keepIn K (.ref f__law_flags) = true)
    {f_law : Addr} {od_law an_law : Option Addr} {sl_law : Array (Option Value)} {oc_law kV_law dc_law pm_law cd_law ct_law : Value}
    (a_law : PySem.W.nsIn K mainGlobals "law" = some (some (.ref f_law))) (l_law : K.lookup f_law = some ⟨oc_law, od_law, .func (PySem.W.fnOf "law" "law" (defArgs s_law) (defBody s_law) (defScope s_law) .none kV_law dc_law pm_law an_law cd_law ct_law), sl_law⟩) (c_law : PySem.W.codeIn K cd_law "law" = true) (k_law : PySem.W.keepIn K (.ref f_law) = true)
    {C_BadCount : Addr} (g_BadCount : PySem.W.nsIn K mainGlobals "BadCount" = some (some (.ref C_BadCount))) (x_BadCount : PySem.W.excIn K C_BadCount [.type "ValueError", .type "Exception", .type "BaseException", .type "object"] "ValueError.__new__" = true) (xk_BadCount : PySem.W.keepIn K (.ref C_BadCount) = true) (xb_BadCount : PySem.W.subIn K (.ref C_BadCount) (.type "BaseException") = some true) (xt_BadCount : PySem.W.typeIn K (.ref C_BadCount) = some (.type "type"))
    {C_BadVoter : Addr} (g_BadVoter : PySem.W.nsIn K mainGlobals "BadVoter" = some (some (.ref C_BadVoter))) (x_BadVoter : PySem.W.excIn K C_BadVoter [.type "ValueError", .type "Exception", .type "BaseException", .type "object"] "ValueError.__new__" = true) (xk_BadVoter : PySem.W.keepIn K (.ref C_BadVoter) = true) (xb_BadVoter : PySem.W.subIn K (.ref C_BadVoter) (.type "BaseException") = some true) (xt_BadVoter : PySem.W.typeIn K (.ref C_BadVoter) = some (.type "type"))
    {C_BadWeb : Addr} (g_BadWeb : PySem.W.nsIn K mainGlobals "BadWeb" = some (some (.ref C_BadWeb))) (x_BadWeb : PySem.W.excIn K C_BadWeb [.type "ValueError", .type "Exception", .type "BaseException", .type "object"] "ValueError.__new__" = true) (xk_BadWeb : PySem.W.keepIn K (.ref C_BadWeb) = true) (xb_BadWeb : PySem.W.subIn K (.ref C_BadWeb) (.type "BaseException") = some true) (xt_BadWeb : PySem.W.typeIn K (.ref C_BadWeb) = some (.type "type"))
    {C_TooMany : Addr} (g_TooMany : PySem.W.nsIn K mainGlobals "TooMany" = some (some (.ref C_TooMany))) (x_TooMany : PySem.W.excIn K C_TooMany [.type "ValueError", .type "Exception", .type "BaseException", .type "object"] "ValueError.__new__" = true) (xk_TooMany : PySem.W.keepIn K (.ref C_TooMany) = true) (xb_TooMany : PySem.W.subIn K (.ref C_TooMany) (.type "BaseException") = some true) (xt_TooMany : PySem.W.typeIn K (.ref C_TooMany) = some (.type "type"))
    {C_BadNote : Addr} (g_BadNote : PySem.W.nsIn K mainGlobals "BadNote" = some (some (.ref C_BadNote))) (x_BadNote : PySem.W.excIn K C_BadNote [.type "ValueError", .type "Exception", .type "BaseException", .type "object"] "ValueError.__new__" = true) (xk_BadNote : PySem.W.keepIn K (.ref C_BadNote) = true) (xb_BadNote : PySem.W.subIn K (.ref C_BadNote) (.type "BaseException") = some true) (xt_BadNote : PySem.W.typeIn K (.ref C_BadNote) = some (.type "type"))
    {C_BeatError : Addr} (g_BeatError : PySem.W.nsIn K mainGlobals "BeatError" = some (some (.ref C_BeatError))) (x_BeatError : PySem.W.excIn K C_BeatError [.type "ValueError", .type "Exception", .type "BaseException", .type "object"] "ValueError.__new__" = true) (xk_BeatError : PySem.W.keepIn K (.ref C_BeatError) = true) (xb_BeatError : PySem.W.subIn K (.ref C_BeatError) (.type "BaseException") = some true) (xt_BeatError : PySem.W.typeIn K (.ref C_BeatError) = some (.type "type"))
    {t_MOST_THINGS : Tok} (v_MOST_THINGS : PySem.W.nsIn K mainGlobals "MOST_THINGS" = some (some (.int 6 t_MOST_THINGS)))
    {t_MOST_SEARCHED : Tok} (v_MOST_SEARCHED : PySem.W.nsIn K mainGlobals "MOST_SEARCHED" = some (some (.int 4 t_MOST_SEARCHED)))
    (z_len : PySem.W.nsIn K mainGlobals "len" = some none)
    (z_range : PySem.W.nsIn K mainGlobals "range" = some none)
    (z_list : PySem.W.nsIn K mainGlobals "list" = some none)
    (z_tuple : PySem.W.nsIn K mainGlobals "tuple" = some none)
    (z_sorted : PySem.W.nsIn K mainGlobals "sorted" = some none)
    (z_int : PySem.W.nsIn K mainGlobals "int" = some none)
    (z_bool : PySem.W.nsIn K mainGlobals "bool" = some none)
    (z_str : PySem.W.nsIn K mainGlobals "str" = some none)
    (z_isinstance : PySem.W.nsIn K mainGlobals "isinstance" = some none)
    (z_reversed : PySem.W.nsIn K mainGlobals "reversed" = some none)
    (z_set : PySem.W.nsIn K mainGlobals "set" = some none)
    (z_all : PySem.W.nsIn K mainGlobals "all" = some none)
    (z_max : PySem.W.nsIn K mainGlobals "max" = some none)
    (z_min : PySem.W.nsIn K mainGlobals "min" = some none)
    (z_ValueError : PySem.W.nsIn K mainGlobals "ValueError" = some none)
    (en : PySem.W.specialIn K (.builtin "object.__class__") "__get__" = some (some (.builtin "getset_descriptor.__get__"))) (et : PySem.W.takesIn K (.builtin "object.__class__") = some true)
    (ed_BadCount : PySem.W.hasDictIn K C_BadCount = true)
    (ed_BadVoter : PySem.W.hasDictIn K C_BadVoter = true)
    (ed_BadWeb : PySem.W.hasDictIn K C_BadWeb = true)
    (ed_TooMany : PySem.W.hasDictIn K C_TooMany = true)
    (ed_BadNote : PySem.W.hasDictIn K C_BadNote = true)
    (ed_BeatError : PySem.W.hasDictIn K C_BeatError = true)
    (eg_BadCount : PySem.W.findIn K (.ref C_BadCount) "__getattribute__" = some (some (.builtin "BaseException.__getattribute__"))) (ek_BadCount : PySem.W.findIn K (.ref C_BadCount) "__getattr__" = some none) (ea_BadCount : PySem.W.findIn K (.ref C_BadCount) "__class__" = some (some (.builtin "object.__class__"))) (em_BadCount : PySem.W.mroIn K C_BadCount (.type "object") = some true) (ev_BadCount : PySem.W.subIn K (.ref C_BadCount) (.type "ValueError") = some true)
    (es_BadCount_BadCount : PySem.W.subIn K (.ref C_BadCount) (.ref C_BadCount) = some true)
    (es_BadCount_BadVoter : PySem.W.subIn K (.ref C_BadCount) (.ref C_BadVoter) = some false)
    (es_BadCount_BadWeb : PySem.W.subIn K (.ref C_BadCount) (.ref C_BadWeb) = some false)
    (es_BadCount_TooMany : PySem.W.subIn K (.ref C_BadCount) (.ref C_TooMany) = some false)
    (es_BadCount_BadNote : PySem.W.subIn K (.ref C_BadCount) (.ref C_BadNote) = some false)
    (es_BadCount_BeatError : PySem.W.subIn K (.ref C_BadCount) (.ref C_BeatError) = some true)
    (eg_BadVoter : PySem.W.findIn K (.ref C_BadVoter) "__getattribute__" = some (some (.builtin "BaseException.__getattribute__"))) (ek_BadVoter : PySem.W.findIn K (.ref C_BadVoter) "__getattr__" = some none) (ea_BadVoter : PySem.W.findIn K (.ref C_BadVoter) "__class__" = some (some (.builtin "object.__class__"))) (em_BadVoter : PySem.W.mroIn K C_BadVoter (.type "object") = some true) (ev_BadVoter : PySem.W.subIn K (.ref C_BadVoter) (.type "ValueError") = some true)
    (es_BadVoter_BadCount : PySem.W.subIn K (.ref C_BadVoter) (.ref C_BadCount) = some false)
    (es_BadVoter_BadVoter : PySem.W.subIn K (.ref C_BadVoter) (.ref C_BadVoter) = some true)
    (es_BadVoter_BadWeb : PySem.W.subIn K (.ref C_BadVoter) (.ref C_BadWeb) = some false)
    (es_BadVoter_TooMany : PySem.W.subIn K (.ref C_BadVoter) (.ref C_TooMany) = some false)
    (es_BadVoter_BadNote : PySem.W.subIn K (.ref C_BadVoter) (.ref C_BadNote) = some false)
    (es_BadVoter_BeatError : PySem.W.subIn K (.ref C_BadVoter) (.ref C_BeatError) = some true)
    (eg_BadWeb : PySem.W.findIn K (.ref C_BadWeb) "__getattribute__" = some (some (.builtin "BaseException.__getattribute__"))) (ek_BadWeb : PySem.W.findIn K (.ref C_BadWeb) "__getattr__" = some none) (ea_BadWeb : PySem.W.findIn K (.ref C_BadWeb) "__class__" = some (some (.builtin "object.__class__"))) (em_BadWeb : PySem.W.mroIn K C_BadWeb (.type "object") = some true) (ev_BadWeb : PySem.W.subIn K (.ref C_BadWeb) (.type "ValueError") = some true)
    (es_BadWeb_BadCount : PySem.W.subIn K (.ref C_BadWeb) (.ref C_BadCount) = some false)
    (es_BadWeb_BadVoter : PySem.W.subIn K (.ref C_BadWeb) (.ref C_BadVoter) = some false)
    (es_BadWeb_BadWeb : PySem.W.subIn K (.ref C_BadWeb) (.ref C_BadWeb) = some true)
    (es_BadWeb_TooMany : PySem.W.subIn K (.ref C_BadWeb) (.ref C_TooMany) = some false)
    (es_BadWeb_BadNote : PySem.W.subIn K (.ref C_BadWeb) (.ref C_BadNote) = some false)
    (es_BadWeb_BeatError : PySem.W.subIn K (.ref C_BadWeb) (.ref C_BeatError) = some true)
    (eg_TooMany : PySem.W.findIn K (.ref C_TooMany) "__getattribute__" = some (some (.builtin "BaseException.__getattribute__"))) (ek_TooMany : PySem.W.findIn K (.ref C_TooMany) "__getattr__" = some none) (ea_TooMany : PySem.W.findIn K (.ref C_TooMany) "__class__" = some (some (.builtin "object.__class__"))) (em_TooMany : PySem.W.mroIn K C_TooMany (.type "object") = some true) (ev_TooMany : PySem.W.subIn K (.ref C_TooMany) (.type "ValueError") = some true)
    (es_TooMany_BadCount : PySem.W.subIn K (.ref C_TooMany) (.ref C_BadCount) = some false)
    (es_TooMany_BadVoter : PySem.W.subIn K (.ref C_TooMany) (.ref C_BadVoter) = some false)
    (es_TooMany_BadWeb : PySem.W.subIn K (.ref C_TooMany) (.ref C_BadWeb) = some false)
    (es_TooMany_TooMany : PySem.W.subIn K (.ref C_TooMany) (.ref C_TooMany) = some true)
    (es_TooMany_BadNote : PySem.W.subIn K (.ref C_TooMany) (.ref C_BadNote) = some false)
    (es_TooMany_BeatError : PySem.W.subIn K (.ref C_TooMany) (.ref C_BeatError) = some true)
    : ∃ fd : FuncData, (∀ (s : Shared) (v : Value), BindsTo s fd ⟨[v], []⟩ [("script", v)]) ∧ ∀ base : Heap, K.In base → base.Ns mainGlobals mg → FnOk l.prog w K mg base CX0 7 fa fd ["script"] (sp_law K) := by
  have e := hfa.symm.trans (PySem.W.mg_of X G a_law)
  cases e
  have Bi_ : Bi mg := ⟨PySem.W.mg_none_of X G z_len, PySem.W.mg_none_of X G z_range, PySem.W.mg_none_of X G z_list, PySem.W.mg_none_of X G z_tuple, PySem.W.mg_none_of X G z_sorted, PySem.W.mg_none_of X G z_int, PySem.W.mg_none_of X G z_bool, PySem.W.mg_none_of X G z_str, PySem.W.mg_none_of X G z_isinstance, PySem.W.mg_none_of X G z_reversed, PySem.W.mg_none_of X G z_set, PySem.W.mg_none_of X G z_all, PySem.W.mg_none_of X G z_max, PySem.W.mg_none_of X G z_min, PySem.W.mg_none_of X G z_ValueError⟩
  have X_BadCount : Xc K mg "BadCount" C_BadCount := ⟨PySem.W.mg_of X G g_BadCount, x_BadCount, xk_BadCount, xb_BadCount, xt_BadCount⟩
  have X_BadVoter : Xc K mg "BadVoter" C_BadVoter := ⟨PySem.W.mg_of X G g_BadVoter, x_BadVoter, xk_BadVoter, xb_BadVoter, xt_BadVoter⟩
  have X_BadWeb : Xc K mg "BadWeb" C_BadWeb := ⟨PySem.W.mg_of X G g_BadWeb, x_BadWeb, xk_BadWeb, xb_BadWeb, xt_BadWeb⟩
  have X_TooMany : Xc K mg "TooMany" C_TooMany := ⟨PySem.W.mg_of X G g_TooMany, x_TooMany, xk_TooMany, xb_TooMany, xt_TooMany⟩
  have X_BadNote : Xc K mg "BadNote" C_BadNote := ⟨PySem.W.mg_of X G g_BadNote, x_BadNote, xk_BadNote, xb_BadNote, xt_BadNote⟩
  have X_BeatError : Xc K mg "BeatError" C_BeatError := ⟨PySem.W.mg_of X G g_BeatError, x_BeatError, xk_BeatError, xb_BeatError, xt_BeatError⟩
  have Y_ : Ers K mg C_BadCount C_BadVoter C_BadWeb C_TooMany C_BadNote C_BeatError := ⟨PySem.W.mg_of X G g_BadCount, PySem.W.mg_of X G g_BadVoter, PySem.W.mg_of X G g_BadWeb, PySem.W.mg_of X G g_TooMany, PySem.W.mg_of X G g_BadNote, PySem.W.mg_of X G g_BeatError, ⟨⟨eg_BadCount, ek_BadCount, xb_BadCount, ed_BadCount, ea_BadCount, en, et, em_BadCount⟩, PySem.W.exm_ref xb_BeatError ed_BeatError xt_BeatError es_BadCount_BeatError, kit_ref es_BadCount_BadCount es_BadCount_BadCount ed_BadCount xt_BadCount, kit_ref es_BadCount_BadCount es_BadCount_BadVoter ed_BadVoter xt_BadVoter, kit_ref es_BadCount_BadCount es_BadCount_BadWeb ed_BadWeb xt_BadWeb, kit_ref es_BadCount_BadCount es_BadCount_TooMany ed_TooMany xt_TooMany, kit_ref es_BadCount_BadCount es_BadCount_BadNote ed_BadNote xt_BadNote, kit_ve ev_BadCount⟩, ⟨⟨eg_BadVoter, ek_BadVoter, xb_BadVoter, ed_BadVoter, ea_BadVoter, en, et, em_BadVoter⟩, PySem.W.exm_ref xb_BeatError ed_BeatError xt_BeatError es_BadVoter_BeatError, kit_ref es_BadVoter_BadVoter es_BadVoter_BadCount ed_BadCount xt_BadCount, kit_ref es_BadVoter_BadVoter es_BadVoter_BadVoter ed_BadVoter xt_BadVoter, kit_ref es_BadVoter_BadVoter es_BadVoter_BadWeb ed_BadWeb xt_BadWeb, kit_ref es_BadVoter_BadVoter es_BadVoter_TooMany ed_TooMany xt_TooMany, kit_ref es_BadVoter_BadVoter es_BadVoter_BadNote ed_BadNote xt_BadNote, kit_ve ev_BadVoter⟩, ⟨⟨eg_BadWeb, ek_BadWeb, xb_BadWeb, ed_BadWeb, ea_BadWeb, en, et, em_BadWeb⟩, PySem.W.exm_ref xb_BeatError ed_BeatError xt_BeatError es_BadWeb_BeatError, kit_ref es_BadWeb_BadWeb es_BadWeb_BadCount ed_BadCount xt_BadCount, kit_ref es_BadWeb_BadWeb es_BadWeb_BadVoter ed_BadVoter xt_BadVoter, kit_ref es_BadWeb_BadWeb es_BadWeb_BadWeb ed_BadWeb xt_BadWeb, kit_ref es_BadWeb_BadWeb es_BadWeb_TooMany ed_TooMany xt_TooMany, kit_ref es_BadWeb_BadWeb es_BadWeb_BadNote ed_BadNote xt_BadNote, kit_ve ev_BadWeb⟩, ⟨⟨eg_TooMany, ek_TooMany, xb_TooMany, ed_TooMany, ea_TooMany, en, et, em_TooMany⟩, PySem.W.exm_ref xb_BeatError ed_BeatError xt_BeatError es_TooMany_BeatError, kit_ref es_TooMany_TooMany es_TooMany_BadCount ed_BadCount xt_BadCount, kit_ref es_TooMany_TooMany es_TooMany_BadVoter ed_BadVoter xt_BadVoter, kit_ref es_TooMany_TooMany es_TooMany_BadWeb ed_BadWeb xt_BadWeb, kit_ref es_TooMany_TooMany es_TooMany_TooMany ed_TooMany xt_TooMany, kit_ref es_TooMany_TooMany es_TooMany_BadNote ed_BadNote xt_BadNote, kit_ve ev_TooMany⟩⟩
  have K_MOST_THINGS := PySem.W.mg_of X G v_MOST_THINGS
  have K_MOST_SEARCHED := PySem.W.mg_of X G v_MOST_SEARCHED
  have F__law_cell_at := fun_mk (st := s__law_cell_at) l__law_cell_at c__law_cell_at k__law_cell_at
  have D__law_cell_at : Df K mg "_law_cell_at" s__law_cell_at ["script", "k"] f__law_cell_at _ := ⟨F__law_cell_at, F__law_cell_at.binds (ps := ["script", "k"]) fun _ _ _ _ _ _ us hl => match us, hl with | [_, _], _ => rfl, PySem.W.mg_of X G a__law_cell_at⟩
  have F__law_order := fun_mk (st := s__law_order) l__law_order c__law_order k__law_order
  have D__law_order : Df K mg "_law_order" s__law_order ["cell", "many"] f__law_order _ := ⟨F__law_order, F__law_order.binds (ps := ["cell", "many"]) fun _ _ _ _ _ _ us hl => match us, hl with | [_, _], _ => rfl, PySem.W.mg_of X G a__law_order⟩
  have F__law_voters := fun_mk (st := s__law_voters) l__law_voters c__law_voters k__law_voters
  have D__law_voters : Df K mg "_law_voters" s__law_voters ["script", "start", "many", "most"] f__law_voters _ := ⟨F__law_voters, F__law_voters.binds (ps := ["script", "start", "many", "most"]) fun _ _ _ _ _ _ us hl => match us, hl with | [_, _, _, _], _ => rfl, PySem.W.mg_of X G a__law_voters⟩
  have F__law_web := fun_mk (st := s__law_web) l__law_web c__law_web k__law_web
  have D__law_web : Df K mg "_law_web" s__law_web ["script", "start", "many"] f__law_web _ := ⟨F__law_web, F__law_web.binds (ps := ["script", "start", "many"]) fun _ _ _ _ _ _ us hl => match us, hl with | [_, _, _], _ => rfl, PySem.W.mg_of X G a__law_web⟩
  have F__law_ill_voter := fun_mk (st := s__law_ill_voter) l__law_ill_voter c__law_ill_voter k__law_ill_voter
  have D__law_ill_voter : Df K mg "_law_ill_voter" s__law_ill_voter ["voter", "many", "cell"] f__law_ill_voter _ := ⟨F__law_ill_voter, F__law_ill_voter.binds (ps := ["voter", "many", "cell"]) fun _ _ _ _ _ _ us hl => match us, hl with | [_, _, _], _ => rfl, PySem.W.mg_of X G a__law_ill_voter⟩
  have F__law_ill_web := fun_mk (st := s__law_ill_web) l__law_ill_web c__law_ill_web k__law_ill_web
  have D__law_ill_web : Df K mg "_law_ill_web" s__law_ill_web ["web", "many", "cell", "far"] f__law_ill_web _ := ⟨F__law_ill_web, F__law_ill_web.binds (ps := ["web", "many", "cell", "far"]) fun _ _ _ _ _ _ us hl => match us, hl with | [_, _, _, _], _ => rfl, PySem.W.mg_of X G a__law_ill_web⟩
  have F_look_at_count := fun_mk (st := s_look_at_count) l_look_at_count c_look_at_count k_look_at_count
  have D_look_at_count : Df K mg "look_at_count" s_look_at_count ["many"] f_look_at_count _ := ⟨F_look_at_count, F_look_at_count.binds (ps := ["many"]) fun _ _ _ _ _ _ us hl => match us, hl with | [_], _ => rfl, PySem.W.mg_of X G a_look_at_count⟩
  have F_look_at_voters := fun_mk (st := s_look_at_voters) l_look_at_voters c_look_at_voters k_look_at_voters
  have D_look_at_voters : Df K mg "look_at_voters" s_look_at_voters ["many", "voters"] f_look_at_voters _ := ⟨F_look_at_voters, F_look_at_voters.binds (ps := ["many", "voters"]) fun _ _ _ _ _ _ us hl => match us, hl with | [_, _], _ => rfl, PySem.W.mg_of X G a_look_at_voters⟩
  have F_lead_of := fun_mk (st := s_lead_of) l_lead_of c_lead_of k_lead_of
  have D_lead_of : Df K mg "lead_of" s_lead_of ["voters", "one", "other"] f_lead_of _ := ⟨F_lead_of, F_lead_of.binds (ps := ["voters", "one", "other"]) fun _ _ _ _ _ _ us hl => match us, hl with | [_, _, _], _ => rfl, PySem.W.mg_of X G a_lead_of⟩
  have F_lead := fun_mk (st := s_lead) l_lead c_lead k_lead
  have D_lead : Df K mg "lead" s_lead ["many", "voters", "one", "other"] f_lead _ := ⟨F_lead, F_lead.binds (ps := ["many", "voters", "one", "other"]) fun _ _ _ _ _ _ us hl => match us, hl with | [_, _, _, _], _ => rfl, PySem.W.mg_of X G a_lead⟩
  have F_beats_of := fun_mk (st := s_beats_of) l_beats_of c_beats_of k_beats_of
  have D_beats_of : Df K mg "beats_of" s_beats_of ["many", "voters"] f_beats_of _ := ⟨F_beats_of, F_beats_of.binds (ps := ["many", "voters"]) fun _ _ _ _ _ _ us hl => match us, hl with | [_, _], _ => rfl, PySem.W.mg_of X G a_beats_of⟩
  have F_web_of := fun_mk (st := s_web_of) l_web_of c_web_of k_web_of
  have D_web_of : Df K mg "web_of" s_web_of ["many", "voters"] f_web_of _ := ⟨F_web_of, F_web_of.binds (ps := ["many", "voters"]) fun _ _ _ _ _ _ us hl => match us, hl with | [_, _], _ => rfl, PySem.W.mg_of X G a_web_of⟩
  have F_shown := fun_mk (st := s_shown) l_shown c_shown k_shown
  have D_shown : Df K mg "shown" s_shown ["many", "voters"] f_shown _ := ⟨F_shown, F_shown.binds (ps := ["many", "voters"]) fun _ _ _ _ _ _ us hl => match us, hl with | [_, _], _ => rfl, PySem.W.mg_of X G a_shown⟩
  have F_look_at_web := fun_mk (st := s_look_at_web) l_look_at_web c_look_at_web k_look_at_web
  have D_look_at_web : Df K mg "look_at_web" s_look_at_web ["many", "web"] f_look_at_web _ := ⟨F_look_at_web, F_look_at_web.binds (ps := ["many", "web"]) fun _ _ _ _ _ _ us hl => match us, hl with | [_, _], _ => rfl, PySem.W.mg_of X G a_look_at_web⟩
  have F_make := fun_mk (st := s_make) l_make c_make k_make
  have D_make : Df K mg "make" s_make ["many", "voters", "web"] f_make _ := ⟨F_make, F_make.binds (ps := ["many", "voters", "web"]) fun _ _ _ _ _ _ us hl => match us, hl with | [_, _, _], _ => rfl, PySem.W.mg_of X G a_make⟩
  have F_makes := fun_mk (st := s_makes) l_makes c_makes k_makes
  have D_makes : Df K mg "makes" s_makes ["many", "voters", "web"] f_makes _ := ⟨F_makes, F_makes.binds (ps := ["many", "voters", "web"]) fun _ _ _ _ _ _ us hl => match us, hl with | [_, _, _], _ => rfl, PySem.W.mg_of X G a_makes⟩
  have F_out_of_reach := fun_mk (st := s_out_of_reach) l_out_of_reach c_out_of_reach k_out_of_reach
  have D_out_of_reach : Df K mg "out_of_reach" s_out_of_reach ["now", "wished"] f_out_of_reach _ := ⟨F_out_of_reach, F_out_of_reach.binds (ps := ["now", "wished"]) fun _ _ _ _ _ _ us hl => match us, hl with | [_, _], _ => rfl, PySem.W.mg_of X G a_out_of_reach⟩
  have F_bound_by := fun_mk (st := s_bound_by) l_bound_by c_bound_by k_bound_by
  have D_bound_by : Df K mg "bound_by" s_bound_by ["now", "wished", "one", "other"] f_bound_by _ := ⟨F_bound_by, F_bound_by.binds (ps := ["now", "wished", "one", "other"]) fun _ _ _ _ _ _ us hl => match us, hl with | [_, _, _, _], _ => rfl, PySem.W.mg_of X G a_bound_by⟩
  have F_first_order := fun_mk (st := s_first_order) l_first_order c_first_order k_first_order
  have D_first_order : Df K mg "first_order" s_first_order ["many", "web"] f_first_order _ := ⟨F_first_order, F_first_order.binds (ps := ["many", "web"]) fun _ _ _ _ _ _ us hl => match us, hl with | [_, _], _ => rfl, PySem.W.mg_of X G a_first_order⟩
  have F_beat_way := fun_mk (st := s_beat_way) l_beat_way c_beat_way k_beat_way
  have D_beat_way : Df K mg "beat_way" s_beat_way ["web", "first", "last"] f_beat_way _ := ⟨F_beat_way, F_beat_way.binds (ps := ["web", "first", "last"]) fun _ _ _ _ _ _ us hl => match us, hl with | [_, _, _], _ => rfl, PySem.W.mg_of X G a_beat_way⟩
  have F_shortest_ring := fun_mk (st := s_shortest_ring) l_shortest_ring c_shortest_ring k_shortest_ring
  have D_shortest_ring : Df K mg "shortest_ring" s_shortest_ring ["web"] f_shortest_ring _ := ⟨F_shortest_ring, F_shortest_ring.binds (ps := ["web"]) fun _ _ _ _ _ _ us hl => match us, hl with | [_], _ => rfl, PySem.W.mg_of X G a_shortest_ring⟩
  have F_one_more := fun_mk (st := s_one_more) l_one_more c_one_more k_one_more
  have D_one_more : Df K mg "one_more" s_one_more ["many", "voters", "web"] f_one_more _ := ⟨F_one_more, F_one_more.binds (ps := ["many", "voters", "web"]) fun _ _ _ _ _ _ us hl => match us, hl with | [_, _, _], _ => rfl, PySem.W.mg_of X G a_one_more⟩
  have F_ring := fun_mk (st := s_ring) l_ring c_ring k_ring
  have D_ring : Df K mg "ring" s_ring ["many", "web"] f_ring _ := ⟨F_ring, F_ring.binds (ps := ["many", "web"]) fun _ _ _ _ _ _ us hl => match us, hl with | [_, _], _ => rfl, PySem.W.mg_of X G a_ring⟩
  have F_ordered := fun_mk (st := s_ordered) l_ordered c_ordered k_ordered
  have D_ordered : Df K mg "ordered" s_ordered ["many", "web"] f_ordered _ := ⟨F_ordered, F_ordered.binds (ps := ["many", "web"]) fun _ _ _ _ _ _ us hl => match us, hl with | [_, _], _ => rfl, PySem.W.mg_of X G a_ordered⟩
  have F_keeps := fun_mk (st := s_keeps) l_keeps c_keeps k_keeps
  have D_keeps : Df K mg "keeps" s_keeps ["many", "web", "order"] f_keeps _ := ⟨F_keeps, F_keeps.binds (ps := ["many", "web", "order"]) fun _ _ _ _ _ _ us hl => match us, hl with | [_, _, _], _ => rfl, PySem.W.mg_of X G a_keeps⟩
  have F_two_for := fun_mk (st := s_two_for) l_two_for c_two_for k_two_for
  have D_two_for : Df K mg "two_for" s_two_for ["many", "one", "other"] f_two_for _ := ⟨F_two_for, F_two_for.binds (ps := ["many", "one", "other"]) fun _ _ _ _ _ _ us hl => match us, hl with | [_, _, _], _ => rfl, PySem.W.mg_of X G a_two_for⟩
  have F_makers := fun_mk (st := s_makers) l_makers c_makers k_makers
  have D_makers : Df K mg "makers" s_makers ["many", "web"] f_makers _ := ⟨F_makers, F_makers.binds (ps := ["many", "web"]) fun _ _ _ _ _ _ us hl => match us, hl with | [_, _], _ => rfl, PySem.W.mg_of X G a_makers⟩
  have F_wished_signs := fun_mk (st := s_wished_signs) l_wished_signs c_wished_signs k_wished_signs
  have D_wished_signs : Df K mg "wished_signs" s_wished_signs ["many", "web"] f_wished_signs _ := ⟨F_wished_signs, F_wished_signs.binds (ps := ["many", "web"]) fun _ _ _ _ _ _ us hl => match us, hl with | [_, _], _ => rfl, PySem.W.mg_of X G a_wished_signs⟩
  have F_orders_of := fun_mk (st := s_orders_of) l_orders_of c_orders_of k_orders_of
  have D_orders_of : Df K mg "orders_of" s_orders_of ["many"] f_orders_of _ := ⟨F_orders_of, F_orders_of.binds (ps := ["many"]) fun _ _ _ _ _ _ us hl => match us, hl with | [_], _ => rfl, PySem.W.mg_of X G a_orders_of⟩
  have F_signs_of := fun_mk (st := s_signs_of) l_signs_of c_signs_of k_signs_of
  have D_signs_of : Df K mg "signs_of" s_signs_of ["many", "voter"] f_signs_of _ := ⟨F_signs_of, F_signs_of.binds (ps := ["many", "voter"]) fun _ _ _ _ _ _ us hl => match us, hl with | [_, _], _ => rfl, PySem.W.mg_of X G a_signs_of⟩
  have F_sign_of := fun_mk (st := s_sign_of) l_sign_of c_sign_of k_sign_of
  have D_sign_of : Df K mg "sign_of" s_sign_of ["number"] f_sign_of _ := ⟨F_sign_of, F_sign_of.binds (ps := ["number"]) fun _ _ _ _ _ _ us hl => match us, hl with | [_], _ => rfl, PySem.W.mg_of X G a_sign_of⟩
  have F_added := fun_mk (st := s_added) l_added c_added k_added
  have D_added : Df K mg "added" s_added ["one", "other"] f_added _ := ⟨F_added, F_added.binds (ps := ["one", "other"]) fun _ _ _ _ _ _ us hl => match us, hl with | [_, _], _ => rfl, PySem.W.mg_of X G a_added⟩
  have F_fewest := fun_mk (st := s_fewest) l_fewest c_fewest k_fewest
  have D_fewest : Df K mg "fewest" s_fewest ["many", "web"] f_fewest _ := ⟨F_fewest, F_fewest.binds (ps := ["many", "web"]) fun _ _ _ _ _ _ us hl => match us, hl with | [_, _], _ => rfl, PySem.W.mg_of X G a_fewest⟩
  have F__law_asked := fun_mk (st := s__law_asked) l__law_asked c__law_asked k__law_asked
  have D__law_asked : Df K mg "_law_asked" s__law_asked ["way", "many", "voters", "web"] f__law_asked _ := ⟨F__law_asked, F__law_asked.binds (ps := ["way", "many", "voters", "web"]) fun _ _ _ _ _ _ us hl => match us, hl with | [_, _, _, _], _ => rfl, PySem.W.mg_of X G a__law_asked⟩
  have F__law_flags := fun_mk (st := s__law_flags) l__law_flags c__law_flags k__law_flags
  have D__law_flags : Df K mg "_law_flags" s__law_flags ["way", "many", "voters", "web"] f__law_flags _ := ⟨F__law_flags, F__law_flags.binds (ps := ["way", "many", "voters", "web"]) fun _ _ _ _ _ _ us hl => match us, hl with | [_, _, _, _], _ => rfl, PySem.W.mg_of X G a__law_flags⟩
  have F_law := fun_mk (st := s_law) l_law c_law k_law
  have D_law : Df K mg "law" s_law ["script"] fa _ := ⟨F_law, F_law.binds (ps := ["script"]) fun _ _ _ _ _ _ us hl => match us, hl with | [_], _ => rfl, PySem.W.mg_of X G a_law⟩
  refine ⟨PySem.W.fnOf "law" "law" (defArgs s_law) (defBody s_law) (defScope s_law) .none kV_law dc_law pm_law an_law cd_law ct_law, fun s v => .of_eq rfl, fun base _ _ => ?_⟩
  have G__law_cell_at : FnOk l.prog w K mg base CX0 1 f__law_cell_at _ ["script", "k"] (sp__law_cell_at K) := ok__law_cell_at D__law_cell_at Bi_
  have G__law_order : FnOk l.prog w K mg base CX0 1 f__law_order _ ["cell", "many"] sp__law_order := ok__law_order D__law_order Bi_
  have G__law_voters : FnOk l.prog w K mg base CX0 2 f__law_voters _ ["script", "start", "many", "most"] (sp__law_voters K) := ok__law_voters D__law_voters Bi_ D__law_cell_at G__law_cell_at D__law_order G__law_order
  have G__law_web : FnOk l.prog w K mg base CX0 2 f__law_web _ ["script", "start", "many"] (sp__law_web K) := ok__law_web D__law_web Bi_ D__law_cell_at G__law_cell_at D__law_order G__law_order
  have G__law_ill_voter : FnOk l.prog w K mg base CX0 1 f__law_ill_voter _ ["voter", "many", "cell"] sp__law_ill_voter := ok__law_ill_voter D__law_ill_voter Bi_
  have G__law_ill_web : FnOk l.prog w K mg base CX0 1 f__law_ill_web _ ["web", "many", "cell", "far"] sp__law_ill_web := ok__law_ill_web D__law_ill_web Bi_
  have G_look_at_count : FnOk l.prog w K mg base (L2.CX l.prog w) 1 f_look_at_count _ ["many"] (sp_look_at_count C_BadCount) := ok_look_at_count D_look_at_count Bi_ X_BadCount K_MOST_THINGS
  have G_look_at_voters : FnOk l.prog w K mg base (L2.CX l.prog w) 2 f_look_at_voters _ ["many", "voters"] (sp_look_at_voters C_BadCount C_BadVoter) := ok_look_at_voters D_look_at_voters Bi_ X_BadVoter D_look_at_count G_look_at_count
  have G_lead_of : FnOk l.prog w K mg base CX0 1 f_lead_of _ ["voters", "one", "other"] sp_lead_of := ok_lead_of D_lead_of Bi_
  have G_lead : FnOk l.prog w K mg base (L2.CX l.prog w) 3 f_lead _ ["many", "voters", "one", "other"] (sp_lead C_BadCount C_BadVoter) := ok_lead D_lead Bi_ D_look_at_voters G_look_at_voters D_lead_of G_lead_of
  have G_beats_of : FnOk l.prog w K mg base CX0 2 f_beats_of _ ["many", "voters"] sp_beats_of := ok_beats_of D_beats_of Bi_ D_lead_of G_lead_of
  have G_web_of : FnOk l.prog w K mg base (L2.CX l.prog w) 3 f_web_of _ ["many", "voters"] (sp_web_of C_BadCount C_BadVoter) := ok_web_of D_web_of Bi_ D_look_at_voters G_look_at_voters D_beats_of G_beats_of
  have G_shown : FnOk l.prog w K mg base (L2.CX l.prog w) 3 f_shown _ ["many", "voters"] (sp_shown C_BadCount C_BadVoter) := ok_shown D_shown Bi_ D_look_at_voters G_look_at_voters
  have G_look_at_web : FnOk l.prog w K mg base (L2.CX l.prog w) 2 f_look_at_web _ ["many", "web"] (sp_look_at_web C_BadCount C_BadWeb) := ok_look_at_web D_look_at_web Bi_ X_BadWeb D_look_at_count G_look_at_count
  have G_make : FnOk l.prog w K mg base CX0 3 f_make _ ["many", "voters", "web"] sp_make := ok_make D_make Bi_ D_beats_of G_beats_of
  have G_makes : FnOk l.prog w K mg base (L2.CX l.prog w) 4 f_makes _ ["many", "voters", "web"] (sp_makes C_BadCount C_BadVoter C_BadWeb) := ok_makes D_makes Bi_ D_look_at_voters G_look_at_voters D_look_at_web G_look_at_web D_make G_make
  have G_out_of_reach : FnOk l.prog w K mg base CX0 1 f_out_of_reach _ ["now", "wished"] sp_out_of_reach := ok_out_of_reach D_out_of_reach Bi_
  have G_bound_by : FnOk l.prog w K mg base CX0 1 f_bound_by _ ["now", "wished", "one", "other"] sp_bound_by := ok_bound_by D_bound_by Bi_
  have G_first_order : FnOk l.prog w K mg base CX0 1 f_first_order _ ["many", "web"] sp_first_order := ok_first_order D_first_order Bi_
  have G_beat_way : FnOk l.prog w K mg base CX0 1 f_beat_way _ ["web", "first", "last"] sp_beat_way := ok_beat_way D_beat_way Bi_
  have G_shortest_ring : FnOk l.prog w K mg base CX0 2 f_shortest_ring _ ["web"] sp_shortest_ring := ok_shortest_ring D_shortest_ring Bi_ D_beat_way G_beat_way
  have G_one_more : FnOk l.prog w K mg base (L2.CX l.prog w) 3 f_one_more _ ["many", "voters", "web"] (sp_one_more C_BadCount C_BadVoter C_BadWeb) := ok_one_more D_one_more Bi_ D_look_at_voters G_look_at_voters D_look_at_web G_look_at_web D_lead_of G_lead_of D_out_of_reach G_out_of_reach D_bound_by G_bound_by D_first_order G_first_order D_shortest_ring G_shortest_ring
  have G_ring : FnOk l.prog w K mg base (L2.CX l.prog w) 3 f_ring _ ["many", "web"] (sp_ring C_BadCount C_BadWeb) := ok_ring D_ring Bi_ D_look_at_web G_look_at_web D_shortest_ring G_shortest_ring
  have G_ordered : FnOk l.prog w K mg base (L2.CX l.prog w) 3 f_ordered _ ["many", "web"] (sp_ordered C_BadCount C_BadWeb) := ok_ordered D_ordered Bi_ D_look_at_web G_look_at_web D_first_order G_first_order
  have G_keeps : FnOk l.prog w K mg base (L2.CX l.prog w) 3 f_keeps _ ["many", "web", "order"] (sp_keeps C_BadCount C_BadWeb) := ok_keeps D_keeps Bi_ D_look_at_web G_look_at_web
  have G_two_for : FnOk l.prog w K mg base CX0 1 f_two_for _ ["many", "one", "other"] sp_two_for := ok_two_for D_two_for Bi_
  have G_makers : FnOk l.prog w K mg base (L2.CX l.prog w) 3 f_makers _ ["many", "web"] (sp_makers C_BadCount C_BadWeb) := ok_makers D_makers Bi_ D_look_at_web G_look_at_web D_two_for G_two_for
  have G_wished_signs : FnOk l.prog w K mg base CX0 1 f_wished_signs _ ["many", "web"] sp_wished_signs := ok_wished_signs D_wished_signs Bi_
  have G_orders_of : FnOk l.prog w K mg base CX0 1 f_orders_of _ ["many"] sp_orders_of := ok_orders_of D_orders_of Bi_
  have G_signs_of : FnOk l.prog w K mg base CX0 1 f_signs_of _ ["many", "voter"] sp_signs_of := ok_signs_of D_signs_of Bi_
  have G_sign_of : FnOk l.prog w K mg base CX0 1 f_sign_of _ ["number"] sp_sign_of := ok_sign_of D_sign_of Bi_
  have G_added : FnOk l.prog w K mg base CX0 1 f_added _ ["one", "other"] sp_added := ok_added D_added Bi_
  have G_fewest : FnOk l.prog w K mg base (L2.CX l.prog w) 3 f_fewest _ ["many", "web"] (sp_fewest C_BadCount C_BadWeb C_TooMany) := ok_fewest D_fewest Bi_ X_TooMany K_MOST_SEARCHED D_look_at_web G_look_at_web D_wished_signs G_wished_signs D_orders_of G_orders_of D_signs_of G_signs_of D_sign_of G_sign_of D_added G_added
  have G__law_asked : FnOk l.prog w K mg base (L2.CX l.prog w) 5 f__law_asked _ ["way", "many", "voters", "web"] (sp__law_asked C_BadCount C_BadVoter C_BadWeb C_TooMany) := ok__law_asked D__law_asked Bi_ D_lead G_lead D_web_of G_web_of D_shown G_shown D_makes G_makes D_one_more G_one_more D_ring G_ring D_ordered G_ordered D_keeps G_keeps D_makers G_makers D_fewest G_fewest
  have G__law_flags : FnOk l.prog w K mg base CX0 6 f__law_flags _ ["way", "many", "voters", "web"] sp__law_flags := ok__law_flags D__law_flags Bi_ Y_ D__law_asked G__law_asked
  have G_law : FnOk l.prog w K mg base CX0 7 fa _ ["script"] (sp_law K) := ok_law D_law Bi_ D__law_cell_at G__law_cell_at D__law_voters G__law_voters D__law_web G__law_web D__law_order G__law_order D__law_ill_voter G__law_ill_voter D__law_ill_web G__law_ill_web D__law_flags G__law_flags
  exact G_law
end Bm
open PySem PySem.W PyProof.Rows
set_option maxHeartbeats 0 in
theorem PySem.Challenge.cw_beatmakers_k08_refusals_holds : PySem.Challenge.rw_beatmakers_k08_refusals.Holds := by
  w_on; o_law; k_head; (case hw => w_witness2)
  k_fill
  refine L2.walk_of (l := PySem.Challenge.rw_beatmakers_k08_refusals) (n := 63) (k := 7) (x := "script") (CX := fun _ => L2.CX0) (sp := fun w => Bm.sp_law _) rfl (by decide) rfl ⟨rfl, by decide, by decide⟩ (fun w h Y => PySem.W.kIn_of Y) ?F (fun _ _ a ns hl _ hS => ⟨a, ns, rfl, hS, hl, fun _ => rfl⟩) (fun _ _ _ _ _ h => h)
  case F =>
    intro w mg fa h KX G hmg
    refine' Bm.all_mk KX G hmg ?a__law_cell_at ?l__law_cell_at ?c__law_cell_at ?k__law_cell_at ?a__law_order ?l__law_order ?c__law_order ?k__law_order ?a__law_voters ?l__law_voters ?c__law_voters ?k__law_voters ?a__law_web ?l__law_web ?c__law_web ?k__law_web ?a__law_ill_voter ?l__law_ill_voter ?c__law_ill_voter ?k__law_ill_voter ?a__law_ill_web ?l__law_ill_web ?c__law_ill_web ?k__law_ill_web ?a_look_at_count ?l_look_at_count ?c_look_at_count ?k_look_at_count ?a_look_at_voters ?l_look_at_voters ?c_look_at_voters ?k_look_at_voters ?a_lead_of ?l_lead_of ?c_lead_of ?k_lead_of ?a_lead ?l_lead ?c_lead ?k_lead ?a_beats_of ?l_beats_of ?c_beats_of ?k_beats_of ?a_web_of ?l_web_of ?c_web_of ?k_web_of ?a_shown ?l_shown ?c_shown ?k_shown ?a_look_at_web ?l_look_at_web ?c_look_at_web ?k_look_at_web ?a_make ?l_make ?c_make ?k_make ?a_makes ?l_makes ?c_makes ?k_makes ?a_out_of_reach ?l_out_of_reach ?c_out_of_reach ?k_out_of_reach ?a_bound_by ?l_bound_by ?c_bound_by ?k_bound_by ?a_first_order ?l_first_order ?c_first_order ?k_first_order ?a_beat_way ?l_beat_way ?c_beat_way ?k_beat_way ?a_shortest_ring ?l_shortest_ring ?c_shortest_ring ?k_shortest_ring ?a_one_more ?l_one_more ?c_one_more ?k_one_more ?a_ring ?l_ring ?c_ring ?k_ring ?a_ordered ?l_ordered ?c_ordered ?k_ordered ?a_keeps ?l_keeps ?c_keeps ?k_keeps ?a_two_for ?l_two_for ?c_two_for ?k_two_for ?a_makers ?l_makers ?c_makers ?k_makers ?a_wished_signs ?l_wished_signs ?c_wished_signs ?k_wished_signs ?a_orders_of ?l_orders_of ?c_orders_of ?k_orders_of ?a_signs_of ?l_signs_of ?c_signs_of ?k_signs_of ?a_sign_of ?l_sign_of ?c_sign_of ?k_sign_of ?a_added ?l_added ?c_added ?k_added ?a_fewest ?l_fewest ?c_fewest ?k_fewest ?a__law_asked ?l__law_asked ?c__law_asked ?k__law_asked ?a__law_flags ?l__law_flags ?c__law_flags ?k__law_flags ?a_law ?l_law ?c_law ?k_law ?g_BadCount ?x_BadCount ?xk_BadCount ?xb_BadCount ?xt_BadCount ?g_BadVoter ?x_BadVoter ?xk_BadVoter ?xb_BadVoter ?xt_BadVoter ?g_BadWeb ?x_BadWeb ?xk_BadWeb ?xb_BadWeb ?xt_BadWeb ?g_TooMany ?x_TooMany ?xk_TooMany ?xb_TooMany ?xt_TooMany ?g_BadNote ?x_BadNote ?xk_BadNote ?xb_BadNote ?xt_BadNote ?g_BeatError ?x_BeatError ?xk_BeatError ?xb_BeatError ?xt_BeatError ?v_MOST_THINGS ?v_MOST_SEARCHED ?z_len ?z_range ?z_list ?z_tuple ?z_sorted ?z_int ?z_bool ?z_str ?z_isinstance ?z_reversed ?z_set ?z_all ?z_max ?z_min ?z_ValueError ?en ?et ?ed_BadCount ?ed_BadVoter ?ed_BadWeb ?ed_TooMany ?ed_BadNote ?ed_BeatError ?eg_BadCount ?ek_BadCount ?ea_BadCount ?em_BadCount ?ev_BadCount ?es_BadCount_BadCount ?es_BadCount_BadVoter ?es_BadCount_BadWeb ?es_BadCount_TooMany ?es_BadCount_BadNote ?es_BadCount_BeatError ?eg_BadVoter ?ek_BadVoter ?ea_BadVoter ?em_BadVoter ?ev_BadVoter ?es_BadVoter_BadCount ?es_BadVoter_BadVoter ?es_BadVoter_BadWeb ?es_BadVoter_TooMany ?es_BadVoter_BadNote ?es_BadVoter_BeatError ?eg_BadWeb ?ek_BadWeb ?ea_BadWeb ?em_BadWeb ?ev_BadWeb ?es_BadWeb_BadCount ?es_BadWeb_BadVoter ?es_BadWeb_BadWeb ?es_BadWeb_TooMany ?es_BadWeb_BadNote ?es_BadWeb_BeatError ?eg_TooMany ?ek_TooMany ?ea_TooMany ?em_TooMany ?ev_TooMany ?es_TooMany_BadCount ?es_TooMany_BadVoter ?es_TooMany_BadWeb ?es_TooMany_TooMany ?es_TooMany_BadNote ?es_TooMany_BeatError
    (case a__law_cell_at => k_is)
    (case l__law_cell_at => k_is)
    (case c__law_cell_at => k_is)
    (case k__law_cell_at => k_is)
    (case a__law_order => k_is)
    (case l__law_order => k_is)
    (case c__law_order => k_is)
    (case k__law_order => k_is)
    (case a__law_voters => k_is)
    (case l__law_voters => k_is)
    (case c__law_voters => k_is)
    (case k__law_voters => k_is)
    (case a__law_web => k_is)
    (case l__law_web => k_is)
    (case c__law_web => k_is)
    (case k__law_web => k_is)
    (case a__law_ill_voter => k_is)
    (case l__law_ill_voter => k_is)
    (case c__law_ill_voter => k_is)
    (case k__law_ill_voter => k_is)
    (case a__law_ill_web => k_is)
    (case l__law_ill_web => k_is)
    (case c__law_ill_web => k_is)
    (case k__law_ill_web => k_is)
    (case a_look_at_count => k_is)
    (case l_look_at_count => k_is)
    (case c_look_at_count => k_is)
    (case k_look_at_count => k_is)
    (case a_look_at_voters => k_is)
    (case l_look_at_voters => k_is)
    (case c_look_at_voters => k_is)
    (case k_look_at_voters => k_is)
    (case a_lead_of => k_is)
    (case l_lead_of => k_is)
    (case c_lead_of => k_is)
    (case k_lead_of => k_is)
    (case a_lead => k_is)
    (case l_lead => k_is)
    (case c_lead => k_is)
    (case k_lead => k_is)
    (case a_beats_of => k_is)
    (case l_beats_of => k_is)
    (case c_beats_of => k_is)
    (case k_beats_of => k_is)
    (case a_web_of => k_is)
    (case l_web_of => k_is)
    (case c_web_of => k_is)
    (case k_web_of => k_is)
    (case a_shown => k_is)
    (case l_shown => k_is)
    (case c_shown => k_is)
    (case k_shown => k_is)
    (case a_look_at_web => k_is)
    (case l_look_at_web => k_is)
    (case c_look_at_web => k_is)
    (case k_look_at_web => k_is)
    (case a_make => k_is)
    (case l_make => k_is)
    (case c_make => k_is)
    (case k_make => k_is)
    (case a_makes => k_is)
    (case l_makes => k_is)
    (case c_makes => k_is)
    (case k_makes => k_is)
    (case a_out_of_reach => k_is)
    (case l_out_of_reach => k_is)
    (case c_out_of_reach => k_is)
    (case k_out_of_reach => k_is)
    (case a_bound_by => k_is)
    (case l_bound_by => k_is)
    (case c_bound_by => k_is)
    (case k_bound_by => k_is)
    (case a_first_order => k_is)
    (case l_first_order => k_is)
    (case c_first_order => k_is)
    (case k_first_order => k_is)
    (case a_beat_way => k_is)
    (case l_beat_way => k_is)
    (case c_beat_way => k_is)
    (case k_beat_way => k_is)
    (case a_shortest_ring => k_is)
    (case l_shortest_ring => k_is)
    (case c_shortest_ring => k_is)
    (case k_shortest_ring => k_is)
    (case a_one_more => k_is)
    (case l_one_more => k_is)
    (case c_one_more => k_is)
    (case k_one_more => k_is)
    (case a_ring => k_is)
    (case l_ring => k_is)
    (case c_ring => k_is)
    (case k_ring => k_is)
    (case a_ordered => k_is)
    (case l_ordered => k_is)
    (case c_ordered => k_is)
    (case k_ordered => k_is)
    (case a_keeps => k_is)
    (case l_keeps => k_is)
    (case c_keeps => k_is)
    (case k_keeps => k_is)
    (case a_two_for => k_is)
    (case l_two_for => k_is)
    (case c_two_for => k_is)
    (case k_two_for => k_is)
    (case a_makers => k_is)
    (case l_makers => k_is)
    (case c_makers => k_is)
    (case k_makers => k_is)
    (case a_wished_signs => k_is)
    (case l_wished_signs => k_is)
    (case c_wished_signs => k_is)
    (case k_wished_signs => k_is)
    (case a_orders_of => k_is)
    (case l_orders_of => k_is)
    (case c_orders_of => k_is)
    (case k_orders_of => k_is)
    (case a_signs_of => k_is)
    (case l_signs_of => k_is)
    (case c_signs_of => k_is)
    (case k_signs_of => k_is)
    (case a_sign_of => k_is)
    (case l_sign_of => k_is)
    (case c_sign_of => k_is)
    (case k_sign_of => k_is)
    (case a_added => k_is)
    (case l_added => k_is)
    (case c_added => k_is)
    (case k_added => k_is)
    (case a_fewest => k_is)
    (case l_fewest => k_is)
    (case c_fewest => k_is)
    (case k_fewest => k_is)
    (case a__law_asked => k_is)
    (case l__law_asked => k_is)
    (case c__law_asked => k_is)
    (case k__law_asked => k_is)
    (case a__law_flags => k_is)
    (case l__law_flags => k_is)
    (case c__law_flags => k_is)
    (case k__law_flags => k_is)
    (case a_law => k_is)
    (case l_law => k_is)
    (case c_law => k_is)
    (case k_law => k_is)
    (case g_BadCount => k_is)
    (case x_BadCount => k_exc)
    (case xk_BadCount => k_is)
    (case xb_BadCount => k_is)
    (case xt_BadCount => k_is)
    (case g_BadVoter => k_is)
    (case x_BadVoter => k_exc)
    (case xk_BadVoter => k_is)
    (case xb_BadVoter => k_is)
    (case xt_BadVoter => k_is)
    (case g_BadWeb => k_is)
    (case x_BadWeb => k_exc)
    (case xk_BadWeb => k_is)
    (case xb_BadWeb => k_is)
    (case xt_BadWeb => k_is)
    (case g_TooMany => k_is)
    (case x_TooMany => k_exc)
    (case xk_TooMany => k_is)
    (case xb_TooMany => k_is)
    (case xt_TooMany => k_is)
    (case g_BadNote => k_is)
    (case x_BadNote => k_exc)
    (case xk_BadNote => k_is)
    (case xb_BadNote => k_is)
    (case xt_BadNote => k_is)
    (case g_BeatError => k_is)
    (case x_BeatError => k_exc)
    (case xk_BeatError => k_is)
    (case xb_BeatError => k_is)
    (case xt_BeatError => k_is)
    (case v_MOST_THINGS => k_is)
    (case v_MOST_SEARCHED => k_is)
    (case z_len => k_is)
    (case z_range => k_is)
    (case z_list => k_is)
    (case z_tuple => k_is)
    (case z_sorted => k_is)
    (case z_int => k_is)
    (case z_bool => k_is)
    (case z_str => k_is)
    (case z_isinstance => k_is)
    (case z_reversed => k_is)
    (case z_set => k_is)
    (case z_all => k_is)
    (case z_max => k_is)
    (case z_min => k_is)
    (case z_ValueError => k_is)
    (case en => k_is)
    (case et => k_is)
    (case ed_BadCount => k_is)
    (case ed_BadVoter => k_is)
    (case ed_BadWeb => k_is)
    (case ed_TooMany => k_is)
    (case ed_BadNote => k_is)
    (case ed_BeatError => k_is)
    (case eg_BadCount => k_is)
    (case ek_BadCount => k_is)
    (case ea_BadCount => k_is)
    (case em_BadCount => k_is)
    (case ev_BadCount => k_is)
    (case es_BadCount_BadCount => k_is)
    (case es_BadCount_BadVoter => k_is)
    (case es_BadCount_BadWeb => k_is)
    (case es_BadCount_TooMany => k_is)
    (case es_BadCount_BadNote => k_is)
    (case es_BadCount_BeatError => k_is)
    (case eg_BadVoter => k_is)
    (case ek_BadVoter => k_is)
    (case ea_BadVoter => k_is)
    (case em_BadVoter => k_is)
    (case ev_BadVoter => k_is)
    (case es_BadVoter_BadCount => k_is)
    (case es_BadVoter_BadVoter => k_is)
    (case es_BadVoter_BadWeb => k_is)
    (case es_BadVoter_TooMany => k_is)
    (case es_BadVoter_BadNote => k_is)
    (case es_BadVoter_BeatError => k_is)
    (case eg_BadWeb => k_is)
    (case ek_BadWeb => k_is)
    (case ea_BadWeb => k_is)
    (case em_BadWeb => k_is)
    (case ev_BadWeb => k_is)
    (case es_BadWeb_BadCount => k_is)
    (case es_BadWeb_BadVoter => k_is)
    (case es_BadWeb_BadWeb => k_is)
    (case es_BadWeb_TooMany => k_is)
    (case es_BadWeb_BadNote => k_is)
    (case es_BadWeb_BeatError => k_is)
    (case eg_TooMany => k_is)
    (case ek_TooMany => k_is)
    (case ea_TooMany => k_is)
    (case em_TooMany => k_is)
    (case ev_TooMany => k_is)
    (case es_TooMany_BadCount => k_is)
    (case es_TooMany_BadVoter => k_is)
    (case es_TooMany_BadWeb => k_is)
    (case es_TooMany_TooMany => k_is)
    (case es_TooMany_BadNote => k_is)
    (case es_TooMany_BeatError => k_is)

