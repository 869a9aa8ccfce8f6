import PyProof.Rows.All
import Wide.All
import OpenK.AllK
import Wide.FinOn
import HandS.Base
import HandS.Call
import HandS.List
import HandS.Comp
import HandS.Ends
import HandS.Dict
import HandS.Iter
import HandS.Text
import HandS.Words
import HandS.WordsList
import HandS.Evl
import HandS.Conv
import HandS.Strs
import HandS.TupAny
import HandS.Rev
import HandS.SortInts
import HandS.Deep
import HandS.Style
import HandS.IsInst
import HandS.Exc
import HandS.ExcOwn
import HandS.WordsExc
import KE.KSortedM
import HandS.TupSets
import HandS.Walk
import PyProof.Rows.TupDisplay
import HandS.SortOrd
import PySem.Challenge.RW_beatmakers_k04_whole_the_fewest_voters
set_option Elab.async false
set_option linter.all false
set_option maxRecDepth 100000
set_option maxHeartbeats 4000000
/-! Data (PyData) in the abstract heap, and what a reading evaluates to as data. -/
namespace Bm
open PySem PySem.Spec PyProof.Rows L2 Evl

/-! ### a value that is this data; lists and tuples are tracked objects -/
mutual
def Rp (H : Hp) : PyData → V → Prop
  | .none, v => v = .non
  | .bool b, v => v = .bl b
  | .int i, v => v = .int i
  | .str s, v => v = .str s
  | .list ds, v => ∃ a xs, v = .ref a ∧ H a = some (.lst xs) ∧ RpA H ds xs
  | .tuple ds, v => ∃ a xs o, v = .ref a ∧ H a = some (.frz o (.tup xs)) ∧ o.dict = Option.none ∧ RpA H ds xs
  | .dict _, _ => False
def RpA (H : Hp) : List PyData → List V → Prop
  | [], vs => vs = []
  | d :: ds, vs => ∃ v r, vs = v :: r ∧ Rp H d v ∧ RpA H ds r
end

mutual
theorem Rp.ex {H H' : Hp} (e : Ex H H') : ∀ {d : PyData} {v : V}, Rp H d v → Rp H' d v
  | .none, _, h => h
  | .bool _, _, h => h
  | .int _, _, h => h
  | .str _, _, h => h
  | .list _, _, h => by
    obtain ⟨a, xs, e1, e2, e3⟩ := h
    exact ⟨a, xs, e1, e a _ e2, RpA.ex e e3⟩
  | .tuple _, _, h => by
    obtain ⟨a, xs, o, e1, e2, e4, e3⟩ := h
    exact ⟨a, xs, o, e1, e a _ e2, e4, RpA.ex e e3⟩
  | .dict _, _, h => h
theorem RpA.ex {H H' : Hp} (e : Ex H H') : ∀ {ds : List PyData} {vs : List V}, RpA H ds vs → RpA H' ds vs
  | [], _, h => h
  | _ :: _, _, h => by
    obtain ⟨v, r, e1, e2, e3⟩ := h
    exact ⟨v, r, e1, Rp.ex e e2, RpA.ex e e3⟩
end

/-! data without a list in it -/
mutual
def imm : PyData → Bool
  | .list _ => false
  | .dict _ => false
  | .tuple ds => immA ds
  | _ => true
def immA : List PyData → Bool
  | [] => true
  | d :: ds => imm d && immA ds
end
theorem immA_iff : ∀ {ds : List PyData}, immA ds = true ↔ ∀ d ∈ ds, imm d = true
  | [] => by simp [immA]
  | d :: ds => by
    rw [immA, Bool.and_eq_true, immA_iff (ds := ds), List.forall_mem_cons]
/-- the tuples stay -/
def KT (H H' : Hp) : Prop := ∀ a o xs, H a = some (.frz o (.tup xs)) → H' a = some (.frz o (.tup xs))
theorem KT.refl (H : Hp) : KT H H := fun _ _ _ h => h
theorem KT.trans {H H1 H2 : Hp} (a : KT H H1) (b : KT H1 H2) : KT H H2 := fun x o xs h => b x o xs (a x o xs h)
theorem KT.of {H H' : Hp} (e : Ex H H') : KT H H' := fun a _ xs h => e a _ h
theorem KT.upd {H : Hp} {l : Addr} {u o : HO} (h : H l = some u) (n : ∀ ob xs, u ≠ .frz ob (.tup xs)) : KT H (L2.upd H l o) := fun a ob ys e => by
  rw [upd_ne (ne_of e h (fun z => n ob ys z.symm))]
  exact e
theorem KT.lst {H : Hp} {l : Addr} {xs : List V} {o : HO} (h : H l = some (.lst xs)) : KT H (L2.upd H l o) := KT.upd h fun _ _ z => by cases z
mutual
theorem Rp.keep {H H' : Hp} (e : KT H H') : ∀ {d : PyData} {v : V}, imm d = true → Rp H d v → Rp H' d v
  | .none, _, _, h => h
  | .bool _, _, _, h => h
  | .int _, _, _, h => h
  | .str _, _, _, h => h
  | .list _, _, i, _ => by cases i
  | .tuple _, _, i, h => by
    obtain ⟨a, xs, o, e1, e2, e4, e3⟩ := h
    exact ⟨a, xs, o, e1, e a _ _ e2, e4, RpA.keep e i e3⟩
  | .dict _, _, _, h => h
theorem RpA.keep {H H' : Hp} (e : KT H H') : ∀ {ds : List PyData} {vs : List V}, immA ds = true → RpA H ds vs → RpA H' ds vs
  | [], _, _, h => h
  | _ :: _, _, i, h => by
    obtain ⟨v, r, e1, e2, e3⟩ := h
    rw [immA, Bool.and_eq_true] at i
    exact ⟨v, r, e1, Rp.keep e i.1 e2, RpA.keep e i.2 e3⟩
end

mutual
theorem Rp.dp {K : PySem.W.Frag} {H : Hp} : ∀ {d : PyData} {v : V}, Rp H d v → Dp K H v d
  | .none, _, h => by cases h; exact .non
  | .bool _, _, h => by cases h; exact .bl _
  | .int _, _, h => by cases h; exact .int _
  | .str _, _, h => by cases h; exact .str _
  | .list _, _, h => by
    obtain ⟨a, xs, e1, e2, e3⟩ := h
    rw [e1]
    exact .lst (SqL.of e2) (RpA.dp e3)
  | .tuple _, _, h => by
    obtain ⟨a, xs, o, e1, e2, e4, e3⟩ := h
    rw [e1]
    exact .tup (.inl (.inr ⟨o, e2⟩)) (RpA.dp e3)
  | .dict _, _, h => h.elim
theorem RpA.dp {K : PySem.W.Frag} {H : Hp} : ∀ {ds : List PyData} {vs : List V}, RpA H ds vs → DpAll K H vs ds
  | [], _, h => by cases h; exact .nil
  | _ :: _, _, h => by
    obtain ⟨v, r, e1, e2, e3⟩ := h
    rw [e1]
    exact .cons (Rp.dp e2) (RpA.dp e3)
end

/-! ### lists of data -/
section
variable {H H' : Hp}
theorem RpA.nil : RpA H [] [] := rfl
theorem RpA.cons {d : PyData} {ds : List PyData} {v : V} {vs : List V} (h : Rp H d v) (t : RpA H ds vs) : RpA H (d :: ds) (v :: vs) := ⟨v, vs, rfl, h, t⟩
theorem RpA.len : ∀ {ds : List PyData} {vs : List V}, RpA H ds vs → vs.length = ds.length
  | [], _, h => by cases h; rfl
  | _ :: _, _, h => by
    obtain ⟨v, r, rfl, _, e3⟩ := h
    rw [List.length_cons, List.length_cons, RpA.len e3]
theorem RpA.get : ∀ {ds : List PyData} {vs : List V} {i : Nat} {d : PyData}, RpA H ds vs → ds[i]? = some d → ∃ v, vs[i]? = some v ∧ Rp H d v
  | [], _, _, _, _, e => by simp at e
  | _ :: _, _, 0, _, h, e => by
    obtain ⟨v, r, rfl, e2, _⟩ := h
    cases e
    exact ⟨v, rfl, e2⟩
  | _ :: _, _, i + 1, _, h, e => by
    obtain ⟨v, r, rfl, _, e3⟩ := h
    exact RpA.get (i := i) e3 e
theorem RpA.getv : ∀ {ds : List PyData} {vs : List V} {i : Nat} {v : V}, RpA H ds vs → vs[i]? = some v → ∃ d, ds[i]? = some d ∧ Rp H d v
  | [], _, _, _, h, e => by cases h; simp at e
  | d :: _, _, 0, _, h, e => by
    obtain ⟨v, r, rfl, e2, _⟩ := h
    cases e
    exact ⟨d, rfl, e2⟩
  | _ :: _, _, i + 1, _, h, e => by
    obtain ⟨v, r, rfl, _, e3⟩ := h
    exact RpA.getv (i := i) e3 e
theorem RpA.get2 {ds : List PyData} {vs : List V} {i : Nat} {d : PyData} {v : V} (h : RpA H ds vs) (e : ds[i]? = some d) (e' : vs[i]? = some v) : Rp H d v := by
  obtain ⟨u, q, r⟩ := h.get e
  rw [e'] at q; cases q
  exact r
theorem RpA.app : ∀ {ds es : List PyData} {vs ws : List V}, RpA H ds vs → RpA H es ws → RpA H (ds ++ es) (vs ++ ws)
  | [], _, _, _, h, t => by cases h; exact t
  | _ :: _, _, _, _, h, t => by
    obtain ⟨v, r, rfl, e2, e3⟩ := h
    exact ⟨v, _, rfl, e2, RpA.app e3 t⟩
theorem RpA.snoc {ds : List PyData} {d : PyData} {vs : List V} {v : V} (h : RpA H ds vs) (t : Rp H d v) : RpA H (ds ++ [d]) (vs ++ [v]) := h.app (RpA.cons t RpA.nil)
theorem RpA.take : ∀ {ds : List PyData} {vs : List V} (n : Nat), RpA H ds vs → RpA H (ds.take n) (vs.take n)
  | _, _, 0, _ => by simp only [List.take_zero]; exact RpA.nil
  | [], _, n + 1, h => by cases h; exact RpA.nil
  | _ :: _, _, n + 1, h => by
    obtain ⟨v, r, rfl, e2, e3⟩ := h
    exact ⟨v, _, rfl, e2, RpA.take n e3⟩
theorem RpA.drop : ∀ {ds : List PyData} {vs : List V} (n : Nat), RpA H ds vs → RpA H (ds.drop n) (vs.drop n)
  | _, _, 0, h => h
  | [], _, n + 1, h => by cases h; exact RpA.nil
  | _ :: _, _, n + 1, h => by
    obtain ⟨v, r, rfl, e2, e3⟩ := h
    exact RpA.drop n e3
theorem RpA.rev : ∀ {ds : List PyData} {vs : List V}, RpA H ds vs → RpA H ds.reverse vs.reverse
  | [], _, h => by cases h; exact RpA.nil
  | _ :: _, _, h => by
    obtain ⟨v, r, rfl, e2, e3⟩ := h
    rw [List.reverse_cons, List.reverse_cons]
    exact (RpA.rev e3).snoc e2
theorem RpA.erase : ∀ {ds : List PyData} {vs : List V} (n : Nat), RpA H ds vs → RpA H (ds.eraseIdx n) (vs.eraseIdx n)
  | [], _, _, h => by cases h; exact RpA.nil
  | _ :: _, _, 0, h => by
    obtain ⟨v, r, rfl, e2, e3⟩ := h
    exact e3
  | _ :: _, _, n + 1, h => by
    obtain ⟨v, r, rfl, e2, e3⟩ := h
    exact ⟨v, _, rfl, e2, RpA.erase n e3⟩
theorem RpA.rep {ds : List PyData} {vs : List V} (h : RpA H ds vs) : ∀ k : Nat, RpA H (List.replicate k ds).flatten (List.replicate k vs).flatten
  | 0 => RpA.nil
  | k + 1 => by
    rw [List.replicate_succ, List.replicate_succ, List.flatten_cons, List.flatten_cons]
    exact h.app (RpA.rep h k)
theorem rpa_map {α : Type} {f : α → PyData} {g : α → V} (h : ∀ x, Rp H (f x) (g x)) : ∀ xs : List α, RpA H (xs.map f) (xs.map g)
  | [] => RpA.nil
  | x :: xs => ⟨g x, _, rfl, h x, rpa_map h xs⟩
theorem rpa_map_inv {α : Type} {f : α → PyData} {g : α → V} (h : ∀ x v, Rp H (f x) v → v = g x) : ∀ {xs : List α} {vs : List V}, RpA H (xs.map f) vs → vs = xs.map g
  | [], _, r => r
  | x :: xs, _, r => by
    obtain ⟨v, t, rfl, e2, e3⟩ := r
    rw [List.map_cons, h x v e2, rpa_map_inv h e3]
theorem rpa_ints (ns : List Int) : RpA H (ns.map PyData.int) (ns.map V.int) := rpa_map (f := PyData.int) (g := V.int) (fun _ => rfl) ns
theorem RpA.ints {ns : List Int} {vs : List V} (h : RpA H (ns.map PyData.int) vs) : vs = ns.map V.int := rpa_map_inv (f := PyData.int) (g := V.int) (fun _ _ e => e) h
theorem rpa_strs (ns : List Str) : RpA H (ns.map PyData.str) (ns.map V.str) := rpa_map (f := PyData.str) (g := V.str) (fun _ => rfl) ns
theorem RpA.strs {ns : List Str} {vs : List V} (h : RpA H (ns.map PyData.str) vs) : vs = ns.map V.str := rpa_map_inv (f := PyData.str) (g := V.str) (fun _ _ e => e) h
theorem rpa_bls (ns : List Bool) : RpA H (ns.map PyData.bool) (ns.map V.bl) := rpa_map (f := PyData.bool) (g := V.bl) (fun _ => rfl) ns
theorem RpA.bls {ns : List Bool} {vs : List V} (h : RpA H (ns.map PyData.bool) vs) : vs = ns.map V.bl := rpa_map_inv (f := PyData.bool) (g := V.bl) (fun _ _ e => e) h
/-- another row of data is the same data -/
theorem RpA.mem : ∀ {ds : List PyData} {vs : List V} {d : PyData}, RpA H ds vs → d ∈ ds → ∃ v ∈ vs, Rp H d v
  | d :: ds, _, x, h, m => by
    obtain ⟨v, r, rfl, e2, e3⟩ := h
    rcases List.mem_cons.mp m with rfl | m
    · exact ⟨v, List.mem_cons_self, e2⟩
    · obtain ⟨u, hu, q⟩ := RpA.mem e3 m
      exact ⟨u, List.mem_cons_of_mem _ hu, q⟩
end

/-! ### short words for data -/
abbrev iD (ns : List Int) : PyData := .tuple (ns.map .int)
abbrev iL (ns : List Int) : PyData := .list (ns.map .int)
abbrev pD (p : Int × Int) : PyData := .tuple [.int p.1, .int p.2]
abbrev vD (vs : List (List Int)) : PyData := .list (vs.map iD)
abbrev wD (ps : List (Int × Int)) : PyData := .list (ps.map pD)
theorem imm_ints (ns : List Int) : immA (ns.map .int) = true := immA_iff.mpr fun d h => by
  obtain ⟨x, _, rfl⟩ := List.mem_map.mp h
  rfl
theorem imm_iD (ns : List Int) : imm (iD ns) = true := imm_ints ns
theorem imm_vD (vs : List (List Int)) : immA (vs.map iD) = true := immA_iff.mpr fun d h => by
  obtain ⟨x, _, rfl⟩ := List.mem_map.mp h
  exact imm_iD x
theorem imm_wD (ps : List (Int × Int)) : immA (ps.map pD) = true := immA_iff.mpr fun d h => by
  obtain ⟨x, _, rfl⟩ := List.mem_map.mp h
  rfl
theorem Rp.iD {H : Hp} {v : V} {ns : List Int} (h : Rp H (iD ns) v) : ∃ a o, v = .ref a ∧ H a = some (.frz o (.tup (ns.map V.int))) ∧ o.dict = Option.none := by
  obtain ⟨a, xs, o, e1, e2, e4, e3⟩ := h
  exact ⟨a, o, e1, by rw [e2, e3.ints], e4⟩
theorem Rp.seqT {K : PySem.W.Frag} {H : Hp} {v : V} {ds : List PyData} (h : Rp H (.tuple ds) v) : ∃ a xs, v = .ref a ∧ SqT K H a xs ∧ RpA H ds xs := by
  obtain ⟨a, xs, o, e1, e2, e4, e3⟩ := h
  exact ⟨a, xs, e1, .inl (.inr ⟨o, e2⟩), e3⟩
theorem Rp.seqL {K : PySem.W.Frag} {H : Hp} {v : V} {ds : List PyData} (h : Rp H (.list ds) v) : ∃ a xs, v = .ref a ∧ SqL K H a xs ∧ RpA H ds xs := by
  obtain ⟨a, xs, e1, e2, e3⟩ := h
  exact ⟨a, xs, e1, SqL.of e2, e3⟩
theorem Rp.iL {H : Hp} {v : V} {ns : List Int} (h : Rp H (iL ns) v) : ∃ a, v = .ref a ∧ H a = some (.lst (ns.map V.int)) := by
  obtain ⟨a, xs, e1, e2, e3⟩ := h
  exact ⟨a, e1, by rw [e2, e3.ints]⟩
theorem Rp.pD {H : Hp} {v : V} {p : Int × Int} (h : Rp H (pD p) v) : ∃ a o, v = .ref a ∧ H a = some (.frz o (.tup [.int p.1, .int p.2])) ∧ o.dict = Option.none := by
  obtain ⟨a, xs, o, e1, e2, e4, v1, r1, rfl, q1, v2, r2, rfl, q2, q3⟩ := h
  cases q1
  cases q2
  cases q3
  exact ⟨a, o, e1, e2, e4⟩

/-! ### what an expression evaluates to -/
def EvD (te : TE) (σ : L2.St) (H : Hp) (d : PyData) : Prop := ∀ H1, Ex H H1 → ∀ Q : VK, (∀ v H2, Ex H1 H2 → Rp H2 d v → Q v H2) → te σ H1 Q
/-- a new list -/
def EvN (te : TE) (σ : L2.St) (H : Hp) (ds : List PyData) : Prop := ∀ H1, Ex H H1 → ∀ Q : VK, (∀ p vs H2, H1 p = none → Ex H1 H2 → H2 p = some (.lst vs) → RpA H2 ds vs → Q (.ref p) H2) → te σ H1 Q
def EvS (ta : TA) (σ : L2.St) (H : Hp) (ds : List PyData) : Prop := ∀ H1, Ex H H1 → ∀ Q : List V → Hp → Prop, (∀ vs H2, Ex H1 H2 → RpA H2 ds vs → Q vs H2) → ta σ H1 Q
section
variable {K : PySem.W.Frag} {σ : L2.St} {H H' : Hp} {ta tb te tx : TE} {t u : TT} {d x y z : PyData} {ds : List PyData}
theorem EvD.mono (e : Ex H H') (h : EvD te σ H d) : EvD te σ H' d := fun H1 a Q q => h H1 (e.trans a) Q q
theorem EvN.mono (e : Ex H H') (h : EvN te σ H ds) : EvN te σ H' ds := fun H1 a Q q => h H1 (e.trans a) Q q
theorem EvS.mono {ta : TA} (e : Ex H H') (h : EvS ta σ H ds) : EvS ta σ H' ds := fun H1 a Q q => h H1 (e.trans a) Q q
theorem EvN.toD (h : EvN te σ H ds) : EvD te σ H (.list ds) := fun H1 e Q q => h H1 e Q fun p vs H2 _ e2 h2 h3 => q _ H2 e2 ⟨p, vs, rfl, h2, h3⟩
theorem EvD.is {d' : PyData} (h : EvD te σ H d) (e : d = d') : EvD te σ H d' := e ▸ h
theorem evd_var {i : Nat} {v : V} (h : σ[i]? = some (some v)) (r : Rp H d v) : EvD (tVar i) σ H d := fun H1 e _ q => ⟨v, h, q v H1 (Ex.refl H1) (r.ex e)⟩
theorem evd_int {i : Int} : EvD (tC (.int i)) σ H (.int i) := fun H1 _ _ q => q _ H1 (Ex.refl H1) rfl
theorem evd_str {i : Str} : EvD (tC (.str i)) σ H (.str i) := fun H1 _ _ q => q _ H1 (Ex.refl H1) rfl
theorem evd_bl {b : Bool} : EvD (tC (.bl b)) σ H (.bool b) := fun H1 _ _ q => q _ H1 (Ex.refl H1) rfl
theorem evd_non : EvD (tC .non) σ H .none := fun H1 _ _ q => q _ H1 (Ex.refl H1) rfl
/-- a two-place operation on data -/
def RD (r : R2) (x y : PyData) (H : Hp) (z : PyData) : Prop := ∀ H1 v u, Ex H H1 → Rp H1 x v → Rp H1 y u → ∀ Q : VK, (∀ w H2, Ex H1 H2 → Rp H2 z w → Q w H2) → r v u H1 Q
theorem evd_op {r : R2} (ha : EvD ta σ H x) (hb : EvD tb σ H y) (hr : RD r x y H z) : EvD (tOp r ta tb) σ H z := fun H1 e Q q =>
  ha H1 e _ fun v H2 e2 r2 => hb H2 (e.trans e2) _ fun u H3 e3 r3 => hr H3 v u ((e.trans e2).trans e3) (r2.ex e3) r3 Q fun w H4 e4 r4 => q w H4 ((e2.trans e3).trans e4) r4
theorem rd_val {r : R2} (h : ∀ H1 v u, Ex H H1 → Rp H1 x v → Rp H1 y u → ∃ w, Rp H1 z w ∧ ∀ Q : VK, Q w H1 → r v u H1 Q) : RD r x y H z := fun H1 v u e r1 r2 Q q => by
  obtain ⟨w, rw_, k⟩ := h H1 v u e r1 r2
  exact k Q (q w H1 (Ex.refl H1) rw_)
end

/-! ### operations on ints, bools, texts -/
def rAddI : R2 := rI0 fun i j => .int (i + j)
def rSubI : R2 := rI0 fun i j => .int (i - j)
def rMulI : R2 := rI CMul fun i j => .int (i * j)
def rDivI : R2 := rI CDiv fun i j => .int (i / j)
def rModI : R2 := rI (fun _ j => 0 < j) fun i j => .int (i % j)
def rPowI : R2 := rI CPow fun i j => .int (i ^ j.toNat)
def rLtI : R2 := rI0 fun i j => .bl (decide (i < j))
def rLeI : R2 := rI0 fun i j => .bl (decide (i ≤ j))
def rGtI : R2 := rI0 fun i j => .bl (decide (j < i))
def rGeI : R2 := rI0 fun i j => .bl (decide (j ≤ i))
def rEqI : R2 := fun x y H Q => ∃ i j, x = .int i ∧ y = .int j ∧ Q (.bl (decide (i = j))) H
def rNeI : R2 := fun x y H Q => ∃ i j, x = .int i ∧ y = .int j ∧ Q (.bl (!decide (i = j))) H
def rEqB : R2 := fun x y H Q => ∃ i j, x = .bl i ∧ y = .bl j ∧ Q (.bl (decide (i = j))) H
def rNeB : R2 := fun x y H Q => ∃ i j, x = .bl i ∧ y = .bl j ∧ Q (.bl (!decide (i = j))) H
def rEqT : R2 := fun x y H Q => ∃ i j, x = .str i ∧ y = .str j ∧ Q (.bl (decide (i = j))) H
def rNeT : R2 := fun x y H Q => ∃ i j, x = .str i ∧ y = .str j ∧ Q (.bl (!decide (i = j))) H
def rIsNo : R2 := fun x y H Q => y = .non ∧ Q (.bl (decide (x = .non))) H
def rNotNo : R2 := fun x y H Q => y = .non ∧ Q (.bl (!decide (x = .non))) H
section
variable {X : Cx}
theorem op_addI : OpR X (binaryOp .Add) rAddI := op_add
theorem op_subI : OpR X (binaryOp .Sub) rSubI := op_sub
theorem op_mulI : OpR X (binaryOp .Mult) rMulI := op_mul
theorem op_divI : OpR X (binaryOp .FloorDiv) rDivI := op_fdiv
theorem op_modI : OpR X (binaryOp .Mod) rModI := op_mod
theorem op_powI : OpR X (binaryOp .Pow) rPowI := op_pow
theorem op_ltI : OpR X (compareOp .Lt) rLtI := op_lt
theorem op_leI : OpR X (compareOp .LtE) rLeI := op_le
theorem op_gtI : OpR X (compareOp .Gt) rGtI := op_gt
theorem op_geI : OpR X (compareOp .GtE) rGeI := op_ge
theorem opr_imp {f : Value → Value → Sem Value} {r r' : R2} (h : OpR X f r) (i : ∀ x y H Q, r' x y H Q → r x y H Q) : OpR X f r' := fun pins s σ H x y v u Q I rx ry q => h pins s σ H x y v u Q I rx ry (i x y H Q q)
theorem dec_inj {α : Type} [DecidableEq α] {f : α → V} (hf : ∀ i j, f i = f j → i = j) (i j : α) : decide (f i = f j) = decide (i = j) := by
  by_cases h : i = j
  · subst h; simp
  · rw [decide_eq_false h, decide_eq_false fun z => h (hf _ _ z)]
theorem op_eqI : OpR X (compareOp .Eq) rEqI := opr_imp op_eq fun x y H Q ⟨i, j, ex, ey, q⟩ => by
  subst ex; subst ey
  exact ⟨rfl, by rw [dec_inj (f := V.int) (fun _ _ z => V.int.inj z)]; exact q⟩
theorem op_neI : OpR X (compareOp .NotEq) rNeI := opr_imp op_ne fun x y H Q ⟨i, j, ex, ey, q⟩ => by
  subst ex; subst ey
  exact ⟨rfl, by rw [dec_inj (f := V.int) (fun _ _ z => V.int.inj z)]; exact q⟩
theorem op_eqB : OpR X (compareOp .Eq) rEqB := opr_imp op_eq fun x y H Q ⟨i, j, ex, ey, q⟩ => by
  subst ex; subst ey
  exact ⟨rfl, by rw [dec_inj (f := V.bl) (fun _ _ z => V.bl.inj z)]; exact q⟩
theorem op_neB : OpR X (compareOp .NotEq) rNeB := opr_imp op_ne fun x y H Q ⟨i, j, ex, ey, q⟩ => by
  subst ex; subst ey
  exact ⟨rfl, by rw [dec_inj (f := V.bl) (fun _ _ z => V.bl.inj z)]; exact q⟩
theorem op_eqT : OpR X (compareOp .Eq) rEqT := opr_imp op_eq fun x y H Q ⟨i, j, ex, ey, q⟩ => by
  subst ex; subst ey
  exact ⟨rfl, by rw [dec_inj (f := V.str) (fun _ _ z => V.str.inj z)]; exact q⟩
theorem op_neT : OpR X (compareOp .NotEq) rNeT := opr_imp op_ne fun x y H Q ⟨i, j, ex, ey, q⟩ => by
  subst ex; subst ey
  exact ⟨rfl, by rw [dec_inj (f := V.str) (fun _ _ z => V.str.inj z)]; exact q⟩
theorem op_isNo : OpR X (compareOp .Is) rIsNo := op_isN
theorem op_notNo : OpR X (compareOp .IsNot) rNotNo := op_notN
end
section
variable {H : Hp} {i j : Int} {a b : Bool} {s t : Str} {d : PyData}
theorem rd_addI : RD rAddI (.int i) (.int j) H (.int (i + j)) := rd_val fun H1 v u e r1 r2 => ⟨.int (i + j), rfl, fun Q q => ⟨i, j, r1, r2, q⟩⟩
theorem rd_subI : RD rSubI (.int i) (.int j) H (.int (i - j)) := rd_val fun H1 v u e r1 r2 => ⟨.int (i - j), rfl, fun Q q => ⟨i, j, r1, r2, q⟩⟩
theorem rd_mulI (h : CMul i j) : RD rMulI (.int i) (.int j) H (.int (i * j)) := rd_val fun H1 v u e r1 r2 => ⟨.int (i * j), rfl, fun Q q => ⟨i, j, r1, r2, h, q⟩⟩
theorem rd_divI (h : CDiv i j) : RD rDivI (.int i) (.int j) H (.int (i / j)) := rd_val fun H1 v u e r1 r2 => ⟨.int (i / j), rfl, fun Q q => ⟨i, j, r1, r2, h, q⟩⟩
theorem rd_modI (h : 0 < j) : RD rModI (.int i) (.int j) H (.int (i % j)) := rd_val fun H1 v u e r1 r2 => ⟨.int (i % j), rfl, fun Q q => ⟨i, j, r1, r2, h, q⟩⟩
theorem rd_powI (h : CPow i j) : RD rPowI (.int i) (.int j) H (.int (i ^ j.toNat)) := rd_val fun H1 v u e r1 r2 => ⟨.int (i ^ j.toNat), rfl, fun Q q => ⟨i, j, r1, r2, h, q⟩⟩
theorem rd_ltI : RD rLtI (.int i) (.int j) H (.bool (decide (i < j))) := rd_val fun H1 v u e r1 r2 => ⟨.bl (decide (i < j)), rfl, fun Q q => ⟨i, j, r1, r2, q⟩⟩
theorem rd_leI : RD rLeI (.int i) (.int j) H (.bool (decide (i ≤ j))) := rd_val fun H1 v u e r1 r2 => ⟨.bl (decide (i ≤ j)), rfl, fun Q q => ⟨i, j, r1, r2, q⟩⟩
theorem rd_gtI : RD rGtI (.int i) (.int j) H (.bool (decide (j < i))) := rd_val fun H1 v u e r1 r2 => ⟨.bl (decide (j < i)), rfl, fun Q q => ⟨i, j, r1, r2, q⟩⟩
theorem rd_geI : RD rGeI (.int i) (.int j) H (.bool (decide (j ≤ i))) := rd_val fun H1 v u e r1 r2 => ⟨.bl (decide (j ≤ i)), rfl, fun Q q => ⟨i, j, r1, r2, q⟩⟩
theorem rd_eqI : RD rEqI (.int i) (.int j) H (.bool (decide (i = j))) := rd_val fun H1 v u e r1 r2 => ⟨.bl (decide (i = j)), rfl, fun Q q => ⟨i, j, r1, r2, q⟩⟩
theorem rd_neI : RD rNeI (.int i) (.int j) H (.bool (!decide (i = j))) := rd_val fun H1 v u e r1 r2 => ⟨.bl (!decide (i = j)), rfl, fun Q q => ⟨i, j, r1, r2, q⟩⟩
theorem rd_eqB : RD rEqB (.bool a) (.bool b) H (.bool (decide (a = b))) := rd_val fun H1 v u e r1 r2 => ⟨.bl (decide (a = b)), rfl, fun Q q => ⟨a, b, r1, r2, q⟩⟩
theorem rd_neB : RD rNeB (.bool a) (.bool b) H (.bool (!decide (a = b))) := rd_val fun H1 v u e r1 r2 => ⟨.bl (!decide (a = b)), rfl, fun Q q => ⟨a, b, r1, r2, q⟩⟩
theorem rd_eqT : RD rEqT (.str s) (.str t) H (.bool (decide (s = t))) := rd_val fun H1 v u e r1 r2 => ⟨.bl (decide (s = t)), rfl, fun Q q => ⟨s, t, r1, r2, q⟩⟩
theorem rd_neT : RD rNeT (.str s) (.str t) H (.bool (!decide (s = t))) := rd_val fun H1 v u e r1 r2 => ⟨.bl (!decide (s = t)), rfl, fun Q q => ⟨s, t, r1, r2, q⟩⟩
def isNo : PyData → Bool
  | .none => true
  | _ => false
theorem Rp.isNo {v : V} : ∀ {d : PyData}, Rp H d v → decide (v = .non) = isNo d
  | .none, h => by cases h; rfl
  | .bool _, h => by cases h; rfl
  | .int _, h => by cases h; rfl
  | .str _, h => by cases h; rfl
  | .list _, h => by obtain ⟨a, xs, rfl, _⟩ := h; rfl
  | .tuple _, h => by obtain ⟨a, xs, o, rfl, _⟩ := h; rfl
  | .dict _, h => h.elim
theorem rd_isNo : RD rIsNo d .none H (.bool (isNo d)) := rd_val fun H1 v u e r1 r2 => ⟨.bl (isNo d), rfl, fun Q q => ⟨r2, by rw [r1.isNo]; exact q⟩⟩
theorem rd_notNo : RD rNotNo d .none H (.bool (!isNo d)) := rd_val fun H1 v u e r1 r2 => ⟨.bl (!isNo d), rfl, fun Q q => ⟨r2, by rw [r1.isNo]; exact q⟩⟩
end

/-! ### tests, and, or, not -/
section
variable {K : PySem.W.Frag} {σ : L2.St} {H H' : Hp} {ta tb te tx : TE} {t u : TT} {d x y z : PyData} {ds : List PyData} {a b : Bool}
theorem ett (h : EvD te σ H (.bool b)) : EvT (tTest te) σ H b := fun H1 e _ q => h H1 e _ fun v H2 e2 r => ⟨b, r, q H2 e2⟩
theorem etB (h : EvD te σ H (.bool b)) : EvT (tB te) σ H b := fun H1 e _ q => h H1 e _ fun v H2 e2 r => ⟨b, r, q H2 e2⟩
theorem evd_and (h1 : EvD ta σ H (.bool a)) (h2 : a = true → EvD tb σ H (.bool b)) : EvD (tAndV ta tb) σ H (.bool (a && b)) := fun H1 e Q q => h1 H1 e _ fun v H2 e2 r => ⟨a, r, by
  cases a with
  | true => exact h2 rfl H2 (e.trans e2) Q fun w H3 e3 r3 => q w H3 (e2.trans e3) r3
  | false => exact q _ H2 e2 rfl⟩
theorem evd_or (h1 : EvD ta σ H (.bool a)) (h2 : a = false → EvD tb σ H (.bool b)) : EvD (tOrV ta tb) σ H (.bool (a || b)) := fun H1 e Q q => h1 H1 e _ fun v H2 e2 r => ⟨a, r, by
  cases a with
  | true => exact q _ H2 e2 rfl
  | false => exact h2 rfl H2 (e.trans e2) Q fun w H3 e3 r3 => q w H3 (e2.trans e3) r3⟩
theorem evd_not (h1 : EvD ta σ H (.bool a)) : EvD (tNotV ta) σ H (.bool (!a)) := fun H1 e Q q => h1 H1 e _ fun v H2 e2 r => ⟨a, r, q _ H2 e2 rfl⟩
theorem evd_chain {r r' : R2} {w : PyData} {tc : TE} (ha : EvD ta σ H x) (hb : EvD tb σ H y) (hr : RD r x y H (.bool a)) (hc : a = true → EvD tc σ H z) (hr' : a = true → RD r' y z H (.bool b)) : EvD (tChain r r' ta tb tc) σ H (.bool (a && b)) := fun H1 e Q q =>
  ha H1 e _ fun v H2 e2 r2 => hb H2 (e.trans e2) _ fun u H3 e3 r3 => hr H3 v u ((e.trans e2).trans e3) (r2.ex e3) r3 _ fun w H4 e4 r4 => ⟨a, r4, by
    cases a with
    | true => exact hc rfl H4 (((e.trans e2).trans e3).trans e4) _ fun w' H5 e5 r5 => hr' rfl H5 u w' ((((e.trans e2).trans e3).trans e4).trans e5) ((r3.ex e4).ex e5) r5 Q fun w2 H6 e6 r6 => q w2 H6 ((((e2.trans e3).trans e4).trans e5).trans e6) r6
    | false => exact q _ H4 ((e2.trans e3).trans e4) rfl⟩
/-! ### arguments, tuples, lists -/
theorem evs_nil : EvS tNil σ H [] := fun H1 _ _ q => q [] H1 (Ex.refl H1) RpA.nil
theorem evs_cons {tr : TA} (h : EvD ta σ H x) (hr : EvS tr σ H ds) : EvS (tCons ta tr) σ H (x :: ds) := fun H1 e _ q =>
  h H1 e _ fun v H2 e2 r2 => hr H2 (e.trans e2) _ fun vs H3 e3 r3 => q (v :: vs) H3 (e2.trans e3) (RpA.cons (r2.ex e3) r3)
/-- a tuple whose object bears no dict -/
def tTupF (t : TA) : TE := fun σ H Q => t σ H fun xs H1 => xs.length ≤ sizeLine ∧ ∀ p o, H1 p = Option.none → o.dict = Option.none → Q (.ref p) (upd H1 p (.frz o (.tup xs)))
theorem evd_tup {tr : TA} (h : EvS tr σ H ds) (hl : ds.length ≤ 100000) : EvD (tTupF tr) σ H (.tuple ds) := fun H1 e _ q =>
  h H1 e _ fun vs H2 e2 r2 => ⟨sz_of (by rw [r2.len]; exact hl), fun p o hp ho => q _ _ (e2.trans (Ex.new hp)) ⟨p, vs, o, rfl, upd_same, ho, r2.ex (Ex.new hp)⟩⟩
theorem evn_lst {tr : TA} (h : EvS tr σ H ds) (hl : ds.length ≤ 100000) : EvN (tLst tr) σ H ds := fun H1 e _ q =>
  h H1 e _ fun vs H2 e2 r2 => ⟨sz_of (by rw [r2.len]; exact hl), fun p hp => q p vs _ (fresh_back e2 hp) (e2.trans (Ex.new hp)) upd_same (r2.ex (Ex.new hp))⟩
/-- a def's call -/
theorem evd_call {sp : Sp} {E : XK} {tr : TA} (h : EvS tr σ H ds) (hs : ∀ H1 vs Q, Ex H H1 → RpA H1 ds vs → (∀ v H2, Ex H1 H2 → Rp H2 d v → Q v H2) → sp vs H1 Q E) : EvD (tCall sp [] E tr) σ H d := fun H1 e Q q =>
  h H1 e _ fun vs H2 e2 r2 => by
    show sp (vs ++ []) H2 Q E
    rw [List.append_nil]
    exact hs H2 vs Q (e.trans e2) r2 fun v H3 e3 r3 => q v H3 (e2.trans e3) r3
theorem evn_call {sp : Sp} {E : XK} {tr : TA} {es : List PyData} (h : EvS tr σ H ds) (hs : ∀ H1 vs Q, Ex H H1 → RpA H1 ds vs → (∀ p ws H2, H1 p = none → Ex H1 H2 → H2 p = some (.lst ws) → RpA H2 es ws → Q (.ref p) H2) → sp vs H1 Q E) : EvN (tCall sp [] E tr) σ H es := fun H1 e Q q =>
  h H1 e _ fun vs H2 e2 r2 => by
    show sp (vs ++ []) H2 Q E
    rw [List.append_nil]
    exact hs H2 vs Q (e.trans e2) r2 fun p ws H3 hp e3 h3 r3 => q p ws H3 (fresh_back e2 hp) (e2.trans e3) h3 r3
/-- a built-in's call -/
def CD (r : List V → Hp → VK → Prop) (ds : List PyData) (H : Hp) (z : PyData) : Prop := ∀ H1 vs, Ex H H1 → RpA H1 ds vs → ∀ Q : VK, (∀ w H2, Ex H1 H2 → Rp H2 z w → Q w H2) → r vs H1 Q
def CN (r : List V → Hp → VK → Prop) (ds : List PyData) (H : Hp) (zs : List PyData) : Prop := ∀ H1 vs, Ex H H1 → RpA H1 ds vs → ∀ Q : VK, (∀ p ws H2, H1 p = none → Ex H1 H2 → H2 p = some (.lst ws) → RpA H2 zs ws → Q (.ref p) H2) → r vs H1 Q
theorem evd_cb {r : List V → Hp → VK → Prop} {tr : TA} (h : EvS tr σ H ds) (hr : CD r ds H z) : EvD (tCB r tr) σ H z := fun H1 e Q q =>
  h H1 e _ fun vs H2 e2 r2 => hr H2 vs (e.trans e2) r2 Q fun w H3 e3 r3 => q w H3 (e2.trans e3) r3
theorem evn_cb {r : List V → Hp → VK → Prop} {tr : TA} {zs : List PyData} (h : EvS tr σ H ds) (hr : CN r ds H zs) : EvN (tCB r tr) σ H zs := fun H1 e Q q =>
  h H1 e _ fun vs H2 e2 r2 => hr H2 vs (e.trans e2) r2 Q fun p ws H3 hp e3 h3 r3 => q p ws H3 (fresh_back e2 hp) (e2.trans e3) h3 r3
/-- a built-in's method that changes nothing -/
def MD (K : PySem.W.Frag) (T : String) (r : V → List V → Hp → VK → Prop) (x : PyData) (ds : List PyData) (H : Hp) (z : PyData) : Prop :=
  (∀ H1 v, Ex H H1 → Rp H1 x v → tyV K T v H1) ∧ ∀ H1 v vs, Ex H H1 → Rp H1 x v → RpA H1 ds vs → ∀ Q : VK, (∀ w H2, Ex H1 H2 → Rp H2 z w → Q w H2) → r v vs H1 Q
theorem evd_bm {T : String} {r : V → List V → Hp → VK → Prop} {to : TE} {tr : TA} (ho : EvD to σ H x) (h : EvS tr σ H ds) (hr : MD K T r x ds H z) : EvD (tBM K T r to tr) σ H z := fun H1 e Q q =>
  ho H1 e _ fun v H2 e2 r2 => ⟨hr.1 H2 v (e.trans e2) r2, h H2 (e.trans e2) _ fun vs H3 e3 r3 => hr.2 H3 v vs ((e.trans e2).trans e3) (r2.ex e3) r3 Q fun w H4 e4 r4 => q w H4 ((e2.trans e3).trans e4) r4⟩
end
end Bm

/-! Tuples that are told with their object (it bears no dict): made, added, searched by index; sorted of a tuple. -/
namespace Bm
open PySem PySem.Spec PyProof.Rows L2 Evl
section
variable {X : Cx} {pins : List (Addr × Obj)} {σ : L2.St} {H : Hp} {s : Shared} {es : List Expr} {t : TA} {pos : Pos}
/-- a new tuple laid at the heap's end, told with its object -/
theorem tupNew (I : Inv X pins σ H s) {h2 : Heap} {tk : Nat} {xs : List V} {us : List Value} (kp : ∀ b o, s.heap.get? b = some o → h2.get? b = some o) (r : Vals xs us) (z : xs.length ≤ sizeLine) {Q : VK}
    (q : ∀ p o, H p = none → o.dict = none → Q (.ref p) (upd H p (.frz o (.tup xs)))) :
    EP X pins σ Q (.ref h2.objs.size) { s with heap := h2.push { cls := .type "tuple", data := .seq us.toArray }, toks := tk } := by
  have J : Inv X pins σ H { s with heap := h2, toks := tk } := I.kept (t' := tk) kp
  have fr : H h2.objs.size = none := J.hok.fresh (Nat.le_refl _)
  have at_ : (h2.push { cls := .type "tuple", data := .seq us.toArray }).get? h2.objs.size = some { cls := .type "tuple", data := .seq us.toArray } := Heap.get?_push_size _ rfl
  refine ⟨.ref h2.objs.size, upd H h2.objs.size (.frz { cls := .type "tuple", data := .seq us.toArray } (.tup xs)), ?_, rfl, q _ _ fr rfl⟩
  refine J.laid (t' := tk) (fun b o e => Heap.get?_push_of_some _ e) (Nat.le_refl _) ⟨at_, z, us, r, ⟨_, at_, rfl, _, rfl⟩⟩
theorem pe_tupF {k : Nat} (h : PA X es t) : PE X (.Tuple es k pos) (tTupF t) := by
  refine ⟨fun pins s σ H Q I hq => wpAny_Tuple_spliced (thn (h.run pos pins s σ H _ I hq) fun us s1 hh => ?_)⟩
  obtain ⟨xs, H1, I1, r, z, q⟩ := hh
  exact ⟨by rw [← r.length]; exact z, tupNew (tk := s1.toks) I1 (fun _ _ e => e) r z q⟩
end
def rTupL (K : PySem.W.Frag) : List V → Hp → VK → Prop := fun xs H Q => ∃ p ys, xs = [.ref p] ∧ SqL K H p ys ∧ ∀ l o, H l = none → o.dict = none → Q (.ref l) (upd H l (.frz o (.tup ys)))
/-- x + y of tuples -/
def rCatF (K : PySem.W.Frag) : R2 := fun x y H Q => ∃ a b xs ys, x = .ref a ∧ y = .ref b ∧ SqT K H a xs ∧ SqT K H b ys ∧ xs.length + ys.length ≤ sizeLine ∧
  (xs = [] → Q (.ref b) H) ∧ (ys = [] → Q (.ref a) H) ∧ ∀ p o, H p = none → o.dict = none → Q (.ref p) (upd H p (.frz o (.tup (xs ++ ys))))
section
variable {X : Cx}
theorem cr_tupL : CallR X (.type "tuple") (rTupL X.K) := by
  intro pins s σ H xs us Q I r h
  obtain ⟨p, ys, rfl, hq, q⟩ := h
  obtain ⟨u, rfl, ru⟩ := vals1 r
  cases ru
  obtain ⟨its, rv, pl, z⟩ := I.list hq
  exact call_tuple_list pl.isList (fun h2 kp => tupNew (tk := s.toks) I kp rv z q) (by rw [List.size_toArray, ← rv.length]; exact z)
theorem op_catF : OpR X (binaryOp .Add) (rCatF X.K) := by
  intro pins s σ H x y v u Q I rx ry h
  obtain ⟨a, b, xs, ys, rfl, rfl, ha, hb, z, q0, q1, q2⟩ := h
  cases rx
  cases ry
  obtain ⟨i1, r1, p1, _⟩ := I.tuple ha
  obtain ⟨i2, r2, p2, _⟩ := I.tuple hb
  by_cases e : xs = []
  · subst e
    cases r1
    have zc := op_catA pins s σ H (.ref a) (.ref b) (.ref a) (.ref b) Q I rfl rfl
    exact zc ⟨a, b, [], ys, rfl, rfl, ha, hb, z, q0, fun k => absurd rfl k, fun k => absurd rfl k⟩
  · exact HT.cat_tup p1 p2 (fun k => e (r1.nil_iff.mp k)) (fun k => ⟨.ref a, H, I, rfl, q1 (r2.nil_iff.mp k)⟩)
      (fun k => tupNew (tk := s.toks) I (fun _ _ q => q) (r1.append r2) (by rw [List.length_append]; exact z) q2) (by rw [← r1.length, ← r2.length]; exact z)
/-! ### t.index(x) of ints -/
theorem flat_ints (ns : List Int) : (ns.map V.int).all flatV = true := by
  rw [List.all_map]
  exact List.all_eq_true.mpr fun _ _ => rfl
def rIxI (K : PySem.W.Frag) : V → List V → Hp → VK → Prop := fun x xs H Q => ∃ (p : Addr) (ns : List Int) (z : Int) (j : Nat), x = .ref p ∧ xs = [.int z] ∧ SqT K H p (ns.map V.int) ∧ ns[j]? = some z ∧ (∀ m, m < j → ns[m]? ≠ some z) ∧ Q (.int (j : Nat)) H
theorem mt_tupIx : MtR X "tuple.index" (rIxI X.K) := by
  intro pins s σ H x xs v us Q I rx rs h
  obtain ⟨p, ns, z, j, rfl, rfl, hq, hz, hno, q⟩ := h
  cases rx
  obtain ⟨u, rfl, tk, rfl⟩ := vals1 rs
  obtain ⟨its, r, pl, _⟩ := I.tuple hq
  obtain ⟨⟨c, dd, dt, sl⟩, ho, hc, n, hd⟩ := pl
  obtain rfl : c = .type "tuple" := hc
  obtain rfl : dt = .seq its.toArray n := hd
  have hl : its.toArray.size = ns.length := by rw [List.size_toArray, ← r.length, List.length_map]
  have item : ∀ (m : Nat) (hm : m < its.toArray.size), ∃ y t2, ns[m]? = some y ∧ its.toArray[m] = Value.int y t2 := fun m hm => by
    have hm2 : m < ns.length := hl ▸ hm
    obtain ⟨w2, hw, t2, e2⟩ := r.get (i := m) (x := .int ns[m]) (by simp [hm2])
    obtain ⟨_, e3⟩ := List.getElem?_eq_some_iff.mp hw
    exact ⟨ns[m], t2, List.getElem?_eq_getElem hm2, by rw [← e2, ← e3]; simp⟩
  have hj : j < its.toArray.size := by rw [hl]; exact (List.getElem?_eq_some_iff.mp hz).1
  have eqi : ∀ (y : Int) (t2 : Tok), eqU (.int z) (Value.int y t2) = (y == z) := fun _ _ => rfl
  refine call_meets PySem.F.slot_tuple_index ⟨_, ho, rfl⟩ PySem.F.entry_tuple_index (PySem.F.args_tuple_index_2 _ _)
    (TI.tuple_indexAt p its.toArray n dd sl (.int z tk) (eqU (.int z)) j hj ?_ fun m hm hmj => ?_)
    ⟨ho, fun w2 hw => mem_eqAt (x := .int z) ⟨tk, rfl⟩ rfl r (flat_ints ns) w2 (by simpa using hw), ⟨.int (j : Nat), H, I.tok _, ⟨_, rfl⟩, q⟩⟩
  · obtain ⟨y, t2, h1, h2⟩ := item j hj
    rw [hz] at h1
    cases h1
    rw [h2, eqi]
    exact beq_self_eq_true z
  · obtain ⟨y, t2, h1, h2⟩ := item m hm
    rw [h2, eqi]
    exact beq_eq_false_iff_ne.mpr fun e => hno m hmj (by rw [h1, e])
/-- the call of a tuple's method, the tuple told with its object -/
def tTM (r : V → List V → Hp → VK → Prop) (to : TE) (t : TA) : TE := fun σ H Q => to σ H fun x H1 => (∃ a o xs, x = .ref a ∧ H1 a = some (.frz o (.tup xs)) ∧ o.dict = none) ∧ t σ H1 fun xs H2 => r x xs H2 Q
theorem pe_tm {o e : Expr} {es : List Expr} {to : TE} {t : TA} {name : Str} {apos cpos : Pos} {id : String} {r : V → List V → Hp → VK → Prop} (pa : PlainAttrs "tuple") (slot : Slot "tuple" name id)
    (hty : typeOf (.builtin id) = pure (.type "method_descriptor")) (hm : MtR X id r) (ho : PE X o to) (ha : PA X (e :: es) t) (hbase : attributeBase o name X.env (eval o X.env) = eval o X.env := by rfl)
    (hfew : ((backTo cpos (starEach (e :: es) X.env)).all (fun x => !x.1) && (backToKw cpos (keywordEach [] X.env)).all (fun x => x.1.isSome) && decide ((e :: es).length + ([] : List Keyword).length + (if ([] : List Keyword).isEmpty then 0 else 1) < 30)) = true := by rfl)
    (hline : (apos.endLine == cpos.line) = true := by rfl) (hs : starEach (e :: es) X.env = (false, eval e X.env) :: starEach es X.env := by rfl)
    (hpl : (backTo cpos (starEach es X.env)).any (·.1) = false := by rfl) : PE X (.Call (.Attribute o name apos) (e :: es) [] cpos) (tTM r to t) := by
  refine ⟨fun pins s σ H Q I h => wpAny_Call_method_late hbase hfew hline rfl (thn (ho.run pins s σ H _ I h) fun v s1 hh => ?_)⟩
  obtain ⟨x, H1, I1, r1, ⟨a, ob, xs, rfl, hf, hd⟩, q1⟩ := hh
  obtain ⟨g1, g2⟩ := I1.hok a _ hf
  obtain ⟨_, its, _, o2, g3, g4, _⟩ := g2
  cases r1
  rw [g1] at g3
  cases g3
  refine ⟨"tuple", id, pa, slot, hty, ⟨ob, g1, g4⟩, fun b e2 => ?_, ?_⟩
  · cases e2
    exact ⟨ob, g1, hd⟩
  · have hA := ha.run cpos pins s1 σ H1 _ I1 q1
    rw [hs] at hA ⊢
    refine Calls.callWith_builtin (by show (false || (backTo cpos (starEach es X.env)).any (·.1)) = false; rw [hpl] <;> rfl) (Calls.evalArgs_plain ?_)
    exact thn hA fun us s2 ⟨vs, H2, I2, r2, q2⟩ => hm pins s2 σ H2 (.ref a) vs (.ref a) us Q I2 rfl r2 q2
/-- tuple(reversed(a list)) -/
def tTupRevF (K : PySem.W.Frag) (te : TE) : TE := fun σ H Q => te σ H fun v H1 => ∃ (a : Addr) (xs : List V), v = .ref a ∧ SqL K H1 a xs ∧ ∀ p o, H1 p = none → o.dict = none → Q (.ref p) (upd H1 p (.frz o (.tup xs.reverse)))
end
end Bm

/-! Statements, owned lists, loops, comprehensions over data. -/
namespace Bm
open PySem PySem.Spec PyProof.Rows L2 Evl

/-! ### all but one object stays -/
def ExB (l : Addr) (H H' : Hp) : Prop := ∀ b o, b ≠ l → H b = some o → H' b = some o
theorem ExB.base {H0 H H' : Hp} {l : Addr} (x : ExB l H H') (n : H0 l = none) (e : Ex H0 H) : Ex H0 H' := fun b o h => x b o (ne_of_none h n) (e b o h)
theorem ExB.kt {H H' : Hp} {l : Addr} {xs : List V} (x : ExB l H H') (h : H l = some (.lst xs)) : KT H H' := fun b o ys e => x b _ (ne_of e h fun z => by cases z) e
theorem ExB.of {H H' : Hp} {l : Addr} (e : Ex H H') : ExB l H H' := fun b o _ h => e b o h
theorem ExB.trans {H H1 H2 : Hp} {l : Addr} (a : ExB l H H1) (b : ExB l H1 H2) : ExB l H H2 := fun c o n h => b c o n (a c o n h)
theorem ExB.upd {H : Hp} {l : Addr} {o : HO} : ExB l H (L2.upd H l o) := fun b u n h => by rw [upd_ne n]; exact h

/-- a list of ours, made since H0 -/
structure Own (H0 H : Hp) (l : Addr) (ds : List PyData) : Prop where
  new : H0 l = none
  ex : Ex H0 H
  has : ∃ vs, H l = some (.lst vs) ∧ RpA H ds vs
  im : immA ds = true
section
variable {H0 H H1 : Hp} {l l2 : Addr} {ds : List PyData}
theorem Own.step (o : Own H0 H l ds) (e : Ex H H1) : Own H0 H1 l ds := by
  obtain ⟨vs, h1, h2⟩ := o.has
  exact ⟨o.new, o.ex.trans e, ⟨vs, e _ _ h1, h2.ex e⟩, o.im⟩
theorem Own.lower {Hb : Hp} (o : Own H0 H l ds) (e : Ex Hb H0) : Own Hb H l ds := ⟨fresh_back e o.new, e.trans o.ex, o.has, o.im⟩
theorem Own.rp (o : Own H0 H l ds) : Rp H (.list ds) (.ref l) := by
  obtain ⟨vs, h1, h2⟩ := o.has
  exact ⟨l, vs, rfl, h1, h2⟩
/-- another list has changed -/
theorem Own.other {xs : List V} (o : Own H0 H l ds) (x : ExB l2 H H1) (ne : l ≠ l2) (n : H0 l2 = none) (h : H l2 = some (.lst xs)) : Own H0 H1 l ds := by
  obtain ⟨vs, h1, h2⟩ := o.has
  exact ⟨o.new, x.base n o.ex, ⟨vs, x _ _ ne h1, RpA.keep (x.kt h) o.im h2⟩, o.im⟩
theorem Own.len (o : Own H0 H l ds) : ∃ vs, H l = some (.lst vs) ∧ vs.length = ds.length := by
  obtain ⟨vs, h1, h2⟩ := o.has
  exact ⟨vs, h1, h2.len⟩
theorem Own.of {p : Addr} {vs : List V} (hp : H0 p = none) (e : Ex H0 H) (h : H p = some (.lst vs)) (r : RpA H ds vs) (i : immA ds = true) : Own H0 H p ds := ⟨hp, e, ⟨vs, h, r⟩, i⟩
end
theorem immA_app {ds es : List PyData} (h : immA ds = true) (h' : immA es = true) : immA (ds ++ es) = true := immA_iff.mpr fun d m => (List.mem_append.mp m).elim (immA_iff.mp h d) (immA_iff.mp h' d)
theorem immA_one {d : PyData} (h : imm d = true) : immA [d] = true := by simp [immA, h]

/-! ### statements -/
section
variable {K : PySem.W.Frag} {σ : L2.St} {H H' : Hp} {ta tb te tl : TE} {t u : TT} {d x y z : PyData} {ds es : List PyData} {D : Ends} {tu tw : TS} {g : TG}
theorem s_asgD {i : Nat} (h : EvD te σ H d) (k : ∀ v H1, Ex H H1 → Rp H1 d v → D.nx (σ.set i (some v)) H1) : tAsg te (gName i) D σ H := h H (Ex.refl H) _ fun v H1 e r => k v H1 e r
theorem s_asgI {i : Nat} {n : Int} (h : EvD te σ H (.int n)) (k : ∀ H1, Ex H H1 → D.nx (σ.set i (some (.int n))) H1) : tAsg te (gName i) D σ H := h H (Ex.refl H) _ fun v H1 e r => by
  obtain rfl : v = .int n := r
  exact k H1 e
theorem s_asgB {i : Nat} {b : Bool} (h : EvD te σ H (.bool b)) (k : ∀ H1, Ex H H1 → D.nx (σ.set i (some (.bl b))) H1) : tAsg te (gName i) D σ H := h H (Ex.refl H) _ fun v H1 e r => by
  obtain rfl : v = .bl b := r
  exact k H1 e
theorem s_asgT {i : Nat} {b : Str} (h : EvD te σ H (.str b)) (k : ∀ H1, Ex H H1 → D.nx (σ.set i (some (.str b))) H1) : tAsg te (gName i) D σ H := h H (Ex.refl H) _ fun v H1 e r => by
  obtain rfl : v = .str b := r
  exact k H1 e
theorem s_asgO {i : Nat} (h : EvN te σ H ds) (im : immA ds = true) (k : ∀ p H1, Ex H H1 → Own H H1 p ds → D.nx (σ.set i (some (.ref p))) H1) : tAsg te (gName i) D σ H :=
  h H (Ex.refl H) _ fun p vs H1 hp e h1 r => k p H1 e (Own.of hp e h1 r im)
theorem s_asgNw {i : Nat} (h : EvN te σ H ds) (k : ∀ p vs H1, H p = none → Ex H H1 → H1 p = some (.lst vs) → RpA H1 ds vs → D.nx (σ.set i (some (.ref p))) H1) : tAsg te (gName i) D σ H := h H (Ex.refl H) _ fun p vs H1 hp e h1 r => k p vs H1 hp e h1 r
theorem s_retD (h : EvD te σ H d) (k : ∀ v H1, Ex H H1 → Rp H1 d v → D.rt v H1) : tRet te D σ H := h H (Ex.refl H) _ k
theorem s_retNw (h : EvN te σ H ds) (k : ∀ p vs H1, H p = none → Ex H H1 → H1 p = some (.lst vs) → RpA H1 ds vs → D.rt (.ref p) H1) : tRet te D σ H := h H (Ex.refl H) _ k
theorem s_dropD (h : EvD te σ H d) (k : ∀ H1, Ex H H1 → D.nx σ H1) : tDrop te D σ H := h H (Ex.refl H) _ fun _ H1 e _ => k H1 e
/-- xs.append(e), xs a list of ours -/
theorem s_appO {H0 : Hp} {l : Addr} {i : Nat} (o : Own H0 H l ds) (hi : σ[i]? = some (some (.ref l))) (h : EvD te σ H d) (im : imm d = true) (hz : ds.length < 100000)
    (k : ∀ H2, ExB l H H2 → Own H0 H2 l (ds ++ [d]) → D.nx σ H2) : tDrop (tBM K "list" rAppend (tVar i) (tCons te tNil)) D σ H := by
  obtain ⟨vs, h1, h2⟩ := o.has
  refine ⟨.ref l, hi, .inl ⟨rfl, vs, SqL.of h1⟩, h H (Ex.refl H) _ fun v H1 e1 r1 => ⟨l, vs, v, rfl, rfl, e1 _ _ h1, sz_lt (by rw [h2.len]; exact hz), ?_⟩⟩
  have x : ExB l H (upd H1 l (.lst (vs ++ [v]))) := (ExB.of e1).trans ExB.upd
  refine k _ x ⟨o.new, x.base o.new o.ex, ⟨_, upd_same, ?_⟩, immA_app o.im (immA_one im)⟩
  have kt : KT H1 (upd H1 l (.lst (vs ++ [v]))) := KT.lst (e1 _ _ h1)
  exact (RpA.keep kt o.im (h2.ex e1)).snoc (Rp.keep kt im r1)
/-- xs.extend(e), e a new list -/
theorem s_extO {H0 : Hp} {l : Addr} {i : Nat} (o : Own H0 H l ds) (hi : σ[i]? = some (some (.ref l))) (h : EvN te σ H es) (im : immA es = true) (hz : ds.length + es.length ≤ 100000)
    (k : ∀ H2, ExB l H H2 → Own H0 H2 l (ds ++ es) → D.nx σ H2) : tDrop (tBM K "list" rExtend (tVar i) (tCons te tNil)) D σ H := by
  obtain ⟨vs, h1, h2⟩ := o.has
  refine ⟨.ref l, hi, .inl ⟨rfl, vs, SqL.of h1⟩, h H (Ex.refl H) _ fun p ws H1 hp e1 hw r1 => ⟨l, p, vs, ws, rfl, rfl, e1 _ _ h1, hw, sz_of (by rw [h2.len, r1.len]; exact hz), ?_⟩⟩
  have x : ExB l H (upd H1 l (.lst (vs ++ ws))) := (ExB.of e1).trans ExB.upd
  refine k _ x ⟨o.new, x.base o.new o.ex, ⟨_, upd_same, ?_⟩, immA_app o.im im⟩
  have kt : KT H1 (upd H1 l (.lst (vs ++ ws))) := KT.lst (e1 _ _ h1)
  exact (RpA.keep kt o.im (h2.ex e1)).app (RpA.keep kt im r1)

/-! ### for -/
theorem map_get {α β : Type} {f : α → β} {xs : List α} {i : Nat} {y : β} (h : (xs.map f)[i]? = some y) : ∃ x, xs[i]? = some x ∧ y = f x := by
  rw [List.getElem?_map] at h
  cases e : xs[i]? with
  | none => rw [e] at h; cases h
  | some x => rw [e] at h; cases h; exact ⟨x, rfl, rfl⟩
/-- over a list that stays -/
theorem s_forD {α : Type} {f : α → PyData} {xs : List α} (h : EvD tl σ H (.list (xs.map f)))
    (k : ∀ H1, Ex H H1 → ∃ Pv : Nat → L2.St → Hp → Prop, Pv 0 σ H1 ∧ (∀ i σ' H', Pv i σ' H' → Ex H1 H') ∧
      (∀ i x v σ' H', xs[i]? = some x → Rp H' (f x) v → Pv i σ' H' → g v σ' H' fun σ2 H2 => tu { D with nx := Pv (i + 1), ct := Pv (i + 1), bk := D.nx } σ2 H2) ∧ ∀ σ' H', Pv xs.length σ' H' → D.nx σ' H') :
    tFor (iList K tl) g tu D σ H := h H (Ex.refl H) _ fun v H1 e r => by
  obtain ⟨a, vs, e1, h1, h2⟩ := r
  obtain ⟨Pv, p0, pe, ps, pd⟩ := k H1 e
  have hl : vs.length = xs.length := by rw [h2.len, List.length_map]
  refine ⟨a, e1, ⟨vs, SqL.of h1⟩, for_list (xs := vs) Pv p0 (fun i σ' H' _ p => SqL.of (pe i σ' H' p a _ h1)) (fun i v2 σ' H' hi p => ?_) (fun σ' H' p => pd σ' H' (hl ▸ p))⟩
  obtain ⟨d2, q1, q2⟩ := h2.getv hi
  obtain ⟨x, q3, rfl⟩ := map_get q1
  exact ps i x v2 σ' H' q3 (q2.ex (pe i σ' H' p)) p
theorem s_forR {ta : TA} {n : Int} (h : EvS ta σ H [.int n]) (hn : -100000 ≤ n ∧ n ≤ 100000)
    (k : ∀ H1, Ex H H1 → ∃ Pv : Nat → L2.St → Hp → Prop, Pv 0 σ H1 ∧
      (∀ (i : Nat) σ' H', (i : Int) < n → Pv i σ' H' → g (.int (i : Int)) σ' H' fun σ2 H2 => tu { D with nx := Pv (i + 1), ct := Pv (i + 1), bk := D.nx } σ2 H2) ∧ ∀ σ' H', Pv n.toNat σ' H' → D.nx σ' H') :
    tFor (iRng1 ta) g tu D σ H := h H (Ex.refl H) _ fun vs H1 e r => by
  obtain rfl : vs = [.int n] := RpA.ints (ns := [n]) r
  obtain ⟨Pv, p0, ps, pd⟩ := k H1 e
  refine ⟨n, rfl, by omega, by omega, for_range (lo := 0) (n := n.toNat) Pv p0 (fun i σ' H' hi p => ?_) pd⟩
  rw [Int.zero_add]
  exact ps i σ' H' (by omega) p
theorem s_forR2 {ta : TA} {lo n : Int} (h : EvS ta σ H [.int lo, .int n]) (hn : -100000 ≤ lo ∧ lo ≤ 100000 ∧ -100000 ≤ n ∧ n ≤ 100000)
    (k : ∀ H1, Ex H H1 → ∃ Pv : Nat → L2.St → Hp → Prop, Pv 0 σ H1 ∧
      (∀ (i : Nat) σ' H', lo + (i : Int) < n → Pv i σ' H' → g (.int (lo + (i : Int))) σ' H' fun σ2 H2 => tu { D with nx := Pv (i + 1), ct := Pv (i + 1), bk := D.nx } σ2 H2) ∧ ∀ σ' H', Pv (n - lo).toNat σ' H' → D.nx σ' H') :
    tFor (iRng2 ta) g tu D σ H := h H (Ex.refl H) _ fun vs H1 e r => by
  obtain rfl : vs = [.int lo, .int n] := RpA.ints (ns := [lo, n]) r
  obtain ⟨Pv, p0, ps, pd⟩ := k H1 e
  exact ⟨lo, n, rfl, ⟨by omega, by omega, by omega, by omega⟩, for_range (lo := lo) (n := (n - lo).toNat) Pv p0 (fun i σ' H' hi p => ps i σ' H' (by omega) p) pd⟩

/-! ### a, b = a pair -/
theorem g_name {i : Nat} {v : V} {Q : L2.St → Hp → Prop} (q : Q (σ.set i (some v)) H) : gName i v σ H Q := q
theorem g_pair {p : Int × Int} {v : V} {i j : Nat} {Q : L2.St → Hp → Prop} (r : Rp H (pD p) v) (q : Q ((σ.set i (some (.int p.1))).set j (some (.int p.2))) H) : gTup K 2 (gCons (gName i) (gCons (gName j) gNil)) v σ H Q := by
  obtain ⟨a, o, rfl, h1, _⟩ := r.pD
  exact ⟨a, _, rfl, .inl (.inr ⟨o, h1⟩), rfl, .int p.1, [.int p.2], rfl, .int p.2, [], rfl, rfl, q⟩

/-! ### comprehensions: the items that pass, and what is made of them -/
def LcW (Hb : Hp) (Dl : Addr) (ds : List PyData) (H : Hp) : Prop := Own Hb H Dl ds
/-- over a list -/
theorem evn_lcL {α : Type} {f : α → PyData} {xs : List α} {vs : List Nat} {tt : TT} (c : α → Bool) (y : α → PyData) (h : EvD tl σ H (.list (xs.map f))) (hz : xs.length ≤ 50000)
    (turn : ∀ x v H1, x ∈ xs → Ex H H1 → Rp H1 (f x) v → ∃ σ2, (∀ Q : L2.St → Hp → Prop, Q σ2 H1 → g v (wipe σ vs) H1 Q) ∧ wipe σ2 vs = wipe σ vs ∧ EvT tt σ2 H1 (c x) ∧ (c x = true → EvD te σ2 H1 (y x)))
    (im : ∀ x ∈ xs, c x = true → imm (y x) = true) : EvN (tLc (iList K tl) g tt te vs) σ H ((xs.filter c).map y) := fun H0 e0 Q q => h H0 e0 _ fun v H1 e1 r => by
  obtain ⟨a, ws, ea, h1, h2⟩ := r
  have hl : ws.length = xs.length := by rw [h2.len, List.length_map]
  refine ⟨a, ea, ⟨ws, SqL.of h1⟩, fun Dl hD => lc_list (xs := ws) (fun i H' => Own H1 H' Dl (((xs.take i).filter c).map y)) ?_ (fun i H' _ o => SqL.of (o.ex a _ h1)) (fun i x2 H' hi o => ?_) fun H' o => ?_⟩
  · exact ⟨hD, Ex.new hD, ⟨[], upd_same, RpA.nil⟩, rfl⟩
  · obtain ⟨d2, q1, q2⟩ := h2.getv hi
    obtain ⟨x, q3, rfl⟩ := map_get q1
    have hx : x ∈ xs := List.mem_of_getElem? q3
    obtain ⟨σ2, g1, g2, g3, g4⟩ := turn x x2 H' hx ((e0.trans e1).trans o.ex) (q2.ex o.ex)
    have hlen : i < xs.length := (List.getElem?_eq_some_iff.mp q3).1
    refine g1 _ ⟨g2, g3 H' (Ex.refl H') _ fun H3 e3 => ?_⟩
    have et : xs.take (i + 1) = xs.take i ++ [x] := by rw [List.take_add_one, q3]; rfl
    have o3 := o.step e3
    cases hc : c x with
    | true =>
      rw [if_pos rfl]
      refine g4 hc H3 e3 _ fun w H4 e4 r4 => ?_
      obtain ⟨acc, k1, k2⟩ := (o3.step e4).has
      have kt : KT H4 (upd H4 Dl (.lst (acc ++ [w]))) := KT.lst k1
      have hb : acc.length ≤ i := by
        rw [k2.len, List.length_map]
        exact Nat.le_trans (List.length_filter_le _ _) (by rw [List.length_take]; omega)
      refine ⟨acc, k1, sz_lt (by omega), o.new, ?_, ⟨_, upd_same, ?_⟩, ?_⟩
      · exact Ex.mut (o3.step e4).ex o.new
      · rw [et, List.filter_append, List.filter_cons, if_pos hc, List.map_append]
        exact (RpA.keep kt o.im k2).snoc (Rp.keep kt (im x hx hc) r4)
      · rw [et, List.filter_append, List.filter_cons, if_pos hc, List.map_append]
        exact immA_app o.im (immA_one (im x hx hc))
    | false =>
      rw [if_neg Bool.false_ne_true, et, List.filter_append, List.filter_cons, if_neg (by rw [hc]; exact Bool.false_ne_true), List.filter_nil, List.append_nil]
      exact o3
  · rw [hl, List.take_length] at o
    obtain ⟨acc, k1, k2⟩ := o.has
    exact q Dl acc H' (fresh_back e1 o.new) (e1.trans o.ex) k1 k2
/-- the ints lo, lo + 1, .. -/
def rgI (lo : Int) (n : Nat) : List Int := (List.range n).map fun i : Nat => lo + (i : Int)
theorem rgI_len (lo : Int) (n : Nat) : (rgI lo n).length = n := by unfold rgI; rw [List.length_map, List.length_range]
theorem rgI_get {lo : Int} {n i : Nat} (h : i < n) : (rgI lo n)[i]? = some (lo + (i : Int)) := by
  unfold rgI
  rw [List.getElem?_map, List.getElem?_range h]
  rfl
theorem mem_rgI {lo : Int} {n : Nat} {x : Int} : x ∈ rgI lo n ↔ lo ≤ x ∧ x < lo + (n : Int) := by
  unfold rgI
  constructor
  · intro h
    obtain ⟨i, hi, rfl⟩ := List.mem_map.mp h
    rw [List.mem_range] at hi
    omega
  · intro h
    exact List.mem_map.mpr ⟨(x - lo).toNat, List.mem_range.mpr (by omega), by omega⟩
theorem rgI_snoc (lo : Int) (n : Nat) : rgI lo (n + 1) = rgI lo n ++ [lo + (n : Int)] := by
  unfold rgI
  rw [List.range_succ, List.map_append]
  rfl
/-- a comprehension's turns over ints -/
theorem lcR_core {vs : List Nat} {tt : TT} {lo : Int} {n : Nat} {H0 H1 : Hp} {Dl : Addr} {Qd : Hp → Prop} (c : Int → Bool) (y : Int → PyData) (hz : n ≤ 50000) (e : Ex H H1) (hD : H1 Dl = none)
    (turn : ∀ x H1, lo ≤ x → x < lo + (n : Int) → Ex H H1 → ∃ σ2, (∀ Q : L2.St → Hp → Prop, Q σ2 H1 → g (.int x) (wipe σ vs) H1 Q) ∧ wipe σ2 vs = wipe σ vs ∧ EvT tt σ2 H1 (c x) ∧ (c x = true → EvD te σ2 H1 (y x)))
    (im : ∀ x, lo ≤ x → x < lo + (n : Int) → c x = true → imm (y x) = true) (q : ∀ H', Own H1 H' Dl (((rgI lo n).filter c).map y) → Qd H') :
    ∃ W : Nat → Nat → Hp → Prop, (∃ m, W 0 m (upd H1 Dl (.lst []))) ∧ ∀ i m H, W i m H →
      ((Itr lo n).stop i H ∧ Qd H) ∨ ((Itr lo n).go i H ∧ ∃ Nx : Hp → Prop, (∀ H', Nx H' → ∃ m', m' < m ∧ W (i + 1) m' H') ∧ ∀ x H', (Itr lo n).yld i H x H' → g x (wipe σ vs) H' fun σ2 H2 => wipe σ2 vs = wipe σ vs ∧ tt σ2 H2 fun b H3 =>
        if b = true then te σ2 H3 fun y H4 => ∃ acc, H4 Dl = some (.lst acc) ∧ acc.length < sizeLine ∧ Nx (upd H4 Dl (.lst (acc ++ [y]))) else Nx H3) := by
  refine lc_range (lo := lo) (n := n) (fun i H' => Own H1 H' Dl (((rgI lo i).filter c).map y)) ⟨hD, Ex.new hD, ⟨[], upd_same, RpA.nil⟩, rfl⟩ (fun i H' hi o => ?_) fun H' o => q H' o
  obtain ⟨σ2, g1, g2, g3, g4⟩ := turn (lo + (i : Int)) H' (by omega) (by omega) (e.trans o.ex)
  refine g1 _ ⟨g2, g3 H' (Ex.refl H') _ fun H3 e3 => ?_⟩
  have o3 := o.step e3
  cases hc : c (lo + (i : Int)) with
  | true =>
    rw [if_pos rfl]
    refine g4 hc H3 e3 _ fun w H4 e4 r4 => ?_
    obtain ⟨acc, k1, k2⟩ := (o3.step e4).has
    have kt : KT H4 (upd H4 Dl (.lst (acc ++ [w]))) := KT.lst k1
    have i1 := im (lo + (i : Int)) (by omega) (by omega) hc
    have hb : acc.length ≤ i := by
      rw [k2.len, List.length_map]
      exact Nat.le_trans (List.length_filter_le _ _) (by rw [rgI_len]; omega)
    refine ⟨acc, k1, sz_lt (by omega), o.new, Ex.mut (o3.step e4).ex o.new, ⟨_, upd_same, ?_⟩, ?_⟩
    · rw [rgI_snoc, List.filter_append, List.filter_cons, if_pos hc, List.map_append]
      exact (RpA.keep kt o.im k2).snoc (Rp.keep kt i1 r4)
    · rw [rgI_snoc, List.filter_append, List.filter_cons, if_pos hc, List.map_append]
      exact immA_app o.im (immA_one i1)
  | false =>
    rw [if_neg Bool.false_ne_true, rgI_snoc, List.filter_append, List.filter_cons, if_neg (by rw [hc]; exact Bool.false_ne_true), List.filter_nil, List.append_nil]
    exact o3
/-- over range(n) -/
theorem evn_lcR {vs : List Nat} {tt : TT} {ta : TA} {n : Int} (c : Int → Bool) (y : Int → PyData) (h : EvS ta σ H [.int n]) (hz : -50000 ≤ n ∧ n ≤ 50000)
    (turn : ∀ x H1, 0 ≤ x → x < n → Ex H H1 → ∃ σ2, (∀ Q : L2.St → Hp → Prop, Q σ2 H1 → g (.int x) (wipe σ vs) H1 Q) ∧ wipe σ2 vs = wipe σ vs ∧ EvT tt σ2 H1 (c x) ∧ (c x = true → EvD te σ2 H1 (y x)))
    (im : ∀ x, 0 ≤ x → x < n → c x = true → imm (y x) = true) : EvN (tLc (iRng1 ta) g tt te vs) σ H (((rgI 0 n.toNat).filter c).map y) := fun H0 e0 Q q => h H0 e0 _ fun ws H1 e1 r => by
  obtain rfl : ws = [.int n] := RpA.ints (ns := [n]) r
  refine ⟨n, rfl, by omega, by omega, fun Dl hD => lcR_core (H := H) (H0 := H0) c y (by omega) (e0.trans e1) hD (fun x H2 l1 l2 e2 => turn x H2 l1 (by omega) e2) (fun x l1 l2 => im x l1 (by omega)) fun H' o => ?_⟩
  obtain ⟨acc, k1, k2⟩ := o.has
  exact q Dl acc H' (fresh_back e1 o.new) (e1.trans o.ex) k1 k2
/-- over range(lo, n) -/
theorem evn_lcR2 {vs : List Nat} {tt : TT} {ta : TA} {lo n : Int} (c : Int → Bool) (y : Int → PyData) (h : EvS ta σ H [.int lo, .int n]) (hz : -20000 ≤ lo ∧ lo ≤ 20000 ∧ -20000 ≤ n ∧ n ≤ 20000)
    (turn : ∀ x H1, lo ≤ x → x < n → Ex H H1 → ∃ σ2, (∀ Q : L2.St → Hp → Prop, Q σ2 H1 → g (.int x) (wipe σ vs) H1 Q) ∧ wipe σ2 vs = wipe σ vs ∧ EvT tt σ2 H1 (c x) ∧ (c x = true → EvD te σ2 H1 (y x)))
    (im : ∀ x, lo ≤ x → x < n → c x = true → imm (y x) = true) : EvN (tLc (iRng2 ta) g tt te vs) σ H (((rgI lo (n - lo).toNat).filter c).map y) := fun H0 e0 Q q => h H0 e0 _ fun ws H1 e1 r => by
  obtain rfl : ws = [.int lo, .int n] := RpA.ints (ns := [lo, n]) r
  refine ⟨lo, n, rfl, ⟨by omega, by omega, by omega, by omega⟩, fun Dl hD => lcR_core (H := H) (H0 := H0) c y (by omega) (e0.trans e1) hD (fun x H2 l1 l2 e2 => turn x H2 l1 (by omega) e2) (fun x l1 l2 => im x l1 (by omega)) fun H' o => ?_⟩
  obtain ⟨acc, k1, k2⟩ := o.has
  exact q Dl acc H' (fresh_back e1 o.new) (e1.trans o.ex) k1 k2
theorem et_yes : EvT tYes σ H true := fun H1 _ _ q => q H1 (Ex.refl H1)
end
end Bm

/-! Sequences as data: equality, in, len, items, slices, index, isinstance, list(..), tuple(..), int(..), +. -/
namespace Bm
open PySem PySem.Spec PyProof.Rows L2 Evl

/-! ### equality of data without bools -/
mutual
def pure1 : PyData → Bool
  | .int _ => true
  | .str _ => true
  | .none => true
  | .tuple ds => pureA ds
  | .list ds => pureA ds
  | _ => false
def pureA : List PyData → Bool
  | [] => true
  | d :: ds => pure1 d && pureA ds
end
mutual
theorem eqv_pure : ∀ (d e : PyData), pure1 d = true → pure1 e = true → (PyData.eqv d e = true ↔ d = e)
  | .int i, e, _, h => by cases e <;> simp_all [PyData.eqv, pure1]
  | .str i, e, _, h => by cases e <;> simp_all [PyData.eqv, pure1]
  | .none, e, _, h => by cases e <;> simp_all [PyData.eqv, pure1]
  | .tuple ds, e, h', h => by
    cases e with
    | tuple es => rw [PyData.eqv, eqvA_pure ds es (by simpa [pure1] using h') (by simpa [pure1] using h)]; simp
    | _ => simp [PyData.eqv]
  | .list ds, e, h', h => by
    cases e with
    | list es => rw [PyData.eqv, eqvA_pure ds es (by simpa [pure1] using h') (by simpa [pure1] using h)]; simp
    | _ => simp [PyData.eqv]
  | .bool _, _, h, _ => by simp [pure1] at h
  | .dict _, _, h, _ => by simp [pure1] at h
theorem eqvA_pure : ∀ (ds es : List PyData), pureA ds = true → pureA es = true → (PyData.eqvAll ds es = true ↔ ds = es)
  | [], [], _, _ => by simp [PyData.eqvAll]
  | [], _ :: _, _, _ => by simp [PyData.eqvAll]
  | _ :: _, [], _, _ => by simp [PyData.eqvAll]
  | d :: ds, e :: es, h, h' => by
    rw [pureA, Bool.and_eq_true] at h h'
    rw [PyData.eqvAll, Bool.and_eq_true, eqv_pure d e h.1 h'.1, eqvA_pure ds es h.2 h'.2, List.cons.injEq]
end
theorem pureA_iff : ∀ {ds : List PyData}, pureA ds = true ↔ ∀ d ∈ ds, pure1 d = true
  | [] => by simp [pureA]
  | d :: ds => by rw [pureA, Bool.and_eq_true, pureA_iff (ds := ds), List.forall_mem_cons]
theorem canLayA : ∀ {ds : List PyData}, (∀ d ∈ ds, d.canLay0 = true) → PyData.canLayAll0 ds = true
  | [], _ => by rw [PyData.canLayAll0]
  | d :: ds, h => by
    rw [PyData.canLayAll0, Bool.and_eq_true]
    exact ⟨h d List.mem_cons_self, canLayA fun x m => h x (List.mem_cons_of_mem _ m)⟩
theorem depthA : ∀ {ds : List PyData} {n : Nat}, (∀ d ∈ ds, d.depth ≤ n) → PyData.depthAll ds ≤ n
  | [], n, _ => by rw [PyData.depthAll]; exact Nat.zero_le _
  | d :: ds, n, h => by
    rw [PyData.depthAll]
    exact Nat.max_le.mpr ⟨h d List.mem_cons_self, depthA fun x m => h x (List.mem_cons_of_mem _ m)⟩
/-- data that may be compared: its depth at most n, no bool in it -/
structure Cmp (n : Nat) (d : PyData) : Prop where
  p : pure1 d = true
  l : d.canLay0 = true
  d : d.depth ≤ n
theorem Cmp.int (i : Int) : Cmp 0 (.int i) := ⟨rfl, by rw [PyData.canLay0], by rw [PyData.depth]; exact Nat.le_refl _⟩
theorem Cmp.non : Cmp 0 .none := ⟨rfl, by rw [PyData.canLay0], by rw [PyData.depth]; exact Nat.le_refl _⟩
theorem Cmp.mono {n m : Nat} {d : PyData} (h : Cmp n d) (e : n ≤ m) : Cmp m d := ⟨h.p, h.l, Nat.le_trans h.d e⟩
theorem Cmp.tup {n : Nat} {ds : List PyData} (h : ∀ d ∈ ds, Cmp n d) : Cmp (n + 1) (.tuple ds) :=
  ⟨pureA_iff.mpr fun d m => (h d m).p, by rw [PyData.canLay0]; exact canLayA fun d m => (h d m).l, by rw [PyData.depth]; exact Nat.succ_le_succ (depthA fun d m => (h d m).d)⟩
theorem Cmp.lst {n : Nat} {ds : List PyData} (h : ∀ d ∈ ds, Cmp n d) : Cmp (n + 1) (.list ds) :=
  ⟨pureA_iff.mpr fun d m => (h d m).p, by rw [PyData.canLay0]; exact canLayA fun d m => (h d m).l, by rw [PyData.depth]; exact Nat.succ_le_succ (depthA fun d m => (h d m).d)⟩
theorem mem_map_of {α : Type} {f : α → PyData} {P : PyData → Prop} {xs : List α} (h : ∀ x ∈ xs, P (f x)) : ∀ d ∈ xs.map f, P d := fun d m => by
  obtain ⟨x, hx, rfl⟩ := List.mem_map.mp m
  exact h x hx
theorem cmp_iD (ns : List Int) : Cmp 1 (iD ns) := Cmp.tup (mem_map_of fun i _ => Cmp.int i)
theorem cmp_iL (ns : List Int) : Cmp 1 (iL ns) := Cmp.lst (mem_map_of fun i _ => Cmp.int i)
theorem cmp_pD (p : Int × Int) : Cmp 1 (pD p) := cmp_iD [p.1, p.2]
theorem cmp_vD (vs : List (List Int)) : Cmp 2 (vD vs) := Cmp.lst (mem_map_of fun i _ => cmp_iD i)
theorem cmp_wD (vs : List (Int × Int)) : Cmp 2 (wD vs) := Cmp.lst (mem_map_of fun i _ => cmp_pD i)
theorem Cmp.shaped {n : Nat} {d : PyData} (h : Cmp n d) (hn : n ≤ 64) : SeqAt.shaped d = true := by
  show (d.canLay0 && decide (d.depth ≤ 64)) = true
  rw [h.l, decide_eq_true (Nat.le_trans h.d hn)]
  rfl
theorem eqv_dec {d e : PyData} {P : Prop} [Decidable P] {n m : Nat} (h : Cmp n d) (h' : Cmp m e) (i : d = e ↔ P) : PyData.eqv d e = decide P := by
  have q := (eqv_pure d e h.p h'.p).trans i
  by_cases p : P
  · rw [decide_eq_true p, q.mpr p]
  · rw [decide_eq_false p]
    exact Bool.eq_false_iff.mpr fun z => p (q.mp z)
theorem int_inj : ∀ {i j : Int}, PyData.int i = PyData.int j → i = j := fun h => PyData.int.inj h
theorem map_inj {α : Type} {f : α → PyData} (h : ∀ x y, f x = f y → x = y) : ∀ {xs ys : List α}, xs.map f = ys.map f → xs = ys
  | [], [], _ => rfl
  | [], _ :: _, e => by cases e
  | _ :: _, [], e => by cases e
  | x :: xs, y :: ys, e => by
    rw [List.map_cons, List.map_cons, List.cons.injEq] at e
    rw [h x y e.1, map_inj h e.2]
theorem iD_inj {a b : List Int} (h : iD a = iD b) : a = b := map_inj (fun _ _ => int_inj) (PyData.tuple.inj h)
theorem iL_inj {a b : List Int} (h : iL a = iL b) : a = b := map_inj (fun _ _ => int_inj) (PyData.list.inj h)
theorem pD_inj {a b : Int × Int} (h : pD a = pD b) : a = b := by
  have e := iD_inj (a := [a.1, a.2]) (b := [b.1, b.2]) h
  cases a; cases b
  simp at e
  rw [e.1, e.2]
theorem vD_inj {a b : List (List Int)} (h : vD a = vD b) : a = b := map_inj (fun _ _ => iD_inj) (PyData.list.inj h)
theorem wD_inj {a b : List (Int × Int)} (h : wD a = wD b) : a = b := map_inj (fun _ _ => pD_inj) (PyData.list.inj h)

section
variable {K : PySem.W.Frag} {σ : L2.St} {H H' : Hp} {ta tb te tl : TE} {d e x y z : PyData} {ds es : List PyData} {P : Prop} [Decidable P] {n m : Nat}
theorem rd_eqD (h : Cmp n d) (h' : Cmp m e) (i : d = e ↔ P) (hn : n ≤ 64 := by decide) (hm : m ≤ 64 := by decide) : RD (rEqD K) d e H (.bool (decide P)) := rd_val fun H1 v u ex r1 r2 =>
  ⟨.bl (decide P), rfl, fun Q q => ⟨d, e, r1.dp, r2.dp, h.shaped hn, h'.shaped hm, by rw [eqv_dec h h' i]; exact q⟩⟩
theorem rd_neD (h : Cmp n d) (h' : Cmp m e) (i : d = e ↔ P) (hn : n ≤ 64 := by decide) (hm : m ≤ 64 := by decide) : RD (rNeD K) d e H (.bool (!decide P)) := rd_val fun H1 v u ex r1 r2 =>
  ⟨.bl (!decide P), rfl, fun Q q => ⟨d, e, r1.dp, r2.dp, h.shaped hn, h'.shaped hm, by rw [eqv_dec h h' i]; exact q⟩⟩
theorem rd_eqV {a b : List (List Int)} : RD (rEqD K) (vD a) (vD b) H (.bool (decide (a = b))) := rd_eqD (cmp_vD a) (cmp_vD b) ⟨vD_inj, fun e => by rw [e]⟩
theorem rd_neV {a b : List (List Int)} : RD (rNeD K) (vD a) (vD b) H (.bool (!decide (a = b))) := rd_neD (cmp_vD a) (cmp_vD b) ⟨vD_inj, fun e => by rw [e]⟩
theorem rd_eqW {a b : List (Int × Int)} : RD (rEqD K) (wD a) (wD b) H (.bool (decide (a = b))) := rd_eqD (cmp_wD a) (cmp_wD b) ⟨wD_inj, fun e => by rw [e]⟩
theorem rd_neW {a b : List (Int × Int)} : RD (rNeD K) (wD a) (wD b) H (.bool (!decide (a = b))) := rd_neD (cmp_wD a) (cmp_wD b) ⟨wD_inj, fun e => by rw [e]⟩
theorem rd_eqIL {a b : List Int} : RD (rEqD K) (iL a) (iL b) H (.bool (decide (a = b))) := rd_eqD (cmp_iL a) (cmp_iL b) ⟨iL_inj, fun e => by rw [e]⟩
theorem rd_neIL {a b : List Int} : RD (rNeD K) (iL a) (iL b) H (.bool (!decide (a = b))) := rd_neD (cmp_iL a) (cmp_iL b) ⟨iL_inj, fun e => by rw [e]⟩
theorem rd_eqID {a b : List Int} : RD (rEqD K) (iD a) (iD b) H (.bool (decide (a = b))) := rd_eqD (cmp_iD a) (cmp_iD b) ⟨iD_inj, fun e => by rw [e]⟩
theorem rd_neID {a b : List Int} : RD (rNeD K) (iD a) (iD b) H (.bool (!decide (a = b))) := rd_neD (cmp_iD a) (cmp_iD b) ⟨iD_inj, fun e => by rw [e]⟩

/-! ### in -/
theorem inV_ints (k : Int) : ∀ ns : List Int, inV (.int k) (ns.map V.int) = decide (k ∈ ns)
  | [] => rfl
  | n :: ns => by
    have ih := inV_ints k ns
    show (eqV (.int n) (.int k) || inV (.int k) (ns.map V.int)) = _
    rw [ih, show eqV (.int n) (.int k) = (n == k) from rfl]
    by_cases h : n = k
    · subst h; simp
    · have h2 : ¬ k = n := fun z => h z.symm
      simp [h, h2]
def rInF (K : PySem.W.Frag) : R2 := rIn K false
def rNiF (K : PySem.W.Frag) : R2 := rIn K true
theorem op_inF {X : Cx} : OpR X (compareOp .In) (rInF X.K) := op_in_seq
theorem op_niF {X : Cx} : OpR X (compareOp .NotIn) (rNiF X.K) := op_notIn_seq
theorem rd_inIL {k : Int} {ns : List Int} : RD (rInF K) (.int k) (iL ns) H (.bool (decide (k ∈ ns))) := rd_val fun H1 v u ex r1 r2 => by
  obtain rfl : v = .int k := r1
  obtain ⟨a, rfl, h⟩ := r2.iL
  exact ⟨.bl (decide (k ∈ ns)), rfl, fun Q q => ⟨a, _, rfl, .inl (SqL.of h), rfl, flat_ints ns, by rw [if_neg (by decide), inV_ints]; exact q⟩⟩
theorem rd_niIL {k : Int} {ns : List Int} : RD (rNiF K) (.int k) (iL ns) H (.bool (!decide (k ∈ ns))) := rd_val fun H1 v u ex r1 r2 => by
  obtain rfl : v = .int k := r1
  obtain ⟨a, rfl, h⟩ := r2.iL
  exact ⟨.bl (!decide (k ∈ ns)), rfl, fun Q q => ⟨a, _, rfl, .inl (SqL.of h), rfl, flat_ints ns, by rw [if_pos rfl, inV_ints]; exact q⟩⟩
theorem rd_inID {k : Int} {ns : List Int} : RD (rInF K) (.int k) (iD ns) H (.bool (decide (k ∈ ns))) := rd_val fun H1 v u ex r1 r2 => by
  obtain rfl : v = .int k := r1
  obtain ⟨a, o, rfl, h, _⟩ := r2.iD
  exact ⟨.bl (decide (k ∈ ns)), rfl, fun Q q => ⟨a, _, rfl, .inr (.inl (.inr ⟨o, h⟩)), rfl, flat_ints ns, by rw [if_neg (by decide), inV_ints]; exact q⟩⟩
theorem rd_niID {k : Int} {ns : List Int} : RD (rNiF K) (.int k) (iD ns) H (.bool (!decide (k ∈ ns))) := rd_val fun H1 v u ex r1 r2 => by
  obtain rfl : v = .int k := r1
  obtain ⟨a, o, rfl, h, _⟩ := r2.iD
  exact ⟨.bl (!decide (k ∈ ns)), rfl, fun Q q => ⟨a, _, rfl, .inr (.inl (.inr ⟨o, h⟩)), rfl, flat_ints ns, by rw [if_pos rfl, inV_ints]; exact q⟩⟩
theorem any_eqv {α : Type} [DecidableEq α] {f : α → PyData} {k : Nat} (hc : ∀ a, Cmp k (f a)) (hi : ∀ a b, f a = f b → a = b) (x : α) : ∀ xs : List α, (xs.map f).any (fun z => PyData.eqv z (f x)) = decide (x ∈ xs)
  | [] => rfl
  | a :: xs => by
    rw [List.map_cons, List.any_cons, any_eqv hc hi x xs, eqv_dec (P := a = x) (hc a) (hc x) ⟨hi a x, fun e => by rw [e]⟩]
    by_cases h : a = x
    · subst h; simp
    · have h2 : ¬ x = a := fun z => h z.symm
      simp [h, h2]
/-- a pair in a web -/
theorem rd_inW {p : Int × Int} {ps : List (Int × Int)} : RD (rInD K) (pD p) (wD ps) H (.bool (decide (p ∈ ps))) := rd_val fun H1 v u ex r1 r2 =>
  ⟨.bl (decide (p ∈ ps)), rfl, fun Q q => ⟨pD p, ps.map pD, r1.dp, r2.dp, (cmp_pD p).shaped (by decide), (cmp_wD ps).shaped (by decide), by rw [show ((ps.map pD).any fun z => PyData.eqv z (pD p)) = decide (p ∈ ps) from (any_eqv cmp_pD (fun a b => pD_inj) p ps).trans (decide_eq_decide.mpr Iff.rfl)]; exact q⟩⟩

/-! ### len, items, slices -/
theorem cr_len {X : Cx} : CallR X (.builtin "len") (rLenS X.K) := call_len_seq
theorem cd_lenL : CD (rLenS K) [.list ds] H (.int ds.length) := fun H1 vs e r Q q => by
  obtain ⟨v, w, rfl, ⟨a, xs, rfl, h1, h2⟩, rfl⟩ := r
  exact ⟨a, xs, rfl, .inl (SqL.of h1), by rw [h2.len]; exact q _ H1 (Ex.refl H1) rfl⟩
theorem cd_lenT : CD (rLenS K) [.tuple ds] H (.int ds.length) := fun H1 vs e r Q q => by
  obtain ⟨v, w, rfl, ⟨a, xs, o, rfl, h1, _, h2⟩, rfl⟩ := r
  exact ⟨a, xs, rfl, .inr (.inl (.inr ⟨o, h1⟩)), by rw [h2.len]; exact q _ H1 (Ex.refl H1) rfl⟩
theorem atI_rp {vs : List V} {i : Int} (r : RpA H ds vs) (h : atI ds i = some d) : ∃ v, atI vs i = some v ∧ Rp H d v := by
  unfold atI at h ⊢
  rw [r.len]
  cases e : ixN ds.length i with
  | none => rw [e] at h; cases h
  | some j =>
    rw [e] at h
    exact r.get h
theorem atI_map {α β : Type} {f : α → β} {xs : List α} {i : Int} {x : α} (h : atI xs i = some x) : atI (xs.map f) i = some (f x) := by
  unfold atI at h ⊢
  rw [List.length_map]
  cases e : ixN xs.length i with
  | none => rw [e] at h; cases h
  | some j =>
    rw [e] at h
    show (xs.map f)[j]? = _
    have h2 : xs[j]? = some x := h
    rw [List.getElem?_map, h2]
    rfl
theorem rd_ixL {i : Int} (h : atI ds i = some d) : RD (rIxL K) (.list ds) (.int i) H d := rd_val fun H1 v u ex r1 r2 => by
  obtain rfl : u = .int i := r2
  obtain ⟨a, xs, rfl, h1, h2⟩ := r1
  obtain ⟨w, q1, q2⟩ := atI_rp h2 h
  exact ⟨w, q2, fun Q q => ⟨a, xs, i, w, rfl, rfl, SqL.of h1, q1, q⟩⟩
theorem rd_ixT {i : Int} (h : atI ds i = some d) : RD (rIxT K) (.tuple ds) (.int i) H d := rd_val fun H1 v u ex r1 r2 => by
  obtain rfl : u = .int i := r2
  obtain ⟨a, xs, o, rfl, h1, _, h2⟩ := r1
  obtain ⟨w, q1, q2⟩ := atI_rp h2 h
  exact ⟨w, q2, fun Q q => ⟨a, xs, i, w, rfl, rfl, .inl (.inr ⟨o, h1⟩), q1, q⟩⟩
/-- a part of a list -/
def cutA {α : Type} (xs : List α) (lo hi : Option Int) : List α := (xs.drop (HT.sIx xs.length 0 lo)).take (HT.sIx xs.length xs.length hi - HT.sIx xs.length 0 lo)
theorem cutA_rp {vs : List V} (r : RpA H ds vs) (lo hi : Option Int) : RpA H (cutA ds lo hi) (cutV vs lo hi) := by
  unfold cutA cutV
  rw [r.len]
  exact (r.drop _).take _
theorem cutA_map {α β : Type} (f : α → β) (xs : List α) (lo hi : Option Int) : cutA (xs.map f) lo hi = (cutA xs lo hi).map f := by
  unfold cutA
  rw [List.length_map, List.map_take, List.map_drop]
theorem cutA_to {α : Type} (xs : List α) (k : Nat) : cutA xs none (some (k : Int)) = xs.take k := by
  unfold cutA
  rw [HT.sIx_none, HT.sIx_nat, List.drop_zero, Nat.sub_zero]
  by_cases h : k ≤ xs.length
  · rw [Nat.min_eq_left h]
  · rw [Nat.min_eq_right (by omega), List.take_length, List.take_of_length_le (by omega)]
theorem cutA_from {α : Type} (xs : List α) (k : Nat) : cutA xs (some (k : Int)) none = xs.drop k := by
  unfold cutA
  rw [HT.sIx_none, HT.sIx_nat]
  by_cases h : k ≤ xs.length
  · rw [Nat.min_eq_left h, List.take_of_length_le (by rw [List.length_drop]; omega)]
  · rw [Nat.min_eq_right (by omega), List.drop_of_length_le (Nat.le_refl _), List.drop_of_length_le (by omega), List.take_nil]
def EvP (to : TO) (σ : L2.St) (H : Hp) (o : Option Int) : Prop := ∀ H1, Ex H H1 → ∀ Q : Option Int → Hp → Prop, (∀ H2, Ex H1 H2 → Q o H2) → to σ H1 Q
theorem evp_none : EvP tNoPart σ H none := fun H1 _ _ q => q H1 (Ex.refl H1)
theorem evp_some {i : Int} (h : EvD te σ H (.int i)) : EvP (tPart te) σ H (some i) := fun H1 e _ q => h H1 e _ fun v H2 e2 r => ⟨i, r, q H2 e2⟩
theorem evn_slL {tl th : TO} {lo hi : Option Int} (h : EvD te σ H (.list ds)) (h1 : EvP tl σ H lo) (h2 : EvP th σ H hi) : EvN (tSl (rSlL K) te tl th) σ H (cutA ds lo hi) := fun H0 e Q q =>
  h H0 e _ fun v H2 e2 r => h1 H2 (e.trans e2) _ fun H3 e3 => h2 H3 ((e.trans e2).trans e3) _ fun H4 e4 => by
    obtain ⟨a, xs, rfl, k1, k2⟩ := r
    have e24 := e3.trans e4
    exact ⟨a, xs, rfl, SqL.of (e24 _ _ k1), fun p hp => q p _ _ (fresh_back (e2.trans e24) hp) ((e2.trans e24).trans (Ex.new hp)) upd_same ((cutA_rp (k2.ex e24) lo hi).ex (Ex.new hp))⟩
/-! ### + and * of lists, + of tuples -/
theorem evn_cat (ha : EvD ta σ H (.list ds)) (hb : EvD tb σ H (.list es)) (hz : ds.length + es.length ≤ 100000) : EvN (tOp rCat ta tb) σ H (ds ++ es) := fun H0 e Q q =>
  ha H0 e _ fun v H2 e2 r2 => hb H2 (e.trans e2) _ fun u H3 e3 r3 => by
    obtain ⟨a, xs, rfl, k1, k2⟩ := r2.ex e3
    obtain ⟨b, ys, rfl, k3, k4⟩ := r3
    exact ⟨a, b, xs, ys, rfl, rfl, k1, k3, sz_of (by rw [k2.len, k4.len]; exact hz), fun p hp => q p _ _ (fresh_back (e2.trans e3) hp) ((e2.trans e3).trans (Ex.new hp)) upd_same ((k2.app k4).ex (Ex.new hp))⟩
theorem evn_rep {k : Int} (ha : EvD ta σ H (.list ds)) (hb : EvD tb σ H (.int k)) (hk : 0 ≤ k ∧ k ≤ 1000) (hz : ds.length ≤ 1000) : EvN (tOp rRep ta tb) σ H (List.replicate k.toNat ds).flatten := fun H0 e Q q =>
  ha H0 e _ fun v H2 e2 r2 => hb H2 (e.trans e2) _ fun u H3 e3 r3 => by
    obtain rfl : u = .int k := r3
    obtain ⟨a, xs, rfl, k1, k2⟩ := r2.ex e3
    have hm : xs.length * k.toNat ≤ 1000 * 1000 := Nat.mul_le_mul (by rw [k2.len]; exact hz) (by omega)
    refine ⟨a, k, xs, rfl, rfl, k1, by omega, by omega, Nat.le_trans hm (by decide), fun p hp => ?_⟩
    exact q p _ _ (fresh_back (e2.trans e3) hp) ((e2.trans e3).trans (Ex.new hp)) upd_same ((k2.rep k.toNat).ex (Ex.new hp))
theorem evd_catT (ha : EvD ta σ H (.tuple ds)) (hb : EvD tb σ H (.tuple es)) (hz : ds.length + es.length ≤ 100000) : EvD (tOp (rCatF K) ta tb) σ H (.tuple (ds ++ es)) := fun H0 e Q q =>
  ha H0 e _ fun v H2 e2 r2 => hb H2 (e.trans e2) _ fun u H3 e3 r3 => by
    obtain ⟨a, xs, rfl, k1, k2⟩ := (r2.ex e3).seqT (K := K)
    obtain ⟨b, ys, rfl, k3, k4⟩ := r3.seqT (K := K)
    refine ⟨a, b, xs, ys, rfl, rfl, k1, k3, sz_of (by rw [k2.len, k4.len]; exact hz), fun z => ?_, fun z => ?_, fun p o hp ho => ?_⟩
    · have hd : ds = [] := List.eq_nil_of_length_eq_zero (by rw [← k2.len, z]; rfl)
      refine q _ H3 (e2.trans e3) ?_
      rw [hd]
      exact r3
    · have hd : es = [] := List.eq_nil_of_length_eq_zero (by rw [← k4.len, z]; rfl)
      refine q _ H3 (e2.trans e3) ?_
      rw [hd, List.append_nil]
      exact r2.ex e3
    · exact q _ _ ((e2.trans e3).trans (Ex.new hp)) ⟨p, _, o, rfl, upd_same, ho, (k2.app k4).ex (Ex.new hp)⟩
/-! ### list(..), tuple(..) -/
theorem cr_list {X : Cx} : CallR X (.type "list") (rListS X.K) := call_list_of
theorem cn_listL : CN (rListS K) [.list ds] H ds := fun H1 vs e r Q q => by
  obtain ⟨v, w, rfl, ⟨a, xs, rfl, h1, h2⟩, rfl⟩ := r
  exact ⟨a, xs, rfl, .inl (SqL.of h1), fun l hl => q l xs _ hl (Ex.new hl) upd_same (h2.ex (Ex.new hl))⟩
theorem cn_listT : CN (rListS K) [.tuple ds] H ds := fun H1 vs e r Q q => by
  obtain ⟨v, w, rfl, ⟨a, xs, o, rfl, h1, _, h2⟩, rfl⟩ := r
  exact ⟨a, xs, rfl, .inr (.inl (.inr ⟨o, h1⟩)), fun l hl => q l xs _ hl (Ex.new hl) upd_same (h2.ex (Ex.new hl))⟩
theorem cd_tupL : CD (rTupL K) [.list ds] H (.tuple ds) := fun H1 vs e r Q q => by
  obtain ⟨v, w, rfl, ⟨a, xs, rfl, h1, h2⟩, rfl⟩ := r
  exact ⟨a, xs, rfl, SqL.of h1, fun l o hl ho => q _ _ (Ex.new hl) ⟨l, xs, o, rfl, upd_same, ho, h2.ex (Ex.new hl)⟩⟩
theorem evn_rng {te2 : TE} {n : Int} (h : EvD te2 σ H (.int n)) (hz : 0 ≤ n ∧ n ≤ 100000) : EvN (tLstRg (tRg1 te2)) σ H ((rgI 0 n.toNat).map PyData.int) := fun H0 e Q q =>
  h H0 e _ fun v H2 e2 r => ⟨n, r, RgOk.of_le (by omega) (by omega) (by omega) (by omega), fun p hp => by
    have ev : rgV 0 n = (rgI 0 n.toNat).map V.int := by
      unfold rgV rgI
      rw [List.map_map, Int.sub_zero]
      rfl
    exact q p _ _ (fresh_back e2 hp) (e2.trans (Ex.new hp)) upd_same (by rw [ev]; exact rpa_ints _)⟩
/-! ### int(a bool), str(an int) -/
def rIntB : List V → Hp → VK → Prop := fun xs H Q => ∃ k, xs = [.bl k] ∧ Q (.int (if k then 1 else 0)) H
theorem cr_intB {X : Cx} : CallR X (.type "int") rIntB := fun pins s σ H xs us Q I r h => call_int1 pins s σ H xs us Q I r (.inr h)
theorem cd_intB {b : Bool} : CD rIntB [.bool b] H (.int (if b then 1 else 0)) := fun H1 vs e r Q q => by
  obtain ⟨v, w, rfl, rfl, rfl⟩ := r
  exact ⟨b, rfl, q _ H1 (Ex.refl H1) rfl⟩
/-! ### t.index(x) -/
/-- the first place of x -/
def ixOf (x : Int) : List Int → Nat
  | [] => 0
  | y :: ys => if y = x then 0 else ixOf x ys + 1
theorem ixOf_get {x : Int} : ∀ {ns : List Int}, x ∈ ns → ns[ixOf x ns]? = some x
  | [], h => by simp at h
  | y :: ys, h => by
    unfold ixOf
    by_cases e : y = x
    · rw [if_pos e, e]; rfl
    · rw [if_neg e]
      exact ixOf_get ((List.mem_cons.mp h).resolve_left fun z => e z.symm)
theorem ixOf_min {x : Int} : ∀ {ns : List Int} {m : Nat}, m < ixOf x ns → ns[m]? ≠ some x
  | [], m, h => by simp [ixOf] at h
  | y :: ys, m, h => by
    unfold ixOf at h
    by_cases e : y = x
    · rw [if_pos e] at h; omega
    · rw [if_neg e] at h
      cases m with
      | zero => exact fun z => e (Option.some.inj z)
      | succ m => exact ixOf_min (ns := ys) (m := m) (by omega)
theorem evd_tix {ns : List Int} {k : Int} (ho : EvD te σ H (iD ns)) (hk : EvD tl σ H (.int k)) (m : k ∈ ns) : EvD (tTM (rIxI K) te (tCons tl tNil)) σ H (.int (ixOf k ns)) := fun H0 e Q q =>
  ho H0 e _ fun v H2 e2 r => by
    obtain ⟨a, o, rfl, h1, hd⟩ := r.iD
    exact ⟨⟨a, o, _, rfl, h1, hd⟩, hk H2 (e.trans e2) _ fun u H3 e3 r3 => by
      obtain rfl : u = .int k := r3
      exact ⟨a, ns, k, ixOf k ns, rfl, rfl, .inl (.inr ⟨o, e3 _ _ h1⟩), ixOf_get m, fun m2 hm => ixOf_min hm, q _ H3 (e2.trans e3) rfl⟩⟩
/-! ### isinstance of built-in types -/
def tyN : PyData → String
  | .none => "NoneType"
  | .bool _ => "bool"
  | .int _ => "int"
  | .str _ => "str"
  | .list _ => "list"
  | .tuple _ => "tuple"
  | .dict _ => "dict"
theorem Rp.ty {v : V} : ∀ {d : PyData}, Rp H d v → TyX K H v (.type (tyN d))
  | .none, h => by cases h; exact .base .non
  | .bool _, h => by cases h; exact .base (.bl _)
  | .int _, h => by cases h; exact .base (.int _)
  | .str _, h => by cases h; exact .base (.str _)
  | .list _, h => by obtain ⟨a, xs, rfl, h1, _⟩ := h; exact .base (.lst h1)
  | .tuple _, h => by obtain ⟨a, xs, o, rfl, h1, _⟩ := h; exact .fTuple h1
  | .dict _, h => h.elim
theorem evd_isi {T : String} {b : Bool} (h : EvD te σ H d) (hb : kitB (tyN d) T = some b) : EvD (tCB (rIsi K) (tCons te (tCons (tC (.ty T)) tNil))) σ H (.bool b) := fun H0 e Q q =>
  h H0 e _ fun v H2 e2 r => ⟨v, .ty T, .type (tyN d), .type T, b, rfl, .ty T, r.ty, kit_ty hb, q _ H2 e2 rfl⟩
end
end Bm

/-! A def's promise by data; what stands behind the top. -/
namespace Bm
open PySem PySem.Spec PyProof.Rows L2 Evl

/-- a def's answer: data, a new list, an error of the class at C -/
inductive Out where
  | val (d : PyData)
  | new (ds : List PyData)
  | exc (C : Addr)
  | pair (s : Str) (ds : List PyData)
  | duo (i : Int) (ds : List PyData)
  | some (P : List PyData → Prop)
def Gives (H : Hp) (Q : VK) (E : XK) : Out → Prop
  | .val d => ∀ v H', Ex H H' → Rp H' d v → Q v H'
  | .new ds => ∀ p ws H', H p = none → Ex H H' → H' p = some (.lst ws) → RpA H' ds ws → Q (.ref p) H'
  | .exc C => ∀ H', Ex H H' → E (.ref C) none H'
  | .pair s ds => ∀ p ws a o H', H p = none → Ex H H' → H' p = some (.lst ws) → RpA H' ds ws → H' a = some (.frz o (.tup [.str s, .ref p])) → o.dict = none → Q (.ref a) H'
  | .duo i ds => ∀ p ws a o H', H p = none → Ex H H' → H' p = some (.lst ws) → RpA H' ds ws → H' a = some (.frz o (.tup [.int i, .ref p])) → o.dict = none → Q (.ref a) H'
  | .some P => ∀ ds, P ds → ∀ p ws H', H p = none → Ex H H' → H' p = some (.lst ws) → RpA H' ds ws → Q (.ref p) H'
def spO {α : Type} (enc : α → List PyData) (pre : α → Prop) (out : α → Out) : Sp := fun vs H Q E => ∃ a : α, RpA H (enc a) vs ∧ pre a ∧ Gives H Q E (out a)
theorem spO_len {α : Type} {enc : α → List PyData} {pre : α → Prop} {out : α → Out} {n : Nat} (hn : ∀ a, (enc a).length = n) (vs : List V) (H : Hp) (Q : VK) (E : XK) (h : spO enc pre out vs H Q E) : vs.length = n := by
  obtain ⟨a, r, _⟩ := h
  rw [r.len, hn]
section
variable {K : PySem.W.Frag} {σ : L2.St} {H H' : Hp} {tr : TA} {d : PyData} {ds : List PyData} {E : XK} {α : Type} {enc : α → List PyData} {pre : α → Prop} {out : α → Out}
theorem evd_callO (a : α) (h : EvS tr σ H (enc a)) (hp : pre a) (ho : out a = .val d) : EvD (tCall (spO enc pre out) [] E tr) σ H d :=
  evd_call h fun H1 vs Q e r k => ⟨a, r, hp, by rw [ho]; exact k⟩
theorem evn_callO (a : α) (h : EvS tr σ H (enc a)) (hp : pre a) (ho : out a = .new ds) : EvN (tCall (spO enc pre out) [] E tr) σ H ds :=
  evn_call h fun H1 vs Q e r k => ⟨a, r, hp, by rw [ho]; exact k⟩
/-- a call that may raise, as a statement -/
theorem s_callX {D : Ends} {Es : L2.St → XK} (a : α) (h : EvS tr σ H (enc a)) (hp : pre a)
    (k : ∀ H1, Ex H H1 → Gives H1 (fun _ H2 => D.nx σ H2) (Es σ) (out a)) : tDrop (tCallS (spO enc pre out) Es tr) D σ H := h H (Ex.refl H) _ fun vs H1 e r => ⟨a, r, hp, k H1 e⟩
end
/-- a def of the text behind the top -/
structure Df (K : PySem.W.Frag) (mg : Str → Option Value) (x : Str) (st : Stmt) (ps : List Str) (f : Addr) (fd : FuncData) : Prop where
  F : Fun K x x st f fd
  b : Binds K fd ps []
  g : mg x = some (.ref f)
/-- an error class of the text behind the top -/
structure Xc (K : PySem.W.Frag) (mg : Str → Option Value) (x : Str) (C : Addr) : Prop where
  g : mg x = some (.ref C)
  x : PySem.W.excIn K C [.type "ValueError", .type "Exception", .type "BaseException", .type "object"] "ValueError.__new__" = true
  k : PySem.W.keepIn K (.ref C) = true
  b : PySem.W.subIn K (.ref C) (.type "BaseException") = some true
  t : PySem.W.typeIn K (.ref C) = some (.type "type")
/-- the built-ins' names are the built-ins' still -/
structure Bi (mg : Str → Option Value) : Prop where
  len : mg "len" = none
  range : mg "range" = none
  list : mg "list" = none
  tuple : mg "tuple" = none
  sorted : mg "sorted" = none
  int : mg "int" = none
  bool : mg "bool" = none
  str : mg "str" = none
  isinstance : mg "isinstance" = none
  reversed : mg "reversed" = none
  set : mg "set" = none
  all : mg "all" = none
  max : mg "max" = none
  min : mg "min" = none
  ValueError : mg "ValueError" = none
theorem rp_int {H : Hp} {i : Int} : Rp H (.int i) (.int i) := rfl
theorem rp_bl {H : Hp} {i : Bool} : Rp H (.bool i) (.bl i) := rfl
theorem rp_str {H : Hp} {i : Str} : Rp H (.str i) (.str i) := rfl
theorem rp_non {H : Hp} : Rp H .none .non := rfl
section
variable {K : PySem.W.Frag} {σ : L2.St} {H : Hp} {ta : TE}
def rNegI : V → Hp → VK → Prop := rU fun i => .int (-i)
theorem un_negI {X : Cx} : UnR X (unaryOp .USub) rNegI := un_neg
theorem evd_neg {i : Int} (h : EvD ta σ H (.int i)) : EvD (tUn rNegI ta) σ H (.int (-i)) := fun H1 e Q q => h H1 e _ fun v H2 e2 r => ⟨i, r, q _ H2 e2 rfl⟩
end
end Bm

/-! sorted of a tuple of ints, of a list of ints. -/
namespace Bm
open PySem PySem.Spec PyProof.Rows L2 Evl
/-- the same ints, rising -/
def insI (x : Int) : List Int → List Int
  | [] => [x]
  | y :: ys => if x ≤ y then x :: y :: ys else y :: insI x ys
def srt : List Int → List Int
  | [] => []
  | x :: xs => insI x (srt xs)
theorem insI_perm (x : Int) : ∀ ys : List Int, (insI x ys).Perm (x :: ys)
  | [] => .refl _
  | y :: ys => by
    unfold insI
    by_cases h : x ≤ y
    · rw [if_pos h]
    · rw [if_neg h]
      exact ((insI_perm x ys).cons y).trans (.swap x y ys)
theorem srt_perm : ∀ xs : List Int, (srt xs).Perm xs
  | [] => .refl _
  | x :: xs => (insI_perm x (srt xs)).trans ((srt_perm xs).cons x)
theorem insI_pw {x : Int} : ∀ {ys : List Int}, ys.Pairwise (· ≤ ·) → (insI x ys).Pairwise (· ≤ ·)
  | [], _ => by simp [insI]
  | y :: ys, h => by
    unfold insI
    obtain ⟨h1, h2⟩ := List.pairwise_cons.mp h
    by_cases e : x ≤ y
    · rw [if_pos e]
      refine List.pairwise_cons.mpr ⟨fun z m => ?_, h⟩
      rcases List.mem_cons.mp m with rfl | m
      · exact e
      · exact Int.le_trans e (h1 z m)
    · rw [if_neg e]
      refine List.pairwise_cons.mpr ⟨fun z m => ?_, insI_pw h2⟩
      rcases List.mem_cons.mp ((insI_perm x ys).mem_iff.mp m) with rfl | m
      · omega
      · exact h1 z m
theorem srt_pw : ∀ xs : List Int, (srt xs).Pairwise (· ≤ ·)
  | [] => .nil
  | _ :: xs => insI_pw (srt_pw xs)
theorem srt_of {a b : List Int} (h : a.Perm b) (p : a.Pairwise (· ≤ ·)) : a = srt b := PySem.W.ksm_same (h.trans (srt_perm b).symm) p (srt_pw b)
theorem srt_rgI (n : Nat) {lo : Int} {a : List Int} (h : a.Perm (rgI lo n)) : srt a = rgI lo n := by
  refine PySem.W.ksm_same ((srt_perm a).trans h) (srt_pw a) ?_
  unfold rgI
  rw [List.pairwise_map]
  exact List.pairwise_lt_range.imp fun {i j} l => by omega
theorem srt_iff {n : Nat} {lo : Int} {a : List Int} : srt a = rgI lo n ↔ a.Perm (rgI lo n) := ⟨fun h => by rw [← h]; exact (srt_perm a).symm, srt_rgI n⟩

section
variable {prog : Program} {w : World} {A : Around} {E : Value → Shared → Prop} {s : Shared}
theorem sortedTup {t : Addr} {vs : List Value} {ns : List Int} {Q : Value → Shared → Prop} (ht : IsTup s.heap t vs.toArray) (hz : vs.length ≤ sizeLine) (hi : IntsAre vs ns)
    (q : ∀ (h1 h2 : Heap) (out : List Value) (k : Nat), (∀ b o, s.heap.get? b = some o → h1.get? b = some o) → (∀ b o, h1.get? b = some o → h2.get? b = some o) → h2.get? h1.objs.size = some { cls := .type "list", data := .seq out.toArray k } → IntsAre out (srt ns) → Q (.ref h1.objs.size) { s with heap := h2 }) :
    wpAny (model prog w) A (call (.builtin "sorted") [.ref t]) Q E s := by
  obtain ⟨o, ho, hc, k, hd⟩ := ht
  refine Calls.call_function_entry kind_sorted plain_sorted entry_sorted (args_sorted1 _) ?_
  unfold Builtin.«sorted»
  refine wpAny_bind (m := checkCount "sorted" 1 1 _) (wpAny_pure ?_)
  refine wpAny_bind (wpAny_collect_seq t (.inr rfl) ho hc hd (fun h1 kp => ?_) (by rw [List.size_toArray]; exact hz))
  refine wpAny_bind (wpAny_newList ?_ hz)
  have at_ : (h1.push (seqObj "list" vs.toArray 0)).get? h1.objs.size = some (seqObj "list" vs.toArray 0) := Heap.get?_push_size _ rfl
  have kp2 : ∀ b u, h1.get? b = some u → (h1.push (seqObj "list" vs.toArray 0)).get? b = some u := fun b u e => Heap.get?_push_of_some _ e
  refine wpAny_bind (wpAny_holding (wpAny_call_entry slot_list_sort ⟨_, at_, rfl⟩ entry_list_sort (SrtO.list_sort_ord SrtO.swo_int at_ hz (fun h2 => SrtO.ints_sortable hi h2) fun out e1 e2 => ⟨_, rfl, ?_⟩) (args_list_sort _)))
  obtain ⟨i1, i2, i3⟩ := SrtO.ints_out hi e1 e2
  obtain ⟨ep, he⟩ := sortedHeap_at (vs := vs) (out := out.toArray) at_
  refine wpAny_pure ⟨_, rfl, q h1 _ out ep kp (fun b u e => ?_) he ?_⟩
  · have lt := Heap.lt_size e
    rw [sortedHeap_old (Nat.ne_of_lt lt) (Heap.lt_size (kp2 b u e))]
    exact kp2 b u e
  · rw [← srt_of i2 i3]
    exact i1
end
/-- sorted(a tuple of ints): a new list -/
def rSortTI (K : PySem.W.Frag) : List V → Hp → VK → Prop := fun vs H Q => ∃ (a : Addr) (ns : List Int), vs = [V.ref a] ∧ SqT K H a (ns.map V.int) ∧ ∀ p, H p = none → Q (.ref p) (upd H p (.lst ((srt ns).map V.int)))
section
variable {X : Cx} {K : PySem.W.Frag} {H : Hp}
theorem cr_sortedTI : CallR X (.builtin "sorted") (rSortTI X.K) := by
  intro pins s σ H vs us Q I r h
  obtain ⟨a, ns, rfl, hs, q⟩ := h
  obtain ⟨its, rv, pl, z⟩ := I.tuple hs
  rw [Vals.ref1 r]
  refine sortedTup pl (by rw [← rv.length]; exact z) rv.ints fun h1 h2 out k k1 k2 e i => ?_
  have J : Inv X pins σ H { s with heap := h1 } := I.kept (t' := s.toks) k1
  have zl : ((srt ns).map V.int).length ≤ sizeLine := by
    rw [List.length_map, (srt_perm ns).length_eq]
    rwa [List.length_map] at z
  exact ⟨.ref h1.objs.size, _, J.laid (t' := s.toks) k2 (Nat.le_refl _) (show ObjOk X.prog X.w _ _ _ (.lst ((srt ns).map V.int)) from ⟨zl, out, k, vals_of_ints i, e⟩), rfl, q _ (J.hok.fresh (Nat.le_refl _))⟩
theorem cn_sortTI {ns : List Int} : CN (rSortTI K) [iD ns] H ((srt ns).map PyData.int) := fun H1 vs e r Q q => by
  obtain ⟨v, t, rfl, hv, rfl⟩ := r
  obtain ⟨a, o, rfl, h1, _⟩ := hv.iD
  exact ⟨a, ns, rfl, .inl (.inr ⟨o, h1⟩), fun p hp => q p _ _ hp (Ex.new hp) upd_same (rpa_ints _)⟩
end
end Bm

/-! The script handed on; pop. -/
namespace Bm
open PySem PySem.Spec PyProof.Rows L2 Evl
/-- a def that gets the script first -/
def spS {α : Type} (K : PySem.W.Frag) (enc : α → List PyData) (pre : List Int → α → Prop) (out : List Int → α → Out) : Sp := fun vs H Q E => ∃ (ns : List Int) (a : α) (sa : Addr) (r : List V), vs = .ref sa :: r ∧ SqL K H sa (ns.map V.int) ∧ RpA H (enc a) r ∧ pre ns a ∧ Gives H Q E (out ns a)
section
variable {K : PySem.W.Frag} {σ : L2.St} {H H' : Hp} {ta tb te : TE} {tr : TA} {d : PyData} {ds : List PyData} {E : XK} {α : Type} {enc : α → List PyData} {pre : List Int → α → Prop} {out : List Int → α → Out} {ns : List Int} {sa : Addr} {i : Nat}
theorem evd_callS (a : α) (hs : SqL K H sa (ns.map V.int)) (hi : σ[i]? = some (some (.ref sa))) (h : EvS tr σ H (enc a)) (hp : pre ns a) (ho : out ns a = .val d) : EvD (tCall (spS K enc pre out) [] E (tCons (tVar i) tr)) σ H d := fun H1 e Q q =>
  ⟨.ref sa, hi, h H1 e _ fun vs H2 e2 r2 => by
    show spS K enc pre out (.ref sa :: vs ++ []) H2 Q E
    rw [List.append_nil]
    exact ⟨ns, a, sa, vs, rfl, ex_l (e.trans e2) hs, r2, hp, by rw [ho]; exact fun v H3 e3 r3 => q v H3 (e2.trans e3) r3⟩⟩
theorem evn_callS (a : α) (hs : SqL K H sa (ns.map V.int)) (hi : σ[i]? = some (some (.ref sa))) (h : EvS tr σ H (enc a)) (hp : pre ns a) (ho : out ns a = .new ds) : EvN (tCall (spS K enc pre out) [] E (tCons (tVar i) tr)) σ H ds := fun H1 e Q q =>
  ⟨.ref sa, hi, h H1 e _ fun vs H2 e2 r2 => by
    show spS K enc pre out (.ref sa :: vs ++ []) H2 Q E
    rw [List.append_nil]
    exact ⟨ns, a, sa, vs, rfl, ex_l (e.trans e2) hs, r2, hp, by rw [ho]; exact fun p ws H3 hp2 e3 h3 r3 => q p ws H3 (fresh_back e2 hp2) (e2.trans e3) h3 r3⟩⟩
theorem spS_len {n : Nat} (hn : ∀ a, (enc a).length = n) (vs : List V) (H : Hp) (Q : VK) (E : XK) (h : spS K enc pre out vs H Q E) : vs.length = n + 1 := by
  obtain ⟨ns, a, sa, r, rfl, _, h, _⟩ := h
  rw [List.length_cons, h.len, hn]
theorem evd_lenS (hs : SqL K H sa (ns.map V.int)) (hi : σ[i]? = some (some (.ref sa))) : EvD (tCB (rLenS K) (tCons (tVar i) tNil)) σ H (.int ns.length) := fun H1 e Q q =>
  ⟨.ref sa, hi, sa, _, rfl, .inl (ex_l e hs), by rw [List.length_map]; exact q _ H1 (Ex.refl H1) rfl⟩
theorem evd_ixS {k : Int} {z : Int} (hs : SqL K H sa (ns.map V.int)) (hi : σ[i]? = some (some (.ref sa))) (hk : EvD tb σ H (.int k)) (hz : atI ns k = some z) : EvD (tOp (rIxL K) (tVar i) tb) σ H (.int z) := fun H1 e Q q =>
  ⟨.ref sa, hi, hk H1 e _ fun v H2 e2 r => ⟨sa, _, k, .int z, rfl, r, ex_l (e.trans e2) hs, atI_map hz, q _ H2 e2 rfl⟩⟩
end
section
variable {K : PySem.W.Frag} {σ : L2.St} {H H0 : Hp} {D : Ends} {l : Addr} {ds : List PyData} {i : Nat}
/-- over a list that stood at Hb, whatever is made since -/
theorem s_forB {g : TG} {tu : TS} {α : Type} {f : α → PyData} {xs : List α} {v : V} {Hb : Hp} (hi : σ[i]? = some (some v)) (hb : Rp Hb (.list (xs.map f)) v) (eb : Ex Hb H) (Pv : Nat → L2.St → Hp → Prop) (p0 : Pv 0 σ H) (pe : ∀ i σ' H', Pv i σ' H' → Ex Hb H')
    (turn : ∀ i x v σ' H', xs[i]? = some x → Rp H' (f x) v → Pv i σ' H' → g v σ' H' fun σ2 H2 => tu { D with nx := Pv (i + 1), ct := Pv (i + 1), bk := D.nx } σ2 H2) (done : ∀ σ' H', Pv xs.length σ' H' → D.nx σ' H') :
    tFor (iList K (tVar i)) g tu D σ H := by
  obtain ⟨a, vs, rfl, h1, h2⟩ := hb
  have hl : vs.length = xs.length := by rw [h2.len, List.length_map]
  refine ⟨.ref a, hi, a, rfl, ⟨vs, SqL.of (eb _ _ h1)⟩, for_list (xs := vs) Pv p0 (fun i σ' H' _ p => SqL.of (pe i σ' H' p a _ h1)) (fun i v2 σ' H' hi p => ?_) (fun σ' H' p => done σ' H' (hl ▸ p))⟩
  obtain ⟨d2, q1, q2⟩ := h2.getv hi
  obtain ⟨x, q3, rfl⟩ := map_get q1
  exact turn i x v2 σ' H' q3 (q2.ex (pe i σ' H' p)) p
/-- xs.clear(), xs a list of ours -/
theorem s_clearO (o : Own H0 H l ds) (hi : σ[i]? = some (some (.ref l))) (k : ∀ H2, ExB l H H2 → Own H0 H2 l [] → D.nx σ H2) : tDrop (tBM0 K "list" rClear (tVar i)) D σ H := by
  obtain ⟨vs, h1, h2⟩ := o.has
  refine ⟨.ref l, hi, .inl ⟨rfl, vs, SqL.of h1⟩, l, vs, rfl, rfl, h1, k _ ExB.upd ⟨o.new, Ex.mut o.ex o.new, ⟨[], upd_same, RpA.nil⟩, rfl⟩⟩
end
/-- the cell at k, or nought -/
def cellF (ns : List Int) (k : Int) : Int := ns.getD k.toNat 0
end Bm

/-! The rules by the written part's name. -/
namespace Bm
open PySem PySem.Spec PyProof.Rows L2 Evl
section
variable {X : Cx} {K : PySem.W.Frag}
theorem cr_lenK (h : X.K = K := by rfl) : CallR X (.builtin "len") (rLenS K) := h ▸ cr_len
theorem cr_listK (h : X.K = K := by rfl) : CallR X (.type "list") (rListS K) := h ▸ cr_list
theorem cr_tupLK (h : X.K = K := by rfl) : CallR X (.type "tuple") (rTupL K) := h ▸ cr_tupL
theorem cr_sortedTIK (h : X.K = K := by rfl) : CallR X (.builtin "sorted") (rSortTI K) := h ▸ cr_sortedTI
theorem call_isiK2 (h : X.K = K := by rfl) : CallR X (.builtin "isinstance") (rIsi K) := h ▸ call_isi
theorem cr_allK (hc : X.calm = true) (h : X.K = K := by rfl) : CallR X (.builtin "all") (rAll K) := h ▸ cr_all hc
theorem ix_listK (h : X.K = K := by rfl) : IxR X (rIxL K) := h ▸ ix_list
theorem ix_tupK (h : X.K = K := by rfl) : IxR X (rIxT K) := h ▸ ix_tup
theorem sl_listK (h : X.K = K := by rfl) : SlR X (rSlL K) := h ▸ sl_list
theorem op_inFK (h : X.K = K := by rfl) : OpR X (compareOp .In) (rInF K) := h ▸ op_inF
theorem op_niFK (h : X.K = K := by rfl) : OpR X (compareOp .NotIn) (rNiF K) := h ▸ op_niF
theorem op_catFK (h : X.K = K := by rfl) : OpR X (binaryOp .Add) (rCatF K) := h ▸ op_catF
theorem op_eqDK (hu : X.A.units + 64 < cLine) (h : X.K = K := by rfl) : OpR X (compareOp .Eq) (rEqD K) := h ▸ op_eqD hu
theorem op_neDK (hu : X.A.units + 64 < cLine) (h : X.K = K := by rfl) : OpR X (compareOp .NotEq) (rNeD K) := h ▸ op_neD hu
theorem op_inDK (hu : X.A.units + 65 < cLine) (h : X.K = K := by rfl) : OpR X (compareOp .In) (rInD K) := h ▸ op_inD hu
theorem op_niDK (hu : X.A.units + 65 < cLine) (h : X.K = K := by rfl) : OpR X (compareOp .NotIn) (rNotInD K) := h ▸ op_notInD hu
theorem mt_tupIxK (h : X.K = K := by rfl) : MtR X "tuple.index" (rIxI K) := h ▸ mt_tupIx
theorem pi_listK {tg l : Expr} {tl : TE} (hl : PE X l tl) (h : X.K = K := by rfl) : PI X tg l (iList K tl) := h ▸ pi_list hl
theorem pi_tupK {tg l : Expr} {tl : TE} (hl : PE X l tl) (h : X.K = K := by rfl) : PI X tg l (iTup K tl) := h ▸ pi_tup hl
theorem pg_tupK {es : List Expr} {k : Nat} {t : TGs} {n : Nat} {pos : Pos} (hc : X.calm = true) (h : PGs X es t) (hn : (assignEach es X.env).length = n := by rfl) (hst : (assignEach es X.env).findIdx? (·.1) = none := by rfl) (hk : X.K = K := by rfl) :
    PG X (.Tuple es k pos) (gTup K n t) := hk ▸ pg_tup hc h hn hst
end
theorem hu65 {k : Nat} {A : Around} (hr : Room k A) : A.units + 65 < cLine := by have := hr.un; omega
end Bm

/-! What is walked is gathered into a list: once for every kind of thing that is walked. -/
namespace Bm
open PySem PySem.Spec PyProof.Rows L2 Evl
/-- an empty list at the heap's end -/
abbrev bare0 : Obj := { cls := .type "list", data := .seq ([] : List Value).toArray }
abbrev pushL (h : Heap) : Heap := h.push bare0
theorem pushL_at (h : Heap) : (pushL h).get? h.objs.size = some bare0 := Heap.get?_push_size _ rfl
theorem pushL_old {h : Heap} {b : Addr} {u : Obj} (e : h.get? b = some u) : (pushL h).get? b = some u := Heap.get?_push_of_some _ e
/-- from h₂ on the iterator I gives n items, of which R is told; the place S has no part in it -/
def Gives1 (P : Program) (w : World) (A : Around) (h₂ : Heap) (S I : Addr) (R : Array Value → Prop) : Prop :=
  ∃ fp n Pv St, Walks P w A I fp [I] n Pv St ∧ n ≤ sizeLine ∧ S ∉ fp ∧ St 0 h₂ ∧ ∀ acc, ItemsOf Pv acc n → R acc
section
variable {P : Program} {w : World} {A : Around} {E : Value → Shared → Prop} {s : Shared}
/-- the gathering loop, the list at S still empty -/
theorem gather_loop {I S : Addr} {h₂ : Heap} {tk c : Nat} {R : Array Value → Prop} {Z : Result → Shared → Prop} (g : Gives1 P w A.in1 h₂ S I R) (e : h₂.get? S = some { cls := .type "list", dict := none, data := .seq #[] c, slots := #[] })
    (z : ∀ (h3 : Heap) tk3 acc c3, R acc → h3.get? S = some { cls := .type "list", dict := none, data := .seq acc c3, slots := #[] } → (∀ b u, b ≠ S → b ≠ I → h₂.get? b = some u → h3.get? b = some u) → Z (.ok (.ret (.ref S))) { s with heap := h3, toks := tk3 }) :
    codeAny (model P w) A (.builtin "list.extend.loop" ⟨[.ref S, .ref I, .ref S], []⟩) Z { s with heap := h₂, toks := tk } := by
  obtain ⟨fp, n, Pv, St, W, nz, away, st, told⟩ := g
  refine codeAny_extend_loopS W.toS nz S away (.ref S) n 0 _ #[] c rfl (Nat.zero_le _) st e (ItemsOf.nil Pv) fun s3 acc c3 mv e3 it => ?_
  have kp : ∀ b u, b ≠ S → b ≠ I → h₂.get? b = some u → s3.heap.get? b = some u := fun b u nS nI q => mv.heap b u (by simp [nS, nI]) q
  have es := mv.eq_with
  obtain ⟨h3, g3, d3, t3, o3⟩ := s3
  cases es
  exact z h3 t3 acc c3 (told acc it) e3 kp
theorem gather {a I : Addr} {o : Obj} {T : String} {h₂ : Heap} {R : Array Value → Prop} {Q : List Value → Shared → Prop} (ho : s.heap.get? a = some o) (hc : o.cls = .type T) (nl : T ≠ "list") (nt : T ≠ "tuple")
    (iter : ∀ (E' : Value → Shared → Prop) (Q' : Value → Shared → Prop), Q' (.ref I) { s with heap := h₂ } → wpAny (model P w) A.in1 (pyIter (.ref a)) Q' E' { s with heap := pushL s.heap })
    (hint : ∀ (E' : Value → Shared → Prop) (Q' : Bool → Shared → Prop), (∀ b tk, Q' b { s with heap := h₂, toks := tk }) → wpAny (model P w) A.in1 (Builtin.List.listLengthHint (.ref a)) Q' E' { s with heap := h₂ })
    (kp : ∀ b u, (pushL s.heap).get? b = some u → h₂.get? b = some u) (g : ∀ h, (∀ b u, b ≠ s.heap.objs.size → h₂.get? b = some u → h.get? b = some u) → Gives1 P w A.in1 h s.heap.objs.size I R)
    (q : ∀ (h' : Heap) tk acc, R acc → s.heap.objs.size ≤ h'.objs.size → (∀ b u, b ≠ I → s.heap.get? b = some u → h'.get? b = some u) → Q acc.toList { s with heap := h', toks := tk }) : wpAny (model P w) A (collect (.ref a)) Q E s := by
  have na : s.heap.objs.size ≠ a := Nat.ne_of_gt (Heap.lt_size ho)
  have at2 := kp _ _ (pushL_at s.heap)
  -- behind the loop the list is read
  have last : ∀ (h4 : Heap) (tk c : Nat), h4.get? s.heap.objs.size = some { cls := .type "list", dict := none, data := .seq #[] c, slots := #[] } → (∀ b u, b ≠ s.heap.objs.size → h₂.get? b = some u → h4.get? b = some u) →
      codeAny (model P w) A (.builtin "list.extend.loop" ⟨[.ref s.heap.objs.size, .ref I, .ref s.heap.objs.size], []⟩)
        (fun r s' => match r with
          | .ok (.ret v) => wpAny (model P w) A (match v with
            | .ref x => load x >>= fun ob => match ob.data with
              | .seq xs _ => pure xs.toList
              | _ => unsupported "internal:collect"
            | _ => unsupported "internal:collect") Q E s'
          | .ok _ => False
          | .error e => E e s') { s with heap := h4, toks := tk } :=
    fun h4 tk c e4 k4 => gather_loop (g h4 k4) e4 fun h3 tk3 acc c3 r e3 k3 => by
      refine wpAny_bind (wpAny_load e3 (wpAny_pure (q h3 tk3 acc r (Nat.le_of_lt (Heap.lt_size e3)) fun b u nI e => ?_)))
      have nS : b ≠ s.heap.objs.size := Nat.ne_of_lt (Heap.lt_size e)
      exact k3 b u nS nI (k4 b u nS (kp b u (pushL_old e)))
  unfold collect
  refine wpAny_bind (wpAny_runValue (codeAny_builtin F.entry_proto_collect (by
    rw [Around.under_plainId F.plain_proto_collect _]
    refine wpAny_bind (m := newList []) (wpAny_newObj_type (wpAny_pure ⟨plainId_quiet F.plain_list_iadd _, codeAny_builtin F.entry_list_iadd ?_⟩))
    rw [Around.under_plainId F.plain_list_iadd _]
    show wpAny (model P w) A.in1 (Builtin.List.listExtendWith (.ref s.heap.objs.size) (.ref a) (.ref s.heap.objs.size)) _ _ { s with heap := pushL s.heap }
    unfold Builtin.List.listExtendWith
    refine wpAny_bind (wpAny_typeOf (T := T) ⟨o, pushL_old ho, hc⟩ ?_)
    have other : (Builtin.List.listSameRef (.ref s.heap.objs.size) (.ref a) || Value.type T == Value.type "list" || Value.type T == Value.type "tuple") = false := by
      simp [Builtin.List.listSameRef, na, nl, nt]
    simp only [other, Bool.false_eq_true, if_false]
    refine wpAny_bind (iter _ _ (wpAny_bind (wpAny_holding (hint _ _ fun b tk => ?_))))
    split
    · refine wpAny_bind (m := rule "list.extend.makes-room") (wpAny_rule (wpAny_bind (m := Builtin.List.listTouch (.ref s.heap.objs.size)) ?_))
      have at3 := Heap.get?_update_self (Obj.mapSeq (·.push Value.none)) at2 rfl
      refine wpAny_bind (m := updateSeq s.heap.objs.size (·.push .none)) (wpAny_updateSeq at2 rfl (wpAny_updateSeq at3 rfl (wpAny_pure ⟨plainId_quiet F.plain_extend_loop _, last _ tk _ (Heap.get?_update_self (Obj.mapSeq (·.pop)) at3 rfl) fun b u n e => ?_⟩)))
      rw [Heap.get?_update_other _ _ (Ne.symm n), Heap.get?_update_other _ _ (Ne.symm n)]
      exact e
    · exact wpAny_pure ⟨plainId_quiet F.plain_extend_loop _, last h₂ tk 0 at2 fun _ _ _ e => e⟩)))
end
end Bm

/-! tuple(reversed(x)), x a list or a tuple: told with its object. -/
namespace Bm
open PySem PySem.Spec PyProof.Rows L2 Evl
abbrev idH : String := "reversed.__length_hint__"
theorem rt_noLen : typeLookup (.type "reversed") "__len__" = pure none := by rw [typeLookup_type, builtinLookup_eq_fast]; kernel_rfl
theorem rt_slotH : Slot "reversed" "__length_hint__" idH := by
  refine .of (owner := "reversed") (n := "__length_hint__") ?_ ?_ ?_ ?_ ?_ ?_
  · rw [typeLookup_type, builtinLookup_eq_fast]
    kernel_rfl
  · decide +kernel
  · decide +kernel
  · decide +kernel
  · first | exact .inr (by decide +kernel) | exact .inl (by decide +kernel)
  · rw [isSubtype_type]
    kernel_rfl
theorem rt_entH : entryFor table idH = some Builtin.«reversed.__length_hint__» := entryFor_of_tree (by kernel_rfl)
theorem rt_argH (a : Value) : argsOk idH ⟨[a], []⟩ := by
  unfold argsOk; rw [signature?_of (id := "reversed.__length_hint__") (n := ['_', '_', 't', 'n', 'i', 'h', '_', 'h', 't', 'g', 'n', 'e', 'l', '_', '_']) (o := ['d', 'e', 's', 'r', 'e', 'v', 'e', 'r']) (by kernel_rfl) RT.owner_rt]; kernel_rfl
/-- an iterator at the end of a tuple, backwards -/
structure RtAt (h : Heap) (it t : Addr) (xs : Array Value) : Prop where
  rt : RT.IsRt h it t ((xs.size : Int) - 1)
  tp : IsTup h t xs
theorem RtAt.to {h h' : Heap} {it t : Addr} {xs : Array Value} (x : RtAt h it t xs) (k : ∀ b u, h.get? b = some u → h'.get? b = some u) : RtAt h' it t xs :=
  ⟨x.rt.at (k it), x.tp.imp fun o q => ⟨k t o q.1, q.2⟩⟩
/-- the items, backwards -/
def BackOf (xs acc : Array Value) : Prop := ItemsOf (fun i v => xs[xs.size - 1 - i]? = some v) acc xs.size
section
variable {prog : Program} {w : World} {A : Around} {E : Value → Shared → Prop} {s : Shared} {it t : Addr} {xs : Array Value}
theorem RtAt.type (x : RtAt s.heap it t xs) : s.TypeIs (.ref it) "reversed" := x.rt.typeIs
/-- how many are left: all -/
theorem RtAt.left {Q : Value → Shared → Prop} (x : RtAt s.heap it t xs) (few : xs.size ≤ 100000) (q : ∀ tk tk2, Q (.int xs.size tk) { s with toks := tk2 }) : wpAny (model prog w) A (call (.builtin idH) [.ref it]) Q E s := by
  obtain ⟨o, o1, o2, o3⟩ := id x.rt
  have no : (Value.ref t == Value.none) = false := rfl
  have back : (xs.size : Int) - 1 + 1 = (xs.size : Int) := by omega
  refine wpAny_call_entry rt_slotH x.type rt_entH ?_ (rt_argH _)
  unfold Builtin.«reversed.__length_hint__»
  refine wpAny_bind (wpAny_of_eq (a := Value.ref it) rfl (wpAny_bind (wpAny_field o1 o3 (x := .ref t) rfl ?_)))
  refine wp_if_neg (by rw [no]; simp) ?_
  refine wpAny_bind (PyProof.Rows.len_tuple x.tp (by omega) (wpAny_bind (wpAny_of_eq (a := some (xs.size : Int)) rfl ?_)))
  refine wpAny_bind (wpAny_field (s := { s with toks := s.toks + 1 + 1 }) o1 o3 (x := rawInt ((xs.size : Int) - 1)) rfl ?_)
  show wpAny _ _ (if (xs.size : Int) < (xs.size : Int) - 1 + 1 then _ else _) _ _ _
  rw [back, if_neg (Int.lt_irrefl _)]
  exact wpAny_bind (wpAny_mkInt (wpAny_pure ⟨_, rfl, q _ _⟩))
theorem RtAt.hint {Q : Bool → Shared → Prop} (x : RtAt s.heap it t xs) (few : xs.size ≤ 100000) (q : ∀ b tk2, Q b { s with toks := tk2 }) : wpAny (model prog w) A (Builtin.List.listLengthHint (.ref it)) Q E s := by
  have fit : Builtin.List.listFitsIndex (xs.size : Int) = true := by simp [Builtin.List.listFitsIndex]; omega
  have room : Builtin.List.listTooLong (xs.size : Int).toNat = false := by simp [Builtin.List.listTooLong, sizeLine_eq]; omega
  have int_ : ∀ tk, asInt? (Value.int (xs.size : Int) tk) = pure (some (xs.size : Int)) := fun _ => rfl
  unfold Builtin.List.listLengthHint
  refine wpAny_bind (wpAny_specialOf x.type rt_noLen ?_)
  refine wpAny_bind (m := specialOf (Value.ref it) (Str.ofString "__length_hint__")) (wpAny_specialOf x.type rt_slotH.lookup ?_)
  generalize hid : idH = id0
  wp_delta
  rw [show splitId id0 = some ("reversed", "__length_hint__") from by subst hid; decide +kernel]
  subst hid
  refine wpAny_bind (wpAny_isInstance (b := true) x.type (by rw [isSubtype_type]; kernel_rfl) ?_)
  refine wpAny_bind (m := rule "list.length-hint.hint") (wpAny_rule (wpAny_bind (wpAny_of_eq (rt_slotH.bind _) ?_)))
  refine wpAny_bind (wpAny_attempt (x.left few fun tk tk2 => ?_))
  try dsimp only
  rw [int_ tk, pure_bind]
  dsimp only
  rw [fit, room, if_neg (by decide), if_neg (by omega), if_neg (by decide)]
  exact wpAny_pure (q _ _)
theorem rt_steps (hh : A.handled = none) (ne : t ≠ it) (nz : xs.size ≤ sizeLine) :
    Walks prog w A it [it, t] [it] xs.size (fun i v => xs[xs.size - 1 - i]? = some v) (fun i h => i ≤ xs.size ∧ RT.IsRt h it t ((xs.size : Int) - 1 - (i : Int)) ∧ IsTup h t xs) where
  sub := fun b m => by rw [List.mem_singleton.mp m]; exact List.mem_cons_self
  frame := fun _ _ _ x k => ⟨x.1, x.2.1.at (k it List.mem_cons_self), x.2.2.imp fun o q => ⟨k t (List.mem_cons_of_mem _ List.mem_cons_self) o q.1, q.2⟩⟩
  item := fun i s Q E l x q => by
    obtain ⟨_, rt, tp⟩ := x
    have lt : xs.size - 1 - i < xs.size := by omega
    have at_ : xs[xs.size - 1 - i]? = some xs[xs.size - 1 - i] := Array.getElem?_eq_getElem lt
    rw [show (xs.size : Int) - 1 - (i : Int) = ((xs.size - 1 - i : Nat) : Int) by omega] at rt
    refine RT.next_rt_item rt tp at_ nz fun h' rt' same => ?_
    rw [show ((xs.size - 1 - i : Nat) : Int) - 1 = (xs.size : Int) - 1 - ((i + 1 : Nat) : Int) by omega] at rt'
    exact q _ h' _ at_ ⟨l, rt', tp.imp fun o z => ⟨(same.2 t ne).trans z.1, z.2⟩⟩ fun b u nb e => same.extBut b u (fun z => nb (List.mem_singleton.mpr z)) e
  done := fun s Q E x q => by
    have rt := x.2.1
    rw [show (xs.size : Int) - 1 - (xs.size : Int) = -1 by omega] at rt
    exact RT.next_rt_end hh rt fun h' k => q h' s.toks fun b u nb e => k b u (fun z => nb (List.mem_singleton.mpr z)) e
  self := fun _ _ _ _ x q => RT.iter_rt x.2.1 q
theorem RtAt.gathered {Q : List Value → Shared → Prop} (x : RtAt s.heap it t xs) (hh : A.handled = none) (ne : t ≠ it) (few : xs.size ≤ 100000)
    (q : ∀ (h' : Heap) tk acc, BackOf xs acc → (∀ b u, b ≠ it → s.heap.get? b = some u → h'.get? b = some u) → Q acc.toList { s with heap := h', toks := tk }) : wpAny (model prog w) A (collect (.ref it)) Q E s := by
  obtain ⟨o, o1, o2, o3⟩ := id x.rt
  obtain ⟨u, u1, _⟩ := id x.tp
  have y := x.to (h' := pushL s.heap) fun _ _ => pushL_old
  have nz : xs.size ≤ sizeLine := by rw [sizeLine_eq]; omega
  have n1 : it ≠ s.heap.objs.size := Nat.ne_of_lt (Heap.lt_size o1)
  have n2 : t ≠ s.heap.objs.size := Nat.ne_of_lt (Heap.lt_size u1)
  refine gather (T := "reversed") (I := it) (h₂ := pushL s.heap) (R := BackOf xs) o1 o2 (by decide) (by decide) (fun E' Q' z => RT.iter_rt (s := { s with heap := pushL s.heap }) y.rt z)
    (fun E' Q' z => RtAt.hint (s := { s with heap := pushL s.heap }) y few z) (fun _ _ e => e) (fun h k => ⟨[it, t], xs.size, _, _, rt_steps hh ne nz, nz, by simp [n1.symm, n2.symm], ⟨Nat.zero_le _, ?_, ?_⟩, fun acc i => i⟩) fun h' tk acc r _ k => q h' tk acc r k
  · rw [show (xs.size : Int) - 1 - ((0 : Nat) : Int) = (xs.size : Int) - 1 by omega]
    exact y.rt.at fun u e => k it u n1 e
  · exact y.tp.imp fun u e => ⟨k t u n2 e.1, e.2⟩
/-- tuple(an iterator backwards), the gathering told by whoever calls -/
theorem tuple_back {Q : Value → Shared → Prop} {R : Array Value → Prop} (ty : s.TypeIs (.ref it) "reversed") (few : ∀ acc, R acc → acc.size ≤ sizeLine)
    (col : ∀ (Q' : List Value → Shared → Prop) (E' : Value → Shared → Prop), (∀ (h' : Heap) tk acc, R acc → (∀ b u, b ≠ it → s.heap.get? b = some u → h'.get? b = some u) → Q' acc.toList { s with heap := h', toks := tk }) → wpAny (model prog w) A.in1.in1 (collect (.ref it)) Q' E' s)
    (q : ∀ (h' : Heap) tk acc, R acc → (∀ b u, b ≠ it → s.heap.get? b = some u → h'.get? b = some u) → Q (.ref h'.objs.size) { s with heap := h'.push { cls := .type "tuple", data := .seq acc }, toks := tk }) :
    wpAny (model prog w) A (call (.type "tuple") [.ref it]) Q E s := by
  refine callType_codes (Q₁ := fun ob s₁ => s₁.TypeIs ob "tuple" ∧ Q ob s₁) F.called_tuple (F.typeCall_tuple_1 _) F.entry_object_init (codeAny_of_tree ?_) fun ob s₁ z =>
    ⟨z.1, F.args_object_init_2 ob _, object_init_meets F.called_tuple.init.lookup F.called_tuple.made (by decide) prog w A.in1 _ s₁ ⟨z.1, rfl, z.2⟩⟩
  refine wpAny_bind (m := checkBuiltinCall "tuple.__new__" ⟨[.type "tuple", .ref it], []⟩) (wpAny_of_eq (F.newCall_tuple_1 _) (wpAny_pure ⟨plainId_quiet F.plain_tuple_new _, codeAny_builtin F.entry_tuple_new ?_⟩))
  rw [Around.under_plainId F.plain_tuple_new _]
  have f1 := sub_tuple_self
  have f2 := init_tuple_lookup
  have f3 := madeHere_tuple
  wp_walk using wpAny_typeOf ty, col _ _
  intro h' tk acc r k
  have same : acc.toList.toArray = acc := Array.toArray_toList
  refine wpAny_bind (m := Builtin.Tuple.tupleExact acc.toList.toArray) ?_
  unfold Builtin.Tuple.tupleExact
  rw [same]
  exact wpAny_newObj_type (wpAny_pure ⟨⟨_, Heap.get?_push_size _ rfl, rfl⟩, q h' tk acc r k⟩) (few acc r)
end
/-- tuple(reversed(x)), x a list or a tuple -/
def tTupRv (K : PySem.W.Frag) (te : TE) : TE := fun σ H Q => te σ H fun v H1 => ∃ (a : Addr) (xs : List V), v = .ref a ∧ (SqL K H1 a xs ∨ SqT K H1 a xs) ∧ xs.length ≤ 100000 ∧ ∀ p o, H1 p = none → o.dict = none → Q (.ref p) (upd H1 p (.frz o (.tup xs.reverse)))
section
variable {X : Cx}
/-- the gathered items as a new tuple -/
theorem back_end {pins : List (Addr × Obj)} {σ : L2.St} {H : Hp} {s : Shared} {xs : List V} {its : List Value} {ob : Obj} {h' : Heap} {tk : Nat} {acc : Array Value} {Q : VK} (I : Inv X pins σ H s) (rv : Vals xs its) (z : xs.length ≤ sizeLine)
    (b : BackOf its.toArray acc) (k : ∀ b u, b ≠ s.heap.objs.size → (s.heap.push ob).get? b = some u → h'.get? b = some u) (q : ∀ p o, H p = none → o.dict = none → Q (.ref p) (upd H p (.frz o (.tup xs.reverse)))) :
    EP X pins σ Q (.ref h'.objs.size) { s with heap := h'.push { cls := .type "tuple", data := .seq acc }, toks := tk } := by
  obtain ⟨c1, c2, _, c3, c4, c5⟩ := I.fpOk (Nat.le_refl _) (I.hok.fresh (Nat.le_refl _))
  have J : Inv X pins σ H { s with heap := s.heap.push ob } := I.kept (t' := s.toks) fun _ _ e => Heap.get?_push_of_some _ e
  have y := tupNew (tk := tk) (J.turned (t' := tk) k c1 c2 c3 c4 c5) (fun _ _ e => e) (RT.vals_rev rv b) (by rw [List.length_reverse]; exact z) q
  rwa [Array.toArray_toList] at y
theorem pe_tupRevF {K : PySem.W.Frag} {e : Expr} {te : TE} {p p2 pos pos2 : Pos} (hc : X.calm = true) (hg : Gl X "tuple") (hm : X.mg "tuple" = none) (hg2 : Gl X "reversed") (hm2 : X.mg "reversed" = none) (he : PE X e te)
    (hK : X.K = K := by rfl) (one : starEach [e] X.env = (false, eval e X.env) :: starEach [] X.env := by rfl)
    (two : starEach [.Call (.Name "reversed" p2) [e] [] pos2] X.env = (false, eval (.Call (.Name "reversed" p2) [e] [] pos2) X.env) :: starEach [] X.env := by rfl) :
    PE X (.Call (.Name "tuple" p) [.Call (.Name "reversed" p2) [e] [] pos2] [] pos) (tTupRv K te) := ⟨fun pins s σ H Q I h => by
  subst hK
  refine Call_ (ld_blt I hg hm boot_tuple ?_)
  refine PyProof.Rows.callWith_type1 (args_cons ?_ two) two rfl
  refine Call_ (ld_blt I hg2 hm2 PyProof.Rows.boot_reversed ?_)
  refine PyProof.Rows.callWith_type1 (args_cons (thn (he.run pins s σ H _ I h) fun u s1 ⟨v, H1, I1, r1, a, xs, ev, hq, hlen, q⟩ => args_nil ?_) one) one rfl
  subst ev
  cases r1
  have new_ : ∀ ob : Obj, ∀ b o, s1.heap.get? b = some o → (s1.heap.push ob).get? b = some o := fun ob b o e => Heap.get?_push_of_some _ e
  rcases hq with hq | hq
  · obtain ⟨its, rv, pl, hz⟩ := I1.list hq
    have ls := pl.isList
    have na : a ≠ s1.heap.objs.size := Nat.ne_of_lt (by obtain ⟨o, e, _⟩ := id ls; exact Heap.lt_size e)
    refine PySem.call_reversed_list ls (args_nil ?_)
    exact RT.call_tuple_rev (s := { s1 with heap := s1.heap.push (revObj a ((its.toArray.size : Int) - 1)) }) (I1.ok.hd hc) ⟨_, Heap.get?_push_size _ rfl, rfl, rfl⟩ (ls.push _) na (by rw [List.size_toArray, ← rv.length]; exact hz)
      fun h' tk acc k i => back_end (s := s1) (ob := revObj a ((its.toArray.size : Int) - 1)) I1 rv hz i k q
  · obtain ⟨its, rv, tp, hz⟩ := I1.tuple hq
    have few : its.toArray.size ≤ 100000 := by rw [List.size_toArray, ← rv.length]; exact hlen
    have na : a ≠ s1.heap.objs.size := Nat.ne_of_lt (by obtain ⟨o, e, _⟩ := id tp; exact Heap.lt_size e)
    have x : RtAt (s1.heap.push (RT.rtObj a ((its.toArray.size : Int) - 1))) s1.heap.objs.size a its.toArray := ⟨⟨_, Heap.get?_push_size _ rfl, rfl, rfl⟩, tp.imp fun o z => ⟨new_ _ _ _ z.1, z.2⟩⟩
    refine RT.call_reversed_tup tp (fun A E Q k => PyProof.Rows.len_tuple tp (by omega) k) (args_nil ?_)
    exact tuple_back (s := { s1 with heap := s1.heap.push (RT.rtObj a ((its.toArray.size : Int) - 1)), toks := s1.toks + 1 + 1 }) (R := BackOf its.toArray) x.type (fun acc r => by rw [r.1, sizeLine_eq]; omega)
      (fun Q' E' z => RtAt.gathered (s := { s1 with heap := s1.heap.push (RT.rtObj a ((its.toArray.size : Int) - 1)), toks := s1.toks + 1 + 1 }) x (I1.ok.hd hc) na few z) fun h' tk acc i k => back_end (s := s1) (ob := RT.rtObj a ((its.toArray.size : Int) - 1)) I1 rv hz i k q⟩
end
section
variable {K : PySem.W.Frag} {σ : L2.St} {H : Hp} {te : TE} {ds : List PyData}
theorem evd_revT (h : EvD te σ H (.tuple ds)) (hl : ds.length ≤ 100000) : EvD (tTupRv K te) σ H (.tuple ds.reverse) := fun H1 e Q q =>
  h H1 e _ fun v H2 e2 r => by
    obtain ⟨a, xs, rfl, k1, k2⟩ := r.seqT (K := K)
    exact ⟨a, xs, rfl, .inr k1, by rw [k2.len]; exact hl, fun p o hp ho => q _ _ (e2.trans (Ex.new hp)) ⟨p, _, o, rfl, upd_same, ho, k2.rev.ex (Ex.new hp)⟩⟩
theorem evd_revL (h : EvD te σ H (.list ds)) (hl : ds.length ≤ 100000) : EvD (tTupRv K te) σ H (.tuple ds.reverse) := fun H1 e Q q =>
  h H1 e _ fun v H2 e2 r => by
    obtain ⟨a, xs, rfl, k1, k2⟩ := r.seqL (K := K)
    exact ⟨a, xs, rfl, .inl k1, by rw [k2.len]; exact hl, fun p o hp ho => q _ _ (e2.trans (Ex.new hp)) ⟨p, _, o, rfl, upd_same, ho, k2.rev.ex (Ex.new hp)⟩⟩
end
end Bm

/-! Loops and comprehensions over tuples; sorted of webs; all; is True. -/
namespace Bm
open PySem PySem.Spec PyProof.Rows L2 Evl
section
variable {K : PySem.W.Frag} {σ : L2.St} {H H' : Hp} {ta tb te tl : TE} {t u : TT} {d x y z : PyData} {ds es : List PyData} {D : Ends} {tu tw : TS} {g : TG}
/-- over a tuple -/
theorem s_forT {α : Type} {f : α → PyData} {xs : List α} (h : EvD tl σ H (.tuple (xs.map f)))
    (k : ∀ H1, Ex H H1 → ∃ Pv : Nat → L2.St → Hp → Prop, Pv 0 σ H1 ∧ (∀ i σ' H', Pv i σ' H' → Ex H1 H') ∧
      (∀ i x v σ' H', xs[i]? = some x → Rp H' (f x) v → Pv i σ' H' → g v σ' H' fun σ2 H2 => tu { D with nx := Pv (i + 1), ct := Pv (i + 1), bk := D.nx } σ2 H2) ∧ ∀ σ' H', Pv xs.length σ' H' → D.nx σ' H') :
    tFor (iTup K tl) g tu D σ H := h H (Ex.refl H) _ fun v H1 e r => by
  obtain ⟨a, vs, o, e1, h1, _, h2⟩ := r
  obtain ⟨Pv, p0, pe, ps, pd⟩ := k H1 e
  have hl : vs.length = xs.length := by rw [h2.len, List.length_map]
  refine ⟨a, e1, ⟨vs, .inl (.inr ⟨o, h1⟩)⟩, for_tup (xs := vs) Pv p0 (fun i σ' H' _ p => .inl (.inr ⟨o, pe i σ' H' p a _ h1⟩)) (fun i v2 σ' H' hi p => ?_) (fun σ' H' p => pd σ' H' (hl ▸ p))⟩
  obtain ⟨d2, q1, q2⟩ := h2.getv hi
  obtain ⟨x, q3, rfl⟩ := map_get q1
  exact ps i x v2 σ' H' q3 (q2.ex (pe i σ' H' p)) p
theorem evn_lcT {α : Type} {f : α → PyData} {xs : List α} {vs : List Nat} {tt : TT} (c : α → Bool) (y : α → PyData) (h : EvD tl σ H (.tuple (xs.map f))) (hz : xs.length ≤ 50000)
    (turn : ∀ x v H1, x ∈ xs → Ex H H1 → Rp H1 (f x) v → ∃ σ2, (∀ Q : L2.St → Hp → Prop, Q σ2 H1 → g v (wipe σ vs) H1 Q) ∧ wipe σ2 vs = wipe σ vs ∧ EvT tt σ2 H1 (c x) ∧ (c x = true → EvD te σ2 H1 (y x)))
    (im : ∀ x ∈ xs, c x = true → imm (y x) = true) : EvN (tLc (iTup K tl) g tt te vs) σ H ((xs.filter c).map y) := fun H0 e0 Q q => h H0 e0 _ fun v H1 e1 r => by
  obtain ⟨a, ws, ob, ea, h1, _, h2⟩ := r
  have hl : ws.length = xs.length := by rw [h2.len, List.length_map]
  refine ⟨a, ea, ⟨ws, .inl (.inr ⟨ob, h1⟩)⟩, fun Dl hD => lc_tup (xs := ws) (fun i H' => Own H1 H' Dl (((xs.take i).filter c).map y)) ?_ (fun i H' _ o => .inl (.inr ⟨ob, o.ex a _ h1⟩)) (fun i x2 H' hi o => ?_) fun H' o => ?_⟩
  · exact ⟨hD, Ex.new hD, ⟨[], upd_same, RpA.nil⟩, rfl⟩
  · obtain ⟨d2, q1, q2⟩ := h2.getv hi
    obtain ⟨x, q3, rfl⟩ := map_get q1
    have hx : x ∈ xs := List.mem_of_getElem? q3
    obtain ⟨σ2, g1, g2, g3, g4⟩ := turn x x2 H' hx ((e0.trans e1).trans o.ex) (q2.ex o.ex)
    have hlen : i < xs.length := (List.getElem?_eq_some_iff.mp q3).1
    refine g1 _ ⟨g2, g3 H' (Ex.refl H') _ fun H3 e3 => ?_⟩
    have et : xs.take (i + 1) = xs.take i ++ [x] := by rw [List.take_add_one, q3]; rfl
    have o3 := o.step e3
    cases hc : c x with
    | true =>
      rw [if_pos rfl]
      refine g4 hc H3 e3 _ fun w H4 e4 r4 => ?_
      obtain ⟨acc, k1, k2⟩ := (o3.step e4).has
      have kt : KT H4 (upd H4 Dl (.lst (acc ++ [w]))) := KT.lst k1
      have hb : acc.length ≤ i := by
        rw [k2.len, List.length_map]
        exact Nat.le_trans (List.length_filter_le _ _) (by rw [List.length_take]; omega)
      refine ⟨acc, k1, sz_lt (by omega), o.new, ?_, ⟨_, upd_same, ?_⟩, ?_⟩
      · exact Ex.mut (o3.step e4).ex o.new
      · rw [et, List.filter_append, List.filter_cons, if_pos hc, List.map_append]
        exact (RpA.keep kt o.im k2).snoc (Rp.keep kt (im x hx hc) r4)
      · rw [et, List.filter_append, List.filter_cons, if_pos hc, List.map_append]
        exact immA_app o.im (immA_one (im x hx hc))
    | false =>
      rw [if_neg Bool.false_ne_true, et, List.filter_append, List.filter_cons, if_neg (by rw [hc]; exact Bool.false_ne_true), List.filter_nil, List.append_nil]
      exact o3
  · rw [hl, List.take_length] at o
    obtain ⟨acc, k1, k2⟩ := o.has
    exact q Dl acc H' (fresh_back e1 o.new) (e1.trans o.ex) k1 k2
/-! ### all, is -/
theorem cd_all {bs : List Bool} : CD (rAll K) [.list (bs.map PyData.bool)] H (.bool (bs.all id)) := fun H1 vs e r Q q => by
  obtain ⟨v, w, rfl, ⟨a, xs, rfl, h1, h2⟩, rfl⟩ := r
  obtain rfl := h2.bls
  exact ⟨a, bs, rfl, SqL.of h1, q _ H1 (Ex.refl H1) rfl⟩
theorem rd_isB {a b : Bool} : RD rIsB (.bool a) (.bool b) H (.bool (decide (a = b))) := rd_val fun H1 v u e r1 r2 => ⟨.bl (decide (a = b)), rfl, fun Q q => ⟨a, b, r1, r2, q⟩⟩
theorem rd_notB {a b : Bool} : RD rNotB (.bool a) (.bool b) H (.bool (!decide (a = b))) := rd_val fun H1 v u e r1 r2 => ⟨.bl (!decide (a = b)), rfl, fun Q q => ⟨a, b, r1, r2, q⟩⟩
end
/-! ### sorted of a web -/
def cdP (p : Int × Int) : Int := p.1 * 64 + p.2
def bdP (p : Int × Int) : Prop := (0 ≤ p.1 ∧ p.1 < 64) ∧ 0 ≤ p.2 ∧ p.2 < 64
theorem cdP_inj {p q : Int × Int} (hp : bdP p) (hq : bdP q) (h : cdP p = cdP q) : p = q := by
  obtain ⟨a, b⟩ := p
  obtain ⟨c, d⟩ := q
  unfold bdP at hp hq
  unfold cdP at h
  dsimp only at hp hq h
  rw [show a = c by omega, show b = d by omega]
def insW (x : Int × Int) : List (Int × Int) → List (Int × Int)
  | [] => [x]
  | y :: ys => if cdP x ≤ cdP y then x :: y :: ys else y :: insW x ys
def srtW : List (Int × Int) → List (Int × Int)
  | [] => []
  | x :: xs => insW x (srtW xs)
theorem insW_perm (x : Int × Int) : ∀ ys, (insW x ys).Perm (x :: ys)
  | [] => .refl _
  | y :: ys => by
    unfold insW
    by_cases h : cdP x ≤ cdP y
    · rw [if_pos h]
    · rw [if_neg h]
      exact ((insW_perm x ys).cons y).trans (.swap x y ys)
theorem srtW_perm : ∀ xs, (srtW xs).Perm xs
  | [] => .refl _
  | x :: xs => (insW_perm x (srtW xs)).trans ((srtW_perm xs).cons x)
theorem insW_pw {x : Int × Int} : ∀ {ys : List (Int × Int)}, ys.Pairwise (fun p q => cdP p ≤ cdP q) → (insW x ys).Pairwise (fun p q => cdP p ≤ cdP q)
  | [], _ => by simp [insW]
  | y :: ys, h => by
    unfold insW
    obtain ⟨h1, h2⟩ := List.pairwise_cons.mp h
    by_cases e : cdP x ≤ cdP y
    · rw [if_pos e]
      refine List.pairwise_cons.mpr ⟨fun z m => ?_, h⟩
      rcases List.mem_cons.mp m with rfl | m
      · exact e
      · exact Int.le_trans e (h1 z m)
    · rw [if_neg e]
      refine List.pairwise_cons.mpr ⟨fun z m => ?_, insW_pw h2⟩
      rcases List.mem_cons.mp ((insW_perm x ys).mem_iff.mp m) with rfl | m
      · omega
      · exact h1 z m
theorem srtW_pw : ∀ xs, (srtW xs).Pairwise (fun p q => cdP p ≤ cdP q)
  | [] => .nil
  | _ :: xs => insW_pw (srtW_pw xs)
/-- rising rows of the same are the same -/
theorem srtW_uniq : ∀ {a b : List (Int × Int)}, a.Perm b → (∀ p ∈ a, bdP p) → a.Pairwise (fun p q => cdP p ≤ cdP q) → b.Pairwise (fun p q => cdP p ≤ cdP q) → a = b
  | [], b, h, _, _, _ => by rw [h.nil_eq]
  | x :: a, [], h, _, _, _ => by have := h.length_eq; simp at this
  | x :: a, y :: b, h, hb, h1, h2 => by
    have hby : ∀ p ∈ y :: b, bdP p := fun p m => hb p (h.mem_iff.mpr m)
    have e : x = y := by
      refine cdP_inj (hb x List.mem_cons_self) (hby y List.mem_cons_self) (Int.le_antisymm ?_ ?_)
      · rcases List.mem_cons.mp (h.mem_iff.mpr List.mem_cons_self : y ∈ x :: a) with e | m
        · rw [e]; exact Int.le_refl _
        · exact (List.pairwise_cons.mp h1).1 y m
      · rcases List.mem_cons.mp (h.mem_iff.mp List.mem_cons_self : x ∈ y :: b) with e | m
        · rw [e]; exact Int.le_refl _
        · exact (List.pairwise_cons.mp h2).1 x m
    subst e
    rw [srtW_uniq ((List.perm_cons x).mp h) (fun p m => hb p (List.mem_cons_of_mem _ m)) (List.pairwise_cons.mp h1).2 (List.pairwise_cons.mp h2).2]
theorem srtW_of {a b : List (Int × Int)} (h : a.Perm b) (hb : ∀ p ∈ a, bdP p) (p : a.Pairwise (fun p q => cdP p ≤ cdP q)) : a = srtW b := srtW_uniq (h.trans (srtW_perm b).symm) hb p (srtW_pw b)
theorem srtW_congr {a b : List (Int × Int)} (h : a.Perm b) (hb : ∀ p ∈ a, bdP p) : srtW a = srtW b := srtW_of ((srtW_perm a).trans h) (fun p m => hb p ((srtW_perm a).mem_iff.mp m)) (srtW_pw a)
theorem rpa_perm {α : Type} {f : α → PyData} {H : Hp} {xs ys : List V} (h : xs.Perm ys) : ∀ {ps : List α}, RpA H (ps.map f) xs → ∃ qs : List α, qs.Perm ps ∧ RpA H (qs.map f) ys := by
  induction h with
  | nil => exact fun {ps} r => ⟨ps, .refl _, r⟩
  | cons x _ ih =>
    intro ps r
    cases ps with
    | nil => exact absurd r.len (by simp)
    | cons p ps =>
      obtain ⟨v, t, e, r1, r2⟩ := r
      cases e
      obtain ⟨qs, h1, h2⟩ := ih r2
      exact ⟨p :: qs, h1.cons p, RpA.cons r1 h2⟩
  | swap x y l =>
    intro ps r
    match ps, r with
    | [], r => exact absurd r.len (by simp)
    | [p], r => exact absurd r.len (by simp)
    | p :: q :: ps, r =>
      obtain ⟨v, t, e, r1, v2, t2, e2, r2, r3⟩ := r
      cases e
      cases e2
      exact ⟨q :: p :: ps, .swap _ _ _, RpA.cons r2 (RpA.cons r1 r3)⟩
  | trans _ _ ih1 ih2 =>
    intro ps r
    obtain ⟨qs, h1, h2⟩ := ih1 r
    obtain ⟨us, h3, h4⟩ := ih2 h2
    exact ⟨us, h3.trans h1, h4⟩
theorem code_pD (p : Int × Int) : TS.code 64 [p.1, p.2] = cdP p := code_pair p.1 p.2
section
variable {X : Cx} {K : PySem.W.Frag} {H : Hp}
theorem cr_sortedWK (h : X.K = K := by rfl) : CallR X (.builtin "sorted") (rSortU K 2 64) := h ▸ cr_sortT (by decide)
theorem cn_sortW {ps : List (Int × Int)} (hl : ps.length < 64) (hb : ∀ p ∈ ps, bdP p) : CN (rSortU K 2 64) [wD ps] H ((srtW ps).map pD) := fun H1 vs e r Q q => by
  obtain ⟨v, t, rfl, ⟨a, xs, rfl, k1, k2⟩, rfl⟩ := r
  refine ⟨a, xs, rfl, SqL.of k1, by rw [k2.len, List.length_map]; exact hl, fun x hx => ?_, fun ys p hp hpw hn => ?_⟩
  · obtain ⟨i, hi⟩ := List.getElem?_of_mem hx
    obtain ⟨d, q1, q2⟩ := k2.getv hi
    obtain ⟨pr, q3, rfl⟩ := map_get q1
    obtain ⟨b, o, rfl, g1, _⟩ := q2.pD
    obtain ⟨z1, z2⟩ := hb pr (List.mem_of_getElem? q3)
    exact ⟨[pr.1, pr.2], ⟨b, rfl, .inl (.inr ⟨o, g1⟩)⟩, rfl, fun m hm => by
      rcases List.mem_cons.mp hm with rfl | hm
      · exact z1
      · rw [List.mem_singleton.mp hm]; exact z2⟩
  · obtain ⟨qs, h1, h2⟩ := rpa_perm hp.symm (ps := ps) k2
    have es : qs = srtW ps := by
      refine srtW_of h1 (fun p m => hb p (h1.mem_iff.mp m)) ?_
      rw [List.pairwise_iff_getElem] at hpw ⊢
      intro i j hi hj hij
      have li : ys.length = qs.length := by rw [h2.len, List.length_map]
      have gi : ∀ n (hn : n < qs.length), TupI K H1 (ys[n]'(by omega)) [qs[n].1, qs[n].2] := fun n hn => by
        have z := h2.get2 (i := n) (d := pD qs[n]) (v := ys[n]'(by omega)) (by rw [List.getElem?_map, List.getElem?_eq_getElem hn]; rfl) (List.getElem?_eq_getElem (by omega))
        obtain ⟨b, o, e1, g1, _⟩ := z.pD
        exact ⟨b, e1, .inl (.inr ⟨o, g1⟩)⟩
      have z := hpw i j (by omega) (by omega) hij _ _ (gi i hi) (gi j hj)
      rwa [code_pD, code_pD] at z
    rw [es] at h2
    exact q p ys _ hn (Ex.new hn) upd_same (h2.ex (Ex.new hn))
end
end Bm

/-! len(set(..)), the last item, not in a web. -/
namespace Bm
open PySem PySem.Spec PyProof.Rows L2 Evl
/-- where a comprehension within another one stands -/
def asgVal (s : Stmt) : Expr := match s with
  | .Assign _ v _ => v
  | _ => .Name "" ⟨0, 0, 0, 0⟩
def compSc (e : Expr) : Scope := match e with
  | .ListComp _ _ sc _ => sc
  | _ => defScope (.Pass ⟨0, 0, 0, 0⟩)
section
variable {X : Cx} {K : PySem.W.Frag}
theorem pe_lenSetIK {a : Expr} {ta : TE} {p p2 q pos : Pos} (hc : X.calm = true) (hg : Gl X "len") (hm : X.mg "len" = none) (hg2 : Gl X "set") (hm2 : X.mg "set" = none) (ha : PE X a ta)
    (hK : X.K = K := by rfl) (na : starEach [a] X.env = (false, eval a X.env) :: starEach [] X.env := by rfl) : PE X (.Call (.Name "len" p) [.Call (.Name "set" p2) [a] [] q] [] pos) (tLenSetI K ta) := hK ▸ pe_lenSetI hc hg hm hg2 hm2 ha na
end
section
variable {K : PySem.W.Frag} {σ : L2.St} {H : Hp} {te : TE}
theorem evd_lenSet {ns : List Int} (h : EvD te σ H (iL ns)) (hl : ns.length < 64) (n : ns.Nodup) : EvD (tLenSetI K te) σ H (.int ns.length) := fun H1 e Q q => h H1 e _ fun v H2 e2 r => by
  obtain ⟨a, rfl, k⟩ := r.iL
  exact ⟨a, ns, rfl, SqL.of k, hl, n, q _ H2 e2 rfl⟩
theorem rd_niW {p : Int × Int} {ps : List (Int × Int)} : RD (rNotInD K) (pD p) (wD ps) H (.bool (!decide (p ∈ ps))) := rd_val fun H1 v u ex r1 r2 =>
  ⟨.bl (!decide (p ∈ ps)), rfl, fun Q q => ⟨pD p, ps.map pD, r1.dp, r2.dp, (cmp_pD p).shaped (by decide), (cmp_wD ps).shaped (by decide), by rw [show ((ps.map pD).any fun z => PyData.eqv z (pD p)) = decide (p ∈ ps) from (any_eqv cmp_pD (fun a b => pD_inj) p ps).trans (decide_eq_decide.mpr Iff.rfl)]; exact q⟩⟩
theorem atI_m1 {α : Type} {xs : List α} {x : α} (h : xs[xs.length - 1]? = some x) : atI xs (-1) = some x := by
  have hl : 0 < xs.length := by
    have := (List.getElem?_eq_some_iff.mp h).1
    omega
  have e : ixN xs.length (-1) = some (xs.length - 1) := by
    unfold ixN
    rw [if_neg (by omega), if_pos (by omega)]
    congr 1
    omega
  unfold atI
  rw [e]
  exact h
end
/-! ### sorted of a list of ints; a loop over a new list -/
section
variable {X : Cx} {K : PySem.W.Frag} {σ : L2.St} {H : Hp} {tl : TE} {D : Ends} {g : TG} {tu : TS}
theorem cr_sortedIK (h : X.K = K := by rfl) : CallR X (.builtin "sorted") (rSortedI K) := h ▸ cr_sortedI
theorem cn_sortI {ns : List Int} : CN (rSortedI K) [iL ns] H ((srt ns).map PyData.int) := fun H1 vs e r Q q => by
  obtain ⟨v, t, rfl, hv, rfl⟩ := r
  obtain ⟨a, rfl, k⟩ := hv.iL
  refine ⟨a, ns, rfl, SqL.of k, fun ns' p h1 h2 hn => ?_⟩
  rw [srt_of h1 h2]
  exact q p _ _ hn (Ex.new hn) upd_same (rpa_ints _)
/-- over a new list: other new lists may change -/
theorem s_forN {α : Type} {f : α → PyData} {xs : List α} (h : EvN tl σ H (xs.map f)) (im : ∀ x ∈ xs, imm (f x) = true)
    (k : ∀ p vs H1, H p = none → Ex H H1 → H1 p = some (.lst vs) → ∃ Pv : Nat → L2.St → Hp → Prop, Pv 0 σ H1 ∧ (∀ i σ' H', Pv i σ' H' → KT H1 H' ∧ H' p = some (.lst vs)) ∧
      (∀ i x v σ' H', xs[i]? = some x → Rp H' (f x) v → Pv i σ' H' → g v σ' H' fun σ2 H2 => tu { D with nx := Pv (i + 1), ct := Pv (i + 1), bk := D.nx } σ2 H2) ∧ ∀ σ' H', Pv xs.length σ' H' → D.nx σ' H') :
    tFor (iList K tl) g tu D σ H := h H (Ex.refl H) _ fun p vs H1 hp e h1 h2 => by
  obtain ⟨Pv, p0, pe, ps, pd⟩ := k p vs H1 hp e h1
  have hl : vs.length = xs.length := by rw [h2.len, List.length_map]
  refine ⟨p, rfl, ⟨vs, SqL.of h1⟩, for_list (xs := vs) Pv p0 (fun i σ' H' _ q => SqL.of (pe i σ' H' q).2) (fun i v2 σ' H' hi q => ?_) (fun σ' H' q => pd σ' H' (hl ▸ q))⟩
  obtain ⟨d2, q1, q2⟩ := h2.getv hi
  obtain ⟨x, q3, rfl⟩ := map_get q1
  exact ps i x v2 σ' H' q3 (Rp.keep (pe i σ' H' q).1 (im x (List.mem_of_getElem? q3)) q2) q
end
/-- a branching with a place behind it told once -/
theorem joinK {A : Type} {D : Ends} {s : TS} {σ : L2.St} {H : Hp} (mk : A → L2.St) (J : A → Hp → Prop) (cont : ∀ w H', J w H' → D.nx (mk w) H') (main : (∀ w H', J w H' → D.nx (mk w) H') → s D σ H) : s D σ H := main cont
/-! ### a new list that is only read -/
def NL (H0 H' : Hp) (ds : List PyData) (v : V) : Prop := ∃ a vs, v = .ref a ∧ H0 a = none ∧ H' a = some (.lst vs) ∧ RpA H' ds vs
theorem NL.rp {H0 H' : Hp} {ds : List PyData} {v : V} (h : NL H0 H' ds v) : Rp H' (.list ds) v := by
  obtain ⟨a, vs, e, _, k1, k2⟩ := h
  exact ⟨a, vs, e, k1, k2⟩
theorem NL.ex {H0 H1 H2 : Hp} {ds : List PyData} {v : V} (h : NL H0 H1 ds v) (e : Ex H1 H2) : NL H0 H2 ds v := by
  obtain ⟨a, vs, e1, n, k1, k2⟩ := h
  exact ⟨a, vs, e1, n, e _ _ k1, k2.ex e⟩
theorem s_asgNL {H0 H : Hp} {te : TE} {σ : L2.St} {D : Ends} {i : Nat} {ds : List PyData} (h : EvN te σ H ds) (e0 : Ex H0 H) (k : ∀ v H1, Ex H H1 → NL H0 H1 ds v → D.nx (σ.set i (some v)) H1) : tAsg te (gName i) D σ H :=
  h H (Ex.refl H) _ fun p vs H1 hp e h1 h2 => k _ H1 e ⟨p, vs, rfl, fresh_back e0 hp, h1, h2⟩
theorem EvN.is {te : TE} {σ : L2.St} {H : Hp} {ds es : List PyData} (h : EvN te σ H ds) (e : ds = es) : EvN te σ H es := e ▸ h
end Bm

/-! Dicts whose keys are plain tuples of ints: a display of one pair; a plain tuple of a list. -/
namespace Bm
open PySem PySem.Spec PyProof.Rows L2 Evl
/-- {k: v}, k a plain tuple of ints -/
def tDispT (tk tv : TE) : TE := fun σ H Q => ∀ p, H p = none → tk σ (upd H p (.dT [])) fun x H1 => tv σ H1 fun y H2 => ∃ (k : List Key) (b : Addr), x = .ref b ∧ H2 b = some (.tup (k.map kV)) ∧ H2 p = some (.dT []) ∧ Q (.ref p) (upd H2 p (.dT [(k, y)]))
theorem pe_dispT {X : Cx} {pos : Pos} {ke ve : Expr} {tk tv : TE} (hu : X.A.units < cLine) (hk : PE X ke tk) (hv : PE X ve tv) : PE X (.Dict [some ke] [ve] pos) (tDispT tk tv) := by
  refine ⟨fun pins s σ H Q I q => ?_⟩
  have hn := I.hok.fresh (Nat.le_refl s.heap.objs.size)
  have I1 := I.laid (a := s.heap.objs.size) (o := .dT []) (h' := s.heap.push { cls := .type "dict", data := .dict #[] }) (t' := s.toks) (fun _ _ q => Heap.get?_push_of_some _ q) (Nat.le_refl _) (dt_empty s.heap I.big)
  have run := (pps_cons hk hv pps_nil : PPs X pos [some ke] [ve] [(tk, tv)]).run pins { s with heap := s.heap.push { cls := .type "dict", data := .dict #[] } } σ (upd H s.heap.objs.size (.dT []))
    (fun ps H2 => match ps with
      | [(x, y)] => ∃ (k : List Key) (b : Addr), x = .ref b ∧ H2 b = some (.tup (k.map kV)) ∧ H2 s.heap.objs.size = some (.dT []) ∧ Q (.ref s.heap.objs.size) (upd H2 s.heap.objs.size (.dT [(k, y)]))
      | _ => False) I1 (q _ hn)
  refine wpAny_Dict_any rfl rfl (by simp) (Nat.le_of_ble_eq_true rfl) (thn run fun ws s2 ⟨ps, H2, I2, rel, q1⟩ => ?_)
  match ps, q1 with
  | [(x, y)], ⟨k, b, ex, hb, hp, q2⟩ =>
  subst ex
  cases rel with
  | @cons a c as cs h t =>
    cases t
    obtain ⟨u, r⟩ := c
    obtain ⟨r1, r2⟩ := h
    cases (show u = Value.ref b from r1)
    obtain ⟨z, hd, xs, relT, dd⟩ := dt_of I2.hok hp
    cases relT
    unfold PySem.storeAll
    rw [List.forIn_cons]
    refine wpAny_bind (wpAny_bind (wpAny_dictSet_heap (knd := tupleKind (mixKind X.prog X.w)) (hsz := by show 0 ≤ _; exact Nat.zero_le _) hu (key_of I2.hok hb) dd fun h' dd' hs => wpAny_pure ?_))
    show wpAny _ _ (forIn ([] : List (Value × Value)) _ _) _ _ _
    rw [List.forIn_nil]
    refine wpAny_pure ⟨.ref s.heap.objs.size, _, ?_, rfl, q2⟩
    obtain ⟨o, es, ep, hq, h2, h3, h4, h6, h5⟩ := dd'
    refine d_write I2 (by rw [hp]; exact True.intro) hs ⟨o, hq⟩ ⟨by show 1 ≤ sizeLine; decide, hd, _, ?_, o, es, ep, hq, h2, h3, h4, h5⟩
    have rel0 : L2.KT H2 ([] : List (List Key × V)) [] := Paired.nil
    have rel1 := L2.KT.put rel0 k hb r2
    refine L2.KT.keeps rel1 fun c ys ec => ?_
    rw [upd_ne (ne_of ec hp (fun z => nomatch z))]
    exact ec
/-! ### for k in d, d a dict with tuple keys (locked meanwhile) -/
def lockD (d : Addr) (kvs : List (List Key × V)) (od : Obj) (D : Ends) : Ends := ⟨fun σ' H' => H' d = some (.frz od (.dT kvs)) ∧ D.nx σ' (upd H' d (.dT kvs)), fun v H' => H' d = some (.frz od (.dT kvs)) ∧ D.rt v (upd H' d (.dT kvs)), fun σ' H' => H' d = some (.frz od (.dT kvs)) ∧ D.bk σ' (upd H' d (.dT kvs)), fun σ' H' => H' d = some (.frz od (.dT kvs)) ∧ D.ct σ' (upd H' d (.dT kvs))⟩
theorem s_forDT {D : Ends} {σ : L2.St} {H : Hp} {i : Nat} {d : Addr} {kvs : List (List Key × V)} {g : TG} {tu : TS} (hi : σ[i]? = some (some (.ref d))) (hd : H d = some (.dT kvs)) (Pv : Obj → Nat → L2.St → Hp → Prop)
    (p0 : ∀ od, Pv od 0 σ (upd H d (.frz od (.dT kvs)))) (pe : ∀ od j σ' H', Pv od j σ' H' → H' d = some (.frz od (.dT kvs)))
    (turn : ∀ od j k v q σ' H', kvs[j]? = some (k, v) → H' q = some (.tup (k.map kV)) → Pv od j σ' H' → g (.ref q) σ' H' fun σ2 H2 => tu { lockD d kvs od D with nx := Pv od (j + 1), ct := Pv od (j + 1), bk := (lockD d kvs od D).nx } σ2 H2)
    (done : ∀ od σ' H', Pv od kvs.length σ' H' → D.nx σ' (upd H' d (.dT kvs))) : tLock (tFor (iKeys (tVar i)) g tu) D σ H :=
  ⟨d, .dT kvs, hd, True.intro, fun od => ⟨.ref d, hi, d, od, rfl, .inr ⟨kvs, upd_same, for_it (D := lockD d kvs od D) walk_keysT (Pv od) (p0 od) (fun j σ' H' _ p => pe od j σ' H' p) (fun j x σ' H' H'' _ p y => by
    obtain ⟨rfl, k, v, q, h1, rfl, h2⟩ := y
    exact turn od j k v q σ' _ h1 h2 p) fun σ' H' p => ⟨pe od _ σ' H' p, done od σ' H' p⟩⟩⟩⟩
/-! ### plain tuples of ints -/
def PT (H : Hp) (ns : List Int) (v : V) : Prop := ∃ a, v = .ref a ∧ H a = some (.tup (ns.map V.int))
theorem PT.ex {H H' : Hp} {ns : List Int} {v : V} (h : PT H ns v) (e : Ex H H') : PT H' ns v := by
  obtain ⟨a, e1, e2⟩ := h
  exact ⟨a, e1, e _ _ e2⟩
/-- tuple(a list), laid plainly -/
def rTupP (K : PySem.W.Frag) : List V → Hp → VK → Prop := fun xs H Q => ∃ p ys, xs = [.ref p] ∧ SqL K H p ys ∧ ∀ l, H l = none → Q (.ref l) (upd H l (.tup ys))
theorem cr_tupP {X : Cx} : CallR X (.type "tuple") (rTupP X.K) := by
  intro pins s σ H xs us Q I r h
  obtain ⟨p, ys, rfl, hq, q⟩ := h
  obtain ⟨u, rfl, ru⟩ := vals1 r
  cases ru
  obtain ⟨its, rv, pl, z⟩ := I.list hq
  refine call_tuple_list pl.isList (fun h2 kp => ?_) (by rw [List.size_toArray, ← rv.length]; exact z)
  have J : L2.Inv X pins σ H { s with heap := h2, toks := s.toks } := I.kept (t' := s.toks) kp
  have fr : H h2.objs.size = none := J.hok.fresh (Nat.le_refl _)
  refine ⟨.ref h2.objs.size, upd H h2.objs.size (.tup ys), J.laid (t' := s.toks) (fun b o e => Heap.get?_push_of_some _ e) (Nat.le_refl _) (show ObjOk X.prog X.w _ _ _ (.tup ys) from ⟨z, its, rv, ?_⟩), rfl, q _ fr⟩
  exact IsTup.new _ _
theorem cr_tupPK {X : Cx} {K : PySem.W.Frag} (h : X.K = K := by rfl) : CallR X (.type "tuple") (rTupP K) := h ▸ cr_tupP
/-- an expression that gives a plain tuple -/
def EvP2 (te : TE) (σ : L2.St) (H : Hp) (ns : List Int) : Prop := ∀ H1, Ex H H1 → ∀ Q : VK, (∀ p H2, H1 p = none → Ex H1 H2 → H2 p = some (.tup (ns.map V.int)) → Q (.ref p) H2) → te σ H1 Q
section
variable {K : PySem.W.Frag} {σ : L2.St} {H : Hp} {te tb : TE} {ns : List Int} {a : Addr} {i : Nat}
theorem evp_tup {tr : TE} (h : EvD tr σ H (iL ns)) : EvP2 (tCB (rTupP K) (tCons tr tNil)) σ H ns := fun H1 e Q q => h H1 e _ fun v H2 e2 r => by
  obtain ⟨p, rfl, k⟩ := r.iL
  exact ⟨p, _, rfl, SqL.of k, fun l hl => q l _ (fresh_back e2 hl) (e2.trans (Ex.new hl)) upd_same⟩
theorem evd_lenP (hi : σ[i]? = some (some (.ref a))) (ha : H a = some (.tup (ns.map V.int))) : EvD (tCB (rLenS K) (tCons (tVar i) tNil)) σ H (.int ns.length) := fun H1 e Q q =>
  ⟨.ref a, hi, a, _, rfl, .inr (.inl (.inl (e _ _ ha))), by rw [List.length_map]; exact q _ H1 (Ex.refl H1) rfl⟩
theorem evd_ixP {k : Int} {z : Int} (hi : σ[i]? = some (some (.ref a))) (ha : H a = some (.tup (ns.map V.int))) (hk : EvD tb σ H (.int k)) (hz : atI ns k = some z) : EvD (tOp (rIxT K) (tVar i) tb) σ H (.int z) := fun H1 e Q q =>
  ⟨.ref a, hi, hk H1 e _ fun v H2 e2 r => ⟨a, _, k, .int z, rfl, r, .inl (.inl ((e.trans e2) _ _ ha)), atI_map hz, q _ H2 e2 rfl⟩⟩
end
theorem hu_of0 {k : Nat} {A : Around} (hr : Room k A) : A.units < cLine := by have := hr.un; omega
section
variable {K : PySem.W.Frag} {σ : L2.St} {H : Hp} {te : TE} {g : TG}
/-- over a plain tuple of ints -/
theorem evn_lcP {ns : List Int} {a : Addr} {i : Nat} {vs : List Nat} {tt : TT} (y : Int → PyData) (hi : σ[i]? = some (some (.ref a))) (ha : H a = some (.tup (ns.map V.int))) (hz : ns.length ≤ 50000)
    (turn : ∀ x H1, x ∈ ns → Ex H H1 → ∃ σ2, (∀ Q : L2.St → Hp → Prop, Q σ2 H1 → g (.int x) (wipe σ vs) H1 Q) ∧ wipe σ2 vs = wipe σ vs ∧ EvT tt σ2 H1 true ∧ EvD te σ2 H1 (y x))
    (im : ∀ x ∈ ns, imm (y x) = true) : EvN (tLc (iTup K (tVar i)) g tt te vs) σ H (ns.map y) := fun H1 e1 Q q => by
  have h1 := e1 _ _ ha
  have hl : (ns.map V.int).length = ns.length := List.length_map _
  refine ⟨.ref a, hi, a, rfl, ⟨_, .inl (.inl h1)⟩, fun Dl hD => lc_tup (xs := ns.map V.int) (fun i H' => Own H1 H' Dl ((ns.take i).map y)) ?_ (fun i H' _ o => .inl (.inl (o.ex a _ h1))) (fun i x2 H' hi o => ?_) fun H' o => ?_⟩
  · exact ⟨hD, Ex.new hD, ⟨[], upd_same, RpA.nil⟩, rfl⟩
  · obtain ⟨x, q3, rfl⟩ := map_get hi
    have hx : x ∈ ns := List.mem_of_getElem? q3
    obtain ⟨σ2, g1, g2, g3, g4⟩ := turn x H' hx (e1.trans o.ex)
    have hlen : i < ns.length := (List.getElem?_eq_some_iff.mp q3).1
    refine g1 _ ⟨g2, g3 H' (Ex.refl H') _ fun H3 e3 => ?_⟩
    have et : ns.take (i + 1) = ns.take i ++ [x] := by rw [List.take_add_one, q3]; rfl
    have o3 := o.step e3
    rw [if_pos rfl]
    refine g4 H3 e3 _ fun w H4 e4 r4 => ?_
    obtain ⟨acc, k1, k2⟩ := (o3.step e4).has
    have kt : KT H4 (upd H4 Dl (.lst (acc ++ [w]))) := KT.lst k1
    have hb : acc.length ≤ i := by
      rw [k2.len, List.length_map, List.length_take]
      omega
    refine ⟨acc, k1, sz_lt (by omega), o.new, Ex.mut (o3.step e4).ex o.new, ⟨_, upd_same, ?_⟩, ?_⟩
    · rw [et, List.map_append]
      exact (RpA.keep kt o.im k2).snoc (Rp.keep kt (im x hx) r4)
    · rw [et, List.map_append]
      exact immA_app o.im (immA_one (im x hx))
  · rw [hl, List.take_length] at o
    obtain ⟨acc, k1, k2⟩ := o.has
    exact q Dl acc H' o.new o.ex k1 k2
/-- a, b = a pair of data -/
theorem g_two {d1 d2 : PyData} {v : V} {i j : Nat} {Q : L2.St → Hp → Prop} (r : Rp H (.tuple [d1, d2]) v) (q : ∀ u1 u2, Rp H d1 u1 → Rp H d2 u2 → Q ((σ.set i (some u1)).set j (some u2)) H) : gTup K 2 (gCons (gName i) (gCons (gName j) gNil)) v σ H Q := by
  obtain ⟨a, xs, o, rfl, h1, _, u1, r1, rfl, q1, u2, r2, rfl, q2, q3⟩ := r
  cases q3
  exact ⟨a, _, rfl, .inl (.inr ⟨o, h1⟩), rfl, u1, [u2], rfl, u2, [], rfl, rfl, q u1 u2 q1 q2⟩
theorem valV_mem {κ : Type} [DecidableEq κ] {k : κ} {v : V} : ∀ {kvs : List (κ × V)}, (kvs.map (·.1)).Nodup → (k, v) ∈ kvs → valV kvs k = some v
  | [], _, h => by cases h
  | p :: kvs, n, h => by
    rw [List.map_cons, List.nodup_cons] at n
    rcases List.mem_cons.mp h with rfl | h
    · exact valV_pos rfl
    · by_cases e : p.1 = k
      · exact absurd (List.mem_map.mpr ⟨_, h, e.symm⟩) n.1
      · rw [valV_neg e]
        exact valV_mem n.2 h
end
end Bm

/-! Tables of sets of any of the masks up to 8191: each place is met; putting in; laying anew. -/
namespace Bm
open PySem PySem.Spec PyProof.Rows L2

/-! ### 0, 1, 6, 31, ...: each is five times the last and one -/
def Lu : Nat → Nat
  | 0 => 0
  | n + 1 => 5 * Lu n + 1
theorem Lu_add (a : Nat) : ∀ b, Lu (a + b) = Lu a + Lu b + 4 * (Lu a * Lu b)
  | 0 => by simp [Lu]
  | b + 1 => by
    have h := Lu_add a b
    have e : Lu a * (5 * Lu b + 1) = 5 * (Lu a * Lu b) + Lu a := by rw [Nat.mul_add, Nat.mul_left_comm, Nat.mul_one]
    show 5 * Lu (a + b) + 1 = Lu a + (5 * Lu b + 1) + 4 * (Lu a * (5 * Lu b + 1))
    omega
theorem odd_mul (a b : Nat) : (2 * a + 1) * (2 * b + 1) = 2 * (2 * (a * b) + a + b) + 1 := by
  have e : (2 * a + 1) * (2 * b + 1) = 4 * (a * b) + 2 * a + 2 * b + 1 := by
    rw [Nat.add_mul, Nat.mul_add, Nat.mul_one, Nat.one_mul, Nat.mul_assoc, Nat.mul_left_comm a 2 b]
    omega
  omega
theorem Lu_pow : ∀ k, ∃ o, Lu (2 ^ k) = 2 ^ k * (2 * o + 1)
  | 0 => ⟨0, rfl⟩
  | k + 1 => by
    obtain ⟨o, h⟩ := Lu_pow k
    refine ⟨2 * (o * Lu (2 ^ k)) + o + Lu (2 ^ k), ?_⟩
    have e2 : 2 ^ (k + 1) = 2 ^ k + 2 ^ k := by rw [Nat.pow_succ, Nat.mul_two]
    have e3 : Lu (2 ^ k) * (2 * Lu (2 ^ k) + 1) = 2 ^ k * (2 * (2 * (o * Lu (2 ^ k)) + o + Lu (2 ^ k)) + 1) := by
      rw [← odd_mul, ← Nat.mul_assoc, ← h]
    have e4 : Lu (2 ^ k) * (2 * Lu (2 ^ k) + 1) = 2 * (Lu (2 ^ k) * Lu (2 ^ k)) + Lu (2 ^ k) := by
      rw [Nat.mul_add, Nat.mul_one, Nat.mul_left_comm]
    rw [e2, Lu_add, Nat.add_mul, ← e3, e4]
    omega
theorem Lu_over (n k : Nat) : ∃ q, Lu (n + 2 ^ k) = Lu n + 2 ^ k + 2 * 2 ^ k * q := by
  obtain ⟨o, h⟩ := Lu_pow k
  refine ⟨2 * (o * (2 * Lu n)) + o + 2 * Lu n, ?_⟩
  have e : 2 ^ k * (2 * (2 * (o * (2 * Lu n)) + o + 2 * Lu n) + 1) = Lu (2 ^ k) * (2 * (2 * Lu n) + 1) := by
    rw [← odd_mul, ← Nat.mul_assoc, ← h]
  have e4 : Lu (2 ^ k) * (2 * (2 * Lu n) + 1) = 4 * (Lu n * Lu (2 ^ k)) + Lu (2 ^ k) := by
    rw [Nat.mul_add, Nat.mul_one, ← Nat.mul_assoc 2 2, Nat.mul_left_comm, Nat.mul_comm (Lu n)]
  have e5 : 2 ^ k * (2 * (2 * (o * (2 * Lu n)) + o + 2 * Lu n) + 1) = 2 * 2 ^ k * (2 * (o * (2 * Lu n)) + o + 2 * Lu n) + 2 ^ k := by
    rw [Nat.mul_add, Nat.mul_one, ← Nat.mul_assoc, Nat.mul_comm (2 ^ k) 2]
  rw [Lu_add]
  omega
theorem Lu_all : ∀ k j, j < 2 ^ k → ∃ n, n < 2 ^ k ∧ Lu n % 2 ^ k = j
  | 0, j, h => by
    have z : j = 0 := by simpa using h
    exact ⟨0, by decide, by rw [z]; rfl⟩
  | k + 1, j, h => by
    have e2 : 2 ^ (k + 1) = 2 * 2 ^ k := by rw [Nat.pow_succ, Nat.mul_comm]
    rw [e2] at h ⊢
    have hp : 0 < 2 ^ k := Nat.pow_pos (by decide)
    obtain ⟨n, h1, h2⟩ := Lu_all k (j % 2 ^ k) (Nat.mod_lt _ hp)
    obtain ⟨q, h3⟩ := Lu_over n k
    generalize 2 ^ k = N at *
    have m1 : Lu n % (2 * N) % N = j % N := by rw [Nat.mod_mul_left_mod]; exact h2
    have m2 : Lu n % (2 * N) < 2 * N := Nat.mod_lt _ (by omega)
    have two : ∀ r, r < 2 * N → r = r % N ∨ r = r % N + N := fun r hr => by
      rcases Nat.lt_or_ge r N with c | c
      · exact .inl (Nat.mod_eq_of_lt c).symm
      · refine .inr ?_
        rw [Nat.mod_eq_sub_mod c, Nat.mod_eq_of_lt (by omega)]
        omega
    by_cases c : Lu n % (2 * N) = j
    · exact ⟨n, by omega, c⟩
    · refine ⟨n + N, by omega, ?_⟩
      have e3 : Lu (n + N) % (2 * N) = (Lu n % (2 * N) + N) % (2 * N) := by
        rw [h3, Nat.add_mul_mod_self_left, Nat.mod_add_mod]
      rw [e3]
      rcases two _ m2 with z | z <;> rcases two _ h with y | y
      · omega
      · rw [Nat.mod_eq_of_lt] <;> omega
      · rw [Nat.mod_eq_sub_mod (by omega), Nat.mod_eq_of_lt] <;> omega
      · omega

/-! ### the masks -/
def Gm (m : Nat) : Prop := m = 7 ∨ m = 31 ∨ m = 127 ∨ m = 511 ∨ m = 2047 ∨ m = 8191
theorem Gm.pow {m : Nat} (g : Gm m) : ∃ k, m + 1 = 2 ^ k := by
  rcases g with rfl | rfl | rfl | rfl | rfl | rfl
  · exact ⟨3, rfl⟩
  · exact ⟨5, rfl⟩
  · exact ⟨7, rfl⟩
  · exact ⟨9, rfl⟩
  · exact ⟨11, rfl⟩
  · exact ⟨13, rfl⟩
theorem Gm.odd {m : Nat} (g : Gm m) : m % 2 = 1 := by rcases g with rfl | rfl | rfl | rfl | rfl | rfl <;> rfl
theorem Gm.le {m : Nat} (g : Gm m) : m ≤ 8191 := by rcases g with rfl | rfl | rfl | rfl | rfl | rfl <;> decide
theorem Gm.step {m a : Nat} : ∀ k, lcgI m (Lu a % (m + 1)) k = Lu (a + k) % (m + 1)
  | 0 => rfl
  | k + 1 => by
    show (lcgI m (Lu a % (m + 1)) k * 5 + 1) % (m + 1) = (5 * Lu (a + k) + 1) % (m + 1)
    rw [Gm.step k, Nat.mul_comm, Nat.add_mod, Nat.mul_mod, Nat.mod_mod, ← Nat.mul_mod, ← Nat.add_mod]
theorem Gm.each {m i j : Nat} (g : Gm m) (hi : i ≤ m) (hj : j ≤ m) : ∃ k, k ≤ m ∧ lcgI m i k = j := by
  obtain ⟨K, e⟩ := g.pow
  obtain ⟨a, a1, a2⟩ := Lu_all K i (by omega)
  obtain ⟨b, b1, b2⟩ := Lu_all K j (by omega)
  obtain ⟨q, r⟩ := Lu_over b K
  have per : Lu (b + (m + 1)) % (m + 1) = j := by
    rw [e, r, Nat.mul_comm 2, Nat.mul_assoc, Nat.add_mul_mod_self_left, Nat.add_mod_right, b2]
  rw [← e] at a1 a2 b1 b2
  rcases Nat.lt_or_ge b a with c | c
  · refine ⟨b + (m + 1) - a, by omega, ?_⟩
    rw [← a2, Gm.step, show a + (b + (m + 1) - a) = b + (m + 1) by omega, per]
  · refine ⟨b - a, by omega, ?_⟩
    rw [← a2, Gm.step, show a + (b - a) = b by omega, b2]
theorem Gm.run {m j : Nat} (g : Gm m) (h : Int) (hj : j ≤ m) : ∃ n, n ≤ m + 12 ∧ runI m (SetTable.bits h) n = j := by
  obtain ⟨k, k1, k2⟩ := g.each (runI_le m (SetTable.bits h) 12) hj
  exact ⟨12 + k, by omega, (runI_tail (bits_lt h) k).trans k2⟩
theorem Gm.ways {m j : Nat} (g : Gm m) (h : Int) (hj : j ≤ m) : ∃ k, k < 10 * SetTable.turns m ∧ way m h k = j := by
  obtain ⟨n, n1, n2⟩ := g.run h hj
  obtain ⟨k, k1, k2⟩ := run_nth m (SetTable.bits h) n
  refine ⟨k, ?_, (congrArg SetTable.Probe.j k2).trans n2⟩
  show k < 10 * (m + 15)
  omega
theorem way_in (m : Nat) (h : Int) (k : Nat) : way m h k ≤ m := by
  have lt : SetTable.bits h % (m + 1) < m + 1 := Nat.mod_lt _ (Nat.succ_pos m)
  obtain ⟨r1, r2, _⟩ := runEnd_bd (Nat.le_of_lt_succ lt)
  exact Nat.le_trans (Nat.le_add_right _ _) (nth_in k (runAt m (SetTable.bits h % (m + 1)) (SetTable.bits h)) (Nat.le_trans (Nat.le_of_eq (Nat.add_sub_cancel' r2)) r1))

/-! ### the table -/
structure Tb (t : SetTable) (hs : List Int) : Prop where
  up : Ris t.place.toList
  dum : t.dummies = #[]
  num : t.place.size = hs.length
  gm : Gm t.mask
  inn : ∀ x ∈ t.place.toList, x ≤ t.mask
  met : ∀ (i : Nat) (h : Int) (j : Nat), hs[i]? = some h → t.place.toList[i]? = some j → ∃ k, way t.mask h k = j ∧ ∀ k', k' < k → way t.mask h k' ∈ t.place.toList
/-- K steps lead from the hash's own place to the first empty one -/
def Hole (t : SetTable) (h : Int) (K : Nat) : Prop := way t.mask h K ∉ t.place.toList ∧ ∀ c, c < K → way t.mask h c ∈ t.place.toList
section
variable {t : SetTable} {hs : List Int} {h : Int} {K : Nat}
theorem Tb.hole (T : Tb t hs) (l : hs.length ≤ t.mask) (h : Int) : ∃ K, K < 10 * SetTable.turns t.mask ∧ Hole t h K := by
  obtain ⟨j, j1, j2⟩ := st_missing t.place.toList (t.mask + 1) (by rw [Array.length_toList, T.num]; omega)
  obtain ⟨k, k1, k2⟩ := T.gm.ways h (Nat.le_of_lt_succ j1)
  obtain ⟨K, q1, q2, q3⟩ := st_least (p := fun c => way t.mask h c ∉ t.place.toList) k (by rw [k2]; exact j2)
  exact ⟨K, by omega, q2, fun c hc => Classical.byContradiction fun z => q3 c hc z⟩
theorem Tb.ahead (T : Tb t hs) (o : Hole t h K) {i j : Nat} (hi : hs[i]? = some h) (hj : t.place.toList[i]? = some j) : ∃ k, k < K ∧ way t.mask h k = j := by
  obtain ⟨k, k1, k2⟩ := T.met i h j hi hj
  refine ⟨k, Nat.lt_of_not_le fun z => ?_, k1⟩
  rcases Nat.lt_or_eq_of_le z with z | z
  · exact o.1 (k2 K z)
  · exact o.1 (by rw [z, k1]; exact List.mem_of_getElem? hj)
theorem Tb.put (T : Tb t hs) (o : Hole t h K) {p : Nat} (ep : p = SetTable.below t.place (way t.mask h K)) : p ≤ hs.length ∧ Tb (t.put (way t.mask h K)).1 (hs.take p ++ h :: hs.drop p) ∧ (t.put (way t.mask h K)).1.fill = hs.length + 1 := by
  have jm := way_in t.mask h K
  generalize ej : way t.mask h K = j at ep jm ⊢
  have no : j ∉ t.place.toList := ej ▸ o.1
  obtain ⟨c1, _⟩ := below_cut T.up j
  rw [← ep] at c1
  have pl : p ≤ t.place.toList.length := by rw [Array.length_toList]; exact c1
  have ph : p ≤ hs.length := T.num ▸ c1
  have pp : (t.put j).1.place.toList = t.place.toList.take p ++ j :: t.place.toList.drop p := by rw [ep]; exact put_place t j
  have np : t.place[SetTable.below t.place j]? ≠ some j := fun z => no (List.mem_of_getElem? ((Array.getElem?_toList ..).trans z))
  have size : (t.put j).1.place.size = hs.length + 1 := by
    rw [← Array.length_toList, pp, len_ins _ pl, Array.length_toList, T.num]
  have more : ∀ x, x ∈ t.place.toList → x ∈ (t.put j).1.place.toList := fun x m => pp ▸ mem_ins.mpr (.inr m)
  refine ⟨ph, ⟨ris_insert T.up np, put_dm T.dum j, size.trans (len_ins _ ph h).symm, T.gm, fun x m => ?_, fun i g y q1 q2 => ?_⟩, ?_⟩
  · rw [pp] at m
    rcases mem_ins.mp m with e | m
    · rw [e]; exact jm
    · exact T.inn x m
  · rw [tins_get _ ph] at q1
    rw [pp, tins_get _ pl] at q2
    have old : ∀ n, hs[n]? = some g → t.place.toList[n]? = some y → ∃ k, way t.mask g k = y ∧ ∀ k', k' < k → way t.mask g k' ∈ (t.put j).1.place.toList := fun n w1 w2 => by
      obtain ⟨k, e, z⟩ := T.met n g y w1 w2
      exact ⟨k, e, fun k' l => more _ (z k' l)⟩
    split at q1
    · next c => rw [if_pos c] at q2; exact old i q1 q2
    · next c =>
      rw [if_neg c] at q2
      split at q1
      · next d =>
        rw [if_pos d] at q2
        cases q1
        cases q2
        exact ⟨K, ej, fun k' l => more _ (o.2 k' l)⟩
      · next d => rw [if_neg d] at q2; exact old (i - 1) q1 q2
  · show (t.put j).1.place.size + (t.put j).1.dummies.size = _
    rw [size, put_dm T.dum j]
    rfl
end

/-! ### laid anew -/
theorem Gm.seat {m : Nat} (g : Gm m) (owner : Array (Option Nat)) (h : Int) {j : Nat} (hj : j ≤ m) (hf : oAt owner j = none) :
    ∃ K, SetTable.layClean.free m owner (SetTable.turns m) (SetTable.bits h % (m + 1)) (SetTable.bits h) = some (way m h K) ∧ oAt owner (way m h K) = none ∧ ∀ k, k < K → oAt owner (way m h k) ≠ none := by
  obtain ⟨n, n1, n2⟩ := g.run h hj
  have at_ : way m h (off m (SetTable.bits h % (m + 1)) (SetTable.bits h) n) = j := by
    have z := congrArg SetTable.Probe.j (nth_off m n (SetTable.bits h % (m + 1)) (SetTable.bits h))
    rw [itL_run] at z
    exact z.trans n2
  obtain ⟨K, q1, q2, q3⟩ := st_least (p := fun c => oAt owner (way m h c) = none) (off m (SetTable.bits h % (m + 1)) (SetTable.bits h) n) (by
    show oAt owner (way m h _) = none
    rw [at_]; exact hf)
  refine ⟨K, free_spec m owner (SetTable.turns m) n _ _ K (show n < m + 15 by omega) q1 (fun k l => ?_) ?_, q2, q3⟩
  · show (oAt owner (way m h k)).isNone = false
    cases z : oAt owner (way m h k) with
    | none => exact absurd z (q3 k l)
    | some _ => rfl
  · show (oAt owner (way m h K)).isNone = true
    rw [show oAt owner (way m h K) = none from q2]
    rfl
theorem Gm.own {m : Nat} (g : Gm m) {done : List Int} {owner : Array (Option Nat)} (W : L2.Own m done owner) (hl : done.length ≤ m) (h : Int) :
    ∃ j, SetTable.layClean.free m owner (SetTable.turns m) (SetTable.bits h % (m + 1)) (SetTable.bits h) = some j ∧ L2.Own m (done ++ [h]) (owner.setIfInBounds j (some done.length)) := by
  obtain ⟨ps, p1, p2⟩ := W.ps
  obtain ⟨f, f1, f2⟩ := st_missing ps (m + 1) (by omega)
  have fe : oAt owner f = none := Classical.byContradiction fun z => f2 (p2 f (Nat.le_of_lt_succ f1) z)
  obtain ⟨K, q1, q2, q3⟩ := g.seat owner h (Nat.le_of_lt_succ f1) fe
  have jm := way_in m h K
  generalize ej : way m h K = j at q1 q2 jm
  have js : j < owner.size := by rw [W.sz]; omega
  have here := oAt_set_self (some done.length) js
  have keeps : ∀ i, oAt owner i ≠ none → oAt (owner.setIfInBounds j (some done.length)) i ≠ none := fun i z => by
    by_cases c : i = j
    · subst c; rw [here]; simp
    · rw [oAt_set_ne _ c]; exact z
  refine ⟨j, q1, ⟨(Array.size_setIfInBounds ..).trans W.sz, fun i k im e => ?_, fun k hk => ?_, ⟨j :: ps, by simp [p1], fun i im z => ?_⟩⟩⟩
  · by_cases c : i = j
    · subst c
      rw [here] at e
      cases e
      exact ⟨h, K, by simp, ej, fun k' l => keeps _ (q3 k' l)⟩
    · rw [oAt_set_ne _ c] at e
      obtain ⟨g', K', w1, w2, w3⟩ := W.at_ i k im e
      refine ⟨g', K', ?_, w2, fun k' l => keeps _ (w3 k' l)⟩
      rw [List.getElem?_append_left (List.getElem?_eq_some_iff.mp w1).1, w1]
  · rcases Nat.lt_or_ge k done.length with c | c
    · obtain ⟨i, im, e⟩ := W.all k c
      exact ⟨i, im, by rw [oAt_set_ne _ (fun z => by rw [z, q2] at e; cases e), e]⟩
    · have ek : k = done.length := by
        rw [List.length_append, List.length_singleton] at hk
        omega
      exact ⟨j, jm, by rw [ek]; exact here⟩
  · by_cases c : i = j
    · rw [c]; exact List.mem_cons_self
    · rw [oAt_set_ne _ c] at z
      exact List.mem_cons_of_mem _ (p2 i im z)
theorem Gm.fold {m : Nat} (g : Gm m) : ∀ (rest done : List Int) (owner : Array (Option Nat)), L2.Own m done owner → done.length + rest.length ≤ m →
    ∃ ow, rest.foldl (stepF m) (some (owner, done.length)) = some (ow, done.length + rest.length) ∧ L2.Own m (done ++ rest) ow
  | [], done, owner, W, _ => ⟨owner, rfl, by rw [List.append_nil]; exact W⟩
  | h :: rest, done, owner, W, hl => by
    have hl' : done.length + (rest.length + 1) ≤ m := hl
    obtain ⟨j, e, W1⟩ := g.own W (by omega) h
    have l1 : (done ++ [h]).length = done.length + 1 := by simp
    obtain ⟨ow, f, W2⟩ := g.fold rest (done ++ [h]) _ W1 (by omega)
    refine ⟨ow, ?_, by rw [← List.append_cons] at W2; exact W2⟩
    rw [List.foldl_cons, stepF_some e, ← l1, f, l1, List.length_cons]
    congr 2
    omega
theorem Gm.clean {m : Nat} (g : Gm m) {hs : Array Int} (hn : hs.size ≤ m) : ∃ owner, SetTable.layClean m hs = some owner ∧ L2.Own m hs.toList owner := by
  obtain ⟨ow, f, W⟩ := g.fold hs.toList [] _ (L2.Own.init m) (by simpa using hn)
  refine ⟨ow, ?_, W⟩
  rw [layClean_eq]
  exact congrArg (Option.map Prod.fst) f
theorem relaid_tb (t : SetTable) {hs : Array Int} {wanted M : Nat} (hw : SetTable.sizeAbove wanted - 1 = M) (g : Gm M) (hn : hs.size ≤ M) :
    ∃ t' order, t.relaid hs wanted = some (t', order) ∧ order.toList.Perm (List.range hs.size) ∧ Tb t' (order.toList.map fun i => hs.getD i 0) ∧ t'.mask = M ∧ t'.led = t.led ∧ t'.plain = t.plain := by
  obtain ⟨ow, e, W⟩ := g.clean hn
  have rr : t.relaid hs wanted = some (tabOf t M ow, ((liveOf M ow).map (·.2)).toArray) := by
    rw [relaid_eq, hw, e]
    rfl
  obtain ⟨r1, r2⟩ := ris_live (fun j => ow.getD j none) (List.range (M + 1)) (by
    unfold Ris
    first | exact List.pairwise_lt_range | exact List.pairwise_lt_range _)
  have r1 : Ris ((liveOf M ow).map (·.1)) := r1
  have r2 : ∀ x ∈ (liveOf M ow).map (·.1), x ∈ List.range (M + 1) := r2
  have cnt : (liveOf M ow).length = hs.size := by
    obtain ⟨ps, p1, p2⟩ := W.ps
    refine Nat.le_antisymm ?_ ?_
    · have z := nat_nodup_len _ ps (r1.imp Nat.ne_of_lt) fun x hx => by
        obtain ⟨⟨a, b⟩, hq, rfl⟩ := List.mem_map.mp hx
        obtain ⟨b1, b2⟩ := (mem_live W.sz).mp hq
        exact p2 a b1 (by rw [b2]; simp)
      rw [p1, List.length_map, Array.length_toList] at z
      exact z
    · have z := nat_nodup_len (List.range hs.size) ((liveOf M ow).map (·.2)) List.nodup_range fun k hk => by
        obtain ⟨j, b1, b2⟩ := W.all k (List.mem_range.mp hk)
        exact List.mem_map.mpr ⟨_, (mem_live W.sz).mpr ⟨b1, b2⟩, rfl⟩
      rwa [List.length_map, List.length_range] at z
  refine ⟨_, _, rr, perm_range hs.size _ (by simpa using cnt) fun k hk => ?_, ⟨r1, rfl, ?_, g, fun x hx => Nat.le_of_lt_succ (List.mem_range.mp (r2 x hx)), fun i h j q1 q2 => ?_⟩, rfl, rfl, rfl⟩
  · obtain ⟨j, b1, b2⟩ := W.all k hk
    exact List.mem_map.mpr ⟨_, (mem_live W.sz).mpr ⟨b1, b2⟩, rfl⟩
  · show ((liveOf M ow).map (·.1)).toArray.size = (((liveOf M ow).map (·.2)).map fun i => hs.getD i 0).length
    simp
  · have q1' : (((liveOf M ow).map (·.2)).map fun i => hs.getD i 0)[i]? = some h := q1
    have q2' : ((liveOf M ow).map (·.1))[i]? = some j := q2
    rw [List.map_map, List.getElem?_map] at q1'
    rw [List.getElem?_map] at q2'
    cases hq : (liveOf M ow)[i]? with
    | none => rw [hq] at q2'; cases q2'
    | some ab =>
      obtain ⟨y, k⟩ := ab
      rw [hq] at q1' q2'
      have ej : y = j := Option.some.inj q2'
      have eh : hs.getD k 0 = h := Option.some.inj q1'
      subst ej
      obtain ⟨b1, b2⟩ := (mem_live W.sz).mp (List.mem_of_getElem? hq)
      obtain ⟨h0, K, a1, a2, a3⟩ := W.at_ y k b1 b2
      have e0 : hs.getD k 0 = h0 := by rw [Array.getD_eq_getD_getElem?, ← Array.getElem?_toList, a1]; rfl
      obtain rfl : h0 = h := e0.symm.trans eh
      refine ⟨K, a2, fun k' l => ?_⟩
      show way M h0 k' ∈ (liveOf M ow).map (·.1)
      cases z : oAt ow (way M h0 k') with
      | none => exact absurd z (a3 k' l)
      | some k2 => exact List.mem_map.mpr ⟨_, (mem_live W.sz).mpr ⟨way_in M h0 k', z⟩, rfl⟩
theorem grown_sizes : SetTable.sizeAbove (SetTable.grown 5) = 32 ∧ SetTable.sizeAbove (SetTable.grown 19) = 128 ∧ SetTable.sizeAbove (SetTable.grown 77) = 512 ∧ SetTable.sizeAbove (SetTable.grown 307) = 2048 ∧ SetTable.sizeAbove (SetTable.grown 1229) = 8192 := by decide +kernel
end Bm

/-! Sets of tuples of ints with up to 4914 members: seeking, adding. -/
namespace Bm
open PySem PySem.Spec PyProof.Rows L2
/-- where a search stands behind c steps -/
abbrev stp (m : Nat) (h : Int) (c : Nat) : SetTable.Probe := nth m (runAt m (SetTable.bits h % (m + 1)) (SetTable.bits h)) c
theorem stp_add (m : Nat) (h : Int) (c q : Nat) : nth m (stp m h c) q = stp m h (c + q) := (nth_add m c _ q).symm
theorem nth_clean (m : Nat) : ∀ (n : Nat) (p : SetTable.Probe), p.dummy = none → (nth m p n).dummy = none
  | 0, _, h => h
  | n + 1, p, h => nth_clean m n (adv m p) (by unfold adv; split <;> exact h)
/-- the set at a; its members, each with where it stands -/
structure Sb (P : Program) (w : World) (h : Heap) (a : Addr) (L : List (Addr × List Int)) (es : Array (Int × Value)) (ep : Nat) (t : SetTable) : Prop where
  obj : ∃ o, h.get? a = some o ∧ o.ExactSet ∧ o.data = .set es ep t
  ent : es.toList = rowsOf P w L
  tb : Tb t (L.map fun p => thash P w p.2)
  nod : (L.map (·.2)).Nodup
  tups : ∀ p ∈ L, IsT P w h p.2 p.1
  pln : t.plain = true
  ord : w.params.followText "set-order" = true ∨ t.led = true
  room : L.length * 5 < t.mask * 3
theorem rows_len {P : Program} {w : World} {es : Array (Int × Value)} {L : List (Addr × List Int)} (h : es.toList = rowsOf P w L) : es.size = L.length := by
  rw [← Array.length_toList, h]
  exact List.length_map ..
section
variable {P : Program} {w : World} {A : Around} {E : Value → Shared → Prop} {s : Shared} {a : Addr} {L : List (Addr × List Int)} {es : Array (Int × Value)} {ep : Nat} {t : SetTable}
theorem Sb.size {h : Heap} (R : Sb P w h a L es ep t) : es.size = L.length := rows_len R.ent
theorem Tb.len (T : Tb t (L.map fun p => thash P w p.2)) : t.place.size = L.length := T.num.trans (List.length_map ..)
theorem fits_tb (T : Tb t (L.map fun p => thash P w p.2)) (e : es.size = L.length) (l : L.length ≤ t.mask) : t.fits es.size = true := by
  have z := T.len
  simp [SetTable.fits, SetTable.fill, T.dum, z, e, l]
theorem Sb.fits {h : Heap} (R : Sb P w h a L es ep t) : t.fits es.size = true := fits_tb R.tb R.size (by have := R.room; omega)
theorem Sb.few {h : Heap} (R : Sb P w h a L es ep t) : L.length < 4915 := by
  have := R.room
  have := R.tb.gm.le
  omega
theorem Sb.row {h : Heap} (R : Sb P w h a L es ep t) {i : Nat} {p : Addr × List Int} (e : L[i]? = some p) : es[i]? = some (thash P w p.2, Value.ref p.1) := by
  rw [← Array.getElem?_toList, R.ent, rowsOf, List.getElem?_map, e]
  rfl
theorem Sb.whole {h : Heap} (R : Sb P w h a L es ep t) : ¬ t.gaveWay = true := by
  have := R.tb.gm.odd
  simp [SetTable.gaveWay, this]
/-- the search from its c-th step on -/
theorem Sb.seek (R : Sb P w s.heap a L es ep t) {x : Addr} {k : List Int} (hx : IsT P w s.heap k x) (hu : A.units < cLine) {K : Nat} (lim : K < 10 * SetTable.turns t.mask) (o : Hole t (thash P w k) K) {Q : SetFound → Shared → Prop}
    (yes : k ∈ L.map (·.2) → Q (.there none) s) (no : k ∉ L.map (·.2) → Q (.free (way t.mask (thash P w k) K) false) s) :
    ∀ (f c : Nat) (stand : Option SetTable.Probe), stand.getD (t.probeStart (thash P w k)) = stp t.mask (thash P w k) c → c ≤ K → K - c < f →
      (∀ (i : Nat) (p : Addr × List Int), L[i]? = some p → p.2 = k → ∃ c', c ≤ c' ∧ c' < K ∧ t.place.toList[i]? = some (way t.mask (thash P w k) c')) →
      wpAny (model P w) A (setSearchFrom a (.ref x) (thash P w k) true f stand) Q E s
  | 0, _, _, _, _, z, _ => absurd z (Nat.not_lt_zero _)
  | f + 1, c, stand, es0, cK, lf, mine => by
    obtain ⟨ob, o1, o2, o3⟩ := R.obj
    have wq : ∀ q, (nth t.mask (stp t.mask (thash P w k) c) q).j = way t.mask (thash P w k) (c + q) := fun q => congrArg SetTable.Probe.j (stp_add ..)
    have hash : ∀ (i : Nat) (p : Addr × List Int), L[i]? = some p → ((es[i]?.map (·.1)).getD 0) = thash P w p.2 := fun i p e => by rw [R.row e]; rfl
    have answer := go_spec t R.tb.up R.tb.dum (fun i => (es[i]?.map (·.1)).getD 0) (thash P w k) (10 * SetTable.turns t.mask) (K - c) (stp t.mask (thash P w k) c) (nth_clean _ _ _ rfl) (by omega)
      (fun q l => by rw [wq]; exact o.2 _ (by omega)) (by rw [wq, Nat.add_sub_cancel' cK]; exact o.1)
    rw [setSearchFrom_succ]
    refine wpAny_bind (wpAny_setState_of o1 o3 R.fits ?_)
    dsimp only
    refine wp_if_neg R.whole ?_
    try refine wpAny_bind (wpAny_pure ?_)
    rw [es0]
    rcases answer with ⟨q, i, q1, q2, q3, q4, q5⟩ | ⟨q4, q5⟩
    · have q5 : t.probe (fun i => (es[i]?.map (·.1)).getD 0) (thash P w k) (stp t.mask (thash P w k) c) = some (.candidate (way t.mask (thash P w k) (c + q)) i (stp t.mask (thash P w k) (c + (q + 1)))) := by
        rw [← wq, ← stp_add]
        exact q5
      rw [wq] at q2
      rw [q5]
      dsimp only
      have il : i < L.length := by
        have z := (List.getElem?_eq_some_iff.mp q2).1
        rw [Array.length_toList, R.tb.len] at z
        exact z
      obtain ⟨p, ep_⟩ : ∃ p, L[i]? = some p := ⟨_, List.getElem?_eq_getElem il⟩
      have pm : p ∈ L := List.mem_of_getElem? ep_
      have live : t.slot (way t.mask (thash P w k) (c + q)) = .live i := slot_live R.tb.up q2
      have rest : wpAny (model P w) A (searchRest a (.ref x) (thash P w k) true f es t (way t.mask (thash P w k) (c + q)) i (stp t.mask (thash P w k) (c + (q + 1)))) Q E s := by
        unfold searchRest
        rw [R.row ep_]
        dsimp only
        refine wpAny_bind (wpAny_holding (wpAny_eqBool_tuple hu (R.tups p pm) hx ?_))
        refine wpAny_bind (wpAny_setState_of o1 o3 R.fits ?_)
        dsimp only
        by_cases same : p.2 = k
        · exact wp_if_pos (by simp [same]) (wpAny_pure (yes (List.mem_map.mpr ⟨p, pm, same⟩)))
        · refine wp_if_neg (by simp [same]) ?_
          try refine wpAny_bind (wpAny_pure ?_)
          rw [sameMem]
          dsimp only
          simp only [if_true, live, R.row ep_]
          refine wpAny_bind (wpAny_isSame_ref_self (wpAny_bind (wpAny_pure ?_)))
          simp only [if_true]
          refine wp_if_neg (by simp [same]) ?_
          refine Sb.seek R hx hu lim o yes no f (c + (q + 1)) _ rfl (by omega) (by omega) fun i0 p0 h0 e0 => ?_
          obtain ⟨c', a1, a2, a3⟩ := mine i0 p0 h0 e0
          refine ⟨c', Nat.lt_of_not_le fun z => ?_, a2, a3⟩
          have z : c' ≤ c + q := z
          rcases Nat.lt_or_eq_of_le z with z | z
          · refine q4 (c' - c) i0 (by omega) ?_ ((hash i0 p0 h0).trans (by rw [e0]))
            rw [wq, show c + (c' - c) = c' by omega]
            exact a3
          · rw [z] at a3
            have s0 := slot_live R.tb.up a3
            rw [live] at s0
            cases s0
            rw [ep_] at h0
            cases h0
            exact same e0
      by_cases hl : t.led = true
      · refine wp_if_neg (by simp [hl]) ?_
        try refine wpAny_bind (wpAny_pure ?_)
        exact rest
      · refine wp_if_pos (by simp [hl]) ?_
        refine wpAny_bind (seen_tup hx (fun y hy => ?_) ?_)
        · obtain ⟨e, m, rfl⟩ := List.mem_map.mp hy
          have m2 : e ∈ es.toList := by
            have z : e ∈ es ∧ e.1 = thash P w k := by simpa using m
            exact Array.mem_toList_iff.mpr z.1
          rw [R.ent] at m2
          obtain ⟨r, rm, rfl⟩ := List.mem_map.mp m2
          exact ⟨r.2, r.1, rfl, R.tups r rm⟩
        · refine wp_if_neg (by decide) ?_
          try refine wpAny_bind (wpAny_pure ?_)
          exact rest
    · have q5 : t.probe (fun i => (es[i]?.map (·.1)).getD 0) (thash P w k) (stp t.mask (thash P w k) c) = some (.empty (way t.mask (thash P w k) K) none) := by
        rw [show way t.mask (thash P w k) K = way t.mask (thash P w k) (c + (K - c)) by rw [Nat.add_sub_cancel' cK], ← wq]
        exact q5
      rw [q5]
      dsimp only
      refine wpAny_pure (no fun hm => ?_)
      obtain ⟨p0, m0, e0⟩ := List.mem_map.mp hm
      obtain ⟨i0, h0⟩ := List.getElem?_of_mem m0
      obtain ⟨c', a1, a2, a3⟩ := mine i0 p0 h0 e0
      refine q4 (c' - c) i0 (by omega) ?_ ((hash i0 p0 h0).trans (by rw [e0]))
      rw [wq, show c + (c' - c) = c' by omega]
      exact a3
theorem Sb.search (R : Sb P w s.heap a L es ep t) {x : Addr} {k : List Int} (hx : IsT P w s.heap k x) (hu : A.units < cLine) {Q : SetFound → Shared → Prop} (yes : k ∈ L.map (·.2) → Q (.there none) s)
    (no : ∀ K, k ∉ L.map (·.2) → Hole t (thash P w k) K → Q (.free (way t.mask (thash P w k) K) false) s) : wpAny (model P w) A (setSearch a (.ref x) (thash P w k) true) Q E s := by
  obtain ⟨K, lim, o⟩ := R.tb.hole (by rw [List.length_map]; have := R.room; omega) (thash P w k)
  have big : K < 100000 := by
    have := R.tb.gm.le
    have z : K < 10 * (t.mask + 15) := lim
    omega
  refine R.seek hx hu lim o yes (fun n => no K n o) 100000 0 none rfl (Nat.zero_le _) (by omega) fun i p hp hk => ?_
  have il : i < t.place.toList.length := by
    rw [Array.length_toList, R.tb.len]
    exact (List.getElem?_eq_some_iff.mp hp).1
  obtain ⟨c, c1, c2⟩ := R.tb.ahead o (i := i) (by rw [List.getElem?_map, hp, ← hk]; rfl) (List.getElem?_eq_getElem il)
  exact ⟨c, Nat.zero_le _, c1, by rw [c2]; exact List.getElem?_eq_getElem il⟩
/-- laid anew in a larger table -/
theorem relay_tb {ob : Obj} (o1 : s.heap.get? a = some ob) (o2 : ob.ExactSet) (o3 : ob.data = .set es ep t) (ent : es.toList = rowsOf P w L) (T : Tb t (L.map fun p => thash P w p.2)) (l : L.length ≤ t.mask)
    (nod : (L.map (·.2)).Nodup) (tups : ∀ p ∈ L, IsT P w s.heap p.2 p.1) (pln : t.plain = true) (ord : w.params.followText "set-order" = true ∨ t.led = true) {wanted M : Nat}
    (hw : SetTable.sizeAbove wanted = M + 1) (g : Gm M) (room : L.length * 5 < M * 3) {Q : Unit → Shared → Prop}
    (hQ : ∀ h' L' es' ep' t', Heap.SameBut a s.heap h' → Sb P w h' a L' es' ep' t' → L'.Perm L → Q () { s with heap := h' }) : wpAny (model P w) A (setRelay a wanted) Q E s := by
  have sz := rows_len ent
  have gl := g.le
  obtain ⟨t', order, e, pm, T', em, el, ep'⟩ := relaid_tb t (hs := es.map (·.1)) (wanted := wanted) (M := M) (by rw [hw, Nat.add_sub_cancel]) g (by rw [Array.size_map, sz]; omega)
  rw [Array.size_map, sz] at pm
  obtain ⟨L2, r1, r2, r3⟩ := order_rows L es order ent pm
  rw [← r3] at T'
  have sz2 : (order.filterMap (es[·]?)).size = es.size := by rw [rows_len r1, r2.length_eq, sz]
  rw [setRelay_eq]
  refine wpAny_bind (wpAny_setState_of o1 o3 (fits_tb T sz l) ?_)
  dsimp only
  refine wp_if_neg (by rw [hw, sizeLine_eq]; omega) ?_
  try refine wpAny_bind (wpAny_pure ?_)
  rw [e]
  dsimp only
  refine wpAny_bind ?_
  refine wp_if_neg (by rw [sz2]; simp) ?_
  try refine wpAny_bind (wpAny_pure ?_)
  refine wpAny_pure ?_
  dsimp only
  refine wpAny_storeSet_of o1 o3 ?_ (by rw [sz2, sz, sizeLine_eq]; omega)
  have sb : Heap.SameBut a s.heap (s.heap.update a (Obj.putSet (order.filterMap (es[·]?)) t')) := Heap.SameBut.update ..
  exact hQ _ L2 _ (ep + 1) t' sb { obj := ⟨_, store_at o1 o3, ⟨o2.1, o2.2.1, o2.2.2⟩, rfl⟩, ent := r1, tb := T', nod := (r2.map (·.2)).nodup_iff.mpr nod, tups := fun p m => isT_same (tups p (r2.mem_iff.mp m)) o1 o3 sb, pln := ep'.trans pln, ord := by rw [el]; exact ord, room := by rw [r2.length_eq, em]; exact room } r2
/-- the next table, where one is full -/
theorem Gm.grow {m n : Nat} (g : Gm m) (lo : n * 5 < m * 3) (hi : (n + 1) * 5 ≥ m * 3) (few : n + 1 < 4915) : ∃ M, SetTable.sizeAbove (SetTable.grown (n + 1)) = M + 1 ∧ Gm M ∧ (n + 1) * 5 < M * 3 := by
  obtain ⟨z1, z2, z3, z4, z5⟩ := grown_sizes
  rcases g with rfl | rfl | rfl | rfl | rfl | rfl
  · obtain rfl : n = 4 := by omega
    exact ⟨31, z1, .inr (.inl rfl), by decide⟩
  · obtain rfl : n = 18 := by omega
    exact ⟨127, z2, .inr (.inr (.inl rfl)), by decide⟩
  · obtain rfl : n = 76 := by omega
    exact ⟨511, z3, .inr (.inr (.inr (.inl rfl))), by decide⟩
  · obtain rfl : n = 306 := by omega
    exact ⟨2047, z4, .inr (.inr (.inr (.inr (.inl rfl)))), by decide⟩
  · obtain rfl : n = 1228 := by omega
    exact ⟨8191, z5, .inr (.inr (.inr (.inr (.inr rfl)))), by decide⟩
  · omega
/-- one more put in, or there already -/
theorem Sb.add (R : Sb P w s.heap a L es ep t) {x : Addr} {k : List Int} (hx : IsT P w s.heap k x) (hu : A.units < cLine) (few : k ∉ L.map (·.2) → L.length + 1 < 4915) {Q : Bool → Shared → Prop}
    (hQ : ∀ b h' L' es' ep' t', Heap.SameBut a s.heap h' → Sb P w h' a L' es' ep' t' → (k ∈ L.map (·.2) → L' = L) → (k ∉ L.map (·.2) → L'.Perm ((x, k) :: L)) → Q b { s with heap := h' }) :
    wpAny (model P w) A (setAddHashed a (.ref x) (thash P w k)) Q E s := by
  obtain ⟨ob, o1, o2, o3⟩ := R.obj
  have sz := R.size
  unfold setAddHashed
  refine wpAny_holding ?_
  rw [show (100000 : Nat) = 99999 + 1 from rfl, setAddHashedIn_succ]
  refine wpAny_bind (wpAny_setState_of o1 o3 R.fits ?_)
  dsimp only
  refine wp_if_neg (by simp [byScan, Value.scannable]) ?_
  try refine wpAny_bind (wpAny_pure ?_)
  refine wpAny_bind (R.search hx hu (fun m => ?_) fun K m o => ?_)
  · dsimp only
    exact wpAny_pure (hQ false s.heap L es ep t (Heap.SameBut.refl a s.heap) R (fun _ => rfl) fun z => absurd m z)
  dsimp only
  refine wpAny_bind (wpAny_setState_of o1 o3 R.fits ?_)
  dsimp only
  obtain ⟨p1, T, fl⟩ := R.tb.put o rfl
  have f1 : (t.put (way t.mask (thash P w k) K)).2 = SetTable.below t.place (way t.mask (thash P w k) K) := rfl
  have f2 : (t.put (way t.mask (thash P w k) K)).1.plain = true := R.pln
  have f3 : (t.put (way t.mask (thash P w k) K)).1.mask = t.mask := rfl
  have f4 : (t.put (way t.mask (thash P w k) K)).1.led = t.led := rfl
  rw [List.length_map] at p1 fl
  generalize t.put (way t.mask (thash P w k) K) = tp at T fl f1 f2 f3 f4 ⊢
  obtain ⟨t1, p⟩ := tp
  dsimp only at T fl f1 f2 f3 f4 ⊢
  rw [← f1] at p1 T
  first
    | (refine wpAny_bind ?_; refine wp_if_pos f2 ?_; refine hashBy_tup hx ?_)
    | refine wp_if_pos f2 (wpAny_bind (hashBy_tup hx ?_))
  simp only [if_true]
  have ent : (SetTable.insertAt es p (thash P w k, Value.ref x)).toList = rowsOf P w (L.take p ++ (x, k) :: L.drop p) := by rw [SetTable.toList_insertAt, rows_put, R.ent]
  have pm := put_perm L p (x, k)
  have T : Tb t1 ((L.take p ++ (x, k) :: L.drop p).map fun p => thash P w p.2) := by
    rw [List.map_append, List.map_cons, List.map_take, List.map_drop]
    exact T
  generalize SetTable.insertAt es p (thash P w k, Value.ref x) = es1 at ent ⊢
  generalize L.take p ++ (x, k) :: L.drop p = L1 at ent pm T
  have ln : L1.length = L.length + 1 := pm.length_eq
  have nod : (L1.map (·.2)).Nodup := (pm.map (·.2)).nodup_iff.mpr (by rw [List.map_cons]; exact List.nodup_cons.mpr ⟨m, R.nod⟩)
  have sz1 := rows_len ent
  have fw := few m
  refine wpAny_bind (wpAny_storeSet_of o1 o3 ?_ (by rw [sz1, ln, sizeLine_eq]; omega))
  have sb : Heap.SameBut a s.heap (s.heap.update a (Obj.putSet es1 t1)) := Heap.SameBut.update ..
  have at1 := store_at (es' := es1) (t' := t1) o1 o3
  generalize s.heap.update a (Obj.putSet es1 t1) = h1 at sb at1 ⊢
  have tups : ∀ r ∈ L1, IsT P w h1 r.2 r.1 := fun r rm => isT_same ((List.mem_cons.mp (pm.mem_iff.mp rm)).elim (fun e => by rw [e]; exact hx) (R.tups r)) o1 o3 sb
  have ord : w.params.followText "set-order" = true ∨ t1.led = true := by rw [f4]; exact R.ord
  have rm := R.room
  by_cases full : t1.tooFull = true
  · have hi : (L.length + 1) * 5 ≥ t.mask * 3 := by
      unfold SetTable.tooFull at full
      rw [fl, f3, decide_eq_true_eq] at full
      exact full
    obtain ⟨M, g1, g2, g3⟩ := R.tb.gm.grow rm hi fw
    first
      | (refine wpAny_bind ?_; refine wp_if_pos (by simp [full]) ?_)
      | (refine wp_if_pos (by simp [full]) ?_; refine wpAny_bind ?_)
    rw [sz]
    refine relay_tb (s := { s with heap := h1 }) at1 ⟨o2.1, o2.2.1, o2.2.2⟩ rfl ent T (by omega) nod tups f2 ord g1 g2 (by omega) fun h2 L2 es2 ep2 t2 sb2 R2 pm2 => ?_
    exact wpAny_pure (hQ true h2 L2 es2 ep2 t2 (sb.trans sb2) R2 (fun z => absurd z m) fun _ => pm2.trans pm)
  · first
      | refine wp_if_neg (by simp [full]) ?_
      | (refine wpAny_bind ?_; refine wp_if_neg (by simp [full]) ?_; refine wpAny_pure ?_)
    refine wpAny_pure (hQ true h1 L1 es1 (ep + 1) t1 sb { obj := ⟨_, at1, ⟨o2.1, o2.2.1, o2.2.2⟩, rfl⟩, ent := ent, tb := T, nod := nod, tups := tups, pln := f2, ord := ord, room := ?_ } (fun z => absurd z m) fun _ => pm)
    unfold SetTable.tooFull at full
    rw [fl, decide_eq_true_eq] at full
    omega
end
end Bm

/-! set(a list of tuples of ints); its members gathered and sorted, any number of them. -/
namespace Bm
open PySem PySem.Spec PyProof.Rows L2
/-- no more than 4914 different ones -/
def Cap (ks : List (Addr × List Int)) : Prop := ∀ D : List (List Int), D.Nodup → (∀ k ∈ D, k ∈ ks.map (·.2)) → D.length < 4915
theorem take_mem {α : Type} {l : List α} {n : Nat} {x : α} (h : x ∈ l.take n) : x ∈ l := List.mem_of_mem_take h
section
variable {P : Program} {w : World} {A : Around} {E : Value → Shared → Prop} {s : Shared}
theorem Sb.still {h h' : Heap} {a : Addr} {L : List (Addr × List Int)} {es : Array (Int × Value)} {ep : Nat} {t : SetTable} (R : Sb P w h a L es ep t) (ha : ∀ o, h.get? a = some o → h'.get? a = some o) (ht : ∀ p ∈ L, IsT P w h' p.2 p.1) : Sb P w h' a L es ep t :=
  { R with obj := R.obj.imp fun o q => ⟨ha o q.1, q.2⟩, tups := ht }
/-- the set just made -/
abbrev newSet (w : World) : Obj := { cls := .type "set", dict := none, data := .set #[] 0 (.fresh 0 0 (!w.params.followText "set-order")) }
theorem sb_none {h : Heap} {a : Addr} (e : h.get? a = some (newSet w)) : Sb P w h a [] #[] 0 (.fresh 0 0 (!w.params.followText "set-order")) := by
  have z : ∀ {α : Type} {x : α}, x ∈ ([] : List α) → False := fun m => by cases m
  refine { obj := ⟨_, e, ⟨rfl, rfl, rfl⟩, rfl⟩, ent := rfl, tb := ⟨.nil, rfl, rfl, .inl rfl, fun x m => (z m).elim, fun i h j q => by simp at q⟩, nod := .nil, tups := fun p m => (z m).elim, pln := rfl, ord := ?_, room := by show 0 * 5 < 7 * 3; decide }
  cases hb : w.params.followText "set-order"
  · exact .inr (by simp [SetTable.fresh, hb])
  · exact .inl rfl
/-- what the update's loop does with each item -/
theorem put_all {I : Addr} {fp wr : List Addr} {G : Array GenState → Array GenState → Prop} {n : Nat} {Pv : Nat → Value → Prop} {St : Nat → Shared → Prop} {R : Result → Shared → Prop} (W : WalksS P w A.in1 I fp wr G n Pv St)
    (S : Addr) (Sf : S ∉ fp) (ks : List (Addr × List Int)) (hn : n = ks.length) (cap : Cap ks) (val : ∀ i v, Pv i v → ∃ p, ks[i]? = some p ∧ v = .ref p.1)
    (h0 : Heap) (kt : ∀ p ∈ ks, IsT P w h0 p.2 p.1) (S0 : h0.get? S = none) (w0 : ∀ b ∈ wr, h0.get? b = none) (hu : A.in1.units < cLine) :
    ∀ (m i : Nat) (s : Shared), n - i = m → i ≤ n → St i s → (∀ b o, h0.get? b = some o → s.heap.get? b = some o) → (∃ L es ep t, Sb P w s.heap S L es ep t ∧ Got ks i L) →
      (∀ s' L es ep t, Moved (S :: wr) G s s' → Sb P w s'.heap S L es ep t → Got ks n L → (∀ b o, h0.get? b = some o → s'.heap.get? b = some o) → R (.ok (.ret .none)) s') →
      codeAny (model P w) A (.builtin "set.update.loop" ⟨[.ref S, .ref I], []⟩) R s := by
  have apart : ∀ {s s' : Shared}, Moved wr G s s' → (∀ b o, h0.get? b = some o → s.heap.get? b = some o) → ∀ b o, h0.get? b = some o → s'.heap.get? b = some o :=
    fun mv kp b o e => mv.heap b o (fun m => by rw [w0 b m] at e; cases e) (kp b o e)
  have Sw : S ∉ wr := fun m => Sf (W.sub _ m)
  have wider : ∀ b ∈ wr, b ∈ S :: wr := fun _ m => List.mem_cons_of_mem _ m
  intro m
  induction m with
  | zero =>
    intro i s em li st kp ⟨L, es, ep, t, RS, g⟩ fin
    obtain rfl : i = n := by omega
    refine codeAny_builtin F.entry_set_update_loop ?_
    rw [Around.under_plainId F.plain_set_update_loop _]
    show wpAny _ A.in1 (pyNext (.ref I) >>= _) _ _ s
    refine wpAny_bind (W.done s _ _ st fun s' mv => ?_)
    have kp' := apart mv kp
    show wpAny _ A.in1 (ret Value.none) _ _ s'
    exact wpAny_pure (fin s' L es ep t (mv.mono wider) (RS.still (fun o e => mv.heap S o Sw e) fun p q => isT_keep (kt p (take_mem (g.sub p q))) kp') g kp')
  | succ m ih =>
    intro i s em li st kp ⟨L, es, ep, t, RS, g⟩ fin
    have lt : i < n := by omega
    refine codeAny_builtin F.entry_set_update_loop ?_
    rw [Around.under_plainId F.plain_set_update_loop _]
    show wpAny _ A.in1 (pyNext (.ref I) >>= _) _ _ s
    refine wpAny_bind (W.item i s _ _ lt st fun v s' pv st' mv => ?_)
    obtain ⟨p, ep_, rfl⟩ := val i v pv
    have pm : p ∈ ks := List.mem_of_getElem? ep_
    have kp' := apart mv kp
    have RS' : Sb P w s'.heap S L es ep t := RS.still (fun o e => mv.heap S o Sw e) fun q m => isT_keep (kt q (take_mem (g.sub q m))) kp'
    have hx : IsT P w s'.heap p.2 p.1 := isT_keep (kt p pm) kp'
    show wpAny _ A.in1 (holding [Value.ref p.1] (setAdd S (.ref p.1)) >>= _) _ _ s'
    refine wpAny_bind (wpAny_holding ?_)
    unfold setAdd
    refine wpAny_holding (wpAny_bind (wpAny_pyHash_tuple hu hx ?_))
    refine Sb.add (s := { s' with toks := s'.toks + (p.2.length + 1) }) RS' hx hu (fun no => ?_) fun b h' L' es' ep' t' sb R2 same more => ?_
    · have z := cap (p.2 :: L.map (·.2)) (List.nodup_cons.mpr ⟨no, RS.nod⟩) fun k m => by
        rcases List.mem_cons.mp m with rfl | m
        · exact List.mem_map.mpr ⟨p, pm, rfl⟩
        · obtain ⟨q, qm, rfl⟩ := List.mem_map.mp m
          exact List.mem_map.mpr ⟨q, take_mem (g.sub q qm), rfl⟩
      simpa using z
    · have g' : Got ks (i + 1) L' := (Classical.em (p.2 ∈ L.map (·.2))).elim (fun c => by rw [same c]; exact g.same ep_ c) fun c => g.more ep_ (more c)
      have kp2 : ∀ b o, h0.get? b = some o → h'.get? b = some o := fun b o e => by
        rw [sb.2 b (fun z => by rw [z, S0] at e; cases e)]
        exact kp' b o e
      refine wpAny_pure ⟨plainId_quiet F.plain_set_update_loop _, ih (i + 1) _ (by omega) lt (W.frame _ s' _ _ st' (Nat.le_add_right _ _) fun b fb o e => ?_) kp2 ⟨L', es', ep', t', R2, g'⟩ fun s2 L2 es2 ep2 t2 mv2 R3 g2 kp3 => ?_⟩
      · rw [sb.2 b (fun z => Sf (z ▸ fb))]
        exact e
      · refine fin s2 L2 es2 ep2 t2 (Moved.trans W.gtrans ((mv.mono wider).then_heap (Nat.le_add_right _ _) fun b o nb e => ?_) mv2) R3 g2 kp3
        rw [sb.2 b (fun z => nb (by rw [z]; exact List.mem_cons_self))]
        exact e
theorem none_from {h : Heap} {b : Addr} (l : h.objs.size ≤ b) : h.get? b = none := by
  cases q : h.get? b with
  | none => rfl
  | some o => exact absurd (Nat.lt_of_lt_of_le (Heap.lt_size q) l) (Nat.lt_irrefl _)
set_option maxHeartbeats 3200000 in
/-- set(a list) -/
theorem set_of_list {l : Addr} {items : Array Value} (ks : List (Addr × List Int)) {Q : Value → Shared → Prop} (hh : A.handled = none) (hl : s.heap.IsList l items) (it : items.toList = ks.map fun p => Value.ref p.1)
    (kt : ∀ p ∈ ks, IsT P w s.heap p.2 p.1) (cap : Cap ks) (hu : A.units + 3 < cLine)
    (q : ∀ (h' : Heap) (tk : Nat) L es ep t, Sb P w h' s.heap.objs.size L es ep t → Got ks ks.length L → (∀ b o, s.heap.get? b = some o → h'.get? b = some o) → Q (.ref s.heap.objs.size) { s with heap := h', toks := tk }) :
    wpAny (model P w) A (call (.type "set") [.ref l]) Q E s := by
  have isz : items.size = ks.length := by rw [← Array.length_toList, it, List.length_map]
  have ft := F.called_set
  obtain ⟨⟨c, tl, mro_⟩, made_, sub_, notType_, can_⟩ := (⟨ft.mro, ft.made, ft.sub, ft.notType, ft.canCreate⟩ : _ ∧ _ ∧ _ ∧ _ ∧ _)
  have one_ := F.typeCall_set_1 (.ref l)
  refine wpAny_call (codeAny_of_tree ?_)
  refine wpAny_pure (a := PySem.Fin.again (.builtin "type.__call__" ⟨[.type "set", .ref l], []⟩)) ⟨Code.quiet_builtin _ (by decide +kernel), codeAny_builtin F.entry_type_call ?_⟩
  rw [Around.under_plain (weight_type_call_type "set" [.ref l] []) rfl]
  repeat (any_goals (first | assumption | wp_step))
  refine codeAny_mono (code_set_led1 (.ref l) (E := E) (Q₁ := fun ob s₁ => ob = .ref s.heap.objs.size ∧ s₁ = { s with heap := s.heap.push (newSet w) }) ⟨rfl, rfl⟩) fun r s₁ hr => ?_
  cases r with
  | error e => exact hr
  | ok fl =>
    cases fl with
    | ret ob =>
      obtain ⟨rfl, rfl⟩ := hr
      have hS : (s.heap.push (newSet w)).get? s.heap.objs.size = some (newSet w) := Heap.get?_push_size _ rfl
      have hT : Shared.TypeIs { s with heap := s.heap.push (newSet w) } (.ref s.heap.objs.size) "set" := ⟨_, hS, rfl⟩
      have hli := F.called_set.init.lookup
      have hbi := F.called_set.init.bind (.ref s.heap.objs.size)
      repeat (any_goals (first | assumption | wp_step))
      refine codeAny_mono (codeAny_call_builtin (R := wants (fun r s₂ => r = .none ∧ ∃ h' tk L es ep t, s₂ = { s with heap := h', toks := tk } ∧ Sb P w h' s.heap.objs.size L es ep t ∧ Got ks ks.length L ∧
          (∀ b o, s.heap.get? b = some o → h'.get? b = some o)) E) F.called_set.init.plain F.entry_set_init (check_set_init_1 hT ?_)) fun r₂ s₂ hr₂ => ?_
      · obtain ⟨⟨ocls, odict, odata, oslots⟩, hol, hcl, nl, hdl⟩ := hl
        simp only at hcl hdl
        subst hcl; subst hdl
        have lS : l < s.heap.objs.size := Heap.lt_size hol
        have hol' := Heap.get?_push_of_some (newSet w) hol
        have hsls := F.sub_list_set
        have hslf := F.sub_list_frozenset
        have hne : (Value.type "list" == Value.type "dict") = false := by decide
        have hl1 : (s.heap.push (newSet w)).IsList l items := ⟨_, hol', rfl, nl, rfl⟩
        have z1 : (s.heap.push (newSet w)).objs.size = s.heap.objs.size + 1 := Heap.size_push ..
        unfold Builtin.«set.__init__» noKeywords Builtin.Frozenset.updateFrom
        generalize hPI : pyIter = PI
        wp_walk
        subst hPI
        refine wpAny_pyIter_list hl1 ?_
        refine wpAny_bind (wpAny_runValue ?_)
        have hh3 : A.in1.in1.in1.handled = none := by simp [hh]
        refine put_all ((Walks.list hh3 _ l (by rw [z1]; exact Nat.ne_of_lt (Nat.lt_succ_of_lt lS)) items).toS) s.heap.objs.size
          (by rw [z1]; simp only [List.mem_cons, List.not_mem_nil, or_false, not_or]; exact ⟨Nat.ne_of_lt (Nat.lt_succ_self _), Nat.ne_of_gt lS⟩) ks isz cap (fun i v hv => ?_) s.heap kt (none_from (Nat.le_refl _)) (fun b hb => none_from (by rw [List.mem_singleton.mp hb, z1]; exact Nat.le_succ _)) hu (items.size - 0) 0 _ (by omega) (Nat.zero_le _)
          ⟨⟨_, Heap.get?_push_size _ rfl, rfl, rfl⟩, (hl1.push _)⟩ (fun b o e => Heap.get?_push_of_some _ (Heap.get?_push_of_some _ e)) ⟨[], #[], 0, _, sb_none (Heap.get?_push_of_some _ hS), Got.zero ks⟩ fun s' L es ep t mv RS g kp => ?_
        · have z : items.toList[i]? = some v := (Array.getElem?_toList ..).trans hv
          rw [it, List.getElem?_map] at z
          obtain ⟨p, e1, e2⟩ := Option.map_eq_some_iff.mp z
          exact ⟨p, e1, e2.symm⟩
        · obtain ⟨h', g2, d', tk', os'⟩ := s'
          obtain rfl : g2 = s.gens := mv.gens
          obtain rfl : d' = s.drawn := mv.drawn
          obtain rfl : os' = s.os := mv.os
          show wpAny _ _ _ _ _ _
          refine wpAny_pure ?_
          show wpAny _ _ (ret Value.none) _ _ _
          rw [isz] at g
          exact wpAny_pure ⟨rfl, h', tk', L, es, ep, t, rfl, RS, g, kp⟩
      · cases r₂ with
        | error e => exact hr₂
        | ok fl₂ =>
          cases fl₂ with
          | ret r =>
            obtain ⟨rfl, h', tk, L, es, ep, t, rfl, RS, g, kp⟩ := hr₂
            repeat (any_goals (first | assumption | wp_step))
            exact q _ _ _ _ _ _ RS g kp
          | _ => exact hr₂.elim
    | _ => exact hr.elim
end
end Bm

/-! sorted(set(a list of tuples of ints)). -/
namespace Bm
open PySem PySem.Spec PyProof.Rows L2 Evl
/-! ### the order of rows -/
def lexL : List Int → List Int → Bool
  | [], [] => false
  | [], _ :: _ => true
  | _ :: _, [] => false
  | x :: xs, y :: ys => if x = y then lexL xs ys else decide (x < y)
theorem lexL_asym : ∀ x y, lexL x y = true → lexL y x = false
  | [], [], h => by cases h
  | [], _ :: _, _ => rfl
  | _ :: _, [], h => by cases h
  | x :: xs, y :: ys, h => by
    unfold lexL at h ⊢
    by_cases e : x = y
    · rw [if_pos e] at h
      rw [if_pos e.symm]
      exact lexL_asym xs ys h
    · rw [if_neg e, decide_eq_true_eq] at h
      rw [if_neg (Ne.symm e), decide_eq_false_iff_not]
      omega
theorem lexL_tr : ∀ x y z, lexL y x = false → lexL z y = false → lexL z x = false
  | [], _, [], _, _ => rfl
  | [], _, _ :: _, _, _ => rfl
  | _ :: _, [], _, h, _ => by cases h
  | _ :: _, _ :: _, [], _, h => by cases h
  | x :: xs, y :: ys, z :: zs, h, k => by
    unfold lexL at h k ⊢
    by_cases e : y = x
    · rw [if_pos e] at h
      by_cases d : z = y
      · rw [if_pos d] at k
        rw [if_pos (d.trans e)]
        exact lexL_tr xs ys zs h k
      · rw [if_neg d, decide_eq_false_iff_not] at k
        rw [if_neg (by omega), decide_eq_false_iff_not]
        omega
    · rw [if_neg e, decide_eq_false_iff_not] at h
      have k' : ¬ z < y := by
        by_cases d : z = y
        · omega
        · rw [if_neg d, decide_eq_false_iff_not] at k
          exact k
      rw [if_neg (by omega), decide_eq_false_iff_not]
      omega
section
variable {prog : Program} {w : World} {A : Around} {E : Value → Shared → Prop} {s : Shared}
theorem lex_at {Q : Bool → Shared → Prop} {b : Bool} {ns : List Int} : ∀ {xs ys : List Value} {ms : List Int} (i : Nat), IntsAre xs ns → IntsAre ys ms → ns.length = ms.length → Q (lexL ns ms) s → PySem.W.KatLex prog w A b false Q (xs.zip ys) i s := by
  induction ns with
  | nil =>
    intro xs ys ms i hx hy l q
    cases hx
    cases hy with
    | nil => exact PySem.W.kat_nil q
    | cons _ _ _ => simp at l
  | cons p ns ih =>
    intro xs ys ms i hx hy l q
    cases hx with
    | cons _ t hx =>
    cases hy with
    | nil => simp at l
    | cons r u hy =>
    refine PySem.W.kat_cons (wpAny_eqBool_int ?_)
    unfold lexL at q
    by_cases e : p = r
    · rw [if_pos e] at q
      rw [beq_iff_eq.mpr e]
      exact PySem.W.kat_yes (ih (i + 1) hx hy (by simpa using l) q)
    · rw [if_neg e] at q
      rw [beq_eq_false_iff_ne.mpr e]
      exact PySem.W.kat_no (TS.oneLt_ints _ q)
/-- the tuples' first ints -/
theorem heads_at {h : Heap} : ∀ vs : List Value, (∀ v ∈ vs, ∃ n ns, TS.TupInts h v (n :: ns)) → ∃ fs, PySem.W.KatTups h vs fs ∧ fs.length = vs.length ∧ ∀ f, f ∈ fs → ∃ n t, f = Value.int n t
  | [], _ => ⟨[], .nil, rfl, fun f m => by cases m⟩
  | v :: vs, x => by
    obtain ⟨fs, k1, k2, k3⟩ := heads_at vs fun u m => x u (List.mem_cons_of_mem _ m)
    obtain ⟨n, ns, a, xs, rfl, ⟨o, o1, o2, z, o3⟩, i⟩ := x v List.mem_cons_self
    obtain ⟨xl⟩ := xs
    obtain ⟨t, us, ex, i⟩ : ∃ t us, xl = Value.int n t :: us ∧ IntsAre us ns := by
      cases i with
      | cons _ t i => exact ⟨t, _, rfl, i⟩
    subst ex
    refine ⟨.int n t :: fs, PySem.W.KatTups.cons o1 o2 o3 rfl k1, by rw [List.length_cons, List.length_cons, k2], fun f m => ?_⟩
    rcases List.mem_cons.mp m with rfl | m
    · exact ⟨n, t, rfl⟩
    · exact k3 f m
theorem rows_cmp {h : Heap} {vs : List Value} {a : Addr} {d : Nat} (hd : 1 ≤ d) (l0 : 0 < vs.length) (tup : ∀ v ∈ vs, ∃ ns, TS.TupInts s.heap v ns ∧ ns.length = d) (ha : ∀ o, s.heap.get? a = some o → o.cls ≠ .type "tuple") :
    SrtO.SortableO prog w A s a vs fun v u => lexL (TS.intsOf s.heap v) (TS.intsOf s.heap u) := fun h' keep => by
  have kp : ∀ {v : Value} {ns : List Int}, TS.TupInts s.heap v ns → TS.TupInts h' v ns := fun x => x.keeps fun b o e c => keep b o (fun z => ha o (z ▸ e) c) e
  obtain ⟨fs, f1, f2, f3⟩ := heads_at (h := h') vs fun v m => by
    obtain ⟨ns, t, l⟩ := tup v m
    cases ns with
    | nil => rw [← l] at hd; cases hd
    | cons n ns => exact ⟨n, ns, kp t⟩
  refine ⟨PyProof.Rows.tuples' true, fun Q E q => ?_, fun p r hp hr => ?_⟩
  · refine PySem.W.kat_kind (T := .type "int") f1 (by omega) (fun f m => ?_) (by rfl) ?_
    · obtain ⟨n, t, rfl⟩ := f3 f m
      exact PySem.W.Looks.now
    · rw [show (Value.type "int" != Value.type "tuple") = true by first | decide +kernel | rfl | decide]
      exact q
  · obtain ⟨ns, t1, l1⟩ := tup _ hp
    obtain ⟨ms, t2, l2⟩ := tup _ hr
    have e1 := t1.ints
    have e2 := t2.ints
    obtain ⟨a1, xs, z1, ⟨o, o1, o2, n, o3⟩, i1⟩ := kp t1
    obtain ⟨a2, ys, z2, ⟨o', u1, u2, n', u3⟩, i2⟩ := kp t2
    show wpAny _ _ (PyProof.Rows.keyLt' (PyProof.Rows.tuples' true) p.1 r.1) (fun b s' => s' = _ ∧ b = lexL (TS.intsOf s.heap p.1) (TS.intsOf s.heap r.1)) _ _
    rw [e1, e2, z1, z2]
    refine PySem.W.kat_lt o1 o3 u1 u3 ?_
    have sz : decide (xs.size < ys.size) = false := by
      have l3 := i1.length
      have l4 := i2.length
      rw [Array.length_toList] at l3 l4
      exact decide_eq_false (by omega)
    rw [sz]
    exact lex_at 0 i1 i2 (by omega) ⟨rfl, rfl⟩
end
/-! ### the members gathered -/
section
variable {P : Program} {w : World} {A : Around} {E : Value → Shared → Prop} {s : Shared} {a : Addr} {L : List (Addr × List Int)} {es : Array (Int × Value)} {ep : Nat} {t : SetTable}
/-- the iterator over a set, at its first place -/
abbrev si0 (a : Addr) (n ep : Nat) : Obj := { cls := .type "set_iterator", data := .fields #[rawInt 0, rawInt 0, .ref a, rawInt (n : Int), rawInt (ep : Int)] }
theorem iter_sb {Q : Value → Shared → Prop} (R : Sb P w s.heap a L es ep t) (q : Q (.ref s.heap.objs.size) { s with heap := s.heap.push (si0 a es.size ep) }) : wpAny (model P w) A (pyIter (.ref a)) Q E s := by
  obtain ⟨o, o1, o2, o3⟩ := R.obj
  have T : s.TypeIs (.ref a) "set" := ⟨o, o1, o2.1⟩
  have none_ : (!t.plain && decide (es.size > 1)) = false := by rw [R.pln]; rfl
  refine wpAny_pyIter_slot T F.slot_set_iter (wpAny_call_entry F.slot_set_iter T entry_s_iter ?_ (F.args_set_iter_1 _))
  unfold Builtin.«frozenset.__iter__» Builtin.Frozenset.sizeOf
  refine wpAny_bind (wpAny_of_eq (a := a) (by rfl) (wpAny_bind (wpAny_bind (wpAny_setEntries_of o1 o3 R.fits (wpAny_pure ?_)))))
  first | refine wpAny_bind (setDrawn_at ⟨o, o1, o2.1, o3⟩ R.fits ?_) | refine wpAny_bind (wpAny_bind (setDrawn_at ⟨o, o1, o2.1, o3⟩ R.fits ?_))
  rw [none_]
  refine wp_if_neg (by simp) ?_
  first
    | exact wpAny_bind (wpAny_pure (wpAny_bind (wpAny_setEpoch_of o1 o3 R.fits (wpAny_bind (wpAny_newObj_type (wpAny_pure ⟨_, rfl, "set_iterator", _, ⟨_, Heap.get?_push_size _ rfl, rfl⟩, slot_si_next.lookup, q⟩))))))
    | exact wpAny_pure (wpAny_bind (wpAny_setEpoch_of o1 o3 R.fits (wpAny_bind (wpAny_newObj_type (wpAny_pure ⟨_, rfl, "set_iterator", _, ⟨_, Heap.get?_push_size _ rfl, rfl⟩, slot_si_next.lookup, q⟩)))))
theorem Sb.at_ {h : Heap} (R : Sb P w h a L es ep t) : SetAt h a es ep t := by
  obtain ⟨o, o1, o2, o3⟩ := R.obj
  exact ⟨o, o1, o2.1, o3⟩
/-- it gives the members, each once -/
theorem sb_gives {h : Heap} {S I : Addr} (R : Sb P w h a L es ep t) (hh : A.handled = none) (hI : h.get? I = some (si0 a es.size ep)) (ne : a ≠ I) (nS : S ≠ a) (nI : S ≠ I) : Gives1 P w A h S I fun acc => acc.toList.Perm (es.toList.map (·.2)) := by
  have few : es.size ≤ sizeLine := by rw [R.size, sizeLine_eq]; have := R.few; omega
  have here : IsSI h I (.int 0 0) 0 a es.size ep := ⟨_, hI, rfl, rfl⟩
  have away : S ∉ [I, a] := by simp [nS, nI]
  have plain_ : (!t.plain && decide (es.size > 1)) = false := by rw [R.pln]; rfl
  have told : ∀ (xs : Array (Int × Value)) (acc : Array Value) (n : Nat), n = xs.size → ItemsOf (fun j v => (xs[j]?).map (·.2) = some v) acc n → acc.toList = xs.toList.map (·.2) := fun xs acc n en i => by
    subst en
    have z : ItemsOf (fun j v => (xs[j]?).map (·.2) = some v) acc (xs.toList.map (·.2)).length := by rw [List.length_map, Array.length_toList]; exact i
    exact items_out z fun j v q => by rw [List.getElem?_map, Array.getElem?_toList]; exact q
  cases hb : w.params.followText "set-order" with
  | true =>
    have sz : (pickOrder (w.params.setOrder a ep) es).size ≤ sizeLine := by
      rw [← Array.length_toList, (pick_perm (w.params.setOrder a ep) es).length_eq, Array.length_toList]
      exact few
    exact ⟨_, _, _, _, walks_text (P := P) (ep := ep) (t := t) hh ne R.fits hb, sz, away, ⟨here, R.at_⟩, fun acc i => by
      show acc.toList.Perm _
      rw [told _ acc _ rfl i]
      exact (pick_perm (w.params.setOrder a ep) es).map _⟩
  | false =>
    have led := R.ord.resolve_left (by simp [hb])
    exact ⟨_, _, _, _, walks_led (P := P) (ep := ep) (t := t) hh ne R.fits R.tb.up hb plain_ led, few, away, ⟨here, R.at_⟩, fun acc i => by
      show acc.toList.Perm _
      rw [told es acc _ rfl i]⟩
theorem collect_sb {Q : List Value → Shared → Prop} (R : Sb P w s.heap a L es ep t) (hh : A.handled = none)
    (q : ∀ s' out, (∀ b o, s.heap.get? b = some o → s'.heap.get? b = some o) → s.heap.objs.size ≤ s'.heap.objs.size → s'.gens = s.gens → s'.os = s.os → out.Perm (es.toList.map (·.2)) → Q out s') :
    wpAny (model P w) A (collect (.ref a)) Q E s := by
  obtain ⟨o, o1, o2, _⟩ := R.obj
  have la : a < s.heap.objs.size := Heap.lt_size o1
  have z1 : (pushL s.heap).objs.size = s.heap.objs.size + 1 := size_push' _ _
  have R1 : Sb P w (pushL s.heap) a L es ep t := R.still (fun _ => pushL_old) fun p m => isT_keep (R.tups p m) fun _ _ => pushL_old
  have new_ : ∀ b u, (pushL s.heap).get? b = some u → ((pushL s.heap).push (si0 a es.size ep)).get? b = some u := fun _ _ e => Heap.get?_push_of_some _ e
  have R2 : Sb P w ((pushL s.heap).push (si0 a es.size ep)) a L es ep t := R1.still (new_ a) fun p m => isT_keep (R1.tups p m) new_
  have nS : s.heap.objs.size ≠ a := Nat.ne_of_gt la
  have nI : s.heap.objs.size ≠ (pushL s.heap).objs.size := by rw [z1]; exact Nat.ne_of_lt (Nat.lt_succ_self _)
  have ne : a ≠ (pushL s.heap).objs.size := by rw [z1]; exact Nat.ne_of_lt (Nat.lt_succ_of_lt la)
  refine gather (T := "set") (I := (pushL s.heap).objs.size) (h₂ := (pushL s.heap).push (si0 a es.size ep)) o1 o2.1 (by decide) (by decide) (fun E' Q' z => iter_sb (s := { s with heap := pushL s.heap }) R1 z) (fun E' Q' z => ?_) new_ (fun h k => ?_)
    fun h' tk acc r le k => q _ _ (fun b u e => k b u (fun z => ?_) e) le rfl rfl r
  · have T2 : Shared.TypeIs { s with heap := (pushL s.heap).push (si0 a es.size ep) } (.ref a) "set" := ⟨o, new_ _ _ (pushL_old o1), o2.1⟩
    unfold Builtin.List.listLengthHint
    refine wpAny_bind (wpAny_specialOf T2 F.slot_set_len.lookup ?_)
    (generalize hid : ("set.__len__" : String) = id0; wp_delta; rw [show splitId id0 = some ("set", "__len__") from by subst hid; decide +kernel]; subst hid)
    refine wpAny_bind (wpAny_isInstance (b := true) T2 sub_set_self ?_)
    exact wpAny_bind (m := typeOf (.ref a)) (wpAny_typeOf T2 (wpAny_pure (z _ s.toks)))
  · exact sb_gives (R2.still (fun u e => k a u nS.symm e) fun p m => isT_keep (R.tups p m) fun b u e => k b u (Nat.ne_of_lt (Heap.lt_size e)) (new_ _ _ (pushL_old e))) (by simp [hh])
      (k _ _ nI.symm (Heap.get?_push_size _ rfl)) ne nS nI
  · have lt := Heap.lt_size e
    rw [z, z1] at lt
    exact absurd lt (Nat.not_lt_of_le (Nat.le_succ _))
/-- rows in another turn are the members in another turn -/
theorem perm_back {α β : Type} {f : α → β} {xs ys : List β} (h : xs.Perm ys) : ∀ {L : List α}, L.map f = xs → ∃ L' : List α, L'.Perm L ∧ L'.map f = ys := by
  induction h with
  | nil => exact fun {L} e => ⟨L, .refl _, e⟩
  | cons x _ ih =>
    intro L e
    cases L with
    | nil => cases e
    | cons l L =>
      obtain ⟨e1, e2⟩ := List.cons.inj e
      obtain ⟨L', p1, p2⟩ := ih e2
      exact ⟨l :: L', p1.cons l, by rw [List.map_cons, e1, p2]⟩
  | swap x y zs =>
    intro L e
    match L, e with
    | a :: b :: L, e =>
      obtain ⟨e1, e2⟩ := List.cons.inj e
      obtain ⟨e3, e4⟩ := List.cons.inj e2
      exact ⟨b :: a :: L, .swap _ _ _, by rw [List.map_cons, List.map_cons, e1, e3, e4]⟩
    | [a], e => cases e
    | [], e => cases e
  | trans _ _ ih1 ih2 =>
    intro L e
    obtain ⟨L1, p1, p2⟩ := ih1 e
    obtain ⟨L2, q1, q2⟩ := ih2 p2
    exact ⟨L2, q1.trans p1, q2⟩
/-- sorted(a set of rows of one length): the members, each once, in a new list -/
theorem sorted_sb {Q : Value → Shared → Prop} (R : Sb P w s.heap a L es ep t) (hh : A.handled = none) {d : Nat} (hd : 1 ≤ d) (hL : ∀ p ∈ L, p.2.length = d)
    (q : ∀ s' p (out : Array Value) (c : Nat) (L' : List (Addr × List Int)), (∀ b o, s.heap.get? b = some o → s'.heap.get? b = some o) → s'.gens = s.gens → s'.os = s.os → s.heap.objs.size ≤ p → s'.heap.get? p = some (seqObj "list" out c) →
      out.toList = L'.map (fun q => Value.ref q.1) → L'.Perm L → Q (.ref p) s') : wpAny (model P w) A (call (.builtin "sorted") [.ref a]) Q E s := by
  refine Calls.call_function_entry kind_sorted plain_sorted entry_sorted (args_sorted1 _) ?_
  unfold Builtin.«sorted»
  refine wpAny_bind (m := checkCount "sorted" 1 1 _) (wpAny_pure ?_)
  refine wpAny_bind (collect_sb (A := A.in1) R hh fun s1 vs k1 hz g1 o1 pm => ?_)
  have es2 : es.toList.map (·.2) = L.map fun q => Value.ref q.1 := by
    rw [R.ent, rowsOf, List.map_map]
    rfl
  rw [es2] at pm
  have vl : vs.length = L.length := by rw [pm.length_eq, List.length_map]
  have fw := R.few
  have vz : vs.length ≤ sizeLine := by rw [sizeLine_eq]; omega
  refine wpAny_bind (wpAny_newList ?_ vz)
  have oL : (s1.heap.push (seqObj "list" vs.toArray 0)).get? s1.heap.objs.size = some (seqObj "list" vs.toArray 0) := Heap.get?_push_size _ rfl
  have tk : ∀ q ∈ L, TS.TupInts (s1.heap.push (seqObj "list" vs.toArray 0)) (.ref q.1) q.2 := fun q m => tupInts_of (P := P) (w := w) (isT_keep (R.tups q m) fun b u e => Heap.get?_push_of_some _ (k1 b u e))
  have swo : SrtO.Swo (fun v u : Value => lexL (TS.intsOf (s1.heap.push (seqObj "list" vs.toArray 0)) v) (TS.intsOf (s1.heap.push (seqObj "list" vs.toArray 0)) u)) := ⟨fun x y => lexL_asym _ _, fun x y z => lexL_tr _ _ _⟩
  refine wpAny_bind (wpAny_holding (wpAny_call_entry slot_list_sort ⟨_, oL, rfl⟩ entry_list_sort (SrtO.list_sort_ord (s := { s1 with heap := s1.heap.push (seqObj "list" vs.toArray 0) }) swo oL vz (fun l2 => ?_) fun out srt stb => ⟨_, rfl, ?_⟩) (args_list_sort _)))
  · refine rows_cmp (h := s1.heap) (d := d) hd (by omega) (fun v m => ?_) fun o e => ?_
    · obtain ⟨q, qm, rfl⟩ := List.mem_map.mp (pm.mem_iff.mp m)
      exact ⟨q.2, tk q qm, hL q qm⟩
    · have e' : some o = some (seqObj "list" vs.toArray 0) := e.symm.trans oL
      cases e'
      exact fun c => absurd (Value.type.inj c) (by decide)
  · obtain ⟨c, hc⟩ := PyProof.Rows.sortedHeap_at (vs := vs) (out := out.toArray) oL
    have pm2 : out.Perm (L.map fun q => Value.ref q.1) := stb.perm.trans pm
    obtain ⟨L', pl, e'⟩ := perm_back (f := fun q : Addr × List Int => Value.ref q.1) pm2.symm (L := L) rfl
    refine wpAny_pure ⟨_, rfl, q _ s1.heap.objs.size out.toArray c L' (fun b u e => ?_) g1 o1 hz hc (by simpa using e'.symm) pl⟩
    have z := k1 b u e
    have lt := Heap.lt_size z
    show (PyProof.Rows.sortedHeap (s1.heap.push (seqObj "list" vs.toArray 0)) s1.heap.objs.size vs out.toArray).get? b = some u
    rw [PyProof.Rows.sortedHeap_old (Nat.ne_of_lt lt) (by rw [size_push']; exact Nat.lt_succ_of_lt lt)]
    exact Heap.get?_push_of_some _ z
end
end Bm

/-! sorted(set(rows)) as an expression. -/
namespace Bm
open PySem PySem.Spec PyProof.Rows L2 Evl
def tSortSet (K : PySem.W.Frag) (ta : TE) : TE := fun σ H Q => ta σ H fun x H1 => ∃ (l : Addr) (ks : List (Addr × List Int)) (d : Nat), x = .ref l ∧ SqL K H1 l (ks.map fun p => V.ref p.1) ∧ (∀ p ∈ ks, SqT K H1 p.1 (p.2.map V.int)) ∧ Cap ks ∧ 1 ≤ d ∧ (∀ p ∈ ks, p.2.length = d) ∧
  ∀ (L' : List (Addr × List Int)) (p : Addr), (∀ q ∈ L', q ∈ ks) → (∀ q ∈ ks, q.2 ∈ L'.map (·.2)) → (L'.map (·.2)).Nodup → L'.length < 4915 → H1 p = none → Q (.ref p) (upd H1 p (.lst (L'.map fun q => V.ref q.1)))
section
variable {X : Cx}
theorem pe_sortSet {K : PySem.W.Frag} {a : Expr} {ta : TE} {p p2 q pos : Pos} (hc : X.calm = true) (hu : X.A.units + 64 < cLine) (hg : Gl X "sorted") (hm : X.mg "sorted" = none) (hg2 : Gl X "set") (hm2 : X.mg "set" = none) (ha : PE X a ta)
    (hK : X.K = K := by rfl) (na : starEach [a] X.env = (false, eval a X.env) :: starEach [] X.env := by rfl) : PE X (.Call (.Name "sorted" p) [.Call (.Name "set" p2) [a] [] q] [] pos) (tSortSet K ta) := by
  subst hK
  refine ⟨fun pins s σ H Q I h => ?_⟩
  refine Call_ (ld_blt I hg hm PyProof.Rows.boot_sorted ?_)
  refine PyProof.Rows.callWith_builtin1 (PyProof.Rows.args_cons ?_ rfl) rfl rfl
  refine Call_ (ld_blt I hg2 hm2 PyProof.Rows.boot_set ?_)
  refine PyProof.Rows.callWith_type1 (PyProof.Rows.args_cons (thn (ha.run pins s σ H _ I h) fun v s1 ⟨x, H1, I1, r1, q1⟩ => PyProof.Rows.args_nil ?_) na) na rfl
  obtain ⟨l, ks, d, rfl, hl, hk, cap, hd, hlen, q1⟩ := q1
  cases r1
  obtain ⟨its, rv, pl, _⟩ := I1.list hl
  refine set_of_list (P := X.prog) (w := X.w) ks (I1.ok.hd hc) pl.isList (by simpa using refs_of_vals rv) (fun p m => I1.isT (hk p m)) cap (by omega) fun h' tk L es ep t R g kp => ?_
  refine PyProof.Rows.args_nil ?_
  have sub : ∀ p ∈ L, p ∈ ks := fun p m => take_mem (g.sub p m)
  refine sorted_sb (s := { s1 with heap := h', toks := tk }) R (I1.ok.hd hc) hd (fun p m => hlen p (sub p m)) fun s' p out c L' k2 gg oo hp hg' eo pm => ?_
  have kk : ∀ b o, s1.heap.get? b = some o → s'.heap.get? b = some o := fun b o e => k2 b o (kp b o e)
  have fw := R.few
  have ln := pm.length_eq
  have z1 : s1.heap.objs.size ≤ h'.objs.size := by
    obtain ⟨ob, e, _⟩ := R.obj
    exact Nat.le_of_lt (Heap.lt_size e)
  have hp' : s1.heap.objs.size ≤ p := Nat.le_trans z1 hp
  have hn : H1 p = none := I1.hok.fresh hp'
  have fit : (L'.map fun q => V.ref q.1).length ≤ sizeLine := by rw [List.length_map, sizeLine_eq]; omega
  have vals : Vals (L'.map fun q => V.ref q.1) out.toList := by rw [eo]; exact vals_of_refs L'
  have J : Inv X pins σ (upd H1 p (.lst (L'.map fun q => V.ref q.1))) { s1 with heap := s'.heap, gens := s'.gens, drawn := s'.drawn, toks := s'.toks } :=
    I1.call (ch := []) (Un.laid kk hp' hn) (I1.hok.laid kk hp' ⟨fit, out.toList, c, vals, hg'⟩) (by rw [gg]; exact I1.bare) (fun _ z => nomatch z)
  have e : s' = { s1 with heap := s'.heap, gens := s'.gens, drawn := s'.drawn, toks := s'.toks } := by
    cases s'
    cases s1
    cases oo
    rfl
  rw [e]
  refine ⟨.ref p, _, J, rfl, q1 L' p (fun r m => sub r (pm.mem_iff.mp m)) (fun r m => (pm.map (·.2)).mem_iff.mpr (g.all r (by rw [List.take_length]; exact m))) ((pm.map (·.2)).nodup_iff.mpr R.nod) (by omega) hn⟩
end
theorem hu64 {k : Nat} {A : Around} (hr : Room k A) : A.units + 64 < cLine := by have := hr.un; omega
/-! ### as data -/
section
variable {K : PySem.W.Frag} {σ : L2.St} {H : Hp} {te : TE} {D : Ends}
theorem rows_keys {H : Hp} : ∀ {rs : List (List Int)} {xs : List V}, RpA H (rs.map iD) xs → ∃ ks : List (Addr × List Int), xs = ks.map (fun p => V.ref p.1) ∧ ks.map (·.2) = rs ∧ ∀ p ∈ ks, Rp H (iD p.2) (.ref p.1)
  | [], _, r => by
    cases r
    exact ⟨[], rfl, rfl, fun p m => by cases m⟩
  | n :: rs, _, r => by
    obtain ⟨v, t, rfl, r1, r2⟩ := r
    obtain ⟨ks, e1, e2, e3⟩ := rows_keys r2
    obtain ⟨a, o, e, _⟩ := r1.iD
    subst e
    refine ⟨(a, n) :: ks, by rw [e1]; rfl, by rw [← e2]; rfl, fun p m => ?_⟩
    rcases List.mem_cons.mp m with rfl | m
    · exact r1
    · exact e3 p m
theorem keys_rows {H : Hp} : ∀ {ks : List (Addr × List Int)}, (∀ p ∈ ks, Rp H (iD p.2) (.ref p.1)) → RpA H ((ks.map (·.2)).map iD) (ks.map fun p => V.ref p.1)
  | [], _ => RpA.nil
  | p :: ks, h => RpA.cons (h p List.mem_cons_self) (keys_rows fun q m => h q (List.mem_cons_of_mem _ m))
/-- x = sorted(set(rows)): a new list of the same rows, fewer than 4915 -/
theorem s_asgSortSet {rs : List (List Int)} {i d : Nat} (h : EvD te σ H (vD rs)) (hd : 1 ≤ d) (hl : ∀ r ∈ rs, r.length = d) (cap : ∀ U : List (List Int), U.Nodup → (∀ k ∈ U, k ∈ rs) → U.length < 4915)
    (k : ∀ v H1 rows, Ex H H1 → Rp H1 (vD rows) v → (∀ r, r ∈ rows ↔ r ∈ rs) → rows.Nodup → D.nx (σ.set i (some v)) H1) : tAsg (tSortSet K te) (gName i) D σ H := h H (Ex.refl H) _ fun v H1 e r => by
  obtain ⟨a, xs, rfl, h1, h2⟩ := r
  obtain ⟨ks, rfl, rfl, tup⟩ := rows_keys h2
  refine ⟨a, ks, d, rfl, SqL.of h1, fun p m => ?_, cap, hd, fun p m => hl p.2 (List.mem_map.mpr ⟨p, m, rfl⟩), fun L' p s1 s2 nd l hn => ?_⟩
  · obtain ⟨b, o, e1, e2, _⟩ := (tup p m).iD
    cases e1
    exact .inl (.inr ⟨o, e2⟩)
  · have e2 : Ex H1 (upd H1 p (.lst (L'.map fun q => V.ref q.1))) := Ex.new hn
    refine k _ _ (L'.map (·.2)) (e.trans e2) ⟨p, _, rfl, upd_same, keys_rows fun q m => (tup q (s1 q m)).ex e2⟩ (fun r => ⟨fun m => ?_, fun m => ?_⟩) nd
    · obtain ⟨q, qm, rfl⟩ := List.mem_map.mp m
      exact List.mem_map.mpr ⟨q, s1 q qm, rfl⟩
    · obtain ⟨q, qm, rfl⟩ := List.mem_map.mp m
      exact s2 q qm
end
end Bm

namespace Bm
open PySem PySem.Spec PyProof.Rows L2 Evl
def topS (i : Nat) : Stmt := PySem.Challenge.pw_beatmakers_k04_whole_the_fewest_voters.main.body.getD i (.Pass ⟨0, 0, 0, 0⟩)
abbrev s_look_at_count : Stmt := topS 7
theorem c_look_at_count : FnScope ["many"] ["many"] (defScope s_look_at_count) := ⟨rfl, rfl, rfl, by decide +kernel, rfl, by decide +kernel, by decide +kernel⟩
abbrev s_look_at_web : Stmt := topS 9
theorem c_look_at_web : FnScope ["many", "web", "met", "one", "other"] ["many", "web"] (defScope s_look_at_web) := ⟨rfl, rfl, rfl, by decide +kernel, rfl, by decide +kernel, by decide +kernel⟩
abbrev s_orders_of : Stmt := topS 12
theorem c_orders_of : FnScope ["many", "rows", "k", "longer", "row", "thing"] ["many"] (defScope s_orders_of) := ⟨rfl, rfl, rfl, by decide +kernel, rfl, by decide +kernel, by decide +kernel⟩
abbrev s_signs_of : Stmt := topS 13
theorem c_signs_of : FnScope ["many", "voter", "found", "one", "other"] ["many", "voter"] (defScope s_signs_of) := ⟨rfl, rfl, rfl, by decide +kernel, rfl, by decide +kernel, by decide +kernel⟩
abbrev s_wished_signs : Stmt := topS 14
theorem c_wished_signs : FnScope ["many", "web", "found", "one", "other"] ["many", "web"] (defScope s_wished_signs) := ⟨rfl, rfl, rfl, by decide +kernel, rfl, by decide +kernel, by decide +kernel⟩
abbrev s_sign_of : Stmt := topS 15
theorem c_sign_of : FnScope ["number"] ["number"] (defScope s_sign_of) := ⟨rfl, rfl, rfl, by decide +kernel, rfl, by decide +kernel, by decide +kernel⟩
abbrev s_added : Stmt := topS 16
theorem c_added : FnScope ["one", "other", "k"] ["one", "other"] (defScope s_added) := ⟨rfl, rfl, rfl, by decide +kernel, rfl, by decide +kernel, by decide +kernel⟩
abbrev s_fewest : Stmt := topS 17
theorem c_fewest : FnScope ["many", "web", "wished", "single", "rows", "leads", "longer", "voter", "signs", "number"] ["many", "web"] (defScope s_fewest) := ⟨rfl, rfl, rfl, by decide +kernel, rfl, by decide +kernel, by decide +kernel⟩
abbrev s__law_cell_at : Stmt := topS 19
theorem c__law_cell_at : FnScope ["script", "k"] ["script", "k"] (defScope s__law_cell_at) := ⟨rfl, rfl, rfl, by decide +kernel, rfl, by decide +kernel, by decide +kernel⟩
abbrev s__law_whole : Stmt := topS 20
theorem c__law_whole : FnScope ["found"] ["found"] (defScope s__law_whole) := ⟨rfl, rfl, rfl, by decide +kernel, rfl, by decide +kernel, by decide +kernel⟩
abbrev s__law_order : Stmt := topS 21
theorem c__law_order : FnScope ["cell", "many", "left", "order", "k"] ["cell", "many"] (defScope s__law_order) := ⟨rfl, rfl, rfl, by decide +kernel, rfl, by decide +kernel, by decide +kernel⟩
abbrev s__law_voters : Stmt := topS 22
theorem c__law_voters : FnScope ["script", "start", "many", "most", "count", "voters", "more", "k"] ["script", "start", "many", "most"] (defScope s__law_voters) := ⟨rfl, rfl, rfl, by decide +kernel, rfl, by decide +kernel, by decide +kernel⟩
abbrev s__law_lead : Stmt := topS 23
theorem c__law_lead : FnScope ["voters", "one", "other", "ahead", "voter"] ["voters", "one", "other"] (defScope s__law_lead) := ⟨rfl, rfl, rfl, by decide +kernel, rfl, by decide +kernel, by decide +kernel⟩
abbrev s__law_beats : Stmt := topS 24
theorem c__law_beats : FnScope ["many", "voters", "found", "one", "other"] ["many", "voters"] (defScope s__law_beats) := ⟨rfl, rfl, rfl, by decide +kernel, rfl, by decide +kernel, by decide +kernel⟩
abbrev s__law_web : Stmt := topS 25
theorem c__law_web : FnScope ["script", "start", "many", "cell", "way", "web", "stand", "one", "other", "wish", "turn"] ["script", "start", "many"] (defScope s__law_web) := ⟨rfl, rfl, rfl, by decide +kernel, rfl, by decide +kernel, by decide +kernel⟩
abbrev s__law_orders : Stmt := topS 26
theorem c__law_orders : FnScope ["many", "rows", "k", "longer", "row", "thing"] ["many"] (defScope s__law_orders) := ⟨rfl, rfl, rfl, by decide +kernel, rfl, by decide +kernel, by decide +kernel⟩
abbrev s__law_keeps : Stmt := topS 27
theorem c__law_keeps : FnScope ["web", "order", "beat"] ["web", "order"] (defScope s__law_keeps) := ⟨rfl, rfl, rfl, by decide +kernel, rfl, by decide +kernel, by decide +kernel⟩
abbrev s__law_is_order : Stmt := topS 28
theorem c__law_is_order : FnScope ["found", "many", "thing"] ["found", "many"] (defScope s__law_is_order) := ⟨rfl, rfl, rfl, by decide +kernel, rfl, by decide +kernel, by decide +kernel⟩
abbrev s__law_is_voters : Stmt := topS 29
theorem c__law_is_voters : FnScope ["found", "many", "voter"] ["found", "many"] (defScope s__law_is_voters) := ⟨rfl, rfl, rfl, by decide +kernel, rfl, by decide +kernel, by decide +kernel⟩
abbrev s__law_leads : Stmt := topS 30
theorem c__law_leads : FnScope ["many", "voters", "found", "one", "other"] ["many", "voters"] (defScope s__law_leads) := ⟨rfl, rfl, rfl, by decide +kernel, rfl, by decide +kernel, by decide +kernel⟩
abbrev s__law_signs : Stmt := topS 31
theorem c__law_signs : FnScope ["leads", "number"] ["leads"] (defScope s__law_signs) := ⟨rfl, rfl, rfl, by decide +kernel, rfl, by decide +kernel, by decide +kernel⟩
abbrev s__law_least : Stmt := topS 32
theorem c__law_least : FnScope ["many", "wished", "single", "rows", "count", "longer", "row", "voter", "more", "k"] ["many", "wished"] (defScope s__law_least) := ⟨rfl, rfl, rfl, by decide +kernel, rfl, by decide +kernel, by decide +kernel⟩
abbrev s__law_wished : Stmt := topS 33
theorem c__law_wished : FnScope ["many", "web", "wished", "one", "other"] ["many", "web"] (defScope s__law_wished) := ⟨rfl, rfl, rfl, by decide +kernel, rfl, by decide +kernel, by decide +kernel⟩
abbrev s_law : Stmt := topS 34
theorem c_law : FnScope ["script", "many", "web", "least", "handed", "turn", "found"] ["script"] (defScope s_law) := ⟨rfl, rfl, rfl, by decide +kernel, rfl, by decide +kernel, by decide +kernel⟩
local macro_rules | `(tactic| wtm_at "rp") => `(tactic| first | exact rp_int | exact rp_bl | exact rp_str | exact rp_non | assumption | (refine' Rp.ex ?e ?h; (case h => assumption); (case e => assumption)) | exact Own.rp (by assumption))
local macro_rules | `(tactic| wtm_at "side") => `(tactic| first | assumption | omega | decide | rfl | exact ⟨by omega, by omega⟩)
local macro_rules | `(tactic| wtm_at "es") => `(tactic| first | exact evs_nil | (refine' evs_cons ?a ?b; (case a => wtm_at "ev"); (case b => wtm_at "es")))
local macro_rules | `(tactic| wtm_at "ev") => `(tactic| first
  | exact evd_int | exact evd_str | exact evd_bl | exact evd_non
  | (refine' evd_var rfl ?h; (case h => wtm_at "rp"))
  | ((with_reducible refine' evd_op ?a ?b rd_addI); (case a => wtm_at "ev"); (case b => wtm_at "ev"))
  | ((with_reducible refine' evd_op ?a ?b rd_subI); (case a => wtm_at "ev"); (case b => wtm_at "ev"))
  | ((with_reducible refine' evd_op ?a ?b (rd_mulI ?c)); (case a => wtm_at "ev"); (case b => wtm_at "ev"); (case c => wtm_at "side"))
  | ((with_reducible refine' evd_op ?a ?b (rd_divI ?c)); (case a => wtm_at "ev"); (case b => wtm_at "ev"); (case c => wtm_at "side"))
  | ((with_reducible refine' evd_op ?a ?b (rd_modI ?c)); (case a => wtm_at "ev"); (case b => wtm_at "ev"); (case c => wtm_at "side"))
  | ((with_reducible refine' evd_op ?a ?b rd_ltI); (case a => wtm_at "ev"); (case b => wtm_at "ev"))
  | ((with_reducible refine' evd_op ?a ?b rd_leI); (case a => wtm_at "ev"); (case b => wtm_at "ev"))
  | ((with_reducible refine' evd_op ?a ?b rd_gtI); (case a => wtm_at "ev"); (case b => wtm_at "ev"))
  | ((with_reducible refine' evd_op ?a ?b rd_geI); (case a => wtm_at "ev"); (case b => wtm_at "ev"))
  | ((with_reducible refine' evd_op ?a ?b rd_eqI); (case a => wtm_at "ev"); (case b => wtm_at "ev"))
  | ((with_reducible refine' evd_op ?a ?b rd_neI); (case a => wtm_at "ev"); (case b => wtm_at "ev"))
  | ((with_reducible refine' evd_op ?a ?b rd_eqB); (case a => wtm_at "ev"); (case b => wtm_at "ev"))
  | ((with_reducible refine' evd_op ?a ?b rd_neB); (case a => wtm_at "ev"); (case b => wtm_at "ev"))
  | ((with_reducible refine' evd_op ?a ?b rd_isNo); (case a => wtm_at "ev"); (case b => wtm_at "ev"))
  | ((with_reducible refine' evd_op ?a ?b rd_notNo); (case a => wtm_at "ev"); (case b => wtm_at "ev"))
  | ((with_reducible refine' evd_op ?a ?b rd_inIL); (case a => wtm_at "ev"); (case b => wtm_at "ev"))
  | ((with_reducible refine' evd_op ?a ?b rd_niIL); (case a => wtm_at "ev"); (case b => wtm_at "ev"))
  | ((with_reducible refine' evd_op ?a ?b rd_inID); (case a => wtm_at "ev"); (case b => wtm_at "ev"))
  | ((with_reducible refine' evd_op ?a ?b rd_niID); (case a => wtm_at "ev"); (case b => wtm_at "ev"))
  | ((with_reducible refine' evd_neg ?a); (case a => wtm_at "ev"))
  | ((with_reducible refine' evd_tix ?a ?b ?c); (case a => wtm_at "ev"); (case b => wtm_at "ev"); (case c => wtm_at "side"))
  | ((with_reducible refine' evd_tup ?a ?b); (case a => wtm_at "es"); (case b => exact Nat.le_of_ble_eq_true rfl))
  | ((with_reducible refine' evd_cb ?a cd_lenL); (case a => wtm_at "es"))
  | ((with_reducible refine' evd_cb ?a cd_lenT); (case a => wtm_at "es"))
  | ((with_reducible refine' evd_cb ?a cd_intB); (case a => wtm_at "es"))
  | ((with_reducible refine' evd_cb ?a cd_tupL); (case a => wtm_at "es"))
  | ((with_reducible refine' evd_and ?a ?b); (case a => wtm_at "ev"); (case b => intro _; wtm_at "ev"))
  | ((with_reducible refine' evd_or ?a ?b); (case a => wtm_at "ev"); (case b => intro _; wtm_at "ev"))
  | ((with_reducible refine' evd_not ?a); (case a => wtm_at "ev"))
  | ((with_reducible refine' evd_op ?a ?b rd_neIL); (case a => wtm_at "ev"); (case b => wtm_at "ev"))
  | ((with_reducible refine' evd_op ?a ?b rd_eqIL); (case a => wtm_at "ev"); (case b => wtm_at "ev"))
  | ((with_reducible refine' EvN.toD ?a); (case a => wtm_at "en")))
local macro_rules | `(tactic| wtm_at "en") => `(tactic| first
  | ((with_reducible refine' evn_cb ?a cn_sortTI); (case a => wtm_at "es"))
  | ((with_reducible refine' evn_cb ?a cn_listL); (case a => wtm_at "es"))
  | ((with_reducible refine' evn_cb ?a cn_listT); (case a => wtm_at "es"))
  | ((with_reducible refine' evn_rng ?a ?b); (case a => wtm_at "ev"); (case b => wtm_at "side"))
  | ((with_reducible refine' evn_lst ?a ?b); (case a => wtm_at "es"); (case b => exact Nat.le_of_ble_eq_true rfl))
  | ((with_reducible refine' evn_cat ?a ?b ?c); (case a => wtm_at "ev"); (case b => wtm_at "ev"); (case c => wtm_at "side"))
  | ((with_reducible refine' evn_slL ?a ?b ?c); (case a => wtm_at "ev"); (case b => first | exact evp_none | (refine' evp_some ?d; (case d => wtm_at "ev"))); (case c => first | exact evp_none | (refine' evp_some ?d; (case d => wtm_at "ev")))))
local macro_rules | `(tactic| wtm_at "et") => `(tactic| first
  | exact et_yes
  | (refine' ett ?a; (case a => wtm_at "ev"))
  | (refine' etB ?a; (case a => wtm_at "ev"))
  | (refine' et_and ?a ?b; (case a => wtm_at "et"); (case b => intro _; wtm_at "et"))
  | (refine' et_or ?a ?b; (case a => wtm_at "et"); (case b => intro _; wtm_at "et"))
  | (refine' et_not ?a; (case a => wtm_at "et")))
local macro_rules | `(tactic| wtm_at "nx") => `(tactic| try dsimp only [tSeq, tNext])
/-! ### leads, beats, plain -/
/-- what one order gives: 1 where a is ahead of b -/
def sgn1 (v : List Int) (a b : Int) : Int := if ixOf a v < ixOf b v then 1 else -1
def leadF (vs : List (List Int)) (a b : Int) : Int := (vs.map fun v => sgn1 v a b).sum
theorem leadF_snoc (vs : List (List Int)) (v : List Int) (a b : Int) : leadF (vs ++ [v]) a b = leadF vs a b + sgn1 v a b := by
  unfold leadF
  rw [List.map_append, List.sum_append]
  simp
theorem leadF_app (vs ws : List (List Int)) (a b : Int) : leadF (vs ++ ws) a b = leadF vs a b + leadF ws a b := by
  unfold leadF
  rw [List.map_append, List.sum_append]
theorem leadF_take {vs : List (List Int)} {v : List Int} {i : Nat} (h : vs[i]? = some v) (a b : Int) : leadF (vs.take (i + 1)) a b = leadF (vs.take i) a b + sgn1 v a b := by
  rw [List.take_add_one, h]
  exact leadF_snoc _ _ _ _
theorem leadF_abs (a b : Int) : ∀ vs : List (List Int), -(vs.length : Int) ≤ leadF vs a b ∧ leadF vs a b ≤ (vs.length : Int)
  | [] => by simp [leadF]
  | v :: vs => by
    have ih := leadF_abs a b vs
    have e : leadF (v :: vs) a b = sgn1 v a b + leadF vs a b := by unfold leadF; rw [List.map_cons, List.sum_cons]
    rw [e, List.length_cons]
    unfold sgn1
    split <;> omega
/-- an order of m things -/
def isOrd (m : Int) (v : List Int) : Prop := srt v = rgI 0 m.toNat
instance (m : Int) (v : List Int) : Decidable (isOrd m v) := inferInstanceAs (Decidable (_ = _))
theorem isOrd_iff {m : Int} {v : List Int} : isOrd m v ↔ v.Perm (rgI 0 m.toNat) := srt_iff
theorem isOrd.mem {m : Int} {v : List Int} (h : isOrd m v) {x : Int} : x ∈ v ↔ 0 ≤ x ∧ x < m := by
  rw [(isOrd_iff.mp h).mem_iff, mem_rgI]
  omega
theorem isOrd.len {m : Int} {v : List Int} (h : isOrd m v) : v.length = m.toNat := by rw [(isOrd_iff.mp h).length_eq, rgI_len]
theorem rgI_nodup (lo : Int) (n : Nat) : (rgI lo n).Nodup := by
  unfold rgI
  exact List.pairwise_map.mpr (List.pairwise_lt_range.imp fun {i j} l z => by omega)
theorem isOrd.nodup {m : Int} {v : List Int} (h : isOrd m v) : v.Nodup := (isOrd_iff.mp h).nodup_iff.mpr (rgI_nodup 0 m.toNat)
def isVot (m : Int) (vs : List (List Int)) : Prop := ∀ v ∈ vs, isOrd m v
instance (m : Int) (vs : List (List Int)) : Decidable (isVot m vs) := inferInstanceAs (Decidable (∀ v ∈ vs, isOrd m v))
/-- the beats of one thing, the beats of all -/
def beatsOne (m : Int) (vs : List (List Int)) (a : Int) : List (Int × Int) := ((rgI 0 m.toNat).filter fun b => !decide (a = b) && decide (0 < leadF vs a b)).map fun b => (a, b)
def beatsF (m : Int) (vs : List (List Int)) : List (Int × Int) := ((rgI 0 m.toNat).map (beatsOne m vs)).flatten
/-! ### look_at_count -/
def okCount (m : Int) : Prop := 1 ≤ m ∧ m ≤ 6
instance (m : Int) : Decidable (okCount m) := inferInstanceAs (Decidable (_ ∧ _))
def sp_look_at_count (C : Addr) : Sp := spO (α := Int) (fun m => [.int m]) (fun _ => True) fun m => if okCount m then .val .none else .exc C
theorem len_look_at_count {C_BadCount : Addr} (vs : List V) (H : Hp) (Q : VK) (E : XK) (h : (sp_look_at_count C_BadCount) vs H Q E) : vs.length = 1 := by
  unfold sp_look_at_count at h
  obtain ⟨a, r, _⟩ := h
  rw [r.len]
  rfl
section
variable {P : Program} {w : World} {K : PySem.W.Frag} {mg : Str → Option Value} {base : Heap}
theorem ok_look_at_count {f : Addr} {fd : FuncData} (D : Df K mg "look_at_count" s_look_at_count ["many"] f fd) (Bi : Bi mg) {C_BadCount : Addr} (X_BadCount : Xc K mg "BadCount" C_BadCount) {t_MOST_THINGS : Tok} (K_MOST_THINGS : mg "MOST_THINGS" = some (.int 6 t_MOST_THINGS)) : FnOk P w K mg base (L2.CX P w) 1 f fd ["many"] (sp_look_at_count C_BadCount) := by
  refine D.F.okX c_look_at_count (fun vs H Q E h => len_look_at_count _ _ _ _ h) (fun cdv A outer s H vs Q E hr h => ?_)
  refine ⟨_, (pss_one (ps_if (PW.pt (pw_or (pt_cmpR op_ltI (pv 0) pe_int (nomark _)) (pw_or1 (pt_cmpR op_gtI (pv 0) (pe_glob (v := .int 6) (by rfl) K_MOST_THINGS ⟨_, rfl⟩) (nomark _)))))
      (pss_one (ps_raise rfl (takes_of rfl rfl rfl rfl) (pmk_own PySem.F.excBase_ValueError X_BadCount.x X_BadCount.g X_BadCount.k (raises_own X_BadCount.b X_BadCount.t) (by exact rfl))))
      pss_nil)), ?_⟩
  obtain ⟨m, ⟨v, _, rfl, rfl, rfl⟩, -, q⟩ := h
  dsimp only at q
  refine' s_if (b := _) ?t ?yes ?no
  case t => wtm_at "et"
  case yes =>
    intro hb H1 e1
    have hm : ¬ okCount m := by unfold okCount; simp at hb; omega
    rw [if_neg hm] at q
    exact q H1 e1
  case no =>
    intro hb H1 e1
    have hm : okCount m := by unfold okCount; simp at hb; omega
    rw [if_pos hm] at q
    exact q .non H1 e1 rfl
end
/-! ### look_at_voters -/
def chkV (C1 C2 : Addr) (m : Int) (vss : List (List Int)) (o : Out) : Out := if okCount m then (if isVot m vss then o else .exc C2) else .exc C1
theorem chkV_go {C1 C2 : Addr} {m : Int} {vss : List (List Int)} {o : Out} {H H1 : Hp} {Q : VK} {E : XK} {N : Hp → Prop} (q : Gives H Q E (chkV C1 C2 m vss o)) (e : Ex H H1)
    (k : okCount m → isVot m vss → Gives H Q E o → ∀ H2, Ex H1 H2 → N H2) : Gives H1 (fun _ H2 => N H2) E (chkV C1 C2 m vss (.val .none)) := by
  unfold chkV at q ⊢
  by_cases h1 : okCount m
  · rw [if_pos h1] at q ⊢
    by_cases h2 : isVot m vss
    · rw [if_pos h2] at q ⊢
      exact fun v H2 e2 _ => k h1 h2 q H2 e2
    · rw [if_neg h2] at q ⊢
      exact fun H2 e2 => q H2 (e.trans e2)
  · rw [if_neg h1] at q ⊢
    exact fun H2 e2 => q H2 (e.trans e2)
theorem chkV_ok {C1 C2 : Addr} {m : Int} {vss : List (List Int)} {o : Out} (h1 : okCount m) (h2 : isVot m vss) : chkV C1 C2 m vss o = o := by
  unfold chkV
  rw [if_pos h1, if_pos h2]
/-! ### beats_of -/
theorem filter_le {α : Type} (p : α → Bool) (xs : List α) : (xs.filter p).length ≤ xs.length := List.length_filter_le _ _
theorem beatsOne_len (m : Int) (vs : List (List Int)) (a : Int) : (beatsOne m vs a).length ≤ m.toNat := by
  unfold beatsOne
  rw [List.length_map]
  exact Nat.le_trans (filter_le _ _) (by rw [rgI_len]; exact Nat.le_refl _)
theorem flat_len {α : Type} {k : Nat} : ∀ {xss : List (List α)}, (∀ xs ∈ xss, xs.length ≤ k) → xss.flatten.length ≤ xss.length * k
  | [], _ => by simp
  | xs :: xss, h => by
    rw [List.flatten_cons, List.length_append, List.length_cons, Nat.succ_mul]
    have := h xs List.mem_cons_self
    have := flat_len (xss := xss) fun y m => h y (List.mem_cons_of_mem _ m)
    omega
/-- the beats of the things below i -/
def beatsTo (m : Int) (vs : List (List Int)) (i : Nat) : List (Int × Int) := ((rgI 0 i).map (beatsOne m vs)).flatten
theorem beatsTo_succ (m : Int) (vs : List (List Int)) (i : Nat) : beatsTo m vs (i + 1) = beatsTo m vs i ++ beatsOne m vs (i : Int) := by
  unfold beatsTo
  rw [rgI_snoc, List.map_append, List.flatten_append]
  simp
theorem beatsTo_len {m : Int} (h : 0 ≤ m ∧ m ≤ 6) (vs : List (List Int)) {i : Nat} (hi : i ≤ 6) : (beatsTo m vs i).length ≤ 36 := by
  unfold beatsTo
  refine Nat.le_trans (flat_len (k := 6) fun xs hx => ?_) ?_
  · obtain ⟨a, _, rfl⟩ := List.mem_map.mp hx
    exact Nat.le_trans (beatsOne_len m vs a) (by omega)
  · rw [List.length_map, rgI_len]
    omega
end Bm

namespace Bm
open PySem PySem.Spec PyProof.Rows L2 Evl
local macro_rules | `(tactic| wtm_at "rp") => `(tactic| first | exact rp_int | exact rp_bl | exact rp_str | exact rp_non | assumption | (refine' Rp.ex ?e ?h; (case h => assumption); (case e => assumption)) | exact Own.rp (by assumption))
local macro_rules | `(tactic| wtm_at "side") => `(tactic| first | assumption | omega | decide | rfl | exact ⟨by omega, by omega⟩)
local macro_rules | `(tactic| wtm_at "es") => `(tactic| first | exact evs_nil | (refine' evs_cons ?a ?b; (case a => wtm_at "ev"); (case b => wtm_at "es")))
local macro_rules | `(tactic| wtm_at "ev") => `(tactic| first
  | exact evd_int | exact evd_str | exact evd_bl | exact evd_non
  | (refine' evd_var rfl ?h; (case h => wtm_at "rp"))
  | ((with_reducible refine' evd_op ?a ?b rd_addI); (case a => wtm_at "ev"); (case b => wtm_at "ev"))
  | ((with_reducible refine' evd_op ?a ?b rd_subI); (case a => wtm_at "ev"); (case b => wtm_at "ev"))
  | ((with_reducible refine' evd_op ?a ?b (rd_mulI ?c)); (case a => wtm_at "ev"); (case b => wtm_at "ev"); (case c => wtm_at "side"))
  | ((with_reducible refine' evd_op ?a ?b (rd_divI ?c)); (case a => wtm_at "ev"); (case b => wtm_at "ev"); (case c => wtm_at "side"))
  | ((with_reducible refine' evd_op ?a ?b (rd_modI ?c)); (case a => wtm_at "ev"); (case b => wtm_at "ev"); (case c => wtm_at "side"))
  | ((with_reducible refine' evd_op ?a ?b rd_ltI); (case a => wtm_at "ev"); (case b => wtm_at "ev"))
  | ((with_reducible refine' evd_op ?a ?b rd_leI); (case a => wtm_at "ev"); (case b => wtm_at "ev"))
  | ((with_reducible refine' evd_op ?a ?b rd_gtI); (case a => wtm_at "ev"); (case b => wtm_at "ev"))
  | ((with_reducible refine' evd_op ?a ?b rd_geI); (case a => wtm_at "ev"); (case b => wtm_at "ev"))
  | ((with_reducible refine' evd_op ?a ?b rd_eqI); (case a => wtm_at "ev"); (case b => wtm_at "ev"))
  | ((with_reducible refine' evd_op ?a ?b rd_neI); (case a => wtm_at "ev"); (case b => wtm_at "ev"))
  | ((with_reducible refine' evd_op ?a ?b rd_eqB); (case a => wtm_at "ev"); (case b => wtm_at "ev"))
  | ((with_reducible refine' evd_op ?a ?b rd_neB); (case a => wtm_at "ev"); (case b => wtm_at "ev"))
  | ((with_reducible refine' evd_op ?a ?b rd_isNo); (case a => wtm_at "ev"); (case b => wtm_at "ev"))
  | ((with_reducible refine' evd_op ?a ?b rd_notNo); (case a => wtm_at "ev"); (case b => wtm_at "ev"))
  | ((with_reducible refine' evd_op ?a ?b rd_inIL); (case a => wtm_at "ev"); (case b => wtm_at "ev"))
  | ((with_reducible refine' evd_op ?a ?b rd_niIL); (case a => wtm_at "ev"); (case b => wtm_at "ev"))
  | ((with_reducible refine' evd_op ?a ?b rd_inID); (case a => wtm_at "ev"); (case b => wtm_at "ev"))
  | ((with_reducible refine' evd_op ?a ?b rd_niID); (case a => wtm_at "ev"); (case b => wtm_at "ev"))
  | ((with_reducible refine' evd_neg ?a); (case a => wtm_at "ev"))
  | ((with_reducible refine' evd_tix ?a ?b ?c); (case a => wtm_at "ev"); (case b => wtm_at "ev"); (case c => wtm_at "side"))
  | ((with_reducible refine' evd_tup ?a ?b); (case a => wtm_at "es"); (case b => exact Nat.le_of_ble_eq_true rfl))
  | ((with_reducible refine' evd_cb ?a cd_lenL); (case a => wtm_at "es"))
  | ((with_reducible refine' evd_cb ?a cd_lenT); (case a => wtm_at "es"))
  | ((with_reducible refine' evd_cb ?a cd_intB); (case a => wtm_at "es"))
  | ((with_reducible refine' evd_cb ?a cd_tupL); (case a => wtm_at "es"))
  | ((with_reducible refine' evd_and ?a ?b); (case a => wtm_at "ev"); (case b => intro _; wtm_at "ev"))
  | ((with_reducible refine' evd_or ?a ?b); (case a => wtm_at "ev"); (case b => intro _; wtm_at "ev"))
  | ((with_reducible refine' evd_not ?a); (case a => wtm_at "ev"))
  | ((with_reducible refine' evd_op ?a ?b rd_neIL); (case a => wtm_at "ev"); (case b => wtm_at "ev"))
  | ((with_reducible refine' evd_op ?a ?b rd_eqIL); (case a => wtm_at "ev"); (case b => wtm_at "ev"))
  | ((with_reducible refine' EvN.toD ?a); (case a => wtm_at "en")))
local macro_rules | `(tactic| wtm_at "en") => `(tactic| first
  | ((with_reducible refine' evn_cb ?a cn_sortTI); (case a => wtm_at "es"))
  | ((with_reducible refine' evn_cb ?a cn_listL); (case a => wtm_at "es"))
  | ((with_reducible refine' evn_cb ?a cn_listT); (case a => wtm_at "es"))
  | ((with_reducible refine' evn_rng ?a ?b); (case a => wtm_at "ev"); (case b => wtm_at "side"))
  | ((with_reducible refine' evn_lst ?a ?b); (case a => wtm_at "es"); (case b => exact Nat.le_of_ble_eq_true rfl))
  | ((with_reducible refine' evn_cat ?a ?b ?c); (case a => wtm_at "ev"); (case b => wtm_at "ev"); (case c => wtm_at "side"))
  | ((with_reducible refine' evn_slL ?a ?b ?c); (case a => wtm_at "ev"); (case b => first | exact evp_none | (refine' evp_some ?d; (case d => wtm_at "ev"))); (case c => first | exact evp_none | (refine' evp_some ?d; (case d => wtm_at "ev")))))
local macro_rules | `(tactic| wtm_at "et") => `(tactic| first
  | exact et_yes
  | (refine' ett ?a; (case a => wtm_at "ev"))
  | (refine' etB ?a; (case a => wtm_at "ev"))
  | (refine' et_and ?a ?b; (case a => wtm_at "et"); (case b => intro _; wtm_at "et"))
  | (refine' et_or ?a ?b; (case a => wtm_at "et"); (case b => intro _; wtm_at "et"))
  | (refine' et_not ?a; (case a => wtm_at "et")))
local macro_rules | `(tactic| wtm_at "nx") => `(tactic| try dsimp only [tSeq, tNext])
/-! ### webs, plain -/
def swp (p : Int × Int) : Int × Int := (p.2, p.1)
def goodB (m : Int) (p : Int × Int) : Bool := decide (0 ≤ p.1) && decide (p.1 < m) && decide (0 ≤ p.2) && decide (p.2 < m) && !decide (p.1 = p.2)
/-- the beats behind those of met are all right -/
def webGo (m : Int) : List (Int × Int) → List (Int × Int) → Bool
  | _, [] => true
  | met, p :: ps => goodB m p && !decide (p ∈ met) && !decide (swp p ∈ met) && webGo m (met ++ [p]) ps
def isWeb (m : Int) (ps : List (Int × Int)) : Prop := webGo m [] ps = true
instance (m : Int) (ps : List (Int × Int)) : Decidable (isWeb m ps) := inferInstanceAs (Decidable (_ = _))
def chkW (C1 C3 : Addr) (m : Int) (ps : List (Int × Int)) (o : Out) : Out := if okCount m then (if isWeb m ps then o else .exc C3) else .exc C1
theorem chkW_go {C1 C3 : Addr} {m : Int} {ps : List (Int × Int)} {o : Out} {H H1 : Hp} {Q : VK} {E : XK} {N : Hp → Prop} (q : Gives H Q E (chkW C1 C3 m ps o)) (e : Ex H H1)
    (k : okCount m → isWeb m ps → Gives H Q E o → ∀ H2, Ex H1 H2 → N H2) : Gives H1 (fun _ H2 => N H2) E (chkW C1 C3 m ps (.val .none)) := by
  unfold chkW at q ⊢
  by_cases h1 : okCount m
  · rw [if_pos h1] at q ⊢
    by_cases h2 : isWeb m ps
    · rw [if_pos h2] at q ⊢
      exact fun v H2 e2 _ => k h1 h2 q H2 e2
    · rw [if_neg h2] at q ⊢
      exact fun H2 e2 => q H2 (e.trans e2)
  · rw [if_neg h1] at q ⊢
    exact fun H2 e2 => q H2 (e.trans e2)
theorem chkW_ok {C1 C3 : Addr} {m : Int} {ps : List (Int × Int)} {o : Out} (h1 : okCount m) (h2 : isWeb m ps) : chkW C1 C3 m ps o = o := by
  unfold chkW
  rw [if_pos h1, if_pos h2]
def pK (p : Int × Int) : List Key := [.inl p.1, .inl p.2]
theorem pK_inj {p q : Int × Int} : pK p = pK q ↔ p = q := by
  obtain ⟨a, b⟩ := p
  obtain ⟨c, d⟩ := q
  unfold pK
  simp
theorem webGo_stop {m : Int} : ∀ {met ps : List (Int × Int)} {i : Nat} {p : Int × Int}, ps[i]? = some p → webGo m met ps = true → goodB m p = true ∧ p ∉ met ++ ps.take i ∧ swp p ∉ met ++ ps.take i
  | _, [], _, _, h, _ => by simp at h
  | met, q :: ps, 0, p, h, w => by
    cases h
    simp only [webGo, Bool.and_eq_true, Bool.not_eq_true', decide_eq_false_iff_not] at w
    rw [List.take_zero, List.append_nil]
    exact ⟨w.1.1.1, w.1.1.2, w.1.2⟩
  | met, q :: ps, i + 1, p, h, w => by
    simp only [webGo, Bool.and_eq_true] at w
    have ih := webGo_stop (ps := ps) (i := i) (p := p) h w.2
    rw [List.take_succ_cons, List.append_cons]
    exact ih
theorem webGo_of {m : Int} : ∀ {met ps : List (Int × Int)}, (∀ (i : Nat) p, ps[i]? = some p → goodB m p = true ∧ p ∉ met ++ ps.take i ∧ swp p ∉ met ++ ps.take i) → webGo m met ps = true
  | _, [], _ => rfl
  | met, q :: ps, h => by
    obtain ⟨h1, h2, h3⟩ := h 0 q rfl
    rw [List.take_zero, List.append_nil] at h2 h3
    simp only [webGo, Bool.and_eq_true, Bool.not_eq_true', decide_eq_false_iff_not]
    refine ⟨⟨⟨h1, h2⟩, h3⟩, webGo_of fun i p e => ?_⟩
    have h4 := h (i + 1) p e
    rw [List.take_succ_cons, List.append_cons] at h4
    exact h4
theorem isWeb_iff {m : Int} {ps : List (Int × Int)} : isWeb m ps ↔ ∀ (i : Nat) p, ps[i]? = some p → goodB m p = true ∧ p ∉ ps.take i ∧ swp p ∉ ps.take i :=
  ⟨fun h i p e => webGo_stop e h, fun h => webGo_of fun i p e => h i p e⟩
theorem goodB_iff {m : Int} {p : Int × Int} : goodB m p = true ↔ 0 ≤ p.1 ∧ p.1 < m ∧ 0 ≤ p.2 ∧ p.2 < m ∧ p.1 ≠ p.2 := by
  unfold goodB
  simp only [Bool.and_eq_true, decide_eq_true_eq, Bool.not_eq_true', decide_eq_false_iff_not, and_assoc]
/-! ### look_at_web -/
def sp_look_at_web (C1 C3 : Addr) : Sp := spO (α := Int × List (Int × Int)) (fun a => [.int a.1, wD a.2]) (fun a => a.2.length ≤ 1000) fun a => chkW C1 C3 a.1 a.2 (.val .none)
theorem len_look_at_web {C_BadCount : Addr} {C_BadWeb : Addr} (vs : List V) (H : Hp) (Q : VK) (E : XK) (h : (sp_look_at_web C_BadCount C_BadWeb) vs H Q E) : vs.length = 2 := by
  unfold sp_look_at_web at h
  obtain ⟨a, r, _⟩ := h
  rw [r.len]
  rfl
theorem et_dinT {σ : L2.St} {H : Hp} {t1 t2 : TE} {a b : Int} {i : Nat} {pm : Addr} {kvs : List (List Key × V)} (h1 : EvD t1 σ H (.int a)) (h2 : EvD t2 σ H (.int b)) (hi : σ[i]? = some (some (.ref pm))) (hd : H pm = some (.dT kvs)) :
    EvT (tB (tDIn (tTup (tCons t1 (tCons t2 tNil))) (tVar i))) σ H (valV kvs (pK (a, b))).isSome := fun H1 e Q q =>
  h1 H1 e _ fun v H2 e2 r2 => h2 H2 (e.trans e2) _ fun u H3 e3 r3 => by
    obtain rfl : v = .int a := r2
    obtain rfl : u = .int b := r3
    refine ⟨by show 2 ≤ sizeLine; decide, fun p hp => ⟨.ref pm, hi, pm, _, rfl, DGet.t (k := pK (a, b)) (kvs := kvs) ?_ upd_same, _, rfl, q _ ((e2.trans e3).trans (Ex.new hp))⟩⟩
    rw [upd_ne (ne_of_none (((e.trans e2).trans e3) _ _ hd) hp)]
    exact ((e.trans e2).trans e3) _ _ hd
section
variable {P : Program} {w : World} {K : PySem.W.Frag} {mg : Str → Option Value} {base : Heap}
theorem ok_look_at_web {f : Addr} {fd : FuncData} (D : Df K mg "look_at_web" s_look_at_web ["many", "web"] f fd) (Bi : Bi mg) {C_BadWeb : Addr} (X_BadWeb : Xc K mg "BadWeb" C_BadWeb) {f_look_at_count : Addr} {fd_look_at_count : FuncData} (D_look_at_count : Df K mg "look_at_count" s_look_at_count ["many"] f_look_at_count fd_look_at_count) (G_look_at_count : FnOk P w K mg base (L2.CX P w) 1 f_look_at_count fd_look_at_count ["many"] (sp_look_at_count C_BadCount)) : FnOk P w K mg base (L2.CX P w) 2 f fd ["many", "web"] (sp_look_at_web C_BadCount C_BadWeb) := by
  refine D.F.okX c_look_at_web (fun vs H Q E h => len_look_at_web _ _ _ _ h) (fun cdv A outer s H vs Q E hr h => ?_)
  refine ⟨_, (pss_cons (ps_expr (pe_callS G_look_at_count (hr.mono (by decide)) (by rfl) D_look_at_count.g D_look_at_count.F.kp D_look_at_count.b (fun σ => passAt (takes_of rfl rfl rfl rfl) σ) (pa_cons (pv 0) pa_nil)))
      (pss_cons (ps_set (i := 2) c_look_at_web.nd rfl (.inl rfl) (pe_dnewT))
      (pss_one (ps_for (passes_of rfl) rfl (pi_listK (K := K) (pv 1)) (pg_tupK (K := K) rfl (pgs_cons (pg_name (i := 3) c_look_at_web.nd rfl (.inl rfl)) (pgs_cons (pg_name (i := 4) c_look_at_web.nd rfl (.inl rfl)) pgs_nil)))
      (pss_cons (ps_if (PW.pt (pw_or (pt_cmpR op_ltI (pv 3) pe_int (nomark _)) (pw_or (pt_cmpR op_geI (pv 3) (pv 0) (nomark _)) (pw_or (pt_cmpR op_ltI (pv 4) pe_int (nomark _)) (pw_or (pt_cmpR op_geI (pv 4) (pv 0) (nomark _)) (pw_or1 (pt_cmpR op_eqI (pv 3) (pv 4) (nomark _))))))))
      (pss_one (ps_raise rfl (takes_of rfl rfl rfl rfl) (pmk_own PySem.F.excBase_ValueError X_BadWeb.x X_BadWeb.g X_BadWeb.k (raises_own X_BadWeb.b X_BadWeb.t) (by exact rfl))))
      pss_nil)
      (pss_cons (ps_if (PW.pt (pw_or (pt_cmp (pc_din (hu_of hr) (pe_tup (pa_cons (pv 3) (pa_cons (pv 4) pa_nil))) (pv 2)) (by rfl)) (pw_or1 (pt_cmp (pc_din (hu_of hr) (pe_tup (pa_cons (pv 4) (pa_cons (pv 3) pa_nil))) (pv 2)) (by rfl)))))
      (pss_one (ps_raise rfl (takes_of rfl rfl rfl rfl) (pmk_own PySem.F.excBase_ValueError X_BadWeb.x X_BadWeb.g X_BadWeb.k (raises_own X_BadWeb.b X_BadWeb.t) (by exact rfl))))
      pss_nil)
      (pss_one (ps_dput (hu_of hr) (pv 2) (pe_tup (pa_cons (pv 3) (pa_cons (pv 4) pa_nil))) pe_bl rfl)))))))), ?_⟩
  obtain ⟨⟨m, ps⟩, ⟨v1, _, rfl, rfl, v2, _, rfl, hv, rfl⟩, hl, q⟩ := h
  unfold chkW at q
  dsimp only at q hv hl
  refine s_callX m ?a trivial fun H1 e1 => ?_
  case a => wtm_at "es"
  by_cases hm : okCount m
  · rw [if_pos hm] at q
    rw [if_pos hm]
    intro _ H2 e2 _
    wtm_at "nx"
    have e12 := e1.trans e2
    refine fun pm hpm => ?_
    have hpmH : H pm = none := fresh_back e12 hpm
    wtm_at "nx"
    refine s_forB (f := pD) (xs := ps) (Hb := H) rfl hv (e12.trans (Ex.new hpm)) (fun i σ' H' => ∃ y z kvs, σ' = [some (.int m), some v2, some (.ref pm), y, z] ∧ Ex H H' ∧ H' pm = some (.dT kvs) ∧ kvs.length ≤ i ∧ (∀ p, (valV kvs (pK p)).isSome = decide (p ∈ ps.take i)) ∧
      ∀ (j : Nat) p, j < i → ps[j]? = some p → goodB m p = true ∧ p ∉ ps.take j ∧ swp p ∉ ps.take j) ?_ ?_ ?_ ?_
    · exact ⟨none, none, [], rfl, e12.trans (Ex.new hpm), upd_same, Nat.le_refl _, fun p => by simp [valV_nil], fun j p h => absurd h (Nat.not_lt_zero _)⟩
    · rintro i σ' H' ⟨_, _, _, _, e, _⟩
      exact e
    · rintro i x v σ' H' hx hr ⟨y, z, kvs, rfl, e, hd, hk, hkv, hok⟩
      refine g_pair hr ?_
      have hi : i < ps.length := (List.getElem?_eq_some_iff.mp hx).1
      have bad : ¬ (goodB m x = true ∧ x ∉ ps.take i ∧ swp x ∉ ps.take i) → ¬ isWeb m ps := fun h z => h (isWeb_iff.mp z i x hx)
      refine' s_if (b := _) ?t ?yes ?no
      case t => wtm_at "et"
      case yes =>
        intro hb H5 e5
        have hn : ¬ isWeb m ps := bad fun h => by
          have g := goodB_iff.mp h.1
          simp only [Bool.or_eq_true, decide_eq_true_eq] at hb
          omega
        rw [if_neg hn] at q
        exact q H5 (e.trans e5)
      case no =>
        intro hb H5 e5
        wtm_at "nx"
        have hg : goodB m x = true := goodB_iff.mpr (by
          simp only [Bool.or_eq_false_iff, decide_eq_false_iff_not] at hb
          omega)
        have hd5 := e5 _ _ hd
        refine' s_if (b := (valV kvs (pK (x.1, x.2))).isSome || (valV kvs (pK (x.2, x.1))).isSome) ?t ?yes ?no
        case t =>
          refine' et_or (et_dinT ?a ?b rfl hd5) fun _ => et_dinT ?c ?d rfl hd5
          case a => wtm_at "ev"
          case b => wtm_at "ev"
          case c => wtm_at "ev"
          case d => wtm_at "ev"
        case yes =>
          intro hb2 H6 e6
          rw [hkv, hkv] at hb2
          have hn : ¬ isWeb m ps := bad fun h => by
            simp only [Bool.or_eq_true, decide_eq_true_eq] at hb2
            exact hb2.elim h.2.1 h.2.2
          rw [if_neg hn] at q
          exact q H6 ((e.trans e5).trans e6)
        case no =>
          intro hb2 H6 e6
          wtm_at "nx"
          rw [hkv, hkv] at hb2
          simp only [Bool.or_eq_false_iff, decide_eq_false_iff_not] at hb2
          have hd6 := e6 _ _ hd5
          have nmap : H pm = none := hpmH
          refine ⟨.ref pm, rfl, _, rfl, _, rfl, by show 2 ≤ sizeLine; decide, fun p hp => ⟨pm, _, rfl, DPut.t (kvs := kvs) (k := pK x) ?_ upd_same (sz_lt (by omega)), ?_⟩⟩
          · rw [upd_ne (ne_of_none hd6 hp)]
            exact hd6
          · have eH : Ex H (upd (upd H6 p (.tup [.int x.1, .int x.2])) pm (.dT (putK kvs (pK x) (.bl true)))) := Ex.mut (((e.trans e5).trans e6).trans (Ex.new hp)) nmap
            refine ⟨_, _, putK kvs (pK x) (.bl true), rfl, eH, upd_same, Nat.le_trans (length_putK _ _ _) (by omega), fun p2 => ?_, fun j p2 hj hx2 => ?_⟩
            · rw [valV_put, List.take_add_one, hx]
              by_cases h2 : p2 = x
              · subst h2
                rw [if_pos rfl]
                simp
              · rw [if_neg (fun z => h2 (pK_inj.mp z)), hkv]
                simp [h2]
            · by_cases h2 : j < i
              · exact hok j p2 h2 hx2
              · obtain rfl : j = i := by omega
                rw [hx] at hx2
                cases hx2
                exact ⟨hg, hb2.1, hb2.2⟩
    · rintro σ' H' ⟨y, z, kvs, rfl, e, hd, hk, hkv, hok⟩
      have hw : isWeb m ps := isWeb_iff.mpr fun i p h => hok i p (List.getElem?_eq_some_iff.mp h).1 h
      rw [if_pos hw] at q
      exact q .non H' e rfl
  · rw [if_neg hm] at q
    rw [if_neg hm]
    intro H2 e2
    exact q H2 (e1.trans e2)
end
end Bm

namespace Bm
open PySem PySem.Spec PyProof.Rows L2 Evl
local macro_rules | `(tactic| wtm_at "rp") => `(tactic| first | exact rp_int | exact rp_bl | exact rp_str | exact rp_non | assumption | (refine' Rp.ex ?e ?h; (case h => assumption); (case e => assumption)) | exact Own.rp (by assumption))
local macro_rules | `(tactic| wtm_at "side") => `(tactic| first | assumption | omega | decide | rfl | exact ⟨by omega, by omega⟩)
local macro_rules | `(tactic| wtm_at "es") => `(tactic| first | exact evs_nil | (refine' evs_cons ?a ?b; (case a => wtm_at "ev"); (case b => wtm_at "es")))
local macro_rules | `(tactic| wtm_at "ev") => `(tactic| first
  | exact evd_int | exact evd_str | exact evd_bl | exact evd_non
  | (refine' evd_var rfl ?h; (case h => wtm_at "rp"))
  | ((with_reducible refine' evd_op ?a ?b rd_addI); (case a => wtm_at "ev"); (case b => wtm_at "ev"))
  | ((with_reducible refine' evd_op ?a ?b rd_subI); (case a => wtm_at "ev"); (case b => wtm_at "ev"))
  | ((with_reducible refine' evd_op ?a ?b (rd_mulI ?c)); (case a => wtm_at "ev"); (case b => wtm_at "ev"); (case c => wtm_at "side"))
  | ((with_reducible refine' evd_op ?a ?b (rd_divI ?c)); (case a => wtm_at "ev"); (case b => wtm_at "ev"); (case c => wtm_at "side"))
  | ((with_reducible refine' evd_op ?a ?b (rd_modI ?c)); (case a => wtm_at "ev"); (case b => wtm_at "ev"); (case c => wtm_at "side"))
  | ((with_reducible refine' evd_op ?a ?b rd_ltI); (case a => wtm_at "ev"); (case b => wtm_at "ev"))
  | ((with_reducible refine' evd_op ?a ?b rd_leI); (case a => wtm_at "ev"); (case b => wtm_at "ev"))
  | ((with_reducible refine' evd_op ?a ?b rd_gtI); (case a => wtm_at "ev"); (case b => wtm_at "ev"))
  | ((with_reducible refine' evd_op ?a ?b rd_geI); (case a => wtm_at "ev"); (case b => wtm_at "ev"))
  | ((with_reducible refine' evd_op ?a ?b rd_eqI); (case a => wtm_at "ev"); (case b => wtm_at "ev"))
  | ((with_reducible refine' evd_op ?a ?b rd_neI); (case a => wtm_at "ev"); (case b => wtm_at "ev"))
  | ((with_reducible refine' evd_op ?a ?b rd_eqB); (case a => wtm_at "ev"); (case b => wtm_at "ev"))
  | ((with_reducible refine' evd_op ?a ?b rd_neB); (case a => wtm_at "ev"); (case b => wtm_at "ev"))
  | ((with_reducible refine' evd_op ?a ?b rd_isNo); (case a => wtm_at "ev"); (case b => wtm_at "ev"))
  | ((with_reducible refine' evd_op ?a ?b rd_notNo); (case a => wtm_at "ev"); (case b => wtm_at "ev"))
  | ((with_reducible refine' evd_op ?a ?b rd_inIL); (case a => wtm_at "ev"); (case b => wtm_at "ev"))
  | ((with_reducible refine' evd_op ?a ?b rd_niIL); (case a => wtm_at "ev"); (case b => wtm_at "ev"))
  | ((with_reducible refine' evd_op ?a ?b rd_inID); (case a => wtm_at "ev"); (case b => wtm_at "ev"))
  | ((with_reducible refine' evd_op ?a ?b rd_niID); (case a => wtm_at "ev"); (case b => wtm_at "ev"))
  | ((with_reducible refine' evd_neg ?a); (case a => wtm_at "ev"))
  | ((with_reducible refine' evd_tix ?a ?b ?c); (case a => wtm_at "ev"); (case b => wtm_at "ev"); (case c => wtm_at "side"))
  | ((with_reducible refine' evd_tup ?a ?b); (case a => wtm_at "es"); (case b => exact Nat.le_of_ble_eq_true rfl))
  | ((with_reducible refine' evd_cb ?a cd_lenL); (case a => wtm_at "es"))
  | ((with_reducible refine' evd_cb ?a cd_lenT); (case a => wtm_at "es"))
  | ((with_reducible refine' evd_cb ?a cd_intB); (case a => wtm_at "es"))
  | ((with_reducible refine' evd_cb ?a cd_tupL); (case a => wtm_at "es"))
  | ((with_reducible refine' evd_and ?a ?b); (case a => wtm_at "ev"); (case b => intro _; wtm_at "ev"))
  | ((with_reducible refine' evd_or ?a ?b); (case a => wtm_at "ev"); (case b => intro _; wtm_at "ev"))
  | ((with_reducible refine' evd_not ?a); (case a => wtm_at "ev"))
  | ((with_reducible refine' evd_op ?a ?b rd_neIL); (case a => wtm_at "ev"); (case b => wtm_at "ev"))
  | ((with_reducible refine' evd_op ?a ?b rd_eqIL); (case a => wtm_at "ev"); (case b => wtm_at "ev"))
  | ((with_reducible refine' EvN.toD ?a); (case a => wtm_at "en")))
local macro_rules | `(tactic| wtm_at "en") => `(tactic| first
  | ((with_reducible refine' evn_cb ?a cn_sortTI); (case a => wtm_at "es"))
  | ((with_reducible refine' evn_cb ?a cn_listL); (case a => wtm_at "es"))
  | ((with_reducible refine' evn_cb ?a cn_listT); (case a => wtm_at "es"))
  | ((with_reducible refine' evn_rng ?a ?b); (case a => wtm_at "ev"); (case b => wtm_at "side"))
  | ((with_reducible refine' evn_lst ?a ?b); (case a => wtm_at "es"); (case b => exact Nat.le_of_ble_eq_true rfl))
  | ((with_reducible refine' evn_cat ?a ?b ?c); (case a => wtm_at "ev"); (case b => wtm_at "ev"); (case c => wtm_at "side"))
  | ((with_reducible refine' evn_slL ?a ?b ?c); (case a => wtm_at "ev"); (case b => first | exact evp_none | (refine' evp_some ?d; (case d => wtm_at "ev"))); (case c => first | exact evp_none | (refine' evp_some ?d; (case d => wtm_at "ev")))))
local macro_rules | `(tactic| wtm_at "et") => `(tactic| first
  | exact et_yes
  | (refine' ett ?a; (case a => wtm_at "ev"))
  | (refine' etB ?a; (case a => wtm_at "ev"))
  | (refine' et_and ?a ?b; (case a => wtm_at "et"); (case b => intro _; wtm_at "et"))
  | (refine' et_or ?a ?b; (case a => wtm_at "et"); (case b => intro _; wtm_at "et"))
  | (refine' et_not ?a; (case a => wtm_at "et")))
local macro_rules | `(tactic| wtm_at "nx") => `(tactic| try dsimp only [tSeq, tNext])
/-! ### webs as sets of pairs -/
def nrm (p : Int × Int) : Int × Int := if p.1 ≤ p.2 then p else swp p
theorem swp_swp (p : Int × Int) : swp (swp p) = p := rfl
theorem nrm_iff {p q : Int × Int} : nrm p = nrm q ↔ p = q ∨ p = swp q := by
  obtain ⟨a, b⟩ := p
  obtain ⟨c, d⟩ := q
  unfold nrm swp
  dsimp only
  split <;> split <;> simp only [Prod.mk.injEq] <;> omega
theorem nrm_mem {p : Int × Int} {met : List (Int × Int)} : nrm p ∈ met.map nrm ↔ p ∈ met ∨ swp p ∈ met := by
  constructor
  · intro h
    obtain ⟨q, hq, e⟩ := List.mem_map.mp h
    rcases nrm_iff.mp e with rfl | rfl
    · exact .inl hq
    · exact .inr hq
  · rintro (h | h)
    · exact List.mem_map.mpr ⟨p, h, rfl⟩
    · exact List.mem_map.mpr ⟨_, h, nrm_iff.mpr (.inr rfl)⟩
theorem webGo_iff {m : Int} : ∀ {met ps : List (Int × Int)}, webGo m met ps = true ↔ (∀ p ∈ ps, goodB m p = true ∧ nrm p ∉ met.map nrm) ∧ (ps.map nrm).Nodup
  | met, [] => by simp [webGo]
  | met, q :: ps => by
    simp only [webGo, Bool.and_eq_true, Bool.not_eq_true', decide_eq_false_iff_not]
    rw [webGo_iff (met := met ++ [q]) (ps := ps), List.map_cons, List.nodup_cons]
    constructor
    · rintro ⟨⟨⟨h1, h2⟩, h3⟩, h4, h5⟩
      refine ⟨fun p hp => ?_, fun z => ?_, h5⟩
      · rcases List.mem_cons.mp hp with rfl | hp
        · exact ⟨h1, fun z => (nrm_mem.mp z).elim h2 h3⟩
        · refine ⟨(h4 p hp).1, fun z => (h4 p hp).2 ?_⟩
          rw [List.map_append]
          exact List.mem_append_left _ z
      · obtain ⟨p, hp, e⟩ := List.mem_map.mp z
        refine (h4 p hp).2 ?_
        rw [List.map_append, e]
        exact List.mem_append_right _ (by simp)
    · rintro ⟨h1, h2, h3⟩
      obtain ⟨g1, g2⟩ := h1 q List.mem_cons_self
      refine ⟨⟨⟨g1, fun z => g2 (nrm_mem.mpr (.inl z))⟩, fun z => g2 (nrm_mem.mpr (.inr z))⟩, fun p hp => ?_, h3⟩
      obtain ⟨k1, k2⟩ := h1 p (List.mem_cons_of_mem _ hp)
      refine ⟨k1, fun z => ?_⟩
      rw [List.map_append] at z
      rcases List.mem_append.mp z with z | z
      · exact k2 z
      · have e : nrm p = nrm q := by simpa using z
        exact h2 (e ▸ List.mem_map.mpr ⟨p, hp, rfl⟩)
theorem isWeb_set {m : Int} {ps : List (Int × Int)} : isWeb m ps ↔ (∀ p ∈ ps, goodB m p = true) ∧ (ps.map nrm).Nodup := by
  unfold isWeb
  rw [webGo_iff]
  simp
theorem isWeb.perm {m : Int} {ps qs : List (Int × Int)} (h : isWeb m ps) (e : ps.Perm qs) : isWeb m qs := by
  rw [isWeb_set] at h ⊢
  exact ⟨fun p hp => h.1 p (e.mem_iff.mpr hp), (e.map nrm).nodup_iff.mp h.2⟩
theorem isWeb.good {m : Int} {ps : List (Int × Int)} (h : isWeb m ps) {p : Int × Int} (hp : p ∈ ps) : 0 ≤ p.1 ∧ p.1 < m ∧ 0 ≤ p.2 ∧ p.2 < m ∧ p.1 ≠ p.2 := goodB_iff.mp ((isWeb_set.mp h).1 p hp)
theorem nodup_of_map {α β : Type} {f : α → β} {xs : List α} (h : (xs.map f).Nodup) : xs.Nodup := (List.pairwise_map.mp h).imp fun ne e => ne (by rw [e])
theorem isWeb.nodup {m : Int} {ps : List (Int × Int)} (h : isWeb m ps) : ps.Nodup := nodup_of_map (isWeb_set.mp h).2
theorem isWeb.swp {m : Int} {ps : List (Int × Int)} (h : isWeb m ps) {p : Int × Int} (hp : p ∈ ps) : swp p ∉ ps := fun hq => by
  obtain ⟨i, hi⟩ := List.getElem?_of_mem hp
  obtain ⟨j, hj⟩ := List.getElem?_of_mem hq
  have hg := h.good hp
  have z := List.pairwise_iff_getElem.mp (isWeb_set.mp h).2
  obtain ⟨li, ei⟩ := List.getElem?_eq_some_iff.mp hi
  obtain ⟨lj, ej⟩ := List.getElem?_eq_some_iff.mp hj
  have hne : p ≠ Bm.swp p := fun e => hg.2.2.2.2 (by have := congrArg Prod.fst e; exact this)
  rcases Nat.lt_trichotomy i j with l | l | l
  · have := z i j (by simpa using li) (by simpa using lj) l
    rw [List.getElem_map, List.getElem_map, ei, ej] at this
    exact this (nrm_iff.mpr (.inr (swp_swp p).symm))
  · subst l
    rw [ei] at ej
    exact hne ej
  · have := z j i (by simpa using lj) (by simpa using li) l
    rw [List.getElem_map, List.getElem_map, ei, ej] at this
    exact this (nrm_iff.mpr (.inr rfl))
theorem isWeb.bd {m : Int} {ps : List (Int × Int)} (h : isWeb m ps) (hm : m ≤ 6) : ∀ p ∈ ps, bdP p := fun p hp => by
  have := h.good hp
  unfold bdP
  omega
/-! ### beats, as a set -/
theorem mem_beatsOne {m : Int} {vs : List (List Int)} {a : Int} {p : Int × Int} (hm : 0 ≤ m) : p ∈ beatsOne m vs a ↔ p.1 = a ∧ 0 ≤ p.2 ∧ p.2 < m ∧ a ≠ p.2 ∧ 0 < leadF vs a p.2 := by
  unfold beatsOne
  rw [List.mem_map]
  constructor
  · rintro ⟨b, hb, rfl⟩
    rw [List.mem_filter, mem_rgI] at hb
    simp only [Bool.and_eq_true, Bool.not_eq_true', decide_eq_false_iff_not, decide_eq_true_eq] at hb
    refine ⟨rfl, hb.1.1, ?_, hb.2.1, hb.2.2⟩
    have := hb.1.2
    dsimp only
    omega
  · rintro ⟨h1, h2, h3, h4, h5⟩
    refine ⟨p.2, ?_, by rw [← h1]⟩
    rw [List.mem_filter, mem_rgI]
    simp only [Bool.and_eq_true, Bool.not_eq_true', decide_eq_false_iff_not, decide_eq_true_eq]
    exact ⟨⟨h2, by omega⟩, h4, h5⟩
theorem mem_beatsF {m : Int} {vs : List (List Int)} {p : Int × Int} (hm : 0 ≤ m) : p ∈ beatsF m vs ↔ 0 ≤ p.1 ∧ p.1 < m ∧ 0 ≤ p.2 ∧ p.2 < m ∧ p.1 ≠ p.2 ∧ 0 < leadF vs p.1 p.2 := by
  unfold beatsF
  rw [List.mem_flatten]
  constructor
  · rintro ⟨l, hl, hp⟩
    obtain ⟨a, ha, rfl⟩ := List.mem_map.mp hl
    rw [mem_rgI] at ha
    obtain ⟨h1, h2, h3, h4, h5⟩ := (mem_beatsOne hm).mp hp
    subst h1
    exact ⟨ha.1, by omega, h2, h3, h4, h5⟩
  · rintro ⟨h1, h2, h3, h4, h5, h6⟩
    exact ⟨_, List.mem_map.mpr ⟨p.1, mem_rgI.mpr ⟨h1, by omega⟩, rfl⟩, (mem_beatsOne hm).mpr ⟨rfl, h3, h4, h5, h6⟩⟩
theorem rgI_lt (lo : Int) (n : Nat) : (rgI lo n).Pairwise (· < ·) := by
  unfold rgI
  exact List.pairwise_map.mpr (List.pairwise_lt_range.imp fun {i j} l => by omega)
theorem beatsF_pw {m : Int} (hm : 0 ≤ m ∧ m ≤ 6) (vs : List (List Int)) : (beatsF m vs).Pairwise fun p q => cdP p < cdP q := by
  unfold beatsF
  rw [List.pairwise_flatten]
  constructor
  · intro l hl
    obtain ⟨a, ha, rfl⟩ := List.mem_map.mp hl
    unfold beatsOne
    rw [List.pairwise_map]
    refine ((rgI_lt 0 m.toNat).filter _).imp fun {b c} h => ?_
    unfold cdP
    dsimp only
    omega
  · rw [List.pairwise_map]
    refine (rgI_lt 0 m.toNat).imp fun {a b} h p hp q hq => ?_
    obtain ⟨h1, h2, h3, _⟩ := (mem_beatsOne hm.1).mp hp
    obtain ⟨k1, k2, k3, _⟩ := (mem_beatsOne hm.1).mp hq
    unfold cdP
    omega
theorem beatsF_nodup {m : Int} (hm : 0 ≤ m ∧ m ≤ 6) (vs : List (List Int)) : (beatsF m vs).Nodup := (beatsF_pw hm vs).imp fun {p q} h e => by rw [e] at h; omega
theorem beatsF_is {m : Int} (hm : 0 ≤ m ∧ m ≤ 6) {vs : List (List Int)} {ps : List (Int × Int)} (hn : ps.Nodup) (h : ∀ p, p ∈ ps ↔ 0 ≤ p.1 ∧ p.1 < m ∧ 0 ≤ p.2 ∧ p.2 < m ∧ p.1 ≠ p.2 ∧ 0 < leadF vs p.1 p.2) : beatsF m vs = srtW ps := by
  refine srtW_of ((List.perm_ext_iff_of_nodup (beatsF_nodup hm vs) hn).mpr fun p => by rw [mem_beatsF hm.1, h]) (fun p hp => ?_) ((beatsF_pw hm vs).imp fun {p q} h => Int.le_of_lt h)
  have := (mem_beatsF hm.1).mp hp
  unfold bdP
  omega
theorem ixOf_ne {a b : Int} : ∀ {v : List Int}, a ∈ v → a ≠ b → ixOf a v ≠ ixOf b v
  | [], h, _ => by simp at h
  | y :: ys, h, ne => by
    unfold ixOf
    by_cases e : y = a
    · rw [if_pos e, if_neg (fun z => ne (e.symm.trans z))]
      omega
    · rw [if_neg e]
      by_cases e2 : y = b
      · rw [if_pos e2]
        omega
      · rw [if_neg e2]
        have := ixOf_ne (v := ys) (b := b) ((List.mem_cons.mp h).resolve_left fun z => e z.symm) ne
        omega
theorem sgn1_neg {v : List Int} {a b : Int} (h : a ∈ v) (ne : a ≠ b) : sgn1 v b a = -sgn1 v a b := by
  have := ixOf_ne (v := v) h ne
  unfold sgn1
  split <;> split <;> omega
theorem leadF_neg {a b : Int} (ne : a ≠ b) : ∀ {vs : List (List Int)}, (∀ v ∈ vs, a ∈ v) → leadF vs b a = -leadF vs a b
  | [], _ => rfl
  | v :: vs, h => by
    have e : ∀ x y, leadF (v :: vs) x y = sgn1 v x y + leadF vs x y := fun x y => by unfold leadF; rw [List.map_cons, List.sum_cons]
    rw [e, e, leadF_neg ne fun u hu => h u (List.mem_cons_of_mem _ hu), sgn1_neg (h v List.mem_cons_self) ne]
    omega
theorem beatsF_web {m : Int} (hm : 0 ≤ m ∧ m ≤ 6) {vs : List (List Int)} (hv : isVot m vs) : isWeb m (beatsF m vs) := by
  refine isWeb_set.mpr ⟨fun p hp => ?_, ?_⟩
  · have := (mem_beatsF hm.1).mp hp
    exact goodB_iff.mpr ⟨this.1, this.2.1, this.2.2.1, this.2.2.2.1, this.2.2.2.2.1⟩
  · refine List.pairwise_map.mpr ((beatsF_nodup hm vs).imp_of_mem fun {p q} hp hq ne e => ?_)
    rcases nrm_iff.mp e with e | e
    · exact ne e
    · obtain ⟨a1, a2, a3, a4, a5, a6⟩ := (mem_beatsF hm.1).mp hp
      obtain ⟨b1, b2, b3, b4, b5, b6⟩ := (mem_beatsF hm.1).mp hq
      rw [e] at a6
      have := leadF_neg (a := q.1) (b := q.2) b5 fun v hv2 => (hv v hv2).mem.mpr ⟨b1, b2⟩
      have a6' : 0 < leadF vs q.2 q.1 := a6
      omega
theorem beatsF_len {m : Int} (hm : 0 ≤ m ∧ m ≤ 6) (vs : List (List Int)) : (beatsF m vs).length ≤ 36 := by
  have e : beatsF m vs = beatsTo m vs m.toNat := rfl
  rw [e]
  exact beatsTo_len hm vs (by omega)
/-! ### the pairs of things, rising -/
theorem rgI_cons (lo : Int) (n : Nat) : rgI lo (n + 1) = lo :: rgI (lo + 1) n := by
  unfold rgI
  rw [List.range_succ_eq_map, List.map_cons, List.map_map]
  congr 1
  · omega
  · refine List.map_congr_left fun i _ => ?_
    show lo + ((i + 1 : Nat) : Int) = lo + 1 + (i : Int)
    omega
/-- the pairs of a with those from b up to m -/
def rowP (m a b : Int) : List (Int × Int) := (rgI b (m - b).toNat).map fun c => (a, c)
/-- the pairs of things from a up to m -/
def prsF (m : Int) : Nat → Int → List (Int × Int)
  | 0, _ => []
  | n + 1, a => rowP m a (a + 1) ++ prsF m n (a + 1)
def prs (m a : Int) : List (Int × Int) := prsF m (m - a).toNat a
theorem prs_end {m a : Int} (h : m ≤ a) : prs m a = [] := by
  unfold prs
  rw [show (m - a).toNat = 0 by omega]
  rfl
theorem prs_step {m a : Int} (h : a < m) : prs m a = rowP m a (a + 1) ++ prs m (a + 1) := by
  unfold prs
  obtain ⟨n, hn⟩ : ∃ n, (m - a).toNat = n + 1 := ⟨(m - a).toNat - 1, by omega⟩
  rw [hn, show (m - (a + 1)).toNat = n by omega]
  rfl
theorem rowP_end {m a b : Int} (h : m ≤ b) : rowP m a b = [] := by
  unfold rowP
  rw [show (m - b).toNat = 0 by omega]
  rfl
theorem rowP_step {m a b : Int} (h : b < m) : rowP m a b = (a, b) :: rowP m a (b + 1) := by
  unfold rowP
  obtain ⟨n, hn⟩ : ∃ n, (m - b).toNat = n + 1 := ⟨(m - b).toNat - 1, by omega⟩
  rw [hn, rgI_cons, List.map_cons, show (m - (b + 1)).toNat = n by omega]
theorem mem_rowP {m a b : Int} {p : Int × Int} : p ∈ rowP m a b ↔ p.1 = a ∧ b ≤ p.2 ∧ p.2 < m := by
  unfold rowP
  rw [List.mem_map]
  constructor
  · rintro ⟨c, hc, rfl⟩
    rw [mem_rgI] at hc
    dsimp only
    omega
  · rintro ⟨h1, h2, h3⟩
    exact ⟨p.2, mem_rgI.mpr (by omega), by rw [← h1]⟩
theorem mem_prsF {m : Int} {p : Int × Int} : ∀ {n : Nat} {a : Int}, a + (n : Int) = m ∨ n = 0 → (p ∈ prsF m n a ↔ a ≤ p.1 ∧ p.1 < a + n ∧ p.1 < p.2 ∧ p.2 < m)
  | 0, a, _ => by
    simp only [prsF, List.not_mem_nil, false_iff]
    omega
  | n + 1, a, h => by
    simp only [prsF, List.mem_append]
    rw [mem_rowP, mem_prsF (n := n) (a := a + 1) (by omega)]
    omega
theorem mem_prs {m a : Int} {p : Int × Int} : p ∈ prs m a ↔ a ≤ p.1 ∧ p.1 < p.2 ∧ p.2 < m := by
  unfold prs
  by_cases h : a ≤ m
  · rw [mem_prsF (.inl (by omega))]
    omega
  · rw [mem_prsF (.inr (by omega))]
    omega
theorem prsF_nodup {m : Int} : ∀ {n : Nat} {a : Int}, a + (n : Int) = m ∨ n = 0 → (prsF m n a).Nodup
  | 0, _, _ => List.nodup_nil
  | n + 1, a, h => by
    show (rowP m a (a + 1) ++ prsF m n (a + 1)).Nodup
    rw [List.nodup_append]
    refine ⟨?_, prsF_nodup (by omega), fun p hp q hq e => ?_⟩
    · unfold rowP
      exact List.pairwise_map.mpr ((rgI_nodup _ _).imp fun ne e => ne (by injection e))
    · subst e
      rw [mem_rowP] at hp
      rw [mem_prsF (by omega)] at hq
      omega
theorem prs_nodup (m a : Int) : (prs m a).Nodup := by
  unfold prs
  by_cases h : a ≤ m
  · exact prsF_nodup (.inl (by omega))
  · exact prsF_nodup (.inr (by omega))
theorem prs_len {m : Int} (hm : 0 ≤ m ∧ m ≤ 6) : (prs m 0).length ≤ 15 := by
  have : m = 0 ∨ m = 1 ∨ m = 2 ∨ m = 3 ∨ m = 4 ∨ m = 5 ∨ m = 6 := by omega
  rcases this with rfl | rfl | rfl | rfl | rfl | rfl | rfl <;> decide
end Bm

namespace Bm
open PySem PySem.Spec PyProof.Rows L2 Evl
local macro_rules | `(tactic| wtm_at "rp") => `(tactic| first | exact rp_int | exact rp_bl | exact rp_str | exact rp_non | assumption | (refine' Rp.ex ?e ?h; (case h => assumption); (case e => assumption)) | exact Own.rp (by assumption))
local macro_rules | `(tactic| wtm_at "side") => `(tactic| first | assumption | omega | decide | rfl | exact ⟨by omega, by omega⟩)
local macro_rules | `(tactic| wtm_at "es") => `(tactic| first | exact evs_nil | (refine' evs_cons ?a ?b; (case a => wtm_at "ev"); (case b => wtm_at "es")))
local macro_rules | `(tactic| wtm_at "ev") => `(tactic| first
  | exact evd_int | exact evd_str | exact evd_bl | exact evd_non
  | (refine' evd_var rfl ?h; (case h => wtm_at "rp"))
  | ((with_reducible refine' evd_op ?a ?b rd_addI); (case a => wtm_at "ev"); (case b => wtm_at "ev"))
  | ((with_reducible refine' evd_op ?a ?b rd_subI); (case a => wtm_at "ev"); (case b => wtm_at "ev"))
  | ((with_reducible refine' evd_op ?a ?b (rd_mulI ?c)); (case a => wtm_at "ev"); (case b => wtm_at "ev"); (case c => wtm_at "side"))
  | ((with_reducible refine' evd_op ?a ?b (rd_divI ?c)); (case a => wtm_at "ev"); (case b => wtm_at "ev"); (case c => wtm_at "side"))
  | ((with_reducible refine' evd_op ?a ?b (rd_modI ?c)); (case a => wtm_at "ev"); (case b => wtm_at "ev"); (case c => wtm_at "side"))
  | ((with_reducible refine' evd_op ?a ?b rd_ltI); (case a => wtm_at "ev"); (case b => wtm_at "ev"))
  | ((with_reducible refine' evd_op ?a ?b rd_leI); (case a => wtm_at "ev"); (case b => wtm_at "ev"))
  | ((with_reducible refine' evd_op ?a ?b rd_gtI); (case a => wtm_at "ev"); (case b => wtm_at "ev"))
  | ((with_reducible refine' evd_op ?a ?b rd_geI); (case a => wtm_at "ev"); (case b => wtm_at "ev"))
  | ((with_reducible refine' evd_op ?a ?b rd_eqI); (case a => wtm_at "ev"); (case b => wtm_at "ev"))
  | ((with_reducible refine' evd_op ?a ?b rd_neI); (case a => wtm_at "ev"); (case b => wtm_at "ev"))
  | ((with_reducible refine' evd_op ?a ?b rd_eqB); (case a => wtm_at "ev"); (case b => wtm_at "ev"))
  | ((with_reducible refine' evd_op ?a ?b rd_neB); (case a => wtm_at "ev"); (case b => wtm_at "ev"))
  | ((with_reducible refine' evd_op ?a ?b rd_isNo); (case a => wtm_at "ev"); (case b => wtm_at "ev"))
  | ((with_reducible refine' evd_op ?a ?b rd_notNo); (case a => wtm_at "ev"); (case b => wtm_at "ev"))
  | ((with_reducible refine' evd_op ?a ?b rd_inIL); (case a => wtm_at "ev"); (case b => wtm_at "ev"))
  | ((with_reducible refine' evd_op ?a ?b rd_niIL); (case a => wtm_at "ev"); (case b => wtm_at "ev"))
  | ((with_reducible refine' evd_op ?a ?b rd_inID); (case a => wtm_at "ev"); (case b => wtm_at "ev"))
  | ((with_reducible refine' evd_op ?a ?b rd_niID); (case a => wtm_at "ev"); (case b => wtm_at "ev"))
  | ((with_reducible refine' evd_neg ?a); (case a => wtm_at "ev"))
  | ((with_reducible refine' evd_tix ?a ?b ?c); (case a => wtm_at "ev"); (case b => wtm_at "ev"); (case c => wtm_at "side"))
  | ((with_reducible refine' evd_tup ?a ?b); (case a => wtm_at "es"); (case b => exact Nat.le_of_ble_eq_true rfl))
  | ((with_reducible refine' evd_cb ?a cd_lenL); (case a => wtm_at "es"))
  | ((with_reducible refine' evd_cb ?a cd_lenT); (case a => wtm_at "es"))
  | ((with_reducible refine' evd_cb ?a cd_intB); (case a => wtm_at "es"))
  | ((with_reducible refine' evd_cb ?a cd_tupL); (case a => wtm_at "es"))
  | ((with_reducible refine' evd_and ?a ?b); (case a => wtm_at "ev"); (case b => intro _; wtm_at "ev"))
  | ((with_reducible refine' evd_or ?a ?b); (case a => wtm_at "ev"); (case b => intro _; wtm_at "ev"))
  | ((with_reducible refine' evd_not ?a); (case a => wtm_at "ev"))
  | ((with_reducible refine' evd_op ?a ?b rd_neIL); (case a => wtm_at "ev"); (case b => wtm_at "ev"))
  | ((with_reducible refine' evd_op ?a ?b rd_eqIL); (case a => wtm_at "ev"); (case b => wtm_at "ev"))
  | ((with_reducible refine' EvN.toD ?a); (case a => wtm_at "en")))
local macro_rules | `(tactic| wtm_at "en") => `(tactic| first
  | ((with_reducible refine' evn_cb ?a cn_sortTI); (case a => wtm_at "es"))
  | ((with_reducible refine' evn_cb ?a cn_listL); (case a => wtm_at "es"))
  | ((with_reducible refine' evn_cb ?a cn_listT); (case a => wtm_at "es"))
  | ((with_reducible refine' evn_rng ?a ?b); (case a => wtm_at "ev"); (case b => wtm_at "side"))
  | ((with_reducible refine' evn_lst ?a ?b); (case a => wtm_at "es"); (case b => exact Nat.le_of_ble_eq_true rfl))
  | ((with_reducible refine' evn_cat ?a ?b ?c); (case a => wtm_at "ev"); (case b => wtm_at "ev"); (case c => wtm_at "side"))
  | ((with_reducible refine' evn_slL ?a ?b ?c); (case a => wtm_at "ev"); (case b => first | exact evp_none | (refine' evp_some ?d; (case d => wtm_at "ev"))); (case c => first | exact evp_none | (refine' evp_some ?d; (case d => wtm_at "ev")))))
local macro_rules | `(tactic| wtm_at "et") => `(tactic| first
  | exact et_yes
  | (refine' ett ?a; (case a => wtm_at "ev"))
  | (refine' etB ?a; (case a => wtm_at "ev"))
  | (refine' et_and ?a ?b; (case a => wtm_at "et"); (case b => intro _; wtm_at "et"))
  | (refine' et_or ?a ?b; (case a => wtm_at "et"); (case b => intro _; wtm_at "et"))
  | (refine' et_not ?a; (case a => wtm_at "et")))
local macro_rules | `(tactic| wtm_at "nx") => `(tactic| try dsimp only [tSeq, tNext])
/-! ### two voters for a beat, plain -/
def restF (m a b : Int) : List Int := (rgI 0 m.toNat).filter fun t => !decide (t = a) && !decide (t = b)
def twoF (m : Int) (p : Int × Int) : List (List Int) := [[p.1, p.2] ++ restF m p.1 p.2, (restF m p.1 p.2).reverse ++ [p.1, p.2]]
def dueF (m : Int) (ps : List (Int × Int)) : List (List Int) := (ps.map (twoF m)).flatten
theorem twoF_all : ((rgI 1 6).all fun m => (rgI 0 m.toNat).all fun x => (rgI 0 m.toNat).all fun y => decide (x = y) || ((twoF m (x, y)).all (fun v => decide (srt v = rgI 0 m.toNat)) &&
    (rgI 0 m.toNat).all fun a => (rgI 0 m.toNat).all fun b => decide (a = b) || decide (leadF (twoF m (x, y)) a b = if (a, b) = (x, y) then 2 else if (b, a) = (x, y) then -2 else 0))) = true := by decide +kernel
theorem twoF_ok {m : Int} (hm : 1 ≤ m ∧ m ≤ 6) {p : Int × Int} (hp : goodB m p = true) : isVot m (twoF m p) ∧
    ∀ a b, 0 ≤ a → a < m → 0 ≤ b → b < m → a ≠ b → leadF (twoF m p) a b = if (a, b) = p then 2 else if (b, a) = p then -2 else 0 := by
  obtain ⟨x, y⟩ := p
  obtain ⟨h1, h2, h3, h4, h5⟩ := goodB_iff.mp hp
  have z := List.all_eq_true.mp twoF_all m (mem_rgI.mpr (by omega))
  have z := List.all_eq_true.mp z x (mem_rgI.mpr (by dsimp only at *; omega))
  have z := List.all_eq_true.mp z y (mem_rgI.mpr (by dsimp only at *; omega))
  rw [decide_eq_false h5, Bool.false_or, Bool.and_eq_true] at z
  refine ⟨fun v hv => of_decide_eq_true (List.all_eq_true.mp z.1 v hv), fun a b a0 a1 b0 b1 ne => ?_⟩
  have w := List.all_eq_true.mp z.2 a (mem_rgI.mpr (by omega))
  have w := List.all_eq_true.mp w b (mem_rgI.mpr (by omega))
  rw [decide_eq_false ne, Bool.false_or, decide_eq_true_eq] at w
  exact w
theorem dueF_cons (m : Int) (p : Int × Int) (ps : List (Int × Int)) : dueF m (p :: ps) = twoF m p ++ dueF m ps := by
  unfold dueF
  rw [List.map_cons, List.flatten_cons]
theorem dueF_snoc (m : Int) (p : Int × Int) (ps : List (Int × Int)) : dueF m (ps ++ [p]) = dueF m ps ++ twoF m p := by
  unfold dueF
  rw [List.map_append, List.flatten_append]
  simp
theorem dueF_take {m : Int} {ps : List (Int × Int)} {i : Nat} {p : Int × Int} (h : ps[i]? = some p) : dueF m (ps.take (i + 1)) = dueF m (ps.take i) ++ twoF m p := by
  rw [List.take_add_one, h]
  exact dueF_snoc _ _ _
theorem dueF_len (m : Int) : ∀ ps : List (Int × Int), (dueF m ps).length = 2 * ps.length
  | [] => rfl
  | p :: ps => by
    rw [dueF_cons, List.length_append, dueF_len m ps, List.length_cons]
    show 2 + _ = _
    omega
theorem dueF_ok {m : Int} (hm : 1 ≤ m ∧ m ≤ 6) : ∀ {ps : List (Int × Int)}, (∀ p ∈ ps, goodB m p = true) → isVot m (dueF m ps)
  | [], _ => fun v h => by simp [dueF] at h
  | p :: ps, h => fun v hv => by
    rw [dueF_cons] at hv
    rcases List.mem_append.mp hv with hv | hv
    · exact (twoF_ok hm (h p List.mem_cons_self)).1 v hv
    · exact dueF_ok hm (fun q hq => h q (List.mem_cons_of_mem _ hq)) v hv
theorem dueF_lead {m : Int} (hm : 1 ≤ m ∧ m ≤ 6) {a b : Int} (ha : 0 ≤ a ∧ a < m) (hb : 0 ≤ b ∧ b < m) (ne : a ≠ b) : ∀ {ps : List (Int × Int)}, (∀ p ∈ ps, goodB m p = true) →
    ((b, a) ∉ ps → 0 ≤ leadF (dueF m ps) a b) ∧ ((b, a) ∉ ps → (a, b) ∈ ps → 0 < leadF (dueF m ps) a b) ∧ ((a, b) ∉ ps → leadF (dueF m ps) a b ≤ 0)
  | [], _ => by simp [dueF, leadF]
  | p :: ps, h => by
    obtain ⟨h1, h2, h3⟩ := dueF_lead hm ha hb ne (ps := ps) fun q hq => h q (List.mem_cons_of_mem _ hq)
    have z := (twoF_ok hm (h p List.mem_cons_self)).2 a b ha.1 ha.2 hb.1 hb.2 ne
    rw [dueF_cons, leadF_app, z]
    simp only [List.mem_cons, not_or]
    refine ⟨fun k => ?_, fun k k2 => ?_, fun k => ?_⟩
    · have := h1 k.2
      rw [if_neg k.1]
      split <;> omega
    · have := h1 k.2
      rw [if_neg k.1]
      rcases k2 with k2 | k2
      · rw [if_pos k2]
        omega
      · have := h2 k.2 k2
        split <;> omega
    · have := h3 k.2
      rw [if_neg k.1]
      split <;> omega
/-- the voters put together for a web make just this web -/
theorem due_beats {m : Int} (hm : 1 ≤ m ∧ m ≤ 6) {ps : List (Int × Int)} (h : isWeb m ps) : beatsF m (dueF m ps) = srtW ps := by
  have hg := (isWeb_set.mp h).1
  refine beatsF_is ⟨by omega, hm.2⟩ h.nodup fun p => ⟨fun hp => ?_, fun hp => ?_⟩
  · obtain ⟨h1, h2, h3, h4, h5⟩ := h.good hp
    exact ⟨h1, h2, h3, h4, h5, (dueF_lead hm ⟨h1, h2⟩ ⟨h3, h4⟩ h5 hg).2.1 (h.swp hp) hp⟩
  · obtain ⟨h1, h2, h3, h4, h5, h6⟩ := hp
    refine Classical.byContradiction fun n => ?_
    have := (dueF_lead hm ⟨h1, h2⟩ ⟨h3, h4⟩ h5 hg).2.2 n
    omega
/-- the lead that the voters for a web give: two for each beat -/
theorem due_lead {m : Int} (hm : 1 ≤ m ∧ m ≤ 6) {a b : Int} (ha : 0 ≤ a ∧ a < m) (hb : 0 ≤ b ∧ b < m) (ne : a ≠ b) : ∀ {ps : List (Int × Int)}, isWeb m ps → leadF (dueF m ps) a b = if (a, b) ∈ ps then 2 else if (b, a) ∈ ps then -2 else 0
  | [], _ => by simp [dueF, leadF]
  | p :: ps, h => by
    obtain ⟨g, n⟩ := isWeb_set.mp h
    rw [List.map_cons, List.nodup_cons] at n
    have hw : isWeb m ps := isWeb_set.mpr ⟨fun q hq => g q (List.mem_cons_of_mem _ hq), n.2⟩
    have nm : p ∉ ps ∧ swp p ∉ ps := ⟨fun z => n.1 (nrm_mem.mpr (.inl z)), fun z => n.1 (nrm_mem.mpr (.inr z))⟩
    have z := (twoF_ok hm (g p List.mem_cons_self)).2 a b ha.1 ha.2 hb.1 hb.2 ne
    rw [dueF_cons, leadF_app, z, due_lead hm ha hb ne hw]
    simp only [List.mem_cons]
    by_cases e1 : (a, b) = p
    · subst e1
      have n2 : (b, a) ∉ ps := nm.2
      rw [if_pos rfl, if_neg nm.1, if_neg n2, if_pos (.inl rfl)]
      rfl
    · by_cases e2 : (b, a) = p
      · subst e2
        have n2 : (a, b) ∉ ps := nm.2
        rw [if_neg e1, if_pos rfl, if_neg n2, if_neg nm.1, if_neg (by simp [e1, n2]), if_pos (.inl rfl)]
        rfl
      · rw [if_neg e1, if_neg e2]
        simp [e1, e2]
end Bm

namespace Bm
open PySem PySem.Spec PyProof.Rows L2 Evl
local macro_rules | `(tactic| wtm_at "rp") => `(tactic| first | exact rp_int | exact rp_bl | exact rp_str | exact rp_non | assumption | (refine' Rp.ex ?e ?h; (case h => assumption); (case e => assumption)) | exact Own.rp (by assumption))
local macro_rules | `(tactic| wtm_at "side") => `(tactic| first | assumption | omega | decide | rfl | exact ⟨by omega, by omega⟩)
local macro_rules | `(tactic| wtm_at "es") => `(tactic| first | exact evs_nil | (refine' evs_cons ?a ?b; (case a => wtm_at "ev"); (case b => wtm_at "es")))
local macro_rules | `(tactic| wtm_at "ev") => `(tactic| first
  | exact evd_int | exact evd_str | exact evd_bl | exact evd_non
  | (refine' evd_var rfl ?h; (case h => wtm_at "rp"))
  | ((with_reducible refine' evd_op ?a ?b rd_addI); (case a => wtm_at "ev"); (case b => wtm_at "ev"))
  | ((with_reducible refine' evd_op ?a ?b rd_subI); (case a => wtm_at "ev"); (case b => wtm_at "ev"))
  | ((with_reducible refine' evd_op ?a ?b (rd_mulI ?c)); (case a => wtm_at "ev"); (case b => wtm_at "ev"); (case c => wtm_at "side"))
  | ((with_reducible refine' evd_op ?a ?b (rd_divI ?c)); (case a => wtm_at "ev"); (case b => wtm_at "ev"); (case c => wtm_at "side"))
  | ((with_reducible refine' evd_op ?a ?b (rd_modI ?c)); (case a => wtm_at "ev"); (case b => wtm_at "ev"); (case c => wtm_at "side"))
  | ((with_reducible refine' evd_op ?a ?b rd_ltI); (case a => wtm_at "ev"); (case b => wtm_at "ev"))
  | ((with_reducible refine' evd_op ?a ?b rd_leI); (case a => wtm_at "ev"); (case b => wtm_at "ev"))
  | ((with_reducible refine' evd_op ?a ?b rd_gtI); (case a => wtm_at "ev"); (case b => wtm_at "ev"))
  | ((with_reducible refine' evd_op ?a ?b rd_geI); (case a => wtm_at "ev"); (case b => wtm_at "ev"))
  | ((with_reducible refine' evd_op ?a ?b rd_eqI); (case a => wtm_at "ev"); (case b => wtm_at "ev"))
  | ((with_reducible refine' evd_op ?a ?b rd_neI); (case a => wtm_at "ev"); (case b => wtm_at "ev"))
  | ((with_reducible refine' evd_op ?a ?b rd_eqB); (case a => wtm_at "ev"); (case b => wtm_at "ev"))
  | ((with_reducible refine' evd_op ?a ?b rd_neB); (case a => wtm_at "ev"); (case b => wtm_at "ev"))
  | ((with_reducible refine' evd_op ?a ?b rd_isNo); (case a => wtm_at "ev"); (case b => wtm_at "ev"))
  | ((with_reducible refine' evd_op ?a ?b rd_notNo); (case a => wtm_at "ev"); (case b => wtm_at "ev"))
  | ((with_reducible refine' evd_op ?a ?b rd_inIL); (case a => wtm_at "ev"); (case b => wtm_at "ev"))
  | ((with_reducible refine' evd_op ?a ?b rd_niIL); (case a => wtm_at "ev"); (case b => wtm_at "ev"))
  | ((with_reducible refine' evd_op ?a ?b rd_inID); (case a => wtm_at "ev"); (case b => wtm_at "ev"))
  | ((with_reducible refine' evd_op ?a ?b rd_niID); (case a => wtm_at "ev"); (case b => wtm_at "ev"))
  | ((with_reducible refine' evd_neg ?a); (case a => wtm_at "ev"))
  | ((with_reducible refine' evd_tix ?a ?b ?c); (case a => wtm_at "ev"); (case b => wtm_at "ev"); (case c => wtm_at "side"))
  | ((with_reducible refine' evd_tup ?a ?b); (case a => wtm_at "es"); (case b => exact Nat.le_of_ble_eq_true rfl))
  | ((with_reducible refine' evd_cb ?a cd_lenL); (case a => wtm_at "es"))
  | ((with_reducible refine' evd_cb ?a cd_lenT); (case a => wtm_at "es"))
  | ((with_reducible refine' evd_cb ?a cd_intB); (case a => wtm_at "es"))
  | ((with_reducible refine' evd_cb ?a cd_tupL); (case a => wtm_at "es"))
  | ((with_reducible refine' evd_and ?a ?b); (case a => wtm_at "ev"); (case b => intro _; wtm_at "ev"))
  | ((with_reducible refine' evd_or ?a ?b); (case a => wtm_at "ev"); (case b => intro _; wtm_at "ev"))
  | ((with_reducible refine' evd_not ?a); (case a => wtm_at "ev"))
  | ((with_reducible refine' evd_op ?a ?b rd_neIL); (case a => wtm_at "ev"); (case b => wtm_at "ev"))
  | ((with_reducible refine' evd_op ?a ?b rd_eqIL); (case a => wtm_at "ev"); (case b => wtm_at "ev"))
  | ((with_reducible refine' EvN.toD ?a); (case a => wtm_at "en")))
local macro_rules | `(tactic| wtm_at "en") => `(tactic| first
  | ((with_reducible refine' evn_cb ?a cn_sortTI); (case a => wtm_at "es"))
  | ((with_reducible refine' evn_cb ?a cn_listL); (case a => wtm_at "es"))
  | ((with_reducible refine' evn_cb ?a cn_listT); (case a => wtm_at "es"))
  | ((with_reducible refine' evn_rng ?a ?b); (case a => wtm_at "ev"); (case b => wtm_at "side"))
  | ((with_reducible refine' evn_lst ?a ?b); (case a => wtm_at "es"); (case b => exact Nat.le_of_ble_eq_true rfl))
  | ((with_reducible refine' evn_cat ?a ?b ?c); (case a => wtm_at "ev"); (case b => wtm_at "ev"); (case c => wtm_at "side"))
  | ((with_reducible refine' evn_slL ?a ?b ?c); (case a => wtm_at "ev"); (case b => first | exact evp_none | (refine' evp_some ?d; (case d => wtm_at "ev"))); (case c => first | exact evp_none | (refine' evp_some ?d; (case d => wtm_at "ev")))))
local macro_rules | `(tactic| wtm_at "et") => `(tactic| first
  | exact et_yes
  | (refine' ett ?a; (case a => wtm_at "ev"))
  | (refine' etB ?a; (case a => wtm_at "ev"))
  | (refine' et_and ?a ?b; (case a => wtm_at "et"); (case b => intro _; wtm_at "et"))
  | (refine' et_or ?a ?b; (case a => wtm_at "et"); (case b => intro _; wtm_at "et"))
  | (refine' et_not ?a; (case a => wtm_at "et")))
local macro_rules | `(tactic| wtm_at "nx") => `(tactic| try dsimp only [tSeq, tNext])
/-! ### ways by beats, breadth first, plain -/
theorem nodup_len {m : Int} {xs : List Int} (n : xs.Nodup) (h : ∀ x ∈ xs, 0 ≤ x ∧ x < m) : xs.length ≤ m.toNat := by
  have hp : ((rgI 0 m.toNat).filter fun x => decide (x ∈ xs)).Perm xs := (List.perm_ext_iff_of_nodup ((rgI_nodup 0 m.toNat).filter _) n).mpr fun a => by
    rw [List.mem_filter, mem_rgI, decide_eq_true_eq]
    exact ⟨fun z => z.2, fun z => ⟨by have := h a z; omega, z⟩⟩
  rw [← hp.length_eq]
  exact Nat.le_trans (List.length_filter_le _ _) (by rw [rgI_len]; exact Nat.le_refl _)
inductive Way (ps : List (Int × Int)) (a : Int) : Int → List Int → Prop where
  | one : Way ps a a [a]
  | snoc {b c : Int} {r : List Int} : Way ps a b r → (b, c) ∈ ps → Way ps a c (r ++ [c])
theorem Way.mono {ps qs : List (Int × Int)} {a b : Int} {r : List Int} (h : Way ps a b r) (e : ∀ p ∈ ps, p ∈ qs) : Way qs a b r := by
  induction h with
  | one => exact .one
  | snoc _ hp ih => exact ih.snoc (e _ hp)
theorem Way.pos {ps : List (Int × Int)} {a b : Int} {r : List Int} (h : Way ps a b r) : 0 < r.length := by
  cases h with
  | one => exact Nat.one_pos
  | snoc _ _ => rw [List.length_append]; exact Nat.succ_pos _
theorem Way.first {ps : List (Int × Int)} {a b : Int} {r : List Int} (h : Way ps a b r) : r[0]? = some a := by
  induction h with
  | one => rfl
  | snoc h _ ih => rw [List.getElem?_append_left h.pos, ih]
theorem Way.last {ps : List (Int × Int)} {a b : Int} {r : List Int} (h : Way ps a b r) : r[r.length - 1]? = some b := by
  cases h with
  | one => rfl
  | snoc h _ => rw [List.length_append]; simp
theorem Way.step {ps : List (Int × Int)} {a b : Int} {r : List Int} (h : Way ps a b r) : ∀ (k : Nat) x y, r[k]? = some x → r[k + 1]? = some y → (x, y) ∈ ps := by
  induction h with
  | one => intro k x y _ h2; simp at h2
  | @snoc b c r h hp ih =>
    intro k x y h1 h2
    by_cases hk : k + 1 < r.length
    · rw [List.getElem?_append_left (by omega)] at h1
      rw [List.getElem?_append_left hk] at h2
      exact ih k x y h1 h2
    · have hk2 : k + 1 = r.length := by
        obtain ⟨z, _⟩ := List.getElem?_eq_some_iff.mp h2
        rw [List.length_append] at z
        simp at z
        omega
      rw [List.getElem?_append_left (by omega)] at h1
      rw [hk2, List.getElem?_append_right (Nat.le_refl _), Nat.sub_self] at h2
      have e2 : y = c := by simpa using h2.symm
      have := h.last
      rw [show r.length - 1 = k by omega, h1] at this
      have e1 : x = b := by simpa using this
      rw [e1, e2]
      exact hp
/-- the state: the things met, each with its way -/
abbrev BSt : Type := List (Int × List Int)
def keysB (st : BSt) : List Int := st.map (·.1)
def stepB (c : Int) (r : List Int) (st : BSt) (p : Int × Int) : BSt := if p.1 = c ∧ p.2 ∉ keysB st then st ++ [(p.2, r ++ [p.2])] else st
def bfsGo (ps : List (Int × Int)) : Nat → Nat → BSt → BSt
  | 0, _, st => st
  | n + 1, h, st => match st[h]? with
    | none => st
    | some e => bfsGo ps n (h + 1) (ps.foldl (stepB e.1 e.2) st)
def bfsF (ps : List (Int × Int)) (a : Int) : BSt := bfsGo ps 8 0 [(a, [a])]
def bwF (ps : List (Int × Int)) (a b : Int) : Option (List Int) := ((bfsF ps a).find? fun e => decide (e.1 = b)).map (·.2)
structure BInv (ps : List (Int × Int)) (m a : Int) (h : Nat) (st : BSt) : Prop where
  nd : (keysB st).Nodup
  rg : ∀ k ∈ keysB st, 0 ≤ k ∧ k < m
  hl : h ≤ st.length
  wy : ∀ e ∈ st, Way ps a e.1 e.2 ∧ e.2.Nodup ∧ ∀ x ∈ e.2, x ∈ keysB st
  mono : ∀ (i j : Nat) (ei ej : Int × List Int), i ≤ j → st[i]? = some ei → st[j]? = some ej → ei.2.length ≤ ej.2.length
  near : ∀ (eh : Int × List Int), st[h]? = some eh → ∀ e ∈ st, e.2.length ≤ eh.2.length + 1
  done : ∀ (i : Nat) (ei : Int × List Int), i < h → st[i]? = some ei → ∀ k, (ei.1, k) ∈ ps → ∃ e ∈ st, e.1 = k ∧ e.2.length ≤ ei.2.length + 1
  st0 : st[0]? = some (a, [a])
theorem BInv.len {ps : List (Int × Int)} {m a : Int} {h : Nat} {st : BSt} (I : BInv ps m a h st) : st.length ≤ m.toNat := by
  have := nodup_len I.nd I.rg
  unfold keysB at this
  rwa [List.length_map] at this
theorem BInv.start {ps : List (Int × Int)} {m a : Int} (ha : 0 ≤ a ∧ a < m) : BInv ps m a 0 [(a, [a])] where
  nd := by simp [keysB]
  rg := fun k hk => by
    have : k = a := by simpa [keysB] using hk
    rw [this]
    exact ha
  hl := Nat.zero_le _
  wy := fun e he => by
    have : e = (a, [a]) := by simpa using he
    rw [this]
    exact ⟨.one, by simp, fun x hx => by simpa [keysB] using hx⟩
  mono := fun i j ei ej hij hi hj => by
    have ei' : ei = (a, [a]) := by simpa using List.mem_of_getElem? hi
    have ej' : ej = (a, [a]) := by simpa using List.mem_of_getElem? hj
    rw [ei', ej']
    exact Nat.le_refl _
  near := fun eh hh e he => by
    have : e = (a, [a]) := by simpa using he
    rw [this]
    show 1 ≤ _
    omega
  done := fun i ei hi => absurd hi (Nat.not_lt_zero _)
  st0 := rfl
structure BIn (ps : List (Int × Int)) (m a : Int) (h : Nat) (c : Int) (r : List Int) (qs : List (Int × Int)) (st : BSt) : Prop where
  I : BInv ps m a h st
  at_ : st[h]? = some (c, r)
  dn : ∀ k, (c, k) ∈ qs → ∃ e ∈ st, e.1 = k ∧ e.2.length ≤ r.length + 1
theorem BIn.step {ps : List (Int × Int)} {m a : Int} {h : Nat} {c : Int} {r : List Int} {qs : List (Int × Int)} {st : BSt} (B : BIn ps m a h c r qs st) {p : Int × Int} (hp : p ∈ ps) (hr : 0 ≤ p.2 ∧ p.2 < m) : BIn ps m a h c r (qs ++ [p]) (stepB c r st p) := by
  obtain ⟨I, ha, hd⟩ := B
  have hmem : (c, r) ∈ st := List.mem_of_getElem? ha
  unfold stepB
  by_cases hc : p.1 = c ∧ p.2 ∉ keysB st
  · rw [if_pos hc]
    obtain ⟨h1, h2⟩ := hc
    obtain ⟨w1, w2, w3⟩ := I.wy _ hmem
    have hh : h < st.length := (List.getElem?_eq_some_iff.mp ha).1
    have old : ∀ {i : Nat} {e : Int × List Int}, (st ++ [(p.2, r ++ [p.2])])[i]? = some e → (i < st.length ∧ st[i]? = some e) ∨ (i = st.length ∧ e = (p.2, r ++ [p.2])) := fun {i e} z => by
      by_cases hi : i < st.length
      · rw [List.getElem?_append_left hi] at z
        exact .inl ⟨hi, z⟩
      · rw [List.getElem?_append_right (by omega)] at z
        have : i - st.length = 0 := by
          obtain ⟨y, _⟩ := List.getElem?_eq_some_iff.mp z
          simp at y
          omega
        rw [this] at z
        exact .inr ⟨by omega, by simpa using z.symm⟩
    refine ⟨⟨?_, ?_, ?_, ?_, ?_, ?_, ?_, ?_⟩, ?_, ?_⟩
    · unfold keysB at h2 ⊢
      rw [List.map_append, List.nodup_append]
      refine ⟨I.nd, by simp, fun x hx y hy e => ?_⟩
      have : y = p.2 := by simpa using hy
      rw [e, this] at hx
      exact h2 hx
    · intro k hk
      unfold keysB at hk
      rw [List.map_append] at hk
      rcases List.mem_append.mp hk with hk | hk
      · exact I.rg k hk
      · have : k = p.2 := by simpa using hk
        rw [this]
        exact hr
    · rw [List.length_append]
      omega
    · intro e he
      have sub : ∀ x ∈ keysB st, x ∈ keysB (st ++ [(p.2, r ++ [p.2])]) := fun x hx => by
        unfold keysB
        rw [List.map_append]
        exact List.mem_append_left _ hx
      rcases List.mem_append.mp he with he | he
      · obtain ⟨v1, v2, v3⟩ := I.wy e he
        exact ⟨v1, v2, fun x hx => sub x (v3 x hx)⟩
      · have : e = (p.2, r ++ [p.2]) := by simpa using he
        rw [this]
        refine ⟨w1.snoc (by rw [← h1]; exact hp), ?_, fun x hx => ?_⟩
        · rw [List.nodup_append]
          refine ⟨w2, by simp, fun x hx y hy e => ?_⟩
          have : y = p.2 := by simpa using hy
          rw [e, this] at hx
          exact h2 (w3 _ hx)
        · rcases List.mem_append.mp hx with hx | hx
          · exact sub x (w3 x hx)
          · have : x = p.2 := by simpa using hx
            rw [this]
            unfold keysB
            simp
    · intro i j ei ej hij hi hj
      rcases old hi with ⟨li, hi⟩ | ⟨li, hi⟩ <;> rcases old hj with ⟨lj, hj⟩ | ⟨lj, hj⟩
      · exact I.mono i j ei ej hij hi hj
      · rw [hj]
        have := I.near _ ha ei (List.mem_of_getElem? hi)
        rw [List.length_append]
        simpa using this
      · omega
      · rw [hi, hj]
        exact Nat.le_refl _
    · intro eh he e hm
      rw [List.getElem?_append_left hh, ha] at he
      cases he
      rcases List.mem_append.mp hm with hm | hm
      · exact I.near _ ha e hm
      · have : e = (p.2, r ++ [p.2]) := by simpa using hm
        rw [this, List.length_append]
        simp
    · intro i ei hi he k hk
      rw [List.getElem?_append_left (by omega)] at he
      obtain ⟨e, he2, e3⟩ := I.done i ei hi he k hk
      exact ⟨e, List.mem_append_left _ he2, e3⟩
    · rw [List.getElem?_append_left (by omega)]
      exact I.st0
    · rw [List.getElem?_append_left hh]
      exact ha
    · intro k hk
      rcases List.mem_append.mp hk with hk | hk
      · obtain ⟨e, he, e2⟩ := hd k hk
        exact ⟨e, List.mem_append_left _ he, e2⟩
      · have e : (c, k) = p := by simpa using hk
        have e2 : k = p.2 := by rw [← e]
        refine ⟨(p.2, r ++ [p.2]), List.mem_append_right _ (by simp), e2.symm, ?_⟩
        rw [List.length_append]
        simp
  · rw [if_neg hc]
    refine ⟨I, ha, fun k hk => ?_⟩
    rcases List.mem_append.mp hk with hk | hk
    · exact hd k hk
    · have e : (c, k) = p := by simpa using hk
      have h2 : p.2 ∈ keysB st := Classical.byContradiction fun z => hc ⟨by rw [← e], z⟩
      obtain ⟨x, hx, e3⟩ := List.mem_map.mp h2
      exact ⟨x, hx, by rw [e3, ← e], I.near _ ha x hx⟩
theorem foldl_take {α β : Type} {f : β → α → β} {s : β} {xs : List α} {i : Nat} {x : α} (h : xs[i]? = some x) : (xs.take (i + 1)).foldl f s = f ((xs.take i).foldl f s) x := by
  rw [List.take_add_one, h, List.foldl_append]
  rfl
theorem BIn.go {ps : List (Int × Int)} {m a : Int} (hps : ∀ p ∈ ps, 0 ≤ p.2 ∧ p.2 < m) {h : Nat} {c : Int} {r : List Int} {st : BSt} (I : BInv ps m a h st) (ha : st[h]? = some (c, r)) : ∀ i, i ≤ ps.length → BIn ps m a h c r (ps.take i) ((ps.take i).foldl (stepB c r) st)
  | 0, _ => ⟨I, ha, fun k hk => by simp at hk⟩
  | i + 1, hi => by
    have hx := List.getElem?_eq_getElem (l := ps) (i := i) (by omega)
    have hm := List.mem_of_getElem? hx
    rw [foldl_take hx, List.take_add_one, hx]
    exact (BIn.go hps I ha i (by omega)).step hm (hps _ hm)
theorem BIn.out {ps : List (Int × Int)} {m a : Int} {h : Nat} {c : Int} {r : List Int} {st : BSt} (B : BIn ps m a h c r ps st) : BInv ps m a (h + 1) st := by
  obtain ⟨I, ha, hd⟩ := B
  refine ⟨I.nd, I.rg, (List.getElem?_eq_some_iff.mp ha).1, I.wy, I.mono, fun eh he e hm => ?_, fun i ei hi he k hk => ?_, I.st0⟩
  · have h1 := I.near _ ha e hm
    have h2 := I.mono h (h + 1) _ _ (Nat.le_succ _) ha he
    dsimp only at h1 h2
    omega
  · by_cases h2 : i < h
    · exact I.done i ei h2 he k hk
    · have : i = h := by omega
      subst this
      rw [ha] at he
      cases he
      exact hd k hk
theorem BInv.next {ps : List (Int × Int)} {m a : Int} (hps : ∀ p ∈ ps, 0 ≤ p.2 ∧ p.2 < m) {h : Nat} {e : Int × List Int} {st : BSt} (I : BInv ps m a h st) (ha : st[h]? = some e) : BInv ps m a (h + 1) (ps.foldl (stepB e.1 e.2) st) := by
  have z := BIn.go hps I ha ps.length (Nat.le_refl _)
  rw [List.take_length] at z
  exact z.out
theorem BInv.run {ps : List (Int × Int)} {m a : Int} (hm : m ≤ 6) (hps : ∀ p ∈ ps, 0 ≤ p.2 ∧ p.2 < m) : ∀ {n h : Nat} {st : BSt}, BInv ps m a h st → 7 ≤ n + h → ∃ h', BInv ps m a h' (bfsGo ps n h st) ∧ (bfsGo ps n h st).length ≤ h'
  | 0, h, st, I, hn => by
    have := I.len
    have := I.hl
    omega
  | n + 1, h, st, I, hn => by
    unfold bfsGo
    cases e : st[h]? with
    | none => exact ⟨h, I, List.getElem?_eq_none_iff.mp e⟩
    | some x => exact BInv.run hm hps (I.next hps e) (by omega)
theorem bfs_all {ps : List (Int × Int)} {m a : Int} (hm : m ≤ 6) (hps : ∀ p ∈ ps, 0 ≤ p.2 ∧ p.2 < m) (ha : 0 ≤ a ∧ a < m) {b : Int} {r : List Int} (h : Way ps a b r) : ∃ e ∈ bfsF ps a, e.1 = b ∧ e.2.length ≤ r.length := by
  obtain ⟨h', I, hl⟩ := BInv.run hm hps (n := 8) (BInv.start (ps := ps) ha) (by omega)
  induction h with
  | one => exact ⟨_, List.mem_of_getElem? I.st0, rfl, Nat.le_refl _⟩
  | @snoc b c r _ hp ih =>
    obtain ⟨e, he, e1, e2⟩ := ih
    obtain ⟨i, hi⟩ := List.getElem?_of_mem he
    obtain ⟨li, _⟩ := List.getElem?_eq_some_iff.mp hi
    have li' : i < h' := Nat.lt_of_lt_of_le li hl
    obtain ⟨e', h1, h2, h3⟩ := I.done i e li' hi c (by rw [e1]; exact hp)
    refine ⟨e', h1, h2, ?_⟩
    rw [List.length_append]
    simp
    omega
theorem find_key {st : BSt} {b : Int} {e : Int × List Int} (h : st.find? (fun e => decide (e.1 = b)) = some e) : e ∈ st ∧ e.1 = b := ⟨List.mem_of_find?_eq_some h, by simpa using List.find?_some h⟩
theorem key_uniq {st : BSt} (n : (keysB st).Nodup) {e f : Int × List Int} (he : e ∈ st) (hf : f ∈ st) (h : e.1 = f.1) : e = f := by
  obtain ⟨i, hi⟩ := List.getElem?_of_mem he
  obtain ⟨j, hj⟩ := List.getElem?_of_mem hf
  obtain ⟨li, ei⟩ := List.getElem?_eq_some_iff.mp hi
  obtain ⟨lj, ej⟩ := List.getElem?_eq_some_iff.mp hj
  have z := List.pairwise_iff_getElem.mp n
  have l1 : (keysB st).length = st.length := List.length_map _
  rcases Nat.lt_trichotomy i j with l | l | l
  · have := z i j (by omega) (by omega) l
    unfold keysB at this
    rw [List.getElem_map, List.getElem_map, ei, ej] at this
    exact absurd h this
  · subst l
    rw [← ei, ← ej]
  · have := z j i (by omega) (by omega) l
    unfold keysB at this
    rw [List.getElem_map, List.getElem_map, ei, ej] at this
    exact absurd h.symm this
theorem bw_some {ps : List (Int × Int)} {m a b : Int} (hm : m ≤ 6) (hps : ∀ p ∈ ps, 0 ≤ p.2 ∧ p.2 < m) (ha : 0 ≤ a ∧ a < m) {r : List Int} (h : bwF ps a b = some r) :
    Way ps a b r ∧ r.Nodup ∧ (∀ x ∈ r, 0 ≤ x ∧ x < m) ∧ ∀ r', Way ps a b r' → r.length ≤ r'.length := by
  obtain ⟨h', I, hl⟩ := BInv.run hm hps (n := 8) (BInv.start (ps := ps) ha) (by omega)
  unfold bwF at h
  obtain ⟨e, he, rfl⟩ := Option.map_eq_some_iff.mp h
  obtain ⟨e1, e2⟩ := find_key he
  obtain ⟨w1, w2, w3⟩ := I.wy e e1
  refine ⟨e2 ▸ w1, w2, fun x hx => I.rg x (w3 x hx), fun r' hw => ?_⟩
  obtain ⟨f, hf, f1, f2⟩ := bfs_all hm hps ha hw
  rw [key_uniq I.nd e1 hf (e2.trans f1.symm)]
  exact f2
theorem bw_none {ps : List (Int × Int)} {m a b : Int} (hm : m ≤ 6) (hps : ∀ p ∈ ps, 0 ≤ p.2 ∧ p.2 < m) (ha : 0 ≤ a ∧ a < m) (h : bwF ps a b = none) (r : List Int) : ¬ Way ps a b r := fun hw => by
  obtain ⟨f, hf, f1, f2⟩ := bfs_all hm hps ha hw
  unfold bwF at h
  rw [Option.map_eq_none_iff, List.find?_eq_none] at h
  exact h f hf (decide_eq_true f1)
end Bm

namespace Bm
open PySem PySem.Spec PyProof.Rows L2 Evl
local macro_rules | `(tactic| wtm_at "rp") => `(tactic| first | exact rp_int | exact rp_bl | exact rp_str | exact rp_non | assumption | (refine' Rp.ex ?e ?h; (case h => assumption); (case e => assumption)) | exact Own.rp (by assumption))
local macro_rules | `(tactic| wtm_at "side") => `(tactic| first | assumption | omega | decide | rfl | exact ⟨by omega, by omega⟩)
local macro_rules | `(tactic| wtm_at "es") => `(tactic| first | exact evs_nil | (refine' evs_cons ?a ?b; (case a => wtm_at "ev"); (case b => wtm_at "es")))
local macro_rules | `(tactic| wtm_at "ev") => `(tactic| first
  | exact evd_int | exact evd_str | exact evd_bl | exact evd_non
  | (refine' evd_var rfl ?h; (case h => wtm_at "rp"))
  | ((with_reducible refine' evd_op ?a ?b rd_addI); (case a => wtm_at "ev"); (case b => wtm_at "ev"))
  | ((with_reducible refine' evd_op ?a ?b rd_subI); (case a => wtm_at "ev"); (case b => wtm_at "ev"))
  | ((with_reducible refine' evd_op ?a ?b (rd_mulI ?c)); (case a => wtm_at "ev"); (case b => wtm_at "ev"); (case c => wtm_at "side"))
  | ((with_reducible refine' evd_op ?a ?b (rd_divI ?c)); (case a => wtm_at "ev"); (case b => wtm_at "ev"); (case c => wtm_at "side"))
  | ((with_reducible refine' evd_op ?a ?b (rd_modI ?c)); (case a => wtm_at "ev"); (case b => wtm_at "ev"); (case c => wtm_at "side"))
  | ((with_reducible refine' evd_op ?a ?b rd_ltI); (case a => wtm_at "ev"); (case b => wtm_at "ev"))
  | ((with_reducible refine' evd_op ?a ?b rd_leI); (case a => wtm_at "ev"); (case b => wtm_at "ev"))
  | ((with_reducible refine' evd_op ?a ?b rd_gtI); (case a => wtm_at "ev"); (case b => wtm_at "ev"))
  | ((with_reducible refine' evd_op ?a ?b rd_geI); (case a => wtm_at "ev"); (case b => wtm_at "ev"))
  | ((with_reducible refine' evd_op ?a ?b rd_eqI); (case a => wtm_at "ev"); (case b => wtm_at "ev"))
  | ((with_reducible refine' evd_op ?a ?b rd_neI); (case a => wtm_at "ev"); (case b => wtm_at "ev"))
  | ((with_reducible refine' evd_op ?a ?b rd_eqB); (case a => wtm_at "ev"); (case b => wtm_at "ev"))
  | ((with_reducible refine' evd_op ?a ?b rd_neB); (case a => wtm_at "ev"); (case b => wtm_at "ev"))
  | ((with_reducible refine' evd_op ?a ?b rd_isNo); (case a => wtm_at "ev"); (case b => wtm_at "ev"))
  | ((with_reducible refine' evd_op ?a ?b rd_notNo); (case a => wtm_at "ev"); (case b => wtm_at "ev"))
  | ((with_reducible refine' evd_op ?a ?b rd_inIL); (case a => wtm_at "ev"); (case b => wtm_at "ev"))
  | ((with_reducible refine' evd_op ?a ?b rd_niIL); (case a => wtm_at "ev"); (case b => wtm_at "ev"))
  | ((with_reducible refine' evd_op ?a ?b rd_inID); (case a => wtm_at "ev"); (case b => wtm_at "ev"))
  | ((with_reducible refine' evd_op ?a ?b rd_niID); (case a => wtm_at "ev"); (case b => wtm_at "ev"))
  | ((with_reducible refine' evd_neg ?a); (case a => wtm_at "ev"))
  | ((with_reducible refine' evd_tix ?a ?b ?c); (case a => wtm_at "ev"); (case b => wtm_at "ev"); (case c => wtm_at "side"))
  | ((with_reducible refine' evd_tup ?a ?b); (case a => wtm_at "es"); (case b => exact Nat.le_of_ble_eq_true rfl))
  | ((with_reducible refine' evd_cb ?a cd_lenL); (case a => wtm_at "es"))
  | ((with_reducible refine' evd_cb ?a cd_lenT); (case a => wtm_at "es"))
  | ((with_reducible refine' evd_cb ?a cd_intB); (case a => wtm_at "es"))
  | ((with_reducible refine' evd_cb ?a cd_tupL); (case a => wtm_at "es"))
  | ((with_reducible refine' evd_and ?a ?b); (case a => wtm_at "ev"); (case b => intro _; wtm_at "ev"))
  | ((with_reducible refine' evd_or ?a ?b); (case a => wtm_at "ev"); (case b => intro _; wtm_at "ev"))
  | ((with_reducible refine' evd_not ?a); (case a => wtm_at "ev"))
  | ((with_reducible refine' evd_op ?a ?b rd_neIL); (case a => wtm_at "ev"); (case b => wtm_at "ev"))
  | ((with_reducible refine' evd_op ?a ?b rd_eqIL); (case a => wtm_at "ev"); (case b => wtm_at "ev"))
  | ((with_reducible refine' EvN.toD ?a); (case a => wtm_at "en")))
local macro_rules | `(tactic| wtm_at "en") => `(tactic| first
  | ((with_reducible refine' evn_cb ?a cn_sortTI); (case a => wtm_at "es"))
  | ((with_reducible refine' evn_cb ?a cn_listL); (case a => wtm_at "es"))
  | ((with_reducible refine' evn_cb ?a cn_listT); (case a => wtm_at "es"))
  | ((with_reducible refine' evn_rng ?a ?b); (case a => wtm_at "ev"); (case b => wtm_at "side"))
  | ((with_reducible refine' evn_lst ?a ?b); (case a => wtm_at "es"); (case b => exact Nat.le_of_ble_eq_true rfl))
  | ((with_reducible refine' evn_cat ?a ?b ?c); (case a => wtm_at "ev"); (case b => wtm_at "ev"); (case c => wtm_at "side"))
  | ((with_reducible refine' evn_slL ?a ?b ?c); (case a => wtm_at "ev"); (case b => first | exact evp_none | (refine' evp_some ?d; (case d => wtm_at "ev"))); (case c => first | exact evp_none | (refine' evp_some ?d; (case d => wtm_at "ev")))))
local macro_rules | `(tactic| wtm_at "et") => `(tactic| first
  | exact et_yes
  | (refine' ett ?a; (case a => wtm_at "ev"))
  | (refine' etB ?a; (case a => wtm_at "ev"))
  | (refine' et_and ?a ?b; (case a => wtm_at "et"); (case b => intro _; wtm_at "et"))
  | (refine' et_or ?a ?b; (case a => wtm_at "et"); (case b => intro _; wtm_at "et"))
  | (refine' et_not ?a; (case a => wtm_at "et")))
local macro_rules | `(tactic| wtm_at "nx") => `(tactic| try dsimp only [tSeq, tNext])
/-! ### rings, orders, plain -/
def srStep (ps : List (Int × Int)) (best : Option (List Int)) (p : Int × Int) : Option (List Int) := match bwF ps p.2 p.1 with
  | none => best
  | some r => match best with
    | none => some r
    | some b => if r.length < b.length then some r else some b
def srTo (ps qs : List (Int × Int)) : Option (List Int) := qs.foldl (srStep ps) none
def srF (ps : List (Int × Int)) : Option (List Int) := srTo ps ps
theorem srTo_snoc (ps qs : List (Int × Int)) (p : Int × Int) : srTo ps (qs ++ [p]) = srStep ps (srTo ps qs) p := by
  unfold srTo
  rw [List.foldl_append]
  rfl
theorem snoc_ind {α : Type} {P : List α → Prop} (h0 : P []) (hs : ∀ xs x, P xs → P (xs ++ [x])) (xs : List α) : P xs := by
  have : ∀ ys : List α, P ys.reverse := fun ys => by
    induction ys with
    | nil => exact h0
    | cons y ys ih =>
      rw [List.reverse_cons]
      exact hs _ _ ih
  have := this xs.reverse
  rwa [List.reverse_reverse] at this
theorem srTo_inv (ps : List (Int × Int)) : ∀ qs : List (Int × Int), (srTo ps qs = none → ∀ p ∈ qs, bwF ps p.2 p.1 = none) ∧
    ∀ r, srTo ps qs = some r → (∃ p ∈ qs, bwF ps p.2 p.1 = some r) ∧ ∀ p ∈ qs, ∀ r', bwF ps p.2 p.1 = some r' → r.length ≤ r'.length := by
  refine snoc_ind ⟨fun _ p hp => by simp at hp, fun r h => by simp [srTo] at h⟩ fun qs x ih => ?_
  obtain ⟨h1, h2⟩ := ih
  rw [srTo_snoc]
  unfold srStep
  cases hb : bwF ps x.2 x.1 with
  | none =>
    refine ⟨fun h p hp => ?_, fun r h => ?_⟩
    · rcases List.mem_append.mp hp with hp | hp
      · exact h1 h p hp
      · rw [List.mem_singleton.mp hp]
        exact hb
    · obtain ⟨⟨p, hp, e⟩, k⟩ := h2 r h
      refine ⟨⟨p, List.mem_append_left _ hp, e⟩, fun q hq r' hr => ?_⟩
      rcases List.mem_append.mp hq with hq | hq
      · exact k q hq r' hr
      · rw [List.mem_singleton.mp hq, hb] at hr
        cases hr
  | some r0 =>
    cases ht : srTo ps qs with
    | none =>
      dsimp only
      refine ⟨(fun h => nomatch h), fun r h => ?_⟩
      cases h
      refine ⟨⟨x, List.mem_append_right _ (by simp), hb⟩, fun q hq r' hr => ?_⟩
      rcases List.mem_append.mp hq with hq | hq
      · rw [h1 ht q hq] at hr
        cases hr
      · rw [List.mem_singleton.mp hq, hb] at hr
        cases hr
        exact Nat.le_refl _
    | some b =>
      dsimp only
      obtain ⟨⟨p, hp, e⟩, k⟩ := h2 b ht
      by_cases hl : r0.length < b.length
      · rw [if_pos hl]
        refine ⟨(fun h => nomatch h), fun r h => ?_⟩
        cases h
        refine ⟨⟨x, List.mem_append_right _ (by simp), hb⟩, fun q hq r' hr => ?_⟩
        rcases List.mem_append.mp hq with hq | hq
        · have := k q hq r' hr
          omega
        · rw [List.mem_singleton.mp hq, hb] at hr
          cases hr
          exact Nat.le_refl _
      · rw [if_neg hl]
        refine ⟨(fun h => nomatch h), fun r h => ?_⟩
        cases h
        refine ⟨⟨p, List.mem_append_left _ hp, e⟩, fun q hq r' hr => ?_⟩
        rcases List.mem_append.mp hq with hq | hq
        · exact k q hq r' hr
        · rw [List.mem_singleton.mp hq, hb] at hr
          cases hr
          omega
theorem Way.cas {ps : List (Int × Int)} {a b : Int} {r : List Int} (h : Way ps a b r) : (b = a ∧ r = [a]) ∨ ∃ c r0, Way ps a c r0 ∧ (c, b) ∈ ps ∧ r = r0 ++ [b] := by
  cases h with
  | one => exact .inl ⟨rfl, rfl⟩
  | snoc h hp => exact .inr ⟨_, _, h, hp, rfl⟩
theorem isWeb.rng {m : Int} {ps : List (Int × Int)} (h : isWeb m ps) : ∀ p ∈ ps, 0 ≤ p.2 ∧ p.2 < m := fun p hp => ⟨(h.good hp).2.2.1, (h.good hp).2.2.2.1⟩
/-- what a told ring is -/
structure Ring (m : Int) (ps : List (Int × Int)) (r : List Int) : Prop where
  l3 : 3 ≤ r.length
  l6 : r.length ≤ m.toNat
  nd : r.Nodup
  ch : ∀ (k : Nat) x y, r[k]? = some x → r[k + 1]? = some y → (x, y) ∈ ps
  cl : ∃ x y, r[0]? = some x ∧ r[r.length - 1]? = some y ∧ (y, x) ∈ ps
theorem sr_some {m : Int} {ps : List (Int × Int)} (hm : m ≤ 6) (h : isWeb m ps) {r : List Int} (e : srF ps = some r) : Ring m ps r ∧ ∀ a b r', Way ps a b r' → (b, a) ∈ ps → r.length ≤ r'.length := by
  obtain ⟨⟨p, hp, e2⟩, k⟩ := (srTo_inv ps ps).2 r e
  obtain ⟨g1, g2, g3, g4, g5⟩ := h.good hp
  obtain ⟨w1, w2, w3, _⟩ := bw_some hm h.rng ⟨g3, g4⟩ e2
  refine ⟨⟨?_, nodup_len w2 w3, w2, w1.step, p.2, p.1, w1.first, w1.last, hp⟩, fun a b r' hw hba => ?_⟩
  · rcases w1.cas with ⟨e, _⟩ | ⟨c, r0, h0, hb0, rfl⟩
    · exact absurd e g5
    · rcases h0.cas with ⟨e, _⟩ | ⟨c2, r1, h1, _, rfl⟩
      · rw [e] at hb0
        exact absurd hb0 (h.swp hp)
      · have := h1.pos
        rw [List.length_append, List.length_append]
        simp
        omega
  · have hb := h.good hba
    cases e3 : bwF ps a b with
    | none => exact absurd hw (bw_none hm h.rng ⟨hb.2.2.1, hb.2.2.2.1⟩ e3 r')
    | some r'' =>
      have h1 := k (b, a) hba r'' e3
      have h2 := (bw_some hm h.rng ⟨hb.2.2.1, hb.2.2.2.1⟩ e3).2.2.2 r' hw
      omega
/-! orders -/
def aheadF (ps : List (Int × Int)) (found : List Int) (t : Int) : List Int := (ps.filter fun p => decide (p.2 = t) && !decide (p.1 ∈ found)).map (·.1)
def freeF (m : Int) (ps : List (Int × Int)) (found : List Int) : List Int := (rgI 0 m.toNat).filter fun t => !decide (t ∈ found) && decide (aheadF ps found t = [])
def foGo (m : Int) (ps : List (Int × Int)) : Nat → List Int → Option (List Int)
  | 0, f => some f
  | n + 1, f => match freeF m ps f with
    | [] => none
    | t :: _ => foGo m ps n (f ++ [t])
def foF (m : Int) (ps : List (Int × Int)) : Option (List Int) := foGo m ps m.toNat []
def keepsF (ps : List (Int × Int)) (v : List Int) : Bool := decide (∀ p ∈ ps, ixOf p.1 v ≤ ixOf p.2 v)
theorem ixOf_lt {x : Int} : ∀ {v : List Int}, x ∈ v → ixOf x v < v.length
  | [], h => by simp at h
  | y :: ys, h => by
    unfold ixOf
    by_cases e : y = x
    · rw [if_pos e]
      exact Nat.succ_pos _
    · rw [if_neg e]
      have := ixOf_lt ((List.mem_cons.mp h).resolve_left fun z => e z.symm)
      rw [List.length_cons]
      omega
theorem ixOf_app {x : Int} : ∀ {v : List Int} (w : List Int), x ∈ v → ixOf x (v ++ w) = ixOf x v
  | [], _, h => by simp at h
  | y :: ys, w, h => by
    rw [List.cons_append]
    unfold ixOf
    by_cases e : y = x
    · rw [if_pos e, if_pos e]
    · rw [if_neg e, if_neg e, ixOf_app w ((List.mem_cons.mp h).resolve_left fun z => e z.symm)]
theorem ixOf_app2 {x : Int} : ∀ {v : List Int} (w : List Int), x ∉ v → ixOf x (v ++ w) = v.length + ixOf x w
  | [], _, _ => by simp
  | y :: ys, w, h => by
    rw [List.cons_append]
    have e : ¬ y = x := fun e => h (e ▸ List.mem_cons_self)
    conv => lhs; unfold ixOf
    rw [if_neg e, ixOf_app2 w fun z => h (List.mem_cons_of_mem _ z), List.length_cons]
    omega
theorem ord_full {m : Int} {f : List Int} (n : f.Nodup) (h : ∀ x ∈ f, 0 ≤ x ∧ x < m) (l : f.length = m.toNat) : isOrd m f := by
  rw [isOrd_iff]
  have hp : ((rgI 0 m.toNat).filter fun x => decide (x ∈ f)).Perm f := (List.perm_ext_iff_of_nodup ((rgI_nodup 0 m.toNat).filter _) n).mpr fun a => by
    rw [List.mem_filter, mem_rgI, decide_eq_true_eq]
    exact ⟨fun z => z.2, fun z => ⟨by have := h a z; omega, z⟩⟩
  have e : (rgI 0 m.toNat).filter (fun x => decide (x ∈ f)) = rgI 0 m.toNat := by
    rw [List.filter_eq_self]
    exact List.length_filter_eq_length_iff.mp (by rw [hp.length_eq, l, rgI_len])
  rw [e] at hp
  exact hp.symm
structure Pref (m : Int) (ps : List (Int × Int)) (f : List Int) : Prop where
  nd : f.Nodup
  rg : ∀ x ∈ f, 0 ≤ x ∧ x < m
  cl : ∀ p ∈ ps, p.2 ∈ f → p.1 ∈ f ∧ ixOf p.1 f ≤ ixOf p.2 f
theorem Pref.nil (m : Int) (ps : List (Int × Int)) : Pref m ps [] := ⟨List.nodup_nil, fun x h => by simp at h, fun p _ h => by simp at h⟩
theorem mem_free {m : Int} {ps : List (Int × Int)} {f : List Int} {t : Int} : t ∈ freeF m ps f ↔ (0 ≤ t ∧ t < m) ∧ t ∉ f ∧ ∀ p ∈ ps, p.2 = t → p.1 ∈ f := by
  unfold freeF
  rw [List.mem_filter, mem_rgI]
  simp only [Bool.and_eq_true, Bool.not_eq_true', decide_eq_false_iff_not, decide_eq_true_eq, aheadF, List.map_eq_nil_iff, List.filter_eq_nil_iff, not_and, Classical.not_not]
  exact ⟨fun ⟨a, b, c⟩ => ⟨by omega, b, c⟩, fun ⟨a, b, c⟩ => ⟨by omega, b, c⟩⟩
theorem Pref.snoc {m : Int} {ps : List (Int × Int)} {f : List Int} (h : Pref m ps f) {t : Int} (ht : t ∈ freeF m ps f) : Pref m ps (f ++ [t]) := by
  obtain ⟨t1, t2, t3⟩ := mem_free.mp ht
  refine ⟨?_, fun x hx => ?_, fun p hp h2 => ?_⟩
  · rw [List.nodup_append]
    refine ⟨h.nd, by simp, fun x hx y hy e => ?_⟩
    rw [List.mem_singleton.mp hy] at e
    exact t2 (e ▸ hx)
  · rcases List.mem_append.mp hx with hx | hx
    · exact h.rg x hx
    · rw [List.mem_singleton.mp hx]
      exact t1
  · by_cases h3 : p.2 ∈ f
    · obtain ⟨c1, c2⟩ := h.cl p hp h3
      refine ⟨List.mem_append_left _ c1, ?_⟩
      rw [ixOf_app _ c1, ixOf_app _ h3]
      exact c2
    · have e : p.2 = t := by
        rcases List.mem_append.mp h2 with h2 | h2
        · exact absurd h2 h3
        · exact List.mem_singleton.mp h2
      have c1 := t3 p hp e
      refine ⟨List.mem_append_left _ c1, ?_⟩
      rw [ixOf_app _ c1, ixOf_app2 _ h3]
      have := ixOf_lt c1
      omega
theorem Pref.keeps {m : Int} {ps : List (Int × Int)} {f : List Int} (h : Pref m ps f) (hl : f.length = m.toNat) (hps : ∀ p ∈ ps, 0 ≤ p.2 ∧ p.2 < m) : isOrd m f ∧ keepsF ps f = true := by
  have ho := ord_full h.nd h.rg hl
  refine ⟨ho, decide_eq_true fun p hp => (h.cl p hp (ho.mem.mpr (hps p hp))).2⟩
theorem foGo_some {m : Int} {ps : List (Int × Int)} (hps : ∀ p ∈ ps, 0 ≤ p.2 ∧ p.2 < m) {v : List Int} : ∀ {n : Nat} {f : List Int}, Pref m ps f → f.length + n = m.toNat → foGo m ps n f = some v → isOrd m v ∧ keepsF ps v = true
  | 0, f, P, hl, e => by
    cases e
    exact P.keeps hl hps
  | n + 1, f, P, hl, e => by
    unfold foGo at e
    cases hf : freeF m ps f with
    | nil => rw [hf] at e; cases e
    | cons t r =>
      rw [hf] at e
      exact foGo_some hps (P.snoc (by rw [hf]; exact List.mem_cons_self)) (by rw [List.length_append]; simp; omega) e
theorem foF_some {m : Int} {ps : List (Int × Int)} (hps : ∀ p ∈ ps, 0 ≤ p.2 ∧ p.2 < m) {v : List Int} (e : foF m ps = some v) : isOrd m v ∧ keepsF ps v = true := foGo_some hps (Pref.nil m ps) (by simp) e
/-- things left, each beaten by one left -/
structure Stuck (m : Int) (ps : List (Int × Int)) (f : List Int) : Prop where
  ne : ∃ t, 0 ≤ t ∧ t < m ∧ t ∉ f
  pr : ∀ t, 0 ≤ t → t < m → t ∉ f → ∃ p ∈ ps, p.2 = t ∧ p.1 ∉ f
theorem foGo_none {m : Int} {ps : List (Int × Int)} : ∀ {n : Nat} {f : List Int}, f.Nodup → (∀ x ∈ f, 0 ≤ x ∧ x < m) → f.length + n = m.toNat → foGo m ps n f = none → ∃ g, Stuck m ps g
  | 0, f, _, _, _, e => by cases e
  | n + 1, f, nd, rg, hl, e => by
    unfold foGo at e
    cases hf : freeF m ps f with
    | nil =>
      refine ⟨f, ?_, fun t t0 t1 tn => ?_⟩
      · refine Classical.byContradiction fun z => ?_
        have hp : (rgI 0 m.toNat).length ≤ f.length := by
          have e2 : (rgI 0 m.toNat).filter (fun x => decide (x ∈ f)) = rgI 0 m.toNat := by
            rw [List.filter_eq_self]
            intro a ha
            rw [mem_rgI] at ha
            exact decide_eq_true (Classical.byContradiction fun k => z ⟨a, ha.1, by omega, k⟩)
          have hp : ((rgI 0 m.toNat).filter fun x => decide (x ∈ f)).Perm f := (List.perm_ext_iff_of_nodup ((rgI_nodup 0 m.toNat).filter _) nd).mpr fun a => by
            rw [List.mem_filter, mem_rgI, decide_eq_true_eq]
            exact ⟨fun z => z.2, fun z => ⟨by have := rg a z; omega, z⟩⟩
          rw [e2] at hp
          rw [hp.length_eq]
          exact Nat.le_refl _
        rw [rgI_len] at hp
        omega
      · refine Classical.byContradiction fun z => ?_
        have : t ∈ freeF m ps f := mem_free.mpr ⟨⟨t0, t1⟩, tn, fun p hp hpt => Classical.byContradiction fun k => z ⟨p, hp, hpt, k⟩⟩
        rw [hf] at this
        cases this
    | cons t r =>
      rw [hf] at e
      have ht : t ∈ freeF m ps f := by rw [hf]; exact List.mem_cons_self
      obtain ⟨t1, t2, t3⟩ := mem_free.mp ht
      refine foGo_none ?_ ?_ (by rw [List.length_append]; simp; omega) e
      · rw [List.nodup_append]
        refine ⟨nd, by simp, fun x hx y hy e => ?_⟩
        rw [List.mem_singleton.mp hy] at e
        exact t2 (e ▸ hx)
      · intro x hx
        rcases List.mem_append.mp hx with hx | hx
        · exact rg x hx
        · rw [List.mem_singleton.mp hx]
          exact t1
theorem foF_none {m : Int} {ps : List (Int × Int)} (e : foF m ps = none) : ∃ g, Stuck m ps g := foGo_none List.nodup_nil (fun x h => by simp at h) (by simp) e
theorem Stuck.no {m : Int} {ps : List (Int × Int)} {f : List Int} (S : Stuck m ps f) (hw : isWeb m ps) {v : List Int} (hv : isOrd m v) : keepsF ps v = false := by
  refine decide_eq_false fun hk => ?_
  have : ∀ (n : Nat) t, 0 ≤ t → t < m → t ∉ f → ixOf t v = n → False := fun n => by
    induction n using Nat.strongRecOn with
    | _ n ih =>
      intro t t0 t1 tn e
      obtain ⟨p, hp, e2, hn⟩ := S.pr t t0 t1 tn
      obtain ⟨g1, g2, g3, g4, g5⟩ := hw.good hp
      have h1 := hk p hp
      have h2 := ixOf_ne (v := v) (hv.mem.mpr ⟨g1, g2⟩) g5
      rw [e2] at h1 h2
      exact ih (ixOf p.1 v) (by omega) p.1 g1 g2 hn rfl
  obtain ⟨t, t0, t1, tn⟩ := S.ne
  exact this _ t t0 t1 tn rfl
theorem Way.cons {ps : List (Int × Int)} {a b c : Int} {r : List Int} (h : Way ps b c r) (hp : (a, b) ∈ ps) : Way ps a c (a :: r) := by
  induction h with
  | one => exact Way.snoc .one hp
  | snoc _ h2 ih => exact Way.snoc ih h2
theorem Way.sub {ps : List (Int × Int)} {a b : Int} {r : List Int} (h : Way ps a b r) : ∀ {d i : Nat} {x y : Int}, r[i]? = some x → r[i + d]? = some y → ∃ r', Way ps x y r'
  | 0, i, x, y, h1, h2 => by
    rw [Nat.add_zero, h1] at h2
    cases h2
    exact ⟨_, .one⟩
  | d + 1, i, x, y, h1, h2 => by
    have hl := (List.getElem?_eq_some_iff.mp h2).1
    have hx := List.getElem?_eq_getElem (l := r) (i := i + d) (by omega)
    obtain ⟨r', hr⟩ := h.sub h1 hx
    exact ⟨_, hr.snoc (h.step (i + d) _ _ hx h2)⟩
theorem Stuck.ring {m : Int} {ps : List (Int × Int)} {f : List Int} (S : Stuck m ps f) (hm : m ≤ 6) (hw : isWeb m ps) : srF ps ≠ none := by
  intro hno
  have long : ∀ n : Nat, ∃ a b r, Way ps a b r ∧ r.length = n + 1 ∧ (∀ x ∈ r, 0 ≤ x ∧ x < m) ∧ a ∉ f := fun n => by
    induction n with
    | zero =>
      obtain ⟨t, t0, t1, tn⟩ := S.ne
      exact ⟨t, t, [t], .one, rfl, fun x hx => by rw [List.mem_singleton.mp hx]; exact ⟨t0, t1⟩, tn⟩
    | succ n ih =>
      obtain ⟨a, b, r, h1, h2, h3, h4⟩ := ih
      have ha := h3 a (List.mem_of_getElem? h1.first)
      obtain ⟨p, hp, e2, hn⟩ := S.pr a ha.1 ha.2 h4
      have g := hw.good hp
      refine ⟨p.1, b, p.1 :: r, h1.cons (by rw [← e2]; exact hp), by rw [List.length_cons, h2], fun x hx => ?_, hn⟩
      rcases List.mem_cons.mp hx with rfl | hx
      · exact ⟨g.1, g.2.1⟩
      · exact h3 x hx
  obtain ⟨a, b, r, h1, h2, h3, _⟩ := long m.toNat
  have hd : ¬ r.Nodup := fun z => by
    have := nodup_len z h3
    omega
  refine hd (List.pairwise_iff_getElem.mpr fun i j hi hj hij e => ?_)
  have xi := List.getElem?_eq_getElem hi
  have xj := List.getElem?_eq_getElem hj
  have xz := List.getElem?_eq_getElem (l := r) (i := i + 1) (by omega)
  have hp := h1.step i _ _ xi xz
  obtain ⟨r', hr⟩ := h1.sub (d := j - (i + 1)) xz (by rw [show i + 1 + (j - (i + 1)) = j by omega]; exact xj)
  have g := hw.good hp
  have hb := (srTo_inv ps ps).1 hno _ hp
  refine bw_none hm hw.rng ⟨g.2.2.1, g.2.2.2.1⟩ hb r' ?_
  rw [e]
  exact hr
theorem keeps_way {ps : List (Int × Int)} {v : List Int} (hk : keepsF ps v = true) {a b : Int} {r : List Int} (h : Way ps a b r) : ixOf a v ≤ ixOf b v := by
  have hk := of_decide_eq_true hk
  induction h with
  | one => exact Nat.le_refl _
  | snoc _ hp ih => exact Nat.le_trans ih (hk _ hp)
theorem keeps_noring {m : Int} {ps : List (Int × Int)} (hm : m ≤ 6) (hw : isWeb m ps) {v : List Int} (hv : isOrd m v) (hk : keepsF ps v = true) : srF ps = none := by
  cases e : srF ps with
  | none => rfl
  | some r =>
    obtain ⟨⟨p, hp, e2⟩, _⟩ := (srTo_inv ps ps).2 r e
    obtain ⟨g1, g2, g3, g4, g5⟩ := hw.good hp
    have h1 := keeps_way hk (bw_some hm hw.rng ⟨g3, g4⟩ e2).1
    have h2 := of_decide_eq_true hk p hp
    have h3 := ixOf_ne (v := v) (hv.mem.mpr ⟨g1, g2⟩) g5
    omega
/-- an order where no ring is, a ring where no order is -/
theorem order_or_ring {m : Int} {ps : List (Int × Int)} (hm : m ≤ 6) (hw : isWeb m ps) : (∃ v, foF m ps = some v ∧ isOrd m v ∧ keepsF ps v = true ∧ srF ps = none) ∨ (foF m ps = none ∧ (∀ v, isOrd m v → keepsF ps v = false) ∧ ∃ r, srF ps = some r) := by
  cases e : foF m ps with
  | some v =>
    obtain ⟨h1, h2⟩ := foF_some hw.rng e
    exact .inl ⟨v, rfl, h1, h2, keeps_noring hm hw h1 h2⟩
  | none =>
    obtain ⟨g, S⟩ := foF_none e
    refine .inr ⟨rfl, fun v hv => S.no hw hv, ?_⟩
    cases e2 : srF ps with
    | none => exact absurd e2 (S.ring hm hw)
    | some r => exact ⟨r, rfl⟩
end Bm

namespace Bm
open PySem PySem.Spec PyProof.Rows L2 Evl
local macro_rules | `(tactic| wtm_at "rp") => `(tactic| first | exact rp_int | exact rp_bl | exact rp_str | exact rp_non | assumption | (refine' Rp.ex ?e ?h; (case h => assumption); (case e => assumption)) | exact Own.rp (by assumption))
local macro_rules | `(tactic| wtm_at "side") => `(tactic| first | assumption | omega | decide | rfl | exact ⟨by omega, by omega⟩)
local macro_rules | `(tactic| wtm_at "es") => `(tactic| first | exact evs_nil | (refine' evs_cons ?a ?b; (case a => wtm_at "ev"); (case b => wtm_at "es")))
local macro_rules | `(tactic| wtm_at "ev") => `(tactic| first
  | exact evd_int | exact evd_str | exact evd_bl | exact evd_non
  | (refine' evd_var rfl ?h; (case h => wtm_at "rp"))
  | ((with_reducible refine' evd_op ?a ?b rd_addI); (case a => wtm_at "ev"); (case b => wtm_at "ev"))
  | ((with_reducible refine' evd_op ?a ?b rd_subI); (case a => wtm_at "ev"); (case b => wtm_at "ev"))
  | ((with_reducible refine' evd_op ?a ?b (rd_mulI ?c)); (case a => wtm_at "ev"); (case b => wtm_at "ev"); (case c => wtm_at "side"))
  | ((with_reducible refine' evd_op ?a ?b (rd_divI ?c)); (case a => wtm_at "ev"); (case b => wtm_at "ev"); (case c => wtm_at "side"))
  | ((with_reducible refine' evd_op ?a ?b (rd_modI ?c)); (case a => wtm_at "ev"); (case b => wtm_at "ev"); (case c => wtm_at "side"))
  | ((with_reducible refine' evd_op ?a ?b rd_ltI); (case a => wtm_at "ev"); (case b => wtm_at "ev"))
  | ((with_reducible refine' evd_op ?a ?b rd_leI); (case a => wtm_at "ev"); (case b => wtm_at "ev"))
  | ((with_reducible refine' evd_op ?a ?b rd_gtI); (case a => wtm_at "ev"); (case b => wtm_at "ev"))
  | ((with_reducible refine' evd_op ?a ?b rd_geI); (case a => wtm_at "ev"); (case b => wtm_at "ev"))
  | ((with_reducible refine' evd_op ?a ?b rd_eqI); (case a => wtm_at "ev"); (case b => wtm_at "ev"))
  | ((with_reducible refine' evd_op ?a ?b rd_neI); (case a => wtm_at "ev"); (case b => wtm_at "ev"))
  | ((with_reducible refine' evd_op ?a ?b rd_eqB); (case a => wtm_at "ev"); (case b => wtm_at "ev"))
  | ((with_reducible refine' evd_op ?a ?b rd_neB); (case a => wtm_at "ev"); (case b => wtm_at "ev"))
  | ((with_reducible refine' evd_op ?a ?b rd_isNo); (case a => wtm_at "ev"); (case b => wtm_at "ev"))
  | ((with_reducible refine' evd_op ?a ?b rd_notNo); (case a => wtm_at "ev"); (case b => wtm_at "ev"))
  | ((with_reducible refine' evd_op ?a ?b rd_inIL); (case a => wtm_at "ev"); (case b => wtm_at "ev"))
  | ((with_reducible refine' evd_op ?a ?b rd_niIL); (case a => wtm_at "ev"); (case b => wtm_at "ev"))
  | ((with_reducible refine' evd_op ?a ?b rd_inID); (case a => wtm_at "ev"); (case b => wtm_at "ev"))
  | ((with_reducible refine' evd_op ?a ?b rd_niID); (case a => wtm_at "ev"); (case b => wtm_at "ev"))
  | ((with_reducible refine' evd_neg ?a); (case a => wtm_at "ev"))
  | ((with_reducible refine' evd_tix ?a ?b ?c); (case a => wtm_at "ev"); (case b => wtm_at "ev"); (case c => wtm_at "side"))
  | ((with_reducible refine' evd_tup ?a ?b); (case a => wtm_at "es"); (case b => exact Nat.le_of_ble_eq_true rfl))
  | ((with_reducible refine' evd_cb ?a cd_lenL); (case a => wtm_at "es"))
  | ((with_reducible refine' evd_cb ?a cd_lenT); (case a => wtm_at "es"))
  | ((with_reducible refine' evd_cb ?a cd_intB); (case a => wtm_at "es"))
  | ((with_reducible refine' evd_cb ?a cd_tupL); (case a => wtm_at "es"))
  | ((with_reducible refine' evd_and ?a ?b); (case a => wtm_at "ev"); (case b => intro _; wtm_at "ev"))
  | ((with_reducible refine' evd_or ?a ?b); (case a => wtm_at "ev"); (case b => intro _; wtm_at "ev"))
  | ((with_reducible refine' evd_not ?a); (case a => wtm_at "ev"))
  | ((with_reducible refine' evd_op ?a ?b rd_neIL); (case a => wtm_at "ev"); (case b => wtm_at "ev"))
  | ((with_reducible refine' evd_op ?a ?b rd_eqIL); (case a => wtm_at "ev"); (case b => wtm_at "ev"))
  | ((with_reducible refine' EvN.toD ?a); (case a => wtm_at "en")))
local macro_rules | `(tactic| wtm_at "en") => `(tactic| first
  | ((with_reducible refine' evn_cb ?a cn_sortTI); (case a => wtm_at "es"))
  | ((with_reducible refine' evn_cb ?a cn_listL); (case a => wtm_at "es"))
  | ((with_reducible refine' evn_cb ?a cn_listT); (case a => wtm_at "es"))
  | ((with_reducible refine' evn_rng ?a ?b); (case a => wtm_at "ev"); (case b => wtm_at "side"))
  | ((with_reducible refine' evn_lst ?a ?b); (case a => wtm_at "es"); (case b => exact Nat.le_of_ble_eq_true rfl))
  | ((with_reducible refine' evn_cat ?a ?b ?c); (case a => wtm_at "ev"); (case b => wtm_at "ev"); (case c => wtm_at "side"))
  | ((with_reducible refine' evn_slL ?a ?b ?c); (case a => wtm_at "ev"); (case b => first | exact evp_none | (refine' evp_some ?d; (case d => wtm_at "ev"))); (case c => first | exact evp_none | (refine' evp_some ?d; (case d => wtm_at "ev")))))
local macro_rules | `(tactic| wtm_at "et") => `(tactic| first
  | exact et_yes
  | (refine' ett ?a; (case a => wtm_at "ev"))
  | (refine' etB ?a; (case a => wtm_at "ev"))
  | (refine' et_and ?a ?b; (case a => wtm_at "et"); (case b => intro _; wtm_at "et"))
  | (refine' et_or ?a ?b; (case a => wtm_at "et"); (case b => intro _; wtm_at "et"))
  | (refine' et_not ?a; (case a => wtm_at "et")))
local macro_rules | `(tactic| wtm_at "nx") => `(tactic| try dsimp only [tSeq, tNext])
/-! ### all orders, rising -/
def extRow (m : Int) (row : List Int) : List (List Int) := ((rgI 0 m.toNat).filter fun t => !decide (t ∈ row)).map fun t => row ++ [t]
def rowsF (m : Int) : Nat → List (List Int)
  | 0 => [[]]
  | k + 1 => ((rowsF m k).map (extRow m)).flatten
def extAll (m : Int) : Nat → List Int → List (List Int)
  | 0, r => [r]
  | n + 1, r => ((extRow m r).map (extAll m n)).flatten
theorem extAll_succ (m : Int) : ∀ (n : Nat) (r : List Int), extAll m (n + 1) r = ((extAll m n r).map (extRow m)).flatten
  | 0, r => by
    show ((extRow m r).map fun r => [r]).flatten = ([r].map (extRow m)).flatten
    have e : ∀ xs : List (List Int), (xs.map fun r => [r]).flatten = xs := fun xs => by
      induction xs with
      | nil => rfl
      | cons x xs ih => rw [List.map_cons, List.flatten_cons, ih]; rfl
    rw [e]
    simp
  | n + 1, r => by
    have ih := extAll_succ m n
    show ((extRow m r).map (extAll m (n + 1))).flatten = (((extRow m r).map (extAll m n)).flatten.map (extRow m)).flatten
    have e : ∀ xs : List (List Int), (xs.map (extAll m (n + 1))).flatten = ((xs.map (extAll m n)).flatten.map (extRow m)).flatten := fun xs => by
      induction xs with
      | nil => rfl
      | cons x xs ihx => rw [List.map_cons, List.flatten_cons, List.map_cons, List.flatten_cons, List.map_append, List.flatten_append, ihx, ih]
    exact e _
theorem rowsF_all (m : Int) : ∀ k, rowsF m k = extAll m k []
  | 0 => rfl
  | k + 1 => by
    rw [extAll_succ, ← rowsF_all m k]
    rfl
theorem extRow_len {m : Int} (hm : m ≤ 6) (r : List Int) : (extRow m r).length ≤ 6 := by
  unfold extRow
  rw [List.length_map]
  exact Nat.le_trans (List.length_filter_le _ _) (by rw [rgI_len]; omega)
theorem rowsF_len {m : Int} (hm : m ≤ 6) : ∀ k, (rowsF m k).length ≤ 6 ^ k
  | 0 => Nat.le_refl _
  | k + 1 => by
    show ((rowsF m k).map (extRow m)).flatten.length ≤ _
    refine Nat.le_trans (flat_len (k := 6) fun xs hx => ?_) ?_
    · obtain ⟨r, _, rfl⟩ := List.mem_map.mp hx
      exact extRow_len hm r
    · rw [List.length_map, Nat.pow_succ]
      exact Nat.mul_le_mul (rowsF_len hm k) (Nat.le_refl _)
theorem mem_extAll {m : Int} {w : List Int} : ∀ {n : Nat} {r : List Int}, w ∈ extAll m n r → r.Nodup → (∀ x ∈ r, 0 ≤ x ∧ x < m) → (∃ s, w = r ++ s ∧ s.length = n) ∧ w.Nodup ∧ ∀ x ∈ w, 0 ≤ x ∧ x < m
  | 0, r, h, nd, rg => by
    rw [List.mem_singleton.mp h]
    exact ⟨⟨[], by simp⟩, nd, rg⟩
  | n + 1, r, h, nd, rg => by
    obtain ⟨l, hl, hw⟩ := List.mem_flatten.mp h
    obtain ⟨r', hr, rfl⟩ := List.mem_map.mp hl
    unfold extRow at hr
    obtain ⟨t, ht, rfl⟩ := List.mem_map.mp hr
    rw [List.mem_filter, mem_rgI] at ht
    have tn : t ∉ r := by simpa using ht.2
    obtain ⟨⟨s, e, hs⟩, h2, h3⟩ := mem_extAll hw (by
      rw [List.nodup_append]
      refine ⟨nd, by simp, fun x hx y hy e => ?_⟩
      rw [List.mem_singleton.mp hy] at e
      exact tn (e ▸ hx)) (fun x hx => by
      rcases List.mem_append.mp hx with hx | hx
      · exact rg x hx
      · rw [List.mem_singleton.mp hx]
        have := ht.1
        omega)
    refine ⟨⟨t :: s, by rw [e, List.append_assoc]; rfl, by rw [List.length_cons, hs]⟩, h2, h3⟩
theorem rowsF_ord {m : Int} {w : List Int} (h : w ∈ rowsF m m.toNat) : isOrd m w := by
  rw [rowsF_all] at h
  obtain ⟨⟨s, e, hs⟩, h2, h3⟩ := mem_extAll h List.nodup_nil fun x h => by simp at h
  exact ord_full h2 h3 (by rw [e]; simpa using hs)
theorem rowsF_sz {m : Int} {w : List Int} {k : Nat} (h : w ∈ rowsF m k) : w.length = k := by
  rw [rowsF_all] at h
  obtain ⟨⟨s, e, hs⟩, _⟩ := mem_extAll h List.nodup_nil fun x h => by simp at h
  rw [e]
  simpa using hs
theorem filter_split {α : Type} {p : α → Bool} {t : α} {rest : List α} : ∀ {l : List α}, l.filter p = t :: rest → ∃ l1 l2, l = l1 ++ t :: l2 ∧ (∀ x ∈ l1, p x = false)
  | [], h => by cases h
  | x :: l, h => by
    rw [List.filter_cons] at h
    by_cases hx : p x = true
    · rw [if_pos hx] at h
      injection h with h1 h2
      subst h1
      exact ⟨[], l, rfl, fun x h => by simp at h⟩
    · rw [if_neg hx] at h
      obtain ⟨l1, l2, e, k⟩ := filter_split h
      refine ⟨x :: l1, l2, by rw [e]; rfl, fun y hy => ?_⟩
      rcases List.mem_cons.mp hy with rfl | hy
      · simpa using hx
      · exact k y hy
theorem extAll_head {m : Int} {ps : List (Int × Int)} (hw : isWeb m ps) {v : List Int} : ∀ {n : Nat} {f : List Int}, Pref m ps f → f.length + n = m.toNat → foGo m ps n f = some v → ∃ tl, (extAll m n f).filter (keepsF ps) = v :: tl
  | 0, f, P, hl, e => by
    have e2 : f = v := Option.some.inj e
    refine ⟨[], ?_⟩
    show [f].filter _ = _
    rw [List.filter_cons, if_pos (P.keeps hl hw.rng).2, e2]
    rfl
  | n + 1, f, P, hl, e => by
    unfold foGo at e
    cases hf : freeF m ps f with
    | nil => rw [hf] at e; cases e
    | cons t rest =>
      rw [hf] at e
      have ht : t ∈ freeF m ps f := by rw [hf]; exact List.mem_cons_self
      obtain ⟨tl, ih⟩ := extAll_head hw (P.snoc ht) (by rw [List.length_append]; show f.length + 1 + n = _; omega) e
      have e2 : ((rgI 0 m.toNat).filter fun t => !decide (t ∈ f)).filter (fun t => decide (aheadF ps f t = [])) = t :: rest := by
        rw [List.filter_filter, ← hf]
        unfold freeF
        refine List.filter_congr fun x _ => ?_
        exact Bool.and_comm _ _
      obtain ⟨l1, l2, e3, k⟩ := filter_split e2
      have no : ∀ xs : List Int, (∀ x ∈ xs, x ∉ f ∧ decide (aheadF ps f x = []) = false) → (((xs.map fun t => f ++ [t]).map (extAll m n)).flatten).filter (keepsF ps) = [] := fun xs hx => by
        rw [List.filter_eq_nil_iff]
        intro w hw2
        obtain ⟨l, hl2, hwl⟩ := List.mem_flatten.mp hw2
        obtain ⟨r', hr, rfl⟩ := List.mem_map.mp hl2
        obtain ⟨u, hu, rfl⟩ := List.mem_map.mp hr
        obtain ⟨un, ua⟩ := hx u hu
        have ua : ¬ aheadF ps f u = [] := by simpa using ua
        unfold aheadF at ua
        rw [List.map_eq_nil_iff, List.filter_eq_nil_iff] at ua
        have ⟨p, hp⟩ := Classical.not_forall.mp ua
        obtain ⟨hp1, hp2⟩ := Classical.not_imp.mp hp
        have hp3 : p.2 = u ∧ p.1 ∉ f := by simpa using hp2
        have sx : ∃ s, w = (f ++ [u]) ++ s := by
          have : ∀ {n : Nat} {r : List Int}, w ∈ extAll m n r → ∃ s, w = r ++ s := fun {n} => by
            induction n with
            | zero => exact fun {r} h => ⟨[], by rw [List.mem_singleton.mp h]; simp⟩
            | succ n ihn =>
              intro r h
              obtain ⟨l, hl, hw⟩ := List.mem_flatten.mp h
              obtain ⟨r', hr, rfl⟩ := List.mem_map.mp hl
              unfold extRow at hr
              obtain ⟨t, ht, rfl⟩ := List.mem_map.mp hr
              obtain ⟨s, e⟩ := ihn hw
              exact ⟨t :: s, by rw [e, List.append_assoc]; rfl⟩
          exact this hwl
        obtain ⟨s, rfl⟩ := sx
        intro hk
        have hk := of_decide_eq_true hk p hp1
        have g := hw.good hp1
        rw [hp3.1, List.append_assoc, ixOf_app2 _ hp3.2, ixOf_app2 _ un, List.singleton_append] at hk
        have z1 : ixOf u (u :: s) = 0 := by unfold ixOf; exact if_pos rfl
        have z2 : ixOf p.1 (u :: s) ≠ 0 := by
          unfold ixOf
          rw [if_neg (fun z => g.2.2.2.2 (z.symm.trans hp3.1.symm))]
          omega
        omega
      refine ⟨tl ++ ((((l2.map fun t => f ++ [t]).map (extAll m n)).flatten).filter (keepsF ps)), ?_⟩
      show (((extRow m f).map (extAll m n)).flatten).filter (keepsF ps) = _
      unfold extRow
      rw [e3, List.map_append, List.map_append, List.flatten_append, List.filter_append, no l1 fun x hx => ⟨?_, k x hx⟩, List.map_cons, List.map_cons, List.flatten_cons, List.filter_append, ih]
      · rfl
      · have : x ∈ (rgI 0 m.toNat).filter fun t => !decide (t ∈ f) := by
          rw [e3]
          exact List.mem_append_left _ hx
        rw [List.mem_filter] at this
        simpa using this.2
theorem due_some {m : Int} {ps : List (Int × Int)} (hw : isWeb m ps) {v : List Int} (e : foF m ps = some v) : ∃ tl, (rowsF m m.toNat).filter (keepsF ps) = v :: tl := by
  rw [rowsF_all]
  exact extAll_head hw (Pref.nil m ps) (by simp) e
theorem due_none {m : Int} {ps : List (Int × Int)} (h : ∀ v, isOrd m v → keepsF ps v = false) : (rowsF m m.toNat).filter (keepsF ps) = [] := by
  rw [List.filter_eq_nil_iff]
  intro w hw
  rw [h w (rowsF_ord hw)]
  exact Bool.false_ne_true
end Bm

namespace Bm
open PySem PySem.Spec PyProof.Rows L2 Evl
local macro_rules | `(tactic| wtm_at "rp") => `(tactic| first | exact rp_int | exact rp_bl | exact rp_str | exact rp_non | assumption | (refine' Rp.ex ?e ?h; (case h => assumption); (case e => assumption)) | exact Own.rp (by assumption))
local macro_rules | `(tactic| wtm_at "side") => `(tactic| first | assumption | omega | decide | rfl | exact ⟨by omega, by omega⟩)
local macro_rules | `(tactic| wtm_at "es") => `(tactic| first | exact evs_nil | (refine' evs_cons ?a ?b; (case a => wtm_at "ev"); (case b => wtm_at "es")))
local macro_rules | `(tactic| wtm_at "ev") => `(tactic| first
  | exact evd_int | exact evd_str | exact evd_bl | exact evd_non
  | (refine' evd_var rfl ?h; (case h => wtm_at "rp"))
  | ((with_reducible refine' evd_op ?a ?b rd_addI); (case a => wtm_at "ev"); (case b => wtm_at "ev"))
  | ((with_reducible refine' evd_op ?a ?b rd_subI); (case a => wtm_at "ev"); (case b => wtm_at "ev"))
  | ((with_reducible refine' evd_op ?a ?b (rd_mulI ?c)); (case a => wtm_at "ev"); (case b => wtm_at "ev"); (case c => wtm_at "side"))
  | ((with_reducible refine' evd_op ?a ?b (rd_divI ?c)); (case a => wtm_at "ev"); (case b => wtm_at "ev"); (case c => wtm_at "side"))
  | ((with_reducible refine' evd_op ?a ?b (rd_modI ?c)); (case a => wtm_at "ev"); (case b => wtm_at "ev"); (case c => wtm_at "side"))
  | ((with_reducible refine' evd_op ?a ?b rd_ltI); (case a => wtm_at "ev"); (case b => wtm_at "ev"))
  | ((with_reducible refine' evd_op ?a ?b rd_leI); (case a => wtm_at "ev"); (case b => wtm_at "ev"))
  | ((with_reducible refine' evd_op ?a ?b rd_gtI); (case a => wtm_at "ev"); (case b => wtm_at "ev"))
  | ((with_reducible refine' evd_op ?a ?b rd_geI); (case a => wtm_at "ev"); (case b => wtm_at "ev"))
  | ((with_reducible refine' evd_op ?a ?b rd_eqI); (case a => wtm_at "ev"); (case b => wtm_at "ev"))
  | ((with_reducible refine' evd_op ?a ?b rd_neI); (case a => wtm_at "ev"); (case b => wtm_at "ev"))
  | ((with_reducible refine' evd_op ?a ?b rd_eqB); (case a => wtm_at "ev"); (case b => wtm_at "ev"))
  | ((with_reducible refine' evd_op ?a ?b rd_neB); (case a => wtm_at "ev"); (case b => wtm_at "ev"))
  | ((with_reducible refine' evd_op ?a ?b rd_isNo); (case a => wtm_at "ev"); (case b => wtm_at "ev"))
  | ((with_reducible refine' evd_op ?a ?b rd_notNo); (case a => wtm_at "ev"); (case b => wtm_at "ev"))
  | ((with_reducible refine' evd_op ?a ?b rd_inIL); (case a => wtm_at "ev"); (case b => wtm_at "ev"))
  | ((with_reducible refine' evd_op ?a ?b rd_niIL); (case a => wtm_at "ev"); (case b => wtm_at "ev"))
  | ((with_reducible refine' evd_op ?a ?b rd_inID); (case a => wtm_at "ev"); (case b => wtm_at "ev"))
  | ((with_reducible refine' evd_op ?a ?b rd_niID); (case a => wtm_at "ev"); (case b => wtm_at "ev"))
  | ((with_reducible refine' evd_neg ?a); (case a => wtm_at "ev"))
  | ((with_reducible refine' evd_tix ?a ?b ?c); (case a => wtm_at "ev"); (case b => wtm_at "ev"); (case c => wtm_at "side"))
  | ((with_reducible refine' evd_tup ?a ?b); (case a => wtm_at "es"); (case b => exact Nat.le_of_ble_eq_true rfl))
  | ((with_reducible refine' evd_cb ?a cd_lenL); (case a => wtm_at "es"))
  | ((with_reducible refine' evd_cb ?a cd_lenT); (case a => wtm_at "es"))
  | ((with_reducible refine' evd_cb ?a cd_intB); (case a => wtm_at "es"))
  | ((with_reducible refine' evd_cb ?a cd_tupL); (case a => wtm_at "es"))
  | ((with_reducible refine' evd_and ?a ?b); (case a => wtm_at "ev"); (case b => intro _; wtm_at "ev"))
  | ((with_reducible refine' evd_or ?a ?b); (case a => wtm_at "ev"); (case b => intro _; wtm_at "ev"))
  | ((with_reducible refine' evd_not ?a); (case a => wtm_at "ev"))
  | ((with_reducible refine' evd_op ?a ?b rd_neIL); (case a => wtm_at "ev"); (case b => wtm_at "ev"))
  | ((with_reducible refine' evd_op ?a ?b rd_eqIL); (case a => wtm_at "ev"); (case b => wtm_at "ev"))
  | ((with_reducible refine' EvN.toD ?a); (case a => wtm_at "en")))
local macro_rules | `(tactic| wtm_at "en") => `(tactic| first
  | ((with_reducible refine' evn_cb ?a cn_sortTI); (case a => wtm_at "es"))
  | ((with_reducible refine' evn_cb ?a cn_listL); (case a => wtm_at "es"))
  | ((with_reducible refine' evn_cb ?a cn_listT); (case a => wtm_at "es"))
  | ((with_reducible refine' evn_rng ?a ?b); (case a => wtm_at "ev"); (case b => wtm_at "side"))
  | ((with_reducible refine' evn_lst ?a ?b); (case a => wtm_at "es"); (case b => exact Nat.le_of_ble_eq_true rfl))
  | ((with_reducible refine' evn_cat ?a ?b ?c); (case a => wtm_at "ev"); (case b => wtm_at "ev"); (case c => wtm_at "side"))
  | ((with_reducible refine' evn_slL ?a ?b ?c); (case a => wtm_at "ev"); (case b => first | exact evp_none | (refine' evp_some ?d; (case d => wtm_at "ev"))); (case c => first | exact evp_none | (refine' evp_some ?d; (case d => wtm_at "ev")))))
local macro_rules | `(tactic| wtm_at "et") => `(tactic| first
  | exact et_yes
  | (refine' ett ?a; (case a => wtm_at "ev"))
  | (refine' etB ?a; (case a => wtm_at "ev"))
  | (refine' et_and ?a ?b; (case a => wtm_at "et"); (case b => intro _; wtm_at "et"))
  | (refine' et_or ?a ?b; (case a => wtm_at "et"); (case b => intro _; wtm_at "et"))
  | (refine' et_not ?a; (case a => wtm_at "et")))
local macro_rules | `(tactic| wtm_at "nx") => `(tactic| try dsimp only [tSeq, tNext])
/-! ### orders_of, signs_of, wished_signs, sign_of -/
def sp_orders_of : Sp := spO (α := Int) (fun a => [.int a]) (fun a => 0 ≤ a ∧ a ≤ 6) fun a => .new ((rowsF a a.toNat).map iD)
theorem len_orders_of (vs : List V) (H : Hp) (Q : VK) (E : XK) (h : sp_orders_of vs H Q E) : vs.length = 1 := by
  unfold sp_orders_of at h
  obtain ⟨a, r, _⟩ := h
  rw [r.len]
  rfl
theorem rowsTo_len2 {m : Int} (hm : m ≤ 6) (rs : List (List Int)) : ((rs.map (extRow m)).flatten).length ≤ rs.length * 6 := by
  have := flat_len (k := 6) (xss := rs.map (extRow m)) fun xs hx => by
    obtain ⟨r, _, rfl⟩ := List.mem_map.mp hx
    exact extRow_len hm r
  rwa [List.length_map] at this
section
variable {P : Program} {w : World} {K : PySem.W.Frag} {mg : Str → Option Value} {base : Heap}
theorem ok_orders_of {f : Addr} {fd : FuncData} (D : Df K mg "orders_of" s_orders_of ["many"] f fd) (Bi : Bi mg) : FnOk P w K mg base CX0 1 f fd ["many"] sp_orders_of := by
  refine D.F.ok c_orders_of (fun vs H Q E h => len_orders_of _ _ _ _ h) (fun cdv A outer s H vs Q E hr h => ?_)
  refine ⟨_, (pss_cons (ps_set (i := 1) c_orders_of.nd rfl (.inl rfl) (pe_lst (pa_cons (pe_tupF pa_nil) pa_nil)))
      (pss_cons (ps_for (PassesOwn.never) rfl (pi_range1 (by rfl) Bi.range (pa_cons (pv 0) pa_nil)) (pg_name (i := 2) c_orders_of.nd rfl (.inl rfl))
      (pss_cons (ps_set (i := 3) c_orders_of.nd rfl (.inl rfl) (pe_lst pa_nil))
      (pss_cons (ps_for (PassesOwn.never) rfl (pi_listK (K := K) (pv 1)) (pg_name (i := 4) c_orders_of.nd rfl (.inr rfl))
      (pss_one (ps_expr (pe_bm PySem.F.plainAttrs_list PySem.F.slot_list_extend PySem.F.type_list_extend mt_extend (pv 3) (pa_cons (pe_lc (own := [("thing", 5)]) (g := (gName 5)) rfl c_orders_of.nd (pi_range1 (by rfl) Bi.range (pa_cons (pv 0) pa_nil)) (blkOk_by (own := [("thing", 5)]) (N := ["many", "rows", "k", "longer", "row", "thing"]) (sc := defScope s_orders_of) (by decide +kernel)) (fun _ _ _ _ _ => (pg_name (i := 5) c_orders_of.nd rfl (.inl rfl))) (fun _ _ _ _ _ => pts_one (pt_cmpR (op_niFK (K := K)) (pv 5) (pv 4) (by rfl))) (fun _ _ _ _ _ => (pe_op (op_catFK (K := K)) (pv 4) (pe_tupF (pa_cons (pv 5) pa_nil))))) pa_nil)))))
      (pss_one (ps_set (i := 1) c_orders_of.nd rfl (.inl rfl) (pv 3))))))
      (pss_one (ps_ret (pv 1))))), ?_⟩
  obtain ⟨m, ⟨v1, _, rfl, rfl, rfl⟩, ⟨m0, m6⟩, q⟩ := h
  dsimp only at q m0 m6
  refine' s_asgNL (ds := [[]].map iD) (evn_lst (ds := [.tuple []]) (evs_cons (evd_tup evs_nil (Nat.zero_le _)) evs_nil) (by decide)) (Ex.refl H) fun vr H1 e1 r1 => ?_
  wtm_at "nx"
  refine' s_forR (n := m) ?n (by omega) fun H3 e3 => ⟨fun i σ' H' => (∃ vr y z u t, σ' = [some (.int m), some vr, y, z, u, t] ∧ NL H H' ((rowsF m i).map iD) vr) ∧ i ≤ m.toNat ∧ Ex H H', ?_, ?_, ?_⟩
  case n => wtm_at "es"
  · exact ⟨⟨vr, none, none, none, none, rfl, r1.ex e3⟩, Nat.zero_le _, e1.trans e3⟩
  · rintro i σ' H' hi ⟨⟨vr, y, z, u, t, rfl, hr⟩, hi2, e⟩
    refine g_name ?_
    refine' s_asgO (evn_lst evs_nil (by decide)) rfl fun pl H5 e5 o5 => ?_
    wtm_at "nx"
    have hlen : (rowsF m i).length ≤ 7776 := Nat.le_trans (rowsF_len m6 i) (Nat.le_trans (Nat.pow_le_pow_right (by decide) (by omega : i ≤ 5)) (by decide))
    refine s_forB (f := iD) (xs := rowsF m i) (Hb := H') rfl hr.rp e5 (fun j σ' H'' => (∃ u, σ' = [some (.int m), some vr, some (.int (i : Int)), some (.ref pl), u, t]) ∧ Own H' H'' pl ((((rowsF m i).take j).map (extRow m)).flatten.map iD)) ?_ ?_ ?_ ?_
    · exact ⟨⟨u, rfl⟩, o5⟩
    · rintro j σ' H' ⟨_, o⟩
      exact o.ex
    · rintro j x v σ' H'' hx hrx ⟨⟨u, rfl⟩, o⟩
      refine g_name ?_
      have hj : j < (rowsF m i).length := (List.getElem?_eq_some_iff.mp hx).1
      have hxl : x.length ≤ 6 := by
        rw [rowsF_sz (List.mem_of_getElem? hx)]
        omega
      have l1 := rowsTo_len2 m6 ((rowsF m i).take j)
      have l2 := extRow_len m6 x
      rw [List.length_take] at l1
      refine' s_extO o rfl (es := (extRow m x).map iD) ?x (imm_vD _) (by rw [List.length_map, List.length_map]; omega) fun H7 x7 o7 => ?_
      case x =>
        unfold extRow
        rw [List.map_map]
        refine' evn_lcR (n := m) (fun t => !decide (t ∈ x)) (fun t => iD (x ++ [t])) ?es (by omega) ?turn ?imm
        case es => wtm_at "es"
        case imm => exact fun t _ _ _ => imm_iD _
        case turn =>
          intro t H8 t0 t1 e8
          have hrx8 : Rp H8 (iD x) v := hrx.ex e8
          refine' ⟨_, fun Q hq => hq, rfl, ett (evd_op ?a (evd_var rfl hrx8) rd_niID), fun _ => (evd_catT (ds := x.map .int) (es := [.int t]) (evd_var rfl hrx8) ?b (by rw [List.length_map]; show _ + 1 ≤ _; omega)).is (by unfold iD; rw [List.map_append]; rfl)⟩
          case a => wtm_at "ev"
          case b => wtm_at "ev"
      refine ⟨⟨_, rfl⟩, ?_⟩
      rw [List.take_add_one, hx, List.map_append, List.flatten_append, List.map_append]
      have e2 : (List.map (extRow m) (some x).toList).flatten = extRow m x := by simp
      rw [e2]
      exact o7
    · rintro σ' H'' ⟨⟨u, rfl⟩, o⟩
      rw [List.take_length] at o
      wtm_at "nx"
      obtain ⟨vs, k1, k2⟩ := o.has
      exact ⟨_, rfl, ⟨_, _, _, _, _, rfl, pl, vs, rfl, fresh_back e o.new, k1, k2⟩, by omega, e.trans o.ex⟩
  · rintro σ' H' ⟨⟨vr, y, z, u, t, rfl, hr⟩, _, e⟩
    wtm_at "nx"
    obtain ⟨a, vs, rfl, n, k1, k2⟩ := hr
    exact ⟨_, rfl, q a vs H' n e k1 k2⟩
end
theorem ev_orders_of {σ : L2.St} {H : Hp} {t0 : TE} {E : XK} {m : Int} (h0 : EvD t0 σ H (.int m)) (c : 0 ≤ m ∧ m ≤ 6) : EvN (tCall sp_orders_of [] E (tCons t0 tNil)) σ H ((rowsF m m.toNat).map iD) := evn_callO m (evs_cons h0 evs_nil) c rfl
def sigF (n : Int) : Int := (if 0 < n then 1 else 0) - (if n < 0 then 1 else 0)
def sp_sign_of : Sp := spO (α := Int) (fun a => [.int a]) (fun _ => True) fun a => .val (.int (sigF a))
theorem len_sign_of (vs : List V) (H : Hp) (Q : VK) (E : XK) (h : sp_sign_of vs H Q E) : vs.length = 1 := by
  unfold sp_sign_of at h
  obtain ⟨a, r, _⟩ := h
  rw [r.len]
  rfl
section
variable {P : Program} {w : World} {K : PySem.W.Frag} {mg : Str → Option Value} {base : Heap}
theorem ok_sign_of {f : Addr} {fd : FuncData} (D : Df K mg "sign_of" s_sign_of ["number"] f fd) (Bi : Bi mg) : FnOk P w K mg base CX0 1 f fd ["number"] sp_sign_of := by
  refine D.F.ok c_sign_of (fun vs H Q E h => len_sign_of _ _ _ _ h) (fun cdv A outer s H vs Q E hr h => ?_)
  refine ⟨_, (pss_one (ps_ret (pe_op op_subI (pe_callTy cr_intB (by rfl) Bi.int (by decide +kernel) (pa_cons (pe_cmpR op_gtI (pv 0) pe_int (nomark _)) pa_nil)) (pe_callTy cr_intB (by rfl) Bi.int (by decide +kernel) (pa_cons (pe_cmpR op_ltI (pv 0) pe_int (nomark _)) pa_nil))))), ?_⟩
  obtain ⟨n, ⟨v1, _, rfl, rfl, rfl⟩, -, q⟩ := h
  dsimp only at q
  refine s_retD (d := .int (sigF n)) ((evd_op (evd_cb (evs_cons (evd_op (evd_var rfl rp_int) evd_int rd_gtI) evs_nil) cd_intB) (evd_cb (evs_cons (evd_op (evd_var rfl rp_int) evd_int rd_ltI) evs_nil) cd_intB) rd_subI).is (by unfold sigF; simp only [decide_eq_true_eq])) q
end
theorem ev_sign_of {σ : L2.St} {H : Hp} {t0 : TE} {E : XK} {n : Int} (h0 : EvD t0 σ H (.int n)) : EvD (tCall sp_sign_of [] E (tCons t0 tNil)) σ H (.int (sigF n)) := evd_callO n (evs_cons h0 evs_nil) trivial rfl
/-- the signs that a voter gives, the signs that a web wishes -/
def sgnV (m : Int) (v : List Int) : List Int := (prs m 0).map fun p => sgn1 v p.1 p.2
def wishV (m : Int) (ps : List (Int × Int)) : List Int := (prs m 0).map fun p => (if p ∈ ps then 1 else 0) - (if swp p ∈ ps then 1 else 0)
theorem prs_row (m : Int) {i : Int} (f : Int × Int → Int) : (rowP m i (i + 1)).map f = (rgI (i + 1) (m - (i + 1)).toNat).map fun j => f (i, j) := by
  unfold rowP
  rw [List.map_map]
  rfl
def sp_signs_of : Sp := spO (α := Int × List Int) (fun a => [.int a.1, iD a.2]) (fun a => (0 ≤ a.1 ∧ a.1 ≤ 6) ∧ isOrd a.1 a.2) fun a => .val (iD (sgnV a.1 a.2))
theorem len_signs_of (vs : List V) (H : Hp) (Q : VK) (E : XK) (h : sp_signs_of vs H Q E) : vs.length = 2 := by
  unfold sp_signs_of at h
  obtain ⟨a, r, _⟩ := h
  rw [r.len]
  rfl
section
variable {P : Program} {w : World} {K : PySem.W.Frag} {mg : Str → Option Value} {base : Heap}
theorem ok_signs_of {f : Addr} {fd : FuncData} (D : Df K mg "signs_of" s_signs_of ["many", "voter"] f fd) (Bi : Bi mg) : FnOk P w K mg base CX0 1 f fd ["many", "voter"] sp_signs_of := by
  refine D.F.ok c_signs_of (fun vs H Q E h => len_signs_of _ _ _ _ h) (fun cdv A outer s H vs Q E hr h => ?_)
  refine ⟨_, (pss_cons (ps_set (i := 2) c_signs_of.nd rfl (.inl rfl) (pe_lst pa_nil))
      (pss_cons (ps_for (PassesOwn.never) rfl (pi_range1 (by rfl) Bi.range (pa_cons (pv 0) pa_nil)) (pg_name (i := 3) c_signs_of.nd rfl (.inr rfl))
      (pss_one (ps_expr (pe_bm PySem.F.plainAttrs_list PySem.F.slot_list_extend PySem.F.type_list_extend mt_extend (pv 2) (pa_cons (pe_lc (own := [("other", 4)]) (g := (gName 4)) (tt := tYes) rfl c_signs_of.nd (pi_range2 (by rfl) Bi.range (pa_cons (pe_op op_addI (pv 3) pe_int) (pa_cons (pv 0) pa_nil))) (blkOk_by (own := [("other", 4)]) (N := ["many", "voter", "found", "one", "other"]) (sc := defScope s_signs_of) (by decide +kernel)) (fun _ _ _ _ _ => (pg_name (i := 4) c_signs_of.nd rfl (.inl rfl))) (fun _ _ _ _ _ => pts_nil) (fun _ _ _ _ _ => (pe_op op_subI pe_int (pe_op op_mulI pe_int (pe_callTy cr_intB (by rfl) Bi.int (by decide +kernel) (pa_cons (pe_cmpR op_gtI (pe_tm PySem.F.plainAttrs_tuple PySem.F.slot_tuple_index PySem.F.type_tuple_index (mt_tupIxK (K := K)) (pv 1) (pa_cons (pv 3) pa_nil)) (pe_tm PySem.F.plainAttrs_tuple PySem.F.slot_tuple_index PySem.F.type_tuple_index (mt_tupIxK (K := K)) (pv 1) (pa_cons (pv 4) pa_nil)) (nomark _)) pa_nil)))))) pa_nil)))))
      (pss_one (ps_ret (pe_callTy (cr_tupLK (K := K)) (by rfl) Bi.tuple (by decide +kernel) (pa_cons (pv 2) pa_nil)))))), ?_⟩
  obtain ⟨⟨m, u⟩, ⟨v1, _, rfl, rfl, v2, _, rfl, hu, rfl⟩, ⟨⟨m0, m6⟩, ho⟩, q⟩ := h
  dsimp only at q hu m0 m6 ho
  have hpl := prs_len ⟨m0, m6⟩
  refine' s_asgO (evn_lst evs_nil (by decide)) rfl fun pf H1 e1 o1 => ?_
  wtm_at "nx"
  refine' s_forR (n := m) ?n (by omega) fun H3 e3 => ⟨fun i σ' H' => ∃ acc y, σ' = [some (.int m), some v2, some (.ref pf), y, none] ∧ Own H H' pf ((acc : List Int).map .int) ∧ acc ++ (prs m i).map (fun p => sgn1 u p.1 p.2) = sgnV m u, ?_, ?_, ?_⟩
  case n => wtm_at "es"
  · exact ⟨[], none, rfl, o1.step e3, rfl⟩
  · rintro i σ' H' hi ⟨acc, y, rfl, o, hacc⟩
    refine g_name ?_
    rw [prs_step hi, List.map_append] at hacc
    have hlen : acc.length + ((rowP m i ((i : Int) + 1)).map fun p => sgn1 u p.1 p.2).length ≤ 15 := by
      have := congrArg List.length hacc
      unfold sgnV at this
      rw [List.length_append, List.length_append, List.length_map (as := prs m 0)] at this
      omega
    have hu' : Rp H' (iD u) v2 := hu.ex o.ex
    refine' s_extO o rfl (es := ((rowP m i ((i : Int) + 1)).map fun p => sgn1 u p.1 p.2).map .int) ?x (imm_ints _) (by rw [List.length_map, List.length_map]; omega) fun H5 x5 o5 => ?_
    case x =>
      rw [prs_row m (fun p => sgn1 u p.1 p.2), List.map_map]
      have z : (rgI ((i : Int) + 1) (m - ((i : Int) + 1)).toNat).map (PyData.int ∘ fun j => sgn1 u (i : Int) j) = ((rgI ((i : Int) + 1) (m - ((i : Int) + 1)).toNat).filter fun _ => true).map fun j => PyData.int (sgn1 u (i : Int) j) := by
        rw [List.filter_eq_self.mpr (fun _ _ => rfl)]
        rfl
      refine EvN.is ?_ z.symm
      refine' evn_lcR2 (lo := (i : Int) + 1) (n := m) (fun _ => true) (fun j => .int (sgn1 u (i : Int) j)) ?es (by omega) ?turn fun _ _ _ _ => rfl
      case es => wtm_at "es"
      case turn =>
        intro j H6 j0 j1 e6
        have hu6 : Rp H6 (iD u) v2 := hu'.ex e6
        have hne := ixOf_ne (v := u) (a := (i : Int)) (b := j) (ho.mem.mpr (by omega)) (by omega)
        refine' ⟨_, fun Q hq => hq, rfl, et_yes, fun _ => (evd_op (evd_int (i := 1)) (evd_op (evd_int (i := 2)) (evd_cb (evs_cons (evd_op (evd_tix (k := (i : Int)) (evd_var rfl hu6) ?a (ho.mem.mpr (by omega))) (evd_tix (k := j) (evd_var rfl hu6) ?b (ho.mem.mpr (by omega))) rd_gtI) evs_nil) cd_intB) (rd_mulI (.inl ⟨by decide, by decide⟩))) rd_subI).is ?c⟩
        case a => wtm_at "ev"
        case b => wtm_at "ev"
        case c =>
          unfold sgn1
          by_cases c : ixOf (i : Int) u < ixOf j u
          · rw [if_pos c, decide_eq_false (by omega)]
            rfl
          · rw [if_neg c, decide_eq_true (by omega)]
            rfl
    refine ⟨acc ++ (rowP m i ((i : Int) + 1)).map (fun p => sgn1 u p.1 p.2), _, rfl, ?_, ?_⟩
    · rw [List.map_append]
      exact o5
    · rw [List.append_assoc, show ((i + 1 : Nat) : Int) = (i : Int) + 1 by omega]
      exact hacc
  · rintro σ' H' ⟨acc, y, rfl, o, hacc⟩
    wtm_at "nx"
    rw [prs_end (m := m) (a := (m.toNat : Int)) (by omega), List.map_nil, List.append_nil] at hacc
    subst hacc
    exact s_retD (d := iD (sgnV m u)) (evd_cb (evs_cons (evd_var rfl o.rp) evs_nil) cd_tupL) fun v H5 e5 r => q v H5 (o.ex.trans e5) r
end
theorem ev_signs_of {σ : L2.St} {H : Hp} {t0 t1 : TE} {E : XK} {m : Int} {u : List Int} (h0 : EvD t0 σ H (.int m)) (h1 : EvD t1 σ H (iD u)) (c : 0 ≤ m ∧ m ≤ 6) (o : isOrd m u) : EvD (tCall sp_signs_of [] E (tCons t0 (tCons t1 tNil))) σ H (iD (sgnV m u)) := evd_callO (m, u) (evs_cons h0 (evs_cons h1 evs_nil)) ⟨c, o⟩ rfl
end Bm

namespace Bm
open PySem PySem.Spec PyProof.Rows L2 Evl
local macro_rules | `(tactic| wtm_at "rp") => `(tactic| first | exact rp_int | exact rp_bl | exact rp_str | exact rp_non | assumption | (refine' Rp.ex ?e ?h; (case h => assumption); (case e => assumption)) | exact Own.rp (by assumption))
local macro_rules | `(tactic| wtm_at "side") => `(tactic| first | assumption | omega | decide | rfl | exact ⟨by omega, by omega⟩)
local macro_rules | `(tactic| wtm_at "es") => `(tactic| first | exact evs_nil | (refine' evs_cons ?a ?b; (case a => wtm_at "ev"); (case b => wtm_at "es")))
local macro_rules | `(tactic| wtm_at "ev") => `(tactic| first
  | exact evd_int | exact evd_str | exact evd_bl | exact evd_non
  | (refine' evd_var rfl ?h; (case h => wtm_at "rp"))
  | ((with_reducible refine' evd_op ?a ?b rd_addI); (case a => wtm_at "ev"); (case b => wtm_at "ev"))
  | ((with_reducible refine' evd_op ?a ?b rd_subI); (case a => wtm_at "ev"); (case b => wtm_at "ev"))
  | ((with_reducible refine' evd_op ?a ?b (rd_mulI ?c)); (case a => wtm_at "ev"); (case b => wtm_at "ev"); (case c => wtm_at "side"))
  | ((with_reducible refine' evd_op ?a ?b (rd_divI ?c)); (case a => wtm_at "ev"); (case b => wtm_at "ev"); (case c => wtm_at "side"))
  | ((with_reducible refine' evd_op ?a ?b (rd_modI ?c)); (case a => wtm_at "ev"); (case b => wtm_at "ev"); (case c => wtm_at "side"))
  | ((with_reducible refine' evd_op ?a ?b rd_ltI); (case a => wtm_at "ev"); (case b => wtm_at "ev"))
  | ((with_reducible refine' evd_op ?a ?b rd_leI); (case a => wtm_at "ev"); (case b => wtm_at "ev"))
  | ((with_reducible refine' evd_op ?a ?b rd_gtI); (case a => wtm_at "ev"); (case b => wtm_at "ev"))
  | ((with_reducible refine' evd_op ?a ?b rd_geI); (case a => wtm_at "ev"); (case b => wtm_at "ev"))
  | ((with_reducible refine' evd_op ?a ?b rd_eqI); (case a => wtm_at "ev"); (case b => wtm_at "ev"))
  | ((with_reducible refine' evd_op ?a ?b rd_neI); (case a => wtm_at "ev"); (case b => wtm_at "ev"))
  | ((with_reducible refine' evd_op ?a ?b rd_eqB); (case a => wtm_at "ev"); (case b => wtm_at "ev"))
  | ((with_reducible refine' evd_op ?a ?b rd_neB); (case a => wtm_at "ev"); (case b => wtm_at "ev"))
  | ((with_reducible refine' evd_op ?a ?b rd_isNo); (case a => wtm_at "ev"); (case b => wtm_at "ev"))
  | ((with_reducible refine' evd_op ?a ?b rd_notNo); (case a => wtm_at "ev"); (case b => wtm_at "ev"))
  | ((with_reducible refine' evd_op ?a ?b rd_inIL); (case a => wtm_at "ev"); (case b => wtm_at "ev"))
  | ((with_reducible refine' evd_op ?a ?b rd_niIL); (case a => wtm_at "ev"); (case b => wtm_at "ev"))
  | ((with_reducible refine' evd_op ?a ?b rd_inID); (case a => wtm_at "ev"); (case b => wtm_at "ev"))
  | ((with_reducible refine' evd_op ?a ?b rd_niID); (case a => wtm_at "ev"); (case b => wtm_at "ev"))
  | ((with_reducible refine' evd_neg ?a); (case a => wtm_at "ev"))
  | ((with_reducible refine' evd_tix ?a ?b ?c); (case a => wtm_at "ev"); (case b => wtm_at "ev"); (case c => wtm_at "side"))
  | ((with_reducible refine' evd_tup ?a ?b); (case a => wtm_at "es"); (case b => exact Nat.le_of_ble_eq_true rfl))
  | ((with_reducible refine' evd_cb ?a cd_lenL); (case a => wtm_at "es"))
  | ((with_reducible refine' evd_cb ?a cd_lenT); (case a => wtm_at "es"))
  | ((with_reducible refine' evd_cb ?a cd_intB); (case a => wtm_at "es"))
  | ((with_reducible refine' evd_cb ?a cd_tupL); (case a => wtm_at "es"))
  | ((with_reducible refine' evd_and ?a ?b); (case a => wtm_at "ev"); (case b => intro _; wtm_at "ev"))
  | ((with_reducible refine' evd_or ?a ?b); (case a => wtm_at "ev"); (case b => intro _; wtm_at "ev"))
  | ((with_reducible refine' evd_not ?a); (case a => wtm_at "ev"))
  | ((with_reducible refine' evd_op ?a ?b rd_neIL); (case a => wtm_at "ev"); (case b => wtm_at "ev"))
  | ((with_reducible refine' evd_op ?a ?b rd_eqIL); (case a => wtm_at "ev"); (case b => wtm_at "ev"))
  | ((with_reducible refine' EvN.toD ?a); (case a => wtm_at "en")))
local macro_rules | `(tactic| wtm_at "en") => `(tactic| first
  | ((with_reducible refine' evn_cb ?a cn_sortTI); (case a => wtm_at "es"))
  | ((with_reducible refine' evn_cb ?a cn_listL); (case a => wtm_at "es"))
  | ((with_reducible refine' evn_cb ?a cn_listT); (case a => wtm_at "es"))
  | ((with_reducible refine' evn_rng ?a ?b); (case a => wtm_at "ev"); (case b => wtm_at "side"))
  | ((with_reducible refine' evn_lst ?a ?b); (case a => wtm_at "es"); (case b => exact Nat.le_of_ble_eq_true rfl))
  | ((with_reducible refine' evn_cat ?a ?b ?c); (case a => wtm_at "ev"); (case b => wtm_at "ev"); (case c => wtm_at "side"))
  | ((with_reducible refine' evn_slL ?a ?b ?c); (case a => wtm_at "ev"); (case b => first | exact evp_none | (refine' evp_some ?d; (case d => wtm_at "ev"))); (case c => first | exact evp_none | (refine' evp_some ?d; (case d => wtm_at "ev")))))
local macro_rules | `(tactic| wtm_at "et") => `(tactic| first
  | exact et_yes
  | (refine' ett ?a; (case a => wtm_at "ev"))
  | (refine' etB ?a; (case a => wtm_at "ev"))
  | (refine' et_and ?a ?b; (case a => wtm_at "et"); (case b => intro _; wtm_at "et"))
  | (refine' et_or ?a ?b; (case a => wtm_at "et"); (case b => intro _; wtm_at "et"))
  | (refine' et_not ?a; (case a => wtm_at "et")))
local macro_rules | `(tactic| wtm_at "nx") => `(tactic| try dsimp only [tSeq, tNext])
/-! ### leads as rows, plain -/
def ldV (m : Int) (vs : List (List Int)) : List Int := (prs m 0).map fun p => leadF vs p.1 p.2
def addV (a b : List Int) : List Int := List.zipWith (· + ·) a b
theorem ldV_len (m : Int) (vs : List (List Int)) : (ldV m vs).length = (prs m 0).length := List.length_map _
theorem sgnV_len (m : Int) (v : List Int) : (sgnV m v).length = (prs m 0).length := List.length_map _
theorem ldV_snoc (m : Int) (vs : List (List Int)) (v : List Int) : ldV m (vs ++ [v]) = addV (ldV m vs) (sgnV m v) := by
  unfold ldV sgnV addV
  rw [List.zipWith_map]
  have : ∀ l : List (Int × Int), (l.map fun p => leadF (vs ++ [v]) p.1 p.2) = List.zipWith (fun a b => leadF vs a.1 a.2 + sgn1 v b.1 b.2) l l := fun l => by
    induction l with
    | nil => rfl
    | cons p l ih => rw [List.map_cons, List.zipWith_cons_cons, ih, leadF_snoc]
  exact this _
theorem ldV_nil (m : Int) : ldV m [] = List.replicate (prs m 0).length 0 := by
  unfold ldV
  have : ∀ l : List (Int × Int), (l.map fun p => leadF [] p.1 p.2) = List.replicate l.length 0 := fun l => by
    induction l with
    | nil => rfl
    | cons p l ih => rw [List.map_cons, ih, List.length_cons, List.replicate_succ]; rfl
  exact this _
/-- the row of leads is what the web wishes -/
def makesP (m : Int) (ps : List (Int × Int)) (vs : List (List Int)) : Prop := (ldV m vs).map sigF = wishV m ps
theorem makesP_iff {m : Int} (hm : 0 ≤ m ∧ m ≤ 6) {ps : List (Int × Int)} (hw : isWeb m ps) {vs : List (List Int)} (hv : isVot m vs) : makesP m ps vs ↔ beatsF m vs = srtW ps := by
  have e1 : makesP m ps vs ↔ ∀ p ∈ prs m 0, sigF (leadF vs p.1 p.2) = (if p ∈ ps then 1 else 0) - (if swp p ∈ ps then 1 else 0) := by
    unfold makesP ldV wishV
    rw [List.map_map]
    have : ∀ l : List (Int × Int), (l.map (sigF ∘ fun p => leadF vs p.1 p.2) = l.map fun p => (if p ∈ ps then 1 else 0) - (if swp p ∈ ps then (1 : Int) else 0)) ↔ ∀ p ∈ l, sigF (leadF vs p.1 p.2) = (if p ∈ ps then 1 else 0) - (if swp p ∈ ps then 1 else 0) := fun l => by
      induction l with
      | nil => simp
      | cons p l ih => rw [List.map_cons, List.map_cons, List.cons.injEq, ih, List.forall_mem_cons]; rfl
    exact this _
  have pt : ∀ p ∈ prs m 0, (sigF (leadF vs p.1 p.2) = (if p ∈ ps then 1 else 0) - (if swp p ∈ ps then 1 else 0)) ↔ ((0 < leadF vs p.1 p.2 ↔ p ∈ ps) ∧ (0 < -leadF vs p.1 p.2 ↔ swp p ∈ ps)) := fun p hp => by
    unfold sigF
    by_cases h1 : p ∈ ps
    · have h2 := hw.swp h1
      simp only [h1, h2, if_true, if_false, iff_true, iff_false]
      split <;> split <;> omega
    · by_cases h2 : swp p ∈ ps
      · simp only [h1, h2, if_true, if_false, iff_true, iff_false]
        split <;> split <;> omega
      · simp only [h1, h2, if_false, iff_false]
        split <;> split <;> omega
  have ms : ∀ p, p ∈ srtW ps ↔ p ∈ ps := fun p => (srtW_perm ps).mem_iff
  rw [e1]
  constructor
  · intro h
    refine beatsF_is hm hw.nodup fun p => ⟨fun hp => ?_, fun hp => ?_⟩
    · obtain ⟨g1, g2, g3, g4, g5⟩ := hw.good hp
      refine ⟨g1, g2, g3, g4, g5, ?_⟩
      by_cases l : p.1 < p.2
      · have hq := mem_prs.mpr ⟨g1, l, g4⟩
        exact ((pt p hq).mp (h p hq)).1.mpr hp
      · have hq : swp p ∈ prs m 0 := mem_prs.mpr ⟨g3, by unfold swp; dsimp only; omega, g2⟩
        have := ((pt _ hq).mp (h _ hq)).2.mpr hp
        rw [← leadF_neg (a := (swp p).1) (b := (swp p).2) (fun z => g5 z.symm) fun u hu => (hv u hu).mem.mpr ⟨g3, g4⟩] at this
        exact this
    · obtain ⟨g1, g2, g3, g4, g5, g6⟩ := hp
      by_cases l : p.1 < p.2
      · have hq := mem_prs.mpr ⟨g1, l, g4⟩
        exact ((pt p hq).mp (h p hq)).1.mp g6
      · have hq : swp p ∈ prs m 0 := mem_prs.mpr ⟨g3, by unfold swp; dsimp only; omega, g2⟩
        refine ((pt _ hq).mp (h _ hq)).2.mp ?_
        rw [← leadF_neg (a := (swp p).1) (b := (swp p).2) (fun z => g5 z.symm) fun u hu => (hv u hu).mem.mpr ⟨g3, g4⟩]
        exact g6
  · intro e p hp
    rw [pt p hp]
    have g := mem_prs.mp hp
    have k : ∀ q : Int × Int, q ∈ ps ↔ 0 ≤ q.1 ∧ q.1 < m ∧ 0 ≤ q.2 ∧ q.2 < m ∧ q.1 ≠ q.2 ∧ 0 < leadF vs q.1 q.2 := fun q => by rw [← ms, ← e, mem_beatsF hm.1]
    have hneg := leadF_neg (a := p.1) (b := p.2) (vs := vs) (by omega) fun u hu => (hv u hu).mem.mpr (by omega)
    rw [k p, k (swp p)]
    unfold swp
    dsimp only
    omega
/-- two for each beat make it -/
theorem due_makes {m : Int} (hm : 1 ≤ m ∧ m ≤ 6) {ps : List (Int × Int)} (hw : isWeb m ps) : isVot m (dueF m ps) ∧ makesP m ps (dueF m ps) ∧ (dueF m ps).length = 2 * ps.length := by
  have hv := dueF_ok hm (isWeb_set.mp hw).1
  exact ⟨hv, (makesP_iff ⟨by omega, hm.2⟩ hw hv).mpr (due_beats hm hw), dueF_len m ps⟩
theorem prs_len4 {m : Int} (hm : 0 ≤ m ∧ m ≤ 4) : (prs m 0).length ≤ 6 := by
  have : m = 0 ∨ m = 1 ∨ m = 2 ∨ m = 3 ∨ m = 4 := by omega
  rcases this with rfl | rfl | rfl | rfl | rfl <;> decide
theorem isWeb_len4 {m : Int} (hm : 0 ≤ m ∧ m ≤ 4) {ps : List (Int × Int)} (hw : isWeb m ps) : ps.length ≤ 6 := by
  have nd := (isWeb_set.mp hw).2
  have sub : ∀ q ∈ ps.map nrm, q ∈ prs m 0 := fun q hq => by
    obtain ⟨p, hp, rfl⟩ := List.mem_map.mp hq
    have g := hw.good hp
    rw [mem_prs]
    unfold nrm
    split
    · omega
    · unfold swp
      dsimp only
      omega
  have hp : ((prs m 0).filter fun x => decide (x ∈ ps.map nrm)).Perm (ps.map nrm) := (List.perm_ext_iff_of_nodup ((prs_nodup m 0).filter _) nd).mpr fun a => by
    rw [List.mem_filter, decide_eq_true_eq]
    exact ⟨fun z => z.2, fun z => ⟨sub a z, z⟩⟩
  have h1 := hp.length_eq
  have h2 : ((prs m 0).filter fun x => decide (x ∈ ps.map nrm)).length ≤ (prs m 0).length := List.length_filter_le _ _
  have h3 := prs_len4 hm
  rw [List.length_map] at h1
  omega
/-! how many rows of leads so many voters can give -/
def digs (k : Nat) (l : List Int) : List Int := l.map fun x => (x + (k : Int)) / 2
theorem leadF_par (a b : Int) : ∀ vs : List (List Int), (leadF vs a b + (vs.length : Int)) % 2 = 0
  | [] => rfl
  | v :: vs => by
    have ih := leadF_par a b vs
    have e : leadF (v :: vs) a b = sgn1 v a b + leadF vs a b := by unfold leadF; rw [List.map_cons, List.sum_cons]
    rw [e, List.length_cons]
    unfold sgn1
    split <;> omega
def rowOk (k : Nat) (l : List Int) : Prop := ∀ x ∈ l, -(k : Int) ≤ x ∧ x ≤ k ∧ (x + (k : Int)) % 2 = 0
theorem ldV_ok (m : Int) (vs : List (List Int)) : rowOk vs.length (ldV m vs) := fun x hx => by
  obtain ⟨p, _, rfl⟩ := List.mem_map.mp hx
  have := leadF_abs p.1 p.2 vs
  exact ⟨this.1, this.2, leadF_par p.1 p.2 vs⟩
theorem digs_inj {k : Nat} : ∀ {a b : List Int}, rowOk k a → rowOk k b → digs k a = digs k b → a = b
  | [], [], _, _, _ => rfl
  | [], _ :: _, _, _, h => by cases h
  | _ :: _, [], _, _, h => by cases h
  | x :: a, y :: b, ha, hb, h => by
    unfold digs at h
    rw [List.map_cons, List.map_cons, List.cons.injEq] at h
    have h1 := ha x List.mem_cons_self
    have h2 := hb y List.mem_cons_self
    rw [show x = y by omega, digs_inj (fun z hz => ha z (List.mem_cons_of_mem _ hz)) (fun z hz => hb z (List.mem_cons_of_mem _ hz)) h.2]
theorem digs_bd {k : Nat} {l : List Int} (h : rowOk k l) : TS.Bd ((k : Int) + 1) (digs k l) := fun x hx => by
  obtain ⟨y, hy, rfl⟩ := List.mem_map.mp hx
  have := h y hy
  omega
theorem code_inj {B : Int} : ∀ {a b : List Int}, TS.Bd B a → TS.Bd B b → a.length = b.length → TS.code B a = TS.code B b → a = b
  | [], [], _, _, _, _ => rfl
  | [], _ :: _, _, _, h, _ => by cases h
  | _ :: _, [], _, _, h, _ => by cases h
  | x :: a, y :: b, ha, hb, hl, h => by
    have hl2 : a.length = b.length := by simpa using hl
    have e : x = y := by
      rcases Int.lt_trichotomy x y with c | c | c
      · have := TS.code_lt hl2 ha.tail hb.tail c
        omega
      · exact c
      · have := TS.code_lt hl2.symm hb.tail ha.tail c
        omega
    subst e
    have h2 : TS.code B a = TS.code B b := by
      have h3 : x * B ^ a.length + TS.code B a = x * B ^ b.length + TS.code B b := h
      rw [hl2] at h3
      omega
    rw [code_inj ha.tail hb.tail hl2 h2]
theorem rows_few {k d : Nat} {rs : List (List Int)} (nd : rs.Nodup) (h : ∀ r ∈ rs, r.length = d ∧ rowOk k r) : rs.length ≤ (k + 1) ^ d := by
  have n2 : (rs.map fun r => TS.code ((k : Int) + 1) (digs k r)).Nodup := List.pairwise_map.mpr (nd.imp_of_mem fun {a b} ha hb ne e => by
    obtain ⟨a1, a2⟩ := h a ha
    obtain ⟨b1, b2⟩ := h b hb
    exact ne (digs_inj a2 b2 (code_inj (digs_bd a2) (digs_bd b2) (by unfold digs; rw [List.length_map, List.length_map, a1, b1]) e)))
  have := nodup_len (m := ((k : Int) + 1) ^ d) n2 fun x hx => by
    obtain ⟨r, hr, rfl⟩ := List.mem_map.mp hx
    obtain ⟨r1, r2⟩ := h r hr
    have := TS.code_bd _ (digs_bd r2)
    rwa [show (digs k r).length = d by unfold digs; rw [List.length_map, r1]] at this
  rw [List.length_map] at this
  have e : (((k : Int) + 1) ^ d).toNat = (k + 1) ^ d := by
    have : ((k : Int) + 1) ^ d = (((k + 1) ^ d : Nat) : Int) := by push_cast; rfl
    rw [this]
    rfl
  omega
end Bm

namespace Bm
open PySem PySem.Spec PyProof.Rows L2 Evl
local macro_rules | `(tactic| wtm_at "rp") => `(tactic| first | exact rp_int | exact rp_bl | exact rp_str | exact rp_non | assumption | (refine' Rp.ex ?e ?h; (case h => assumption); (case e => assumption)) | exact Own.rp (by assumption))
local macro_rules | `(tactic| wtm_at "side") => `(tactic| first | assumption | omega | decide | rfl | exact ⟨by omega, by omega⟩)
local macro_rules | `(tactic| wtm_at "es") => `(tactic| first | exact evs_nil | (refine' evs_cons ?a ?b; (case a => wtm_at "ev"); (case b => wtm_at "es")))
local macro_rules | `(tactic| wtm_at "ev") => `(tactic| first
  | exact evd_int | exact evd_str | exact evd_bl | exact evd_non
  | (refine' evd_var rfl ?h; (case h => wtm_at "rp"))
  | ((with_reducible refine' evd_op ?a ?b rd_addI); (case a => wtm_at "ev"); (case b => wtm_at "ev"))
  | ((with_reducible refine' evd_op ?a ?b rd_subI); (case a => wtm_at "ev"); (case b => wtm_at "ev"))
  | ((with_reducible refine' evd_op ?a ?b (rd_mulI ?c)); (case a => wtm_at "ev"); (case b => wtm_at "ev"); (case c => wtm_at "side"))
  | ((with_reducible refine' evd_op ?a ?b (rd_divI ?c)); (case a => wtm_at "ev"); (case b => wtm_at "ev"); (case c => wtm_at "side"))
  | ((with_reducible refine' evd_op ?a ?b (rd_modI ?c)); (case a => wtm_at "ev"); (case b => wtm_at "ev"); (case c => wtm_at "side"))
  | ((with_reducible refine' evd_op ?a ?b rd_ltI); (case a => wtm_at "ev"); (case b => wtm_at "ev"))
  | ((with_reducible refine' evd_op ?a ?b rd_leI); (case a => wtm_at "ev"); (case b => wtm_at "ev"))
  | ((with_reducible refine' evd_op ?a ?b rd_gtI); (case a => wtm_at "ev"); (case b => wtm_at "ev"))
  | ((with_reducible refine' evd_op ?a ?b rd_geI); (case a => wtm_at "ev"); (case b => wtm_at "ev"))
  | ((with_reducible refine' evd_op ?a ?b rd_eqI); (case a => wtm_at "ev"); (case b => wtm_at "ev"))
  | ((with_reducible refine' evd_op ?a ?b rd_neI); (case a => wtm_at "ev"); (case b => wtm_at "ev"))
  | ((with_reducible refine' evd_op ?a ?b rd_eqB); (case a => wtm_at "ev"); (case b => wtm_at "ev"))
  | ((with_reducible refine' evd_op ?a ?b rd_neB); (case a => wtm_at "ev"); (case b => wtm_at "ev"))
  | ((with_reducible refine' evd_op ?a ?b rd_isNo); (case a => wtm_at "ev"); (case b => wtm_at "ev"))
  | ((with_reducible refine' evd_op ?a ?b rd_notNo); (case a => wtm_at "ev"); (case b => wtm_at "ev"))
  | ((with_reducible refine' evd_op ?a ?b rd_inIL); (case a => wtm_at "ev"); (case b => wtm_at "ev"))
  | ((with_reducible refine' evd_op ?a ?b rd_niIL); (case a => wtm_at "ev"); (case b => wtm_at "ev"))
  | ((with_reducible refine' evd_op ?a ?b rd_inID); (case a => wtm_at "ev"); (case b => wtm_at "ev"))
  | ((with_reducible refine' evd_op ?a ?b rd_niID); (case a => wtm_at "ev"); (case b => wtm_at "ev"))
  | ((with_reducible refine' evd_neg ?a); (case a => wtm_at "ev"))
  | ((with_reducible refine' evd_tix ?a ?b ?c); (case a => wtm_at "ev"); (case b => wtm_at "ev"); (case c => wtm_at "side"))
  | ((with_reducible refine' evd_tup ?a ?b); (case a => wtm_at "es"); (case b => exact Nat.le_of_ble_eq_true rfl))
  | ((with_reducible refine' evd_cb ?a cd_lenL); (case a => wtm_at "es"))
  | ((with_reducible refine' evd_cb ?a cd_lenT); (case a => wtm_at "es"))
  | ((with_reducible refine' evd_cb ?a cd_intB); (case a => wtm_at "es"))
  | ((with_reducible refine' evd_cb ?a cd_tupL); (case a => wtm_at "es"))
  | ((with_reducible refine' evd_and ?a ?b); (case a => wtm_at "ev"); (case b => intro _; wtm_at "ev"))
  | ((with_reducible refine' evd_or ?a ?b); (case a => wtm_at "ev"); (case b => intro _; wtm_at "ev"))
  | ((with_reducible refine' evd_not ?a); (case a => wtm_at "ev"))
  | ((with_reducible refine' evd_op ?a ?b rd_neIL); (case a => wtm_at "ev"); (case b => wtm_at "ev"))
  | ((with_reducible refine' evd_op ?a ?b rd_eqIL); (case a => wtm_at "ev"); (case b => wtm_at "ev"))
  | ((with_reducible refine' EvN.toD ?a); (case a => wtm_at "en")))
local macro_rules | `(tactic| wtm_at "en") => `(tactic| first
  | ((with_reducible refine' evn_cb ?a cn_sortTI); (case a => wtm_at "es"))
  | ((with_reducible refine' evn_cb ?a cn_listL); (case a => wtm_at "es"))
  | ((with_reducible refine' evn_cb ?a cn_listT); (case a => wtm_at "es"))
  | ((with_reducible refine' evn_rng ?a ?b); (case a => wtm_at "ev"); (case b => wtm_at "side"))
  | ((with_reducible refine' evn_lst ?a ?b); (case a => wtm_at "es"); (case b => exact Nat.le_of_ble_eq_true rfl))
  | ((with_reducible refine' evn_cat ?a ?b ?c); (case a => wtm_at "ev"); (case b => wtm_at "ev"); (case c => wtm_at "side"))
  | ((with_reducible refine' evn_slL ?a ?b ?c); (case a => wtm_at "ev"); (case b => first | exact evp_none | (refine' evp_some ?d; (case d => wtm_at "ev"))); (case c => first | exact evp_none | (refine' evp_some ?d; (case d => wtm_at "ev")))))
local macro_rules | `(tactic| wtm_at "et") => `(tactic| first
  | exact et_yes
  | (refine' ett ?a; (case a => wtm_at "ev"))
  | (refine' etB ?a; (case a => wtm_at "ev"))
  | (refine' et_and ?a ?b; (case a => wtm_at "et"); (case b => intro _; wtm_at "et"))
  | (refine' et_or ?a ?b; (case a => wtm_at "et"); (case b => intro _; wtm_at "et"))
  | (refine' et_not ?a; (case a => wtm_at "et")))
local macro_rules | `(tactic| wtm_at "nx") => `(tactic| try dsimp only [tSeq, tNext])
/-! ### one voter more, plain -/
def wishF (ps : List (Int × Int)) (p : Int × Int) : Int := (if p ∈ ps then 1 else 0) - (if swp p ∈ ps then 1 else 0)
def outB (now w : Int) : Bool := if w = 0 then !decide (now = 1) && !decide (now = -1) else decide (now * w < 0)
def bndF (now w : Int) (p : Int × Int) : List (Int × Int) := if w = 0 then (if 0 < -now then [p] else [swp p]) else if 1 < now * w then [] else if 0 < w then [p] else [swp p]
def outP (vs : List (List Int)) (ps : List (Int × Int)) (p : Int × Int) : Bool := outB (leadF vs p.1 p.2) (wishF ps p)
def bndP (vs : List (List Int)) (ps : List (Int × Int)) (p : Int × Int) : List (Int × Int) := bndF (leadF vs p.1 p.2) (wishF ps p) p
def boundF (m : Int) (vs : List (List Int)) (ps : List (Int × Int)) : List (Int × Int) := ((prs m 0).map (bndP vs ps)).flatten
theorem pick_web {m : Int} {h : Int × Int → List (Int × Int)} (hh : ∀ p, h p = [] ∨ h p = [p] ∨ h p = [swp p]) : ∀ {l : List (Int × Int)}, (∀ p ∈ l, 0 ≤ p.1 ∧ p.1 < p.2 ∧ p.2 < m) → l.Nodup → isWeb m ((l.map h).flatten) ∧ ∀ q ∈ (l.map h).flatten, q ∈ l ∨ swp q ∈ l
  | [], _, _ => ⟨rfl, fun q hq => by simp at hq⟩
  | p :: l, hl, n => by
    obtain ⟨ih, ih2⟩ := pick_web hh (l := l) (fun q hq => hl q (List.mem_cons_of_mem _ hq)) (List.nodup_cons.mp n).2
    have hp := hl p List.mem_cons_self
    have np := (List.nodup_cons.mp n).1
    have ns : swp p ∉ l := fun z => by
      have := (hl _ (List.mem_cons_of_mem _ z)).2.1
      unfold swp at this
      dsimp only at this
      omega
    obtain ⟨g1, g2⟩ := isWeb_set.mp ih
    have key : nrm p ∉ ((l.map h).flatten).map nrm := fun z => by
      rcases nrm_mem.mp z with z | z
      · exact (ih2 _ z).elim np ns
      · exact (ih2 _ z).elim ns np
    rw [List.map_cons, List.flatten_cons]
    rcases hh p with e | e | e <;> rw [e]
    · exact ⟨ih, fun q hq => (ih2 q hq).imp (List.mem_cons_of_mem _) (List.mem_cons_of_mem _)⟩
    · refine ⟨isWeb_set.mpr ⟨fun q hq => ?_, ?_⟩, fun q hq => ?_⟩
      · rcases List.mem_cons.mp hq with rfl | hq
        · exact goodB_iff.mpr (by omega)
        · exact g1 q hq
      · rw [List.singleton_append, List.map_cons]
        exact List.nodup_cons.mpr ⟨key, g2⟩
      · rcases List.mem_cons.mp hq with rfl | hq
        · exact .inl List.mem_cons_self
        · exact (ih2 q hq).imp (List.mem_cons_of_mem _) (List.mem_cons_of_mem _)
    · refine ⟨isWeb_set.mpr ⟨fun q hq => ?_, ?_⟩, fun q hq => ?_⟩
      · rcases List.mem_cons.mp hq with rfl | hq
        · refine goodB_iff.mpr ?_
          unfold swp
          dsimp only
          omega
        · exact g1 q hq
      · rw [List.singleton_append, List.map_cons, show nrm (swp p) = nrm p from nrm_iff.mpr (.inr rfl)]
        exact List.nodup_cons.mpr ⟨key, g2⟩
      · rcases List.mem_cons.mp hq with rfl | hq
        · exact .inr List.mem_cons_self
        · exact (ih2 q hq).imp (List.mem_cons_of_mem _) (List.mem_cons_of_mem _)
theorem bndF_pick (now w : Int) (p : Int × Int) : bndF now w p = [] ∨ bndF now w p = [p] ∨ bndF now w p = [swp p] := by
  unfold bndF
  split
  · split
    · exact .inr (.inl rfl)
    · exact .inr (.inr rfl)
  · split
    · exact .inl rfl
    · split
      · exact .inr (.inl rfl)
      · exact .inr (.inr rfl)
theorem prs_rg {m : Int} : ∀ p ∈ prs m 0, 0 ≤ p.1 ∧ p.1 < p.2 ∧ p.2 < m := fun p hp => mem_prs.mp hp
theorem boundF_web (m : Int) (vs : List (List Int)) (ps : List (Int × Int)) : isWeb m (boundF m vs ps) := (pick_web (fun p => bndF_pick _ _ p) prs_rg (prs_nodup m 0)).1
theorem pick_len {h : Int × Int → List (Int × Int)} (hh : ∀ p, h p = [] ∨ h p = [p] ∨ h p = [swp p]) (l : List (Int × Int)) : ((l.map h).flatten).length ≤ l.length := by
  have := flat_len (k := 1) (xss := l.map h) fun xs hx => by
    obtain ⟨p, _, rfl⟩ := List.mem_map.mp hx
    rcases hh p with e | e | e <;> rw [e] <;> simp
  rw [List.length_map] at this
  omega
theorem boundF_len {m : Int} (hm : 0 ≤ m ∧ m ≤ 6) (vs : List (List Int)) (ps : List (Int × Int)) : (boundF m vs ps).length ≤ 15 := Nat.le_trans (pick_len (fun p => bndF_pick _ _ p) _) (prs_len hm)
theorem wish_cas {m : Int} {ps : List (Int × Int)} (hw : isWeb m ps) (p : Int × Int) : (wishF ps p = 1 ∧ p ∈ ps ∧ swp p ∉ ps) ∨ (wishF ps p = -1 ∧ p ∉ ps ∧ swp p ∈ ps) ∨ (wishF ps p = 0 ∧ p ∉ ps ∧ swp p ∉ ps) := by
  unfold wishF
  by_cases h1 : p ∈ ps
  · have h2 := hw.swp h1
    rw [if_pos h1, if_neg h2]
    exact .inl ⟨rfl, h1, h2⟩
  · rw [if_neg h1]
    by_cases h2 : swp p ∈ ps
    · rw [if_pos h2]
      exact .inr (.inl ⟨rfl, h1, h2⟩)
    · rw [if_neg h2]
      exact .inr (.inr ⟨rfl, h1, h2⟩)
def fitsP (vs : List (List Int)) (ps : List (Int × Int)) (v : List Int) (p : Int × Int) : Prop := (0 < leadF vs p.1 p.2 + sgn1 v p.1 p.2 ↔ p ∈ ps) ∧ (0 < -(leadF vs p.1 p.2 + sgn1 v p.1 p.2) ↔ swp p ∈ ps)
theorem fits_iff {m : Int} (hm : 0 ≤ m ∧ m ≤ 6) {vs : List (List Int)} (hv : isVot m vs) {ps : List (Int × Int)} (hw : isWeb m ps) {v : List Int} (ho : isOrd m v) : beatsF m (vs ++ [v]) = srtW ps ↔ ∀ p ∈ prs m 0, fitsP vs ps v p := by
  have hv2 : isVot m (vs ++ [v]) := fun u hu => (List.mem_append.mp hu).elim (hv u) fun h => by rw [List.mem_singleton.mp h]; exact ho
  have ms : ∀ p, p ∈ srtW ps ↔ p ∈ ps := fun p => (srtW_perm ps).mem_iff
  constructor
  · intro e p hp
    have g := mem_prs.mp hp
    have k : ∀ q : Int × Int, q ∈ ps ↔ 0 ≤ q.1 ∧ q.1 < m ∧ 0 ≤ q.2 ∧ q.2 < m ∧ q.1 ≠ q.2 ∧ 0 < leadF (vs ++ [v]) q.1 q.2 := fun q => by rw [← ms, ← e, mem_beatsF hm.1]
    have hneg := leadF_neg (a := p.1) (b := p.2) (vs := vs ++ [v]) (by omega) fun u hu => (hv2 u hu).mem.mpr (by omega)
    unfold fitsP
    rw [k p, k (swp p), ← leadF_snoc]
    unfold swp
    dsimp only
    omega
  · intro h
    refine beatsF_is hm hw.nodup fun p => ⟨fun hp => ?_, fun hp => ?_⟩
    · obtain ⟨g1, g2, g3, g4, g5⟩ := hw.good hp
      refine ⟨g1, g2, g3, g4, g5, ?_⟩
      by_cases l : p.1 < p.2
      · have := (h p (mem_prs.mpr ⟨g1, l, g4⟩)).1.mpr hp
        rwa [← leadF_snoc] at this
      · have := (h (swp p) (mem_prs.mpr ⟨g3, by unfold swp; dsimp only; omega, g2⟩)).2.mpr hp
        rw [← leadF_snoc, ← leadF_neg (a := (swp p).1) (b := (swp p).2) (fun z => g5 z.symm) fun u hu => (hv2 u hu).mem.mpr ⟨g3, g4⟩] at this
        exact this
    · obtain ⟨g1, g2, g3, g4, g5, g6⟩ := hp
      by_cases l : p.1 < p.2
      · exact (h p (mem_prs.mpr ⟨g1, l, g4⟩)).1.mp (by rw [← leadF_snoc]; exact g6)
      · refine (h (swp p) (mem_prs.mpr ⟨g3, by unfold swp; dsimp only; omega, g2⟩)).2.mp ?_
        rw [← leadF_snoc, ← leadF_neg (a := (swp p).1) (b := (swp p).2) (fun z => g5 z.symm) fun u hu => (hv2 u hu).mem.mpr ⟨g3, g4⟩]
        exact g6
theorem fitsP_out {m : Int} {vs : List (List Int)} {ps : List (Int × Int)} (hw : isWeb m ps) {v : List Int} {p : Int × Int} (h : outP vs ps p = true) : ¬ fitsP vs ps v p := by
  unfold outP outB at h
  unfold fitsP
  have hs : sgn1 v p.1 p.2 = 1 ∨ sgn1 v p.1 p.2 = -1 := by
    unfold sgn1
    split
    · exact .inl rfl
    · exact .inr rfl
  generalize leadF vs p.1 p.2 = now at h ⊢
  rcases wish_cas hw p with ⟨e, h1, h2⟩ | ⟨e, h1, h2⟩ | ⟨e, h1, h2⟩ <;> rw [e] at h <;> simp only [h1, h2, iff_true, iff_false]
  · have h3 : now * 1 < 0 := by simpa using h
    omega
  · have h3 : now * -1 < 0 := by simpa using h
    omega
  · have h3 : now ≠ 1 ∧ now ≠ -1 := by simpa using h
    omega
theorem fitsP_bnd {m : Int} {vs : List (List Int)} {ps : List (Int × Int)} (hw : isWeb m ps) {v : List Int} (ho : isOrd m v) {p : Int × Int} (hp : p ∈ prs m 0) (h : outP vs ps p = false) : fitsP vs ps v p ↔ ∀ q ∈ bndP vs ps p, ixOf q.1 v ≤ ixOf q.2 v := by
  have g := mem_prs.mp hp
  have hne := ixOf_ne (v := v) (a := p.1) (b := p.2) (ho.mem.mpr (by omega)) (by omega)
  unfold outP outB at h
  unfold fitsP bndP bndF
  unfold sgn1
  generalize leadF vs p.1 p.2 = now at h ⊢
  generalize hi : ixOf p.1 v = i at hne ⊢
  generalize hj : ixOf p.2 v = j at hne ⊢
  have k1 : (∀ q ∈ [p], ixOf q.1 v ≤ ixOf q.2 v) ↔ i ≤ j := by simp [hi, hj]
  have k2 : (∀ q ∈ [swp p], ixOf q.1 v ≤ ixOf q.2 v) ↔ j ≤ i := by simp [swp, hi, hj]
  rcases wish_cas hw p with ⟨e, h1, h2⟩ | ⟨e, h1, h2⟩ | ⟨e, h1, h2⟩ <;> rw [e] at h ⊢ <;> simp only [h1, h2, iff_true, iff_false]
  · have h3 : ¬ now * 1 < 0 := by simpa using h
    rw [if_neg (by decide : ¬ (1 : Int) = 0)]
    by_cases c : 1 < now * 1
    · rw [if_pos c]
      simp only [List.not_mem_nil, false_implies, implies_true, iff_true]
      split <;> omega
    · rw [if_neg c, if_pos (by decide : (0 : Int) < 1), k1]
      split <;> omega
  · have h3 : ¬ now * -1 < 0 := by simpa using h
    rw [if_neg (by decide : ¬ (-1 : Int) = 0)]
    by_cases c : 1 < now * -1
    · rw [if_pos c]
      simp only [List.not_mem_nil, false_implies, implies_true, iff_true]
      split <;> omega
    · rw [if_neg c, if_neg (by decide : ¬ (0 : Int) < -1), k2]
      split <;> omega
  · have h3 : now = 1 ∨ now = -1 := by
      rw [if_pos rfl] at h
      by_cases c : now = 1
      · exact .inl c
      · exact .inr (by simpa [c] using h)
    rw [if_pos trivial]
    by_cases c : 0 < -now
    · rw [if_pos c, k1]
      split <;> omega
    · rw [if_neg c, k2]
      split <;> omega
def fitL (m : Int) (vs : List (List Int)) (ps : List (Int × Int)) : List (List Int) := (rowsF m m.toNat).filter fun v => decide (beatsF m (vs ++ [v]) = srtW ps)
theorem fit_out {m : Int} (hm : 0 ≤ m ∧ m ≤ 6) {vs : List (List Int)} (hv : isVot m vs) {ps : List (Int × Int)} (hw : isWeb m ps) {p : Int × Int} (hp : p ∈ prs m 0) (h : outP vs ps p = true) : fitL m vs ps = [] := by
  unfold fitL
  rw [List.filter_eq_nil_iff]
  intro v hr
  rw [decide_eq_true_eq, fits_iff hm hv hw (rowsF_ord hr)]
  exact fun z => fitsP_out hw h (z p hp)
theorem fit_in {m : Int} (hm : 0 ≤ m ∧ m ≤ 6) {vs : List (List Int)} (hv : isVot m vs) {ps : List (Int × Int)} (hw : isWeb m ps) (h : ∀ p ∈ prs m 0, outP vs ps p = false) : fitL m vs ps = (rowsF m m.toNat).filter (keepsF (boundF m vs ps)) := by
  unfold fitL
  refine List.filter_congr fun v hr => ?_
  have ho := rowsF_ord hr
  refine decide_eq_decide.mpr ?_
  rw [fits_iff hm hv hw ho]
  constructor
  · intro z q hq
    obtain ⟨l, hl, hql⟩ := List.mem_flatten.mp hq
    obtain ⟨p, hp, rfl⟩ := List.mem_map.mp hl
    exact (fitsP_bnd hw ho hp (h p hp)).mp (z p hp) q hql
  · intro z p hp
    exact (fitsP_bnd hw ho hp (h p hp)).mpr fun q hq => z q (List.mem_flatten.mpr ⟨_, List.mem_map.mpr ⟨p, hp, rfl⟩, hq⟩)
/-- the beats that bind, as the law tells them -/
def lbndF (now w : Int) (p : Int × Int) : List (Int × Int) := (if (-1 ≤ now ∧ now ≤ 1) ∧ 0 < (if w = 0 then -now else w) then [p] else []) ++ (if (-1 ≤ now ∧ now ≤ 1) ∧ (if w = 0 then -now else w) < 0 then [swp p] else [])
def lboundF (m : Int) (vs : List (List Int)) (ps : List (Int × Int)) : List (Int × Int) := ((prs m 0).map fun p => lbndF (leadF vs p.1 p.2) (wishF ps p) p).flatten
theorem lbndF_eq {now w : Int} {p : Int × Int} (hw : w = 1 ∨ w = -1 ∨ w = 0) (h : outB now w = false) : lbndF now w p = bndF now w p := by
  unfold outB at h
  unfold lbndF bndF
  rcases hw with rfl | rfl | rfl
  · have h3 : ¬ now * 1 < 0 := by simpa using h
    rw [if_neg (by decide : ¬ (1 : Int) = 0), if_neg (by decide : ¬ (1 : Int) = 0)]
    by_cases c : 1 < now * 1
    · rw [if_pos c, if_neg (by omega), if_neg (by omega)]
      rfl
    · rw [if_neg c, if_pos (by omega), if_neg (by omega), if_pos (by decide)]
      rfl
  · have h3 : ¬ now * -1 < 0 := by simpa using h
    rw [if_neg (by decide : ¬ (-1 : Int) = 0), if_neg (by decide : ¬ (-1 : Int) = 0)]
    by_cases c : 1 < now * -1
    · rw [if_pos c, if_neg (by omega), if_neg (by omega)]
      rfl
    · rw [if_neg c, if_neg (by omega), if_pos (by omega), if_neg (by decide)]
      rfl
  · have h3 : now = 1 ∨ now = -1 := by
      rw [if_pos rfl] at h
      by_cases c : now = 1
      · exact .inl c
      · exact .inr (by simpa [c] using h)
    rw [if_pos rfl, if_pos rfl]
    by_cases c : 0 < -now
    · rw [if_pos c, if_pos (by omega), if_neg (by omega)]
      rfl
    · rw [if_neg c, if_neg (by omega), if_pos (by omega)]
      rfl
theorem lboundF_eq {m : Int} {vs : List (List Int)} {ps : List (Int × Int)} (hw : isWeb m ps) (h : ∀ p ∈ prs m 0, outP vs ps p = false) : lboundF m vs ps = boundF m vs ps := by
  unfold lboundF boundF
  congr 1
  refine List.map_congr_left fun p hp => lbndF_eq ?_ (h p hp)
  rcases wish_cas hw p with ⟨e, _⟩ | ⟨e, _⟩ | ⟨e, _⟩
  · exact .inl e
  · exact .inr (.inl e)
  · exact .inr (.inr e)
/-! what is told -/
def oneF (m : Int) (vs : List (List Int)) (ps : List (Int × Int)) : Out := match (prs m 0).find? (outP vs ps) with
  | some p => .val (.tuple [.str "out", pD p])
  | none => match foF m (boundF m vs ps) with
    | some v => .val (.tuple [.str "voter", iD v])
    | none => match srF (boundF m vs ps) with
      | some r => .pair "ring" (r.map .int)
      | none => .val (.tuple [.str "ring", .none])
theorem wish_bd (ps : List (Int × Int)) (p : Int × Int) : -1 ≤ wishF ps p ∧ wishF ps p ≤ 1 := by
  unfold wishF
  split <;> split <;> omega
theorem ev_wish {K : PySem.W.Frag} {σ : L2.St} {H : Hp} {ta tb tw : TE} {ps : List (Int × Int)} {a b : Int} (ha : EvD ta σ H (.int a)) (hb : EvD tb σ H (.int b)) (hw : EvD tw σ H (wD ps)) :
    EvD (tOp rSubI (tCB rIntB (tCons (tOp (rInD K) (tTupF (tCons ta (tCons tb tNil))) tw) tNil)) (tCB rIntB (tCons (tOp (rInD K) (tTupF (tCons tb (tCons ta tNil))) tw) tNil))) σ H (.int (wishF ps (a, b))) := by
  have z : EvD (tOp rSubI (tCB rIntB (tCons (tOp (rInD K) (tTupF (tCons ta (tCons tb tNil))) tw) tNil)) (tCB rIntB (tCons (tOp (rInD K) (tTupF (tCons tb (tCons ta tNil))) tw) tNil))) σ H (.int ((if decide ((a, b) ∈ ps) then 1 else 0) - (if decide ((b, a) ∈ ps) then 1 else 0))) :=
    evd_op (evd_cb (evs_cons (evd_op (x := pD (a, b)) (evd_tup (evs_cons ha (evs_cons hb evs_nil)) (Nat.le_of_ble_eq_true rfl)) hw rd_inW) evs_nil) cd_intB) (evd_cb (evs_cons (evd_op (x := pD (b, a)) (evd_tup (evs_cons hb (evs_cons ha evs_nil)) (Nat.le_of_ble_eq_true rfl)) hw rd_inW) evs_nil) cd_intB) rd_subI
  simp only [decide_eq_true_eq] at z
  exact z
end Bm

namespace Bm
open PySem PySem.Spec PyProof.Rows L2 Evl
local macro_rules | `(tactic| wtm_at "rp") => `(tactic| first | exact rp_int | exact rp_bl | exact rp_str | exact rp_non | assumption | (refine' Rp.ex ?e ?h; (case h => assumption); (case e => assumption)) | exact Own.rp (by assumption))
local macro_rules | `(tactic| wtm_at "side") => `(tactic| first | assumption | omega | decide | rfl | exact ⟨by omega, by omega⟩)
local macro_rules | `(tactic| wtm_at "es") => `(tactic| first | exact evs_nil | (refine' evs_cons ?a ?b; (case a => wtm_at "ev"); (case b => wtm_at "es")))
local macro_rules | `(tactic| wtm_at "ev") => `(tactic| first
  | exact evd_int | exact evd_str | exact evd_bl | exact evd_non
  | (refine' evd_var rfl ?h; (case h => wtm_at "rp"))
  | ((with_reducible refine' evd_op ?a ?b rd_addI); (case a => wtm_at "ev"); (case b => wtm_at "ev"))
  | ((with_reducible refine' evd_op ?a ?b rd_subI); (case a => wtm_at "ev"); (case b => wtm_at "ev"))
  | ((with_reducible refine' evd_op ?a ?b (rd_mulI ?c)); (case a => wtm_at "ev"); (case b => wtm_at "ev"); (case c => wtm_at "side"))
  | ((with_reducible refine' evd_op ?a ?b (rd_divI ?c)); (case a => wtm_at "ev"); (case b => wtm_at "ev"); (case c => wtm_at "side"))
  | ((with_reducible refine' evd_op ?a ?b (rd_modI ?c)); (case a => wtm_at "ev"); (case b => wtm_at "ev"); (case c => wtm_at "side"))
  | ((with_reducible refine' evd_op ?a ?b rd_ltI); (case a => wtm_at "ev"); (case b => wtm_at "ev"))
  | ((with_reducible refine' evd_op ?a ?b rd_leI); (case a => wtm_at "ev"); (case b => wtm_at "ev"))
  | ((with_reducible refine' evd_op ?a ?b rd_gtI); (case a => wtm_at "ev"); (case b => wtm_at "ev"))
  | ((with_reducible refine' evd_op ?a ?b rd_geI); (case a => wtm_at "ev"); (case b => wtm_at "ev"))
  | ((with_reducible refine' evd_op ?a ?b rd_eqI); (case a => wtm_at "ev"); (case b => wtm_at "ev"))
  | ((with_reducible refine' evd_op ?a ?b rd_neI); (case a => wtm_at "ev"); (case b => wtm_at "ev"))
  | ((with_reducible refine' evd_op ?a ?b rd_eqB); (case a => wtm_at "ev"); (case b => wtm_at "ev"))
  | ((with_reducible refine' evd_op ?a ?b rd_neB); (case a => wtm_at "ev"); (case b => wtm_at "ev"))
  | ((with_reducible refine' evd_op ?a ?b rd_isNo); (case a => wtm_at "ev"); (case b => wtm_at "ev"))
  | ((with_reducible refine' evd_op ?a ?b rd_notNo); (case a => wtm_at "ev"); (case b => wtm_at "ev"))
  | ((with_reducible refine' evd_op ?a ?b rd_inIL); (case a => wtm_at "ev"); (case b => wtm_at "ev"))
  | ((with_reducible refine' evd_op ?a ?b rd_niIL); (case a => wtm_at "ev"); (case b => wtm_at "ev"))
  | ((with_reducible refine' evd_op ?a ?b rd_inID); (case a => wtm_at "ev"); (case b => wtm_at "ev"))
  | ((with_reducible refine' evd_op ?a ?b rd_niID); (case a => wtm_at "ev"); (case b => wtm_at "ev"))
  | ((with_reducible refine' evd_neg ?a); (case a => wtm_at "ev"))
  | ((with_reducible refine' evd_tix ?a ?b ?c); (case a => wtm_at "ev"); (case b => wtm_at "ev"); (case c => wtm_at "side"))
  | ((with_reducible refine' evd_tup ?a ?b); (case a => wtm_at "es"); (case b => exact Nat.le_of_ble_eq_true rfl))
  | ((with_reducible refine' evd_cb ?a cd_lenL); (case a => wtm_at "es"))
  | ((with_reducible refine' evd_cb ?a cd_lenT); (case a => wtm_at "es"))
  | ((with_reducible refine' evd_cb ?a cd_intB); (case a => wtm_at "es"))
  | ((with_reducible refine' evd_cb ?a cd_tupL); (case a => wtm_at "es"))
  | ((with_reducible refine' evd_and ?a ?b); (case a => wtm_at "ev"); (case b => intro _; wtm_at "ev"))
  | ((with_reducible refine' evd_or ?a ?b); (case a => wtm_at "ev"); (case b => intro _; wtm_at "ev"))
  | ((with_reducible refine' evd_not ?a); (case a => wtm_at "ev"))
  | ((with_reducible refine' evd_op ?a ?b rd_neIL); (case a => wtm_at "ev"); (case b => wtm_at "ev"))
  | ((with_reducible refine' evd_op ?a ?b rd_eqIL); (case a => wtm_at "ev"); (case b => wtm_at "ev"))
  | ((with_reducible refine' EvN.toD ?a); (case a => wtm_at "en")))
local macro_rules | `(tactic| wtm_at "en") => `(tactic| first
  | ((with_reducible refine' evn_cb ?a cn_sortTI); (case a => wtm_at "es"))
  | ((with_reducible refine' evn_cb ?a cn_listL); (case a => wtm_at "es"))
  | ((with_reducible refine' evn_cb ?a cn_listT); (case a => wtm_at "es"))
  | ((with_reducible refine' evn_rng ?a ?b); (case a => wtm_at "ev"); (case b => wtm_at "side"))
  | ((with_reducible refine' evn_lst ?a ?b); (case a => wtm_at "es"); (case b => exact Nat.le_of_ble_eq_true rfl))
  | ((with_reducible refine' evn_cat ?a ?b ?c); (case a => wtm_at "ev"); (case b => wtm_at "ev"); (case c => wtm_at "side"))
  | ((with_reducible refine' evn_slL ?a ?b ?c); (case a => wtm_at "ev"); (case b => first | exact evp_none | (refine' evp_some ?d; (case d => wtm_at "ev"))); (case c => first | exact evp_none | (refine' evp_some ?d; (case d => wtm_at "ev")))))
local macro_rules | `(tactic| wtm_at "et") => `(tactic| first
  | exact et_yes
  | (refine' ett ?a; (case a => wtm_at "ev"))
  | (refine' etB ?a; (case a => wtm_at "ev"))
  | (refine' et_and ?a ?b; (case a => wtm_at "et"); (case b => intro _; wtm_at "et"))
  | (refine' et_or ?a ?b; (case a => wtm_at "et"); (case b => intro _; wtm_at "et"))
  | (refine' et_not ?a; (case a => wtm_at "et")))
local macro_rules | `(tactic| wtm_at "nx") => `(tactic| try dsimp only [tSeq, tNext])
/-! ### wished_signs, added -/
def sp_wished_signs : Sp := spO (α := Int × List (Int × Int)) (fun a => [.int a.1, wD a.2]) (fun a => 0 ≤ a.1 ∧ a.1 ≤ 6) fun a => .new ((wishV a.1 a.2).map .int)
theorem len_wished_signs (vs : List V) (H : Hp) (Q : VK) (E : XK) (h : sp_wished_signs vs H Q E) : vs.length = 2 := by
  unfold sp_wished_signs at h
  obtain ⟨a, r, _⟩ := h
  rw [r.len]
  rfl
section
variable {P : Program} {w : World} {K : PySem.W.Frag} {mg : Str → Option Value} {base : Heap}
theorem ok_wished_signs {f : Addr} {fd : FuncData} (D : Df K mg "wished_signs" s_wished_signs ["many", "web"] f fd) (Bi : Bi mg) : FnOk P w K mg base CX0 1 f fd ["many", "web"] sp_wished_signs := by
  refine D.F.ok c_wished_signs (fun vs H Q E h => len_wished_signs _ _ _ _ h) (fun cdv A outer s H vs Q E hr h => ?_)
  refine ⟨_, (pss_cons (ps_set (i := 2) c_wished_signs.nd rfl (.inl rfl) (pe_lst pa_nil))
      (pss_cons (ps_for (PassesOwn.never) rfl (pi_range1 (by rfl) Bi.range (pa_cons (pv 0) pa_nil)) (pg_name (i := 3) c_wished_signs.nd rfl (.inr rfl))
      (pss_one (ps_expr (pe_bm PySem.F.plainAttrs_list PySem.F.slot_list_extend PySem.F.type_list_extend mt_extend (pv 2) (pa_cons (pe_lc (own := [("other", 4)]) (g := (gName 4)) (tt := tYes) rfl c_wished_signs.nd (pi_range2 (by rfl) Bi.range (pa_cons (pe_op op_addI (pv 3) pe_int) (pa_cons (pv 0) pa_nil))) (blkOk_by (own := [("other", 4)]) (N := ["many", "web", "found", "one", "other"]) (sc := defScope s_wished_signs) (by decide +kernel)) (fun _ _ _ _ _ => (pg_name (i := 4) c_wished_signs.nd rfl (.inl rfl))) (fun _ _ _ _ _ => pts_nil) (fun _ _ _ _ _ => (pe_op op_subI (pe_callTy cr_intB (by rfl) Bi.int (by decide +kernel) (pa_cons (pe_cmpR (op_inDK (K := K) (hu65 hr)) (pe_tupF (pa_cons (pv 3) (pa_cons (pv 4) pa_nil))) (pv 1) (by rfl)) pa_nil)) (pe_callTy cr_intB (by rfl) Bi.int (by decide +kernel) (pa_cons (pe_cmpR (op_inDK (K := K) (hu65 hr)) (pe_tupF (pa_cons (pv 4) (pa_cons (pv 3) pa_nil))) (pv 1) (by rfl)) pa_nil))))) pa_nil)))))
      (pss_one (ps_ret (pv 2))))), ?_⟩
  obtain ⟨⟨m, ps⟩, ⟨v1, _, rfl, rfl, v2, _, rfl, hw, rfl⟩, ⟨m0, m6⟩, q⟩ := h
  dsimp only at q hw m0 m6
  have hpl := prs_len ⟨m0, m6⟩
  refine' s_asgO (evn_lst evs_nil (by decide)) rfl fun pf H1 e1 o1 => ?_
  wtm_at "nx"
  refine' s_forR (n := m) ?n (by omega) fun H3 e3 => ⟨fun i σ' H' => ∃ acc y, σ' = [some (.int m), some v2, some (.ref pf), y, none] ∧ Own H H' pf ((acc : List Int).map .int) ∧ acc ++ (prs m i).map (wishF ps) = wishV m ps, ?_, ?_, ?_⟩
  case n => wtm_at "es"
  · exact ⟨[], none, rfl, o1.step e3, rfl⟩
  · rintro i σ' H' hi ⟨acc, y, rfl, o, hacc⟩
    refine g_name ?_
    rw [prs_step hi, List.map_append] at hacc
    have hlen : acc.length + ((rowP m i ((i : Int) + 1)).map (wishF ps)).length ≤ 15 := by
      have := congrArg List.length hacc
      unfold wishV at this
      rw [List.length_append, List.length_append, List.length_map (as := prs m 0)] at this
      omega
    have hw' : Rp H' (wD ps) v2 := hw.ex o.ex
    refine' s_extO o rfl (es := ((rowP m i ((i : Int) + 1)).map (wishF ps)).map .int) ?x (imm_ints _) (by rw [List.length_map, List.length_map]; omega) fun H5 x5 o5 => ?_
    case x =>
      rw [prs_row m (wishF ps), List.map_map]
      have z : (rgI ((i : Int) + 1) (m - ((i : Int) + 1)).toNat).map (PyData.int ∘ fun j => wishF ps ((i : Int), j)) = ((rgI ((i : Int) + 1) (m - ((i : Int) + 1)).toNat).filter fun _ => true).map fun j => PyData.int (wishF ps ((i : Int), j)) := by
        rw [List.filter_eq_self.mpr (fun _ _ => rfl)]
        rfl
      refine EvN.is ?_ z.symm
      refine' evn_lcR2 (lo := (i : Int) + 1) (n := m) (fun _ => true) (fun j => .int (wishF ps ((i : Int), j))) ?es (by omega) ?turn fun _ _ _ _ => rfl
      case es => wtm_at "es"
      case turn =>
        intro j H6 j0 j1 e6
        exact ⟨_, fun Q hq => hq, rfl, et_yes, fun _ => ev_wish (a := (i : Int)) (b := j) (evd_var rfl rp_int) (evd_var rfl rp_int) (evd_var rfl (hw'.ex e6))⟩
    refine ⟨acc ++ (rowP m i ((i : Int) + 1)).map (wishF ps), _, rfl, ?_, ?_⟩
    · rw [List.map_append]
      exact o5
    · rw [List.append_assoc, show ((i + 1 : Nat) : Int) = (i : Int) + 1 by omega]
      exact hacc
  · rintro σ' H' ⟨acc, y, rfl, o, hacc⟩
    wtm_at "nx"
    rw [prs_end (m := m) (a := (m.toNat : Int)) (by omega), List.map_nil, List.append_nil] at hacc
    subst hacc
    obtain ⟨ws, k1, k2⟩ := o.has
    exact ⟨_, rfl, q pf ws H' o.new o.ex k1 k2⟩
end
theorem ev_wished_signs {σ : L2.St} {H : Hp} {t0 t1 : TE} {E : XK} {m : Int} {ps : List (Int × Int)} (h0 : EvD t0 σ H (.int m)) (h1 : EvD t1 σ H (wD ps)) (c : 0 ≤ m ∧ m ≤ 6) : EvN (tCall sp_wished_signs [] E (tCons t0 (tCons t1 tNil))) σ H ((wishV m ps).map .int) := evn_callO (m, ps) (evs_cons h0 (evs_cons h1 evs_nil)) c rfl
def sp_added : Sp := fun vs H Q _ => ∃ (a b : List Int) (v1 v2 : V), vs = [v1, v2] ∧ PT H a v1 ∧ Rp H (iD b) v2 ∧ a.length = b.length ∧ a.length ≤ 1000 ∧ ∀ p H', H p = none → Ex H H' → H' p = some (.tup ((addV a b).map V.int)) → Q (.ref p) H'
theorem len_added (vs : List V) (H : Hp) (Q : VK) (E : XK) (h : sp_added vs H Q E) : vs.length = 2 := by
  obtain ⟨a, b, v1, v2, rfl, _⟩ := h
  rfl
theorem addV_rg : ∀ {a b : List Int}, a.length = b.length → addV a b = (rgI 0 a.length).map fun k => a.getD k.toNat 0 + b.getD k.toNat 0 := fun {a b} h => by
  refine List.ext_getElem? fun i => ?_
  unfold addV
  rw [List.getElem?_map]
  by_cases hi : i < a.length
  · rw [rgI_get hi, List.getElem?_zipWith]
    have h2 : i < b.length := by omega
    simp [hi, h2]
  · rw [List.getElem?_eq_none (by rw [List.length_zipWith]; omega), List.getElem?_eq_none (by rw [rgI_len]; omega)]
    rfl
section
variable {P : Program} {w : World} {K : PySem.W.Frag} {mg : Str → Option Value} {base : Heap}
theorem ok_added {f : Addr} {fd : FuncData} (D : Df K mg "added" s_added ["one", "other"] f fd) (Bi : Bi mg) : FnOk P w K mg base CX0 1 f fd ["one", "other"] sp_added := by
  refine D.F.ok c_added (fun vs H Q E h => len_added _ _ _ _ h) (fun cdv A outer s H vs Q E hr h => ?_)
  refine ⟨_, (pss_one (ps_ret (pe_callTy (cr_tupPK (K := K)) (by rfl) Bi.tuple (by decide +kernel) (pa_cons (pe_lc (own := [("k", 2)]) (g := (gName 2)) (tt := tYes) rfl c_added.nd (pi_range1 (by rfl) Bi.range (pa_cons (pe_callB (cr_lenK (K := K)) (by rfl) Bi.len (by decide +kernel) (pa_cons (pv 0) pa_nil)) pa_nil)) (blkOk_by (own := [("k", 2)]) (N := ["one", "other", "k"]) (sc := defScope s_added) (by decide +kernel)) (fun _ _ _ _ _ => (pg_name (i := 2) c_added.nd rfl (.inl rfl))) (fun _ _ _ _ _ => pts_nil) (fun _ _ _ _ _ => (pe_op op_addI (pe_ix (ix_tupK (K := K)) (pv 0) (pv 2) (fun _ _ => rfl)) (pe_ix (ix_tupK (K := K)) (pv 1) (pv 2) (fun _ _ => rfl))))) pa_nil)))), ?_⟩
  obtain ⟨a, b, v1, v2, rfl, ⟨pa, rfl, ha⟩, hb, hl, hl2, q⟩ := h
  refine evp_tup (ns := addV a b) (EvN.toD ?_) H (Ex.refl _) _ fun p H1 hp e1 h1 => q p H1 hp e1 h1
  rw [addV_rg hl, List.map_map]
  have z : (rgI 0 a.length).map (PyData.int ∘ fun k => a.getD k.toNat 0 + b.getD k.toNat 0) = ((rgI 0 ((a.length : Int)).toNat).filter fun _ => true).map fun k => PyData.int (a.getD k.toNat 0 + b.getD k.toNat 0) := by
    rw [List.filter_eq_self.mpr (fun _ _ => rfl)]
    rfl
  refine EvN.is ?_ z.symm
  refine evn_lcR (n := (a.length : Int)) (fun _ => true) (fun k => .int (a.getD k.toNat 0 + b.getD k.toNat 0)) (evs_cons (evd_lenP rfl ha) evs_nil) (by omega) ?turn fun _ _ _ _ => rfl
  intro k H6 k0 k1 e6
  have hk : k.toNat < a.length := by omega
  have ek : k = ((k.toNat : Nat) : Int) := by omega
  have h1 : atI a k = some (a.getD k.toNat 0) := by
    conv => lhs; rw [ek]
    exact atI_nat (by rw [List.getD_eq_getElem?_getD, List.getElem?_eq_getElem hk]; rfl)
  have h2 : atI (b.map PyData.int) k = some (.int (b.getD k.toNat 0)) := by
    refine atI_map ?_
    conv => lhs; rw [ek]
    exact atI_nat (by rw [List.getD_eq_getElem?_getD, List.getElem?_eq_getElem (by omega)]; rfl)
  have hb6 : Rp H6 (iD b) v2 := hb.ex e6
  exact ⟨_, fun Q hq => hq, rfl, et_yes, fun _ => evd_op (evd_ixP rfl (e6 _ _ ha) (evd_var rfl rp_int) h1) (evd_op (evd_var rfl hb6) (evd_var rfl rp_int) (rd_ixT h2)) rd_addI⟩
end
end Bm

namespace Bm
open PySem PySem.Spec PyProof.Rows L2 Evl
local macro_rules | `(tactic| wtm_at "rp") => `(tactic| first | exact rp_int | exact rp_bl | exact rp_str | exact rp_non | assumption | (refine' Rp.ex ?e ?h; (case h => assumption); (case e => assumption)) | exact Own.rp (by assumption))
local macro_rules | `(tactic| wtm_at "side") => `(tactic| first | assumption | omega | decide | rfl | exact ⟨by omega, by omega⟩)
local macro_rules | `(tactic| wtm_at "es") => `(tactic| first | exact evs_nil | (refine' evs_cons ?a ?b; (case a => wtm_at "ev"); (case b => wtm_at "es")))
local macro_rules | `(tactic| wtm_at "ev") => `(tactic| first
  | exact evd_int | exact evd_str | exact evd_bl | exact evd_non
  | (refine' evd_var rfl ?h; (case h => wtm_at "rp"))
  | ((with_reducible refine' evd_op ?a ?b rd_addI); (case a => wtm_at "ev"); (case b => wtm_at "ev"))
  | ((with_reducible refine' evd_op ?a ?b rd_subI); (case a => wtm_at "ev"); (case b => wtm_at "ev"))
  | ((with_reducible refine' evd_op ?a ?b (rd_mulI ?c)); (case a => wtm_at "ev"); (case b => wtm_at "ev"); (case c => wtm_at "side"))
  | ((with_reducible refine' evd_op ?a ?b (rd_divI ?c)); (case a => wtm_at "ev"); (case b => wtm_at "ev"); (case c => wtm_at "side"))
  | ((with_reducible refine' evd_op ?a ?b (rd_modI ?c)); (case a => wtm_at "ev"); (case b => wtm_at "ev"); (case c => wtm_at "side"))
  | ((with_reducible refine' evd_op ?a ?b rd_ltI); (case a => wtm_at "ev"); (case b => wtm_at "ev"))
  | ((with_reducible refine' evd_op ?a ?b rd_leI); (case a => wtm_at "ev"); (case b => wtm_at "ev"))
  | ((with_reducible refine' evd_op ?a ?b rd_gtI); (case a => wtm_at "ev"); (case b => wtm_at "ev"))
  | ((with_reducible refine' evd_op ?a ?b rd_geI); (case a => wtm_at "ev"); (case b => wtm_at "ev"))
  | ((with_reducible refine' evd_op ?a ?b rd_eqI); (case a => wtm_at "ev"); (case b => wtm_at "ev"))
  | ((with_reducible refine' evd_op ?a ?b rd_neI); (case a => wtm_at "ev"); (case b => wtm_at "ev"))
  | ((with_reducible refine' evd_op ?a ?b rd_eqB); (case a => wtm_at "ev"); (case b => wtm_at "ev"))
  | ((with_reducible refine' evd_op ?a ?b rd_neB); (case a => wtm_at "ev"); (case b => wtm_at "ev"))
  | ((with_reducible refine' evd_op ?a ?b rd_isNo); (case a => wtm_at "ev"); (case b => wtm_at "ev"))
  | ((with_reducible refine' evd_op ?a ?b rd_notNo); (case a => wtm_at "ev"); (case b => wtm_at "ev"))
  | ((with_reducible refine' evd_op ?a ?b rd_inIL); (case a => wtm_at "ev"); (case b => wtm_at "ev"))
  | ((with_reducible refine' evd_op ?a ?b rd_niIL); (case a => wtm_at "ev"); (case b => wtm_at "ev"))
  | ((with_reducible refine' evd_op ?a ?b rd_inID); (case a => wtm_at "ev"); (case b => wtm_at "ev"))
  | ((with_reducible refine' evd_op ?a ?b rd_niID); (case a => wtm_at "ev"); (case b => wtm_at "ev"))
  | ((with_reducible refine' evd_neg ?a); (case a => wtm_at "ev"))
  | ((with_reducible refine' evd_tix ?a ?b ?c); (case a => wtm_at "ev"); (case b => wtm_at "ev"); (case c => wtm_at "side"))
  | ((with_reducible refine' evd_tup ?a ?b); (case a => wtm_at "es"); (case b => exact Nat.le_of_ble_eq_true rfl))
  | ((with_reducible refine' evd_cb ?a cd_lenL); (case a => wtm_at "es"))
  | ((with_reducible refine' evd_cb ?a cd_lenT); (case a => wtm_at "es"))
  | ((with_reducible refine' evd_cb ?a cd_intB); (case a => wtm_at "es"))
  | ((with_reducible refine' evd_cb ?a cd_tupL); (case a => wtm_at "es"))
  | ((with_reducible refine' evd_and ?a ?b); (case a => wtm_at "ev"); (case b => intro _; wtm_at "ev"))
  | ((with_reducible refine' evd_or ?a ?b); (case a => wtm_at "ev"); (case b => intro _; wtm_at "ev"))
  | ((with_reducible refine' evd_not ?a); (case a => wtm_at "ev"))
  | ((with_reducible refine' evd_op ?a ?b rd_neIL); (case a => wtm_at "ev"); (case b => wtm_at "ev"))
  | ((with_reducible refine' evd_op ?a ?b rd_eqIL); (case a => wtm_at "ev"); (case b => wtm_at "ev"))
  | ((with_reducible refine' EvN.toD ?a); (case a => wtm_at "en")))
local macro_rules | `(tactic| wtm_at "en") => `(tactic| first
  | ((with_reducible refine' evn_cb ?a cn_sortTI); (case a => wtm_at "es"))
  | ((with_reducible refine' evn_cb ?a cn_listL); (case a => wtm_at "es"))
  | ((with_reducible refine' evn_cb ?a cn_listT); (case a => wtm_at "es"))
  | ((with_reducible refine' evn_rng ?a ?b); (case a => wtm_at "ev"); (case b => wtm_at "side"))
  | ((with_reducible refine' evn_lst ?a ?b); (case a => wtm_at "es"); (case b => exact Nat.le_of_ble_eq_true rfl))
  | ((with_reducible refine' evn_cat ?a ?b ?c); (case a => wtm_at "ev"); (case b => wtm_at "ev"); (case c => wtm_at "side"))
  | ((with_reducible refine' evn_slL ?a ?b ?c); (case a => wtm_at "ev"); (case b => first | exact evp_none | (refine' evp_some ?d; (case d => wtm_at "ev"))); (case c => first | exact evp_none | (refine' evp_some ?d; (case d => wtm_at "ev")))))
local macro_rules | `(tactic| wtm_at "et") => `(tactic| first
  | exact et_yes
  | (refine' ett ?a; (case a => wtm_at "ev"))
  | (refine' etB ?a; (case a => wtm_at "ev"))
  | (refine' et_and ?a ?b; (case a => wtm_at "et"); (case b => intro _; wtm_at "et"))
  | (refine' et_or ?a ?b; (case a => wtm_at "et"); (case b => intro _; wtm_at "et"))
  | (refine' et_not ?a; (case a => wtm_at "et")))
local macro_rules | `(tactic| wtm_at "nx") => `(tactic| try dsimp only [tSeq, tNext])
/-! ### every order is gone through; a dict's keys -/
theorem extAll_mem {m : Int} : ∀ {s r : List Int}, (r ++ s).Nodup → (∀ x ∈ s, 0 ≤ x ∧ x < m) → r ++ s ∈ extAll m s.length r
  | [], r, _, _ => by
    rw [List.append_nil]
    exact List.mem_singleton.mpr rfl
  | t :: s, r, n, h => by
    have e : r ++ t :: s = (r ++ [t]) ++ s := by rw [List.append_assoc]; rfl
    have ih := extAll_mem (m := m) (s := s) (r := r ++ [t]) (by rw [← e]; exact n) fun x hx => h x (List.mem_cons_of_mem _ hx)
    rw [e]
    refine List.mem_flatten.mpr ⟨_, List.mem_map.mpr ⟨r ++ [t], ?_, rfl⟩, ih⟩
    unfold extRow
    refine List.mem_map.mpr ⟨t, ?_, rfl⟩
    rw [List.mem_filter, mem_rgI]
    have ht := h t List.mem_cons_self
    refine ⟨by omega, ?_⟩
    have : t ∉ r := fun z => (List.nodup_append.mp n).2.2 t z t List.mem_cons_self rfl
    simpa using this
theorem rowsF_mem {m : Int} {v : List Int} (h : isOrd m v) : v ∈ rowsF m m.toNat := by
  rw [rowsF_all]
  have := extAll_mem (m := m) (s := v) (r := []) (by simpa using h.nodup) fun x hx => h.mem.mp hx
  rwa [List.nil_append, h.len] at this
theorem putK_keys {κ : Type} [DecidableEq κ] {kvs : List (κ × V)} {k : κ} {v : V} (n : (kvs.map (·.1)).Nodup) : ((putK kvs k v).map (·.1)).Nodup := by
  unfold putK
  by_cases a : (kvs.any fun kv => decide (kv.1 = k)) = true
  · rw [if_pos a, List.map_map]
    have : ((·.1) ∘ fun kv : κ × V => if kv.1 = k then (kv.1, v) else kv) = fun kv : κ × V => kv.1 := by
      funext kv
      show (if kv.1 = k then (kv.1, v) else kv).1 = kv.1
      split <;> rfl
    rw [this]
    exact n
  · rw [if_neg a, List.map_append, List.nodup_append]
    refine ⟨n, by simp, fun x hx y hy e => ?_⟩
    have hy : y = k := by simpa using hy
    obtain ⟨kv, h1, h2⟩ := List.mem_map.mp hx
    exact a (List.any_eq_true.mpr ⟨kv, h1, decide_eq_true (by rw [h2, e, hy])⟩)
theorem putK_mem {κ : Type} [DecidableEq κ] {kvs : List (κ × V)} {k : κ} {v : V} {p : κ × V} (h : p ∈ putK kvs k v) : p ∈ kvs ∨ p = (k, v) := by
  unfold putK at h
  by_cases a : (kvs.any fun kv => decide (kv.1 = k)) = true
  · rw [if_pos a] at h
    obtain ⟨q, hq, rfl⟩ := List.mem_map.mp h
    by_cases e : q.1 = k
    · rw [if_pos e, e]
      exact .inr rfl
    · rw [if_neg e]
      exact .inl hq
  · rw [if_neg a] at h
    rcases List.mem_append.mp h with h | h
    · exact .inl h
    · exact .inr (List.mem_singleton.mp h)
/-! ### what is neither a dict nor a locked one stays -/
def ndO (o : HO) : Prop := (∀ kvs, o ≠ .dT kvs) ∧ ∀ ob kvs, o ≠ .frz ob (.dT kvs)
def KL (H H' : Hp) : Prop := ∀ a o, ndO o → H a = some o → H' a = some o
theorem KL.refl (H : Hp) : KL H H := fun _ _ _ h => h
theorem KL.trans {H H1 H2 : Hp} (a : KL H H1) (b : KL H1 H2) : KL H H2 := fun x o n h => b x o n (a x o n h)
theorem KL.of {H H' : Hp} (e : Ex H H') : KL H H' := fun a o _ h => e a o h
theorem nd_lst (xs : List V) : ndO (.lst xs) := ⟨(fun _ h => nomatch h), (fun _ _ h => nomatch h)⟩
theorem nd_tup (xs : List V) : ndO (.tup xs) := ⟨(fun _ h => nomatch h), (fun _ _ h => nomatch h)⟩
theorem nd_ftup (ob : Obj) (xs : List V) : ndO (.frz ob (.tup xs)) := ⟨(fun _ h => nomatch h), (fun _ _ h => nomatch h)⟩
theorem KL.upd {H : Hp} {d : Addr} {u o : HO} (h : H d = some u) (n : ¬ ndO u) : KL H (L2.upd H d o) := fun a x nx e => by
  rw [upd_ne (fun z => by rw [z, h] at e; cases e; exact n nx)]
  exact e
theorem not_dT (kvs : List (List Key × V)) : ¬ ndO (.dT kvs) := fun h => h.1 kvs rfl
theorem not_fdT (ob : Obj) (kvs : List (List Key × V)) : ¬ ndO (.frz ob (.dT kvs)) := fun h => h.2 ob kvs rfl
mutual
theorem Rp.kl {H H' : Hp} (e : KL H H') : ∀ {d : PyData} {v : V}, Rp H d v → Rp H' d v
  | .none, _, h => h
  | .bool _, _, h => h
  | .int _, _, h => h
  | .str _, _, h => h
  | .list _, _, h => by
    obtain ⟨a, xs, e1, e2, e3⟩ := h
    exact ⟨a, xs, e1, e a _ (nd_lst _) e2, RpA.kl e e3⟩
  | .tuple _, _, h => by
    obtain ⟨a, xs, o, e1, e2, e4, e3⟩ := h
    exact ⟨a, xs, o, e1, e a _ (nd_ftup _ _) e2, e4, RpA.kl e e3⟩
  | .dict _, _, h => h
theorem RpA.kl {H H' : Hp} (e : KL H H') : ∀ {ds : List PyData} {vs : List V}, RpA H ds vs → RpA H' ds vs
  | [], _, h => h
  | _ :: _, _, h => by
    obtain ⟨v, r, e1, e2, e3⟩ := h
    exact ⟨v, r, e1, Rp.kl e e2, RpA.kl e e3⟩
end
theorem NL.kl {H0 H1 H2 : Hp} {ds : List PyData} {v : V} (h : NL H0 H1 ds v) (e : KL H1 H2) : NL H0 H2 ds v := by
  obtain ⟨a, vs, e1, n, k1, k2⟩ := h
  exact ⟨a, vs, e1, n, e _ _ (nd_lst _) k1, k2.kl e⟩
def keyV (l : List Int) : List Key := l.map Sum.inl
theorem keyV_kV (l : List Int) : (keyV l).map kV = l.map V.int := by
  unfold keyV
  rw [List.map_map]
  rfl
theorem keyV_inj {a b : List Int} (h : keyV a = keyV b) : a = b := by
  unfold keyV at h
  induction a generalizing b with
  | nil =>
    cases b with
    | nil => rfl
    | cons y b => cases h
  | cons x a ih =>
    cases b with
    | nil => cases h
    | cons y b =>
      rw [List.map_cons, List.map_cons, List.cons.injEq] at h
      rw [Sum.inl.inj h.1, ih h.2]
/-- entries of a dict of rows of leads of k voters -/
structure RowsOk (m : Int) (k : Nat) (H0 H : Hp) (kvs : List (List Key × V)) : Prop where
  nd : (kvs.map (·.1)).Nodup
  ent : ∀ p ∈ kvs, ∃ vs, isVot m vs ∧ vs.length = k ∧ p.1 = keyV (ldV m vs) ∧ NL H0 H (vs.map iD) p.2
theorem RowsOk.kl {m : Int} {k : Nat} {H0 H1 H2 : Hp} {kvs : List (List Key × V)} (h : RowsOk m k H0 H1 kvs) (e : KL H1 H2) : RowsOk m k H0 H2 kvs := ⟨h.nd, fun p hp => by
  obtain ⟨vs, a, b, c, d⟩ := h.ent p hp
  exact ⟨vs, a, b, c, d.kl e⟩⟩
theorem RowsOk.put {m : Int} {k : Nat} {H0 H : Hp} {kvs : List (List Key × V)} (h : RowsOk m k H0 H kvs) {vs : List (List Int)} {v : V} (hv : isVot m vs) (hl : vs.length = k) (hn : NL H0 H (vs.map iD) v) : RowsOk m k H0 H (putK kvs (keyV (ldV m vs)) v) := ⟨putK_keys h.nd, fun p hp => by
  rcases putK_mem hp with hp | rfl
  · exact h.ent p hp
  · exact ⟨vs, hv, hl, rfl, hn⟩⟩
theorem RowsOk.few {m : Int} (hm : 0 ≤ m ∧ m ≤ 4) {k : Nat} (hk : k ≤ 12) {H0 H : Hp} {kvs : List (List Key × V)} (h : RowsOk m k H0 H kvs) : kvs.length < sizeLine := by
  have hd := prs_len4 hm
  have e : ∃ rs : List (List Int), kvs.map (·.1) = rs.map keyV ∧ ∀ r ∈ rs, r.length = (prs m 0).length ∧ rowOk k r := by
    have ent := h.ent
    clear h
    induction kvs with
    | nil => exact ⟨[], rfl, fun r hr => by simp at hr⟩
    | cons p kvs ih =>
      obtain ⟨rs, h1, h2⟩ := ih fun q hq => ent q (List.mem_cons_of_mem _ hq)
      obtain ⟨vs, a, b, c, d⟩ := ent p List.mem_cons_self
      refine ⟨ldV m vs :: rs, by rw [List.map_cons, List.map_cons, h1, c], fun r hr => ?_⟩
      rcases List.mem_cons.mp hr with rfl | hr
      · exact ⟨ldV_len m vs, by rw [← b]; exact ldV_ok m vs⟩
      · exact h2 r hr
  obtain ⟨rs, h1, h2⟩ := e
  have nd := h.nd
  rw [h1] at nd
  have l := rows_few (nodup_of_map nd) h2
  have e2 : kvs.length = rs.length := by
    have := congrArg List.length h1
    rwa [List.length_map, List.length_map] at this
  rw [e2, sizeLine_eq]
  have b1 : (k + 1) ^ (prs m 0).length ≤ 13 ^ (prs m 0).length := Nat.pow_le_pow_left (by omega) _
  have b2 : 13 ^ (prs m 0).length ≤ 13 ^ 6 := Nat.pow_le_pow_right (by decide) hd
  have b3 : (13 : Nat) ^ 6 = 4826809 := by decide
  omega
end Bm

namespace Bm
open PySem PySem.Spec PyProof.Rows L2 Evl
local macro_rules | `(tactic| wtm_at "rp") => `(tactic| first | exact rp_int | exact rp_bl | exact rp_str | exact rp_non | assumption | (refine' Rp.ex ?e ?h; (case h => assumption); (case e => assumption)) | exact Own.rp (by assumption))
local macro_rules | `(tactic| wtm_at "side") => `(tactic| first | assumption | omega | decide | rfl | exact ⟨by omega, by omega⟩)
local macro_rules | `(tactic| wtm_at "es") => `(tactic| first | exact evs_nil | (refine' evs_cons ?a ?b; (case a => wtm_at "ev"); (case b => wtm_at "es")))
local macro_rules | `(tactic| wtm_at "ev") => `(tactic| first
  | exact evd_int | exact evd_str | exact evd_bl | exact evd_non
  | (refine' evd_var rfl ?h; (case h => wtm_at "rp"))
  | ((with_reducible refine' evd_op ?a ?b rd_addI); (case a => wtm_at "ev"); (case b => wtm_at "ev"))
  | ((with_reducible refine' evd_op ?a ?b rd_subI); (case a => wtm_at "ev"); (case b => wtm_at "ev"))
  | ((with_reducible refine' evd_op ?a ?b (rd_mulI ?c)); (case a => wtm_at "ev"); (case b => wtm_at "ev"); (case c => wtm_at "side"))
  | ((with_reducible refine' evd_op ?a ?b (rd_divI ?c)); (case a => wtm_at "ev"); (case b => wtm_at "ev"); (case c => wtm_at "side"))
  | ((with_reducible refine' evd_op ?a ?b (rd_modI ?c)); (case a => wtm_at "ev"); (case b => wtm_at "ev"); (case c => wtm_at "side"))
  | ((with_reducible refine' evd_op ?a ?b rd_ltI); (case a => wtm_at "ev"); (case b => wtm_at "ev"))
  | ((with_reducible refine' evd_op ?a ?b rd_leI); (case a => wtm_at "ev"); (case b => wtm_at "ev"))
  | ((with_reducible refine' evd_op ?a ?b rd_gtI); (case a => wtm_at "ev"); (case b => wtm_at "ev"))
  | ((with_reducible refine' evd_op ?a ?b rd_geI); (case a => wtm_at "ev"); (case b => wtm_at "ev"))
  | ((with_reducible refine' evd_op ?a ?b rd_eqI); (case a => wtm_at "ev"); (case b => wtm_at "ev"))
  | ((with_reducible refine' evd_op ?a ?b rd_neI); (case a => wtm_at "ev"); (case b => wtm_at "ev"))
  | ((with_reducible refine' evd_op ?a ?b rd_eqB); (case a => wtm_at "ev"); (case b => wtm_at "ev"))
  | ((with_reducible refine' evd_op ?a ?b rd_neB); (case a => wtm_at "ev"); (case b => wtm_at "ev"))
  | ((with_reducible refine' evd_op ?a ?b rd_isNo); (case a => wtm_at "ev"); (case b => wtm_at "ev"))
  | ((with_reducible refine' evd_op ?a ?b rd_notNo); (case a => wtm_at "ev"); (case b => wtm_at "ev"))
  | ((with_reducible refine' evd_op ?a ?b rd_inIL); (case a => wtm_at "ev"); (case b => wtm_at "ev"))
  | ((with_reducible refine' evd_op ?a ?b rd_niIL); (case a => wtm_at "ev"); (case b => wtm_at "ev"))
  | ((with_reducible refine' evd_op ?a ?b rd_inID); (case a => wtm_at "ev"); (case b => wtm_at "ev"))
  | ((with_reducible refine' evd_op ?a ?b rd_niID); (case a => wtm_at "ev"); (case b => wtm_at "ev"))
  | ((with_reducible refine' evd_neg ?a); (case a => wtm_at "ev"))
  | ((with_reducible refine' evd_tix ?a ?b ?c); (case a => wtm_at "ev"); (case b => wtm_at "ev"); (case c => wtm_at "side"))
  | ((with_reducible refine' evd_tup ?a ?b); (case a => wtm_at "es"); (case b => exact Nat.le_of_ble_eq_true rfl))
  | ((with_reducible refine' evd_cb ?a cd_lenL); (case a => wtm_at "es"))
  | ((with_reducible refine' evd_cb ?a cd_lenT); (case a => wtm_at "es"))
  | ((with_reducible refine' evd_cb ?a cd_intB); (case a => wtm_at "es"))
  | ((with_reducible refine' evd_cb ?a cd_tupL); (case a => wtm_at "es"))
  | ((with_reducible refine' evd_and ?a ?b); (case a => wtm_at "ev"); (case b => intro _; wtm_at "ev"))
  | ((with_reducible refine' evd_or ?a ?b); (case a => wtm_at "ev"); (case b => intro _; wtm_at "ev"))
  | ((with_reducible refine' evd_not ?a); (case a => wtm_at "ev"))
  | ((with_reducible refine' evd_op ?a ?b rd_neIL); (case a => wtm_at "ev"); (case b => wtm_at "ev"))
  | ((with_reducible refine' evd_op ?a ?b rd_eqIL); (case a => wtm_at "ev"); (case b => wtm_at "ev"))
  | ((with_reducible refine' EvN.toD ?a); (case a => wtm_at "en")))
local macro_rules | `(tactic| wtm_at "en") => `(tactic| first
  | ((with_reducible refine' evn_cb ?a cn_sortTI); (case a => wtm_at "es"))
  | ((with_reducible refine' evn_cb ?a cn_listL); (case a => wtm_at "es"))
  | ((with_reducible refine' evn_cb ?a cn_listT); (case a => wtm_at "es"))
  | ((with_reducible refine' evn_rng ?a ?b); (case a => wtm_at "ev"); (case b => wtm_at "side"))
  | ((with_reducible refine' evn_lst ?a ?b); (case a => wtm_at "es"); (case b => exact Nat.le_of_ble_eq_true rfl))
  | ((with_reducible refine' evn_cat ?a ?b ?c); (case a => wtm_at "ev"); (case b => wtm_at "ev"); (case c => wtm_at "side"))
  | ((with_reducible refine' evn_slL ?a ?b ?c); (case a => wtm_at "ev"); (case b => first | exact evp_none | (refine' evp_some ?d; (case d => wtm_at "ev"))); (case c => first | exact evp_none | (refine' evp_some ?d; (case d => wtm_at "ev")))))
local macro_rules | `(tactic| wtm_at "et") => `(tactic| first
  | exact et_yes
  | (refine' ett ?a; (case a => wtm_at "ev"))
  | (refine' etB ?a; (case a => wtm_at "ev"))
  | (refine' et_and ?a ?b; (case a => wtm_at "et"); (case b => intro _; wtm_at "et"))
  | (refine' et_or ?a ?b; (case a => wtm_at "et"); (case b => intro _; wtm_at "et"))
  | (refine' et_not ?a; (case a => wtm_at "et")))
local macro_rules | `(tactic| wtm_at "nx") => `(tactic| try dsimp only [tSeq, tNext])
/-! ### fewest -/
def fewP (m : Int) (ps : List (Int × Int)) : List PyData → Prop := fun ds => ∃ vs : List (List Int), ds = vs.map iD ∧ isVot m vs ∧ makesP m ps vs ∧ ∀ ws, isVot m ws → makesP m ps ws → vs.length ≤ ws.length
def sp_fewest (C1 C3 C4 : Addr) : Sp := spO (α := Int × List (Int × Int)) (fun a => [.int a.1, wD a.2]) (fun a => a.2.length ≤ 1000) fun a => chkW C1 C3 a.1 a.2 (if 4 < a.1 then .exc C4 else .some (fewP a.1 a.2))
theorem len_fewest {C_BadCount : Addr} {C_BadWeb : Addr} {C_TooMany : Addr} (vs : List V) (H : Hp) (Q : VK) (E : XK) (h : (sp_fewest C_BadCount C_BadWeb C_TooMany) vs H Q E) : vs.length = 2 := by
  unfold sp_fewest at h
  obtain ⟨a, r, _⟩ := h
  rw [r.len]
  rfl
def sgD (m : Int) (v : List Int) : PyData := .tuple [iD v, iD (sgnV m v)]
def Compl (m : Int) (k : Nat) (kvs : List (List Key × V)) : Prop := ∀ vs, isVot m vs → vs.length = k → ∃ v, (keyV (ldV m vs), v) ∈ kvs
theorem valV_some_mem {κ : Type} [DecidableEq κ] {k : κ} {v : V} {kvs : List (κ × V)} (h : valV kvs k = some v) : (k, v) ∈ kvs := by
  unfold valV at h
  obtain ⟨p, hp, rfl⟩ := Option.map_eq_some_iff.mp h
  have h1 := List.mem_of_find?_eq_some hp
  have h2 := List.find?_some hp
  have e : p.1 = k := by simpa using h2
  rw [← e]
  exact h1
section
variable {P : Program} {w : World} {K : PySem.W.Frag} {mg : Str → Option Value} {base : Heap}
theorem ok_fewest {f : Addr} {fd : FuncData} (D : Df K mg "fewest" s_fewest ["many", "web"] f fd) (Bi : Bi mg) {C_TooMany : Addr} (X_TooMany : Xc K mg "TooMany" C_TooMany) {t_MOST_SEARCHED : Tok} (K_MOST_SEARCHED : mg "MOST_SEARCHED" = some (.int 4 t_MOST_SEARCHED)) {f_look_at_web : Addr} {fd_look_at_web : FuncData} (D_look_at_web : Df K mg "look_at_web" s_look_at_web ["many", "web"] f_look_at_web fd_look_at_web) (G_look_at_web : FnOk P w K mg base (L2.CX P w) 2 f_look_at_web fd_look_at_web ["many", "web"] (sp_look_at_web C_BadCount C_BadWeb)) {f_wished_signs : Addr} {fd_wished_signs : FuncData} (D_wished_signs : Df K mg "wished_signs" s_wished_signs ["many", "web"] f_wished_signs fd_wished_signs) (G_wished_signs : FnOk P w K mg base CX0 1 f_wished_signs fd_wished_signs ["many", "web"] sp_wished_signs) {f_orders_of : Addr} {fd_orders_of : FuncData} (D_orders_of : Df K mg "orders_of" s_orders_of ["many"] f_orders_of fd_orders_of) (G_orders_of : FnOk P w K mg base CX0 1 f_orders_of fd_orders_of ["many"] sp_orders_of) {f_signs_of : Addr} {fd_signs_of : FuncData} (D_signs_of : Df K mg "signs_of" s_signs_of ["many", "voter"] f_signs_of fd_signs_of) (G_signs_of : FnOk P w K mg base CX0 1 f_signs_of fd_signs_of ["many", "voter"] sp_signs_of) {f_sign_of : Addr} {fd_sign_of : FuncData} (D_sign_of : Df K mg "sign_of" s_sign_of ["number"] f_sign_of fd_sign_of) (G_sign_of : FnOk P w K mg base CX0 1 f_sign_of fd_sign_of ["number"] sp_sign_of) {f_added : Addr} {fd_added : FuncData} (D_added : Df K mg "added" s_added ["one", "other"] f_added fd_added) (G_added : FnOk P w K mg base CX0 1 f_added fd_added ["one", "other"] sp_added) : FnOk P w K mg base (L2.CX P w) 3 f fd ["many", "web"] (sp_fewest C_BadCount C_BadWeb C_TooMany) := by
  refine D.F.okX c_fewest (fun vs H Q E h => len_fewest _ _ _ _ h) (fun cdv A outer s H vs Q E hr h => ?_)
  refine ⟨_, (pss_cons (ps_expr (pe_callS G_look_at_web (hr.mono (by decide)) (by rfl) D_look_at_web.g D_look_at_web.F.kp D_look_at_web.b (fun σ => passAt (takes_of rfl rfl rfl rfl) σ) (pa_cons (pv 0) (pa_cons (pv 1) pa_nil))))
      (pss_cons (ps_if (pt_cmpR op_gtI (pv 0) (pe_glob (v := .int 4) (by rfl) K_MOST_SEARCHED ⟨_, rfl⟩) (nomark _))
      (pss_one (ps_raise rfl (takes_of rfl rfl rfl rfl) (pmk_own PySem.F.excBase_ValueError X_TooMany.x X_TooMany.g X_TooMany.k (raises_own X_TooMany.b X_TooMany.t) (by exact rfl))))
      pss_nil)
      (pss_cons (ps_set (i := 2) c_fewest.nd rfl (.inl rfl) (pe_call G_wished_signs (hr.mono (by decide)) (by rfl) D_wished_signs.g D_wished_signs.F.kp D_wished_signs.b .nil pass0 (pa_cons (pv 0) (pa_cons (pv 1) pa_nil))))
      (pss_cons (ps_setLc (i := 3) (own := [("voter", 7)]) (g := (gName 7)) (tt := tYes) rfl c_fewest.nd rfl rfl (sw_true rfl rfl rfl (by decide +kernel)) (pi_listK (K := K) (pe_call G_orders_of (hr.mono (by decide)) (by rfl) D_orders_of.g D_orders_of.F.kp D_orders_of.b .nil pass0 (pa_cons (pv 0) pa_nil))) (blkOk_by (own := [("voter", 7)]) (N := ["many", "web", "wished", "single", "rows", "leads", "longer", "voter", "signs", "number"]) (sc := defScope s_fewest) (by decide +kernel)) (fun _ _ _ _ _ => (pg_name (i := 7) c_fewest.nd rfl (.inl rfl))) (fun _ _ _ _ _ => pts_nil) (fun _ _ _ _ _ => (pe_tupF (pa_cons (pv 7) (pa_cons (pe_call G_signs_of (hr.mono (by decide)) (by rfl) D_signs_of.g D_signs_of.F.kp D_signs_of.b .nil pass0 (pa_cons (pv 0) (pa_cons (pv 7) pa_nil))) pa_nil)))))
      (pss_cons (ps_set (i := 4) c_fewest.nd rfl (.inl rfl) (pe_dispT (hu_of0 hr) (pe_callTy (cr_tupPK (K := K)) (by rfl) Bi.tuple (by decide +kernel) (pa_cons (pe_op op_rep (pe_lst (pa_cons pe_int pa_nil)) (pe_callB (cr_lenK (K := K)) (by rfl) Bi.len (by decide +kernel) (pa_cons (pv 2) pa_nil))) pa_nil)) (pe_lst pa_nil)))
      (pss_one (ps_while (passes_of rfl) (pt_val pe_bl)
      (pss_cons (ps_lock (ps_for (passes_of rfl) rfl (pi_keys (pv 4)) (pg_name (i := 5) c_fewest.nd rfl (.inl rfl))
      (pss_one (ps_if (pt_cmpR (op_eqDK (K := K) hr.units) (pe_lc (own := [("number", 9)]) (g := (gName 9)) (tt := tYes) rfl c_fewest.nd (pi_tupK (K := K) (pv 5)) (blkOk_by (own := [("number", 9)]) (N := ["many", "web", "wished", "single", "rows", "leads", "longer", "voter", "signs", "number"]) (sc := defScope s_fewest) (by decide +kernel)) (fun _ _ _ _ _ => (pg_name (i := 9) c_fewest.nd rfl (.inl rfl))) (fun _ _ _ _ _ => pts_nil) (fun _ _ _ _ _ => (pe_call G_sign_of (hr.mono (by decide)) (by rfl) D_sign_of.g D_sign_of.F.kp D_sign_of.b .nil pass0 (pa_cons (pv 9) pa_nil)))) (pv 2) (nomark _))
      (pss_one (ps_ret (pe_callTy (cr_listK (K := K)) (by rfl) Bi.list (by decide +kernel) (pa_cons (pe_dget (hu_of hr) (pv 4) (pv 5) (fun _ _ => rfl)) pa_nil))))
      pss_nil))))
      (pss_cons (ps_set (i := 6) c_fewest.nd rfl (.inl rfl) (pe_dnewT))
      (pss_cons (ps_lock (ps_for (passes_of rfl) rfl (pi_keys (pv 4)) (pg_name (i := 5) c_fewest.nd rfl (.inl rfl))
      (pss_one (ps_for (passes_of rfl) rfl (pi_listK (K := K) (pv 3)) (pg_tupK (K := K) rfl (pgs_cons (pg_name (i := 7) c_fewest.nd rfl (.inl rfl)) (pgs_cons (pg_name (i := 8) c_fewest.nd rfl (.inl rfl)) pgs_nil)))
      (pss_one (ps_dput (hu_of hr) (pv 6) (pe_call G_added (hr.mono (by decide)) (by rfl) D_added.g D_added.F.kp D_added.b .nil pass0 (pa_cons (pv 5) (pa_cons (pv 8) pa_nil))) (pe_op op_cat (pe_dget (hu_of hr) (pv 4) (pv 5) (fun _ _ => rfl)) (pe_lst (pa_cons (pv 7) pa_nil))) rfl))))))
      (pss_one (ps_set (i := 4) c_fewest.nd rfl (.inl rfl) (pv 6))))))))))))), ?_⟩
  obtain ⟨⟨m, ps⟩, ⟨v1, _, rfl, rfl, v2, _, rfl, hw, rfl⟩, hl, q⟩ := h
  dsimp only at q hw hl
  refine s_callX (m, ps) ?a hl fun H1 e1 => chkW_go q e1 fun h1 h2 q H2 e2 => ?_
  case a => wtm_at "es"
  wtm_at "nx"
  have hm : 1 ≤ m ∧ m ≤ 6 := h1
  have e12 := e1.trans e2
  refine' s_if (b := decide (4 < m)) ?t1 ?y1 ?n1
  case t1 => wtm_at "et"
  case y1 =>
    intro hb H3 e3
    rw [if_pos (by simpa using hb)] at q
    exact q H3 (e12.trans e3)
  case n1 =>
  intro hb H3 e3
  wtm_at "nx"
  have hm4 : ¬ 4 < m := by simpa using hb
  rw [if_neg hm4] at q
  have hm4 : 0 ≤ m ∧ m ≤ 4 := by omega
  have hm6 : 0 ≤ m ∧ m ≤ 6 := by omega
  have hpl := prs_len4 hm4
  have hpsl : ps.length ≤ 6 := isWeb_len4 hm4 h2
  have e13 := e12.trans e3
  have hw3 := hw.ex e13
  refine' s_asgNw (ev_wished_signs (m := m) (ps := ps) (evd_var rfl rp_int) (evd_var rfl hw3) hm6) fun p4 vs4 H4 n4 e4 k1 k2 => ?_
  wtm_at "nx"
  have hwi : Rp H4 (iL (wishV m ps)) (.ref p4) := ⟨p4, vs4, rfl, k1, k2⟩
  have hrl : (rowsF m m.toNat).length ≤ 46656 := Nat.le_trans (rowsF_len hm6.2 _) (Nat.pow_le_pow_right (by decide) (by omega : m.toNat ≤ 6))
  refine' s_asgD (d := .list ((rowsF m m.toNat).map (sgD m))) ((EvN.toD (ds := ((rowsF m m.toNat).filter fun _ => true).map (sgD m)) ?x).is (by rw [List.filter_eq_self.mpr (fun _ _ => rfl)])) fun vsg H5 e5 hsg => ?_
  case x =>
    refine' evn_lcL (f := iD) (xs := rowsF m m.toNat) (fun _ => true) (sgD m) (EvN.toD (ev_orders_of (m := m) (evd_var rfl rp_int) hm6)) (by omega) ?tn fun x _ _ => ?_
    · intro x v H6 hx e6 r
      exact ⟨_, fun Q hq => hq, rfl, et_yes, fun _ => evd_tup (ds := [iD x, iD (sgnV m x)]) (evs_cons (evd_var rfl r) (evs_cons (ev_signs_of (m := m) (evd_var rfl rp_int) (evd_var rfl r) hm6 (rowsF_ord hx)) evs_nil)) (Nat.le_of_ble_eq_true rfl)⟩
    · show imm (.tuple [iD x, iD (sgnV m x)]) = true
      simp only [imm, immA, imm_ints, Bool.and_self]
  wtm_at "nx"
  have hwi5 := hwi.ex e5
  have eH5 := (e13.trans e4).trans e5
  -- rows
  refine fun pr hpr => ?_
  have exr : Ex H5 (upd H5 pr (.dT [])) := Ex.new hpr
  refine evp_tup (ns := List.replicate (prs m 0).length 0) (h := ?z0) _ (Ex.refl _) _ fun pk H6 hpk e6 hk6 => ?_
  case z0 =>
    have hln : ((wishV m ps).map PyData.int).length = (prs m 0).length := by
      unfold wishV
      rw [List.length_map, List.length_map]
    have l1 : EvD (tCB (rLenS K) (tCons (tVar 2) tNil)) [some (V.int m), some v2, some (.ref p4), some vsg, none, none, none, none, none, none] (upd H5 pr (.dT [])) (.int ((wishV m ps).map PyData.int).length) := evd_cb (evs_cons (evd_var rfl (hwi5.ex exr)) evs_nil) cd_lenL
    rw [hln] at l1
    have z := EvN.toD (evn_rep (ds := [.int 0]) (k := (((prs m 0).length : Nat) : Int)) (EvN.toD (evn_lst (evs_cons evd_int evs_nil) (by decide))) l1 (by omega) (by decide))
    refine z.is ?_
    have : ∀ n : Nat, (List.replicate n [PyData.int 0]).flatten = (List.replicate n (0 : Int)).map PyData.int := fun n => by
      induction n with
      | zero => rfl
      | succ n ih => rw [List.replicate_succ, List.flatten_cons, ih, List.replicate_succ]; rfl
    rw [Int.toNat_natCast, this]
  refine evn_lst evs_nil (by decide) H6 (Ex.refl _) _ fun pe vse H7 npe e7 k7 r7 => ?_
  have hk7 := e7 _ _ hk6
  refine ⟨keyV (List.replicate (prs m 0).length 0), pk, rfl, by rw [keyV_kV]; exact hk7, (e6.trans e7) _ _ upd_same, ?_⟩
  wtm_at "nx"
  generalize hH8 : upd H7 pr (.dT [(keyV (List.replicate (prs m 0).length 0), V.ref pe)]) = H8
  have hpr7 : H7 pr = some (.dT []) := (e6.trans e7) _ _ upd_same
  have kl78 : KL H7 H8 := by rw [← hH8]; exact KL.upd hpr7 (not_dT _)
  have ex58 : Ex H5 H8 := by
    rw [← hH8]
    exact Ex.mut ((exr.trans e6).trans e7) hpr
  have npe5 : H5 pe = none := by
    have := fresh_back (e6) npe
    exact fresh_back exr this
  have rows0 : RowsOk m 0 H H8 [(keyV (List.replicate (prs m 0).length 0), V.ref pe)] := ⟨by simp, fun p hp => by
    have e : p = (keyV (List.replicate (prs m 0).length 0), V.ref pe) := by simpa using hp
    rw [e]
    refine ⟨[], (fun v hv => by simp at hv), rfl, (by rw [ldV_nil]), pe, vse, rfl, fresh_back eH5 npe5, kl78 _ _ (nd_lst _) k7, r7.kl kl78⟩⟩
  have compl0 : Compl m 0 [(keyV (List.replicate (prs m 0).length 0), V.ref pe)] := fun vs _ hl => by
    rw [List.eq_nil_of_length_eq_zero hl, ldV_nil]
    exact ⟨_, List.mem_cons_self⟩
  obtain ⟨dv, dmk, dl⟩ := due_makes hm h2
  have prH : H pr = none := fresh_back eH5 hpr
  refine' s_while (fun k' σ' H' => ∃ (k : Nat) (kvs : List (List Key × V)) (pr : Addr) (y5 y6 y7 y8 : Option V), σ' = [some (.int m), some v2, some (.ref p4), some vsg, some (.ref pr), y5, y6, y7, y8, none] ∧ Ex H5 H' ∧ H5 pr = none ∧ H' pr = some (.dT kvs) ∧ RowsOk m k H H' kvs ∧ Compl m k kvs ∧
    (∀ ws, isVot m ws → makesP m ps ws → k ≤ ws.length) ∧ k' + k = 2 * ps.length) (2 * ps.length) ⟨0, _, pr, none, none, none, none, rfl, ex58, hpr, by rw [← hH8, upd_same], rows0, compl0, fun _ _ _ => Nat.zero_le _, rfl⟩ ?wl
  rintro k' σ' H' ⟨k, kvs, pr, y5, y6, y7, y8, rfl, ex, npr, hd, R, C, mn, hk⟩
  refine ⟨true, etB evd_bl, fun _ H9 e9 => ?_, fun z => by cases z⟩
  have hd9 := e9 _ _ hd
  have ex9 := ex.trans e9
  have R9 := R.kl (KL.of e9)
  refine ⟨fun σ2 H2 => ∃ k2, k2 < k' ∧ ∃ (k : Nat) (kvs : List (List Key × V)) (pr : Addr) (y5 y6 y7 y8 : Option V), σ2 = [some (.int m), some v2, some (.ref p4), some vsg, some (.ref pr), y5, y6, y7, y8, none] ∧ Ex H5 H2 ∧ H5 pr = none ∧ H2 pr = some (.dT kvs) ∧ RowsOk m k H H2 kvs ∧ Compl m k kvs ∧
    (∀ ws, isVot m ws → makesP m ps ws → k ≤ ws.length) ∧ k2 + k = 2 * ps.length, fun σ2 H2 ⟨k2, h, z⟩ => ⟨k2, h, z⟩, ?_⟩
  wtm_at "nx"
  refine s_forDT (i := 4) rfl hd9 (fun od j σ' H' => (∃ y5, σ' = [some (.int m), some v2, some (.ref p4), some vsg, some (.ref pr), y5, y6, y7, y8, none]) ∧ Ex H5 H' ∧ H' pr = some (.frz od (.dT kvs)) ∧ RowsOk m k H H' kvs ∧ ∀ (j' : Nat) p, j' < j → kvs[j']? = some p → ∀ vs, isVot m vs → p.1 = keyV (ldV m vs) → ¬ makesP m ps vs) ?_ ?_ ?_ ?_
  · exact fun od => ⟨⟨y5, rfl⟩, Ex.mut ex9 npr, upd_same, R9.kl (KL.upd hd9 (not_dT _)), fun j' p h => absurd h (Nat.not_lt_zero _)⟩
  · rintro od j σ' H' ⟨_, _, h, _⟩
    exact h
  · rintro od j key v qa σ' H' hj hq ⟨⟨y5, rfl⟩, ex', hd', R', hno⟩
    refine g_name ?_
    obtain ⟨vs, hv, hvl, hkey, hnl⟩ := R'.ent _ (List.mem_of_getElem? hj)
    dsimp only at hkey hnl
    rw [hkey, keyV_kV] at hq
    have hwi' : Rp H' (iL (wishV m ps)) (.ref p4) := hwi5.ex ex'
    have hll : (ldV m vs).length ≤ 6 := by rw [ldV_len]; exact hpl
    refine' s_if (b := decide ((ldV m vs).map sigF = wishV m ps)) ?t2 ?y2 ?n2
    case t2 =>
      refine ett (evd_op (x := iL ((ldV m vs).map sigF)) ((EvN.toD (evn_lcP (ns := ldV m vs) (fun x => .int (sigF x)) rfl hq (by omega) ?tn3 fun _ _ => rfl)).is (by unfold iL; rw [List.map_map]; rfl)) (evd_var rfl hwi') (rd_eqIL (a := (ldV m vs).map sigF) (b := wishV m ps)))
      intro x H10 hx e10
      exact ⟨_, fun Q hq => hq, rfl, et_yes, ev_sign_of (evd_var rfl rp_int)⟩
    case n2 =>
      intro hb2 H10 e10
      refine ⟨⟨_, rfl⟩, ex'.trans e10, e10 _ _ hd', R'.kl (KL.of e10), fun j' p hlt hp us hu hk2 => ?_⟩
      by_cases c : j' < j
      · exact hno j' p c hp us hu hk2
      · obtain rfl : j' = j := by omega
        rw [hj] at hp
        cases hp
        dsimp only at hk2
        have e : ldV m us = ldV m vs := keyV_inj (hk2.symm.trans hkey)
        unfold makesP
        rw [e]
        simpa using hb2
    case y2 =>
      intro hb2 H10 e10
      have hd10 := e10 _ _ hd'
      have hq10 := e10 _ _ hq
      have hmk0 : (ldV m vs).map sigF = wishV m ps := of_decide_eq_true hb2
      have hmk : makesP m ps vs := hmk0
      have hval : valV kvs key = some v := valV_mem R'.nd (List.mem_of_getElem? hj)
      obtain ⟨a, ws, rfl, na, ha, hra⟩ := hnl.kl (KL.of e10)
      refine ⟨.ref pr, rfl, .ref qa, rfl, pr, .ref a, rfl, .inr ⟨kvs, key, qa, .inr ⟨od, hd10⟩, rfl, by rw [hkey, keyV_kV]; exact hq10, hval.symm⟩, a, ws, rfl, .inl (SqL.of ha), fun pl hpl => ?_⟩
      have npl : pl ≠ pr := (ne_of_none hd10 hpl).symm
      refine ⟨by rw [upd_ne npl.symm]; exact hd10, ?_⟩
      have kl : KL H10 (upd (upd H10 pl (.lst ws)) pr (.dT kvs)) := (KL.of (Ex.new hpl)).trans (KL.upd (by rw [upd_ne npl.symm]; exact hd10) (not_fdT _ _))
      refine q (vs.map iD) ⟨vs, rfl, hv, hmk, fun us hu hus => by rw [hvl]; exact mn us hu hus⟩ pl ws _ ?_ ?_ ?_ (hra.kl kl)
      · exact fresh_back (eH5.trans (ex'.trans e10)) hpl
      · exact eH5.trans (Ex.mut ((ex'.trans e10).trans (Ex.new hpl)) npr)
      · rw [upd_ne npl, upd_same]
  · rintro od σ' H' ⟨⟨y5, rfl⟩, ex', hd', R', hno⟩
    wtm_at "nx"
    generalize hH10 : upd H' pr (.dT kvs) = H10
    have kl10 : KL H' H10 := by rw [← hH10]; exact KL.upd hd' (not_fdT _ _)
    have R10 := R'.kl kl10
    have ex10 : Ex H5 H10 := by rw [← hH10]; exact Ex.mut ex' npr
    have hd10 : H10 pr = some (.dT kvs) := by rw [← hH10, upd_same]
    -- none of k voters makes it
    have none_k : ∀ us, isVot m us → us.length = k → ¬ makesP m ps us := fun us hu hul => by
      obtain ⟨v, hmem⟩ := C us hu hul
      obtain ⟨i, hi⟩ := List.getElem?_of_mem hmem
      exact hno i _ (List.getElem?_eq_some_iff.mp hi).1 hi us hu rfl
    have hk2 : k ≠ 2 * ps.length := fun e => none_k _ dv (dl.trans e.symm) dmk
    have mn2 : ∀ ws, isVot m ws → makesP m ps ws → k + 1 ≤ ws.length := fun us hu hus => by
      have h1 := mn us hu hus
      have h2 : us.length ≠ k := fun e => none_k us hu e hus
      omega
    -- the longer rows
    refine fun pl hpl => ?_
    wtm_at "nx"
    have npl : pr ≠ pl := ne_of_none hd10 hpl
    have ex11 : Ex H5 (upd H10 pl (.dT [])) := ex10.trans (Ex.new hpl)
    have npl5 : H5 pl = none := fresh_back ex10 hpl
    have hd11 : (upd H10 pl (.dT [])) pr = some (.dT kvs) := by rw [upd_ne npl]; exact hd10
    have R11 : RowsOk m k H (upd H10 pl (.dT [])) kvs := R10.kl (KL.of (Ex.new hpl))
    refine s_forDT (i := 4) rfl hd11 (fun od j σ' H' => ∃ (kl : List (List Key × V)) (y5 y7 y8 : Option V), σ' = [some (.int m), some v2, some (.ref p4), some vsg, some (.ref pr), y5, some (.ref pl), y7, y8, none] ∧ Ex H5 H' ∧ H' pr = some (.frz od (.dT kvs)) ∧ H' pl = some (.dT kl) ∧ RowsOk m k H H' kvs ∧ RowsOk m (k + 1) H H' kl ∧
      ∀ (j' : Nat) p, j' < j → kvs[j']? = some p → ∀ vs, p.1 = keyV (ldV m vs) → ∀ x ∈ rowsF m m.toNat, (valV kl (keyV (ldV m (vs ++ [x])))).isSome = true) ?_ ?_ ?_ ?_
    · intro od
      have kk := KL.upd (o := .frz od (.dT kvs)) hd11 (not_dT _)
      exact ⟨[], _, _, _, rfl, Ex.mut ex11 npr, upd_same, by rw [upd_ne npl.symm, upd_same], R11.kl kk, ⟨by simp, fun p hp => by simp at hp⟩, fun j' p h => absurd h (Nat.not_lt_zero _)⟩
    · rintro od j σ' H' ⟨kl, y5, y7, y8, _, _, h, _⟩
      exact h
    · rintro od j key v qa σ' H' hj hq ⟨kl, y5, y7, y8, rfl, ex', hd', hdl, R', RL, hall⟩
      refine g_name ?_
      obtain ⟨vs, hv, hvl, hkey, hnl⟩ := R'.ent _ (List.mem_of_getElem? hj)
      dsimp only at hkey hnl
      rw [hkey, keyV_kV] at hq
      have hval : valV kvs key = some v := valV_mem R'.nd (List.mem_of_getElem? hj)
      have hkb : k + 1 ≤ 12 := by omega
      refine s_forB (f := sgD m) (xs := rowsF m m.toNat) (Hb := H5) rfl hsg ex' (fun i σ' H' => ∃ (kl : List (List Key × V)) (y7 y8 : Option V), σ' = [some (.int m), some v2, some (.ref p4), some vsg, some (.ref pr), some (.ref qa), some (.ref pl), y7, y8, none] ∧ Ex H5 H' ∧ H' pr = some (.frz od (.dT kvs)) ∧ H' pl = some (.dT kl) ∧ RowsOk m k H H' kvs ∧ RowsOk m (k + 1) H H' kl ∧ H' qa = some (.tup ((ldV m vs).map V.int)) ∧ NL H H' (vs.map iD) v ∧
        (∀ (j' : Nat) p, j' < j → kvs[j']? = some p → ∀ vs, p.1 = keyV (ldV m vs) → ∀ x ∈ rowsF m m.toNat, (valV kl (keyV (ldV m (vs ++ [x])))).isSome = true) ∧ ∀ x ∈ (rowsF m m.toNat).take i, (valV kl (keyV (ldV m (vs ++ [x])))).isSome = true) ?_ ?_ ?_ ?_
      · exact ⟨kl, _, _, rfl, ex', hd', hdl, R', RL, hq, hnl, hall, fun x hx => by simp at hx⟩
      · rintro i σ' H' ⟨_, _, _, _, e, _⟩
        exact e
      · rintro i x vx σ' H' hx hrx ⟨kl, y7, y8, rfl, ex', hd', hdl, R', RL, hq, hnl, hall, hall2⟩
        refine g_two hrx fun u1 u2 hu1 hu2 => ?_
        have hxo := rowsF_ord (List.mem_of_getElem? hx)
        have hcat : EvN (tOp rCat (tDGet (tVar 4) (tVar 5)) (tLst (tCons (tVar 7) tNil))) [some (V.int m), some v2, some (.ref p4), some vsg, some (.ref pr), some (.ref qa), some (.ref pl), some u1, some u2, none] H' ((vs ++ [x]).map iD) := by
          rw [List.map_append]
          refine evn_cat (ds := vs.map iD) (es := [iD x]) (fun H1 e Q q => ⟨.ref pr, rfl, .ref qa, rfl, pr, v, rfl, .inr ⟨kvs, key, qa, .inr ⟨od, e _ _ hd'⟩, rfl, by rw [hkey, keyV_kV]; exact e _ _ hq, hval.symm⟩, q v H1 (Ex.refl _) (hnl.ex e).rp⟩) (EvN.toD (evn_lst (evs_cons (evd_var rfl hu1) evs_nil) (Nat.le_of_ble_eq_true rfl))) ?_
          rw [List.length_map]
          show vs.length + 1 ≤ _
          omega
        refine hcat H' (Ex.refl _) _ fun pn ws H12 hpn e12' k1 k2 => ?_
        have hq12 := e12' _ _ hq
        refine ⟨.ref pl, rfl, .ref qa, rfl, u2, rfl, ldV m vs, sgnV m x, .ref qa, u2, rfl, ⟨qa, rfl, hq12⟩, hu2.ex e12', by rw [ldV_len, sgnV_len], by rw [ldV_len]; omega, fun pk H13 hpk e13' hk13 => ?_⟩
        rw [← ldV_snoc] at hk13
        have e123 := e12'.trans e13'
        have hdl13 := e123 _ _ hdl
        have RL13 := RL.kl (KL.of e123)
        refine ⟨pl, _, rfl, DPut.t (k := keyV (ldV m (vs ++ [x]))) hdl13 (by rw [keyV_kV]; exact hk13) (RL13.few hm4 hkb), ?_⟩
        have kl14 : KL H13 (upd H13 pl (.dT (putK kl (keyV (ldV m (vs ++ [x]))) (.ref pn)))) := KL.upd hdl13 (not_dT _)
        have hvx : isVot m (vs ++ [x]) := fun u hu => (List.mem_append.mp hu).elim (hv u) fun h => by rw [List.mem_singleton.mp h]; exact hxo
        have nn : NL H H13 ((vs ++ [x]).map iD) (.ref pn) := ⟨pn, ws, rfl, fresh_back (eH5.trans ex') hpn, e13' _ _ k1, k2.ex e13'⟩
        have keep : ∀ ky : List Key, (valV kl ky).isSome = true → (valV (putK kl (keyV (ldV m (vs ++ [x]))) (.ref pn)) ky).isSome = true := fun ky h => by
          rw [valV_put]
          split
          · rfl
          · exact h
        refine ⟨_, _, _, rfl, Ex.mut (ex'.trans e123) npl5, by rw [upd_ne npl]; exact e123 _ _ hd', upd_same, (R'.kl (KL.of e123)).kl kl14, (RL13.put hvx (by rw [List.length_append, hvl]; rfl) nn).kl kl14, kl14 _ _ (nd_tup _) (e123 _ _ hq), (hnl.ex e123).kl kl14, fun j' p a b us c z d => keep _ (hall j' p a b us c z d), fun z hz => ?_⟩
        rw [List.take_add_one, hx] at hz
        rcases List.mem_append.mp hz with hz | hz
        · exact keep _ (hall2 z hz)
        · have : z = x := by simpa using hz
          rw [this, valV_put, if_pos rfl]
          rfl
      · rintro σ' H' ⟨kl, y7, y8, rfl, ex', hd', hdl, R', RL, hq, hnl, hall, hall2⟩
        rw [List.take_length] at hall2
        refine ⟨kl, _, _, _, rfl, ex', hd', hdl, R', RL, fun j' p hlt hp us hk3 x hx => ?_⟩
        by_cases c : j' < j
        · exact hall j' p c hp us hk3 x hx
        · obtain rfl : j' = j := by omega
          rw [hj] at hp
          cases hp
          dsimp only at hk3
          have e : ldV m us = ldV m vs := keyV_inj (hk3.symm.trans hkey)
          have := hall2 x hx
          rw [ldV_snoc] at this ⊢
          rw [e]
          exact this
    · rintro od σ' H' ⟨kl, y5, y7, y8, rfl, ex', hd', hdl, R', RL, hall⟩
      wtm_at "nx"
      have kk : KL H' (upd H' pr (.dT kvs)) := KL.upd hd' (not_fdT _ _)
      refine ⟨.ref pl, rfl, k' - 1, by omega, k + 1, kl, pl, _, _, _, _, rfl, Ex.mut ex' npr, npl5, by rw [upd_ne npl.symm]; exact hdl, RL.kl kk, fun us hu hul => ?_, mn2, by omega⟩
      rcases List.eq_nil_or_concat us with e | ⟨ws, x, e⟩
      · rw [e] at hul
        cases hul
      · rw [List.concat_eq_append] at e
        subst e
        rw [List.length_append] at hul
        have hwsl : ws.length = k := by
          have : ws.length + 1 = k + 1 := hul
          omega
        obtain ⟨v, hmem⟩ := C ws (fun u h => hu u (List.mem_append_left _ h)) hwsl
        obtain ⟨i, hi⟩ := List.getElem?_of_mem hmem
        have := hall i _ (List.getElem?_eq_some_iff.mp hi).1 hi ws rfl x (rowsF_mem (hu x (List.mem_append_right _ (by simp))))
        obtain ⟨y, hy⟩ := Option.isSome_iff_exists.mp this
        exact ⟨y, valV_some_mem hy⟩
end
end Bm

namespace Bm
open PySem PySem.Spec PyProof.Rows L2 Evl
local macro_rules | `(tactic| wtm_at "rp") => `(tactic| first | exact rp_int | exact rp_bl | exact rp_str | exact rp_non | assumption | (refine' Rp.ex ?e ?h; (case h => assumption); (case e => assumption)) | exact Own.rp (by assumption))
local macro_rules | `(tactic| wtm_at "side") => `(tactic| first | assumption | omega | decide | rfl | exact ⟨by omega, by omega⟩)
local macro_rules | `(tactic| wtm_at "es") => `(tactic| first | exact evs_nil | (refine' evs_cons ?a ?b; (case a => wtm_at "ev"); (case b => wtm_at "es")))
local macro_rules | `(tactic| wtm_at "ev") => `(tactic| first
  | exact evd_int | exact evd_str | exact evd_bl | exact evd_non
  | (refine' evd_var rfl ?h; (case h => wtm_at "rp"))
  | ((with_reducible refine' evd_op ?a ?b rd_addI); (case a => wtm_at "ev"); (case b => wtm_at "ev"))
  | ((with_reducible refine' evd_op ?a ?b rd_subI); (case a => wtm_at "ev"); (case b => wtm_at "ev"))
  | ((with_reducible refine' evd_op ?a ?b (rd_mulI ?c)); (case a => wtm_at "ev"); (case b => wtm_at "ev"); (case c => wtm_at "side"))
  | ((with_reducible refine' evd_op ?a ?b (rd_divI ?c)); (case a => wtm_at "ev"); (case b => wtm_at "ev"); (case c => wtm_at "side"))
  | ((with_reducible refine' evd_op ?a ?b (rd_modI ?c)); (case a => wtm_at "ev"); (case b => wtm_at "ev"); (case c => wtm_at "side"))
  | ((with_reducible refine' evd_op ?a ?b rd_ltI); (case a => wtm_at "ev"); (case b => wtm_at "ev"))
  | ((with_reducible refine' evd_op ?a ?b rd_leI); (case a => wtm_at "ev"); (case b => wtm_at "ev"))
  | ((with_reducible refine' evd_op ?a ?b rd_gtI); (case a => wtm_at "ev"); (case b => wtm_at "ev"))
  | ((with_reducible refine' evd_op ?a ?b rd_geI); (case a => wtm_at "ev"); (case b => wtm_at "ev"))
  | ((with_reducible refine' evd_op ?a ?b rd_eqI); (case a => wtm_at "ev"); (case b => wtm_at "ev"))
  | ((with_reducible refine' evd_op ?a ?b rd_neI); (case a => wtm_at "ev"); (case b => wtm_at "ev"))
  | ((with_reducible refine' evd_op ?a ?b rd_eqB); (case a => wtm_at "ev"); (case b => wtm_at "ev"))
  | ((with_reducible refine' evd_op ?a ?b rd_neB); (case a => wtm_at "ev"); (case b => wtm_at "ev"))
  | ((with_reducible refine' evd_op ?a ?b rd_isNo); (case a => wtm_at "ev"); (case b => wtm_at "ev"))
  | ((with_reducible refine' evd_op ?a ?b rd_notNo); (case a => wtm_at "ev"); (case b => wtm_at "ev"))
  | ((with_reducible refine' evd_op ?a ?b rd_inIL); (case a => wtm_at "ev"); (case b => wtm_at "ev"))
  | ((with_reducible refine' evd_op ?a ?b rd_niIL); (case a => wtm_at "ev"); (case b => wtm_at "ev"))
  | ((with_reducible refine' evd_op ?a ?b rd_inID); (case a => wtm_at "ev"); (case b => wtm_at "ev"))
  | ((with_reducible refine' evd_op ?a ?b rd_niID); (case a => wtm_at "ev"); (case b => wtm_at "ev"))
  | ((with_reducible refine' evd_neg ?a); (case a => wtm_at "ev"))
  | ((with_reducible refine' evd_tix ?a ?b ?c); (case a => wtm_at "ev"); (case b => wtm_at "ev"); (case c => wtm_at "side"))
  | ((with_reducible refine' evd_tup ?a ?b); (case a => wtm_at "es"); (case b => exact Nat.le_of_ble_eq_true rfl))
  | ((with_reducible refine' evd_cb ?a cd_lenL); (case a => wtm_at "es"))
  | ((with_reducible refine' evd_cb ?a cd_lenT); (case a => wtm_at "es"))
  | ((with_reducible refine' evd_cb ?a cd_intB); (case a => wtm_at "es"))
  | ((with_reducible refine' evd_cb ?a cd_tupL); (case a => wtm_at "es"))
  | ((with_reducible refine' evd_and ?a ?b); (case a => wtm_at "ev"); (case b => intro _; wtm_at "ev"))
  | ((with_reducible refine' evd_or ?a ?b); (case a => wtm_at "ev"); (case b => intro _; wtm_at "ev"))
  | ((with_reducible refine' evd_not ?a); (case a => wtm_at "ev"))
  | ((with_reducible refine' evd_op ?a ?b rd_neIL); (case a => wtm_at "ev"); (case b => wtm_at "ev"))
  | ((with_reducible refine' evd_op ?a ?b rd_eqIL); (case a => wtm_at "ev"); (case b => wtm_at "ev"))
  | ((with_reducible refine' EvN.toD ?a); (case a => wtm_at "en")))
local macro_rules | `(tactic| wtm_at "en") => `(tactic| first
  | ((with_reducible refine' evn_cb ?a cn_sortTI); (case a => wtm_at "es"))
  | ((with_reducible refine' evn_cb ?a cn_listL); (case a => wtm_at "es"))
  | ((with_reducible refine' evn_cb ?a cn_listT); (case a => wtm_at "es"))
  | ((with_reducible refine' evn_rng ?a ?b); (case a => wtm_at "ev"); (case b => wtm_at "side"))
  | ((with_reducible refine' evn_lst ?a ?b); (case a => wtm_at "es"); (case b => exact Nat.le_of_ble_eq_true rfl))
  | ((with_reducible refine' evn_cat ?a ?b ?c); (case a => wtm_at "ev"); (case b => wtm_at "ev"); (case c => wtm_at "side"))
  | ((with_reducible refine' evn_slL ?a ?b ?c); (case a => wtm_at "ev"); (case b => first | exact evp_none | (refine' evp_some ?d; (case d => wtm_at "ev"))); (case c => first | exact evp_none | (refine' evp_some ?d; (case d => wtm_at "ev")))))
local macro_rules | `(tactic| wtm_at "et") => `(tactic| first
  | exact et_yes
  | (refine' ett ?a; (case a => wtm_at "ev"))
  | (refine' etB ?a; (case a => wtm_at "ev"))
  | (refine' et_and ?a ?b; (case a => wtm_at "et"); (case b => intro _; wtm_at "et"))
  | (refine' et_or ?a ?b; (case a => wtm_at "et"); (case b => intro _; wtm_at "et"))
  | (refine' et_not ?a; (case a => wtm_at "et")))
local macro_rules | `(tactic| wtm_at "nx") => `(tactic| try dsimp only [tSeq, tNext])
/-! ### the law's own helpers: cells, whole numbers, orders, voters, leads, beats -/
def sp__law_cell_at (K : PySem.W.Frag) : Sp := spS (α := Int) K (fun k => [.int k]) (fun _ k => 0 ≤ k) fun ns k => .val (.int (cellF ns k))
theorem len__law_cell_at {K : PySem.W.Frag} (vs : List V) (H : Hp) (Q : VK) (E : XK) (h : (sp__law_cell_at K) vs H Q E) : vs.length = 2 := by
  unfold sp__law_cell_at at h
  obtain ⟨ns, a, sa, r, rfl, _, h, _⟩ := h
  rw [List.length_cons, h.len]
  rfl
theorem cellF_at {ns : List Int} {k : Int} (h0 : 0 ≤ k) (h : k < ns.length) : atI ns k = some (cellF ns k) := by
  have hk : k = ((k.toNat : Nat) : Int) := by omega
  have hl : k.toNat < ns.length := by omega
  have e : ns[k.toNat]? = some (cellF ns k) := by
    unfold cellF
    rw [List.getD_eq_getElem?_getD, List.getElem?_eq_getElem hl]
    rfl
  conv => lhs; rw [hk]
  exact atI_nat e
theorem cellF_out {ns : List Int} {k : Int} (h : ¬ k < ns.length) : cellF ns k = 0 := by
  unfold cellF
  rw [List.getD_eq_getElem?_getD, List.getElem?_eq_none (by omega)]
  rfl
section
variable {P : Program} {w : World} {K : PySem.W.Frag} {mg : Str → Option Value} {base : Heap}
theorem ok__law_cell_at {f : Addr} {fd : FuncData} (D : Df K mg "_law_cell_at" s__law_cell_at ["script", "k"] f fd) (Bi : Bi mg) : FnOk P w K mg base CX0 1 f fd ["script", "k"] (sp__law_cell_at K) := by
  refine D.F.ok c__law_cell_at (fun vs H Q E h => len__law_cell_at _ _ _ _ h) (fun cdv A outer s H vs Q E hr h => ?_)
  refine ⟨_, (pss_cons (ps_if (pt_cmpR op_ltI (pv 1) (pe_callB (cr_lenK (K := K)) (by rfl) Bi.len (by decide +kernel) (pa_cons (pv 0) pa_nil)) (nomark _))
      (pss_one (ps_ret (pe_ix (ix_listK (K := K)) (pv 0) (pv 1) (fun _ _ => rfl))))
      pss_nil)
      (pss_one (ps_ret pe_int))), ?_⟩
  obtain ⟨ns, k, sa, _, rfl, hs, ⟨v1, _, rfl, rfl, rfl⟩, hk, q⟩ := h
  dsimp only at q
  refine' s_if (b := decide (k < (ns.length : Int))) ?t ?yes ?no
  case t => exact ett (evd_op (evd_var rfl rp_int) (evd_lenS hs rfl) rd_ltI)
  case yes =>
    intro hb H1 e1
    have hb' : k < ns.length := by simpa using hb
    exact s_retD (evd_ixS (ex_l e1 hs) rfl (evd_var rfl rp_int) (cellF_at hk hb')) fun v H2 e2 r => q v H2 (e1.trans e2) r
  case no =>
    intro hb H1 e1
    have hb' : ¬ k < ns.length := by simpa using hb
    rw [cellF_out hb'] at q
    wtm_at "nx"
    exact s_retD evd_int fun v H2 e2 r => q v H2 (e1.trans e2) r
end
theorem ev_cell {K : PySem.W.Frag} {σ : L2.St} {H : Hp} {tb : TE} {E : XK} {ns : List Int} {sa : Addr} {i : Nat} {k : Int} (hs : SqL K H sa (ns.map V.int)) (hi : σ[i]? = some (some (.ref sa))) (h : EvD tb σ H (.int k)) (p : 0 ≤ k) :
    EvD (tCall (sp__law_cell_at K) [] E (tCons (tVar i) (tCons tb tNil))) σ H (.int (cellF ns k)) := evd_callS k hs hi (evs_cons h evs_nil) p rfl
def sp__law_whole : Sp := spO (α := Int) (fun k => [.int k]) (fun _ => True) fun _ => .val (.bool true)
theorem len__law_whole (vs : List V) (H : Hp) (Q : VK) (E : XK) (h : sp__law_whole vs H Q E) : vs.length = 1 := by
  unfold sp__law_whole at h
  obtain ⟨a, r, _⟩ := h
  rw [r.len]
  rfl
section
variable {P : Program} {w : World} {K : PySem.W.Frag} {mg : Str → Option Value} {base : Heap}
theorem ok__law_whole {f : Addr} {fd : FuncData} (D : Df K mg "_law_whole" s__law_whole ["found"] f fd) (Bi : Bi mg) : FnOk P w K mg base CX0 1 f fd ["found"] sp__law_whole := by
  refine D.F.ok c__law_whole (fun vs H Q E h => len__law_whole _ _ _ _ h) (fun cdv A outer s H vs Q E hr h => ?_)
  refine ⟨_, (pss_one (ps_ret (pe_and (pe_callB (call_isiK2 (K := K)) (by rfl) Bi.isinstance (by decide +kernel) (pa_cons (pv 0) (pa_cons (pe_bltn (v := .ty "int") (by rfl) Bi.int (by decide +kernel) rfl) pa_nil))) (pe_one (pe_not (pe_callB (call_isiK2 (K := K)) (by rfl) Bi.isinstance (by decide +kernel) (pa_cons (pv 0) (pa_cons (pe_bltn (v := .ty "bool") (by rfl) Bi.bool (by decide +kernel) rfl) pa_nil)))))))), ?_⟩
  obtain ⟨k, ⟨v1, _, rfl, rfl, rfl⟩, -, q⟩ := h
  exact s_retD (evd_and (a := true) (b := true) (evd_isi (evd_var rfl rp_int) (show kitB "int" "int" = some true by decide +kernel)) fun _ => evd_not (a := false) (evd_isi (evd_var rfl rp_int) (show kitB "int" "bool" = some false by decide +kernel))) fun v H2 e2 r => q v H2 e2 r
end
theorem ev_whole {σ : L2.St} {H : Hp} {tb : TE} {E : XK} {k : Int} (h : EvD tb σ H (.int k)) : EvD (tCall sp__law_whole [] E (tCons tb tNil)) σ H (.bool true) := evd_callO k (evs_cons h evs_nil) trivial rfl
/-- orders drawn by a cell -/
def ordR : Nat → List Int → Int → List Int
  | 0, _, _ => []
  | n + 1, left, c => left.getD (c % (left.length : Int)).toNat 0 :: ordR n (left.eraseIdx (c % (left.length : Int)).toNat) (c / (left.length : Int))
def lawOrd (c m : Int) : List Int := ordR m.toNat (rgI 0 m.toNat) c
theorem map_erase {α β : Type} (f : α → β) : ∀ (l : List α) (k : Nat), (l.map f).eraseIdx k = (l.eraseIdx k).map f
  | [], _ => rfl
  | _ :: _, 0 => rfl
  | x :: xs, k + 1 => by
    rw [List.map_cons, List.eraseIdx_cons_succ, List.eraseIdx_cons_succ, List.map_cons, map_erase f xs k]
theorem erase_perm : ∀ {l : List Int} {k : Nat} (h : k < l.length), (l[k] :: l.eraseIdx k).Perm l
  | [], _, h => by simp at h
  | x :: xs, 0, _ => .refl _
  | x :: xs, k + 1, h => by
    have ih := erase_perm (l := xs) (k := k) (by simpa using h)
    rw [List.getElem_cons_succ, List.eraseIdx_cons_succ]
    exact (List.Perm.swap _ _ _).trans (ih.cons x)
theorem ordR_perm : ∀ {n : Nat} {left : List Int} {c : Int}, left.length = n → (ordR n left c).Perm left
  | 0, left, c, h => by
    rw [List.eq_nil_of_length_eq_zero h]
    exact .refl _
  | n + 1, left, c, h => by
    have h0 : (0 : Int) < (left.length : Int) := by omega
    have l1 := Int.emod_nonneg c (Int.ne_of_gt h0)
    have l2 := Int.emod_lt_of_pos c h0
    have hk : (c % (left.length : Int)).toNat < left.length := by omega
    unfold ordR
    generalize (c % (left.length : Int)).toNat = k at hk
    have ih := ordR_perm (n := n) (left := left.eraseIdx k) (c := c / (left.length : Int)) (by rw [List.length_eraseIdx_of_lt hk]; omega)
    have e : left.getD k 0 = left[k] := by rw [List.getD_eq_getElem?_getD, List.getElem?_eq_getElem hk]; rfl
    rw [e]
    exact (ih.cons _).trans (erase_perm hk)
theorem lawOrd_ord (c m : Int) : isOrd m (lawOrd c m) := isOrd_iff.mpr (ordR_perm (rgI_len _ _))
def sp__law_order : Sp := spO (α := Int × Int) (fun a => [.int a.1, .int a.2]) (fun a => 0 ≤ a.2 ∧ a.2 ≤ 6) fun a => .val (iD (lawOrd a.1 a.2))
theorem len__law_order (vs : List V) (H : Hp) (Q : VK) (E : XK) (h : sp__law_order vs H Q E) : vs.length = 2 := by
  unfold sp__law_order at h
  obtain ⟨a, r, _⟩ := h
  rw [r.len]
  rfl
section
variable {P : Program} {w : World} {K : PySem.W.Frag} {mg : Str → Option Value} {base : Heap}
theorem ok__law_order {f : Addr} {fd : FuncData} (D : Df K mg "_law_order" s__law_order ["cell", "many"] f fd) (Bi : Bi mg) : FnOk P w K mg base CX0 1 f fd ["cell", "many"] sp__law_order := by
  refine D.F.ok c__law_order (fun vs H Q E h => len__law_order _ _ _ _ h) (fun cdv A outer s H vs Q E hr h => ?_)
  refine ⟨_, (pss_cons (ps_set (i := 2) c__law_order.nd rfl (.inl rfl) (pe_listRg rfl (by rfl) Bi.list (prg_1 (by rfl) Bi.range (pv 1))))
      (pss_cons (ps_set (i := 3) c__law_order.nd rfl (.inl rfl) (pe_lst pa_nil))
      (pss_cons (ps_for (PassesOwn.never) rfl (pi_range1 (by rfl) Bi.range (pa_cons (pv 1) pa_nil)) (pg_name (i := 4) c__law_order.nd rfl (.inl rfl))
      (pss_cons (ps_expr (pe_bm PySem.F.plainAttrs_list PySem.F.slot_list_append PySem.F.type_list_append mt_append (pv 3) (pa_cons (pe_bm PySem.F.plainAttrs_list PySem.F.slot_list_pop PySem.F.type_list_pop mt_popAt (pv 2) (pa_cons (pe_op op_modI (pv 0) (pe_callB (cr_lenK (K := K)) (by rfl) Bi.len (by decide +kernel) (pa_cons (pv 2) pa_nil))) pa_nil)) pa_nil)))
      (pss_one (ps_set (i := 0) c__law_order.nd rfl (.inl rfl) (pe_op op_divI (pv 0) (pe_op op_addI (pe_callB (cr_lenK (K := K)) (by rfl) Bi.len (by decide +kernel) (pa_cons (pv 2) pa_nil)) pe_int))))))
      (pss_one (ps_ret (pe_callTy (cr_tupLK (K := K)) (by rfl) Bi.tuple (by decide +kernel) (pa_cons (pv 3) pa_nil))))))), ?_⟩
  obtain ⟨⟨c, m⟩, ⟨v1, _, rfl, rfl, v2, _, rfl, rfl, rfl⟩, ⟨m0, m6⟩, q⟩ := h
  dsimp only at q m0 m6
  refine' s_asgO (evn_rng (n := m) ?n (by omega)) (imm_ints _) fun pl H1 e1 o1 => ?_
  case n => wtm_at "ev"
  wtm_at "nx"
  refine' s_asgO (evn_lst evs_nil (by decide)) rfl fun po H2 e2 o2 => ?_
  wtm_at "nx"
  have npo : pl ≠ po := by
    obtain ⟨_, z, _⟩ := o1.has
    exact ne_of_none z o2.new
  refine' s_forR (n := m) ?n (by omega) fun H3 e3 => ⟨fun i σ' H' => ∃ y left order cell, σ' = [some (.int cell), some (.int m), some (.ref pl), some (.ref po), y] ∧ Own H H' pl (left.map .int) ∧ Own H H' po (order.map .int) ∧
    left.length + i = m.toNat ∧ order.length = i ∧ order ++ ordR left.length left cell = lawOrd c m, ?_, ?_, ?_⟩
  case n => wtm_at "es"
  · exact ⟨none, _, [], c, rfl, (o1.step e2).step e3, (o2.step e3).lower e1, by rw [rgI_len]; omega, rfl, by rw [rgI_len]; rfl⟩
  · rintro i σ' H' hi ⟨y, left, order, cell, rfl, ol, oo, hl, ho, hm⟩
    refine g_name ?_
    have h0 : (0 : Int) < (left.length : Int) := by omega
    have l1 := Int.emod_nonneg cell (Int.ne_of_gt h0)
    have l2 := Int.emod_lt_of_pos cell h0
    have hk : (cell % (left.length : Int)).toNat < left.length := by omega
    obtain ⟨ws, w1, w2⟩ := oo.has
    obtain ⟨us, u1, u2⟩ := ol.has
    have ix : EvD (tOp rModI (tVar 0) (tCB (rLenS K) (tCons (tVar 2) tNil))) ([some (V.int cell), some (V.int m), some (V.ref pl), some (V.ref po), y].set 4 (some (V.int (i : Int)))) H' (.int (cell % (left.length : Int))) := by
      have lz : EvD (tCB (rLenS K) (tCons (tVar 2) tNil)) ([some (V.int cell), some (V.int m), some (V.ref pl), some (V.ref po), y].set 4 (some (V.int (i : Int)))) H' (.int (left.map PyData.int).length) := evd_cb (evs_cons (evd_var rfl ol.rp) evs_nil) cd_lenL
      rw [List.length_map] at lz
      exact evd_op (evd_var rfl rp_int) lz (rd_modI h0)
    have u3 := u2.ints
    have w3 := w2.ints
    subst u3 w3
    refine ⟨.ref po, rfl, .inl ⟨rfl, _, SqL.of w1⟩, .ref pl, rfl, .inl ⟨rfl, _, SqL.of u1⟩, ix H' (Ex.refl _) _ fun v5 H5 e5 r5 => ?_⟩
    obtain rfl : v5 = .int (cell % (left.length : Int)) := r5
    have g : (left.map V.int)[(cell % (left.length : Int)).toNat]? = some (.int (left.getD (cell % (left.length : Int)).toNat 0)) := by
      rw [List.getElem?_map, List.getD_eq_getElem?_getD, List.getElem?_eq_getElem hk]
      rfl
    have sx : seqIndex? (cell % (left.length : Int)) (left.map V.int).length = some (cell % (left.length : Int)).toNat := by
      rw [List.length_map]
      exact (ixN_seq (by unfold ixN; rw [if_pos l1, if_pos l2])).1
    refine ⟨pl, _, _, (cell % (left.length : Int)).toNat, _, rfl, rfl, e5 _ _ u1, by omega, by omega, sx, g, ?_⟩
    have w5 : (upd H5 pl (.lst ((left.map V.int).eraseIdx (cell % (left.length : Int)).toNat))) po = some (.lst (order.map V.int)) := by
      rw [upd_ne npo.symm]
      exact e5 _ _ w1
    refine ⟨po, _, _, rfl, rfl, w5, sz_lt (by rw [List.length_map]; omega), ?_⟩
    have nHl : H pl = none := ol.new
    have nHo : H po = none := oo.new
    have hlen2 : (left.eraseIdx (cell % (left.length : Int)).toNat).length = left.length - 1 := List.length_eraseIdx_of_lt hk
    have hstep : ordR left.length left cell = left.getD (cell % (left.length : Int)).toNat 0 :: ordR (left.length - 1) (left.eraseIdx (cell % (left.length : Int)).toNat) (cell / (left.length : Int)) := by
      have e1 : ∀ n, n = left.length - 1 → ordR (n + 1) left cell = left.getD (cell % (left.length : Int)).toNat 0 :: ordR n (left.eraseIdx (cell % (left.length : Int)).toNat) (cell / (left.length : Int)) := fun n _ => rfl
      have e2 := e1 _ rfl
      rwa [Nat.sub_add_cancel (by omega)] at e2
    generalize hk' : (cell % (left.length : Int)).toNat = k at *
    rw [map_erase V.int left k]
    have exB : Ex H (upd (upd H5 pl (.lst ((left.eraseIdx k).map V.int))) po (.lst (order.map V.int ++ [V.int (left.getD k 0)]))) := Ex.mut (Ex.mut (ol.ex.trans e5) nHl) nHo
    have own1 : Own H (upd (upd H5 pl (.lst ((left.eraseIdx k).map V.int))) po (.lst (order.map V.int ++ [V.int (left.getD k 0)]))) pl ((left.eraseIdx k).map .int) := by
      refine ⟨nHl, exB, ⟨_, ?_, rpa_ints _⟩, imm_ints _⟩
      rw [upd_ne npo, upd_same]
    have own2 : Own H (upd (upd H5 pl (.lst ((left.eraseIdx k).map V.int))) po (.lst (order.map V.int ++ [V.int (left.getD k 0)]))) po ((order ++ [left.getD k 0]).map .int) := by
      refine ⟨nHo, exB, ⟨_, upd_same, ?_⟩, imm_ints _⟩
      rw [List.map_append]
      exact (rpa_ints order).app (rpa_ints [left.getD k 0])
    generalize (upd (upd H5 pl (.lst ((left.eraseIdx k).map V.int))) po (.lst (order.map V.int ++ [V.int (left.getD k 0)]))) = H6 at own1 own2 ⊢
    wtm_at "nx"
    have lz : EvD (tCB (rLenS K) (tCons (tVar 2) tNil)) ([some (V.int cell), some (V.int m), some (V.ref pl), some (V.ref po), y].set 4 (some (V.int (i : Int)))) H6 (.int ((left.eraseIdx k).map PyData.int).length) := evd_cb (evs_cons (evd_var rfl own1.rp) evs_nil) cd_lenL
    rw [List.length_map, hlen2] at lz
    refine s_asgI (n := cell / ((left.length - 1 : Nat) + 1 : Int)) (evd_op (evd_var rfl rp_int) (evd_op lz evd_int rd_addI) (rd_divI ⟨by omega, by omega⟩)) fun H7 e7 => ?_
    rw [show ((left.length - 1 : Nat) + 1 : Int) = (left.length : Int) by omega]
    refine ⟨some (.int i), left.eraseIdx k, order ++ [left.getD k 0], _, rfl, own1.step e7, own2.step e7, by omega, by rw [List.length_append, ho]; rfl, ?_⟩
    rw [hlen2, List.append_assoc, List.singleton_append, ← hstep]
    exact hm
  · rintro σ' H' ⟨y, left, order, cell, rfl, ol, oo, hl, ho, hm⟩
    have l0 : left = [] := List.eq_nil_of_length_eq_zero (by omega)
    subst l0
    rw [show ordR ([] : List Int).length [] cell = [] from rfl, List.append_nil] at hm
    wtm_at "nx"
    refine s_retD (d := iD order) ?r fun v H5 e5 r => ?_
    case r => wtm_at "ev"
    rw [hm] at r
    exact q v H5 (ol.ex.trans e5) r
end

end Bm

namespace Bm
open PySem PySem.Spec PyProof.Rows L2 Evl
local macro_rules | `(tactic| wtm_at "rp") => `(tactic| first | exact rp_int | exact rp_bl | exact rp_str | exact rp_non | assumption | (refine' Rp.ex ?e ?h; (case h => assumption); (case e => assumption)) | exact Own.rp (by assumption))
local macro_rules | `(tactic| wtm_at "side") => `(tactic| first | assumption | omega | decide | rfl | exact ⟨by omega, by omega⟩)
local macro_rules | `(tactic| wtm_at "es") => `(tactic| first | exact evs_nil | (refine' evs_cons ?a ?b; (case a => wtm_at "ev"); (case b => wtm_at "es")))
local macro_rules | `(tactic| wtm_at "ev") => `(tactic| first
  | exact evd_int | exact evd_str | exact evd_bl | exact evd_non
  | (refine' evd_var rfl ?h; (case h => wtm_at "rp"))
  | ((with_reducible refine' evd_op ?a ?b rd_addI); (case a => wtm_at "ev"); (case b => wtm_at "ev"))
  | ((with_reducible refine' evd_op ?a ?b rd_subI); (case a => wtm_at "ev"); (case b => wtm_at "ev"))
  | ((with_reducible refine' evd_op ?a ?b (rd_mulI ?c)); (case a => wtm_at "ev"); (case b => wtm_at "ev"); (case c => wtm_at "side"))
  | ((with_reducible refine' evd_op ?a ?b (rd_divI ?c)); (case a => wtm_at "ev"); (case b => wtm_at "ev"); (case c => wtm_at "side"))
  | ((with_reducible refine' evd_op ?a ?b (rd_modI ?c)); (case a => wtm_at "ev"); (case b => wtm_at "ev"); (case c => wtm_at "side"))
  | ((with_reducible refine' evd_op ?a ?b rd_ltI); (case a => wtm_at "ev"); (case b => wtm_at "ev"))
  | ((with_reducible refine' evd_op ?a ?b rd_leI); (case a => wtm_at "ev"); (case b => wtm_at "ev"))
  | ((with_reducible refine' evd_op ?a ?b rd_gtI); (case a => wtm_at "ev"); (case b => wtm_at "ev"))
  | ((with_reducible refine' evd_op ?a ?b rd_geI); (case a => wtm_at "ev"); (case b => wtm_at "ev"))
  | ((with_reducible refine' evd_op ?a ?b rd_eqI); (case a => wtm_at "ev"); (case b => wtm_at "ev"))
  | ((with_reducible refine' evd_op ?a ?b rd_neI); (case a => wtm_at "ev"); (case b => wtm_at "ev"))
  | ((with_reducible refine' evd_op ?a ?b rd_eqB); (case a => wtm_at "ev"); (case b => wtm_at "ev"))
  | ((with_reducible refine' evd_op ?a ?b rd_neB); (case a => wtm_at "ev"); (case b => wtm_at "ev"))
  | ((with_reducible refine' evd_op ?a ?b rd_isNo); (case a => wtm_at "ev"); (case b => wtm_at "ev"))
  | ((with_reducible refine' evd_op ?a ?b rd_notNo); (case a => wtm_at "ev"); (case b => wtm_at "ev"))
  | ((with_reducible refine' evd_op ?a ?b rd_inIL); (case a => wtm_at "ev"); (case b => wtm_at "ev"))
  | ((with_reducible refine' evd_op ?a ?b rd_niIL); (case a => wtm_at "ev"); (case b => wtm_at "ev"))
  | ((with_reducible refine' evd_op ?a ?b rd_inID); (case a => wtm_at "ev"); (case b => wtm_at "ev"))
  | ((with_reducible refine' evd_op ?a ?b rd_niID); (case a => wtm_at "ev"); (case b => wtm_at "ev"))
  | ((with_reducible refine' evd_neg ?a); (case a => wtm_at "ev"))
  | ((with_reducible refine' evd_tix ?a ?b ?c); (case a => wtm_at "ev"); (case b => wtm_at "ev"); (case c => wtm_at "side"))
  | ((with_reducible refine' evd_tup ?a ?b); (case a => wtm_at "es"); (case b => exact Nat.le_of_ble_eq_true rfl))
  | ((with_reducible refine' evd_cb ?a cd_lenL); (case a => wtm_at "es"))
  | ((with_reducible refine' evd_cb ?a cd_lenT); (case a => wtm_at "es"))
  | ((with_reducible refine' evd_cb ?a cd_intB); (case a => wtm_at "es"))
  | ((with_reducible refine' evd_cb ?a cd_tupL); (case a => wtm_at "es"))
  | ((with_reducible refine' evd_and ?a ?b); (case a => wtm_at "ev"); (case b => intro _; wtm_at "ev"))
  | ((with_reducible refine' evd_or ?a ?b); (case a => wtm_at "ev"); (case b => intro _; wtm_at "ev"))
  | ((with_reducible refine' evd_not ?a); (case a => wtm_at "ev"))
  | ((with_reducible refine' evd_op ?a ?b rd_neIL); (case a => wtm_at "ev"); (case b => wtm_at "ev"))
  | ((with_reducible refine' evd_op ?a ?b rd_eqIL); (case a => wtm_at "ev"); (case b => wtm_at "ev"))
  | ((with_reducible refine' EvN.toD ?a); (case a => wtm_at "en")))
local macro_rules | `(tactic| wtm_at "en") => `(tactic| first
  | ((with_reducible refine' evn_cb ?a cn_sortTI); (case a => wtm_at "es"))
  | ((with_reducible refine' evn_cb ?a cn_listL); (case a => wtm_at "es"))
  | ((with_reducible refine' evn_cb ?a cn_listT); (case a => wtm_at "es"))
  | ((with_reducible refine' evn_rng ?a ?b); (case a => wtm_at "ev"); (case b => wtm_at "side"))
  | ((with_reducible refine' evn_lst ?a ?b); (case a => wtm_at "es"); (case b => exact Nat.le_of_ble_eq_true rfl))
  | ((with_reducible refine' evn_cat ?a ?b ?c); (case a => wtm_at "ev"); (case b => wtm_at "ev"); (case c => wtm_at "side"))
  | ((with_reducible refine' evn_slL ?a ?b ?c); (case a => wtm_at "ev"); (case b => first | exact evp_none | (refine' evp_some ?d; (case d => wtm_at "ev"))); (case c => first | exact evp_none | (refine' evp_some ?d; (case d => wtm_at "ev")))))
local macro_rules | `(tactic| wtm_at "et") => `(tactic| first
  | exact et_yes
  | (refine' ett ?a; (case a => wtm_at "ev"))
  | (refine' etB ?a; (case a => wtm_at "ev"))
  | (refine' et_and ?a ?b; (case a => wtm_at "et"); (case b => intro _; wtm_at "et"))
  | (refine' et_or ?a ?b; (case a => wtm_at "et"); (case b => intro _; wtm_at "et"))
  | (refine' et_not ?a; (case a => wtm_at "et")))
local macro_rules | `(tactic| wtm_at "nx") => `(tactic| try dsimp only [tSeq, tNext])
theorem ev_order {σ : L2.St} {H : Hp} {t1 t2 : TE} {E : XK} {c m : Int} (h1 : EvD t1 σ H (.int c)) (h2 : EvD t2 σ H (.int m)) (p : 0 ≤ m ∧ m ≤ 6) :
    EvD (tCall sp__law_order [] E (tCons t1 (tCons t2 tNil))) σ H (iD (lawOrd c m)) := evd_callO (c, m) (evs_cons h1 (evs_cons h2 evs_nil)) p rfl
/-- voters drawn by cells -/
def votBase (ns : List Int) (start m most : Int) : List (List Int) := (rgI 0 (cellF ns start % (most + 1)).toNat).map fun k => lawOrd (cellF ns (start + 1 + k)) m
def lawVot (ns : List Int) (start m most : Int) : List (List Int) :=
  if cellF ns start / (most + 1) % 8 = 5 then (List.replicate 60 (votBase ns start m most)).flatten.take (most + cellF ns start / (most + 1) / 8 % (61 - most)).toNat
  else votBase ns start m most ++ (votBase ns start m most).take (cellF ns start / (most + 1) % 4).toNat
theorem votBase_ok (ns : List Int) (start m most : Int) : isVot m (votBase ns start m most) := fun v h => by
  obtain ⟨k, _, rfl⟩ := List.mem_map.mp h
  exact lawOrd_ord _ _
theorem lawVot_ok (ns : List Int) (start m most : Int) : isVot m (lawVot ns start m most) := fun v h => by
  unfold lawVot at h
  split at h
  · have h2 := List.mem_of_mem_take h
    obtain ⟨l, h3, h4⟩ := List.mem_flatten.mp h2
    rw [(List.mem_replicate.mp h3).2] at h4
    exact votBase_ok ns start m most v h4
  · rcases List.mem_append.mp h with h | h
    · exact votBase_ok ns start m most v h
    · exact votBase_ok ns start m most v (List.mem_of_mem_take h)
theorem votBase_len (ns : List Int) (start m : Int) {most : Int} (h : 0 ≤ most) : ((votBase ns start m most).length : Int) ≤ most := by
  unfold votBase
  rw [List.length_map, rgI_len]
  have := Int.emod_nonneg (cellF ns start) (show most + 1 ≠ 0 by omega)
  have := Int.emod_lt_of_pos (cellF ns start) (show 0 < most + 1 by omega)
  omega
theorem lawVot_len (ns : List Int) (start m : Int) {most : Int} (h : 0 ≤ most ∧ most ≤ 30) : (lawVot ns start m most).length ≤ 60 := by
  unfold lawVot
  have l := votBase_len ns start m h.1
  split
  · rw [List.length_take]
    have := Int.emod_nonneg (cellF ns start / (most + 1) / 8) (show 61 - most ≠ 0 by omega)
    have := Int.emod_lt_of_pos (cellF ns start / (most + 1) / 8) (show 0 < 61 - most by omega)
    omega
  · rw [List.length_append, List.length_take]
    omega
def sp__law_voters (K : PySem.W.Frag) : Sp := spS (α := Int × Int × Int) K (fun a => [.int a.1, .int a.2.1, .int a.2.2]) (fun _ a => 0 ≤ a.1 ∧ (0 ≤ a.2.1 ∧ a.2.1 ≤ 6) ∧ 0 ≤ a.2.2 ∧ a.2.2 ≤ 30) fun ns a => .new ((lawVot ns a.1 a.2.1 a.2.2).map iD)
theorem len__law_voters {K : PySem.W.Frag} (vs : List V) (H : Hp) (Q : VK) (E : XK) (h : (sp__law_voters K) vs H Q E) : vs.length = 4 := by
  unfold sp__law_voters at h
  obtain ⟨ns, a, sa, r, rfl, _, h, _⟩ := h
  rw [List.length_cons, h.len]
  rfl
section
variable {P : Program} {w : World} {K : PySem.W.Frag} {mg : Str → Option Value} {base : Heap}
theorem ok__law_voters {f : Addr} {fd : FuncData} (D : Df K mg "_law_voters" s__law_voters ["script", "start", "many", "most"] f fd) (Bi : Bi mg) {f__law_cell_at : Addr} {fd__law_cell_at : FuncData} (D__law_cell_at : Df K mg "_law_cell_at" s__law_cell_at ["script", "k"] f__law_cell_at fd__law_cell_at) (G__law_cell_at : FnOk P w K mg base CX0 1 f__law_cell_at fd__law_cell_at ["script", "k"] (sp__law_cell_at K)) {f__law_order : Addr} {fd__law_order : FuncData} (D__law_order : Df K mg "_law_order" s__law_order ["cell", "many"] f__law_order fd__law_order) (G__law_order : FnOk P w K mg base CX0 1 f__law_order fd__law_order ["cell", "many"] sp__law_order) : FnOk P w K mg base CX0 2 f fd ["script", "start", "many", "most"] (sp__law_voters K) := by
  refine D.F.ok c__law_voters (fun vs H Q E h => len__law_voters _ _ _ _ h) (fun cdv A outer s H vs Q E hr h => ?_)
  refine ⟨_, (pss_cons (ps_set (i := 4) c__law_voters.nd rfl (.inl rfl) (pe_op op_modI (pe_call G__law_cell_at (hr.mono (by decide)) (by rfl) D__law_cell_at.g D__law_cell_at.F.kp D__law_cell_at.b .nil pass0 (pa_cons (pv 0) (pa_cons (pv 1) pa_nil))) (pe_op op_addI (pv 3) pe_int)))
      (pss_cons (ps_setLc (i := 5) (own := [("k", 7)]) (g := (gName 7)) (tt := tYes) rfl c__law_voters.nd rfl rfl (sw_true rfl rfl rfl (by decide +kernel)) (pi_range1 (by rfl) Bi.range (pa_cons (pv 4) pa_nil)) (blkOk_by (own := [("k", 7)]) (N := ["script", "start", "many", "most", "count", "voters", "more", "k"]) (sc := defScope s__law_voters) (by decide +kernel)) (fun _ _ _ _ _ => (pg_name (i := 7) c__law_voters.nd rfl (.inl rfl))) (fun _ _ _ _ _ => pts_nil) (fun _ _ _ _ _ => (pe_call G__law_order (hr.mono (by decide)) (by rfl) D__law_order.g D__law_order.F.kp D__law_order.b .nil pass0 (pa_cons (pe_call G__law_cell_at (hr.mono (by decide)) (by rfl) D__law_cell_at.g D__law_cell_at.F.kp D__law_cell_at.b .nil pass0 (pa_cons (pv 0) (pa_cons (pe_op op_addI (pe_op op_addI (pv 1) pe_int) (pv 7)) pa_nil))) (pa_cons (pv 2) pa_nil)))))
      (pss_cons (ps_set (i := 6) c__law_voters.nd rfl (.inl rfl) (pe_op op_divI (pe_call G__law_cell_at (hr.mono (by decide)) (by rfl) D__law_cell_at.g D__law_cell_at.F.kp D__law_cell_at.b .nil pass0 (pa_cons (pv 0) (pa_cons (pv 1) pa_nil))) (pe_op op_addI (pv 3) pe_int)))
      (pss_cons (ps_if (pt_cmpR op_eqI (pe_op op_modI (pv 6) pe_int) pe_int (nomark _))
      (pss_one (ps_ret (pe_slice (sl_listK (K := K)) (pe_op op_rep (pv 5) pe_int) po_none (po_some (pe_op op_addI (pv 3) (pe_op op_modI (pe_op op_divI (pv 6) pe_int) (pe_op op_subI pe_int (pv 3))))))))
      pss_nil)
      (pss_one (ps_ret (pe_op op_cat (pv 5) (pe_slice (sl_listK (K := K)) (pv 5) po_none (po_some (pe_op op_modI (pv 6) pe_int)))))))))), ?_⟩
  obtain ⟨ns, ⟨start, m, most⟩, sa, _, rfl, hs, ⟨v2, _, rfl, rfl, v3, _, rfl, rfl, v4, _, rfl, rfl, rfl⟩, ⟨s0, ⟨m0, m6⟩, t0, t9⟩, q⟩ := h
  dsimp only at q s0 m0 m6 t0 t9
  have cn := Int.emod_nonneg (cellF ns start) (show most + 1 ≠ 0 by omega)
  have cl := Int.emod_lt_of_pos (cellF ns start) (show 0 < most + 1 by omega)
  have vl := votBase_len ns start m t0
  -- count
  refine' s_asgI (n := cellF ns start % (most + 1)) (evd_op (ev_cell hs rfl ?a s0) ?b (rd_modI (by omega))) fun H1 e1 => ?_
  case a => wtm_at "ev"
  case b => wtm_at "ev"
  wtm_at "nx"
  have hs1 := ex_l e1 hs
  -- voters
  have eb : (votBase ns start m most).map iD = ((rgI 0 (cellF ns start % (most + 1)).toNat).filter fun _ => true).map fun k => iD (lawOrd (cellF ns (start + 1 + k)) m) := by
    unfold votBase
    rw [List.filter_eq_self.mpr (fun _ _ => rfl), List.map_map]
    rfl
  refine' s_asgNw (ds := (votBase ns start m most).map iD) ?x fun p vs H2 hp e2 k1 k2 => ?_
  case x =>
    rw [eb]
    refine' evn_lcR (n := cellF ns start % (most + 1)) _ _ ?es (by omega) ?turn ?imm
    case es => wtm_at "es"
    case imm => exact fun x _ _ _ => imm_iD _
    case turn =>
      intro x H5 x0 x1 e5
      refine ⟨_, fun Q hq => hq, rfl, et_yes, fun _ => ?_⟩
      refine' ev_order (ev_cell (ex_l e5 hs1) rfl ?a (by omega)) ?b ⟨m0, m6⟩
      case a => wtm_at "ev"
      case b => wtm_at "ev"
  wtm_at "nx"
  have hs2 := ex_l e2 hs1
  have hv : Rp H2 (vD (votBase ns start m most)) (.ref p) := ⟨p, vs, rfl, k1, k2⟩
  -- more
  refine' s_asgI (n := cellF ns start / (most + 1)) (evd_op (ev_cell hs2 rfl ?a s0) ?b (rd_divI ⟨by omega, by omega⟩)) fun H3 e3 => ?_
  case a => wtm_at "ev"
  case b => wtm_at "ev"
  wtm_at "nx"
  have hv3 := hv.ex e3
  have e123 := (e1.trans e2).trans e3
  generalize hmore : cellF ns start / (most + 1) = more
  unfold lawVot at q
  rw [hmore] at q
  refine' s_if (b := decide (more % 8 = 5)) ?t ?yes ?no
  case t => wtm_at "et"
  case yes =>
    intro hb H4 e4
    have hb' : more % 8 = 5 := by simpa using hb
    rw [if_pos hb'] at q
    have d0 := Int.emod_nonneg (more / 8) (show 61 - most ≠ 0 by omega)
    have d1 := Int.emod_lt_of_pos (more / 8) (show 0 < 61 - most by omega)
    have hk : most + more / 8 % (61 - most) = (((most + more / 8 % (61 - most)).toNat : Nat) : Int) := by omega
    refine' s_retNw (ds := cutA (List.replicate (60 : Int).toNat ((votBase ns start m most).map iD)).flatten none (some (((most + more / 8 % (61 - most)).toNat : Nat) : Int))) (evn_slL (evn_rep ?a ?b (by omega) (by rw [List.length_map]; omega)).toD evp_none (evp_some ?c)) fun p2 ws H5 hn e5 g1 g2 => ?_
    case a => exact evd_var rfl (hv3.ex e4)
    case b => wtm_at "ev"
    case c =>
      rw [← hk]
      wtm_at "ev"
    rw [cutA_to] at g2
    refine q p2 ws H5 (fresh_back (e123.trans e4) hn) ((e123.trans e4).trans e5) g1 ?_
    have ef : ∀ n, (List.replicate n ((votBase ns start m most).map iD)).flatten = (List.replicate n (votBase ns start m most)).flatten.map iD := fun n => by
      rw [List.map_flatten, List.map_replicate]
    rw [List.map_take, ← ef]
    exact g2
  case no =>
    intro hb H4 e4
    wtm_at "nx"
    have hb' : ¬ more % 8 = 5 := by simpa using hb
    rw [if_neg hb'] at q
    have d0 := Int.emod_nonneg more (show (4 : Int) ≠ 0 by omega)
    have d1 := Int.emod_lt_of_pos more (show (0 : Int) < 4 by omega)
    have hk : more % 4 = (((more % 4).toNat : Nat) : Int) := by omega
    refine' s_retNw (ds := (votBase ns start m most).map iD ++ cutA ((votBase ns start m most).map iD) none (some (((more % 4).toNat : Nat) : Int))) (evn_cat ?a (evn_slL ?b evp_none (evp_some ?c)).toD ?d) fun p2 ws H5 hn e5 g1 g2 => ?_
    case a => exact evd_var rfl (hv3.ex e4)
    case b => exact evd_var rfl (hv3.ex e4)
    case c =>
      rw [← hk]
      wtm_at "ev"
    case d =>
      rw [cutA_to, List.length_take, List.length_map]
      omega
    rw [cutA_to] at g2
    refine q p2 ws H5 (fresh_back (e123.trans e4) hn) ((e123.trans e4).trans e5) g1 ?_
    rw [List.map_append, List.map_take]
    exact g2
end
theorem ev_voters {K : PySem.W.Frag} {σ : L2.St} {H : Hp} {t1 t2 t3 : TE} {E : XK} {ns : List Int} {sa : Addr} {i : Nat} {start m most : Int} (hs : SqL K H sa (ns.map V.int)) (hi : σ[i]? = some (some (.ref sa))) (h1 : EvD t1 σ H (.int start)) (h2 : EvD t2 σ H (.int m)) (h3 : EvD t3 σ H (.int most))
    (p : 0 ≤ start) (p2 : 0 ≤ m ∧ m ≤ 6) (p3 : 0 ≤ most ∧ most ≤ 30) : EvN (tCall (sp__law_voters K) [] E (tCons (tVar i) (tCons t1 (tCons t2 (tCons t3 tNil))))) σ H ((lawVot ns start m most).map iD) := evn_callS (start, m, most) hs hi (evs_cons h1 (evs_cons h2 (evs_cons h3 evs_nil))) ⟨p, p2, p3⟩ rfl

end Bm

namespace Bm
open PySem PySem.Spec PyProof.Rows L2 Evl
local macro_rules | `(tactic| wtm_at "rp") => `(tactic| first | exact rp_int | exact rp_bl | exact rp_str | exact rp_non | assumption | (refine' Rp.ex ?e ?h; (case h => assumption); (case e => assumption)) | exact Own.rp (by assumption))
local macro_rules | `(tactic| wtm_at "side") => `(tactic| first | assumption | omega | decide | rfl | exact ⟨by omega, by omega⟩)
local macro_rules | `(tactic| wtm_at "es") => `(tactic| first | exact evs_nil | (refine' evs_cons ?a ?b; (case a => wtm_at "ev"); (case b => wtm_at "es")))
local macro_rules | `(tactic| wtm_at "ev") => `(tactic| first
  | exact evd_int | exact evd_str | exact evd_bl | exact evd_non
  | (refine' evd_var rfl ?h; (case h => wtm_at "rp"))
  | ((with_reducible refine' evd_op ?a ?b rd_addI); (case a => wtm_at "ev"); (case b => wtm_at "ev"))
  | ((with_reducible refine' evd_op ?a ?b rd_subI); (case a => wtm_at "ev"); (case b => wtm_at "ev"))
  | ((with_reducible refine' evd_op ?a ?b (rd_mulI ?c)); (case a => wtm_at "ev"); (case b => wtm_at "ev"); (case c => wtm_at "side"))
  | ((with_reducible refine' evd_op ?a ?b (rd_divI ?c)); (case a => wtm_at "ev"); (case b => wtm_at "ev"); (case c => wtm_at "side"))
  | ((with_reducible refine' evd_op ?a ?b (rd_modI ?c)); (case a => wtm_at "ev"); (case b => wtm_at "ev"); (case c => wtm_at "side"))
  | ((with_reducible refine' evd_op ?a ?b rd_ltI); (case a => wtm_at "ev"); (case b => wtm_at "ev"))
  | ((with_reducible refine' evd_op ?a ?b rd_leI); (case a => wtm_at "ev"); (case b => wtm_at "ev"))
  | ((with_reducible refine' evd_op ?a ?b rd_gtI); (case a => wtm_at "ev"); (case b => wtm_at "ev"))
  | ((with_reducible refine' evd_op ?a ?b rd_geI); (case a => wtm_at "ev"); (case b => wtm_at "ev"))
  | ((with_reducible refine' evd_op ?a ?b rd_eqI); (case a => wtm_at "ev"); (case b => wtm_at "ev"))
  | ((with_reducible refine' evd_op ?a ?b rd_neI); (case a => wtm_at "ev"); (case b => wtm_at "ev"))
  | ((with_reducible refine' evd_op ?a ?b rd_eqB); (case a => wtm_at "ev"); (case b => wtm_at "ev"))
  | ((with_reducible refine' evd_op ?a ?b rd_neB); (case a => wtm_at "ev"); (case b => wtm_at "ev"))
  | ((with_reducible refine' evd_op ?a ?b rd_isNo); (case a => wtm_at "ev"); (case b => wtm_at "ev"))
  | ((with_reducible refine' evd_op ?a ?b rd_notNo); (case a => wtm_at "ev"); (case b => wtm_at "ev"))
  | ((with_reducible refine' evd_op ?a ?b rd_inIL); (case a => wtm_at "ev"); (case b => wtm_at "ev"))
  | ((with_reducible refine' evd_op ?a ?b rd_niIL); (case a => wtm_at "ev"); (case b => wtm_at "ev"))
  | ((with_reducible refine' evd_op ?a ?b rd_inID); (case a => wtm_at "ev"); (case b => wtm_at "ev"))
  | ((with_reducible refine' evd_op ?a ?b rd_niID); (case a => wtm_at "ev"); (case b => wtm_at "ev"))
  | ((with_reducible refine' evd_neg ?a); (case a => wtm_at "ev"))
  | ((with_reducible refine' evd_tix ?a ?b ?c); (case a => wtm_at "ev"); (case b => wtm_at "ev"); (case c => wtm_at "side"))
  | ((with_reducible refine' evd_tup ?a ?b); (case a => wtm_at "es"); (case b => exact Nat.le_of_ble_eq_true rfl))
  | ((with_reducible refine' evd_cb ?a cd_lenL); (case a => wtm_at "es"))
  | ((with_reducible refine' evd_cb ?a cd_lenT); (case a => wtm_at "es"))
  | ((with_reducible refine' evd_cb ?a cd_intB); (case a => wtm_at "es"))
  | ((with_reducible refine' evd_cb ?a cd_tupL); (case a => wtm_at "es"))
  | ((with_reducible refine' evd_and ?a ?b); (case a => wtm_at "ev"); (case b => intro _; wtm_at "ev"))
  | ((with_reducible refine' evd_or ?a ?b); (case a => wtm_at "ev"); (case b => intro _; wtm_at "ev"))
  | ((with_reducible refine' evd_not ?a); (case a => wtm_at "ev"))
  | ((with_reducible refine' evd_op ?a ?b rd_neIL); (case a => wtm_at "ev"); (case b => wtm_at "ev"))
  | ((with_reducible refine' evd_op ?a ?b rd_eqIL); (case a => wtm_at "ev"); (case b => wtm_at "ev"))
  | ((with_reducible refine' EvN.toD ?a); (case a => wtm_at "en")))
local macro_rules | `(tactic| wtm_at "en") => `(tactic| first
  | ((with_reducible refine' evn_cb ?a cn_sortTI); (case a => wtm_at "es"))
  | ((with_reducible refine' evn_cb ?a cn_listL); (case a => wtm_at "es"))
  | ((with_reducible refine' evn_cb ?a cn_listT); (case a => wtm_at "es"))
  | ((with_reducible refine' evn_rng ?a ?b); (case a => wtm_at "ev"); (case b => wtm_at "side"))
  | ((with_reducible refine' evn_lst ?a ?b); (case a => wtm_at "es"); (case b => exact Nat.le_of_ble_eq_true rfl))
  | ((with_reducible refine' evn_cat ?a ?b ?c); (case a => wtm_at "ev"); (case b => wtm_at "ev"); (case c => wtm_at "side"))
  | ((with_reducible refine' evn_slL ?a ?b ?c); (case a => wtm_at "ev"); (case b => first | exact evp_none | (refine' evp_some ?d; (case d => wtm_at "ev"))); (case c => first | exact evp_none | (refine' evp_some ?d; (case d => wtm_at "ev")))))
local macro_rules | `(tactic| wtm_at "et") => `(tactic| first
  | exact et_yes
  | (refine' ett ?a; (case a => wtm_at "ev"))
  | (refine' etB ?a; (case a => wtm_at "ev"))
  | (refine' et_and ?a ?b; (case a => wtm_at "et"); (case b => intro _; wtm_at "et"))
  | (refine' et_or ?a ?b; (case a => wtm_at "et"); (case b => intro _; wtm_at "et"))
  | (refine' et_not ?a; (case a => wtm_at "et")))
local macro_rules | `(tactic| wtm_at "nx") => `(tactic| try dsimp only [tSeq, tNext])
theorem leadF_eq (a b : Int) : ∀ vs : List (List Int), leadF vs a b = 2 * ((vs.filter fun v => decide (ixOf a v < ixOf b v)).length : Int) - (vs.length : Int)
  | [] => rfl
  | v :: vs => by
    have ih := leadF_eq a b vs
    have e : leadF (v :: vs) a b = sgn1 v a b + leadF vs a b := by unfold leadF; rw [List.map_cons, List.sum_cons]
    rw [e, ih, List.filter_cons, List.length_cons]
    unfold sgn1
    by_cases h : ixOf a v < ixOf b v
    · rw [if_pos h, if_pos (by simpa using h), List.length_cons]
      omega
    · rw [if_neg h, if_neg (by simpa using h)]
      omega
def sp__law_lead : Sp := spO (α := List (List Int) × Int × Int) (fun a => [vD a.1, .int a.2.1, .int a.2.2]) (fun a => a.1.length ≤ 1000 ∧ ∀ v ∈ a.1, a.2.1 ∈ v ∧ a.2.2 ∈ v) fun a => .val (.int (leadF a.1 a.2.1 a.2.2))
theorem len__law_lead (vs : List V) (H : Hp) (Q : VK) (E : XK) (h : sp__law_lead vs H Q E) : vs.length = 3 := by
  unfold sp__law_lead at h
  obtain ⟨a, r, _⟩ := h
  rw [r.len]
  rfl
section
variable {P : Program} {w : World} {K : PySem.W.Frag} {mg : Str → Option Value} {base : Heap}
theorem ok__law_lead {f : Addr} {fd : FuncData} (D : Df K mg "_law_lead" s__law_lead ["voters", "one", "other"] f fd) (Bi : Bi mg) : FnOk P w K mg base CX0 1 f fd ["voters", "one", "other"] sp__law_lead := by
  refine D.F.ok c__law_lead (fun vs H Q E h => len__law_lead _ _ _ _ h) (fun cdv A outer s H vs Q E hr h => ?_)
  refine ⟨_, (pss_cons (ps_setLc (i := 3) (own := [("voter", 4)]) (g := (gName 4)) rfl c__law_lead.nd rfl rfl (sw_true rfl rfl rfl (by decide +kernel)) (pi_listK (K := K) (pv 0)) (blkOk_by (own := [("voter", 4)]) (N := ["voters", "one", "other", "ahead", "voter"]) (sc := defScope s__law_lead) (by decide +kernel)) (fun _ _ _ _ _ => (pg_name (i := 4) c__law_lead.nd rfl (.inl rfl))) (fun _ _ _ _ _ => pts_one (pt_cmpR op_ltI (pe_tm PySem.F.plainAttrs_tuple PySem.F.slot_tuple_index PySem.F.type_tuple_index (mt_tupIxK (K := K)) (pv 4) (pa_cons (pv 1) pa_nil)) (pe_tm PySem.F.plainAttrs_tuple PySem.F.slot_tuple_index PySem.F.type_tuple_index (mt_tupIxK (K := K)) (pv 4) (pa_cons (pv 2) pa_nil)) (nomark _))) (fun _ _ _ _ _ => (pv 4)))
      (pss_one (ps_ret (pe_op op_subI (pe_op op_mulI pe_int (pe_callB (cr_lenK (K := K)) (by rfl) Bi.len (by decide +kernel) (pa_cons (pv 3) pa_nil))) (pe_callB (cr_lenK (K := K)) (by rfl) Bi.len (by decide +kernel) (pa_cons (pv 0) pa_nil)))))), ?_⟩
  obtain ⟨⟨vss, a, b⟩, ⟨v1, _, rfl, hv, v2, _, rfl, rfl, v3, _, rfl, rfl, rfl⟩, ⟨hl, hp⟩, q⟩ := h
  dsimp only at q hv hp hl
  refine' s_asgO (ds := ((vss.filter fun v => decide (ixOf a v < ixOf b v)).map iD)) ?x (imm_vD _) fun p H1 e1 o1 => ?_
  case x =>
    refine' evn_lcL (f := iD) (xs := vss) (fun v => decide (ixOf a v < ixOf b v)) iD (evd_var rfl hv) (by omega) ?turn fun x _ _ => imm_iD x
    intro x v H5 hx e5 r
    obtain ⟨pa, pb⟩ := hp x hx
    refine ⟨_, fun Q hq => hq, rfl, ?_, fun _ => evd_var rfl r⟩
    rw [show decide (ixOf a x < ixOf b x) = decide ((ixOf a x : Int) < (ixOf b x : Int)) from decide_eq_decide.mpr (by omega)]
    wtm_at "et"
  wtm_at "nx"
  have hv1 := hv.ex e1
  have l1 : EvD (tCB (rLenS K) (tCons (tVar 3) tNil)) ([some v1, some (V.int a), some (V.int b), some (.ref p), none]) H1 (.int ((vss.filter fun v => decide (ixOf a v < ixOf b v)).map iD).length) := evd_cb (evs_cons (evd_var rfl o1.rp) evs_nil) cd_lenL
  have l2 : EvD (tCB (rLenS K) (tCons (tVar 0) tNil)) ([some v1, some (V.int a), some (V.int b), some (.ref p), none]) H1 (.int (vss.map iD).length) := evd_cb (evs_cons (evd_var rfl hv1) evs_nil) cd_lenL
  rw [List.length_map] at l1 l2
  rw [leadF_eq] at q
  exact s_retD (evd_op (evd_op evd_int l1 (rd_mulI (.inl ⟨by omega, by omega⟩))) l2 rd_subI) fun v H2 e2 r => q v H2 (e1.trans e2) r
end
theorem ev_llead {σ : L2.St} {H : Hp} {t1 t2 t3 : TE} {E : XK} {vss : List (List Int)} {a b : Int} (h1 : EvD t1 σ H (vD vss)) (h2 : EvD t2 σ H (.int a)) (h3 : EvD t3 σ H (.int b)) (l : vss.length ≤ 1000) (p : ∀ v ∈ vss, a ∈ v ∧ b ∈ v) :
    EvD (tCall sp__law_lead [] E (tCons t1 (tCons t2 (tCons t3 tNil)))) σ H (.int (leadF vss a b)) := evd_callO (vss, a, b) (evs_cons h1 (evs_cons h2 (evs_cons h3 evs_nil))) ⟨l, p⟩ rfl
/-- the beats of a thing over those below j -/
def beatsOneTo (vs : List (List Int)) (a : Int) (j : Nat) : List (Int × Int) := ((rgI 0 j).filter fun b => !decide (a = b) && decide (0 < leadF vs a b)).map fun b => (a, b)
theorem beatsOneTo_succ (vs : List (List Int)) (a : Int) (j : Nat) : beatsOneTo vs a (j + 1) = beatsOneTo vs a j ++ if (!decide (a = (j : Int)) && decide (0 < leadF vs a j)) = true then [(a, (j : Int))] else [] := by
  unfold beatsOneTo
  rw [rgI_snoc, List.filter_append, List.map_append]
  congr 1
  rw [Int.zero_add, List.filter_cons]
  split <;> rfl
theorem beatsOneTo_len (vs : List (List Int)) (a : Int) (j : Nat) : (beatsOneTo vs a j).length ≤ j := by
  unfold beatsOneTo
  rw [List.length_map]
  exact Nat.le_trans (List.length_filter_le _ _) (by rw [rgI_len]; exact Nat.le_refl _)
def sp__law_beats : Sp := spO (α := Int × List (List Int)) (fun a => [.int a.1, vD a.2]) (fun a => (0 ≤ a.1 ∧ a.1 ≤ 6) ∧ a.2.length ≤ 1000 ∧ isVot a.1 a.2) fun a => .new ((beatsF a.1 a.2).map pD)
theorem len__law_beats (vs : List V) (H : Hp) (Q : VK) (E : XK) (h : sp__law_beats vs H Q E) : vs.length = 2 := by
  unfold sp__law_beats at h
  obtain ⟨a, r, _⟩ := h
  rw [r.len]
  rfl
section
variable {P : Program} {w : World} {K : PySem.W.Frag} {mg : Str → Option Value} {base : Heap}
theorem ok__law_beats {f : Addr} {fd : FuncData} (D : Df K mg "_law_beats" s__law_beats ["many", "voters"] f fd) (Bi : Bi mg) {f__law_lead : Addr} {fd__law_lead : FuncData} (D__law_lead : Df K mg "_law_lead" s__law_lead ["voters", "one", "other"] f__law_lead fd__law_lead) (G__law_lead : FnOk P w K mg base CX0 1 f__law_lead fd__law_lead ["voters", "one", "other"] sp__law_lead) : FnOk P w K mg base CX0 2 f fd ["many", "voters"] sp__law_beats := by
  refine D.F.ok c__law_beats (fun vs H Q E h => len__law_beats _ _ _ _ h) (fun cdv A outer s H vs Q E hr h => ?_)
  refine ⟨_, (pss_cons (ps_set (i := 2) c__law_beats.nd rfl (.inl rfl) (pe_lst pa_nil))
      (pss_cons (ps_for (PassesOwn.never) rfl (pi_range1 (by rfl) Bi.range (pa_cons (pv 0) pa_nil)) (pg_name (i := 3) c__law_beats.nd rfl (.inl rfl))
      (pss_one (ps_for (PassesOwn.never) rfl (pi_range1 (by rfl) Bi.range (pa_cons (pv 0) pa_nil)) (pg_name (i := 4) c__law_beats.nd rfl (.inl rfl))
      (pss_one (ps_if (PW.pt (pw_and (pt_cmpR op_neI (pv 3) (pv 4) (nomark _)) (pw_and1 (pt_cmpR op_gtI (pe_call G__law_lead (hr.mono (by decide)) (by rfl) D__law_lead.g D__law_lead.F.kp D__law_lead.b .nil pass0 (pa_cons (pv 1) (pa_cons (pv 3) (pa_cons (pv 4) pa_nil)))) pe_int (nomark _)))))
      (pss_one (ps_expr (pe_bm PySem.F.plainAttrs_list PySem.F.slot_list_append PySem.F.type_list_append mt_append (pv 2) (pa_cons (pe_tupF (pa_cons (pv 3) (pa_cons (pv 4) pa_nil))) pa_nil))))
      pss_nil)))))
      (pss_one (ps_ret (pv 2))))), ?_⟩
  obtain ⟨⟨m, vss⟩, ⟨v1, _, rfl, rfl, v2, _, rfl, hv, rfl⟩, ⟨⟨m0, m6⟩, hl, hp⟩, q⟩ := h
  dsimp only at q hv hp m0 m6 hl
  refine' s_asgO (evn_lst evs_nil (by decide)) rfl fun p H1 e1 o1 => ?_
  wtm_at "nx"
  refine' s_forR (n := m) ?n (by omega) fun H3 e3 => ⟨fun i σ' H' => (∃ y z, σ' = [some (.int m), some v2, some (.ref p), y, z]) ∧ i ≤ m.toNat ∧ Own H H' p ((beatsTo m vss i).map pD), ?_, ?_, ?_⟩
  case n => wtm_at "es"
  · exact ⟨⟨none, none, rfl⟩, Nat.zero_le _, o1.step e3⟩
  · rintro i σ' H' hi ⟨⟨y, z, rfl⟩, hi2, o⟩
    have l1 := beatsTo_len ⟨m0, m6⟩ vss (i := i) (by omega)
    refine g_name ?_
    refine' s_forR (n := m) ?n (by omega) fun H4 e4 => ⟨fun j σ' H' => (∃ z, σ' = [some (.int m), some v2, some (.ref p), some (.int i), z]) ∧ j ≤ m.toNat ∧ Own H H' p ((beatsTo m vss i ++ beatsOneTo vss i j).map pD), ?_, ?_, ?_⟩
    case n => wtm_at "es"
    · refine ⟨⟨z, rfl⟩, Nat.zero_le _, ?_⟩
      rw [show beatsOneTo vss i 0 = [] from rfl, List.append_nil]
      exact o.step e4
    · rintro j σ' H' hj ⟨⟨z, rfl⟩, hj2, o⟩
      have l2 := beatsOneTo_len vss i j
      have hv2 : Rp H' (vD vss) v2 := hv.ex o.ex
      refine g_name ?_
      refine' s_if (b := !decide ((i : Int) = (j : Int)) && decide (0 < leadF vss i j)) ?t ?yes ?no
      case t =>
        refine' et_and ?a fun hab => ?b
        case a => wtm_at "et"
        case b =>
          refine' ett (evd_op (ev_llead ?p1 ?p2 ?p3 hl ?p4) evd_int rd_gtI)
          case p1 => wtm_at "ev"
          case p2 => wtm_at "ev"
          case p3 => wtm_at "ev"
          case p4 =>
            intro v hm
            exact ⟨(hp v hm).mem.mpr (by omega), (hp v hm).mem.mpr (by omega)⟩
      case yes =>
        intro hb H5 e5
        refine' s_appO (d := pD ((i : Int), (j : Int))) (o.step e5) rfl ?x rfl ?sz ?k
        case x => wtm_at "ev"
        case sz =>
          rw [List.length_map, List.length_append]
          omega
        case k =>
          intro H6 x6 o6
          refine ⟨⟨_, rfl⟩, by omega, ?_⟩
          rw [beatsOneTo_succ, if_pos hb, ← List.append_assoc, List.map_append]
          exact o6
      case no =>
        intro hb H5 e5
        refine ⟨⟨_, rfl⟩, by omega, ?_⟩
        rw [beatsOneTo_succ, if_neg (by rw [hb]; exact Bool.false_ne_true), List.append_nil]
        exact o.step e5
    · rintro σ' H' ⟨⟨z, rfl⟩, _, o⟩
      refine ⟨⟨_, _, rfl⟩, by omega, ?_⟩
      rw [beatsTo_succ]
      exact o
  · rintro σ' H' ⟨⟨y, z, rfl⟩, _, o⟩
    obtain ⟨ws, k1, k2⟩ := o.has
    exact ⟨_, rfl, q p ws H' o.new o.ex k1 k2⟩
end
theorem ev_lbeats {σ : L2.St} {H : Hp} {t0 t1 : TE} {E : XK} {m : Int} {vss : List (List Int)} (h0 : EvD t0 σ H (.int m)) (h1 : EvD t1 σ H (vD vss)) (c : 0 ≤ m ∧ m ≤ 6) (l : vss.length ≤ 1000) (p : isVot m vss) :
    EvN (tCall sp__law_beats [] E (tCons t0 (tCons t1 tNil))) σ H ((beatsF m vss).map pD) := evn_callO (m, vss) (evs_cons h0 (evs_cons h1 evs_nil)) ⟨c, l, p⟩ rfl

end Bm

namespace Bm
open PySem PySem.Spec PyProof.Rows L2 Evl
local macro_rules | `(tactic| wtm_at "rp") => `(tactic| first | exact rp_int | exact rp_bl | exact rp_str | exact rp_non | assumption | (refine' Rp.ex ?e ?h; (case h => assumption); (case e => assumption)) | exact Own.rp (by assumption))
local macro_rules | `(tactic| wtm_at "side") => `(tactic| first | assumption | omega | decide | rfl | exact ⟨by omega, by omega⟩)
local macro_rules | `(tactic| wtm_at "es") => `(tactic| first | exact evs_nil | (refine' evs_cons ?a ?b; (case a => wtm_at "ev"); (case b => wtm_at "es")))
local macro_rules | `(tactic| wtm_at "ev") => `(tactic| first
  | exact evd_int | exact evd_str | exact evd_bl | exact evd_non
  | (refine' evd_var rfl ?h; (case h => wtm_at "rp"))
  | ((with_reducible refine' evd_op ?a ?b rd_addI); (case a => wtm_at "ev"); (case b => wtm_at "ev"))
  | ((with_reducible refine' evd_op ?a ?b rd_subI); (case a => wtm_at "ev"); (case b => wtm_at "ev"))
  | ((with_reducible refine' evd_op ?a ?b (rd_mulI ?c)); (case a => wtm_at "ev"); (case b => wtm_at "ev"); (case c => wtm_at "side"))
  | ((with_reducible refine' evd_op ?a ?b (rd_divI ?c)); (case a => wtm_at "ev"); (case b => wtm_at "ev"); (case c => wtm_at "side"))
  | ((with_reducible refine' evd_op ?a ?b (rd_modI ?c)); (case a => wtm_at "ev"); (case b => wtm_at "ev"); (case c => wtm_at "side"))
  | ((with_reducible refine' evd_op ?a ?b rd_ltI); (case a => wtm_at "ev"); (case b => wtm_at "ev"))
  | ((with_reducible refine' evd_op ?a ?b rd_leI); (case a => wtm_at "ev"); (case b => wtm_at "ev"))
  | ((with_reducible refine' evd_op ?a ?b rd_gtI); (case a => wtm_at "ev"); (case b => wtm_at "ev"))
  | ((with_reducible refine' evd_op ?a ?b rd_geI); (case a => wtm_at "ev"); (case b => wtm_at "ev"))
  | ((with_reducible refine' evd_op ?a ?b rd_eqI); (case a => wtm_at "ev"); (case b => wtm_at "ev"))
  | ((with_reducible refine' evd_op ?a ?b rd_neI); (case a => wtm_at "ev"); (case b => wtm_at "ev"))
  | ((with_reducible refine' evd_op ?a ?b rd_eqB); (case a => wtm_at "ev"); (case b => wtm_at "ev"))
  | ((with_reducible refine' evd_op ?a ?b rd_neB); (case a => wtm_at "ev"); (case b => wtm_at "ev"))
  | ((with_reducible refine' evd_op ?a ?b rd_isNo); (case a => wtm_at "ev"); (case b => wtm_at "ev"))
  | ((with_reducible refine' evd_op ?a ?b rd_notNo); (case a => wtm_at "ev"); (case b => wtm_at "ev"))
  | ((with_reducible refine' evd_op ?a ?b rd_inIL); (case a => wtm_at "ev"); (case b => wtm_at "ev"))
  | ((with_reducible refine' evd_op ?a ?b rd_niIL); (case a => wtm_at "ev"); (case b => wtm_at "ev"))
  | ((with_reducible refine' evd_op ?a ?b rd_inID); (case a => wtm_at "ev"); (case b => wtm_at "ev"))
  | ((with_reducible refine' evd_op ?a ?b rd_niID); (case a => wtm_at "ev"); (case b => wtm_at "ev"))
  | ((with_reducible refine' evd_neg ?a); (case a => wtm_at "ev"))
  | ((with_reducible refine' evd_tix ?a ?b ?c); (case a => wtm_at "ev"); (case b => wtm_at "ev"); (case c => wtm_at "side"))
  | ((with_reducible refine' evd_tup ?a ?b); (case a => wtm_at "es"); (case b => exact Nat.le_of_ble_eq_true rfl))
  | ((with_reducible refine' evd_cb ?a cd_lenL); (case a => wtm_at "es"))
  | ((with_reducible refine' evd_cb ?a cd_lenT); (case a => wtm_at "es"))
  | ((with_reducible refine' evd_cb ?a cd_intB); (case a => wtm_at "es"))
  | ((with_reducible refine' evd_cb ?a cd_tupL); (case a => wtm_at "es"))
  | ((with_reducible refine' evd_and ?a ?b); (case a => wtm_at "ev"); (case b => intro _; wtm_at "ev"))
  | ((with_reducible refine' evd_or ?a ?b); (case a => wtm_at "ev"); (case b => intro _; wtm_at "ev"))
  | ((with_reducible refine' evd_not ?a); (case a => wtm_at "ev"))
  | ((with_reducible refine' evd_op ?a ?b rd_neIL); (case a => wtm_at "ev"); (case b => wtm_at "ev"))
  | ((with_reducible refine' evd_op ?a ?b rd_eqIL); (case a => wtm_at "ev"); (case b => wtm_at "ev"))
  | ((with_reducible refine' EvN.toD ?a); (case a => wtm_at "en")))
local macro_rules | `(tactic| wtm_at "en") => `(tactic| first
  | ((with_reducible refine' evn_cb ?a cn_sortTI); (case a => wtm_at "es"))
  | ((with_reducible refine' evn_cb ?a cn_listL); (case a => wtm_at "es"))
  | ((with_reducible refine' evn_cb ?a cn_listT); (case a => wtm_at "es"))
  | ((with_reducible refine' evn_rng ?a ?b); (case a => wtm_at "ev"); (case b => wtm_at "side"))
  | ((with_reducible refine' evn_lst ?a ?b); (case a => wtm_at "es"); (case b => exact Nat.le_of_ble_eq_true rfl))
  | ((with_reducible refine' evn_cat ?a ?b ?c); (case a => wtm_at "ev"); (case b => wtm_at "ev"); (case c => wtm_at "side"))
  | ((with_reducible refine' evn_slL ?a ?b ?c); (case a => wtm_at "ev"); (case b => first | exact evp_none | (refine' evp_some ?d; (case d => wtm_at "ev"))); (case c => first | exact evp_none | (refine' evp_some ?d; (case d => wtm_at "ev")))))
local macro_rules | `(tactic| wtm_at "et") => `(tactic| first
  | exact et_yes
  | (refine' ett ?a; (case a => wtm_at "ev"))
  | (refine' etB ?a; (case a => wtm_at "ev"))
  | (refine' et_and ?a ?b; (case a => wtm_at "et"); (case b => intro _; wtm_at "et"))
  | (refine' et_or ?a ?b; (case a => wtm_at "et"); (case b => intro _; wtm_at "et"))
  | (refine' et_not ?a; (case a => wtm_at "et")))
local macro_rules | `(tactic| wtm_at "nx") => `(tactic| try dsimp only [tSeq, tNext])
/-! ### a drawn web -/
def wish1 (way : Int) (st : List Int) (p : Int × Int) (cell : Int) : Int := if way = 3 then (if cell % 3 < 2 then (if ixOf p.2 st < ixOf p.1 st then 1 else 0) else cell % 3) else cell % 3
def wish2 (way : Int) (st : List Int) (p : Int × Int) (cell : Int) : Int := if way = 1 then wish1 way st p cell % 2 else wish1 way st p cell
def pickF (way : Int) (st : List Int) (p : Int × Int) (cell : Int) : List (Int × Int) := if wish2 way st p cell < 2 ∨ way = 2 then [if wish2 way st p cell % 2 = 0 then p else swp p] else []
def webL (way : Int) (st : List Int) : List (Int × Int) → Int → List (Int × Int)
  | [], _ => []
  | p :: r, cell => pickF way st p cell ++ webL way st r (cell / 3)
def webRaw (ns : List Int) (start m : Int) : List (Int × Int) := webL (cellF ns (start + 1) % 4) (lawOrd (cellF ns (start + 1) / 16) m) (prs m 0) (cellF ns start)
def lawTurn (ns : List Int) (start m : Int) : Nat := (cellF ns (start + 1) / 4 % ((webRaw ns start m).length + 1 : Int)).toNat
def lawWeb (ns : List Int) (start m : Int) : List (Int × Int) := (webRaw ns start m).drop (lawTurn ns start m) ++ (webRaw ns start m).take (lawTurn ns start m)
theorem pickF_len (way : Int) (st : List Int) (p : Int × Int) (cell : Int) : (pickF way st p cell).length ≤ 1 := by
  unfold pickF
  split
  · exact Nat.le_refl _
  · exact Nat.zero_le _
theorem webL_len (way : Int) (st : List Int) : ∀ (r : List (Int × Int)) (cell : Int), (webL way st r cell).length ≤ r.length
  | [], _ => Nat.le_refl _
  | p :: r, cell => by
    have := pickF_len way st p cell
    have := webL_len way st r (cell / 3)
    show (pickF way st p cell ++ webL way st r (cell / 3)).length ≤ _
    rw [List.length_append, List.length_cons]
    omega
theorem webL_mem {way : Int} {st : List Int} {q : Int × Int} : ∀ {r : List (Int × Int)} {cell : Int}, q ∈ webL way st r cell → q ∈ r ∨ swp q ∈ r
  | [], _, h => by simp [webL] at h
  | p :: r, cell, h => by
    rcases List.mem_append.mp (show q ∈ pickF way st p cell ++ webL way st r (cell / 3) from h) with h | h
    · unfold pickF at h
      split at h
      · rw [List.mem_singleton] at h
        split at h
        · exact .inl (h ▸ List.mem_cons_self)
        · exact .inr (by rw [h, swp_swp]; exact List.mem_cons_self)
      · cases h
    · exact (webL_mem h).imp (List.mem_cons_of_mem _) (List.mem_cons_of_mem _)
theorem webL_nodup {way : Int} {st : List Int} : ∀ {r : List (Int × Int)} {cell : Int}, (∀ p ∈ r, p.1 < p.2) → r.Nodup → ((webL way st r cell).map nrm).Nodup
  | [], _, _, _ => List.nodup_nil
  | p :: r, cell, h, n => by
    have ih := webL_nodup (way := way) (st := st) (r := r) (cell := cell / 3) (fun q hq => h q (List.mem_cons_of_mem _ hq)) (List.nodup_cons.mp n).2
    have hp := h p List.mem_cons_self
    have key : nrm p ∉ (webL way st r (cell / 3)).map nrm := fun z => by
      have np := (List.nodup_cons.mp n).1
      have ns : swp p ∉ r := fun z => by
        have := h _ (List.mem_cons_of_mem _ z)
        have e : (swp p).1 < (swp p).2 := this
        unfold swp at e
        dsimp only at e
        omega
      rcases nrm_mem.mp z with z | z
      · exact (webL_mem z).elim np ns
      · exact (webL_mem z).elim ns np
    show ((pickF way st p cell ++ webL way st r (cell / 3)).map nrm).Nodup
    unfold pickF
    split
    · rw [List.singleton_append, List.map_cons]
      refine List.nodup_cons.mpr ⟨?_, ih⟩
      have e : ∀ b : Bool, nrm (if b = true then p else swp p) = nrm p := fun b => by
        cases b with
        | true => rfl
        | false => exact nrm_iff.mpr (.inr rfl)
      have e2 := e (decide (wish2 way st p cell % 2 = 0))
      simp only [decide_eq_true_eq] at e2
      rw [e2]
      exact key
    · exact ih
theorem webRaw_web (ns : List Int) (start : Int) {m : Int} : isWeb m (webRaw ns start m) := by
  unfold webRaw
  refine isWeb_set.mpr ⟨fun p hp => ?_, webL_nodup (fun p hp => (mem_prs.mp hp).2.1) (prs_nodup m 0)⟩
  rw [goodB_iff]
  rcases webL_mem hp with h | h
  · rw [mem_prs] at h
    omega
  · rw [mem_prs] at h
    unfold swp at h
    dsimp only at h
    omega
theorem webRaw_len (ns : List Int) (start : Int) {m : Int} (hm : 0 ≤ m ∧ m ≤ 6) : (webRaw ns start m).length ≤ 15 := Nat.le_trans (webL_len _ _ _ _) (prs_len hm)
theorem lawWeb_perm (ns : List Int) (start m : Int) : (lawWeb ns start m).Perm (webRaw ns start m) := by
  unfold lawWeb
  have := List.perm_append_comm (l₁ := (webRaw ns start m).drop (lawTurn ns start m)) (l₂ := (webRaw ns start m).take (lawTurn ns start m))
  rwa [List.take_append_drop] at this
theorem lawWeb_web (ns : List Int) (start m : Int) : isWeb m (lawWeb ns start m) := (webRaw_web ns start).perm (lawWeb_perm ns start m).symm
theorem lawWeb_len (ns : List Int) (start : Int) {m : Int} (hm : 0 ≤ m ∧ m ≤ 6) : (lawWeb ns start m).length ≤ 15 := by
  rw [(lawWeb_perm ns start m).length_eq]
  exact webRaw_len ns start hm
def sp__law_web (K : PySem.W.Frag) : Sp := spS (α := Int × Int) K (fun a => [.int a.1, .int a.2]) (fun _ a => 0 ≤ a.1 ∧ 0 ≤ a.2 ∧ a.2 ≤ 6) fun ns a => .new ((lawWeb ns a.1 a.2).map pD)
theorem len__law_web {K : PySem.W.Frag} (vs : List V) (H : Hp) (Q : VK) (E : XK) (h : (sp__law_web K) vs H Q E) : vs.length = 3 := by
  unfold sp__law_web at h
  obtain ⟨ns, a, sa, r, rfl, _, h, _⟩ := h
  rw [List.length_cons, h.len]
  rfl
section
variable {P : Program} {w : World} {K : PySem.W.Frag} {mg : Str → Option Value} {base : Heap}
theorem ok__law_web {f : Addr} {fd : FuncData} (D : Df K mg "_law_web" s__law_web ["script", "start", "many"] f fd) (Bi : Bi mg) {f__law_cell_at : Addr} {fd__law_cell_at : FuncData} (D__law_cell_at : Df K mg "_law_cell_at" s__law_cell_at ["script", "k"] f__law_cell_at fd__law_cell_at) (G__law_cell_at : FnOk P w K mg base CX0 1 f__law_cell_at fd__law_cell_at ["script", "k"] (sp__law_cell_at K)) {f__law_order : Addr} {fd__law_order : FuncData} (D__law_order : Df K mg "_law_order" s__law_order ["cell", "many"] f__law_order fd__law_order) (G__law_order : FnOk P w K mg base CX0 1 f__law_order fd__law_order ["cell", "many"] sp__law_order) : FnOk P w K mg base CX0 2 f fd ["script", "start", "many"] (sp__law_web K) := by
  refine D.F.ok c__law_web (fun vs H Q E h => len__law_web _ _ _ _ h) (fun cdv A outer s H vs Q E hr h => ?_)
  refine ⟨_, (pss_cons (ps_set (i := 3) c__law_web.nd rfl (.inl rfl) (pe_call G__law_cell_at (hr.mono (by decide)) (by rfl) D__law_cell_at.g D__law_cell_at.F.kp D__law_cell_at.b .nil pass0 (pa_cons (pv 0) (pa_cons (pv 1) pa_nil))))
      (pss_cons (ps_set (i := 4) c__law_web.nd rfl (.inl rfl) (pe_op op_modI (pe_call G__law_cell_at (hr.mono (by decide)) (by rfl) D__law_cell_at.g D__law_cell_at.F.kp D__law_cell_at.b .nil pass0 (pa_cons (pv 0) (pa_cons (pe_op op_addI (pv 1) pe_int) pa_nil))) pe_int))
      (pss_cons (ps_set (i := 5) c__law_web.nd rfl (.inl rfl) (pe_lst pa_nil))
      (pss_cons (ps_set (i := 6) c__law_web.nd rfl (.inl rfl) (pe_listRg rfl (by rfl) Bi.list (prg_1 (by rfl) Bi.range (pv 2))))
      (pss_cons (ps_if (pt_cmpR op_eqI (pv 4) pe_int (nomark _))
      (pss_one (ps_set (i := 6) c__law_web.nd rfl (.inl rfl) (pe_call G__law_order (hr.mono (by decide)) (by rfl) D__law_order.g D__law_order.F.kp D__law_order.b .nil pass0 (pa_cons (pe_op op_divI (pe_call G__law_cell_at (hr.mono (by decide)) (by rfl) D__law_cell_at.g D__law_cell_at.F.kp D__law_cell_at.b .nil pass0 (pa_cons (pv 0) (pa_cons (pe_op op_addI (pv 1) pe_int) pa_nil))) pe_int) (pa_cons (pv 2) pa_nil)))))
      pss_nil)
      (pss_cons (ps_for (PassesOwn.never) rfl (pi_range1 (by rfl) Bi.range (pa_cons (pv 2) pa_nil)) (pg_name (i := 7) c__law_web.nd rfl (.inl rfl))
      (pss_one (ps_for (PassesOwn.never) rfl (pi_range2 (by rfl) Bi.range (pa_cons (pe_op op_addI (pv 7) pe_int) (pa_cons (pv 2) pa_nil))) (pg_name (i := 8) c__law_web.nd rfl (.inl rfl))
      (pss_cons (ps_set (i := 9) c__law_web.nd rfl (.inl rfl) (pe_op op_modI (pv 3) pe_int))
      (pss_cons (ps_set (i := 3) c__law_web.nd rfl (.inl rfl) (pe_op op_divI (pv 3) pe_int))
      (pss_cons (ps_if (pt_cmpR op_eqI (pv 4) pe_int (nomark _))
      (pss_one (ps_if (pt_cmpR op_ltI (pv 9) pe_int (nomark _))
      (pss_one (ps_set (i := 9) c__law_web.nd rfl (.inl rfl) (pe_callTy cr_intB (by rfl) Bi.int (by decide +kernel) (pa_cons (pe_cmpR op_gtI (pe_tm PySem.F.plainAttrs_tuple PySem.F.slot_tuple_index PySem.F.type_tuple_index (mt_tupIxK (K := K)) (pv 6) (pa_cons (pv 7) pa_nil)) (pe_tm PySem.F.plainAttrs_tuple PySem.F.slot_tuple_index PySem.F.type_tuple_index (mt_tupIxK (K := K)) (pv 6) (pa_cons (pv 8) pa_nil)) (nomark _)) pa_nil))))
      pss_nil))
      pss_nil)
      (pss_cons (ps_if (pt_cmpR op_eqI (pv 4) pe_int (nomark _))
      (pss_one (ps_set (i := 9) c__law_web.nd rfl (.inl rfl) (pe_op op_modI (pv 9) pe_int)))
      pss_nil)
      (pss_one (ps_if (PW.pt (pw_or (pt_cmpR op_ltI (pv 9) pe_int (nomark _)) (pw_or1 (pt_cmpR op_eqI (pv 4) pe_int (nomark _)))))
      (pss_one (ps_expr (pe_bm PySem.F.plainAttrs_list PySem.F.slot_list_append PySem.F.type_list_append mt_append (pv 5) (pa_cons (pe_ix (ix_listK (K := K)) (pe_lst (pa_cons (pe_tupF (pa_cons (pv 7) (pa_cons (pv 8) pa_nil))) (pa_cons (pe_tupF (pa_cons (pv 8) (pa_cons (pv 7) pa_nil))) pa_nil))) (pe_op op_modI (pv 9) pe_int) (fun _ _ => rfl)) pa_nil))))
      pss_nil)))))))))
      (pss_cons (ps_set (i := 10) c__law_web.nd rfl (.inl rfl) (pe_op op_modI (pe_op op_divI (pe_call G__law_cell_at (hr.mono (by decide)) (by rfl) D__law_cell_at.g D__law_cell_at.F.kp D__law_cell_at.b .nil pass0 (pa_cons (pv 0) (pa_cons (pe_op op_addI (pv 1) pe_int) pa_nil))) pe_int) (pe_op op_addI (pe_callB (cr_lenK (K := K)) (by rfl) Bi.len (by decide +kernel) (pa_cons (pv 5) pa_nil)) pe_int)))
      (pss_one (ps_ret (pe_op op_cat (pe_slice (sl_listK (K := K)) (pv 5) (po_some (pv 10)) po_none) (pe_slice (sl_listK (K := K)) (pv 5) po_none (po_some (pv 10))))))))))))), ?_⟩
  obtain ⟨ns, ⟨start, m⟩, sa, _, rfl, hs, ⟨v2, _, rfl, rfl, v3, _, rfl, rfl, rfl⟩, ⟨s0, m0, m6⟩, q⟩ := h
  dsimp only at q s0 m0 m6
  have hrl := webRaw_len ns start ⟨m0, m6⟩
  refine' s_asgI (n := cellF ns start) (ev_cell hs rfl ?a s0) fun H1 e1 => ?_
  case a => wtm_at "ev"
  wtm_at "nx"
  have hs1 := ex_l e1 hs
  refine' s_asgI (n := cellF ns (start + 1) % 4) (evd_op (ev_cell hs1 rfl ?a (by omega)) ?b (rd_modI (by omega))) fun H2 e2 => ?_
  case a => wtm_at "ev"
  case b => wtm_at "ev"
  wtm_at "nx"
  have hs2 := ex_l e2 hs1
  have e12 := e1.trans e2
  generalize hway : cellF ns (start + 1) % 4 = way
  refine' s_asgO (evn_lst evs_nil (by decide)) rfl fun pw H3 e3 o3 => ?_
  wtm_at "nx"
  have hs3 := ex_l e3 hs2
  have o3 := o3.lower e12
  -- how they stand
  generalize hst : lawOrd (cellF ns (start + 1) / 16) m = st
  have hord : isOrd m st := hst ▸ lawOrd_ord _ _
  have hraw : webL way st (prs m 0) (cellF ns start) = webRaw ns start m := by
    unfold webRaw
    rw [hway, hst]
  refine' s_asgNw (ds := (rgI 0 m.toNat).map .int) (evn_rng (n := m) ?n (by omega)) fun p4 vs4 H4 n4 e4 g1 g2 => ?_
  case n => wtm_at "ev"
  wtm_at "nx"
  have hs4 := ex_l e4 hs3
  have o4 := o3.step e4
  refine joinK (A := V) (fun v => [some (.ref sa), some (.int start), some (.int m), some (.int (cellF ns start)), some (.int way), some (.ref pw), some v, none, none, none, none])
    (fun v H' => Ex H4 H' ∧ (way = 3 → Rp H' (iD st) v)) (fun vst H5 => ?_) fun cont => ?_
  rotate_left
  · refine' s_if (b := decide (way = 3)) ?t ?yes ?no
    case t => wtm_at "et"
    case yes =>
      intro hb H5 e5
      have hs5 := ex_l e5 hs4
      refine' s_asgD (d := iD st) ((ev_order (c := cellF ns (start + 1) / 16) (m := m) (evd_op (ev_cell (k := start + 1) hs5 rfl ?a (by omega)) evd_int (rd_divI (j := 16) ⟨by omega, by omega⟩)) ?c ⟨m0, m6⟩).is (by rw [hst])) fun v H6 e6 r => ?_
      case a => wtm_at "ev"
      case c => wtm_at "ev"
      exact cont v H6 ⟨e5.trans e6, fun _ => r⟩
    case no =>
      intro hb H5 e5
      exact cont _ H5 ⟨e5, fun z => absurd z (by simpa using hb)⟩
  · rintro ⟨e5, hv5⟩
    wtm_at "nx"
    have o5 := o4.step e5
    have hbig : ∀ {acc r : List (Int × Int)} {cell : Int}, acc ++ webL way st r cell = webRaw ns start m → acc.length ≤ 15 := fun h => by
      have := congrArg List.length h
      rw [List.length_append] at this
      omega
    refine' s_forR (n := m) ?n (by omega) fun H6 e6 => ⟨fun i σ' H' => ∃ cell acc y z u, σ' = [some (.ref sa), some (.int start), some (.int m), some (.int cell), some (.int way), some (.ref pw), some vst, y, z, u, none] ∧ i ≤ m.toNat ∧ Own H H' pw (acc.map pD) ∧ (way = 3 → Rp H' (iD st) vst) ∧ acc ++ webL way st (prs m i) cell = webRaw ns start m, ?_, ?_, ?_⟩
    case n => wtm_at "es"
    · exact ⟨_, [], none, none, none, rfl, Nat.zero_le _, o5.step e6, fun h => (hv5 h).ex e6, hraw⟩
    · rintro i σ' H' hi ⟨cell, acc, y, z, u, rfl, hi2, o, hv, hm⟩
      refine g_name ?_
      refine' s_forR2 (lo := (i : Int) + 1) (n := m) ?n (by omega) fun H7 e7 => ⟨fun j σ' H' => ∃ cell acc z u, σ' = [some (.ref sa), some (.int start), some (.int m), some (.int cell), some (.int way), some (.ref pw), some vst, some (.int i), z, u, none] ∧ j ≤ (m - ((i : Int) + 1)).toNat ∧ Own H H' pw (acc.map pD) ∧ (way = 3 → Rp H' (iD st) vst) ∧
        acc ++ webL way st (rowP m i ((i : Int) + 1 + (j : Int)) ++ prs m ((i : Int) + 1)) cell = webRaw ns start m, ?_, ?_, ?_⟩
      case n => wtm_at "es"
      · refine ⟨cell, acc, z, u, rfl, Nat.zero_le _, o.step e7, fun h => (hv h).ex e7, ?_⟩
        rw [Int.natCast_zero, Int.add_zero, ← prs_step hi]
        exact hm
      · rintro j σ' H' hj ⟨cell, acc, z, u, rfl, hj2, o, hv, hm⟩
        generalize hb : (i : Int) + 1 + (j : Int) = b at hj hm
        rw [rowP_step hj, List.cons_append] at hm
        have hm : acc ++ (pickF way st ((i : Int), b) cell ++ webL way st (rowP m i (b + 1) ++ prs m ((i : Int) + 1)) (cell / 3)) = webRaw ns start m := hm
        have hacc := hbig (cell := cell) (r := ((i : Int), b) :: (rowP m i (b + 1) ++ prs m ((i : Int) + 1))) hm
        rw [← List.append_assoc] at hm
        refine g_name ?_
        refine' s_asgI (n := cell % 3) ?x fun H8 e8 => ?_
        case x => wtm_at "ev"
        wtm_at "nx"
        refine' s_asgI (n := cell / 3) (evd_op ?x ?y (rd_divI ⟨by omega, by omega⟩)) fun H9 e9 => ?_
        case x => wtm_at "ev"
        case y => wtm_at "ev"
        wtm_at "nx"
        have o9 := (o.step e8).step e9
        have hv9 : way = 3 → Rp H9 (iD st) vst := fun h => ((hv h).ex e8).ex e9
        -- the wish
        refine joinK (A := Unit) (fun _ => [some (.ref sa), some (.int start), some (.int m), some (.int (cell / 3)), some (.int way), some (.ref pw), some vst, some (.int i), some (.int b), some (.int (wish1 way st ((i : Int), b) cell)), none])
          (fun _ H' => Ex H9 H') (fun _ H10 e10 => ?_) fun cont => ?_
        rotate_left
        · refine' s_if (b := decide (way = 3)) ?t ?yes ?no
          case t => wtm_at "et"
          case no =>
            intro hb2 H10 e10
            have z := cont () H10 e10
            have nw : ¬ way = 3 := by simpa using hb2
            unfold wish1 at z
            rw [if_neg nw] at z
            exact z
          case yes =>
            intro hb2 H10 e10
            have hw3 : way = 3 := by simpa using hb2
            refine' s_if (b := decide (cell % 3 < 2)) ?t ?yes ?no
            case t => wtm_at "et"
            case no =>
              intro hb3 H11 e11
              have z := cont () H11 (e10.trans e11)
              unfold wish1 at z
              rw [if_pos hw3, if_neg (by simpa using hb3)] at z
              exact z
            case yes =>
              intro hb3 H11 e11
              have hv11 := ((hv9 hw3).ex e10).ex e11
              refine' s_asgI (n := if ixOf b st < ixOf (i : Int) st then 1 else 0) ?x fun H12 e12 => ?_
              case x =>
                have z : EvD (tCB rIntB (tCons (tOp rGtI (tTM (rIxI K) (tVar 6) (tCons (tVar 7) tNil)) (tTM (rIxI K) (tVar 6) (tCons (tVar 8) tNil))) tNil)) [some (V.ref sa), some (.int start), some (.int m), some (.int (cell / 3)), some (.int way), some (.ref pw), some vst, some (.int i), some (.int b), some (.int (cell % 3)), none] H11 (.int (if decide (((ixOf b st : Nat) : Int) < ((ixOf (i : Int) st : Nat) : Int)) then 1 else 0)) := by
                  refine' evd_cb (evs_cons (evd_op (evd_tix (evd_var rfl hv11) ?a (hord.mem.mpr (by omega))) (evd_tix (evd_var rfl hv11) ?b (hord.mem.mpr (by omega))) rd_gtI) evs_nil) cd_intB
                  case a => wtm_at "ev"
                  case b => wtm_at "ev"
                rw [show (if decide (((ixOf b st : Nat) : Int) < ((ixOf (i : Int) st : Nat) : Int)) then (1 : Int) else 0) = if ixOf b st < ixOf (i : Int) st then 1 else 0 by
                  simp only [decide_eq_true_eq, Int.ofNat_lt]] at z
                exact z
              have z := cont () H12 ((e10.trans e11).trans e12)
              unfold wish1 at z
              rw [if_pos hw3, if_pos (by simpa using hb3)] at z
              exact z
        · wtm_at "nx"
          have o10 := o9.step e10
          have hv10 : way = 3 → Rp H10 (iD st) vst := fun h => (hv9 h).ex e10
          refine joinK (A := Unit) (fun _ => [some (.ref sa), some (.int start), some (.int m), some (.int (cell / 3)), some (.int way), some (.ref pw), some vst, some (.int i), some (.int b), some (.int (wish2 way st ((i : Int), b) cell)), none])
            (fun _ H' => Ex H10 H') (fun _ H11 e11 => ?_) fun cont => ?_
          rotate_left
          · refine' s_if (b := decide (way = 1)) ?t ?yes ?no
            case t => wtm_at "et"
            case no =>
              intro hb2 H11 e11
              have z := cont () H11 e11
              unfold wish2 at z
              rw [if_neg (by simpa using hb2)] at z
              exact z
            case yes =>
              intro hb2 H11 e11
              refine' s_asgI (n := wish1 way st ((i : Int), b) cell % 2) ?x fun H12 e12 => ?_
              case x => wtm_at "ev"
              have z := cont () H12 (e11.trans e12)
              unfold wish2 at z
              rw [if_pos (by simpa using hb2)] at z
              exact z
          · wtm_at "nx"
            have o11 := o10.step e11
            have hv11 : way = 3 → Rp H11 (iD st) vst := fun h => (hv10 h).ex e11
            have hb1 : (i : Int) + 1 + ((j + 1 : Nat) : Int) = b + 1 := by omega
            refine' s_if (b := decide (wish2 way st ((i : Int), b) cell < 2) || decide (way = 2)) ?t ?yes ?no
            case t => wtm_at "et"
            case no =>
              intro hb2 H12 e12
              have hp : pickF way st ((i : Int), b) cell = [] := by
                unfold pickF
                rw [if_neg (by simpa using hb2)]
              rw [hp, List.append_nil] at hm
              refine ⟨cell / 3, acc, _, _, rfl, by omega, o11.step e12, fun h => (hv11 h).ex e12, ?_⟩
              rw [hb1]
              exact hm
            case yes =>
              intro hb2 H12 e12
              have hp : pickF way st ((i : Int), b) cell = [if wish2 way st ((i : Int), b) cell % 2 = 0 then ((i : Int), b) else swp ((i : Int), b)] := by
                unfold pickF
                rw [if_pos (by simpa using hb2)]
              rw [hp] at hm
              have w0 := Int.emod_nonneg (wish2 way st ((i : Int), b) cell) (show (2 : Int) ≠ 0 by omega)
              have w1 := Int.emod_lt_of_pos (wish2 way st ((i : Int), b) cell) (show (0 : Int) < 2 by omega)
              have o12 := o11.step e12
              have hv12 : way = 3 → Rp H12 (iD st) vst := fun h => (hv11 h).ex e12
              refine' s_appO (d := pD (if wish2 way st ((i : Int), b) cell % 2 = 0 then ((i : Int), b) else swp ((i : Int), b))) o12 rfl ?x rfl ?sz fun H13 x13 o13 => ?_
              case x =>
                refine' evd_op (EvN.toD (evn_lst (ds := [pD ((i : Int), b), pD (b, (i : Int))]) ?l (Nat.le_of_ble_eq_true rfl))) (y := .int (wish2 way st ((i : Int), b) cell % 2)) ?k (rd_ixL ?ix)
                case l => wtm_at "es"
                case k => wtm_at "ev"
                case ix =>
                  generalize wish2 way st ((i : Int), b) cell % 2 = k at w0 w1
                  have : k = 0 ∨ k = 1 := by omega
                  rcases this with rfl | rfl <;> rfl
              case sz =>
                rw [List.length_map]
                omega
              obtain ⟨ws, k1, _⟩ := o12.has
              refine ⟨cell / 3, acc ++ [if wish2 way st ((i : Int), b) cell % 2 = 0 then ((i : Int), b) else swp ((i : Int), b)], _, _, rfl, by omega, ?_, fun h => Rp.keep (x13.kt k1) (imm_iD _) (hv12 h), ?_⟩
              · rw [List.map_append]
                exact o13
              · rw [hb1]
                exact hm
      · rintro σ' H' ⟨cell, acc, z, u, rfl, _, o, hv, hm⟩
        refine ⟨cell, acc, _, _, _, rfl, by omega, o, hv, ?_⟩
        rw [rowP_end (by omega), List.nil_append] at hm
        rw [show ((i + 1 : Nat) : Int) = (i : Int) + 1 by omega]
        exact hm
    · rintro σ' H' ⟨cell, acc, y, z, u, rfl, _, o, hv, hm⟩
      wtm_at "nx"
      rw [prs_end (by omega)] at hm
      have hm : acc = webRaw ns start m := by
        rw [← hm]
        show acc = acc ++ []
        rw [List.append_nil]
      subst hm
      have hs' := ex_l o.ex hs
      have t0 := Int.emod_nonneg (cellF ns (start + 1) / 4) (show ((webRaw ns start m).length + 1 : Int) ≠ 0 by omega)
      have t1 := Int.emod_lt_of_pos (cellF ns (start + 1) / 4) (show (0 : Int) < ((webRaw ns start m).length + 1 : Int) by omega)
      have hk : cellF ns (start + 1) / 4 % ((webRaw ns start m).length + 1 : Int) = ((lawTurn ns start m : Nat) : Int) := by
        unfold lawTurn
        omega
      have lz : EvD (tCB (rLenS K) (tCons (tVar 5) tNil)) [some (V.ref sa), some (.int start), some (.int m), some (.int cell), some (.int way), some (.ref pw), some vst, y, z, u, none] H' (.int ((webRaw ns start m).map pD).length) := evd_cb (evs_cons (evd_var rfl o.rp) evs_nil) cd_lenL
      rw [List.length_map] at lz
      refine' s_asgI (n := ((lawTurn ns start m : Nat) : Int)) ((evd_op (evd_op (ev_cell (k := start + 1) hs' rfl ?a (by omega)) evd_int (rd_divI (j := 4) ⟨by omega, by omega⟩)) (evd_op lz evd_int (rd_addI (j := 1))) (rd_modI (by omega))).is (by rw [hk])) fun H7 e7 => ?_
      case a => wtm_at "ev"
      wtm_at "nx"
      have o7 := o.step e7
      refine' s_retNw (ds := cutA ((webRaw ns start m).map pD) (some ((lawTurn ns start m : Nat) : Int)) none ++ cutA ((webRaw ns start m).map pD) none (some ((lawTurn ns start m : Nat) : Int))) (evn_cat (evn_slL (evd_var rfl o7.rp) (evp_some ?a) evp_none).toD (evn_slL (evd_var rfl o7.rp) evp_none (evp_some ?b)).toD ?c) fun p8 ws8 H8 n8 e8 k1 k2 => ?_
      case a => wtm_at "ev"
      case b => wtm_at "ev"
      case c =>
        rw [cutA_to, cutA_from, List.length_take, List.length_drop, List.length_map]
        omega
      rw [cutA_to, cutA_from, ← List.map_take, ← List.map_drop, ← List.map_append] at k2
      exact q p8 ws8 H8 (fresh_back o7.ex n8) (o7.ex.trans e8) k1 k2
end
theorem ev_lweb {K : PySem.W.Frag} {σ : L2.St} {H : Hp} {t1 t2 : TE} {E : XK} {ns : List Int} {sa : Addr} {i : Nat} {start m : Int} (hs : SqL K H sa (ns.map V.int)) (hi : σ[i]? = some (some (.ref sa))) (h1 : EvD t1 σ H (.int start)) (h2 : EvD t2 σ H (.int m))
    (p : 0 ≤ start) (p2 : 0 ≤ m ∧ m ≤ 6) : EvN (tCall (sp__law_web K) [] E (tCons (tVar i) (tCons t1 (tCons t2 tNil)))) σ H ((lawWeb ns start m).map pD) := evn_callS (start, m) hs hi (evs_cons h1 (evs_cons h2 evs_nil)) ⟨p, p2⟩ rfl

end Bm

namespace Bm
open PySem PySem.Spec PyProof.Rows L2 Evl
local macro_rules | `(tactic| wtm_at "rp") => `(tactic| first | exact rp_int | exact rp_bl | exact rp_str | exact rp_non | assumption | (refine' Rp.ex ?e ?h; (case h => assumption); (case e => assumption)) | exact Own.rp (by assumption))
local macro_rules | `(tactic| wtm_at "side") => `(tactic| first | assumption | omega | decide | rfl | exact ⟨by omega, by omega⟩)
local macro_rules | `(tactic| wtm_at "es") => `(tactic| first | exact evs_nil | (refine' evs_cons ?a ?b; (case a => wtm_at "ev"); (case b => wtm_at "es")))
local macro_rules | `(tactic| wtm_at "ev") => `(tactic| first
  | exact evd_int | exact evd_str | exact evd_bl | exact evd_non
  | (refine' evd_var rfl ?h; (case h => wtm_at "rp"))
  | ((with_reducible refine' evd_op ?a ?b rd_addI); (case a => wtm_at "ev"); (case b => wtm_at "ev"))
  | ((with_reducible refine' evd_op ?a ?b rd_subI); (case a => wtm_at "ev"); (case b => wtm_at "ev"))
  | ((with_reducible refine' evd_op ?a ?b (rd_mulI ?c)); (case a => wtm_at "ev"); (case b => wtm_at "ev"); (case c => wtm_at "side"))
  | ((with_reducible refine' evd_op ?a ?b (rd_divI ?c)); (case a => wtm_at "ev"); (case b => wtm_at "ev"); (case c => wtm_at "side"))
  | ((with_reducible refine' evd_op ?a ?b (rd_modI ?c)); (case a => wtm_at "ev"); (case b => wtm_at "ev"); (case c => wtm_at "side"))
  | ((with_reducible refine' evd_op ?a ?b rd_ltI); (case a => wtm_at "ev"); (case b => wtm_at "ev"))
  | ((with_reducible refine' evd_op ?a ?b rd_leI); (case a => wtm_at "ev"); (case b => wtm_at "ev"))
  | ((with_reducible refine' evd_op ?a ?b rd_gtI); (case a => wtm_at "ev"); (case b => wtm_at "ev"))
  | ((with_reducible refine' evd_op ?a ?b rd_geI); (case a => wtm_at "ev"); (case b => wtm_at "ev"))
  | ((with_reducible refine' evd_op ?a ?b rd_eqI); (case a => wtm_at "ev"); (case b => wtm_at "ev"))
  | ((with_reducible refine' evd_op ?a ?b rd_neI); (case a => wtm_at "ev"); (case b => wtm_at "ev"))
  | ((with_reducible refine' evd_op ?a ?b rd_eqB); (case a => wtm_at "ev"); (case b => wtm_at "ev"))
  | ((with_reducible refine' evd_op ?a ?b rd_neB); (case a => wtm_at "ev"); (case b => wtm_at "ev"))
  | ((with_reducible refine' evd_op ?a ?b rd_isNo); (case a => wtm_at "ev"); (case b => wtm_at "ev"))
  | ((with_reducible refine' evd_op ?a ?b rd_notNo); (case a => wtm_at "ev"); (case b => wtm_at "ev"))
  | ((with_reducible refine' evd_op ?a ?b rd_inIL); (case a => wtm_at "ev"); (case b => wtm_at "ev"))
  | ((with_reducible refine' evd_op ?a ?b rd_niIL); (case a => wtm_at "ev"); (case b => wtm_at "ev"))
  | ((with_reducible refine' evd_op ?a ?b rd_inID); (case a => wtm_at "ev"); (case b => wtm_at "ev"))
  | ((with_reducible refine' evd_op ?a ?b rd_niID); (case a => wtm_at "ev"); (case b => wtm_at "ev"))
  | ((with_reducible refine' evd_neg ?a); (case a => wtm_at "ev"))
  | ((with_reducible refine' evd_tix ?a ?b ?c); (case a => wtm_at "ev"); (case b => wtm_at "ev"); (case c => wtm_at "side"))
  | ((with_reducible refine' evd_tup ?a ?b); (case a => wtm_at "es"); (case b => exact Nat.le_of_ble_eq_true rfl))
  | ((with_reducible refine' evd_cb ?a cd_lenL); (case a => wtm_at "es"))
  | ((with_reducible refine' evd_cb ?a cd_lenT); (case a => wtm_at "es"))
  | ((with_reducible refine' evd_cb ?a cd_intB); (case a => wtm_at "es"))
  | ((with_reducible refine' evd_cb ?a cd_tupL); (case a => wtm_at "es"))
  | ((with_reducible refine' evd_and ?a ?b); (case a => wtm_at "ev"); (case b => intro _; wtm_at "ev"))
  | ((with_reducible refine' evd_or ?a ?b); (case a => wtm_at "ev"); (case b => intro _; wtm_at "ev"))
  | ((with_reducible refine' evd_not ?a); (case a => wtm_at "ev"))
  | ((with_reducible refine' evd_op ?a ?b rd_neIL); (case a => wtm_at "ev"); (case b => wtm_at "ev"))
  | ((with_reducible refine' evd_op ?a ?b rd_eqIL); (case a => wtm_at "ev"); (case b => wtm_at "ev"))
  | ((with_reducible refine' EvN.toD ?a); (case a => wtm_at "en")))
local macro_rules | `(tactic| wtm_at "en") => `(tactic| first
  | ((with_reducible refine' evn_cb ?a cn_sortTI); (case a => wtm_at "es"))
  | ((with_reducible refine' evn_cb ?a cn_listL); (case a => wtm_at "es"))
  | ((with_reducible refine' evn_cb ?a cn_listT); (case a => wtm_at "es"))
  | ((with_reducible refine' evn_rng ?a ?b); (case a => wtm_at "ev"); (case b => wtm_at "side"))
  | ((with_reducible refine' evn_lst ?a ?b); (case a => wtm_at "es"); (case b => exact Nat.le_of_ble_eq_true rfl))
  | ((with_reducible refine' evn_cat ?a ?b ?c); (case a => wtm_at "ev"); (case b => wtm_at "ev"); (case c => wtm_at "side"))
  | ((with_reducible refine' evn_slL ?a ?b ?c); (case a => wtm_at "ev"); (case b => first | exact evp_none | (refine' evp_some ?d; (case d => wtm_at "ev"))); (case c => first | exact evp_none | (refine' evp_some ?d; (case d => wtm_at "ev")))))
local macro_rules | `(tactic| wtm_at "et") => `(tactic| first
  | exact et_yes
  | (refine' ett ?a; (case a => wtm_at "ev"))
  | (refine' etB ?a; (case a => wtm_at "ev"))
  | (refine' et_and ?a ?b; (case a => wtm_at "et"); (case b => intro _; wtm_at "et"))
  | (refine' et_or ?a ?b; (case a => wtm_at "et"); (case b => intro _; wtm_at "et"))
  | (refine' et_not ?a; (case a => wtm_at "et")))
local macro_rules | `(tactic| wtm_at "nx") => `(tactic| try dsimp only [tSeq, tNext])
/-! ### _law_orders, _law_keeps, _law_is_ring, _law_shorter -/
def sp__law_orders : Sp := spO (α := Int) (fun a => [.int a]) (fun a => 0 ≤ a ∧ a ≤ 6) fun a => .new ((rowsF a a.toNat).map iD)
theorem len__law_orders (vs : List V) (H : Hp) (Q : VK) (E : XK) (h : sp__law_orders vs H Q E) : vs.length = 1 := by
  unfold sp__law_orders at h
  obtain ⟨a, r, _⟩ := h
  rw [r.len]
  rfl
theorem rowsTo_len {m : Int} (hm : m ≤ 6) (rs : List (List Int)) : ((rs.map (extRow m)).flatten).length ≤ rs.length * 6 := by
  have := flat_len (k := 6) (xss := rs.map (extRow m)) fun xs hx => by
    obtain ⟨r, _, rfl⟩ := List.mem_map.mp hx
    exact extRow_len hm r
  rwa [List.length_map] at this
theorem pow6 {k : Nat} (h : k ≤ 5) : 6 ^ k ≤ 7776 := Nat.pow_le_pow_right (by decide) h
section
variable {P : Program} {w : World} {K : PySem.W.Frag} {mg : Str → Option Value} {base : Heap}
theorem ok__law_orders {f : Addr} {fd : FuncData} (D : Df K mg "_law_orders" s__law_orders ["many"] f fd) (Bi : Bi mg) : FnOk P w K mg base CX0 1 f fd ["many"] sp__law_orders := by
  refine D.F.ok c__law_orders (fun vs H Q E h => len__law_orders _ _ _ _ h) (fun cdv A outer s H vs Q E hr h => ?_)
  refine ⟨_, (pss_cons (ps_set (i := 1) c__law_orders.nd rfl (.inl rfl) (pe_lst (pa_cons (pe_tupF pa_nil) pa_nil)))
      (pss_cons (ps_for (PassesOwn.never) rfl (pi_range1 (by rfl) Bi.range (pa_cons (pv 0) pa_nil)) (pg_name (i := 2) c__law_orders.nd rfl (.inl rfl))
      (pss_cons (ps_set (i := 3) c__law_orders.nd rfl (.inl rfl) (pe_lst pa_nil))
      (pss_cons (ps_for (PassesOwn.never) rfl (pi_listK (K := K) (pv 1)) (pg_name (i := 4) c__law_orders.nd rfl (.inr rfl))
      (pss_one (ps_set (i := 3) c__law_orders.nd rfl (.inl rfl) (pe_op op_cat (pv 3) (pe_lc (own := [("thing", 5)]) (g := (gName 5)) rfl c__law_orders.nd (pi_range1 (by rfl) Bi.range (pa_cons (pv 0) pa_nil)) (blkOk_by (own := [("thing", 5)]) (N := ["many", "rows", "k", "longer", "row", "thing"]) (sc := defScope s__law_orders) (by decide +kernel)) (fun _ _ _ _ _ => (pg_name (i := 5) c__law_orders.nd rfl (.inl rfl))) (fun _ _ _ _ _ => pts_one (pt_cmpR (op_niFK (K := K)) (pv 5) (pv 4) (by rfl))) (fun _ _ _ _ _ => (pe_op (op_catFK (K := K)) (pv 4) (pe_tupF (pa_cons (pv 5) pa_nil)))))))))
      (pss_one (ps_set (i := 1) c__law_orders.nd rfl (.inl rfl) (pv 3))))))
      (pss_one (ps_ret (pv 1))))), ?_⟩
  obtain ⟨m, ⟨v1, _, rfl, rfl, rfl⟩, ⟨m0, m6⟩, q⟩ := h
  dsimp only at q m0 m6
  refine' s_asgNL (ds := [[]].map iD) (evn_lst (ds := [.tuple []]) (evs_cons (evd_tup evs_nil (Nat.zero_le _)) evs_nil) (by decide)) (Ex.refl H) fun vr H1 e1 r1 => ?_
  wtm_at "nx"
  refine' s_forR (n := m) ?n (by omega) fun H3 e3 => ⟨fun i σ' H' => (∃ vr y z u t, σ' = [some (.int m), some vr, y, z, u, t] ∧ NL H H' ((rowsF m i).map iD) vr) ∧ i ≤ m.toNat ∧ Ex H H', ?_, ?_, ?_⟩
  case n => wtm_at "es"
  · exact ⟨⟨vr, none, none, none, none, rfl, r1.ex e3⟩, Nat.zero_le _, e1.trans e3⟩
  · rintro i σ' H' hi ⟨⟨vr, y, z, u, t, rfl, hr⟩, hi2, e⟩
    refine g_name ?_
    refine' s_asgNL (ds := []) (evn_lst evs_nil (by decide)) e fun vl H5 e5 r5 => ?_
    wtm_at "nx"
    have hlen : (rowsF m i).length ≤ 7776 := Nat.le_trans (rowsF_len m6 i) (pow6 (by omega))
    refine s_forD (f := iD) (xs := rowsF m i) (evd_var rfl (hr.ex e5).rp) fun H6 e6 => ⟨fun j σ' H' => (∃ vl u, σ' = [some (.int m), some vr, some (.int (i : Int)), some vl, u, t] ∧ NL H H' ((((rowsF m i).take j).map (extRow m)).flatten.map iD) vl) ∧ Ex H6 H', ?_, ?_, ?_, ?_⟩
    · exact ⟨⟨vl, u, rfl, r5.ex e6⟩, Ex.refl _⟩
    · rintro j σ' H' ⟨_, e⟩
      exact e
    · rintro j x v σ' H' hx hrx ⟨⟨vl, u, rfl, hvl⟩, e8'⟩
      refine g_name ?_
      have hj : j < (rowsF m i).length := (List.getElem?_eq_some_iff.mp hx).1
      have hxl : x.length ≤ 6 := by
        rw [rowsF_sz (List.mem_of_getElem? hx)]
        omega
      have l1 := rowsTo_len m6 ((rowsF m i).take j)
      have l2 := extRow_len m6 x
      rw [List.length_take] at l1
      refine' s_asgNL (ds := (((rowsF m i).take (j + 1)).map (extRow m)).flatten.map iD) ((evn_cat (ds := ((((rowsF m i).take j).map (extRow m)).flatten).map iD) (es := (extRow m x).map iD) (evd_var rfl hvl.rp) (EvN.toD ?x) (by rw [List.length_map, List.length_map]; omega)).is ?is) (((e.trans e5).trans e6).trans e8') fun vl2 H7 e7 r7 => ?_
      case x =>
        unfold extRow
        rw [List.map_map]
        refine' evn_lcR (n := m) (fun t => !decide (t ∈ x)) (fun t => iD (x ++ [t])) ?es (by omega) ?turn ?imm
        case es => wtm_at "es"
        case imm => exact fun t _ _ _ => imm_iD _
        case turn =>
          intro t H8 t0 t1 e8
          have hrx8 : Rp H8 (iD x) v := hrx.ex e8
          refine' ⟨_, fun Q hq => hq, rfl, ett (evd_op ?a (evd_var rfl hrx8) rd_niID), fun _ => (evd_catT (ds := x.map .int) (es := [.int t]) (evd_var rfl hrx8) ?b (by rw [List.length_map]; show _ + 1 ≤ _; omega)).is (by unfold iD; rw [List.map_append]; rfl)⟩
          case a => wtm_at "ev"
          case b => wtm_at "ev"
      case is =>
        rw [List.take_add_one, hx, List.map_append, List.flatten_append, List.map_append]
        simp
      exact ⟨⟨vl2, _, rfl, r7⟩, e8'.trans e7⟩
    · rintro σ' H' ⟨⟨vl, u, rfl, hvl⟩, e'⟩
      rw [List.take_length] at hvl
      wtm_at "nx"
      exact ⟨vl, rfl, ⟨vl, _, _, _, _, rfl, hvl⟩, by omega, ((e.trans e5).trans e6).trans e'⟩
  · rintro σ' H' ⟨⟨vr, y, z, u, t, rfl, hr⟩, _, e⟩
    wtm_at "nx"
    obtain ⟨a, vs, rfl, n, k1, k2⟩ := hr
    exact ⟨_, rfl, q a vs H' n e k1 k2⟩
end
theorem evn_lorders {σ : L2.St} {H : Hp} {t0 : TE} {E : XK} {m : Int} (h0 : EvD t0 σ H (.int m)) (c : 0 ≤ m ∧ m ≤ 6) : EvN (tCall sp__law_orders [] E (tCons t0 tNil)) σ H ((rowsF m m.toNat).map iD) := evn_callO m (evs_cons h0 evs_nil) c rfl
theorem ev_lorders {σ : L2.St} {H : Hp} {t0 : TE} {E : XK} {m : Int} (h0 : EvD t0 σ H (.int m)) (c : 0 ≤ m ∧ m ≤ 6) : EvD (tCall sp__law_orders [] E (tCons t0 tNil)) σ H (vD (rowsF m m.toNat)) := (evn_lorders h0 c).toD
def sp__law_keeps : Sp := spO (α := List (Int × Int) × List Int) (fun a => [wD a.1, iD a.2]) (fun a => a.1.length ≤ 1000 ∧ ∀ p ∈ a.1, p.1 ∈ a.2 ∧ p.2 ∈ a.2) fun a => .val (.bool (keepsF a.1 a.2))
theorem len__law_keeps (vs : List V) (H : Hp) (Q : VK) (E : XK) (h : sp__law_keeps vs H Q E) : vs.length = 2 := by
  unfold sp__law_keeps at h
  obtain ⟨a, r, _⟩ := h
  rw [r.len]
  rfl
theorem keepsF_filter (ps : List (Int × Int)) (v : List Int) : decide (((ps.filter fun p => decide ((ixOf p.2 v : Int) < (ixOf p.1 v : Int))).length : Int) = 0) = keepsF ps v := by
  refine decide_eq_decide.mpr ?_
  rw [show ((ps.filter fun p => decide ((ixOf p.2 v : Int) < (ixOf p.1 v : Int))).length : Int) = 0 ↔ (ps.filter fun p => decide ((ixOf p.2 v : Int) < (ixOf p.1 v : Int))).length = 0 by omega, List.length_eq_zero_iff, List.filter_eq_nil_iff]
  simp only [decide_eq_true_eq]
  exact ⟨fun h p hp => by have := h p hp; omega, fun h p hp => by have := h p hp; omega⟩
section
variable {P : Program} {w : World} {K : PySem.W.Frag} {mg : Str → Option Value} {base : Heap}
theorem ok__law_keeps {f : Addr} {fd : FuncData} (D : Df K mg "_law_keeps" s__law_keeps ["web", "order"] f fd) (Bi : Bi mg) : FnOk P w K mg base CX0 1 f fd ["web", "order"] sp__law_keeps := by
  refine D.F.ok c__law_keeps (fun vs H Q E h => len__law_keeps _ _ _ _ h) (fun cdv A outer s H vs Q E hr h => ?_)
  refine ⟨_, (pss_one (ps_ret (pe_cmpR op_eqI (pe_callB (cr_lenK (K := K)) (by rfl) Bi.len (by decide +kernel) (pa_cons (pe_lc (own := [("beat", 2)]) (g := (gName 2)) rfl c__law_keeps.nd (pi_listK (K := K) (pv 0)) (blkOk_by (own := [("beat", 2)]) (N := ["web", "order", "beat"]) (sc := defScope s__law_keeps) (by decide +kernel)) (fun _ _ _ _ _ => (pg_name (i := 2) c__law_keeps.nd rfl (.inl rfl))) (fun _ _ _ _ _ => pts_one (pt_cmpR op_gtI (pe_tm PySem.F.plainAttrs_tuple PySem.F.slot_tuple_index PySem.F.type_tuple_index (mt_tupIxK (K := K)) (pv 1) (pa_cons (pe_ix (ix_tupK (K := K)) (pv 2) pe_int (fun _ _ => rfl)) pa_nil)) (pe_tm PySem.F.plainAttrs_tuple PySem.F.slot_tuple_index PySem.F.type_tuple_index (mt_tupIxK (K := K)) (pv 1) (pa_cons (pe_ix (ix_tupK (K := K)) (pv 2) pe_int (fun _ _ => rfl)) pa_nil)) (nomark _))) (fun _ _ _ _ _ => (pv 2))) pa_nil)) pe_int (nomark _)))), ?_⟩
  obtain ⟨⟨ps, u⟩, ⟨v1, _, rfl, hv, v2, _, rfl, hu, rfl⟩, ⟨hl, hp⟩, q⟩ := h
  dsimp only at q hv hu hl hp
  refine' s_retD (d := .bool (keepsF ps u)) ((evd_op (x := .int (((ps.filter fun p => decide ((ixOf p.2 u : Int) < (ixOf p.1 u : Int))).map pD).length)) (evd_cb (evs_cons (EvN.toD ?x) evs_nil) cd_lenL) evd_int (rd_eqI (j := 0))).is (by rw [List.length_map, keepsF_filter])) q
  case x =>
    refine' evn_lcL (f := pD) (xs := ps) (fun p => decide ((ixOf p.2 u : Int) < (ixOf p.1 u : Int))) pD (evd_var rfl hv) (by omega) ?turn fun _ _ _ => rfl
    intro x vx H5 hx e5 r
    obtain ⟨pa, pb⟩ := hp x hx
    have hu5 : Rp H5 (iD u) v2 := hu.ex e5
    exact ⟨_, fun Q hq => hq, rfl, ett (evd_op (evd_tix (evd_var rfl hu5) (evd_op (evd_var rfl r) evd_int (rd_ixT (atI_nat (j := 0) rfl))) pa) (evd_tix (evd_var rfl hu5) (evd_op (evd_var rfl r) evd_int (rd_ixT (atI_nat (j := 1) rfl))) pb) rd_gtI), fun _ => evd_var rfl r⟩
end
theorem ev_lkeeps {σ : L2.St} {H : Hp} {t0 t1 : TE} {E : XK} {m : Int} {ps : List (Int × Int)} {u : List Int} (h0 : EvD t0 σ H (wD ps)) (h1 : EvD t1 σ H (iD u)) (l : ps.length ≤ 1000) (w : isWeb m ps) (o : isOrd m u) :
    EvD (tCall sp__law_keeps [] E (tCons t0 (tCons t1 tNil))) σ H (.bool (keepsF ps u)) := evd_callO (ps, u) (evs_cons h0 (evs_cons h1 evs_nil)) ⟨l, fun p hp => by have := w.good hp; exact ⟨o.mem.mpr (by omega), o.mem.mpr (by omega)⟩⟩ rfl

end Bm

namespace Bm
open PySem PySem.Spec PyProof.Rows L2 Evl
local macro_rules | `(tactic| wtm_at "rp") => `(tactic| first | exact rp_int | exact rp_bl | exact rp_str | exact rp_non | assumption | (refine' Rp.ex ?e ?h; (case h => assumption); (case e => assumption)) | exact Own.rp (by assumption))
local macro_rules | `(tactic| wtm_at "side") => `(tactic| first | assumption | omega | decide | rfl | exact ⟨by omega, by omega⟩)
local macro_rules | `(tactic| wtm_at "es") => `(tactic| first | exact evs_nil | (refine' evs_cons ?a ?b; (case a => wtm_at "ev"); (case b => wtm_at "es")))
local macro_rules | `(tactic| wtm_at "ev") => `(tactic| first
  | exact evd_int | exact evd_str | exact evd_bl | exact evd_non
  | (refine' evd_var rfl ?h; (case h => wtm_at "rp"))
  | ((with_reducible refine' evd_op ?a ?b rd_addI); (case a => wtm_at "ev"); (case b => wtm_at "ev"))
  | ((with_reducible refine' evd_op ?a ?b rd_subI); (case a => wtm_at "ev"); (case b => wtm_at "ev"))
  | ((with_reducible refine' evd_op ?a ?b (rd_mulI ?c)); (case a => wtm_at "ev"); (case b => wtm_at "ev"); (case c => wtm_at "side"))
  | ((with_reducible refine' evd_op ?a ?b (rd_divI ?c)); (case a => wtm_at "ev"); (case b => wtm_at "ev"); (case c => wtm_at "side"))
  | ((with_reducible refine' evd_op ?a ?b (rd_modI ?c)); (case a => wtm_at "ev"); (case b => wtm_at "ev"); (case c => wtm_at "side"))
  | ((with_reducible refine' evd_op ?a ?b rd_ltI); (case a => wtm_at "ev"); (case b => wtm_at "ev"))
  | ((with_reducible refine' evd_op ?a ?b rd_leI); (case a => wtm_at "ev"); (case b => wtm_at "ev"))
  | ((with_reducible refine' evd_op ?a ?b rd_gtI); (case a => wtm_at "ev"); (case b => wtm_at "ev"))
  | ((with_reducible refine' evd_op ?a ?b rd_geI); (case a => wtm_at "ev"); (case b => wtm_at "ev"))
  | ((with_reducible refine' evd_op ?a ?b rd_eqI); (case a => wtm_at "ev"); (case b => wtm_at "ev"))
  | ((with_reducible refine' evd_op ?a ?b rd_neI); (case a => wtm_at "ev"); (case b => wtm_at "ev"))
  | ((with_reducible refine' evd_op ?a ?b rd_eqB); (case a => wtm_at "ev"); (case b => wtm_at "ev"))
  | ((with_reducible refine' evd_op ?a ?b rd_neB); (case a => wtm_at "ev"); (case b => wtm_at "ev"))
  | ((with_reducible refine' evd_op ?a ?b rd_isNo); (case a => wtm_at "ev"); (case b => wtm_at "ev"))
  | ((with_reducible refine' evd_op ?a ?b rd_notNo); (case a => wtm_at "ev"); (case b => wtm_at "ev"))
  | ((with_reducible refine' evd_op ?a ?b rd_inIL); (case a => wtm_at "ev"); (case b => wtm_at "ev"))
  | ((with_reducible refine' evd_op ?a ?b rd_niIL); (case a => wtm_at "ev"); (case b => wtm_at "ev"))
  | ((with_reducible refine' evd_op ?a ?b rd_inID); (case a => wtm_at "ev"); (case b => wtm_at "ev"))
  | ((with_reducible refine' evd_op ?a ?b rd_niID); (case a => wtm_at "ev"); (case b => wtm_at "ev"))
  | ((with_reducible refine' evd_neg ?a); (case a => wtm_at "ev"))
  | ((with_reducible refine' evd_tix ?a ?b ?c); (case a => wtm_at "ev"); (case b => wtm_at "ev"); (case c => wtm_at "side"))
  | ((with_reducible refine' evd_tup ?a ?b); (case a => wtm_at "es"); (case b => exact Nat.le_of_ble_eq_true rfl))
  | ((with_reducible refine' evd_cb ?a cd_lenL); (case a => wtm_at "es"))
  | ((with_reducible refine' evd_cb ?a cd_lenT); (case a => wtm_at "es"))
  | ((with_reducible refine' evd_cb ?a cd_intB); (case a => wtm_at "es"))
  | ((with_reducible refine' evd_cb ?a cd_tupL); (case a => wtm_at "es"))
  | ((with_reducible refine' evd_and ?a ?b); (case a => wtm_at "ev"); (case b => intro _; wtm_at "ev"))
  | ((with_reducible refine' evd_or ?a ?b); (case a => wtm_at "ev"); (case b => intro _; wtm_at "ev"))
  | ((with_reducible refine' evd_not ?a); (case a => wtm_at "ev"))
  | ((with_reducible refine' evd_op ?a ?b rd_neIL); (case a => wtm_at "ev"); (case b => wtm_at "ev"))
  | ((with_reducible refine' evd_op ?a ?b rd_eqIL); (case a => wtm_at "ev"); (case b => wtm_at "ev"))
  | ((with_reducible refine' EvN.toD ?a); (case a => wtm_at "en")))
local macro_rules | `(tactic| wtm_at "en") => `(tactic| first
  | ((with_reducible refine' evn_cb ?a cn_sortTI); (case a => wtm_at "es"))
  | ((with_reducible refine' evn_cb ?a cn_listL); (case a => wtm_at "es"))
  | ((with_reducible refine' evn_cb ?a cn_listT); (case a => wtm_at "es"))
  | ((with_reducible refine' evn_rng ?a ?b); (case a => wtm_at "ev"); (case b => wtm_at "side"))
  | ((with_reducible refine' evn_lst ?a ?b); (case a => wtm_at "es"); (case b => exact Nat.le_of_ble_eq_true rfl))
  | ((with_reducible refine' evn_cat ?a ?b ?c); (case a => wtm_at "ev"); (case b => wtm_at "ev"); (case c => wtm_at "side"))
  | ((with_reducible refine' evn_slL ?a ?b ?c); (case a => wtm_at "ev"); (case b => first | exact evp_none | (refine' evp_some ?d; (case d => wtm_at "ev"))); (case c => first | exact evp_none | (refine' evp_some ?d; (case d => wtm_at "ev")))))
local macro_rules | `(tactic| wtm_at "et") => `(tactic| first
  | exact et_yes
  | (refine' ett ?a; (case a => wtm_at "ev"))
  | (refine' etB ?a; (case a => wtm_at "ev"))
  | (refine' et_and ?a ?b; (case a => wtm_at "et"); (case b => intro _; wtm_at "et"))
  | (refine' et_or ?a ?b; (case a => wtm_at "et"); (case b => intro _; wtm_at "et"))
  | (refine' et_not ?a; (case a => wtm_at "et")))
local macro_rules | `(tactic| wtm_at "nx") => `(tactic| try dsimp only [tSeq, tNext])
/-! ### _law_is_order, _law_is_voters -/
def sp__law_is_order : Sp := spO (α := List Int × Int) (fun a => [iD a.1, .int a.2]) (fun a => (0 ≤ a.2 ∧ a.2 ≤ 6) ∧ a.1.length ≤ 1000) fun a => .val (.bool (decide (isOrd a.2 a.1)))
theorem len__law_is_order (vs : List V) (H : Hp) (Q : VK) (E : XK) (h : sp__law_is_order vs H Q E) : vs.length = 2 := by
  unfold sp__law_is_order at h
  obtain ⟨a, r, _⟩ := h
  rw [r.len]
  rfl
section
variable {P : Program} {w : World} {K : PySem.W.Frag} {mg : Str → Option Value} {base : Heap}
theorem ok__law_is_order {f : Addr} {fd : FuncData} (D : Df K mg "_law_is_order" s__law_is_order ["found", "many"] f fd) (Bi : Bi mg) {f__law_whole : Addr} {fd__law_whole : FuncData} (D__law_whole : Df K mg "_law_whole" s__law_whole ["found"] f__law_whole fd__law_whole) (G__law_whole : FnOk P w K mg base CX0 1 f__law_whole fd__law_whole ["found"] sp__law_whole) : FnOk P w K mg base CX0 2 f fd ["found", "many"] sp__law_is_order := by
  refine D.F.ok c__law_is_order (fun vs H Q E h => len__law_is_order _ _ _ _ h) (fun cdv A outer s H vs Q E hr h => ?_)
  refine ⟨_, (pss_cons (ps_if (PW.pt (pw_or (pt_not (pt_val (pe_callB (call_isiK2 (K := K)) (by rfl) Bi.isinstance (by decide +kernel) (pa_cons (pv 0) (pa_cons (pe_bltn (v := .ty "tuple") (by rfl) Bi.tuple (by decide +kernel) rfl) pa_nil))))) (pw_or1 (pt_cmpR op_neI (pe_callB (cr_lenK (K := K)) (by rfl) Bi.len (by decide +kernel) (pa_cons (pv 0) pa_nil)) (pv 1) (nomark _)))))
      (pss_one (ps_ret pe_bl))
      pss_nil)
      (pss_one (ps_ret (pe_and (pe_callB (cr_allK (K := K) rfl) (by rfl) Bi.all (by decide +kernel) (pa_cons (pe_lc (own := [("thing", 2)]) (g := (gName 2)) (tt := tYes) rfl c__law_is_order.nd (pi_tupK (K := K) (pv 0)) (blkOk_by (own := [("thing", 2)]) (N := ["found", "many", "thing"]) (sc := defScope s__law_is_order) (by decide +kernel)) (fun _ _ _ _ _ => (pg_name (i := 2) c__law_is_order.nd rfl (.inl rfl))) (fun _ _ _ _ _ => pts_nil) (fun _ _ _ _ _ => (pe_call G__law_whole (hr.mono (by decide)) (by rfl) D__law_whole.g D__law_whole.F.kp D__law_whole.b .nil pass0 (pa_cons (pv 2) pa_nil)))) pa_nil)) (pe_one (pe_cmpR (op_eqDK (K := K) hr.units) (pe_callB (cr_sortedTIK (K := K)) (by rfl) Bi.sorted (by decide +kernel) (pa_cons (pv 0) pa_nil)) (pe_listRg rfl (by rfl) Bi.list (prg_1 (by rfl) Bi.range (pv 1))) (nomark _))))))), ?_⟩
  obtain ⟨⟨v, m⟩, ⟨v1, _, rfl, hv, v2, _, rfl, rfl, rfl⟩, ⟨⟨m0, m6⟩, hl⟩, q⟩ := h
  dsimp only at q hv m0 m6 hl
  refine' s_if (b := (!true) || !decide ((v.length : Int) = m)) ?t ?yes ?no
  case t =>
    have l1 : EvD (tCB (rLenS K) (tCons (tVar 0) tNil)) [some v1, some (V.int m), none] H (.int (v.map PyData.int).length) := evd_cb (evs_cons (evd_var rfl hv) evs_nil) cd_lenT
    rw [List.length_map] at l1
    refine' et_or (et_not (etB (evd_isi (evd_var rfl hv) (show kitB "tuple" "tuple" = some true by decide +kernel)))) fun _ => ett (evd_op l1 ?b rd_neI)
    case b => wtm_at "ev"
  case yes =>
    intro hb H1 e1
    have hn : ¬ isOrd m v := fun z => by
      have := z.len
      simp at hb
      omega
    rw [decide_eq_false hn] at q
    exact s_retD evd_bl fun u H2 e2 r => q u H2 (e1.trans e2) r
  case no =>
    intro hb H1 e1
    wtm_at "nx"
    have hv1 := hv.ex e1
    have ha : EvD (tCB (rAll K) (tCons (tLc (iTup K (tVar 0)) (gName 2) tYes (tCall sp__law_whole [] E0 (tCons (tVar 2) tNil)) [2]) tNil)) [some v1, some (V.int m), none] H1 (.bool ((v.map fun _ => true).all id)) := by
      refine evd_cb (evs_cons ?_ evs_nil) cd_all
      refine EvN.toD ?_
      have z : EvN (tLc (iTup K (tVar 0)) (gName 2) tYes (tCall sp__law_whole [] E0 (tCons (tVar 2) tNil)) [2]) [some v1, some (V.int m), none] H1 ((v.filter fun _ => true).map fun _ => PyData.bool true) := by
        refine' evn_lcT (f := PyData.int) (xs := v) (fun _ => true) (fun _ => .bool true) (evd_var rfl hv1) (by omega) ?turn fun _ _ _ => rfl
        intro x u H5 hx e5 r
        exact ⟨_, fun Q hq => hq, rfl, et_yes, fun _ => ev_whole (k := x) (evd_var rfl r)⟩
      rw [List.filter_eq_self.mpr (fun _ _ => rfl)] at z
      rw [List.map_map]
      exact z
    have hall : ((v.map fun _ => true).all id) = true := by simp
    rw [hall] at ha
    refine' s_retD (d := .bool (true && decide (isOrd m v))) (evd_and ha fun _ => evd_op (EvN.toD (evn_cb (evs_cons (evd_var rfl hv1) evs_nil) cn_sortTI)) (EvN.toD (evn_rng (n := m) ?n (by omega))) (rd_eqIL (a := srt v) (b := rgI 0 m.toNat))) fun u H2 e2 r => ?_
    case n => wtm_at "ev"
    rw [Bool.true_and] at r
    exact q u H2 (e1.trans e2) r
end
theorem ev_is_order {σ : L2.St} {H : Hp} {t1 t2 : TE} {E : XK} {v : List Int} {m : Int} (h1 : EvD t1 σ H (iD v)) (h2 : EvD t2 σ H (.int m)) (p : 0 ≤ m ∧ m ≤ 6) (l : v.length ≤ 1000) :
    EvD (tCall sp__law_is_order [] E (tCons t1 (tCons t2 tNil))) σ H (.bool (decide (isOrd m v))) := evd_callO (v, m) (evs_cons h1 (evs_cons h2 evs_nil)) ⟨p, l⟩ rfl
def sp__law_is_voters : Sp := spO (α := List (List Int) × Int) (fun a => [vD a.1, .int a.2]) (fun a => (0 ≤ a.2 ∧ a.2 ≤ 6) ∧ a.1.length ≤ 1000 ∧ ∀ v ∈ a.1, v.length ≤ 1000) fun a => .val (.bool (decide (isVot a.2 a.1)))
theorem len__law_is_voters (vs : List V) (H : Hp) (Q : VK) (E : XK) (h : sp__law_is_voters vs H Q E) : vs.length = 2 := by
  unfold sp__law_is_voters at h
  obtain ⟨a, r, _⟩ := h
  rw [r.len]
  rfl
section
variable {P : Program} {w : World} {K : PySem.W.Frag} {mg : Str → Option Value} {base : Heap}
theorem ok__law_is_voters {f : Addr} {fd : FuncData} (D : Df K mg "_law_is_voters" s__law_is_voters ["found", "many"] f fd) (Bi : Bi mg) {f__law_is_order : Addr} {fd__law_is_order : FuncData} (D__law_is_order : Df K mg "_law_is_order" s__law_is_order ["found", "many"] f__law_is_order fd__law_is_order) (G__law_is_order : FnOk P w K mg base CX0 2 f__law_is_order fd__law_is_order ["found", "many"] sp__law_is_order) : FnOk P w K mg base CX0 3 f fd ["found", "many"] sp__law_is_voters := by
  refine D.F.ok c__law_is_voters (fun vs H Q E h => len__law_is_voters _ _ _ _ h) (fun cdv A outer s H vs Q E hr h => ?_)
  refine ⟨_, (pss_cons (ps_if (pt_not (pt_val (pe_callB (call_isiK2 (K := K)) (by rfl) Bi.isinstance (by decide +kernel) (pa_cons (pv 0) (pa_cons (pe_bltn (v := .ty "list") (by rfl) Bi.list (by decide +kernel) rfl) pa_nil)))))
      (pss_one (ps_ret pe_bl))
      pss_nil)
      (pss_one (ps_ret (pe_cmpR op_eqI (pe_callB (cr_lenK (K := K)) (by rfl) Bi.len (by decide +kernel) (pa_cons (pe_lc (own := [("voter", 2)]) (g := (gName 2)) rfl c__law_is_voters.nd (pi_listK (K := K) (pv 0)) (blkOk_by (own := [("voter", 2)]) (N := ["found", "many", "voter"]) (sc := defScope s__law_is_voters) (by decide +kernel)) (fun _ _ _ _ _ => (pg_name (i := 2) c__law_is_voters.nd rfl (.inl rfl))) (fun _ _ _ _ _ => pts_one (pt_not (pt_val (pe_call G__law_is_order (hr.mono (by decide)) (by rfl) D__law_is_order.g D__law_is_order.F.kp D__law_is_order.b .nil pass0 (pa_cons (pv 2) (pa_cons (pv 1) pa_nil)))))) (fun _ _ _ _ _ => (pv 2))) pa_nil)) pe_int (nomark _))))), ?_⟩
  obtain ⟨⟨vss, m⟩, ⟨v1, _, rfl, hv, v2, _, rfl, rfl, rfl⟩, ⟨⟨m0, m6⟩, hl, hl2⟩, q⟩ := h
  dsimp only at q hv m0 m6 hl hl2
  refine' s_if (b := !true) ?t ?yes ?no
  case t => exact et_not (etB (evd_isi (evd_var rfl hv) (show kitB "list" "list" = some true by decide +kernel)))
  case yes => exact fun hb => absurd hb (by simp)
  case no =>
    intro _ H1 e1
    wtm_at "nx"
    have hv1 := hv.ex e1
    have z : EvD (tCB (rLenS K) (tCons (tLc (iList K (tVar 0)) (gName 2) (tNot (tB (tCall sp__law_is_order [] E0 (tCons (tVar 2) (tCons (tVar 1) tNil))))) (tVar 2) [2]) tNil)) [some v1, some (V.int m), none] H1 (.int ((vss.filter fun v => !decide (isOrd m v)).map iD).length) := by
      refine evd_cb (evs_cons ?_ evs_nil) cd_lenL
      refine EvN.toD ?_
      refine' evn_lcL (f := iD) (xs := vss) (fun v => !decide (isOrd m v)) iD (evd_var rfl hv1) (by omega) ?turn fun x _ _ => imm_iD x
      intro x u H5 hx e5 r
      refine' ⟨_, fun Q hq => hq, rfl, et_not (etB (ev_is_order (evd_var rfl r) ?b ⟨m0, m6⟩ (hl2 x hx))), fun _ => evd_var rfl r⟩
      case b => wtm_at "ev"
    rw [List.length_map] at z
    refine s_retD (d := .bool (decide (((vss.filter fun v => !decide (isOrd m v)).length : Int) = 0))) (evd_op z evd_int rd_eqI) fun u H2 e2 r => ?_
    have e : decide (((vss.filter fun v => !decide (isOrd m v)).length : Int) = 0) = decide (isVot m vss) := by
      refine decide_eq_decide.mpr ?_
      rw [show (((vss.filter fun v => !decide (isOrd m v)).length : Int) = 0) ↔ (vss.filter fun v => !decide (isOrd m v)).length = 0 by omega, List.length_eq_zero_iff, List.filter_eq_nil_iff]
      simp only [Bool.not_eq_true', decide_eq_false_iff_not, Classical.not_not]
      exact Iff.rfl
    rw [e] at r
    exact q u H2 (e1.trans e2) r
end
theorem ev_is_voters {σ : L2.St} {H : Hp} {t1 t2 : TE} {E : XK} {vss : List (List Int)} {m : Int} (h1 : EvD t1 σ H (vD vss)) (h2 : EvD t2 σ H (.int m)) (p : 0 ≤ m ∧ m ≤ 6) (l : vss.length ≤ 1000) (hv : isVot m vss) :
    EvD (tCall sp__law_is_voters [] E (tCons t1 (tCons t2 tNil))) σ H (.bool true) := evd_callO (vss, m) (evs_cons h1 (evs_cons h2 evs_nil)) ⟨p, l, fun v hm => by rw [(hv v hm).len]; omega⟩ (by show Out.val (.bool (decide (isVot m vss))) = _; rw [decide_eq_true hv])

end Bm

namespace Bm
open PySem PySem.Spec PyProof.Rows L2 Evl
local macro_rules | `(tactic| wtm_at "rp") => `(tactic| first | exact rp_int | exact rp_bl | exact rp_str | exact rp_non | assumption | (refine' Rp.ex ?e ?h; (case h => assumption); (case e => assumption)) | exact Own.rp (by assumption))
local macro_rules | `(tactic| wtm_at "side") => `(tactic| first | assumption | omega | decide | rfl | exact ⟨by omega, by omega⟩)
local macro_rules | `(tactic| wtm_at "es") => `(tactic| first | exact evs_nil | (refine' evs_cons ?a ?b; (case a => wtm_at "ev"); (case b => wtm_at "es")))
local macro_rules | `(tactic| wtm_at "ev") => `(tactic| first
  | exact evd_int | exact evd_str | exact evd_bl | exact evd_non
  | (refine' evd_var rfl ?h; (case h => wtm_at "rp"))
  | ((with_reducible refine' evd_op ?a ?b rd_addI); (case a => wtm_at "ev"); (case b => wtm_at "ev"))
  | ((with_reducible refine' evd_op ?a ?b rd_subI); (case a => wtm_at "ev"); (case b => wtm_at "ev"))
  | ((with_reducible refine' evd_op ?a ?b (rd_mulI ?c)); (case a => wtm_at "ev"); (case b => wtm_at "ev"); (case c => wtm_at "side"))
  | ((with_reducible refine' evd_op ?a ?b (rd_divI ?c)); (case a => wtm_at "ev"); (case b => wtm_at "ev"); (case c => wtm_at "side"))
  | ((with_reducible refine' evd_op ?a ?b (rd_modI ?c)); (case a => wtm_at "ev"); (case b => wtm_at "ev"); (case c => wtm_at "side"))
  | ((with_reducible refine' evd_op ?a ?b rd_ltI); (case a => wtm_at "ev"); (case b => wtm_at "ev"))
  | ((with_reducible refine' evd_op ?a ?b rd_leI); (case a => wtm_at "ev"); (case b => wtm_at "ev"))
  | ((with_reducible refine' evd_op ?a ?b rd_gtI); (case a => wtm_at "ev"); (case b => wtm_at "ev"))
  | ((with_reducible refine' evd_op ?a ?b rd_geI); (case a => wtm_at "ev"); (case b => wtm_at "ev"))
  | ((with_reducible refine' evd_op ?a ?b rd_eqI); (case a => wtm_at "ev"); (case b => wtm_at "ev"))
  | ((with_reducible refine' evd_op ?a ?b rd_neI); (case a => wtm_at "ev"); (case b => wtm_at "ev"))
  | ((with_reducible refine' evd_op ?a ?b rd_eqB); (case a => wtm_at "ev"); (case b => wtm_at "ev"))
  | ((with_reducible refine' evd_op ?a ?b rd_neB); (case a => wtm_at "ev"); (case b => wtm_at "ev"))
  | ((with_reducible refine' evd_op ?a ?b rd_isNo); (case a => wtm_at "ev"); (case b => wtm_at "ev"))
  | ((with_reducible refine' evd_op ?a ?b rd_notNo); (case a => wtm_at "ev"); (case b => wtm_at "ev"))
  | ((with_reducible refine' evd_op ?a ?b rd_inIL); (case a => wtm_at "ev"); (case b => wtm_at "ev"))
  | ((with_reducible refine' evd_op ?a ?b rd_niIL); (case a => wtm_at "ev"); (case b => wtm_at "ev"))
  | ((with_reducible refine' evd_op ?a ?b rd_inID); (case a => wtm_at "ev"); (case b => wtm_at "ev"))
  | ((with_reducible refine' evd_op ?a ?b rd_niID); (case a => wtm_at "ev"); (case b => wtm_at "ev"))
  | ((with_reducible refine' evd_neg ?a); (case a => wtm_at "ev"))
  | ((with_reducible refine' evd_tix ?a ?b ?c); (case a => wtm_at "ev"); (case b => wtm_at "ev"); (case c => wtm_at "side"))
  | ((with_reducible refine' evd_tup ?a ?b); (case a => wtm_at "es"); (case b => exact Nat.le_of_ble_eq_true rfl))
  | ((with_reducible refine' evd_cb ?a cd_lenL); (case a => wtm_at "es"))
  | ((with_reducible refine' evd_cb ?a cd_lenT); (case a => wtm_at "es"))
  | ((with_reducible refine' evd_cb ?a cd_intB); (case a => wtm_at "es"))
  | ((with_reducible refine' evd_cb ?a cd_tupL); (case a => wtm_at "es"))
  | ((with_reducible refine' evd_and ?a ?b); (case a => wtm_at "ev"); (case b => intro _; wtm_at "ev"))
  | ((with_reducible refine' evd_or ?a ?b); (case a => wtm_at "ev"); (case b => intro _; wtm_at "ev"))
  | ((with_reducible refine' evd_not ?a); (case a => wtm_at "ev"))
  | ((with_reducible refine' evd_op ?a ?b rd_neIL); (case a => wtm_at "ev"); (case b => wtm_at "ev"))
  | ((with_reducible refine' evd_op ?a ?b rd_eqIL); (case a => wtm_at "ev"); (case b => wtm_at "ev"))
  | ((with_reducible refine' EvN.toD ?a); (case a => wtm_at "en")))
local macro_rules | `(tactic| wtm_at "en") => `(tactic| first
  | ((with_reducible refine' evn_cb ?a cn_sortTI); (case a => wtm_at "es"))
  | ((with_reducible refine' evn_cb ?a cn_listL); (case a => wtm_at "es"))
  | ((with_reducible refine' evn_cb ?a cn_listT); (case a => wtm_at "es"))
  | ((with_reducible refine' evn_rng ?a ?b); (case a => wtm_at "ev"); (case b => wtm_at "side"))
  | ((with_reducible refine' evn_lst ?a ?b); (case a => wtm_at "es"); (case b => exact Nat.le_of_ble_eq_true rfl))
  | ((with_reducible refine' evn_cat ?a ?b ?c); (case a => wtm_at "ev"); (case b => wtm_at "ev"); (case c => wtm_at "side"))
  | ((with_reducible refine' evn_slL ?a ?b ?c); (case a => wtm_at "ev"); (case b => first | exact evp_none | (refine' evp_some ?d; (case d => wtm_at "ev"))); (case c => first | exact evp_none | (refine' evp_some ?d; (case d => wtm_at "ev")))))
local macro_rules | `(tactic| wtm_at "et") => `(tactic| first
  | exact et_yes
  | (refine' ett ?a; (case a => wtm_at "ev"))
  | (refine' etB ?a; (case a => wtm_at "ev"))
  | (refine' et_and ?a ?b; (case a => wtm_at "et"); (case b => intro _; wtm_at "et"))
  | (refine' et_or ?a ?b; (case a => wtm_at "et"); (case b => intro _; wtm_at "et"))
  | (refine' et_not ?a; (case a => wtm_at "et")))
local macro_rules | `(tactic| wtm_at "nx") => `(tactic| try dsimp only [tSeq, tNext])
/-! ### _law_leads, _law_signs, _law_wished -/
def sp__law_leads : Sp := spO (α := Int × List (List Int)) (fun a => [.int a.1, vD a.2]) (fun a => (0 ≤ a.1 ∧ a.1 ≤ 6) ∧ a.2.length ≤ 1000 ∧ isVot a.1 a.2) fun a => .val (iD (ldV a.1 a.2))
theorem len__law_leads (vs : List V) (H : Hp) (Q : VK) (E : XK) (h : sp__law_leads vs H Q E) : vs.length = 2 := by
  unfold sp__law_leads at h
  obtain ⟨a, r, _⟩ := h
  rw [r.len]
  rfl
section
variable {P : Program} {w : World} {K : PySem.W.Frag} {mg : Str → Option Value} {base : Heap}
theorem ok__law_leads {f : Addr} {fd : FuncData} (D : Df K mg "_law_leads" s__law_leads ["many", "voters"] f fd) (Bi : Bi mg) {f__law_lead : Addr} {fd__law_lead : FuncData} (D__law_lead : Df K mg "_law_lead" s__law_lead ["voters", "one", "other"] f__law_lead fd__law_lead) (G__law_lead : FnOk P w K mg base CX0 1 f__law_lead fd__law_lead ["voters", "one", "other"] sp__law_lead) : FnOk P w K mg base CX0 2 f fd ["many", "voters"] sp__law_leads := by
  refine D.F.ok c__law_leads (fun vs H Q E h => len__law_leads _ _ _ _ h) (fun cdv A outer s H vs Q E hr h => ?_)
  refine ⟨_, (pss_cons (ps_set (i := 2) c__law_leads.nd rfl (.inl rfl) (pe_lst pa_nil))
      (pss_cons (ps_for (PassesOwn.never) rfl (pi_range1 (by rfl) Bi.range (pa_cons (pv 0) pa_nil)) (pg_name (i := 3) c__law_leads.nd rfl (.inr rfl))
      (pss_one (ps_expr (pe_bm PySem.F.plainAttrs_list PySem.F.slot_list_extend PySem.F.type_list_extend mt_extend (pv 2) (pa_cons (pe_lc (own := [("other", 4)]) (g := (gName 4)) (tt := tYes) rfl c__law_leads.nd (pi_range2 (by rfl) Bi.range (pa_cons (pe_op op_addI (pv 3) pe_int) (pa_cons (pv 0) pa_nil))) (blkOk_by (own := [("other", 4)]) (N := ["many", "voters", "found", "one", "other"]) (sc := defScope s__law_leads) (by decide +kernel)) (fun _ _ _ _ _ => (pg_name (i := 4) c__law_leads.nd rfl (.inl rfl))) (fun _ _ _ _ _ => pts_nil) (fun _ _ _ _ _ => (pe_call G__law_lead (hr.mono (by decide)) (by rfl) D__law_lead.g D__law_lead.F.kp D__law_lead.b .nil pass0 (pa_cons (pv 1) (pa_cons (pv 3) (pa_cons (pv 4) pa_nil)))))) pa_nil)))))
      (pss_one (ps_ret (pe_callTy (cr_tupLK (K := K)) (by rfl) Bi.tuple (by decide +kernel) (pa_cons (pv 2) pa_nil)))))), ?_⟩
  obtain ⟨⟨m, us⟩, ⟨v1, _, rfl, rfl, v2, _, rfl, hu, rfl⟩, ⟨⟨m0, m6⟩, hl, hv⟩, q⟩ := h
  dsimp only at q hu m0 m6 hl hv
  have hpl := prs_len ⟨m0, m6⟩
  refine' s_asgO (evn_lst evs_nil (by decide)) rfl fun pf H1 e1 o1 => ?_
  wtm_at "nx"
  refine' s_forR (n := m) ?n (by omega) fun H3 e3 => ⟨fun i σ' H' => ∃ acc y, σ' = [some (.int m), some v2, some (.ref pf), y, none] ∧ Own H H' pf ((acc : List Int).map .int) ∧ acc ++ (prs m i).map (fun p => leadF us p.1 p.2) = ldV m us, ?_, ?_, ?_⟩
  case n => wtm_at "es"
  · exact ⟨[], none, rfl, o1.step e3, rfl⟩
  · rintro i σ' H' hi ⟨acc, y, rfl, o, hacc⟩
    refine g_name ?_
    rw [prs_step hi, List.map_append] at hacc
    have hlen : acc.length + ((rowP m i ((i : Int) + 1)).map fun p => leadF us p.1 p.2).length ≤ 15 := by
      have := congrArg List.length hacc
      unfold ldV at this
      rw [List.length_append, List.length_append, List.length_map (as := prs m 0)] at this
      omega
    have hu' : Rp H' (vD us) v2 := hu.ex o.ex
    refine' s_extO o rfl (es := ((rowP m i ((i : Int) + 1)).map fun p => leadF us p.1 p.2).map .int) ?x (imm_ints _) (by rw [List.length_map, List.length_map]; omega) fun H5 x5 o5 => ?_
    case x =>
      rw [prs_row m (fun p => leadF us p.1 p.2), List.map_map]
      have z : (rgI ((i : Int) + 1) (m - ((i : Int) + 1)).toNat).map (PyData.int ∘ fun j => leadF us (i : Int) j) = ((rgI ((i : Int) + 1) (m - ((i : Int) + 1)).toNat).filter fun _ => true).map fun j => PyData.int (leadF us (i : Int) j) := by
        rw [List.filter_eq_self.mpr (fun _ _ => rfl)]
        rfl
      refine EvN.is ?_ z.symm
      refine' evn_lcR2 (lo := (i : Int) + 1) (n := m) (fun _ => true) (fun j => .int (leadF us (i : Int) j)) ?es (by omega) ?turn fun _ _ _ _ => rfl
      case es => wtm_at "es"
      case turn =>
        intro j H6 j0 j1 e6
        refine' ⟨_, fun Q hq => hq, rfl, et_yes, fun _ => ev_llead (a := (i : Int)) (b := j) (evd_var rfl (hu'.ex e6)) ?a ?b hl ?c⟩
        case a => wtm_at "ev"
        case b => wtm_at "ev"
        case c => exact fun u m_ => ⟨(hv u m_).mem.mpr (by omega), (hv u m_).mem.mpr (by omega)⟩
    refine ⟨acc ++ (rowP m i ((i : Int) + 1)).map (fun p => leadF us p.1 p.2), _, rfl, ?_, ?_⟩
    · rw [List.map_append]
      exact o5
    · rw [List.append_assoc, show ((i + 1 : Nat) : Int) = (i : Int) + 1 by omega]
      exact hacc
  · rintro σ' H' ⟨acc, y, rfl, o, hacc⟩
    wtm_at "nx"
    rw [prs_end (m := m) (a := (m.toNat : Int)) (by omega), List.map_nil, List.append_nil] at hacc
    subst hacc
    exact s_retD (d := iD (ldV m us)) (evd_cb (evs_cons (evd_var rfl o.rp) evs_nil) cd_tupL) fun v H5 e5 r => q v H5 (o.ex.trans e5) r
end
theorem ev_lleads {σ : L2.St} {H : Hp} {t0 t1 : TE} {E : XK} {m : Int} {us : List (List Int)} (h0 : EvD t0 σ H (.int m)) (h1 : EvD t1 σ H (vD us)) (c : 0 ≤ m ∧ m ≤ 6) (l : us.length ≤ 1000) (v : isVot m us) : EvD (tCall sp__law_leads [] E (tCons t0 (tCons t1 tNil))) σ H (iD (ldV m us)) := evd_callO (m, us) (evs_cons h0 (evs_cons h1 evs_nil)) ⟨c, l, v⟩ rfl
def sp__law_signs : Sp := spO (α := List Int) (fun a => [iD a]) (fun a => a.length ≤ 1000) fun a => .new ((a.map sigF).map .int)
theorem len__law_signs (vs : List V) (H : Hp) (Q : VK) (E : XK) (h : sp__law_signs vs H Q E) : vs.length = 1 := by
  unfold sp__law_signs at h
  obtain ⟨a, r, _⟩ := h
  rw [r.len]
  rfl
section
variable {P : Program} {w : World} {K : PySem.W.Frag} {mg : Str → Option Value} {base : Heap}
theorem ok__law_signs {f : Addr} {fd : FuncData} (D : Df K mg "_law_signs" s__law_signs ["leads"] f fd) (Bi : Bi mg) : FnOk P w K mg base CX0 1 f fd ["leads"] sp__law_signs := by
  refine D.F.ok c__law_signs (fun vs H Q E h => len__law_signs _ _ _ _ h) (fun cdv A outer s H vs Q E hr h => ?_)
  refine ⟨_, (pss_one (ps_ret (pe_lc (own := [("number", 1)]) (g := (gName 1)) (tt := tYes) rfl c__law_signs.nd (pi_tupK (K := K) (pv 0)) (blkOk_by (own := [("number", 1)]) (N := ["leads", "number"]) (sc := defScope s__law_signs) (by decide +kernel)) (fun _ _ _ _ _ => (pg_name (i := 1) c__law_signs.nd rfl (.inl rfl))) (fun _ _ _ _ _ => pts_nil) (fun _ _ _ _ _ => (pe_op op_subI (pe_callTy cr_intB (by rfl) Bi.int (by decide +kernel) (pa_cons (pe_cmpR op_gtI (pv 1) pe_int (nomark _)) pa_nil)) (pe_callTy cr_intB (by rfl) Bi.int (by decide +kernel) (pa_cons (pe_cmpR op_ltI (pv 1) pe_int (nomark _)) pa_nil))))))), ?_⟩
  obtain ⟨ls, ⟨v1, _, rfl, hv, rfl⟩, hl, q⟩ := h
  dsimp only at q hv hl
  refine' s_retNw (ds := (ls.map sigF).map .int) (EvN.is (ds := (ls.filter fun _ => true).map fun n => .int (sigF n)) ?x (by rw [List.filter_eq_self.mpr (fun _ _ => rfl), List.map_map]; rfl)) fun p vs H1 n e h1 r => q p vs H1 n e h1 r
  refine evn_lcT (f := PyData.int) (xs := ls) (fun _ => true) (fun n => .int (sigF n)) (evd_var rfl hv) (by omega) (fun x v H1 hx e r => ?_) fun _ _ _ => rfl
  exact ⟨_, fun Q hq => hq, rfl, et_yes, fun _ => (evd_op (evd_cb (evs_cons (evd_op (x := .int x) (evd_var rfl r) evd_int rd_gtI) evs_nil) cd_intB) (evd_cb (evs_cons (evd_op (x := .int x) (evd_var rfl r) evd_int rd_ltI) evs_nil) cd_intB) rd_subI).is (by unfold sigF; simp only [decide_eq_true_eq])⟩
end
theorem ev_lsigns {σ : L2.St} {H : Hp} {t0 : TE} {E : XK} {ls : List Int} (h0 : EvD t0 σ H (iD ls)) (l : ls.length ≤ 1000) : EvN (tCall sp__law_signs [] E (tCons t0 tNil)) σ H ((ls.map sigF).map .int) := evn_callO ls (evs_cons h0 evs_nil) l rfl
def sp__law_wished : Sp := spO (α := Int × List (Int × Int)) (fun a => [.int a.1, wD a.2]) (fun a => 0 ≤ a.1 ∧ a.1 ≤ 6) fun a => .new ((wishV a.1 a.2).map .int)
theorem len__law_wished (vs : List V) (H : Hp) (Q : VK) (E : XK) (h : sp__law_wished vs H Q E) : vs.length = 2 := by
  unfold sp__law_wished at h
  obtain ⟨a, r, _⟩ := h
  rw [r.len]
  rfl
section
variable {P : Program} {w : World} {K : PySem.W.Frag} {mg : Str → Option Value} {base : Heap}
theorem ok__law_wished {f : Addr} {fd : FuncData} (D : Df K mg "_law_wished" s__law_wished ["many", "web"] f fd) (Bi : Bi mg) : FnOk P w K mg base CX0 1 f fd ["many", "web"] sp__law_wished := by
  refine D.F.ok c__law_wished (fun vs H Q E h => len__law_wished _ _ _ _ h) (fun cdv A outer s H vs Q E hr h => ?_)
  refine ⟨_, (pss_cons (ps_set (i := 2) c__law_wished.nd rfl (.inl rfl) (pe_lst pa_nil))
      (pss_cons (ps_for (PassesOwn.never) rfl (pi_range1 (by rfl) Bi.range (pa_cons (pv 0) pa_nil)) (pg_name (i := 3) c__law_wished.nd rfl (.inr rfl))
      (pss_one (ps_expr (pe_bm PySem.F.plainAttrs_list PySem.F.slot_list_extend PySem.F.type_list_extend mt_extend (pv 2) (pa_cons (pe_lc (own := [("other", 4)]) (g := (gName 4)) (tt := tYes) rfl c__law_wished.nd (pi_range2 (by rfl) Bi.range (pa_cons (pe_op op_addI (pv 3) pe_int) (pa_cons (pv 0) pa_nil))) (blkOk_by (own := [("other", 4)]) (N := ["many", "web", "wished", "one", "other"]) (sc := defScope s__law_wished) (by decide +kernel)) (fun _ _ _ _ _ => (pg_name (i := 4) c__law_wished.nd rfl (.inl rfl))) (fun _ _ _ _ _ => pts_nil) (fun _ _ _ _ _ => (pe_op op_subI (pe_callTy cr_intB (by rfl) Bi.int (by decide +kernel) (pa_cons (pe_cmpR (op_inDK (K := K) (hu65 hr)) (pe_tupF (pa_cons (pv 3) (pa_cons (pv 4) pa_nil))) (pv 1) (by rfl)) pa_nil)) (pe_callTy cr_intB (by rfl) Bi.int (by decide +kernel) (pa_cons (pe_cmpR (op_inDK (K := K) (hu65 hr)) (pe_tupF (pa_cons (pv 4) (pa_cons (pv 3) pa_nil))) (pv 1) (by rfl)) pa_nil))))) pa_nil)))))
      (pss_one (ps_ret (pv 2))))), ?_⟩
  obtain ⟨⟨m, ps⟩, ⟨v1, _, rfl, rfl, v2, _, rfl, hw, rfl⟩, ⟨m0, m6⟩, q⟩ := h
  dsimp only at q hw m0 m6
  have hpl := prs_len ⟨m0, m6⟩
  refine' s_asgO (evn_lst evs_nil (by decide)) rfl fun pf H1 e1 o1 => ?_
  wtm_at "nx"
  refine' s_forR (n := m) ?n (by omega) fun H3 e3 => ⟨fun i σ' H' => ∃ acc y, σ' = [some (.int m), some v2, some (.ref pf), y, none] ∧ Own H H' pf ((acc : List Int).map .int) ∧ acc ++ (prs m i).map (wishF ps) = wishV m ps, ?_, ?_, ?_⟩
  case n => wtm_at "es"
  · exact ⟨[], none, rfl, o1.step e3, rfl⟩
  · rintro i σ' H' hi ⟨acc, y, rfl, o, hacc⟩
    refine g_name ?_
    rw [prs_step hi, List.map_append] at hacc
    have hlen : acc.length + ((rowP m i ((i : Int) + 1)).map (wishF ps)).length ≤ 15 := by
      have := congrArg List.length hacc
      unfold wishV at this
      rw [List.length_append, List.length_append, List.length_map (as := prs m 0)] at this
      omega
    have hw' : Rp H' (wD ps) v2 := hw.ex o.ex
    refine' s_extO o rfl (es := ((rowP m i ((i : Int) + 1)).map (wishF ps)).map .int) ?x (imm_ints _) (by rw [List.length_map, List.length_map]; omega) fun H5 x5 o5 => ?_
    case x =>
      rw [prs_row m (wishF ps), List.map_map]
      have z : (rgI ((i : Int) + 1) (m - ((i : Int) + 1)).toNat).map (PyData.int ∘ fun j => wishF ps ((i : Int), j)) = ((rgI ((i : Int) + 1) (m - ((i : Int) + 1)).toNat).filter fun _ => true).map fun j => PyData.int (wishF ps ((i : Int), j)) := by
        rw [List.filter_eq_self.mpr (fun _ _ => rfl)]
        rfl
      refine EvN.is ?_ z.symm
      refine' evn_lcR2 (lo := (i : Int) + 1) (n := m) (fun _ => true) (fun j => .int (wishF ps ((i : Int), j))) ?es (by omega) ?turn fun _ _ _ _ => rfl
      case es => wtm_at "es"
      case turn =>
        intro j H6 j0 j1 e6
        exact ⟨_, fun Q hq => hq, rfl, et_yes, fun _ => ev_wish (a := (i : Int)) (b := j) (evd_var rfl rp_int) (evd_var rfl rp_int) (evd_var rfl (hw'.ex e6))⟩
    refine ⟨acc ++ (rowP m i ((i : Int) + 1)).map (wishF ps), _, rfl, ?_, ?_⟩
    · rw [List.map_append]
      exact o5
    · rw [List.append_assoc, show ((i + 1 : Nat) : Int) = (i : Int) + 1 by omega]
      exact hacc
  · rintro σ' H' ⟨acc, y, rfl, o, hacc⟩
    wtm_at "nx"
    rw [prs_end (m := m) (a := (m.toNat : Int)) (by omega), List.map_nil, List.append_nil] at hacc
    subst hacc
    obtain ⟨ws, k1, k2⟩ := o.has
    exact ⟨_, rfl, q pf ws H' o.new o.ex k1 k2⟩
end
theorem ev_lwished {σ : L2.St} {H : Hp} {t0 t1 : TE} {E : XK} {m : Int} {ps : List (Int × Int)} (h0 : EvD t0 σ H (.int m)) (h1 : EvD t1 σ H (wD ps)) (c : 0 ≤ m ∧ m ≤ 6) : EvN (tCall sp__law_wished [] E (tCons t0 (tCons t1 tNil))) σ H ((wishV m ps).map .int) := evn_callO (m, ps) (evs_cons h0 (evs_cons h1 evs_nil)) c rfl

end Bm

namespace Bm
open PySem PySem.Spec PyProof.Rows L2 Evl
local macro_rules | `(tactic| wtm_at "rp") => `(tactic| first | exact rp_int | exact rp_bl | exact rp_str | exact rp_non | assumption | (refine' Rp.ex ?e ?h; (case h => assumption); (case e => assumption)) | exact Own.rp (by assumption))
local macro_rules | `(tactic| wtm_at "side") => `(tactic| first | assumption | omega | decide | rfl | exact ⟨by omega, by omega⟩)
local macro_rules | `(tactic| wtm_at "es") => `(tactic| first | exact evs_nil | (refine' evs_cons ?a ?b; (case a => wtm_at "ev"); (case b => wtm_at "es")))
local macro_rules | `(tactic| wtm_at "ev") => `(tactic| first
  | exact evd_int | exact evd_str | exact evd_bl | exact evd_non
  | (refine' evd_var rfl ?h; (case h => wtm_at "rp"))
  | ((with_reducible refine' evd_op ?a ?b rd_addI); (case a => wtm_at "ev"); (case b => wtm_at "ev"))
  | ((with_reducible refine' evd_op ?a ?b rd_subI); (case a => wtm_at "ev"); (case b => wtm_at "ev"))
  | ((with_reducible refine' evd_op ?a ?b (rd_mulI ?c)); (case a => wtm_at "ev"); (case b => wtm_at "ev"); (case c => wtm_at "side"))
  | ((with_reducible refine' evd_op ?a ?b (rd_divI ?c)); (case a => wtm_at "ev"); (case b => wtm_at "ev"); (case c => wtm_at "side"))
  | ((with_reducible refine' evd_op ?a ?b (rd_modI ?c)); (case a => wtm_at "ev"); (case b => wtm_at "ev"); (case c => wtm_at "side"))
  | ((with_reducible refine' evd_op ?a ?b rd_ltI); (case a => wtm_at "ev"); (case b => wtm_at "ev"))
  | ((with_reducible refine' evd_op ?a ?b rd_leI); (case a => wtm_at "ev"); (case b => wtm_at "ev"))
  | ((with_reducible refine' evd_op ?a ?b rd_gtI); (case a => wtm_at "ev"); (case b => wtm_at "ev"))
  | ((with_reducible refine' evd_op ?a ?b rd_geI); (case a => wtm_at "ev"); (case b => wtm_at "ev"))
  | ((with_reducible refine' evd_op ?a ?b rd_eqI); (case a => wtm_at "ev"); (case b => wtm_at "ev"))
  | ((with_reducible refine' evd_op ?a ?b rd_neI); (case a => wtm_at "ev"); (case b => wtm_at "ev"))
  | ((with_reducible refine' evd_op ?a ?b rd_eqB); (case a => wtm_at "ev"); (case b => wtm_at "ev"))
  | ((with_reducible refine' evd_op ?a ?b rd_neB); (case a => wtm_at "ev"); (case b => wtm_at "ev"))
  | ((with_reducible refine' evd_op ?a ?b rd_isNo); (case a => wtm_at "ev"); (case b => wtm_at "ev"))
  | ((with_reducible refine' evd_op ?a ?b rd_notNo); (case a => wtm_at "ev"); (case b => wtm_at "ev"))
  | ((with_reducible refine' evd_op ?a ?b rd_inIL); (case a => wtm_at "ev"); (case b => wtm_at "ev"))
  | ((with_reducible refine' evd_op ?a ?b rd_niIL); (case a => wtm_at "ev"); (case b => wtm_at "ev"))
  | ((with_reducible refine' evd_op ?a ?b rd_inID); (case a => wtm_at "ev"); (case b => wtm_at "ev"))
  | ((with_reducible refine' evd_op ?a ?b rd_niID); (case a => wtm_at "ev"); (case b => wtm_at "ev"))
  | ((with_reducible refine' evd_neg ?a); (case a => wtm_at "ev"))
  | ((with_reducible refine' evd_tix ?a ?b ?c); (case a => wtm_at "ev"); (case b => wtm_at "ev"); (case c => wtm_at "side"))
  | ((with_reducible refine' evd_tup ?a ?b); (case a => wtm_at "es"); (case b => exact Nat.le_of_ble_eq_true rfl))
  | ((with_reducible refine' evd_cb ?a cd_lenL); (case a => wtm_at "es"))
  | ((with_reducible refine' evd_cb ?a cd_lenT); (case a => wtm_at "es"))
  | ((with_reducible refine' evd_cb ?a cd_intB); (case a => wtm_at "es"))
  | ((with_reducible refine' evd_cb ?a cd_tupL); (case a => wtm_at "es"))
  | ((with_reducible refine' evd_and ?a ?b); (case a => wtm_at "ev"); (case b => intro _; wtm_at "ev"))
  | ((with_reducible refine' evd_or ?a ?b); (case a => wtm_at "ev"); (case b => intro _; wtm_at "ev"))
  | ((with_reducible refine' evd_not ?a); (case a => wtm_at "ev"))
  | ((with_reducible refine' evd_op ?a ?b rd_neIL); (case a => wtm_at "ev"); (case b => wtm_at "ev"))
  | ((with_reducible refine' evd_op ?a ?b rd_eqIL); (case a => wtm_at "ev"); (case b => wtm_at "ev"))
  | ((with_reducible refine' EvN.toD ?a); (case a => wtm_at "en")))
local macro_rules | `(tactic| wtm_at "en") => `(tactic| first
  | ((with_reducible refine' evn_cb ?a cn_sortTI); (case a => wtm_at "es"))
  | ((with_reducible refine' evn_cb ?a cn_listL); (case a => wtm_at "es"))
  | ((with_reducible refine' evn_cb ?a cn_listT); (case a => wtm_at "es"))
  | ((with_reducible refine' evn_rng ?a ?b); (case a => wtm_at "ev"); (case b => wtm_at "side"))
  | ((with_reducible refine' evn_lst ?a ?b); (case a => wtm_at "es"); (case b => exact Nat.le_of_ble_eq_true rfl))
  | ((with_reducible refine' evn_cat ?a ?b ?c); (case a => wtm_at "ev"); (case b => wtm_at "ev"); (case c => wtm_at "side"))
  | ((with_reducible refine' evn_slL ?a ?b ?c); (case a => wtm_at "ev"); (case b => first | exact evp_none | (refine' evp_some ?d; (case d => wtm_at "ev"))); (case c => first | exact evp_none | (refine' evp_some ?d; (case d => wtm_at "ev")))))
local macro_rules | `(tactic| wtm_at "et") => `(tactic| first
  | exact et_yes
  | (refine' ett ?a; (case a => wtm_at "ev"))
  | (refine' etB ?a; (case a => wtm_at "ev"))
  | (refine' et_and ?a ?b; (case a => wtm_at "et"); (case b => intro _; wtm_at "et"))
  | (refine' et_or ?a ?b; (case a => wtm_at "et"); (case b => intro _; wtm_at "et"))
  | (refine' et_not ?a; (case a => wtm_at "et")))
local macro_rules | `(tactic| wtm_at "nx") => `(tactic| try dsimp only [tSeq, tNext])
/-! ### how many rows of leads four voters give: a bit for each -/
def c5 : List Nat → Nat
  | [] => 0
  | d :: r => d + 5 * c5 r
theorem c5_inj : ∀ {a b : List Nat}, (∀ x ∈ a, x < 5) → (∀ x ∈ b, x < 5) → a.length = b.length → c5 a = c5 b → a = b
  | [], [], _, _, _, _ => rfl
  | [], _ :: _, _, _, h, _ => by cases h
  | _ :: _, [], _, _, h, _ => by cases h
  | x :: a, y :: b, ha, hb, l, h => by
    have h1 := ha x List.mem_cons_self
    have h2 := hb y List.mem_cons_self
    have h3 : x + 5 * c5 a = y + 5 * c5 b := h
    rw [show x = y by omega, c5_inj (fun z m => ha z (List.mem_cons_of_mem _ m)) (fun z m => hb z (List.mem_cons_of_mem _ m)) (by simpa using l) (by omega)]
theorem c5_lt : ∀ {a : List Nat}, (∀ x ∈ a, x < 5) → c5 a < 5 ^ a.length
  | [], _ => by decide
  | x :: a, h => by
    have h1 := h x List.mem_cons_self
    have h2 := c5_lt fun z m => h z (List.mem_cons_of_mem _ m)
    show x + 5 * c5 a < 5 ^ (a.length + 1)
    rw [Nat.pow_succ]
    omega
theorem c5_add {α : Type} (f g : α → Nat) : ∀ l : List α, c5 (l.map fun p => f p + g p) = c5 (l.map f) + c5 (l.map g)
  | [] => rfl
  | x :: l => by
    have ih := c5_add f g l
    show f x + g x + 5 * c5 (l.map fun p => f p + g p) = f x + 5 * c5 (l.map f) + (g x + 5 * c5 (l.map g))
    omega
/-- is the one ahead of the other -/
def ahd (v : List Int) (p : Int × Int) : Nat := if ixOf p.1 v < ixOf p.2 v then 1 else 0
def ahds (vs : List (List Int)) (p : Int × Int) : Nat := (vs.map fun v => ahd v p).sum
theorem ahds_le (p : Int × Int) : ∀ vs : List (List Int), ahds vs p ≤ vs.length
  | [] => Nat.zero_le _
  | v :: vs => by
    have ih := ahds_le p vs
    have e : ahds (v :: vs) p = ahd v p + ahds vs p := by simp [ahds]
    rw [e, List.length_cons]
    unfold ahd
    split <;> omega
theorem leadF_ahds (p : Int × Int) : ∀ vs : List (List Int), leadF vs p.1 p.2 = 2 * (ahds vs p : Int) - (vs.length : Int)
  | [] => rfl
  | v :: vs => by
    have ih := leadF_ahds p vs
    have e : ahds (v :: vs) p = ahd v p + ahds vs p := by simp [ahds]
    have e2 : leadF (v :: vs) p.1 p.2 = sgn1 v p.1 p.2 + leadF vs p.1 p.2 := by unfold leadF; rw [List.map_cons, List.sum_cons]
    rw [e, e2, ih, List.length_cons]
    unfold sgn1 ahd
    split <;> omega
def wt4 (v : List Int) : Nat := c5 ((prs 4 0).map (ahd v))
def cd4 (vs : List (List Int)) : Nat := c5 ((prs 4 0).map (ahds vs))
theorem cd4_cons (v : List Int) (vs : List (List Int)) : cd4 (v :: vs) = wt4 v + cd4 vs := by
  unfold cd4 wt4
  rw [← c5_add]
  congr 1
theorem cd4_same {us vs : List (List Int)} (lu : us.length ≤ 4) (l : us.length = vs.length) (h : cd4 us = cd4 vs) : ldV 4 us = ldV 4 vs := by
  have bd : ∀ ws : List (List Int), ws.length ≤ 4 → ∀ x ∈ (prs 4 0).map (ahds ws), x < 5 := fun ws lw x m => by
    obtain ⟨p, _, rfl⟩ := List.mem_map.mp m
    have := ahds_le p ws
    omega
  have e := c5_inj (bd us lu) (bd vs (by omega)) (by simp) h
  unfold ldV
  refine List.map_congr_left fun p m => ?_
  have e2 : ahds us p = ahds vs p := by
    have z : ∀ l : List (Int × Int), l.map (ahds us) = l.map (ahds vs) → ∀ p ∈ l, ahds us p = ahds vs p := fun l => by
      induction l with
      | nil => intro _ p m; cases m
      | cons q l ih =>
        intro k p m
        rw [List.map_cons, List.map_cons, List.cons.injEq] at k
        rcases List.mem_cons.mp m with rfl | m
        · exact k.1
        · exact ih k.2 p m
    exact z _ e p m
  rw [leadF_ahds, leadF_ahds, e2, l]
def bit4 : Nat → Nat
  | 0 => 1
  | c + 1 => ((rowsF 4 4).map fun v => bit4 c <<< wt4 v).foldl (· ||| ·) 0
theorem or_bit : ∀ (l : List Nat) (a i : Nat), (a.testBit i = true ∨ ∃ x ∈ l, x.testBit i = true) → (l.foldl (· ||| ·) a).testBit i = true
  | [], a, i, h => by
    rcases h with h | ⟨x, m, _⟩
    · exact h
    · cases m
  | y :: l, a, i, h => by
    refine or_bit l (a ||| y) i ?_
    rw [Nat.testBit_or, Bool.or_eq_true]
    rcases h with h | ⟨x, m, h⟩
    · exact .inl (.inl h)
    · rcases List.mem_cons.mp m with rfl | m
      · exact .inl (.inr h)
      · exact .inr ⟨x, m, h⟩
theorem cd4_bit : ∀ {vs : List (List Int)}, isVot 4 vs → (bit4 vs.length).testBit (cd4 vs) = true
  | [], _ => by decide +kernel
  | v :: vs, h => by
    have ih := cd4_bit fun u m => h u (List.mem_cons_of_mem _ m)
    have hv : v ∈ rowsF 4 4 := rowsF_mem (m := 4) (h v List.mem_cons_self)
    refine or_bit _ _ _ (.inr ⟨_, List.mem_map.mpr ⟨v, hv, rfl⟩, ?_⟩)
    rw [Nat.testBit_shiftLeft, cd4_cons]
    rw [show wt4 v + cd4 vs - wt4 v = cd4 vs by omega, ih]
    simp
/-- how many bits are set, below 2 ^ 2 ^ k -/
def pop : Nat → Nat → Nat
  | 0, x => x % 2
  | k + 1, x => if x = 0 then 0 else pop k (x % 2 ^ 2 ^ k) + pop k (x / 2 ^ 2 ^ k)
theorem pop_le : ∀ (k x : Nat) (l : List Nat), l.Nodup → (∀ i ∈ l, i < 2 ^ k ∧ x.testBit i = true) → l.length ≤ pop k x
  | 0, x, l, n, h => by
    match l, n, h with
    | [], _, _ => exact Nat.zero_le _
    | [i], _, h =>
      obtain ⟨h1, h2⟩ := h i List.mem_cons_self
      have : i = 0 := by simpa using h1
      rw [this, Nat.testBit_zero, decide_eq_true_eq] at h2
      show 1 ≤ x % 2
      omega
    | i :: j :: l, n, h =>
      have h1 := (h i List.mem_cons_self).1
      have h2 := (h j (List.mem_cons_of_mem _ List.mem_cons_self)).1
      have e1 : i = 0 := by simpa using h1
      have e2 : j = 0 := by simpa using h2
      rw [e1, e2] at n
      simp at n
  | k + 1, x, l, n, h => by
    unfold pop
    have e2 : 2 ^ (k + 1) = 2 ^ k + 2 ^ k := by rw [Nat.pow_succ, Nat.mul_two]
    by_cases x0 : x = 0
    · rw [if_pos x0]
      cases l with
      | nil => exact Nat.le_refl _
      | cons i l =>
        have := (h i List.mem_cons_self).2
        rw [x0, Nat.zero_testBit] at this
        cases this
    · rw [if_neg x0]
      have a := pop_le k (x % 2 ^ 2 ^ k) (l.filter fun i => decide (i < 2 ^ k)) (n.filter _) fun i m => by
        obtain ⟨m, c⟩ := List.mem_filter.mp m
        have c : i < 2 ^ k := by simpa using c
        exact ⟨c, by rw [Nat.testBit_mod_two_pow, (h i m).2]; simp [c]⟩
      have b := pop_le k (x / 2 ^ 2 ^ k) ((l.filter fun i => !decide (i < 2 ^ k)).map fun i => i - 2 ^ k) (by
        refine List.pairwise_map.mpr ((n.filter _).imp_of_mem fun {i j} mi mj ne e => ne ?_)
        have ci : ¬ i < 2 ^ k := by simpa using (List.mem_filter.mp mi).2
        have cj : ¬ j < 2 ^ k := by simpa using (List.mem_filter.mp mj).2
        omega) fun i m => by
        obtain ⟨j, mj, ej⟩ := List.mem_map.mp m
        obtain ⟨mj, c⟩ := List.mem_filter.mp mj
        have c : ¬ j < 2 ^ k := by simpa using c
        have z := (h j mj).1
        have y : i + 2 ^ k = j := by omega
        refine ⟨by omega, ?_⟩
        rw [Nat.testBit_div_two_pow, y]
        exact (h j mj).2
      rw [List.length_map] at b
      have s : ∀ (f : Nat → Bool) (l : List Nat), l.length = (l.filter f).length + (l.filter fun i => !f i).length := fun f l => by
        induction l with
        | nil => rfl
        | cons i l ih =>
          rw [List.filter_cons, List.filter_cons, List.length_cons]
          cases f i <;> simp <;> omega
      have := s (fun i => decide (i < 2 ^ k)) l
      omega
theorem pop4 : pop 14 (bit4 4) ≤ 4914 := by decide +kernel
/-- leads of so many voters -/
def LdOf (m : Int) (c : Nat) (r : List Int) : Prop := ∃ vs, isVot m vs ∧ vs.length = c ∧ ldV m vs = r
theorem LdOf.len {m : Int} {c : Nat} {r : List Int} (h : LdOf m c r) : r.length = (prs m 0).length := by
  obtain ⟨vs, _, _, rfl⟩ := h
  exact ldV_len m vs
theorem rows_cap {m : Int} (hm : 1 ≤ m ∧ m ≤ 4) {c : Nat} (hc : c ≤ 4) {U : List (List Int)} (nd : U.Nodup) (h : ∀ r ∈ U, LdOf m c r) : U.length < 4915 := by
  have few := rows_few (k := c) (d := (prs m 0).length) nd fun r mr => by
    obtain ⟨vs, _, l, rfl⟩ := h r mr
    exact ⟨ldV_len m vs, by rw [← l]; exact ldV_ok m vs⟩
  by_cases m4 : m = 4
  · subst m4
    by_cases c4 : c = 4
    · subst c4
      have pick : ∃ f : List Int → List (List Int), ∀ r, r ∈ U → isVot 4 (f r) ∧ (f r).length = 4 ∧ ldV 4 (f r) = r := Classical.axiomOfChoice (r := fun (r : List Int) (vs : List (List Int)) => r ∈ U → isVot 4 vs ∧ vs.length = 4 ∧ ldV 4 vs = r) fun r => by
        by_cases z : r ∈ U
        · obtain ⟨vs, k⟩ := h r z
          exact ⟨vs, fun _ => k⟩
        · exact ⟨[], fun k => absurd k z⟩
      obtain ⟨f, hf⟩ := pick
      have z := pop_le 14 (bit4 4) (U.map fun r => cd4 (f r)) (List.pairwise_map.mpr (nd.imp_of_mem fun {a b} ma mb ne e => ne (by
        obtain ⟨_, a2, a3⟩ := hf a ma
        obtain ⟨_, b2, b3⟩ := hf b mb
        rw [← a3, ← b3]
        exact cd4_same (by omega) (by omega) e))) fun i mi => by
        obtain ⟨r, mr, rfl⟩ := List.mem_map.mp mi
        obtain ⟨f1, f2, _⟩ := hf r mr
        have b := cd4_bit f1
        rw [f2] at b
        refine ⟨?_, b⟩
        have lt := c5_lt (a := (prs 4 0).map (ahds (f r))) fun x mx => by
          obtain ⟨p, _, rfl⟩ := List.mem_map.mp mx
          have := ahds_le p (f r)
          omega
        rw [List.length_map] at lt
        have l6 : (5 : Nat) ^ (prs 4 0).length ≤ 2 ^ 14 := by decide +kernel
        show cd4 (f r) < 2 ^ 14
        exact Nat.lt_of_lt_of_le lt l6
      rw [List.length_map] at z
      have := pop4
      omega
    · have l6 : (prs 4 0).length = 6 := by decide
      rw [l6] at few
      have : (c + 1) ^ 6 ≤ 4 ^ 6 := Nat.pow_le_pow_left (by omega) _
      have : (4 : Nat) ^ 6 = 4096 := by decide
      omega
  · have l3 : (prs m 0).length ≤ 3 := by
      have : m = 1 ∨ m = 2 ∨ m = 3 := by omega
      rcases this with rfl | rfl | rfl <;> decide
    have a : (c + 1) ^ (prs m 0).length ≤ 5 ^ (prs m 0).length := Nat.pow_le_pow_left (by omega) _
    have b : (5 : Nat) ^ (prs m 0).length ≤ 5 ^ 3 := Nat.pow_le_pow_right (by decide) l3
    have : (5 : Nat) ^ 3 = 125 := by decide
    omega
/-! ### the fewest that make what is wished -/
def mkW (m : Int) (w : List Int) (vs : List (List Int)) : Prop := (ldV m vs).map sigF = w
def IsLeast (m : Int) (w : List Int) : Option Nat → Prop
  | some c => c ≤ 4 ∧ (∃ vs, isVot m vs ∧ vs.length = c ∧ mkW m w vs) ∧ ∀ vs, isVot m vs → mkW m w vs → c ≤ vs.length
  | none => ∀ vs, isVot m vs → mkW m w vs → 4 < vs.length
theorem least_is (m : Int) (w : List Int) : ∃ o, IsLeast m w o := by
  by_cases h : ∃ n, n ≤ 4 ∧ ∃ vs, isVot m vs ∧ vs.length = n ∧ mkW m w vs
  · obtain ⟨n, l, h⟩ := h
    obtain ⟨k, k1, k2, k3⟩ := st_least (p := fun n => ∃ vs, isVot m vs ∧ vs.length = n ∧ mkW m w vs) n h
    exact ⟨some k, by omega, k2, fun vs v1 v2 => Nat.le_of_not_lt fun z => k3 _ z ⟨vs, v1, rfl, v2⟩⟩
  · exact ⟨none, fun vs v1 v2 => Nat.lt_of_not_le fun z => h ⟨_, z, vs, v1, rfl, v2⟩⟩
def RowsIs (m : Int) (c : Nat) (rows : List (List Int)) : Prop := ∀ r, r ∈ rows ↔ LdOf m c r
theorem RowsIs.zero (m : Int) : RowsIs m 0 [List.replicate (prs m 0).length 0] := fun r => by
  rw [List.mem_singleton]
  constructor
  · rintro rfl
    exact ⟨[], (fun v h => by cases h), rfl, ldV_nil m⟩
  · rintro ⟨vs, _, l, rfl⟩
    rw [List.eq_nil_of_length_eq_zero l, ldV_nil]
theorem ldV_one (m : Int) (v : List Int) : ldV m [v] = sgnV m v := by
  unfold ldV sgnV
  refine List.map_congr_left fun p _ => ?_
  simp [leadF]
def nextRows (m : Int) (rows : List (List Int)) : List (List Int) := (rows.map fun r => (rowsF m m.toNat).map fun v => addV r (ldV m [v])).flatten
theorem RowsIs.next {m : Int} (hm : 0 ≤ m ∧ m ≤ 6) {c : Nat} {rows : List (List Int)} (h : RowsIs m c rows) : RowsIs m (c + 1) (nextRows m rows) := fun r => by
  unfold nextRows
  rw [List.mem_flatten]
  constructor
  · rintro ⟨xs, mx, mr⟩
    obtain ⟨q, mq, rfl⟩ := List.mem_map.mp mx
    obtain ⟨v, mv, rfl⟩ := List.mem_map.mp mr
    obtain ⟨vs, v1, v2, rfl⟩ := (h q).mp mq
    refine ⟨vs ++ [v], fun u mu => ?_, by simp [v2], by rw [ldV_snoc, ldV_one]⟩
    rcases List.mem_append.mp mu with mu | mu
    · exact v1 u mu
    · rw [List.mem_singleton.mp mu]
      exact rowsF_ord mv
  · rintro ⟨vs, v1, v2, rfl⟩
    rcases List.eq_nil_or_concat vs with e | ⟨ws, x, e⟩
    · rw [e] at v2
      cases v2
    · rw [List.concat_eq_append] at e
      subst e
      refine ⟨_, List.mem_map.mpr ⟨ldV m ws, (h _).mpr ⟨ws, fun u mu => v1 u (List.mem_append_left _ mu), by simpa using v2, rfl⟩, rfl⟩, List.mem_map.mpr ⟨x, rowsF_mem (v1 x (List.mem_append_right _ (by simp))), ?_⟩⟩
      rw [ldV_snoc, ldV_one]

end Bm

namespace Bm
open PySem PySem.Spec PyProof.Rows L2 Evl
local macro_rules | `(tactic| wtm_at "rp") => `(tactic| first | exact rp_int | exact rp_bl | exact rp_str | exact rp_non | assumption | (refine' Rp.ex ?e ?h; (case h => assumption); (case e => assumption)) | exact Own.rp (by assumption))
local macro_rules | `(tactic| wtm_at "side") => `(tactic| first | assumption | omega | decide | rfl | exact ⟨by omega, by omega⟩)
local macro_rules | `(tactic| wtm_at "es") => `(tactic| first | exact evs_nil | (refine' evs_cons ?a ?b; (case a => wtm_at "ev"); (case b => wtm_at "es")))
local macro_rules | `(tactic| wtm_at "ev") => `(tactic| first
  | exact evd_int | exact evd_str | exact evd_bl | exact evd_non
  | (refine' evd_var rfl ?h; (case h => wtm_at "rp"))
  | ((with_reducible refine' evd_op ?a ?b rd_addI); (case a => wtm_at "ev"); (case b => wtm_at "ev"))
  | ((with_reducible refine' evd_op ?a ?b rd_subI); (case a => wtm_at "ev"); (case b => wtm_at "ev"))
  | ((with_reducible refine' evd_op ?a ?b (rd_mulI ?c)); (case a => wtm_at "ev"); (case b => wtm_at "ev"); (case c => wtm_at "side"))
  | ((with_reducible refine' evd_op ?a ?b (rd_divI ?c)); (case a => wtm_at "ev"); (case b => wtm_at "ev"); (case c => wtm_at "side"))
  | ((with_reducible refine' evd_op ?a ?b (rd_modI ?c)); (case a => wtm_at "ev"); (case b => wtm_at "ev"); (case c => wtm_at "side"))
  | ((with_reducible refine' evd_op ?a ?b rd_ltI); (case a => wtm_at "ev"); (case b => wtm_at "ev"))
  | ((with_reducible refine' evd_op ?a ?b rd_leI); (case a => wtm_at "ev"); (case b => wtm_at "ev"))
  | ((with_reducible refine' evd_op ?a ?b rd_gtI); (case a => wtm_at "ev"); (case b => wtm_at "ev"))
  | ((with_reducible refine' evd_op ?a ?b rd_geI); (case a => wtm_at "ev"); (case b => wtm_at "ev"))
  | ((with_reducible refine' evd_op ?a ?b rd_eqI); (case a => wtm_at "ev"); (case b => wtm_at "ev"))
  | ((with_reducible refine' evd_op ?a ?b rd_neI); (case a => wtm_at "ev"); (case b => wtm_at "ev"))
  | ((with_reducible refine' evd_op ?a ?b rd_eqB); (case a => wtm_at "ev"); (case b => wtm_at "ev"))
  | ((with_reducible refine' evd_op ?a ?b rd_neB); (case a => wtm_at "ev"); (case b => wtm_at "ev"))
  | ((with_reducible refine' evd_op ?a ?b rd_isNo); (case a => wtm_at "ev"); (case b => wtm_at "ev"))
  | ((with_reducible refine' evd_op ?a ?b rd_notNo); (case a => wtm_at "ev"); (case b => wtm_at "ev"))
  | ((with_reducible refine' evd_op ?a ?b rd_inIL); (case a => wtm_at "ev"); (case b => wtm_at "ev"))
  | ((with_reducible refine' evd_op ?a ?b rd_niIL); (case a => wtm_at "ev"); (case b => wtm_at "ev"))
  | ((with_reducible refine' evd_op ?a ?b rd_inID); (case a => wtm_at "ev"); (case b => wtm_at "ev"))
  | ((with_reducible refine' evd_op ?a ?b rd_niID); (case a => wtm_at "ev"); (case b => wtm_at "ev"))
  | ((with_reducible refine' evd_neg ?a); (case a => wtm_at "ev"))
  | ((with_reducible refine' evd_tix ?a ?b ?c); (case a => wtm_at "ev"); (case b => wtm_at "ev"); (case c => wtm_at "side"))
  | ((with_reducible refine' evd_tup ?a ?b); (case a => wtm_at "es"); (case b => exact Nat.le_of_ble_eq_true rfl))
  | ((with_reducible refine' evd_cb ?a cd_lenL); (case a => wtm_at "es"))
  | ((with_reducible refine' evd_cb ?a cd_lenT); (case a => wtm_at "es"))
  | ((with_reducible refine' evd_cb ?a cd_intB); (case a => wtm_at "es"))
  | ((with_reducible refine' evd_cb ?a cd_tupL); (case a => wtm_at "es"))
  | ((with_reducible refine' evd_and ?a ?b); (case a => wtm_at "ev"); (case b => intro _; wtm_at "ev"))
  | ((with_reducible refine' evd_or ?a ?b); (case a => wtm_at "ev"); (case b => intro _; wtm_at "ev"))
  | ((with_reducible refine' evd_not ?a); (case a => wtm_at "ev"))
  | ((with_reducible refine' evd_op ?a ?b rd_neIL); (case a => wtm_at "ev"); (case b => wtm_at "ev"))
  | ((with_reducible refine' evd_op ?a ?b rd_eqIL); (case a => wtm_at "ev"); (case b => wtm_at "ev"))
  | ((with_reducible refine' EvN.toD ?a); (case a => wtm_at "en")))
local macro_rules | `(tactic| wtm_at "en") => `(tactic| first
  | ((with_reducible refine' evn_cb ?a cn_sortTI); (case a => wtm_at "es"))
  | ((with_reducible refine' evn_cb ?a cn_listL); (case a => wtm_at "es"))
  | ((with_reducible refine' evn_cb ?a cn_listT); (case a => wtm_at "es"))
  | ((with_reducible refine' evn_rng ?a ?b); (case a => wtm_at "ev"); (case b => wtm_at "side"))
  | ((with_reducible refine' evn_lst ?a ?b); (case a => wtm_at "es"); (case b => exact Nat.le_of_ble_eq_true rfl))
  | ((with_reducible refine' evn_cat ?a ?b ?c); (case a => wtm_at "ev"); (case b => wtm_at "ev"); (case c => wtm_at "side"))
  | ((with_reducible refine' evn_slL ?a ?b ?c); (case a => wtm_at "ev"); (case b => first | exact evp_none | (refine' evp_some ?d; (case d => wtm_at "ev"))); (case c => first | exact evp_none | (refine' evp_some ?d; (case d => wtm_at "ev")))))
local macro_rules | `(tactic| wtm_at "et") => `(tactic| first
  | exact et_yes
  | (refine' ett ?a; (case a => wtm_at "ev"))
  | (refine' etB ?a; (case a => wtm_at "ev"))
  | (refine' et_and ?a ?b; (case a => wtm_at "et"); (case b => intro _; wtm_at "et"))
  | (refine' et_or ?a ?b; (case a => wtm_at "et"); (case b => intro _; wtm_at "et"))
  | (refine' et_not ?a; (case a => wtm_at "et")))
local macro_rules | `(tactic| wtm_at "nx") => `(tactic| try dsimp only [tSeq, tNext])
/-! ### _law_least -/
def oD : Option Nat → PyData
  | some c => .int (c : Int)
  | none => .none
theorem rowsF_24 {m : Int} (hm : 1 ≤ m ∧ m ≤ 4) : (rowsF m m.toNat).length ≤ 24 := by
  have : m = 1 ∨ m = 2 ∨ m = 3 ∨ m = 4 := by omega
  rcases this with rfl | rfl | rfl | rfl <;> decide +kernel
def someRows (m : Int) (rows : List (List Int)) : List (List Int) := (rows.map fun r => (rowsF m m.toNat).map fun v => addV r (ldV m [v])).flatten
theorem someRows_len {m : Int} (hm : 1 ≤ m ∧ m ≤ 4) (rows : List (List Int)) : (someRows m rows).length ≤ rows.length * 24 := by
  have := flat_len (k := 24) (xss := rows.map fun r => (rowsF m m.toNat).map fun v => addV r (ldV m [v])) fun xs hx => by
    obtain ⟨r, _, rfl⟩ := List.mem_map.mp hx
    rw [List.length_map]
    exact rowsF_24 hm
  rwa [List.length_map] at this
theorem filter_all {α : Type} (xs : List α) : (xs.filter fun _ => true) = xs := List.filter_eq_self.mpr fun _ _ => rfl
def sp__law_least : Sp := spO (α := (Int × List Int) × Option Nat) (fun a => [.int a.1.1, iL a.1.2]) (fun a => (1 ≤ a.1.1 ∧ a.1.1 ≤ 4) ∧ a.1.2.length = (prs a.1.1 0).length ∧ IsLeast a.1.1 a.1.2 a.2) fun a => .val (oD a.2)
theorem len__law_least (vs : List V) (H : Hp) (Q : VK) (E : XK) (h : sp__law_least vs H Q E) : vs.length = 2 := by
  unfold sp__law_least at h
  obtain ⟨a, r, _⟩ := h
  rw [r.len]
  rfl
section
variable {P : Program} {w : World} {K : PySem.W.Frag} {mg : Str → Option Value} {base : Heap}
theorem ok__law_least {f : Addr} {fd : FuncData} (D : Df K mg "_law_least" s__law_least ["many", "wished"] f fd) (Bi : Bi mg) {f__law_orders : Addr} {fd__law_orders : FuncData} (D__law_orders : Df K mg "_law_orders" s__law_orders ["many"] f__law_orders fd__law_orders) (G__law_orders : FnOk P w K mg base CX0 1 f__law_orders fd__law_orders ["many"] sp__law_orders) {f__law_leads : Addr} {fd__law_leads : FuncData} (D__law_leads : Df K mg "_law_leads" s__law_leads ["many", "voters"] f__law_leads fd__law_leads) (G__law_leads : FnOk P w K mg base CX0 2 f__law_leads fd__law_leads ["many", "voters"] sp__law_leads) {f__law_signs : Addr} {fd__law_signs : FuncData} (D__law_signs : Df K mg "_law_signs" s__law_signs ["leads"] f__law_signs fd__law_signs) (G__law_signs : FnOk P w K mg base CX0 1 f__law_signs fd__law_signs ["leads"] sp__law_signs) : FnOk P w K mg base CX0 3 f fd ["many", "wished"] sp__law_least := by
  refine D.F.ok c__law_least (fun vs H Q E h => len__law_least _ _ _ _ h) (fun cdv A outer s H vs Q E hr h => ?_)
  refine ⟨_, (pss_cons (ps_setLc (i := 2) (own := [("voter", 7)]) (g := (gName 7)) (tt := tYes) rfl c__law_least.nd rfl rfl (sw_true rfl rfl rfl (by decide +kernel)) (pi_listK (K := K) (pe_call G__law_orders (hr.mono (by decide)) (by rfl) D__law_orders.g D__law_orders.F.kp D__law_orders.b .nil pass0 (pa_cons (pv 0) pa_nil))) (blkOk_by (own := [("voter", 7)]) (N := ["many", "wished", "single", "rows", "count", "longer", "row", "voter", "more", "k"]) (sc := defScope s__law_least) (by decide +kernel)) (fun _ _ _ _ _ => (pg_name (i := 7) c__law_least.nd rfl (.inl rfl))) (fun _ _ _ _ _ => pts_nil) (fun _ _ _ _ _ => (pe_call G__law_leads (hr.mono (by decide)) (by rfl) D__law_leads.g D__law_leads.F.kp D__law_leads.b .nil pass0 (pa_cons (pv 0) (pa_cons (pe_lst (pa_cons (pv 7) pa_nil)) pa_nil)))))
      (pss_cons (ps_set (i := 3) c__law_least.nd rfl (.inl rfl) (pe_lst (pa_cons (pe_callTy (cr_tupLK (K := K)) (by rfl) Bi.tuple (by decide +kernel) (pa_cons (pe_op op_rep (pe_lst (pa_cons pe_int pa_nil)) (pe_callB (cr_lenK (K := K)) (by rfl) Bi.len (by decide +kernel) (pa_cons (pv 1) pa_nil))) pa_nil)) pa_nil)))
      (pss_cons (ps_set (i := 4) c__law_least.nd rfl (.inl rfl) pe_int)
      (pss_cons (ps_while (PassesOwn.never) (pt_cmpR op_eqI (pe_callB (cr_lenK (K := K)) (by rfl) Bi.len (by decide +kernel) (pa_cons (pe_lc (own := [("row", 6)]) (g := (gName 6)) rfl c__law_least.nd (pi_listK (K := K) (pv 3)) (blkOk_by (own := [("row", 6)]) (N := ["many", "wished", "single", "rows", "count", "longer", "row", "voter", "more", "k"]) (sc := defScope s__law_least) (by decide +kernel)) (fun _ _ _ _ _ => (pg_name (i := 6) c__law_least.nd rfl (.inl rfl))) (fun _ _ _ _ _ => pts_one (pt_cmpR (op_eqDK (K := K) hr.units) (pe_call G__law_signs (hr.mono (by decide)) (by rfl) D__law_signs.g D__law_signs.F.kp D__law_signs.b .nil pass0 (pa_cons (pv 6) pa_nil)) (pv 1) (nomark _))) (fun _ _ _ _ _ => (pv 6))) pa_nil)) pe_int (nomark _))
      (pss_cons (ps_if (pt_cmpR op_eqI (pv 4) pe_int (nomark _))
      (pss_one (ps_ret pe_non))
      pss_nil)
      (pss_cons (ps_set (i := 5) c__law_least.nd rfl (.inl rfl) (pe_lst pa_nil))
      (pss_cons (ps_for (PassesOwn.never) rfl (pi_listK (K := K) (pv 3)) (pg_name (i := 6) c__law_least.nd rfl (.inr rfl))
      (pss_one (ps_expr (pe_bm PySem.F.plainAttrs_list PySem.F.slot_list_extend PySem.F.type_list_extend mt_extend (pv 5) (pa_cons (pe_lc (own := [("more", 8)]) (g := (gName 8)) (tt := tYes) rfl c__law_least.nd (pi_listK (K := K) (pv 2)) (blkOk_by (own := [("more", 8)]) (N := ["many", "wished", "single", "rows", "count", "longer", "row", "voter", "more", "k"]) (sc := defScope s__law_least) (by decide +kernel)) (fun _ _ _ _ _ => (pg_name (i := 8) c__law_least.nd rfl (.inr rfl))) (fun _ _ _ _ _ => pts_nil) (fun _ _ _ _ _ => (pe_callTy (cr_tupLK (K := K)) (by rfl) Bi.tuple (by decide +kernel) (pa_cons (pe_lc (own := [("k", 9)]) (g := (gName 9)) (tt := tYes) rfl c__law_least.nd (pi_range1 (by rfl) Bi.range (pa_cons (pe_callB (cr_lenK (K := K)) (by rfl) Bi.len (by decide +kernel) (pa_cons (pv 6) pa_nil)) pa_nil)) (blkOk_by (by kernel_rfl)) (fun _ _ _ _ _ => (pg_name (i := 9) c__law_least.nd rfl (.inl rfl))) (fun _ _ _ _ _ => pts_nil) (fun _ _ _ _ _ => (pe_op op_addI (pe_ix (ix_tupK (K := K)) (pv 6) (pv 9) (fun _ _ => rfl)) (pe_ix (ix_tupK (K := K)) (pv 8) (pv 9) (fun _ _ => rfl))))) pa_nil)))) pa_nil)))))
      (pss_cons (ps_set (i := 3) c__law_least.nd rfl (.inl rfl) (pe_sortSet (K := K) rfl (hu64 hr) (by rfl) Bi.sorted (by rfl) Bi.set (pv 5)))
      (pss_one (ps_set (i := 4) c__law_least.nd rfl (.inl rfl) (pe_op op_addI (pv 4) pe_int))))))))
      (pss_one (ps_ret (pv 4))))))), ?_⟩
  obtain ⟨⟨⟨m, wi⟩, o⟩, ⟨v1, _, rfl, rfl, v2, _, rfl, hw, rfl⟩, ⟨hm, hwl, ho⟩, q⟩ := h
  dsimp only at q hw hm hwl ho
  have hm6 : 0 ≤ m ∧ m ≤ 6 := by omega
  have h24 := rowsF_24 hm
  have hpl := prs_len4 (m := m) (by omega)
  refine' s_asgD (d := vD ((rowsF m m.toNat).map fun v => ldV m [v])) ((EvN.toD (ds := ((rowsF m m.toNat).filter fun _ => true).map fun v => iD (ldV m [v])) ?x).is (by rw [filter_all, vD, List.map_map]; rfl)) fun vsg H1 e1 hs => ?_
  case x =>
    refine' evn_lcL (f := iD) (xs := rowsF m m.toNat) (fun _ => true) (fun v => iD (ldV m [v])) (ev_lorders (m := m) (evd_var rfl rp_int) hm6) (by omega) ?tn fun x _ _ => imm_iD _
    intro x v H6 hx e6 r
    exact ⟨_, fun Q hq => hq, rfl, et_yes, fun _ => ev_lleads (m := m) (us := [x]) (evd_var rfl rp_int) (EvN.toD (evn_lst (ds := [iD x]) (evs_cons (evd_var rfl r) evs_nil) (Nat.le_of_ble_eq_true rfl))) hm6 (Nat.le_of_ble_eq_true rfl) fun u mu => by
      rw [List.mem_singleton.mp mu]
      exact rowsF_ord hx⟩
  wtm_at "nx"
  have hw1 := hw.ex e1
  refine' s_asgD (d := vD [List.replicate (prs m 0).length 0]) ((EvN.toD (ds := [.tuple ((List.replicate (prs m 0).length (0 : Int)).map .int)]) (evn_lst (evs_cons (evd_cb (evs_cons ?z evs_nil) cd_tupL) evs_nil) (Nat.le_of_ble_eq_true rfl))).is rfl) fun vr0 H2 e2 hr0 => ?_
  case z =>
    have l1 : EvD (tCB (rLenS K) (tCons (tVar 1) tNil)) [some (V.int m), some v2, some vsg, none, none, none, none, none, none, none] H1 (.int (wi.map PyData.int).length) := evd_cb (evs_cons (evd_var rfl (d := iL wi) hw1) evs_nil) cd_lenL
    rw [List.length_map, hwl] at l1
    have z := EvN.toD (evn_rep (ds := [.int 0]) (k := (((prs m 0).length : Nat) : Int)) (EvN.toD (evn_lst (evs_cons evd_int evs_nil) (by decide))) l1 (by omega) (by decide))
    refine z.is ?_
    rw [Int.toNat_natCast]
    congr 1
    have : ∀ n : Nat, (List.replicate n [PyData.int 0]).flatten = (List.replicate n (0 : Int)).map PyData.int := fun n => by
      induction n with
      | zero => rfl
      | succ n ih => rw [List.replicate_succ, List.flatten_cons, ih, List.replicate_succ]; rfl
    exact this _
  wtm_at "nx"
  refine' s_asgI (n := 0) evd_int fun H3 e3 => ?_
  wtm_at "nx"
  have hs3 := hs.ex (e2.trans e3)
  have hw3 := hw1.ex (e2.trans e3)
  have hx3 := (e1.trans e2).trans e3
  refine' s_while (fun k' σ' H' => ∃ (c : Nat) (rows : List (List Int)) (vr : V) (y5 y6 : Option V), σ' = [some (.int m), some v2, some vsg, some vr, some (.int (c : Int)), y5, y6, none, none, none] ∧ Ex H3 H' ∧ Rp H' (vD rows) vr ∧ RowsIs m c rows ∧ rows.Nodup ∧
    (∀ us, isVot m us → mkW m wi us → c ≤ us.length) ∧ k' + c = 4) 4 ⟨0, _, vr0, none, none, rfl, Ex.refl _, hr0.ex e3, RowsIs.zero m, by simp, fun _ _ _ => Nat.zero_le _, rfl⟩ ?wl
  rintro k' σ' H' ⟨c, rows, vr, y5, y6, rfl, ex, hr, R, nd, mn, hk⟩
  have hc4 : c ≤ 4 := by omega
  have rl := rows_cap hm hc4 nd fun r mr => (R r).mp mr
  have hw' := hw3.ex ex
  have hs' := hs3.ex ex
  have rlen : ∀ r ∈ rows, r.length = (prs m 0).length := fun r mr => ((R r).mp mr).len
  refine' ⟨decide ((((rows.filter fun r => decide (r.map sigF = wi)).map iD).length : Int) = 0), ett (evd_op (evd_cb (evs_cons (EvN.toD ?x) evs_nil) cd_lenL) evd_int rd_eqI), ?yes, ?no⟩
  case x =>
    refine' evn_lcL (f := iD) (xs := rows) (fun r => decide (r.map sigF = wi)) iD (evd_var rfl hr) (by omega) ?tn2 fun x _ _ => imm_iD x
    intro x v H6 hx e6 r
    have xl := rlen x hx
    have hw6 : Rp H6 (iL wi) v2 := hw'.ex e6
    exact ⟨_, fun Q hq => hq, rfl, ett (evd_op (x := iL (x.map sigF)) (EvN.toD (ev_lsigns (evd_var rfl r) (by omega))) (evd_var rfl hw6) rd_eqIL), fun _ => evd_var rfl r⟩
  case no =>
    intro hb H4 e4
    wtm_at "nx"
    have some_ : ∃ us, isVot m us ∧ us.length = c ∧ mkW m wi us := by
      have hb : ¬ ((((rows.filter fun r => decide (r.map sigF = wi)).map iD).length : Int) = 0) := of_decide_eq_false hb
      rw [List.length_map] at hb
      have : rows.filter (fun r => decide (r.map sigF = wi)) ≠ [] := fun z => hb (by rw [z]; rfl)
      obtain ⟨r, mr⟩ := List.exists_mem_of_ne_nil _ this
      obtain ⟨mr, er⟩ := List.mem_filter.mp mr
      obtain ⟨us, u1, u2, rfl⟩ := (R r).mp mr
      have er : (ldV m us).map sigF = wi := of_decide_eq_true er
      exact ⟨us, u1, u2, er⟩
    obtain ⟨us, u1, u2, u3⟩ := some_
    have eo : oD o = .int (c : Int) := by
      cases o with
      | none =>
        have := ho us u1 u3
        omega
      | some c' =>
        obtain ⟨_, ⟨ws, w1, w2, w3⟩, h3⟩ := ho
        have a := h3 us u1 u3
        have b := mn ws w1 w3
        have : c' = c := by omega
        rw [this]
        rfl
    exact s_retD (d := .int (c : Int)) (evd_var rfl rp_int) fun v H5 e5 r => q v H5 (((hx3.trans ex).trans e4).trans e5) (by rw [eo]; exact r)
  case yes =>
    intro hb H4 e4
    have none_ : ∀ us, isVot m us → us.length = c → ¬ mkW m wi us := fun us u1 u2 u3 => by
      have hb : ((((rows.filter fun r => decide (r.map sigF = wi)).map iD).length : Int) = 0) := of_decide_eq_true hb
      rw [List.length_map] at hb
      have e : rows.filter (fun r => decide (r.map sigF = wi)) = [] := List.eq_nil_of_length_eq_zero (by omega)
      have := List.filter_eq_nil_iff.mp e (ldV m us) ((R _).mpr ⟨us, u1, u2, rfl⟩)
      exact this (decide_eq_true u3)
    have more : ∀ us, isVot m us → mkW m wi us → c + 1 ≤ us.length := fun us u1 u3 => by
      have := mn us u1 u3
      have : us.length ≠ c := fun z => none_ us u1 z u3
      omega
    refine ⟨fun σ2 H2 => ∃ k2, k2 < k' ∧ ∃ (c : Nat) (rows : List (List Int)) (vr : V) (y5 y6 : Option V), σ2 = [some (.int m), some v2, some vsg, some vr, some (.int (c : Int)), y5, y6, none, none, none] ∧ Ex H3 H2 ∧ Rp H2 (vD rows) vr ∧ RowsIs m c rows ∧ rows.Nodup ∧
      (∀ us, isVot m us → mkW m wi us → c ≤ us.length) ∧ k2 + c = 4, fun σ2 H2 z => z, ?_⟩
    wtm_at "nx"
    refine' s_if (b := decide ((c : Int) = 4)) ?t1 ?y1 ?n1
    case t1 => wtm_at "et"
    case y1 =>
      intro h4 H5 e5
      have c4 : c = 4 := by
        have : (c : Int) = 4 := by simpa using h4
        omega
      have eo : oD o = .none := by
        cases o with
        | none => rfl
        | some c' =>
          obtain ⟨l4, ⟨ws, w1, w2, w3⟩, _⟩ := ho
          have := more ws w1 w3
          omega
      exact s_retD (d := .none) evd_non fun v H6 e6 r => q v H6 ((((hx3.trans ex).trans e4).trans e5).trans e6) (by rw [eo]; exact r)
    case n1 =>
    intro h4 H5 e5
    wtm_at "nx"
    have c3 : c ≤ 3 := by
      have : ¬ (c : Int) = 4 := by simpa using h4
      omega
    have rl2 : rows.length ≤ 4096 := by
      have a := rows_few (k := c) (d := (prs m 0).length) nd fun r mr => by
        obtain ⟨us, u1, u2, rfl⟩ := (R r).mp mr
        exact ⟨ldV_len m us, by rw [← u2]; exact ldV_ok m us⟩
      have b : (c + 1) ^ (prs m 0).length ≤ 4 ^ (prs m 0).length := Nat.pow_le_pow_left (by omega) _
      have d : (4 : Nat) ^ (prs m 0).length ≤ 4 ^ 6 := Nat.pow_le_pow_right (by decide) hpl
      have : (4 : Nat) ^ 6 = 4096 := by decide
      omega
    have d1 : 1 ≤ (prs m 0).length := by
      rcases Nat.eq_zero_or_pos (prs m 0).length with z | z
      · exfalso
        have u : mkW m wi [] := by
          unfold mkW
          rw [ldV_nil, z]
          rw [z] at hwl
          rw [List.eq_nil_of_length_eq_zero hwl]
          rfl
        have a := mn [] (fun v mv => by cases mv) u
        have b := more [] (fun v mv => by cases mv) u
        simp at b
      · exact z
    have e45 := e4.trans e5
    have hr5 := hr.ex e45
    have hs5 := hs'.ex e45
    refine' s_asgO (evn_lst evs_nil (by decide)) rfl fun pl H6 e6 o6 => ?_
    wtm_at "nx"
    refine s_forB (f := iD) (xs := rows) (Hb := H5) rfl hr5 e6 (fun j σ' H'' => (∃ y, σ' = [some (.int m), some v2, some vsg, some vr, some (.int (c : Int)), some (.ref pl), y, none, none, none]) ∧ Own H5 H'' pl ((someRows m (rows.take j)).map iD)) ?_ ?_ ?_ ?_
    · exact ⟨⟨y6, rfl⟩, o6⟩
    · rintro j σ' H'' ⟨_, o⟩
      exact o.ex
    · rintro j x v σ' H'' hx hrx ⟨⟨y, rfl⟩, o⟩
      refine g_name ?_
      have hj : j < rows.length := (List.getElem?_eq_some_iff.mp hx).1
      have xl := rlen x (List.mem_of_getElem? hx)
      have l1 := someRows_len hm (rows.take j)
      rw [List.length_take] at l1
      have hsx : Rp H'' (vD ((rowsF m m.toNat).map fun v => ldV m [v])) vsg := hs5.ex o.ex
      refine' s_extO o rfl (es := ((rowsF m m.toNat).map fun v => addV x (ldV m [v])).map iD) ?xx (imm_vD _) (by rw [List.length_map, List.length_map, List.length_map]; omega) fun H7 x7 o7 => ?_
      case xx =>
        refine EvN.is (ds := (((rowsF m m.toNat).map fun v => ldV m [v]).filter fun _ => true).map fun z => iD (addV x z)) ?_ (by rw [filter_all, List.map_map, List.map_map]; rfl)
        refine' evn_lcL (f := iD) (xs := (rowsF m m.toNat).map fun v => ldV m [v]) (fun _ => true) (fun z => iD (addV x z)) (evd_var rfl hsx) (by rw [List.length_map]; omega) ?tn3 fun _ _ _ => imm_iD _
        intro z u H8 hz e8 r8
        have zl : z.length = (prs m 0).length := by
          obtain ⟨t, _, rfl⟩ := List.mem_map.mp hz
          exact ldV_len m [t]
        have hx8 : Rp H8 (iD x) v := hrx.ex e8
        refine' ⟨_, fun Q hq => hq, rfl, et_yes, fun _ => evd_cb (evs_cons (EvN.toD (ds := (addV x z).map .int) ?in_) evs_nil) cd_tupL⟩
        rw [addV_rg (by omega), List.map_map]
        refine EvN.is (ds := ((rgI 0 ((x.length : Int)).toNat).filter fun _ => true).map fun k => PyData.int (x.getD k.toNat 0 + z.getD k.toNat 0)) ?_ (by rw [filter_all]; rfl)
        have ln : EvD (tCB (rLenS K) (tCons (tVar 6) tNil)) [some (V.int m), some v2, some vsg, some vr, some (V.int (c : Int)), some (V.ref pl), some v, none, some u, none] H8 (.int (x.map PyData.int).length) := evd_cb (evs_cons (evd_var rfl hx8) evs_nil) cd_lenT
        rw [List.length_map] at ln
        refine evn_lcR (n := (x.length : Int)) (fun _ => true) (fun k => .int (x.getD k.toNat 0 + z.getD k.toNat 0)) (evs_cons ln evs_nil) (by omega) (fun k H9 k0 k1 e9 => ?_) fun _ _ _ _ => rfl
        have hk : k.toNat < x.length := by omega
        have ek : k = ((k.toNat : Nat) : Int) := by omega
        have g1 : atI (x.map PyData.int) k = some (.int (x.getD k.toNat 0)) := by
          refine atI_map ?_
          conv => lhs; rw [ek]
          exact atI_nat (by rw [List.getD_eq_getElem?_getD, List.getElem?_eq_getElem hk]; rfl)
        have g2 : atI (z.map PyData.int) k = some (.int (z.getD k.toNat 0)) := by
          refine atI_map ?_
          conv => lhs; rw [ek]
          exact atI_nat (by rw [List.getD_eq_getElem?_getD, List.getElem?_eq_getElem (by omega)]; rfl)
        have hx9 : Rp H9 (iD x) v := hx8.ex e9
        have hz9 : Rp H9 (iD z) u := r8.ex e9
        exact ⟨_, fun Q hq => hq, rfl, et_yes, fun _ => evd_op (evd_op (evd_var rfl hx9) (evd_var rfl rp_int) (rd_ixT g1)) (evd_op (evd_var rfl hz9) (evd_var rfl rp_int) (rd_ixT g2)) rd_addI⟩
      refine ⟨⟨_, rfl⟩, ?_⟩
      have e2 : someRows m (rows.take (j + 1)) = someRows m (rows.take j) ++ (rowsF m m.toNat).map fun v => addV x (ldV m [v]) := by
        unfold someRows
        rw [List.take_add_one, hx, List.map_append, List.flatten_append]
        simp
      rw [e2, List.map_append]
      exact o7
    · rintro σ' H'' ⟨⟨y, rfl⟩, o⟩
      rw [List.take_length] at o
      wtm_at "nx"
      have NX := R.next hm6
      refine s_asgSortSet (rs := someRows m rows) (d := (prs m 0).length) (evd_var rfl o.rp) d1 (fun r mr => ((NX r).mp mr).len) (fun U un us => rows_cap hm (show c + 1 ≤ 4 by omega) un fun r mr => (NX r).mp (us r mr)) fun v9 H9 rows9 e9 hr9 same nd9 => ?_
      wtm_at "nx"
      refine s_asgI (n := ((c + 1 : Nat) : Int)) ((evd_op (evd_var rfl rp_int) evd_int rd_addI).is (by rw [Int.natCast_add]; rfl)) fun H10 e10 => ?_
      exact ⟨k' - 1, by omega, c + 1, rows9, v9, _, _, rfl, ((ex.trans e45).trans o.ex).trans (e9.trans e10), hr9.ex e10, fun r => (same r).trans (NX r), nd9, more, by omega⟩
end
theorem ev_lleast {σ : L2.St} {H : Hp} {t0 t1 : TE} {E : XK} {m : Int} {wi : List Int} {o : Option Nat} (h0 : EvD t0 σ H (.int m)) (h1 : EvD t1 σ H (iL wi)) (c : 1 ≤ m ∧ m ≤ 4) (l : wi.length = (prs m 0).length) (ho : IsLeast m wi o) : EvD (tCall sp__law_least [] E (tCons t0 (tCons t1 tNil))) σ H (oD o) := evd_callO ((m, wi), o) (evs_cons h0 (evs_cons h1 evs_nil)) ⟨c, l, ho⟩ rfl

end Bm

namespace Bm
open PySem PySem.Spec PyProof.Rows L2 Evl
local macro_rules | `(tactic| wtm_at "rp") => `(tactic| first | exact rp_int | exact rp_bl | exact rp_str | exact rp_non | assumption | (refine' Rp.ex ?e ?h; (case h => assumption); (case e => assumption)) | exact Own.rp (by assumption))
local macro_rules | `(tactic| wtm_at "side") => `(tactic| first | assumption | omega | decide | rfl | exact ⟨by omega, by omega⟩)
local macro_rules | `(tactic| wtm_at "es") => `(tactic| first | exact evs_nil | (refine' evs_cons ?a ?b; (case a => wtm_at "ev"); (case b => wtm_at "es")))
local macro_rules | `(tactic| wtm_at "ev") => `(tactic| first
  | exact evd_int | exact evd_str | exact evd_bl | exact evd_non
  | (refine' evd_var rfl ?h; (case h => wtm_at "rp"))
  | ((with_reducible refine' evd_op ?a ?b rd_addI); (case a => wtm_at "ev"); (case b => wtm_at "ev"))
  | ((with_reducible refine' evd_op ?a ?b rd_subI); (case a => wtm_at "ev"); (case b => wtm_at "ev"))
  | ((with_reducible refine' evd_op ?a ?b (rd_mulI ?c)); (case a => wtm_at "ev"); (case b => wtm_at "ev"); (case c => wtm_at "side"))
  | ((with_reducible refine' evd_op ?a ?b (rd_divI ?c)); (case a => wtm_at "ev"); (case b => wtm_at "ev"); (case c => wtm_at "side"))
  | ((with_reducible refine' evd_op ?a ?b (rd_modI ?c)); (case a => wtm_at "ev"); (case b => wtm_at "ev"); (case c => wtm_at "side"))
  | ((with_reducible refine' evd_op ?a ?b rd_ltI); (case a => wtm_at "ev"); (case b => wtm_at "ev"))
  | ((with_reducible refine' evd_op ?a ?b rd_leI); (case a => wtm_at "ev"); (case b => wtm_at "ev"))
  | ((with_reducible refine' evd_op ?a ?b rd_gtI); (case a => wtm_at "ev"); (case b => wtm_at "ev"))
  | ((with_reducible refine' evd_op ?a ?b rd_geI); (case a => wtm_at "ev"); (case b => wtm_at "ev"))
  | ((with_reducible refine' evd_op ?a ?b rd_eqI); (case a => wtm_at "ev"); (case b => wtm_at "ev"))
  | ((with_reducible refine' evd_op ?a ?b rd_neI); (case a => wtm_at "ev"); (case b => wtm_at "ev"))
  | ((with_reducible refine' evd_op ?a ?b rd_eqB); (case a => wtm_at "ev"); (case b => wtm_at "ev"))
  | ((with_reducible refine' evd_op ?a ?b rd_neB); (case a => wtm_at "ev"); (case b => wtm_at "ev"))
  | ((with_reducible refine' evd_op ?a ?b rd_isNo); (case a => wtm_at "ev"); (case b => wtm_at "ev"))
  | ((with_reducible refine' evd_op ?a ?b rd_notNo); (case a => wtm_at "ev"); (case b => wtm_at "ev"))
  | ((with_reducible refine' evd_op ?a ?b rd_inIL); (case a => wtm_at "ev"); (case b => wtm_at "ev"))
  | ((with_reducible refine' evd_op ?a ?b rd_niIL); (case a => wtm_at "ev"); (case b => wtm_at "ev"))
  | ((with_reducible refine' evd_op ?a ?b rd_inID); (case a => wtm_at "ev"); (case b => wtm_at "ev"))
  | ((with_reducible refine' evd_op ?a ?b rd_niID); (case a => wtm_at "ev"); (case b => wtm_at "ev"))
  | ((with_reducible refine' evd_neg ?a); (case a => wtm_at "ev"))
  | ((with_reducible refine' evd_tix ?a ?b ?c); (case a => wtm_at "ev"); (case b => wtm_at "ev"); (case c => wtm_at "side"))
  | ((with_reducible refine' evd_tup ?a ?b); (case a => wtm_at "es"); (case b => exact Nat.le_of_ble_eq_true rfl))
  | ((with_reducible refine' evd_cb ?a cd_lenL); (case a => wtm_at "es"))
  | ((with_reducible refine' evd_cb ?a cd_lenT); (case a => wtm_at "es"))
  | ((with_reducible refine' evd_cb ?a cd_intB); (case a => wtm_at "es"))
  | ((with_reducible refine' evd_cb ?a cd_tupL); (case a => wtm_at "es"))
  | ((with_reducible refine' evd_and ?a ?b); (case a => wtm_at "ev"); (case b => intro _; wtm_at "ev"))
  | ((with_reducible refine' evd_or ?a ?b); (case a => wtm_at "ev"); (case b => intro _; wtm_at "ev"))
  | ((with_reducible refine' evd_not ?a); (case a => wtm_at "ev"))
  | ((with_reducible refine' evd_op ?a ?b rd_neIL); (case a => wtm_at "ev"); (case b => wtm_at "ev"))
  | ((with_reducible refine' evd_op ?a ?b rd_eqIL); (case a => wtm_at "ev"); (case b => wtm_at "ev"))
  | ((with_reducible refine' EvN.toD ?a); (case a => wtm_at "en")))
local macro_rules | `(tactic| wtm_at "en") => `(tactic| first
  | ((with_reducible refine' evn_cb ?a cn_sortTI); (case a => wtm_at "es"))
  | ((with_reducible refine' evn_cb ?a cn_listL); (case a => wtm_at "es"))
  | ((with_reducible refine' evn_cb ?a cn_listT); (case a => wtm_at "es"))
  | ((with_reducible refine' evn_rng ?a ?b); (case a => wtm_at "ev"); (case b => wtm_at "side"))
  | ((with_reducible refine' evn_lst ?a ?b); (case a => wtm_at "es"); (case b => exact Nat.le_of_ble_eq_true rfl))
  | ((with_reducible refine' evn_cat ?a ?b ?c); (case a => wtm_at "ev"); (case b => wtm_at "ev"); (case c => wtm_at "side"))
  | ((with_reducible refine' evn_slL ?a ?b ?c); (case a => wtm_at "ev"); (case b => first | exact evp_none | (refine' evp_some ?d; (case d => wtm_at "ev"))); (case c => first | exact evp_none | (refine' evp_some ?d; (case d => wtm_at "ev")))))
local macro_rules | `(tactic| wtm_at "et") => `(tactic| first
  | exact et_yes
  | (refine' ett ?a; (case a => wtm_at "ev"))
  | (refine' etB ?a; (case a => wtm_at "ev"))
  | (refine' et_and ?a ?b; (case a => wtm_at "et"); (case b => intro _; wtm_at "et"))
  | (refine' et_or ?a ?b; (case a => wtm_at "et"); (case b => intro _; wtm_at "et"))
  | (refine' et_not ?a; (case a => wtm_at "et")))
local macro_rules | `(tactic| wtm_at "nx") => `(tactic| try dsimp only [tSeq, tNext])
/-! ### the law -/
theorem many4 (c : Int) : 1 ≤ 1 + c % 4 ∧ 1 + c % 4 ≤ 4 := by omega
theorem beats_makes {m : Int} (hm : 0 ≤ m ∧ m ≤ 6) {vs : List (List Int)} (hv : isVot m vs) : makesP m (beatsF m vs) vs :=
  (makesP_iff hm (beatsF_web hm hv) hv).mpr (beatsF_is hm (beatsF_web hm hv).nodup fun p => by rw [mem_beatsF hm.1])
theorem wishV_len (m : Int) (ps : List (Int × Int)) : (wishV m ps).length = (prs m 0).length := List.length_map _
theorem few_call {C1 C3 C4 : Addr} {σ : L2.St} {H : Hp} {E : XK} {t0 t1 : TE} {m : Int} {ps : List (Int × Int)} (h0 : EvD t0 σ H (.int m)) (h1 : EvD t1 σ H (wD ps)) (hm : 1 ≤ m ∧ m ≤ 4) (hw : isWeb m ps) (Q : VK)
    (k : ∀ p us H1, Ex H H1 → Own H H1 p (us.map iD) → isVot m us → makesP m ps us → (∀ ws, isVot m ws → makesP m ps ws → us.length ≤ ws.length) → Q (.ref p) H1) :
    tCall (sp_fewest C1 C3 C4) [] E (tCons t0 (tCons t1 tNil)) σ H Q := (evs_cons h0 (evs_cons h1 evs_nil)) H (Ex.refl H) _ fun vs H1 e r => by
  show sp_fewest C1 C3 C4 (vs ++ []) H1 Q E
  rw [List.append_nil]
  have hl : ps.length ≤ 6 := isWeb_len4 (m := m) (by omega) hw
  refine ⟨(m, ps), r, (show ps.length ≤ 1000 by omega), ?_⟩
  show Gives H1 _ E (chkW C1 C3 m ps (if 4 < m then .exc C4 else .some (fewP m ps)))
  rw [chkW_ok (show 1 ≤ m ∧ m ≤ 6 by omega) hw, if_neg (by omega)]
  rintro ds ⟨us, rfl, u1, u2, u3⟩ p ws H2 hp e2 g1 g2
  exact k p us H2 (e.trans e2) (Own.of (fresh_back e hp) (e.trans e2) g1 g2 (imm_vD us)) u1 u2 u3
theorem s_asgFew {C1 C3 C4 : Addr} {σ : L2.St} {H : Hp} {D : Ends} {E : XK} {t0 t1 : TE} {i : Nat} {m : Int} {ps : List (Int × Int)} (h0 : EvD t0 σ H (.int m)) (h1 : EvD t1 σ H (wD ps)) (hm : 1 ≤ m ∧ m ≤ 4) (hw : isWeb m ps)
    (k : ∀ p us H1, Ex H H1 → Own H H1 p (us.map iD) → isVot m us → makesP m ps us → (∀ ws, isVot m ws → makesP m ps ws → us.length ≤ ws.length) → D.nx (σ.set i (some (.ref p))) H1) :
    tAsg (tCall (sp_fewest C1 C3 C4) [] E (tCons t0 (tCons t1 tNil))) (gName i) D σ H := few_call h0 h1 hm hw _ fun p us H1 a b c d e => k p us H1 a b c d e
def sp_law (K : PySem.W.Frag) : Sp := fun vs H Q _ => ∃ (a : Addr) (ns : List Int), vs = [.ref a] ∧ SqL K H a (ns.map V.int) ∧ ns.length ≤ 63 ∧ ∀ H2, Q (.bl true) H2
theorem len_law {K : PySem.W.Frag} (vs : List V) (H : Hp) (Q : VK) (E : XK) (h : sp_law K vs H Q E) : vs.length = 1 := by
  obtain ⟨a, ns, rfl, _⟩ := h
  rfl
section
variable {P : Program} {w : World} {K : PySem.W.Frag} {mg : Str → Option Value} {base : Heap}
theorem ok_law {f : Addr} {fd : FuncData} (D : Df K mg "law" s_law ["script"] f fd) (Bi : Bi mg) {f__law_cell_at : Addr} {fd__law_cell_at : FuncData} (D__law_cell_at : Df K mg "_law_cell_at" s__law_cell_at ["script", "k"] f__law_cell_at fd__law_cell_at) (G__law_cell_at : FnOk P w K mg base CX0 1 f__law_cell_at fd__law_cell_at ["script", "k"] (sp__law_cell_at K)) {f__law_web : Addr} {fd__law_web : FuncData} (D__law_web : Df K mg "_law_web" s__law_web ["script", "start", "many"] f__law_web fd__law_web) (G__law_web : FnOk P w K mg base CX0 2 f__law_web fd__law_web ["script", "start", "many"] (sp__law_web K)) {f__law_voters : Addr} {fd__law_voters : FuncData} (D__law_voters : Df K mg "_law_voters" s__law_voters ["script", "start", "many", "most"] f__law_voters fd__law_voters) (G__law_voters : FnOk P w K mg base CX0 2 f__law_voters fd__law_voters ["script", "start", "many", "most"] (sp__law_voters K)) {f__law_beats : Addr} {fd__law_beats : FuncData} (D__law_beats : Df K mg "_law_beats" s__law_beats ["many", "voters"] f__law_beats fd__law_beats) (G__law_beats : FnOk P w K mg base CX0 2 f__law_beats fd__law_beats ["many", "voters"] sp__law_beats) {f__law_wished : Addr} {fd__law_wished : FuncData} (D__law_wished : Df K mg "_law_wished" s__law_wished ["many", "web"] f__law_wished fd__law_wished) (G__law_wished : FnOk P w K mg base CX0 1 f__law_wished fd__law_wished ["many", "web"] sp__law_wished) {f__law_least : Addr} {fd__law_least : FuncData} (D__law_least : Df K mg "_law_least" s__law_least ["many", "wished"] f__law_least fd__law_least) (G__law_least : FnOk P w K mg base CX0 3 f__law_least fd__law_least ["many", "wished"] sp__law_least) {f_fewest : Addr} {fd_fewest : FuncData} (D_fewest : Df K mg "fewest" s_fewest ["many", "web"] f_fewest fd_fewest) (G_fewest : FnOk P w K mg base (L2.CX P w) 3 f_fewest fd_fewest ["many", "web"] (sp_fewest C_BadCount C_BadWeb C_TooMany)) {f__law_is_voters : Addr} {fd__law_is_voters : FuncData} (D__law_is_voters : Df K mg "_law_is_voters" s__law_is_voters ["found", "many"] f__law_is_voters fd__law_is_voters) (G__law_is_voters : FnOk P w K mg base CX0 3 f__law_is_voters fd__law_is_voters ["found", "many"] sp__law_is_voters) : FnOk P w K mg base CX0 4 f fd ["script"] (sp_law K) := by
  refine D.F.ok c_law (fun vs H Q E h => len_law _ _ _ _ h) (fun cdv A outer s H vs Q E hr h => ?_)
  refine ⟨_, (pss_cons (ps_set (i := 1) c_law.nd rfl (.inl rfl) (pe_op op_addI pe_int (pe_op op_modI (pe_call G__law_cell_at (hr.mono (by decide)) (by rfl) D__law_cell_at.g D__law_cell_at.F.kp D__law_cell_at.b .nil pass0 (pa_cons (pv 0) (pa_cons pe_int pa_nil))) pe_int)))
      (pss_cons (ps_set (i := 2) c_law.nd rfl (.inl rfl) (pe_call G__law_web (hr.mono (by decide)) (by rfl) D__law_web.g D__law_web.F.kp D__law_web.b .nil pass0 (pa_cons (pv 0) (pa_cons pe_int (pa_cons (pv 1) pa_nil)))))
      (pss_cons (ps_if (pt_cmpR op_eqI (pe_op op_modI (pe_call G__law_cell_at (hr.mono (by decide)) (by rfl) D__law_cell_at.g D__law_cell_at.F.kp D__law_cell_at.b .nil pass0 (pa_cons (pv 0) (pa_cons pe_int pa_nil))) pe_int) pe_int (nomark _))
      (pss_one (ps_set (i := 2) c_law.nd rfl (.inl rfl) (pe_call G__law_beats (hr.mono (by decide)) (by rfl) D__law_beats.g D__law_beats.F.kp D__law_beats.b .nil pass0 (pa_cons (pv 1) (pa_cons (pe_call G__law_voters (hr.mono (by decide)) (by rfl) D__law_voters.g D__law_voters.F.kp D__law_voters.b .nil pass0 (pa_cons (pv 0) (pa_cons pe_int (pa_cons (pv 1) (pa_cons pe_int pa_nil))))) pa_nil)))))
      pss_nil)
      (pss_cons (ps_set (i := 3) c_law.nd rfl (.inl rfl) (pe_call G__law_least (hr.mono (by decide)) (by rfl) D__law_least.g D__law_least.F.kp D__law_least.b .nil pass0 (pa_cons (pv 1) (pa_cons (pe_call G__law_wished (hr.mono (by decide)) (by rfl) D__law_wished.g D__law_wished.F.kp D__law_wished.b .nil pass0 (pa_cons (pv 1) (pa_cons (pv 2) pa_nil))) pa_nil))))
      (pss_cons (ps_if (pt_cmpR op_isNo (pv 3) pe_non (nomark _))
      (pss_cons (ps_set (i := 2) c_law.nd rfl (.inl rfl) (pe_call G__law_beats (hr.mono (by decide)) (by rfl) D__law_beats.g D__law_beats.F.kp D__law_beats.b .nil pass0 (pa_cons (pv 1) (pa_cons (pe_slice (sl_listK (K := K)) (pe_call G__law_voters (hr.mono (by decide)) (by rfl) D__law_voters.g D__law_voters.F.kp D__law_voters.b .nil pass0 (pa_cons (pv 0) (pa_cons pe_int (pa_cons (pv 1) (pa_cons pe_int pa_nil))))) po_none (po_some pe_int)) pa_nil))))
      (pss_one (ps_set (i := 3) c_law.nd rfl (.inl rfl) (pe_call G__law_least (hr.mono (by decide)) (by rfl) D__law_least.g D__law_least.F.kp D__law_least.b .nil pass0 (pa_cons (pv 1) (pa_cons (pe_call G__law_wished (hr.mono (by decide)) (by rfl) D__law_wished.g D__law_wished.F.kp D__law_wished.b .nil pass0 (pa_cons (pv 1) (pa_cons (pv 2) pa_nil))) pa_nil))))))
      pss_nil)
      (pss_cons (ps_set (i := 4) c_law.nd rfl (.inl rfl) (pe_callTy (cr_listK (K := K)) (by rfl) Bi.list (by decide +kernel) (pa_cons (pv 2) pa_nil)))
      (pss_cons (ps_for (PassesOwn.never) rfl (pi_range1 (by rfl) Bi.range (pa_cons pe_int pa_nil)) (pg_name (i := 5) c_law.nd rfl (.inl rfl))
      (pss_cons (ps_set (i := 6) c_law.nd rfl (.inl rfl) (pe_call G_fewest (hr.mono (by decide)) (by rfl) D_fewest.g D_fewest.F.kp D_fewest.b .nil passL (pa_cons (pv 1) (pa_cons (pv 4) pa_nil))))
      (pss_cons (ps_if (PW.pt (pw_or (pt_not (pt_val (pe_call G__law_is_voters (hr.mono (by decide)) (by rfl) D__law_is_voters.g D__law_is_voters.F.kp D__law_is_voters.b .nil pass0 (pa_cons (pv 6) (pa_cons (pv 1) pa_nil))))) (pw_or (pt_cmpR op_neI (pe_callB (cr_lenK (K := K)) (by rfl) Bi.len (by decide +kernel) (pa_cons (pv 6) pa_nil)) (pv 3) (nomark _)) (pw_or1 (pt_cmpR (op_neDK (K := K) hr.units) (pv 4) (pv 2) (nomark _))))))
      (pss_one (ps_ret pe_bl))
      pss_nil)
      (pss_cons (ps_if (pt_cmpR (op_neDK (K := K) hr.units) (pe_call G__law_beats (hr.mono (by decide)) (by rfl) D__law_beats.g D__law_beats.F.kp D__law_beats.b .nil pass0 (pa_cons (pv 1) (pa_cons (pv 6) pa_nil))) (pe_callB (cr_sortedWK (K := K)) (by rfl) Bi.sorted (by decide +kernel) (pa_cons (pv 2) pa_nil)) (nomark _))
      (pss_one (ps_ret pe_bl))
      pss_nil)
      (pss_one (ps_expr (pe_bm PySem.F.plainAttrs_list PySem.F.slot_list_append PySem.F.type_list_append mt_append (pv 6) (pa_cons (pe_tupF pa_nil) pa_nil))))))))
      (pss_one (ps_ret pe_bl))))))))), ?_⟩
  obtain ⟨sa, ns, rfl, hs, hlen, q⟩ := h
  have hm := many4 (cellF ns 0)
  refine' s_asgI (n := 1 + cellF ns 0 % 4) (evd_op evd_int (evd_op (ev_cell hs rfl evd_int (by decide)) evd_int (rd_modI (by decide))) rd_addI) fun H1 e1 => ?_
  wtm_at "nx"
  generalize 1 + cellF ns 0 % 4 = m at hm
  have hm6 : 0 ≤ m ∧ m ≤ 6 := by omega
  have hs1 := ex_l e1 hs
  have hvot := lawVot_ok ns 4 m 3
  have hvl := lawVot_len ns 4 m (most := 3) (by omega)
  refine' s_asgNw (ev_lweb (start := 1) (m := m) hs1 rfl evd_int ?a (by decide) hm6) fun p1 vs1 H2 n1 e2 k1 k2 => ?_
  case a => wtm_at "ev"
  wtm_at "nx"
  have hs2 := ex_l e2 hs1
  have hw0 : Rp H2 (wD (lawWeb ns 1 m)) (.ref p1) := ⟨p1, vs1, rfl, k1, k2⟩
  refine joinK (A := V) (fun v => [some (.ref sa), some (.int m), some v, none, none, none, none]) (fun v H' => Ex H2 H' ∧ ∃ ps, isWeb m ps ∧ Rp H' (wD ps) v) (fun v H3 j3 => ?_) fun cont => ?_
  · obtain ⟨e23, ps, hweb, hv⟩ := j3
    wtm_at "nx"
    obtain ⟨o, ho⟩ := least_is m (wishV m ps)
    refine' s_asgD (d := oD o) (ev_lleast (m := m) (wi := wishV m ps) ?b (EvN.toD (ev_lwished (m := m) (ps := ps) ?c (evd_var rfl hv) hm6)) hm (wishV_len m ps) ho) fun vl H4 e4 hl => ?_
    case b => wtm_at "ev"
    case c => wtm_at "ev"
    wtm_at "nx"
    have hv4 := hv.ex e4
    have e24 := e23.trans e4
    refine joinK (A := V × V) (fun z => [some (.ref sa), some (.int m), some z.1, some z.2, none, none, none]) (fun z H' => Ex H2 H' ∧ ∃ ps n, isWeb m ps ∧ IsLeast m (wishV m ps) (some n) ∧ Rp H' (wD ps) z.1 ∧ z.2 = .int (n : Int)) (fun z H5 j5 => ?_) fun cont2 => ?_
    · obtain ⟨v5, v6⟩ := z
      obtain ⟨e25, ps, n, hweb, hn, hw5, rfl⟩ := j5
      dsimp only at hw5 ⊢
      wtm_at "nx"
      have hpl := isWeb_len4 (m := m) (by omega) hweb
      obtain ⟨n4, ⟨xs, x1, x2, x3⟩, nle⟩ := hn
      refine' s_asgNw (ds := ps.map pD) ?x fun p7 vs7 H7 n7 e7 g1 g2 => ?_
      case x => exact evn_cb (evs_cons (evd_var rfl hw5) evs_nil) cn_listL
      wtm_at "nx"
      have hw7 := hw5.ex e7
      have hh7 : Rp H7 (wD ps) (.ref p7) := ⟨p7, vs7, rfl, g1, g2⟩
      refine' s_forR (n := 2) ?n (by omega) fun H8 e8 => ⟨fun i σ' H' => (∃ t u, σ' = [some (.ref sa), some (.int m), some v5, some (.int (n : Int)), some (.ref p7), t, u]) ∧ Ex H7 H', ?_, ?_, ?_⟩
      case n => wtm_at "es"
      · exact ⟨⟨_, _, rfl⟩, e8⟩
      · rintro i σ' H' hi ⟨⟨t, u, rfl⟩, e⟩
        refine g_name ?_
        refine' s_asgFew (m := m) (ps := ps) ?d (evd_var rfl (hh7.ex e)) hm hweb fun p9 us H9 e9 o9 u1 u2 u3 => ?_
        case d => wtm_at "ev"
        wtm_at "nx"
        have e79 := e.trans e9
        have un : us.length = n := by
          have a := u3 xs x1 x3
          have b := nle us u1 u2
          omega
        have ub : beatsF m us = srtW ps := (makesP_iff hm6 hweb u1).mp u2
        refine' s_if (b := (!true) || ((!decide (((us.map iD).length : Int) = (n : Int))) || (!decide (ps = ps)))) ?t ?yes ?no
        case t =>
          refine' et_or (et_not (etB (ev_is_voters (evd_var rfl o9.rp) ?a2 hm6 (by omega) u1))) fun _ => et_or (ett (evd_op (evd_cb (evs_cons (evd_var rfl o9.rp) evs_nil) cd_lenL) ?b2 rd_neI)) fun _ => ett (evd_op (evd_var rfl (hh7.ex e79)) (evd_var rfl (hw7.ex e79)) rd_neW)
          case a2 => wtm_at "ev"
          case b2 => wtm_at "ev"
        case yes => exact fun hb => absurd hb (by simp [un])
        case no =>
          intro _ H10 e10
          wtm_at "nx"
          have o10 := o9.step e10
          have hw10 := (hw7.ex e79).ex e10
          refine' s_if (b := !decide (beatsF m us = srtW ps)) ?t2 ?yes2 ?no2
          case t2 =>
            refine' ett (evd_op (EvN.toD (ev_lbeats ?a3 (evd_var rfl o10.rp) hm6 (by omega) u1)) (EvN.toD (evn_cb (evs_cons (evd_var rfl hw10) evs_nil) (cn_sortW (by omega) (hweb.bd (by omega))))) rd_neW)
            case a3 => wtm_at "ev"
          case yes2 => exact fun hb => absurd hb (by simp [ub])
          case no2 =>
            intro _ H11 e11
            wtm_at "nx"
            refine s_appO (d := .tuple []) (o10.step e11) rfl (evd_tup evs_nil (Nat.zero_le _)) rfl (by rw [List.length_map]; omega) fun H12 x12 o12 => ?_
            exact ⟨⟨_, _, rfl⟩, e.trans o12.ex⟩
      · rintro σ' H' ⟨⟨t, u, rfl⟩, e⟩
        wtm_at "nx"
        exact s_retD evd_bl fun v H9 e9 r => by
          obtain rfl : v = .bl true := r
          exact q H9
    · refine' s_if (b := isNo (oD o)) (ett (evd_op (evd_var rfl hl) evd_non rd_isNo)) ?yes ?no
      case yes =>
        intro _ H5 e5
        wtm_at "nx"
        have hs5 := ex_l (e24.trans e5) hs2
        have hvot4 : isVot m ((lawVot ns 4 m 3).take 4) := fun u mu => hvot u (List.mem_of_mem_take mu)
        have l4 : ((lawVot ns 4 m 3).take 4).length ≤ 4 := by rw [List.length_take]; omega
        have cut : cutA ((lawVot ns 4 m 3).map iD) none (some 4) = ((lawVot ns 4 m 3).take 4).map iD := by
          rw [cutA_map]
          congr 1
          exact cutA_to _ 4
        refine' s_asgNw (ev_lbeats (m := m) (vss := (lawVot ns 4 m 3).take 4) ?a (EvN.toD (EvN.is (evn_slL (EvN.toD (ev_voters (start := 4) (m := m) (most := 3) hs5 rfl evd_int ?b evd_int (by decide) hm6 (by omega))) evp_none (evp_some evd_int)) cut)) hm6 (by omega) hvot4) fun p6 vs6 H6 n6 e6 g1 g2 => ?_
        case a => wtm_at "ev"
        case b => wtm_at "ev"
        wtm_at "nx"
        generalize (lawVot ns 4 m 3).take 4 = us at hvot4 l4 g2
        have hwe : Rp H6 (wD (beatsF m us)) (.ref p6) := ⟨p6, vs6, rfl, g1, g2⟩
        have hwb := beatsF_web hm6 hvot4
        obtain ⟨o2, ho2⟩ := least_is m (wishV m (beatsF m us))
        refine' s_asgD (d := oD o2) (ev_lleast (m := m) (wi := wishV m (beatsF m us)) ?b2 (EvN.toD (ev_lwished (m := m) (ps := beatsF m us) ?c2 (evd_var rfl hwe) hm6)) hm (wishV_len m _) ho2) fun v2 H7 e7 hl2 => ?_
        case b2 => wtm_at "ev"
        case c2 => wtm_at "ev"
        cases o2 with
        | none =>
          have := ho2 us hvot4 (beats_makes hm6 hvot4)
          omega
        | some n =>
          obtain rfl : v2 = .int (n : Int) := hl2
          exact cont2 (.ref p6, .int (n : Int)) H7 ⟨((e24.trans e5).trans e6).trans e7, _, n, hwb, ho2, hwe.ex e7, rfl⟩
      case no =>
        intro hb H5 e5
        cases o with
        | none => cases hb
        | some n =>
          obtain rfl : vl = .int (n : Int) := hl
          exact cont2 (v, .int (n : Int)) H5 ⟨e24.trans e5, ps, n, hweb, ho, hv4.ex e5, rfl⟩
  · refine' s_if (b := decide (cellF ns 3 % 3 = 1)) (ett (evd_op (evd_op (ev_cell hs2 rfl evd_int (by decide)) evd_int (rd_modI (by decide))) evd_int rd_eqI)) ?yes ?no
    case yes =>
      intro _ H3 e3
      refine' s_asgNw (ev_lbeats (m := m) (vss := lawVot ns 4 m 3) ?a (EvN.toD (ev_voters (start := 4) (m := m) (most := 3) (ex_l e3 hs2) rfl evd_int ?b evd_int (by decide) hm6 (by omega))) hm6 (by omega) hvot) fun p4 vs4 H4 n4 e4 g1 g2 => ?_
      case a => wtm_at "ev"
      case b => wtm_at "ev"
      exact cont (.ref p4) H4 ⟨e3.trans e4, _, beatsF_web hm6 hvot, p4, vs4, rfl, g1, g2⟩
    case no =>
      intro _ H3 e3
      exact cont (.ref p1) H3 ⟨e3, _, lawWeb_web ns 1 m, hw0.ex e3⟩
end
end Bm

namespace Bm
open PySem PySem.Spec PyProof.Rows L2 Evl
/-! ### the end -/
theorem all_mk {l : PySem.W.OpenLaw} {w : World} {K : PySem.W.Frag} {h : Heap} {mg : Str → Option Value} {fa : Addr} (X : K.In h) (G : h.Ns mainGlobals mg) (hfa : mg "law" = some (.ref fa))
    {f__law_cell_at : Addr} {od__law_cell_at an__law_cell_at : Option Addr} {sl__law_cell_at : Array (Option Value)} {oc__law_cell_at kV__law_cell_at dc__law_cell_at pm__law_cell_at cd__law_cell_at ct__law_cell_at : Value}
    (a__law_cell_at : PySem.W.nsIn K mainGlobals "_law_cell_at" = some (some (.ref f__law_cell_at))) (l__law_cell_at : K.lookup f__law_cell_at = some ⟨oc__law_cell_at, od__law_cell_at, .func (PySem.W.fnOf "_law_cell_at" "_law_cell_at" (defArgs s__law_cell_at) (defBody s__law_cell_at) (defScope s__law_cell_at) .none kV__law_cell_at dc__law_cell_at pm__law_cell_at an__law_cell_at cd__law_cell_at ct__law_cell_at), sl__law_cell_at⟩) (c__law_cell_at : PySem.W.codeIn K cd__law_cell_at "_law_cell_at" = true) (k__law_cell_at : PySem.W.keepIn K (.ref f__law_cell_at) = true)
    {f__law_order : Addr} {od__law_order an__law_order : Option Addr} {sl__law_order : Array (Option Value)} {oc__law_order kV__law_order dc__law_order pm__law_order cd__law_order ct__law_order : Value}
    (a__law_order : PySem.W.nsIn K mainGlobals "_law_order" = some (some (.ref f__law_order))) (l__law_order : K.lookup f__law_order = some ⟨oc__law_order, od__law_order, .func (PySem.W.fnOf "_law_order" "_law_order" (defArgs s__law_order) (defBody s__law_order) (defScope s__law_order) .none kV__law_order dc__law_order pm__law_order an__law_order cd__law_order ct__law_order), sl__law_order⟩) (c__law_order : PySem.W.codeIn K cd__law_order "_law_order" = true) (k__law_order : PySem.W.keepIn K (.ref f__law_order) = true)
    {f__law_web : Addr} {od__law_web an__law_web : Option Addr} {sl__law_web : Array (Option Value)} {oc__law_web kV__law_web dc__law_web pm__law_web cd__law_web ct__law_web : Value}
    (a__law_web : PySem.W.nsIn K mainGlobals "_law_web" = some (some (.ref f__law_web))) (l__law_web : K.lookup f__law_web = some ⟨oc__law_web, od__law_web, .func (PySem.W.fnOf "_law_web" "_law_web" (defArgs s__law_web) (defBody s__law_web) (defScope s__law_web) .none kV__law_web dc__law_web pm__law_web an__law_web cd__law_web ct__law_web), sl__law_web⟩) (c__law_web : PySem.W.codeIn K cd__law_web "_law_web" = true) (k__law_web : PySem.W.keepIn K (.ref f__law_web) = true)
    {f__law_voters : Addr} {od__law_voters an__law_voters : Option Addr} {sl__law_voters : Array (Option Value)} {oc__law_voters kV__law_voters dc__law_voters pm__law_voters cd__law_voters ct__law_voters : Value}
    (a__law_voters : PySem.W.nsIn K mainGlobals "_law_voters" = some (some (.ref f__law_voters))) (l__law_voters : K.lookup f__law_voters = some ⟨oc__law_voters, od__law_voters, .func (PySem.W.fnOf "_law_voters" "_law_voters" (defArgs s__law_voters) (defBody s__law_voters) (defScope s__law_voters) .none kV__law_voters dc__law_voters pm__law_voters an__law_voters cd__law_voters ct__law_voters), sl__law_voters⟩) (c__law_voters : PySem.W.codeIn K cd__law_voters "_law_voters" = true) (k__law_voters : PySem.W.keepIn K (.ref f__law_voters) = true)
    {f__law_lead : Addr} {od__law_lead an__law_lead : Option Addr} {sl__law_lead : Array (Option Value)} {oc__law_lead kV__law_lead dc__law_lead pm__law_lead cd__law_lead ct__law_lead : Value}
    (a__law_lead : PySem.W.nsIn K mainGlobals "_law_lead" = some (some (.ref f__law_lead))) (l__law_lead : K.lookup f__law_lead = some ⟨oc__law_lead, od__law_lead, .func (PySem.W.fnOf "_law_lead" "_law_lead" (defArgs s__law_lead) (defBody s__law_lead) (defScope s__law_lead) .none kV__law_lead dc__law_lead pm__law_lead an__law_lead cd__law_lead ct__law_lead), sl__law_lead⟩) (c__law_lead : PySem.W.codeIn K cd__law_lead "_law_lead" = true) (k__law_lead : PySem.W.keepIn K (.ref f__law_lead) = true)
    {f__law_beats : Addr} {od__law_beats an__law_beats : Option Addr} {sl__law_beats : Array (Option Value)} {oc__law_beats kV__law_beats dc__law_beats pm__law_beats cd__law_beats ct__law_beats : Value}
    (a__law_beats : PySem.W.nsIn K mainGlobals "_law_beats" = some (some (.ref f__law_beats))) (l__law_beats : K.lookup f__law_beats = some ⟨oc__law_beats, od__law_beats, .func (PySem.W.fnOf "_law_beats" "_law_beats" (defArgs s__law_beats) (defBody s__law_beats) (defScope s__law_beats) .none kV__law_beats dc__law_beats pm__law_beats an__law_beats cd__law_beats ct__law_beats), sl__law_beats⟩) (c__law_beats : PySem.W.codeIn K cd__law_beats "_law_beats" = true) (k__law_beats : PySem.W.keepIn K (.ref f__law_beats) = true)
    {f__law_wished : Addr} {od__law_wished an__law_wished : Option Addr} {sl__law_wished : Array (Option Value)} {oc__law_wished kV__law_wished dc__law_wished pm__law_wished cd__law_wished ct__law_wished : Value}
    (a__law_wished : PySem.W.nsIn K mainGlobals "_law_wished" = some (some (.ref f__law_wished))) (l__law_wished : K.lookup f__law_wished = some ⟨oc__law_wished, od__law_wished, .func (PySem.W.fnOf "_law_wished" "_law_wished" (defArgs s__law_wished) (defBody s__law_wished) (defScope s__law_wished) .none kV__law_wished dc__law_wished pm__law_wished an__law_wished cd__law_wished ct__law_wished), sl__law_wished⟩) (c__law_wished : PySem.W.codeIn K cd__law_wished "_law_wished" = true) (k__law_wished : PySem.W.keepIn K (.ref f__law_wished) = true)
    {f__law_orders : Addr} {od__law_orders an__law_orders : Option Addr} {sl__law_orders : Array (Option Value)} {oc__law_orders kV__law_orders dc__law_orders pm__law_orders cd__law_orders ct__law_orders : Value}
    (a__law_orders : PySem.W.nsIn K mainGlobals "_law_orders" = some (some (.ref f__law_orders))) (l__law_orders : K.lookup f__law_orders = some ⟨oc__law_orders, od__law_orders, .func (PySem.W.fnOf "_law_orders" "_law_orders" (defArgs s__law_orders) (defBody s__law_orders) (defScope s__law_orders) .none kV__law_orders dc__law_orders pm__law_orders an__law_orders cd__law_orders ct__law_orders), sl__law_orders⟩) (c__law_orders : PySem.W.codeIn K cd__law_orders "_law_orders" = true) (k__law_orders : PySem.W.keepIn K (.ref f__law_orders) = true)
    {f__law_leads : Addr} {od__law_leads an__law_leads : Option Addr} {sl__law_leads : Array (Option Value)} {oc__law_leads kV__law_leads dc__law_leads pm__law_leads cd__law_leads ct__law_leads : Value}
    (a__law_leads : PySem.W.nsIn K mainGlobals "_law_leads" = some (some (.ref f__law_leads))) (l__law_leads : K.lookup f__law_leads = some ⟨oc__law_leads, od__law_leads, .func (PySem.W.fnOf "_law_leads" "_law_leads" (defArgs s__law_leads) (defBody s__law_leads) (defScope s__law_leads) .none kV__law_leads dc__law_leads pm__law_leads an__law_leads cd__law_leads ct__law_leads), sl__law_leads⟩) (c__law_leads : PySem.W.codeIn K cd__law_leads "_law_leads" = true) (k__law_leads : PySem.W.keepIn K (.ref f__law_leads) = true)
    {f__law_signs : Addr} {od__law_signs an__law_signs : Option Addr} {sl__law_signs : Array (Option Value)} {oc__law_signs kV__law_signs dc__law_signs pm__law_signs cd__law_signs ct__law_signs : Value}
    (a__law_signs : PySem.W.nsIn K mainGlobals "_law_signs" = some (some (.ref f__law_signs))) (l__law_signs : K.lookup f__law_signs = some ⟨oc__law_signs, od__law_signs, .func (PySem.W.fnOf "_law_signs" "_law_signs" (defArgs s__law_signs) (defBody s__law_signs) (defScope s__law_signs) .none kV__law_signs dc__law_signs pm__law_signs an__law_signs cd__law_signs ct__law_signs), sl__law_signs⟩) (c__law_signs : PySem.W.codeIn K cd__law_signs "_law_signs" = true) (k__law_signs : PySem.W.keepIn K (.ref f__law_signs) = true)
    {f__law_least : Addr} {od__law_least an__law_least : Option Addr} {sl__law_least : Array (Option Value)} {oc__law_least kV__law_least dc__law_least pm__law_least cd__law_least ct__law_least : Value}
    (a__law_least : PySem.W.nsIn K mainGlobals "_law_least" = some (some (.ref f__law_least))) (l__law_least : K.lookup f__law_least = some ⟨oc__law_least, od__law_least, .func (PySem.W.fnOf "_law_least" "_law_least" (defArgs s__law_least) (defBody s__law_least) (defScope s__law_least) .none kV__law_least dc__law_least pm__law_least an__law_least cd__law_least ct__law_least), sl__law_least⟩) (c__law_least : PySem.W.codeIn K cd__law_least "_law_least" = true) (k__law_least : PySem.W.keepIn K (.ref f__law_least) = true)
    {f_look_at_count : Addr} {od_look_at_count an_look_at_count : Option Addr} {sl_look_at_count : Array (Option Value)} {oc_look_at_count kV_look_at_count dc_look_at_count pm_look_at_count cd_look_at_count ct_look_at_count : Value}
    (a_look_at_count : PySem.W.nsIn K mainGlobals "look_at_count" = some (some (.ref f_look_at_count))) (l_look_at_count : K.lookup f_look_at_count = some ⟨oc_look_at_count, od_look_at_count, .func (PySem.W.fnOf "look_at_count" "look_at_count" (defArgs s_look_at_count) (defBody s_look_at_count) (defScope s_look_at_count) .none kV_look_at_count dc_look_at_count pm_look_at_count an_look_at_count cd_look_at_count ct_look_at_count), sl_look_at_count⟩) (c_look_at_count : PySem.W.codeIn K cd_look_at_count "look_at_count" = true) (k_look_at_count : PySem.W.keepIn K (.ref f_look_at_count) = true)
    {f_look_at_web : Addr} {od_look_at_web an_look_at_web : Option Addr} {sl_look_at_web : Array (Option Value)} {oc_look_at_web kV_look_at_web dc_look_at_web pm_look_at_web cd_look_at_web ct_look_at_web : Value}
    (a_look_at_web : PySem.W.nsIn K mainGlobals "look_at_web" = some (some (.ref f_look_at_web))) (l_look_at_web : K.lookup f_look_at_web = some ⟨oc_look_at_web, od_look_at_web, .func (PySem.W.fnOf "look_at_web" "look_at_web" (defArgs s_look_at_web) (defBody s_look_at_web) (defScope s_look_at_web) .none kV_look_at_web dc_look_at_web pm_look_at_web an_look_at_web cd_look_at_web ct_look_at_web), sl_look_at_web⟩) (c_look_at_web : PySem.W.codeIn K cd_look_at_web "look_at_web" = true) (k_look_at_web : PySem.W.keepIn K (.ref f_look_at_web) = true)
    {f_wished_signs : Addr} {od_wished_signs an_wished_signs : Option Addr} {sl_wished_signs : Array (Option Value)} {oc_wished_signs kV_wished_signs dc_wished_signs pm_wished_signs cd_wished_signs ct_wished_signs : Value}
    (a_wished_signs : PySem.W.nsIn K mainGlobals "wished_signs" = some (some (.ref f_wished_signs))) (l_wished_signs : K.lookup f_wished_signs = some ⟨oc_wished_signs, od_wished_signs, .func (PySem.W.fnOf "wished_signs" "wished_signs" (defArgs s_wished_signs) (defBody s_wished_signs) (defScope s_wished_signs) .none kV_wished_signs dc_wished_signs pm_wished_signs an_wished_signs cd_wished_signs ct_wished_signs), sl_wished_signs⟩) (c_wished_signs : PySem.W.codeIn K cd_wished_signs "wished_signs" = true) (k_wished_signs : PySem.W.keepIn K (.ref f_wished_signs) = true)
    {f_orders_of : Addr} {od_orders_of an_orders_of : Option Addr} {sl_orders_of : Array (Option Value)} {oc_orders_of kV_orders_of dc_orders_of pm_orders_of cd_orders_of ct_orders_of : Value}
    (a_orders_of : PySem.W.nsIn K mainGlobals "orders_of" = some (some (.ref f_orders_of))) (l_orders_of : K.lookup f_orders_of = some ⟨oc_orders_of, od_orders_of, .func (PySem.W.fnOf "orders_of" "orders_of" (defArgs s_orders_of) (defBody s_orders_of) (defScope s_orders_of) .none kV_orders_of dc_orders_of pm_orders_of an_orders_of cd_orders_of ct_orders_of), sl_orders_of⟩) (c_orders_of : PySem.W.codeIn K cd_orders_of "orders_of" = true) (k_orders_of : PySem.W.keepIn K (.ref f_orders_of) = true)
    {f_signs_of : Addr} {od_signs_of an_signs_of : Option Addr} {sl_signs_of : Array (Option Value)} {oc_signs_of kV_signs_of dc_signs_of pm_signs_of cd_signs_of ct_signs_of : Value}
    (a_signs_of : PySem.W.nsIn K mainGlobals "signs_of" = some (some (.ref f_signs_of))) (l_signs_of : K.lookup f_signs_of = some ⟨oc_signs_of, od_signs_of, .func (PySem.W.fnOf "signs_of" "signs_of" (defArgs s_signs_of) (defBody s_signs_of) (defScope s_signs_of) .none kV_signs_of dc_signs_of pm_signs_of an_signs_of cd_signs_of ct_signs_of), sl_signs_of⟩) (c_signs_of : PySem.W.codeIn K cd_signs_of "signs_of" = true) (k_signs_of : PySem.W.keepIn K (.ref f_signs_of) = true)
    {f_sign_of : Addr} {od_sign_of an_sign_of : Option Addr} {sl_sign_of : Array (Option Value)} {oc_sign_of kV_sign_of dc_sign_of pm_sign_of cd_sign_of ct_sign_of : Value}
    (a_sign_of : PySem.W.nsIn K mainGlobals "sign_of" = some (some (.ref f_sign_of))) (l_sign_of : K.lookup f_sign_of = some ⟨oc_sign_of, od_sign_of, .func (PySem.W.fnOf "sign_of" "sign_of" (defArgs s_sign_of) (defBody s_sign_of) (defScope s_sign_of) .none kV_sign_of dc_sign_of pm_sign_of an_sign_of cd_sign_of ct_sign_of), sl_sign_of⟩) (c_sign_of : PySem.W.codeIn K cd_sign_of "sign_of" = true) (k_sign_of : PySem.W.keepIn K (.ref f_sign_of) = true)
    {f_added : Addr} {od_added an_added : Option Addr} {sl_added : Array (Option Value)} {oc_added kV_added dc_added pm_added cd_added ct_added : Value}
    (a_added : PySem.W.nsIn K mainGlobals "added" = some (some (.ref f_added))) (l_added : K.lookup f_added = some ⟨oc_added, od_added, .func (PySem.W.fnOf "added" "added" (defArgs s_added) (defBody s_added) (defScope s_added) .none kV_added dc_added pm_added an_added cd_added ct_added), sl_added⟩) (c_added : PySem.W.codeIn K cd_added "added" = true) (k_added : PySem.W.keepIn K (.ref f_added) = true)
    {f_fewest : Addr} {od_fewest an_fewest : Option Addr} {sl_fewest : Array (Option Value)} {oc_fewest kV_fewest dc_fewest pm_fewest cd_fewest ct_fewest : Value}
    (a_fewest : PySem.W.nsIn K mainGlobals "fewest" = some (some (.ref f_fewest))) (l_fewest : K.lookup f_fewest = some ⟨oc_fewest, od_fewest, .func (PySem.W.fnOf "fewest" "fewest" (defArgs s_fewest) (defBody s_fewest) (defScope s_fewest) .none kV_fewest dc_fewest pm_fewest an_fewest cd_fewest ct_fewest), sl_fewest⟩) (c_fewest : PySem.W.codeIn K cd_fewest "fewest" = true) (k_fewest : PySem.W.keepIn K (.ref f_fewest) = true)
    {f__law_whole : Addr} {od__law_whole an__law_whole : Option Addr} {sl__law_whole : Array (Option Value)} {oc__law_whole kV__law_whole dc__law_whole pm__law_whole cd__law_whole ct__law_whole : Value}
    (a__law_whole : PySem.W.nsIn K mainGlobals "_law_whole" = some (some (.ref f__law_whole))) (l__law_whole : K.lookup f__law_whole = some ⟨oc__law_whole, od__law_whole, .func (PySem.W.fnOf "_law_whole" "_law_whole" (defArgs s__law_whole) (defBody s__law_whole) (defScope s__law_whole) .none kV__law_whole dc__law_whole pm__law_whole an__law_whole cd__law_whole ct__law_whole), sl__law_whole⟩) (c__law_whole : PySem.W.codeIn K cd__law_whole "_law_whole" = true) (k__law_whole : PySem.W.keepIn K (.ref f__law_whole) = true)
    {f__law_is_order : Addr} {od__law_is_order an__law_is_order : Option Addr} {sl__law_is_order : Array (Option Value)} {oc__law_is_order kV__law_is_order dc__law_is_order pm__law_is_order cd__law_is_order ct__law_is_order : Value}
    (a__law_is_order : PySem.W.nsIn K mainGlobals "_law_is_order" = some (some (.ref f__law_is_order))) (l__law_is_order : K.lookup f__law_is_order = some ⟨oc__law_is_order, od__law_is_order, .func (PySem.W.fnOf "_law_is_order" "_law_is_order" (defArgs s__law_is_order) (defBody s__law_is_order) (defScope s__law_is_order) .none kV__law_is_order dc__law_is_order pm__law_is_order an__law_is_order cd__law_is_order ct__law_is_order), sl__law_is_order⟩) (c__law_is_order : PySem.W.codeIn K cd__law_is_order "_law_is_order" = true) (k__law_is_order : PySem.W.keepIn K (.ref f__law_is_order) = true)
    {f__law_is_voters : Addr} {od__law_is_voters an__law_is_voters : Option Addr} {sl__law_is_voters : Array (Option Value)} {oc__law_is_voters kV__law_is_voters dc__law_is_voters pm__law_is_voters cd__law_is_voters ct__law_is_voters : Value}
    (a__law_is_voters : PySem.W.nsIn K mainGlobals "_law_is_voters" = some (some (.ref f__law_is_voters))) (l__law_is_voters : K.lookup f__law_is_voters = some ⟨oc__law_is_voters, od__law_is_voters, .func (PySem.W.fnOf "_law_is_voters" "_law_is_voters" (defArgs s__law_is_voters) (defBody s__law_is_voters) (defScope s__law_is_voters) .none kV__law_is_voters dc__law_is_voters pm__law_is_voters an__law_is_voters cd__law_is_voters ct__law_is_voters), sl__law_is_voters⟩) (c__law_is_voters : PySem.W.codeIn K cd__law_is_voters "_law_is_voters" = true) (k__law_is_voters : PySem.W.keepIn K (.ref f__law_is_voters) = true)
    {f_law : Addr} {od_law an_law : Option Addr} {sl_law : Array (Option Value)} {oc_law kV_law dc_law pm_law cd_law ct_law : Value}
    (a_law : PySem.W.nsIn K mainGlobals "law" = some (some (.ref f_law))) (l_law : K.lookup f_law = some ⟨oc_law, od_law, .func (PySem.W.fnOf "law" "law" (defArgs s_law) (defBody s_law) (defScope s_law) .none kV_law dc_law pm_law an_law cd_law ct_law), sl_law⟩) (c_law : PySem.W.codeIn K cd_law "law" = true) (k_law : PySem.W.keepIn K (.ref f_law) = true)
    {C_BadCount : Addr} (g_BadCount : PySem.W.nsIn K mainGlobals "BadCount" = some (some (.ref C_BadCount))) (x_BadCount : PySem.W.excIn K C_BadCount [.type "ValueError", .type "Exception", .type "BaseException", .type "object"] "ValueError.__new__" = true) (xk_BadCount : PySem.W.keepIn K (.ref C_BadCount) = true) (xb_BadCount : PySem.W.subIn K (.ref C_BadCount) (.type "BaseException") = some true) (xt_BadCount : PySem.W.typeIn K (.ref C_BadCount) = some (.type "type"))
    {C_BadWeb : Addr} (g_BadWeb : PySem.W.nsIn K mainGlobals "BadWeb" = some (some (.ref C_BadWeb))) (x_BadWeb : PySem.W.excIn K C_BadWeb [.type "ValueError", .type "Exception", .type "BaseException", .type "object"] "ValueError.__new__" = true) (xk_BadWeb : PySem.W.keepIn K (.ref C_BadWeb) = true) (xb_BadWeb : PySem.W.subIn K (.ref C_BadWeb) (.type "BaseException") = some true) (xt_BadWeb : PySem.W.typeIn K (.ref C_BadWeb) = some (.type "type"))
    {C_TooMany : Addr} (g_TooMany : PySem.W.nsIn K mainGlobals "TooMany" = some (some (.ref C_TooMany))) (x_TooMany : PySem.W.excIn K C_TooMany [.type "ValueError", .type "Exception", .type "BaseException", .type "object"] "ValueError.__new__" = true) (xk_TooMany : PySem.W.keepIn K (.ref C_TooMany) = true) (xb_TooMany : PySem.W.subIn K (.ref C_TooMany) (.type "BaseException") = some true) (xt_TooMany : PySem.W.typeIn K (.ref C_TooMany) = some (.type "type"))
    {t_MOST_THINGS : Tok} (v_MOST_THINGS : PySem.W.nsIn K mainGlobals "MOST_THINGS" = some (some (.int 6 t_MOST_THINGS)))
    {t_MOST_SEARCHED : Tok} (v_MOST_SEARCHED : PySem.W.nsIn K mainGlobals "MOST_SEARCHED" = some (some (.int 4 t_MOST_SEARCHED)))
    (z_len : PySem.W.nsIn K mainGlobals "len" = some none)
    (z_range : PySem.W.nsIn K mainGlobals "range" = some none)
    (z_list : PySem.W.nsIn K mainGlobals "list" = some none)
    (z_tuple : PySem.W.nsIn K mainGlobals "tuple" = some none)
    (z_sorted : PySem.W.nsIn K mainGlobals "sorted" = some none)
    (z_int : PySem.W.nsIn K mainGlobals "int" = some none)
    (z_bool : PySem.W.nsIn K mainGlobals "bool" = some none)
    (z_str : PySem.W.nsIn K mainGlobals "str" = some none)
    (z_isinstance : PySem.W.nsIn K mainGlobals "isinstance" = some none)
    (z_reversed : PySem.W.nsIn K mainGlobals "reversed" = some none)
    (z_set : PySem.W.nsIn K mainGlobals "set" = some none)
    (z_all : PySem.W.nsIn K mainGlobals "all" = some none)
    (z_max : PySem.W.nsIn K mainGlobals "max" = some none)
    (z_min : PySem.W.nsIn K mainGlobals "min" = some none)
    (z_ValueError : PySem.W.nsIn K mainGlobals "ValueError" = some none)
    : ∃ fd : FuncData, (∀ (s : Shared) (v : Value), BindsTo s fd ⟨[v], []⟩ [("script", v)]) ∧ ∀ base : Heap, K.In base → base.Ns mainGlobals mg → FnOk l.prog w K mg base CX0 4 fa fd ["script"] (sp_law K) := by
  have e := hfa.symm.trans (PySem.W.mg_of X G a_law)
  cases e
  have Bi_ : Bi mg := ⟨PySem.W.mg_none_of X G z_len, PySem.W.mg_none_of X G z_range, PySem.W.mg_none_of X G z_list, PySem.W.mg_none_of X G z_tuple, PySem.W.mg_none_of X G z_sorted, PySem.W.mg_none_of X G z_int, PySem.W.mg_none_of X G z_bool, PySem.W.mg_none_of X G z_str, PySem.W.mg_none_of X G z_isinstance, PySem.W.mg_none_of X G z_reversed, PySem.W.mg_none_of X G z_set, PySem.W.mg_none_of X G z_all, PySem.W.mg_none_of X G z_max, PySem.W.mg_none_of X G z_min, PySem.W.mg_none_of X G z_ValueError⟩
  have X_BadCount : Xc K mg "BadCount" C_BadCount := ⟨PySem.W.mg_of X G g_BadCount, x_BadCount, xk_BadCount, xb_BadCount, xt_BadCount⟩
  have X_BadWeb : Xc K mg "BadWeb" C_BadWeb := ⟨PySem.W.mg_of X G g_BadWeb, x_BadWeb, xk_BadWeb, xb_BadWeb, xt_BadWeb⟩
  have X_TooMany : Xc K mg "TooMany" C_TooMany := ⟨PySem.W.mg_of X G g_TooMany, x_TooMany, xk_TooMany, xb_TooMany, xt_TooMany⟩
  have K_MOST_THINGS := PySem.W.mg_of X G v_MOST_THINGS
  have K_MOST_SEARCHED := PySem.W.mg_of X G v_MOST_SEARCHED
  have F__law_cell_at := fun_mk (st := s__law_cell_at) l__law_cell_at c__law_cell_at k__law_cell_at
  have D__law_cell_at : Df K mg "_law_cell_at" s__law_cell_at ["script", "k"] f__law_cell_at _ := ⟨F__law_cell_at, F__law_cell_at.binds (ps := ["script", "k"]) fun _ _ _ _ _ _ us hl => match us, hl with | [_, _], _ => rfl, PySem.W.mg_of X G a__law_cell_at⟩
  have F__law_order := fun_mk (st := s__law_order) l__law_order c__law_order k__law_order
  have D__law_order : Df K mg "_law_order" s__law_order ["cell", "many"] f__law_order _ := ⟨F__law_order, F__law_order.binds (ps := ["cell", "many"]) fun _ _ _ _ _ _ us hl => match us, hl with | [_, _], _ => rfl, PySem.W.mg_of X G a__law_order⟩
  have F__law_web := fun_mk (st := s__law_web) l__law_web c__law_web k__law_web
  have D__law_web : Df K mg "_law_web" s__law_web ["script", "start", "many"] f__law_web _ := ⟨F__law_web, F__law_web.binds (ps := ["script", "start", "many"]) fun _ _ _ _ _ _ us hl => match us, hl with | [_, _, _], _ => rfl, PySem.W.mg_of X G a__law_web⟩
  have F__law_voters := fun_mk (st := s__law_voters) l__law_voters c__law_voters k__law_voters
  have D__law_voters : Df K mg "_law_voters" s__law_voters ["script", "start", "many", "most"] f__law_voters _ := ⟨F__law_voters, F__law_voters.binds (ps := ["script", "start", "many", "most"]) fun _ _ _ _ _ _ us hl => match us, hl with | [_, _, _, _], _ => rfl, PySem.W.mg_of X G a__law_voters⟩
  have F__law_lead := fun_mk (st := s__law_lead) l__law_lead c__law_lead k__law_lead
  have D__law_lead : Df K mg "_law_lead" s__law_lead ["voters", "one", "other"] f__law_lead _ := ⟨F__law_lead, F__law_lead.binds (ps := ["voters", "one", "other"]) fun _ _ _ _ _ _ us hl => match us, hl with | [_, _, _], _ => rfl, PySem.W.mg_of X G a__law_lead⟩
  have F__law_beats := fun_mk (st := s__law_beats) l__law_beats c__law_beats k__law_beats
  have D__law_beats : Df K mg "_law_beats" s__law_beats ["many", "voters"] f__law_beats _ := ⟨F__law_beats, F__law_beats.binds (ps := ["many", "voters"]) fun _ _ _ _ _ _ us hl => match us, hl with | [_, _], _ => rfl, PySem.W.mg_of X G a__law_beats⟩
  have F__law_wished := fun_mk (st := s__law_wished) l__law_wished c__law_wished k__law_wished
  have D__law_wished : Df K mg "_law_wished" s__law_wished ["many", "web"] f__law_wished _ := ⟨F__law_wished, F__law_wished.binds (ps := ["many", "web"]) fun _ _ _ _ _ _ us hl => match us, hl with | [_, _], _ => rfl, PySem.W.mg_of X G a__law_wished⟩
  have F__law_orders := fun_mk (st := s__law_orders) l__law_orders c__law_orders k__law_orders
  have D__law_orders : Df K mg "_law_orders" s__law_orders ["many"] f__law_orders _ := ⟨F__law_orders, F__law_orders.binds (ps := ["many"]) fun _ _ _ _ _ _ us hl => match us, hl with | [_], _ => rfl, PySem.W.mg_of X G a__law_orders⟩
  have F__law_leads := fun_mk (st := s__law_leads) l__law_leads c__law_leads k__law_leads
  have D__law_leads : Df K mg "_law_leads" s__law_leads ["many", "voters"] f__law_leads _ := ⟨F__law_leads, F__law_leads.binds (ps := ["many", "voters"]) fun _ _ _ _ _ _ us hl => match us, hl with | [_, _], _ => rfl, PySem.W.mg_of X G a__law_leads⟩
  have F__law_signs := fun_mk (st := s__law_signs) l__law_signs c__law_signs k__law_signs
  have D__law_signs : Df K mg "_law_signs" s__law_signs ["leads"] f__law_signs _ := ⟨F__law_signs, F__law_signs.binds (ps := ["leads"]) fun _ _ _ _ _ _ us hl => match us, hl with | [_], _ => rfl, PySem.W.mg_of X G a__law_signs⟩
  have F__law_least := fun_mk (st := s__law_least) l__law_least c__law_least k__law_least
  have D__law_least : Df K mg "_law_least" s__law_least ["many", "wished"] f__law_least _ := ⟨F__law_least, F__law_least.binds (ps := ["many", "wished"]) fun _ _ _ _ _ _ us hl => match us, hl with | [_, _], _ => rfl, PySem.W.mg_of X G a__law_least⟩
  have F_look_at_count := fun_mk (st := s_look_at_count) l_look_at_count c_look_at_count k_look_at_count
  have D_look_at_count : Df K mg "look_at_count" s_look_at_count ["many"] f_look_at_count _ := ⟨F_look_at_count, F_look_at_count.binds (ps := ["many"]) fun _ _ _ _ _ _ us hl => match us, hl with | [_], _ => rfl, PySem.W.mg_of X G a_look_at_count⟩
  have F_look_at_web := fun_mk (st := s_look_at_web) l_look_at_web c_look_at_web k_look_at_web
  have D_look_at_web : Df K mg "look_at_web" s_look_at_web ["many", "web"] f_look_at_web _ := ⟨F_look_at_web, F_look_at_web.binds (ps := ["many", "web"]) fun _ _ _ _ _ _ us hl => match us, hl with | [_, _], _ => rfl, PySem.W.mg_of X G a_look_at_web⟩
  have F_wished_signs := fun_mk (st := s_wished_signs) l_wished_signs c_wished_signs k_wished_signs
  have D_wished_signs : Df K mg "wished_signs" s_wished_signs ["many", "web"] f_wished_signs _ := ⟨F_wished_signs, F_wished_signs.binds (ps := ["many", "web"]) fun _ _ _ _ _ _ us hl => match us, hl with | [_, _], _ => rfl, PySem.W.mg_of X G a_wished_signs⟩
  have F_orders_of := fun_mk (st := s_orders_of) l_orders_of c_orders_of k_orders_of
  have D_orders_of : Df K mg "orders_of" s_orders_of ["many"] f_orders_of _ := ⟨F_orders_of, F_orders_of.binds (ps := ["many"]) fun _ _ _ _ _ _ us hl => match us, hl with | [_], _ => rfl, PySem.W.mg_of X G a_orders_of⟩
  have F_signs_of := fun_mk (st := s_signs_of) l_signs_of c_signs_of k_signs_of
  have D_signs_of : Df K mg "signs_of" s_signs_of ["many", "voter"] f_signs_of _ := ⟨F_signs_of, F_signs_of.binds (ps := ["many", "voter"]) fun _ _ _ _ _ _ us hl => match us, hl with | [_, _], _ => rfl, PySem.W.mg_of X G a_signs_of⟩
  have F_sign_of := fun_mk (st := s_sign_of) l_sign_of c_sign_of k_sign_of
  have D_sign_of : Df K mg "sign_of" s_sign_of ["number"] f_sign_of _ := ⟨F_sign_of, F_sign_of.binds (ps := ["number"]) fun _ _ _ _ _ _ us hl => match us, hl with | [_], _ => rfl, PySem.W.mg_of X G a_sign_of⟩
  have F_added := fun_mk (st := s_added) l_added c_added k_added
  have D_added : Df K mg "added" s_added ["one", "other"] f_added _ := ⟨F_added, F_added.binds (ps := ["one", "other"]) fun _ _ _ _ _ _ us hl => match us, hl with | [_, _], _ => rfl, PySem.W.mg_of X G a_added⟩
  have F_fewest := fun_mk (st := s_fewest) l_fewest c_fewest k_fewest
  have D_fewest : Df K mg "fewest" s_fewest ["many", "web"] f_fewest _ := ⟨F_fewest, F_fewest.binds (ps := ["many", "web"]) fun _ _ _ _ _ _ us hl => match us, hl with | [_, _], _ => rfl, PySem.W.mg_of X G a_fewest⟩
  have F__law_whole := fun_mk (st := s__law_whole) l__law_whole c__law_whole k__law_whole
  have D__law_whole : Df K mg "_law_whole" s__law_whole ["found"] f__law_whole _ := ⟨F__law_whole, F__law_whole.binds (ps := ["found"]) fun _ _ _ _ _ _ us hl => match us, hl with | [_], _ => rfl, PySem.W.mg_of X G a__law_whole⟩
  have F__law_is_order := fun_mk (st := s__law_is_order) l__law_is_order c__law_is_order k__law_is_order
  have D__law_is_order : Df K mg "_law_is_order" s__law_is_order ["found", "many"] f__law_is_order _ := ⟨F__law_is_order, F__law_is_order.binds (ps := ["found", "many"]) fun _ _ _ _ _ _ us hl => match us, hl with | [_, _], _ => rfl, PySem.W.mg_of X G a__law_is_order⟩
  have F__law_is_voters := fun_mk (st := s__law_is_voters) l__law_is_voters c__law_is_voters k__law_is_voters
  have D__law_is_voters : Df K mg "_law_is_voters" s__law_is_voters ["found", "many"] f__law_is_voters _ := ⟨F__law_is_voters, F__law_is_voters.binds (ps := ["found", "many"]) fun _ _ _ _ _ _ us hl => match us, hl with | [_, _], _ => rfl, PySem.W.mg_of X G a__law_is_voters⟩
  have F_law := fun_mk (st := s_law) l_law c_law k_law
  have D_law : Df K mg "law" s_law ["script"] fa _ := ⟨F_law, F_law.binds (ps := ["script"]) fun _ _ _ _ _ _ us hl => match us, hl with | [_], _ => rfl, PySem.W.mg_of X G a_law⟩
  refine ⟨PySem.W.fnOf "law" "law" (defArgs s_law) (defBody s_law) (defScope s_law) .none kV_law dc_law pm_law an_law cd_law ct_law, fun s v => .of_eq rfl, fun base _ _ => ?_⟩
  have G__law_cell_at : FnOk l.prog w K mg base CX0 1 f__law_cell_at _ ["script", "k"] (sp__law_cell_at K) := ok__law_cell_at D__law_cell_at Bi_
  have G__law_order : FnOk l.prog w K mg base CX0 1 f__law_order _ ["cell", "many"] sp__law_order := ok__law_order D__law_order Bi_
  have G__law_web : FnOk l.prog w K mg base CX0 2 f__law_web _ ["script", "start", "many"] (sp__law_web K) := ok__law_web D__law_web Bi_ D__law_cell_at G__law_cell_at D__law_order G__law_order
  have G__law_voters : FnOk l.prog w K mg base CX0 2 f__law_voters _ ["script", "start", "many", "most"] (sp__law_voters K) := ok__law_voters D__law_voters Bi_ D__law_cell_at G__law_cell_at D__law_order G__law_order
  have G__law_lead : FnOk l.prog w K mg base CX0 1 f__law_lead _ ["voters", "one", "other"] sp__law_lead := ok__law_lead D__law_lead Bi_
  have G__law_beats : FnOk l.prog w K mg base CX0 2 f__law_beats _ ["many", "voters"] sp__law_beats := ok__law_beats D__law_beats Bi_ D__law_lead G__law_lead
  have G__law_wished : FnOk l.prog w K mg base CX0 1 f__law_wished _ ["many", "web"] sp__law_wished := ok__law_wished D__law_wished Bi_
  have G__law_orders : FnOk l.prog w K mg base CX0 1 f__law_orders _ ["many"] sp__law_orders := ok__law_orders D__law_orders Bi_
  have G__law_leads : FnOk l.prog w K mg base CX0 2 f__law_leads _ ["many", "voters"] sp__law_leads := ok__law_leads D__law_leads Bi_ D__law_lead G__law_lead
  have G__law_signs : FnOk l.prog w K mg base CX0 1 f__law_signs _ ["leads"] sp__law_signs := ok__law_signs D__law_signs Bi_
  have G__law_least : FnOk l.prog w K mg base CX0 3 f__law_least _ ["many", "wished"] sp__law_least := ok__law_least D__law_least Bi_ D__law_orders G__law_orders D__law_leads G__law_leads D__law_signs G__law_signs
  have G_look_at_count : FnOk l.prog w K mg base (L2.CX l.prog w) 1 f_look_at_count _ ["many"] (sp_look_at_count C_BadCount) := ok_look_at_count D_look_at_count Bi_ X_BadCount K_MOST_THINGS
  have G_look_at_web : FnOk l.prog w K mg base (L2.CX l.prog w) 2 f_look_at_web _ ["many", "web"] (sp_look_at_web C_BadCount C_BadWeb) := ok_look_at_web D_look_at_web Bi_ X_BadWeb D_look_at_count G_look_at_count
  have G_wished_signs : FnOk l.prog w K mg base CX0 1 f_wished_signs _ ["many", "web"] sp_wished_signs := ok_wished_signs D_wished_signs Bi_
  have G_orders_of : FnOk l.prog w K mg base CX0 1 f_orders_of _ ["many"] sp_orders_of := ok_orders_of D_orders_of Bi_
  have G_signs_of : FnOk l.prog w K mg base CX0 1 f_signs_of _ ["many", "voter"] sp_signs_of := ok_signs_of D_signs_of Bi_
  have G_sign_of : FnOk l.prog w K mg base CX0 1 f_sign_of _ ["number"] sp_sign_of := ok_sign_of D_sign_of Bi_
  have G_added : FnOk l.prog w K mg base CX0 1 f_added _ ["one", "other"] sp_added := ok_added D_added Bi_
  have G_fewest : FnOk l.prog w K mg base (L2.CX l.prog w) 3 f_fewest _ ["many", "web"] (sp_fewest C_BadCount C_BadWeb C_TooMany) := ok_fewest D_fewest Bi_ X_TooMany K_MOST_SEARCHED D_look_at_web G_look_at_web D_wished_signs G_wished_signs D_orders_of G_orders_of D_signs_of G_signs_of D_sign_of G_sign_of D_added G_added
  have G__law_whole : FnOk l.prog w K mg base CX0 1 f__law_whole _ ["found"] sp__law_whole := ok__law_whole D__law_whole Bi_
  have G__law_is_order : FnOk l.prog w K mg base CX0 2 f__law_is_order _ ["found", "many"] sp__law_is_order := ok__law_is_order D__law_is_order Bi_ D__law_whole G__law_whole
  have G__law_is_voters : FnOk l.prog w K mg base CX0 3 f__law_is_voters _ ["found", "many"] sp__law_is_voters := ok__law_is_voters D__law_is_voters Bi_ D__law_is_order G__law_is_order
  have G_law : FnOk l.prog w K mg base CX0 4 fa _ ["script"] (sp_law K) := ok_law D_law Bi_ D__law_cell_at G__law_cell_at D__law_web G__law_web D__law_voters G__law_voters D__law_beats G__law_beats D__law_wished G__law_wished D__law_least G__law_least D_fewest G_fewest D__law_is_voters G__law_is_voters
  exact G_law
end Bm
open PySem PySem.W PyProof.Rows
set_option maxHeartbeats 0 in
theorem PySem.Challenge.cw_beatmakers_k04_whole_the_fewest_voters_holds : PySem.Challenge.rw_beatmakers_k04_whole_the_fewest_voters.Holds := by
  w_on; o_law; k_head; (case hw => w_witness2)
  k_fill
  refine L2.walk_of (l := PySem.Challenge.rw_beatmakers_k04_whole_the_fewest_voters) (n := 63) (k := 4) (x := "script") (CX := fun _ => L2.CX0) (sp := fun w => Bm.sp_law _) rfl (by decide) rfl ⟨rfl, by decide, by decide⟩ (fun w h Y => PySem.W.kIn_of Y) ?F (fun _ _ a ns hl _ hS => ⟨a, ns, rfl, hS, hl, fun _ => rfl⟩) (fun _ _ _ _ _ h => h)
  case F =>
    intro w mg fa h KX G hmg
    refine' Bm.all_mk KX G hmg ?a__law_cell_at ?l__law_cell_at ?c__law_cell_at ?k__law_cell_at ?a__law_order ?l__law_order ?c__law_order ?k__law_order ?a__law_web ?l__law_web ?c__law_web ?k__law_web ?a__law_voters ?l__law_voters ?c__law_voters ?k__law_voters ?a__law_lead ?l__law_lead ?c__law_lead ?k__law_lead ?a__law_beats ?l__law_beats ?c__law_beats ?k__law_beats ?a__law_wished ?l__law_wished ?c__law_wished ?k__law_wished ?a__law_orders ?l__law_orders ?c__law_orders ?k__law_orders ?a__law_leads ?l__law_leads ?c__law_leads ?k__law_leads ?a__law_signs ?l__law_signs ?c__law_signs ?k__law_signs ?a__law_least ?l__law_least ?c__law_least ?k__law_least ?a_look_at_count ?l_look_at_count ?c_look_at_count ?k_look_at_count ?a_look_at_web ?l_look_at_web ?c_look_at_web ?k_look_at_web ?a_wished_signs ?l_wished_signs ?c_wished_signs ?k_wished_signs ?a_orders_of ?l_orders_of ?c_orders_of ?k_orders_of ?a_signs_of ?l_signs_of ?c_signs_of ?k_signs_of ?a_sign_of ?l_sign_of ?c_sign_of ?k_sign_of ?a_added ?l_added ?c_added ?k_added ?a_fewest ?l_fewest ?c_fewest ?k_fewest ?a__law_whole ?l__law_whole ?c__law_whole ?k__law_whole ?a__law_is_order ?l__law_is_order ?c__law_is_order ?k__law_is_order ?a__law_is_voters ?l__law_is_voters ?c__law_is_voters ?k__law_is_voters ?a_law ?l_law ?c_law ?k_law ?g_BadCount ?x_BadCount ?xk_BadCount ?xb_BadCount ?xt_BadCount ?g_BadWeb ?x_BadWeb ?xk_BadWeb ?xb_BadWeb ?xt_BadWeb ?g_TooMany ?x_TooMany ?xk_TooMany ?xb_TooMany ?xt_TooMany ?v_MOST_THINGS ?v_MOST_SEARCHED ?z_len ?z_range ?z_list ?z_tuple ?z_sorted ?z_int ?z_bool ?z_str ?z_isinstance ?z_reversed ?z_set ?z_all ?z_max ?z_min ?z_ValueError
    (case a__law_cell_at => k_is)
    (case l__law_cell_at => k_is)
    (case c__law_cell_at => k_is)
    (case k__law_cell_at => k_is)
    (case a__law_order => k_is)
    (case l__law_order => k_is)
    (case c__law_order => k_is)
    (case k__law_order => k_is)
    (case a__law_web => k_is)
    (case l__law_web => k_is)
    (case c__law_web => k_is)
    (case k__law_web => k_is)
    (case a__law_voters => k_is)
    (case l__law_voters => k_is)
    (case c__law_voters => k_is)
    (case k__law_voters => k_is)
    (case a__law_lead => k_is)
    (case l__law_lead => k_is)
    (case c__law_lead => k_is)
    (case k__law_lead => k_is)
    (case a__law_beats => k_is)
    (case l__law_beats => k_is)
    (case c__law_beats => k_is)
    (case k__law_beats => k_is)
    (case a__law_wished => k_is)
    (case l__law_wished => k_is)
    (case c__law_wished => k_is)
    (case k__law_wished => k_is)
    (case a__law_orders => k_is)
    (case l__law_orders => k_is)
    (case c__law_orders => k_is)
    (case k__law_orders => k_is)
    (case a__law_leads => k_is)
    (case l__law_leads => k_is)
    (case c__law_leads => k_is)
    (case k__law_leads => k_is)
    (case a__law_signs => k_is)
    (case l__law_signs => k_is)
    (case c__law_signs => k_is)
    (case k__law_signs => k_is)
    (case a__law_least => k_is)
    (case l__law_least => k_is)
    (case c__law_least => k_is)
    (case k__law_least => k_is)
    (case a_look_at_count => k_is)
    (case l_look_at_count => k_is)
    (case c_look_at_count => k_is)
    (case k_look_at_count => k_is)
    (case a_look_at_web => k_is)
    (case l_look_at_web => k_is)
    (case c_look_at_web => k_is)
    (case k_look_at_web => k_is)
    (case a_wished_signs => k_is)
    (case l_wished_signs => k_is)
    (case c_wished_signs => k_is)
    (case k_wished_signs => k_is)
    (case a_orders_of => k_is)
    (case l_orders_of => k_is)
    (case c_orders_of => k_is)
    (case k_orders_of => k_is)
    (case a_signs_of => k_is)
    (case l_signs_of => k_is)
    (case c_signs_of => k_is)
    (case k_signs_of => k_is)
    (case a_sign_of => k_is)
    (case l_sign_of => k_is)
    (case c_sign_of => k_is)
    (case k_sign_of => k_is)
    (case a_added => k_is)
    (case l_added => k_is)
    (case c_added => k_is)
    (case k_added => k_is)
    (case a_fewest => k_is)
    (case l_fewest => k_is)
    (case c_fewest => k_is)
    (case k_fewest => k_is)
    (case a__law_whole => k_is)
    (case l__law_whole => k_is)
    (case c__law_whole => k_is)
    (case k__law_whole => k_is)
    (case a__law_is_order => k_is)
    (case l__law_is_order => k_is)
    (case c__law_is_order => k_is)
    (case k__law_is_order => k_is)
    (case a__law_is_voters => k_is)
    (case l__law_is_voters => k_is)
    (case c__law_is_voters => k_is)
    (case k__law_is_voters => k_is)
    (case a_law => k_is)
    (case l_law => k_is)
    (case c_law => k_is)
    (case k_law => k_is)
    (case g_BadCount => k_is)
    (case x_BadCount => k_exc)
    (case xk_BadCount => k_is)
    (case xb_BadCount => k_is)
    (case xt_BadCount => k_is)
    (case g_BadWeb => k_is)
    (case x_BadWeb => k_exc)
    (case xk_BadWeb => k_is)
    (case xb_BadWeb => k_is)
    (case xt_BadWeb => k_is)
    (case g_TooMany => k_is)
    (case x_TooMany => k_exc)
    (case xk_TooMany => k_is)
    (case xb_TooMany => k_is)
    (case xt_TooMany => k_is)
    (case v_MOST_THINGS => k_is)
    (case v_MOST_SEARCHED => k_is)
    (case z_len => k_is)
    (case z_range => k_is)
    (case z_list => k_is)
    (case z_tuple => k_is)
    (case z_sorted => k_is)
    (case z_int => k_is)
    (case z_bool => k_is)
    (case z_str => k_is)
    (case z_isinstance => k_is)
    (case z_reversed => k_is)
    (case z_set => k_is)
    (case z_all => k_is)
    (case z_max => k_is)
    (case z_min => k_is)
    (case z_ValueError => k_is)

