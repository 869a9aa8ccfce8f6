import PyProof.Rows.All
import Wide.All
import OpenK.AllK
import Wide.FinOn
import HandS.Base
import HandS.Call
import HandS.List
import HandS.Comp
import HandS.Ends
import HandS.Dict
import HandS.Iter
import HandS.Text
import HandS.Words
import HandS.WordsList
import HandS.Evl
import HandS.Conv
import HandS.Strs
import HandS.TupAny
import HandS.Rev
import HandS.SortInts
import HandS.Deep
import HandS.Style
import HandS.IsInst
import HandS.Exc
import HandS.ExcOwn
import HandS.WordsExc
import KE.KSortedM
import HandS.TupSets
import PySem.Challenge.RW_beatmakers_k03_whole_voters_for_each_web
set_option Elab.async false
set_option linter.all false
set_option maxRecDepth 100000
set_option maxHeartbeats 4000000
/-! Data (PyData) in the abstract heap, and what a reading evaluates to as data. -/
namespace Bm
open PySem PySem.Spec PyProof.Rows L2 Evl

/-! ### a value that is this data; lists and tuples are tracked objects -/
mutual
def Rp (H : Hp) : PyData → V → Prop
  | .none, v => v = .non
  | .bool b, v => v = .bl b
  | .int i, v => v = .int i
  | .str s, v => v = .str s
  | .list ds, v => ∃ a xs, v = .ref a ∧ H a = some (.lst xs) ∧ RpA H ds xs
  | .tuple ds, v => ∃ a xs o, v = .ref a ∧ H a = some (.frz o (.tup xs)) ∧ o.dict = Option.none ∧ RpA H ds xs
  | .dict _, _ => False
def RpA (H : Hp) : List PyData → List V → Prop
  | [], vs => vs = []
  | d :: ds, vs => ∃ v r, vs = v :: r ∧ Rp H d v ∧ RpA H ds r
end

mutual
theorem Rp.ex {H H' : Hp} (e : Ex H H') : ∀ {d : PyData} {v : V}, Rp H d v → Rp H' d v
  | .none, _, h => h
  | .bool _, _, h => h
  | .int _, _, h => h
  | .str _, _, h => h
  | .list _, _, h => by
    obtain ⟨a, xs, e1, e2, e3⟩ := h
    exact ⟨a, xs, e1, e a _ e2, RpA.ex e e3⟩
  | .tuple _, _, h => by
    obtain ⟨a, xs, o, e1, e2, e4, e3⟩ := h
    exact ⟨a, xs, o, e1, e a _ e2, e4, RpA.ex e e3⟩
  | .dict _, _, h => h
theorem RpA.ex {H H' : Hp} (e : Ex H H') : ∀ {ds : List PyData} {vs : List V}, RpA H ds vs → RpA H' ds vs
  | [], _, h => h
  | _ :: _, _, h => by
    obtain ⟨v, r, e1, e2, e3⟩ := h
    exact ⟨v, r, e1, Rp.ex e e2, RpA.ex e e3⟩
end

/-! data without a list in it -/
mutual
def imm : PyData → Bool
  | .list _ => false
  | .dict _ => false
  | .tuple ds => immA ds
  | _ => true
def immA : List PyData → Bool
  | [] => true
  | d :: ds => imm d && immA ds
end
theorem immA_iff : ∀ {ds : List PyData}, immA ds = true ↔ ∀ d ∈ ds, imm d = true
  | [] => by simp [immA]
  | d :: ds => by
    rw [immA, Bool.and_eq_true, immA_iff (ds := ds), List.forall_mem_cons]
/-- the tuples stay -/
def KT (H H' : Hp) : Prop := ∀ a o xs, H a = some (.frz o (.tup xs)) → H' a = some (.frz o (.tup xs))
theorem KT.refl (H : Hp) : KT H H := fun _ _ _ h => h
theorem KT.trans {H H1 H2 : Hp} (a : KT H H1) (b : KT H1 H2) : KT H H2 := fun x o xs h => b x o xs (a x o xs h)
theorem KT.of {H H' : Hp} (e : Ex H H') : KT H H' := fun a _ xs h => e a _ h
theorem KT.upd {H : Hp} {l : Addr} {u o : HO} (h : H l = some u) (n : ∀ ob xs, u ≠ .frz ob (.tup xs)) : KT H (L2.upd H l o) := fun a ob ys e => by
  rw [upd_ne (ne_of e h (fun z => n ob ys z.symm))]
  exact e
theorem KT.lst {H : Hp} {l : Addr} {xs : List V} {o : HO} (h : H l = some (.lst xs)) : KT H (L2.upd H l o) := KT.upd h fun _ _ z => by cases z
mutual
theorem Rp.keep {H H' : Hp} (e : KT H H') : ∀ {d : PyData} {v : V}, imm d = true → Rp H d v → Rp H' d v
  | .none, _, _, h => h
  | .bool _, _, _, h => h
  | .int _, _, _, h => h
  | .str _, _, _, h => h
  | .list _, _, i, _ => by cases i
  | .tuple _, _, i, h => by
    obtain ⟨a, xs, o, e1, e2, e4, e3⟩ := h
    exact ⟨a, xs, o, e1, e a _ _ e2, e4, RpA.keep e i e3⟩
  | .dict _, _, _, h => h
theorem RpA.keep {H H' : Hp} (e : KT H H') : ∀ {ds : List PyData} {vs : List V}, immA ds = true → RpA H ds vs → RpA H' ds vs
  | [], _, _, h => h
  | _ :: _, _, i, h => by
    obtain ⟨v, r, e1, e2, e3⟩ := h
    rw [immA, Bool.and_eq_true] at i
    exact ⟨v, r, e1, Rp.keep e i.1 e2, RpA.keep e i.2 e3⟩
end

mutual
theorem Rp.dp {K : PySem.W.Frag} {H : Hp} : ∀ {d : PyData} {v : V}, Rp H d v → Dp K H v d
  | .none, _, h => by cases h; exact .non
  | .bool _, _, h => by cases h; exact .bl _
  | .int _, _, h => by cases h; exact .int _
  | .str _, _, h => by cases h; exact .str _
  | .list _, _, h => by
    obtain ⟨a, xs, e1, e2, e3⟩ := h
    rw [e1]
    exact .lst (SqL.of e2) (RpA.dp e3)
  | .tuple _, _, h => by
    obtain ⟨a, xs, o, e1, e2, e4, e3⟩ := h
    rw [e1]
    exact .tup (.inl (.inr ⟨o, e2⟩)) (RpA.dp e3)
  | .dict _, _, h => h.elim
theorem RpA.dp {K : PySem.W.Frag} {H : Hp} : ∀ {ds : List PyData} {vs : List V}, RpA H ds vs → DpAll K H vs ds
  | [], _, h => by cases h; exact .nil
  | _ :: _, _, h => by
    obtain ⟨v, r, e1, e2, e3⟩ := h
    rw [e1]
    exact .cons (Rp.dp e2) (RpA.dp e3)
end

/-! ### lists of data -/
section
variable {H H' : Hp}
theorem RpA.nil : RpA H [] [] := rfl
theorem RpA.cons {d : PyData} {ds : List PyData} {v : V} {vs : List V} (h : Rp H d v) (t : RpA H ds vs) : RpA H (d :: ds) (v :: vs) := ⟨v, vs, rfl, h, t⟩
theorem RpA.len : ∀ {ds : List PyData} {vs : List V}, RpA H ds vs → vs.length = ds.length
  | [], _, h => by cases h; rfl
  | _ :: _, _, h => by
    obtain ⟨v, r, rfl, _, e3⟩ := h
    rw [List.length_cons, List.length_cons, RpA.len e3]
theorem RpA.get : ∀ {ds : List PyData} {vs : List V} {i : Nat} {d : PyData}, RpA H ds vs → ds[i]? = some d → ∃ v, vs[i]? = some v ∧ Rp H d v
  | [], _, _, _, _, e => by simp at e
  | _ :: _, _, 0, _, h, e => by
    obtain ⟨v, r, rfl, e2, _⟩ := h
    cases e
    exact ⟨v, rfl, e2⟩
  | _ :: _, _, i + 1, _, h, e => by
    obtain ⟨v, r, rfl, _, e3⟩ := h
    exact RpA.get (i := i) e3 e
theorem RpA.getv : ∀ {ds : List PyData} {vs : List V} {i : Nat} {v : V}, RpA H ds vs → vs[i]? = some v → ∃ d, ds[i]? = some d ∧ Rp H d v
  | [], _, _, _, h, e => by cases h; simp at e
  | d :: _, _, 0, _, h, e => by
    obtain ⟨v, r, rfl, e2, _⟩ := h
    cases e
    exact ⟨d, rfl, e2⟩
  | _ :: _, _, i + 1, _, h, e => by
    obtain ⟨v, r, rfl, _, e3⟩ := h
    exact RpA.getv (i := i) e3 e
theorem RpA.get2 {ds : List PyData} {vs : List V} {i : Nat} {d : PyData} {v : V} (h : RpA H ds vs) (e : ds[i]? = some d) (e' : vs[i]? = some v) : Rp H d v := by
  obtain ⟨u, q, r⟩ := h.get e
  rw [e'] at q; cases q
  exact r
theorem RpA.app : ∀ {ds es : List PyData} {vs ws : List V}, RpA H ds vs → RpA H es ws → RpA H (ds ++ es) (vs ++ ws)
  | [], _, _, _, h, t => by cases h; exact t
  | _ :: _, _, _, _, h, t => by
    obtain ⟨v, r, rfl, e2, e3⟩ := h
    exact ⟨v, _, rfl, e2, RpA.app e3 t⟩
theorem RpA.snoc {ds : List PyData} {d : PyData} {vs : List V} {v : V} (h : RpA H ds vs) (t : Rp H d v) : RpA H (ds ++ [d]) (vs ++ [v]) := h.app (RpA.cons t RpA.nil)
theorem RpA.take : ∀ {ds : List PyData} {vs : List V} (n : Nat), RpA H ds vs → RpA H (ds.take n) (vs.take n)
  | _, _, 0, _ => by simp only [List.take_zero]; exact RpA.nil
  | [], _, n + 1, h => by cases h; exact RpA.nil
  | _ :: _, _, n + 1, h => by
    obtain ⟨v, r, rfl, e2, e3⟩ := h
    exact ⟨v, _, rfl, e2, RpA.take n e3⟩
theorem RpA.drop : ∀ {ds : List PyData} {vs : List V} (n : Nat), RpA H ds vs → RpA H (ds.drop n) (vs.drop n)
  | _, _, 0, h => h
  | [], _, n + 1, h => by cases h; exact RpA.nil
  | _ :: _, _, n + 1, h => by
    obtain ⟨v, r, rfl, e2, e3⟩ := h
    exact RpA.drop n e3
theorem RpA.rev : ∀ {ds : List PyData} {vs : List V}, RpA H ds vs → RpA H ds.reverse vs.reverse
  | [], _, h => by cases h; exact RpA.nil
  | _ :: _, _, h => by
    obtain ⟨v, r, rfl, e2, e3⟩ := h
    rw [List.reverse_cons, List.reverse_cons]
    exact (RpA.rev e3).snoc e2
theorem RpA.erase : ∀ {ds : List PyData} {vs : List V} (n : Nat), RpA H ds vs → RpA H (ds.eraseIdx n) (vs.eraseIdx n)
  | [], _, _, h => by cases h; exact RpA.nil
  | _ :: _, _, 0, h => by
    obtain ⟨v, r, rfl, e2, e3⟩ := h
    exact e3
  | _ :: _, _, n + 1, h => by
    obtain ⟨v, r, rfl, e2, e3⟩ := h
    exact ⟨v, _, rfl, e2, RpA.erase n e3⟩
theorem RpA.rep {ds : List PyData} {vs : List V} (h : RpA H ds vs) : ∀ k : Nat, RpA H (List.replicate k ds).flatten (List.replicate k vs).flatten
  | 0 => RpA.nil
  | k + 1 => by
    rw [List.replicate_succ, List.replicate_succ, List.flatten_cons, List.flatten_cons]
    exact h.app (RpA.rep h k)
theorem rpa_map {α : Type} {f : α → PyData} {g : α → V} (h : ∀ x, Rp H (f x) (g x)) : ∀ xs : List α, RpA H (xs.map f) (xs.map g)
  | [] => RpA.nil
  | x :: xs => ⟨g x, _, rfl, h x, rpa_map h xs⟩
theorem rpa_map_inv {α : Type} {f : α → PyData} {g : α → V} (h : ∀ x v, Rp H (f x) v → v = g x) : ∀ {xs : List α} {vs : List V}, RpA H (xs.map f) vs → vs = xs.map g
  | [], _, r => r
  | x :: xs, _, r => by
    obtain ⟨v, t, rfl, e2, e3⟩ := r
    rw [List.map_cons, h x v e2, rpa_map_inv h e3]
theorem rpa_ints (ns : List Int) : RpA H (ns.map PyData.int) (ns.map V.int) := rpa_map (f := PyData.int) (g := V.int) (fun _ => rfl) ns
theorem RpA.ints {ns : List Int} {vs : List V} (h : RpA H (ns.map PyData.int) vs) : vs = ns.map V.int := rpa_map_inv (f := PyData.int) (g := V.int) (fun _ _ e => e) h
theorem rpa_strs (ns : List Str) : RpA H (ns.map PyData.str) (ns.map V.str) := rpa_map (f := PyData.str) (g := V.str) (fun _ => rfl) ns
theorem RpA.strs {ns : List Str} {vs : List V} (h : RpA H (ns.map PyData.str) vs) : vs = ns.map V.str := rpa_map_inv (f := PyData.str) (g := V.str) (fun _ _ e => e) h
theorem rpa_bls (ns : List Bool) : RpA H (ns.map PyData.bool) (ns.map V.bl) := rpa_map (f := PyData.bool) (g := V.bl) (fun _ => rfl) ns
theorem RpA.bls {ns : List Bool} {vs : List V} (h : RpA H (ns.map PyData.bool) vs) : vs = ns.map V.bl := rpa_map_inv (f := PyData.bool) (g := V.bl) (fun _ _ e => e) h
/-- another row of data is the same data -/
theorem RpA.mem : ∀ {ds : List PyData} {vs : List V} {d : PyData}, RpA H ds vs → d ∈ ds → ∃ v ∈ vs, Rp H d v
  | d :: ds, _, x, h, m => by
    obtain ⟨v, r, rfl, e2, e3⟩ := h
    rcases List.mem_cons.mp m with rfl | m
    · exact ⟨v, List.mem_cons_self, e2⟩
    · obtain ⟨u, hu, q⟩ := RpA.mem e3 m
      exact ⟨u, List.mem_cons_of_mem _ hu, q⟩
end

/-! ### short words for data -/
abbrev iD (ns : List Int) : PyData := .tuple (ns.map .int)
abbrev iL (ns : List Int) : PyData := .list (ns.map .int)
abbrev pD (p : Int × Int) : PyData := .tuple [.int p.1, .int p.2]
abbrev vD (vs : List (List Int)) : PyData := .list (vs.map iD)
abbrev wD (ps : List (Int × Int)) : PyData := .list (ps.map pD)
theorem imm_ints (ns : List Int) : immA (ns.map .int) = true := immA_iff.mpr fun d h => by
  obtain ⟨x, _, rfl⟩ := List.mem_map.mp h
  rfl
theorem imm_iD (ns : List Int) : imm (iD ns) = true := imm_ints ns
theorem imm_vD (vs : List (List Int)) : immA (vs.map iD) = true := immA_iff.mpr fun d h => by
  obtain ⟨x, _, rfl⟩ := List.mem_map.mp h
  exact imm_iD x
theorem imm_wD (ps : List (Int × Int)) : immA (ps.map pD) = true := immA_iff.mpr fun d h => by
  obtain ⟨x, _, rfl⟩ := List.mem_map.mp h
  rfl
theorem Rp.iD {H : Hp} {v : V} {ns : List Int} (h : Rp H (iD ns) v) : ∃ a o, v = .ref a ∧ H a = some (.frz o (.tup (ns.map V.int))) ∧ o.dict = Option.none := by
  obtain ⟨a, xs, o, e1, e2, e4, e3⟩ := h
  exact ⟨a, o, e1, by rw [e2, e3.ints], e4⟩
theorem Rp.seqT {K : PySem.W.Frag} {H : Hp} {v : V} {ds : List PyData} (h : Rp H (.tuple ds) v) : ∃ a xs, v = .ref a ∧ SqT K H a xs ∧ RpA H ds xs := by
  obtain ⟨a, xs, o, e1, e2, e4, e3⟩ := h
  exact ⟨a, xs, e1, .inl (.inr ⟨o, e2⟩), e3⟩
theorem Rp.seqL {K : PySem.W.Frag} {H : Hp} {v : V} {ds : List PyData} (h : Rp H (.list ds) v) : ∃ a xs, v = .ref a ∧ SqL K H a xs ∧ RpA H ds xs := by
  obtain ⟨a, xs, e1, e2, e3⟩ := h
  exact ⟨a, xs, e1, SqL.of e2, e3⟩
theorem Rp.iL {H : Hp} {v : V} {ns : List Int} (h : Rp H (iL ns) v) : ∃ a, v = .ref a ∧ H a = some (.lst (ns.map V.int)) := by
  obtain ⟨a, xs, e1, e2, e3⟩ := h
  exact ⟨a, e1, by rw [e2, e3.ints]⟩
theorem Rp.pD {H : Hp} {v : V} {p : Int × Int} (h : Rp H (pD p) v) : ∃ a o, v = .ref a ∧ H a = some (.frz o (.tup [.int p.1, .int p.2])) ∧ o.dict = Option.none := by
  obtain ⟨a, xs, o, e1, e2, e4, v1, r1, rfl, q1, v2, r2, rfl, q2, q3⟩ := h
  cases q1
  cases q2
  cases q3
  exact ⟨a, o, e1, e2, e4⟩

/-! ### what an expression evaluates to -/
def EvD (te : TE) (σ : L2.St) (H : Hp) (d : PyData) : Prop := ∀ H1, Ex H H1 → ∀ Q : VK, (∀ v H2, Ex H1 H2 → Rp H2 d v → Q v H2) → te σ H1 Q
/-- a new list -/
def EvN (te : TE) (σ : L2.St) (H : Hp) (ds : List PyData) : Prop := ∀ H1, Ex H H1 → ∀ Q : VK, (∀ p vs H2, H1 p = none → Ex H1 H2 → H2 p = some (.lst vs) → RpA H2 ds vs → Q (.ref p) H2) → te σ H1 Q
def EvS (ta : TA) (σ : L2.St) (H : Hp) (ds : List PyData) : Prop := ∀ H1, Ex H H1 → ∀ Q : List V → Hp → Prop, (∀ vs H2, Ex H1 H2 → RpA H2 ds vs → Q vs H2) → ta σ H1 Q
section
variable {K : PySem.W.Frag} {σ : L2.St} {H H' : Hp} {ta tb te tx : TE} {t u : TT} {d x y z : PyData} {ds : List PyData}
theorem EvD.mono (e : Ex H H') (h : EvD te σ H d) : EvD te σ H' d := fun H1 a Q q => h H1 (e.trans a) Q q
theorem EvN.mono (e : Ex H H') (h : EvN te σ H ds) : EvN te σ H' ds := fun H1 a Q q => h H1 (e.trans a) Q q
theorem EvS.mono {ta : TA} (e : Ex H H') (h : EvS ta σ H ds) : EvS ta σ H' ds := fun H1 a Q q => h H1 (e.trans a) Q q
theorem EvN.toD (h : EvN te σ H ds) : EvD te σ H (.list ds) := fun H1 e Q q => h H1 e Q fun p vs H2 _ e2 h2 h3 => q _ H2 e2 ⟨p, vs, rfl, h2, h3⟩
theorem EvD.is {d' : PyData} (h : EvD te σ H d) (e : d = d') : EvD te σ H d' := e ▸ h
theorem evd_var {i : Nat} {v : V} (h : σ[i]? = some (some v)) (r : Rp H d v) : EvD (tVar i) σ H d := fun H1 e _ q => ⟨v, h, q v H1 (Ex.refl H1) (r.ex e)⟩
theorem evd_int {i : Int} : EvD (tC (.int i)) σ H (.int i) := fun H1 _ _ q => q _ H1 (Ex.refl H1) rfl
theorem evd_str {i : Str} : EvD (tC (.str i)) σ H (.str i) := fun H1 _ _ q => q _ H1 (Ex.refl H1) rfl
theorem evd_bl {b : Bool} : EvD (tC (.bl b)) σ H (.bool b) := fun H1 _ _ q => q _ H1 (Ex.refl H1) rfl
theorem evd_non : EvD (tC .non) σ H .none := fun H1 _ _ q => q _ H1 (Ex.refl H1) rfl
/-- a two-place operation on data -/
def RD (r : R2) (x y : PyData) (H : Hp) (z : PyData) : Prop := ∀ H1 v u, Ex H H1 → Rp H1 x v → Rp H1 y u → ∀ Q : VK, (∀ w H2, Ex H1 H2 → Rp H2 z w → Q w H2) → r v u H1 Q
theorem evd_op {r : R2} (ha : EvD ta σ H x) (hb : EvD tb σ H y) (hr : RD r x y H z) : EvD (tOp r ta tb) σ H z := fun H1 e Q q =>
  ha H1 e _ fun v H2 e2 r2 => hb H2 (e.trans e2) _ fun u H3 e3 r3 => hr H3 v u ((e.trans e2).trans e3) (r2.ex e3) r3 Q fun w H4 e4 r4 => q w H4 ((e2.trans e3).trans e4) r4
theorem rd_val {r : R2} (h : ∀ H1 v u, Ex H H1 → Rp H1 x v → Rp H1 y u → ∃ w, Rp H1 z w ∧ ∀ Q : VK, Q w H1 → r v u H1 Q) : RD r x y H z := fun H1 v u e r1 r2 Q q => by
  obtain ⟨w, rw_, k⟩ := h H1 v u e r1 r2
  exact k Q (q w H1 (Ex.refl H1) rw_)
end

/-! ### operations on ints, bools, texts -/
def rAddI : R2 := rI0 fun i j => .int (i + j)
def rSubI : R2 := rI0 fun i j => .int (i - j)
def rMulI : R2 := rI CMul fun i j => .int (i * j)
def rDivI : R2 := rI CDiv fun i j => .int (i / j)
def rModI : R2 := rI (fun _ j => 0 < j) fun i j => .int (i % j)
def rPowI : R2 := rI CPow fun i j => .int (i ^ j.toNat)
def rLtI : R2 := rI0 fun i j => .bl (decide (i < j))
def rLeI : R2 := rI0 fun i j => .bl (decide (i ≤ j))
def rGtI : R2 := rI0 fun i j => .bl (decide (j < i))
def rGeI : R2 := rI0 fun i j => .bl (decide (j ≤ i))
def rEqI : R2 := fun x y H Q => ∃ i j, x = .int i ∧ y = .int j ∧ Q (.bl (decide (i = j))) H
def rNeI : R2 := fun x y H Q => ∃ i j, x = .int i ∧ y = .int j ∧ Q (.bl (!decide (i = j))) H
def rEqB : R2 := fun x y H Q => ∃ i j, x = .bl i ∧ y = .bl j ∧ Q (.bl (decide (i = j))) H
def rNeB : R2 := fun x y H Q => ∃ i j, x = .bl i ∧ y = .bl j ∧ Q (.bl (!decide (i = j))) H
def rEqT : R2 := fun x y H Q => ∃ i j, x = .str i ∧ y = .str j ∧ Q (.bl (decide (i = j))) H
def rNeT : R2 := fun x y H Q => ∃ i j, x = .str i ∧ y = .str j ∧ Q (.bl (!decide (i = j))) H
def rIsNo : R2 := fun x y H Q => y = .non ∧ Q (.bl (decide (x = .non))) H
def rNotNo : R2 := fun x y H Q => y = .non ∧ Q (.bl (!decide (x = .non))) H
section
variable {X : Cx}
theorem op_addI : OpR X (binaryOp .Add) rAddI := op_add
theorem op_subI : OpR X (binaryOp .Sub) rSubI := op_sub
theorem op_mulI : OpR X (binaryOp .Mult) rMulI := op_mul
theorem op_divI : OpR X (binaryOp .FloorDiv) rDivI := op_fdiv
theorem op_modI : OpR X (binaryOp .Mod) rModI := op_mod
theorem op_powI : OpR X (binaryOp .Pow) rPowI := op_pow
theorem op_ltI : OpR X (compareOp .Lt) rLtI := op_lt
theorem op_leI : OpR X (compareOp .LtE) rLeI := op_le
theorem op_gtI : OpR X (compareOp .Gt) rGtI := op_gt
theorem op_geI : OpR X (compareOp .GtE) rGeI := op_ge
theorem opr_imp {f : Value → Value → Sem Value} {r r' : R2} (h : OpR X f r) (i : ∀ x y H Q, r' x y H Q → r x y H Q) : OpR X f r' := fun pins s σ H x y v u Q I rx ry q => h pins s σ H x y v u Q I rx ry (i x y H Q q)
theorem dec_inj {α : Type} [DecidableEq α] {f : α → V} (hf : ∀ i j, f i = f j → i = j) (i j : α) : decide (f i = f j) = decide (i = j) := by
  by_cases h : i = j
  · subst h; simp
  · rw [decide_eq_false h, decide_eq_false fun z => h (hf _ _ z)]
theorem op_eqI : OpR X (compareOp .Eq) rEqI := opr_imp op_eq fun x y H Q ⟨i, j, ex, ey, q⟩ => by
  subst ex; subst ey
  exact ⟨rfl, by rw [dec_inj (f := V.int) (fun _ _ z => V.int.inj z)]; exact q⟩
theorem op_neI : OpR X (compareOp .NotEq) rNeI := opr_imp op_ne fun x y H Q ⟨i, j, ex, ey, q⟩ => by
  subst ex; subst ey
  exact ⟨rfl, by rw [dec_inj (f := V.int) (fun _ _ z => V.int.inj z)]; exact q⟩
theorem op_eqB : OpR X (compareOp .Eq) rEqB := opr_imp op_eq fun x y H Q ⟨i, j, ex, ey, q⟩ => by
  subst ex; subst ey
  exact ⟨rfl, by rw [dec_inj (f := V.bl) (fun _ _ z => V.bl.inj z)]; exact q⟩
theorem op_neB : OpR X (compareOp .NotEq) rNeB := opr_imp op_ne fun x y H Q ⟨i, j, ex, ey, q⟩ => by
  subst ex; subst ey
  exact ⟨rfl, by rw [dec_inj (f := V.bl) (fun _ _ z => V.bl.inj z)]; exact q⟩
theorem op_eqT : OpR X (compareOp .Eq) rEqT := opr_imp op_eq fun x y H Q ⟨i, j, ex, ey, q⟩ => by
  subst ex; subst ey
  exact ⟨rfl, by rw [dec_inj (f := V.str) (fun _ _ z => V.str.inj z)]; exact q⟩
theorem op_neT : OpR X (compareOp .NotEq) rNeT := opr_imp op_ne fun x y H Q ⟨i, j, ex, ey, q⟩ => by
  subst ex; subst ey
  exact ⟨rfl, by rw [dec_inj (f := V.str) (fun _ _ z => V.str.inj z)]; exact q⟩
theorem op_isNo : OpR X (compareOp .Is) rIsNo := op_isN
theorem op_notNo : OpR X (compareOp .IsNot) rNotNo := op_notN
end
section
variable {H : Hp} {i j : Int} {a b : Bool} {s t : Str} {d : PyData}
theorem rd_addI : RD rAddI (.int i) (.int j) H (.int (i + j)) := rd_val fun H1 v u e r1 r2 => ⟨.int (i + j), rfl, fun Q q => ⟨i, j, r1, r2, q⟩⟩
theorem rd_subI : RD rSubI (.int i) (.int j) H (.int (i - j)) := rd_val fun H1 v u e r1 r2 => ⟨.int (i - j), rfl, fun Q q => ⟨i, j, r1, r2, q⟩⟩
theorem rd_mulI (h : CMul i j) : RD rMulI (.int i) (.int j) H (.int (i * j)) := rd_val fun H1 v u e r1 r2 => ⟨.int (i * j), rfl, fun Q q => ⟨i, j, r1, r2, h, q⟩⟩
theorem rd_divI (h : CDiv i j) : RD rDivI (.int i) (.int j) H (.int (i / j)) := rd_val fun H1 v u e r1 r2 => ⟨.int (i / j), rfl, fun Q q => ⟨i, j, r1, r2, h, q⟩⟩
theorem rd_modI (h : 0 < j) : RD rModI (.int i) (.int j) H (.int (i % j)) := rd_val fun H1 v u e r1 r2 => ⟨.int (i % j), rfl, fun Q q => ⟨i, j, r1, r2, h, q⟩⟩
theorem rd_powI (h : CPow i j) : RD rPowI (.int i) (.int j) H (.int (i ^ j.toNat)) := rd_val fun H1 v u e r1 r2 => ⟨.int (i ^ j.toNat), rfl, fun Q q => ⟨i, j, r1, r2, h, q⟩⟩
theorem rd_ltI : RD rLtI (.int i) (.int j) H (.bool (decide (i < j))) := rd_val fun H1 v u e r1 r2 => ⟨.bl (decide (i < j)), rfl, fun Q q => ⟨i, j, r1, r2, q⟩⟩
theorem rd_leI : RD rLeI (.int i) (.int j) H (.bool (decide (i ≤ j))) := rd_val fun H1 v u e r1 r2 => ⟨.bl (decide (i ≤ j)), rfl, fun Q q => ⟨i, j, r1, r2, q⟩⟩
theorem rd_gtI : RD rGtI (.int i) (.int j) H (.bool (decide (j < i))) := rd_val fun H1 v u e r1 r2 => ⟨.bl (decide (j < i)), rfl, fun Q q => ⟨i, j, r1, r2, q⟩⟩
theorem rd_geI : RD rGeI (.int i) (.int j) H (.bool (decide (j ≤ i))) := rd_val fun H1 v u e r1 r2 => ⟨.bl (decide (j ≤ i)), rfl, fun Q q => ⟨i, j, r1, r2, q⟩⟩
theorem rd_eqI : RD rEqI (.int i) (.int j) H (.bool (decide (i = j))) := rd_val fun H1 v u e r1 r2 => ⟨.bl (decide (i = j)), rfl, fun Q q => ⟨i, j, r1, r2, q⟩⟩
theorem rd_neI : RD rNeI (.int i) (.int j) H (.bool (!decide (i = j))) := rd_val fun H1 v u e r1 r2 => ⟨.bl (!decide (i = j)), rfl, fun Q q => ⟨i, j, r1, r2, q⟩⟩
theorem rd_eqB : RD rEqB (.bool a) (.bool b) H (.bool (decide (a = b))) := rd_val fun H1 v u e r1 r2 => ⟨.bl (decide (a = b)), rfl, fun Q q => ⟨a, b, r1, r2, q⟩⟩
theorem rd_neB : RD rNeB (.bool a) (.bool b) H (.bool (!decide (a = b))) := rd_val fun H1 v u e r1 r2 => ⟨.bl (!decide (a = b)), rfl, fun Q q => ⟨a, b, r1, r2, q⟩⟩
theorem rd_eqT : RD rEqT (.str s) (.str t) H (.bool (decide (s = t))) := rd_val fun H1 v u e r1 r2 => ⟨.bl (decide (s = t)), rfl, fun Q q => ⟨s, t, r1, r2, q⟩⟩
theorem rd_neT : RD rNeT (.str s) (.str t) H (.bool (!decide (s = t))) := rd_val fun H1 v u e r1 r2 => ⟨.bl (!decide (s = t)), rfl, fun Q q => ⟨s, t, r1, r2, q⟩⟩
def isNo : PyData → Bool
  | .none => true
  | _ => false
theorem Rp.isNo {v : V} : ∀ {d : PyData}, Rp H d v → decide (v = .non) = isNo d
  | .none, h => by cases h; rfl
  | .bool _, h => by cases h; rfl
  | .int _, h => by cases h; rfl
  | .str _, h => by cases h; rfl
  | .list _, h => by obtain ⟨a, xs, rfl, _⟩ := h; rfl
  | .tuple _, h => by obtain ⟨a, xs, o, rfl, _⟩ := h; rfl
  | .dict _, h => h.elim
theorem rd_isNo : RD rIsNo d .none H (.bool (isNo d)) := rd_val fun H1 v u e r1 r2 => ⟨.bl (isNo d), rfl, fun Q q => ⟨r2, by rw [r1.isNo]; exact q⟩⟩
theorem rd_notNo : RD rNotNo d .none H (.bool (!isNo d)) := rd_val fun H1 v u e r1 r2 => ⟨.bl (!isNo d), rfl, fun Q q => ⟨r2, by rw [r1.isNo]; exact q⟩⟩
end

/-! ### tests, and, or, not -/
section
variable {K : PySem.W.Frag} {σ : L2.St} {H H' : Hp} {ta tb te tx : TE} {t u : TT} {d x y z : PyData} {ds : List PyData} {a b : Bool}
theorem ett (h : EvD te σ H (.bool b)) : EvT (tTest te) σ H b := fun H1 e _ q => h H1 e _ fun v H2 e2 r => ⟨b, r, q H2 e2⟩
theorem etB (h : EvD te σ H (.bool b)) : EvT (tB te) σ H b := fun H1 e _ q => h H1 e _ fun v H2 e2 r => ⟨b, r, q H2 e2⟩
theorem evd_and (h1 : EvD ta σ H (.bool a)) (h2 : a = true → EvD tb σ H (.bool b)) : EvD (tAndV ta tb) σ H (.bool (a && b)) := fun H1 e Q q => h1 H1 e _ fun v H2 e2 r => ⟨a, r, by
  cases a with
  | true => exact h2 rfl H2 (e.trans e2) Q fun w H3 e3 r3 => q w H3 (e2.trans e3) r3
  | false => exact q _ H2 e2 rfl⟩
theorem evd_or (h1 : EvD ta σ H (.bool a)) (h2 : a = false → EvD tb σ H (.bool b)) : EvD (tOrV ta tb) σ H (.bool (a || b)) := fun H1 e Q q => h1 H1 e _ fun v H2 e2 r => ⟨a, r, by
  cases a with
  | true => exact q _ H2 e2 rfl
  | false => exact h2 rfl H2 (e.trans e2) Q fun w H3 e3 r3 => q w H3 (e2.trans e3) r3⟩
theorem evd_not (h1 : EvD ta σ H (.bool a)) : EvD (tNotV ta) σ H (.bool (!a)) := fun H1 e Q q => h1 H1 e _ fun v H2 e2 r => ⟨a, r, q _ H2 e2 rfl⟩
theorem evd_chain {r r' : R2} {w : PyData} {tc : TE} (ha : EvD ta σ H x) (hb : EvD tb σ H y) (hr : RD r x y H (.bool a)) (hc : a = true → EvD tc σ H z) (hr' : a = true → RD r' y z H (.bool b)) : EvD (tChain r r' ta tb tc) σ H (.bool (a && b)) := fun H1 e Q q =>
  ha H1 e _ fun v H2 e2 r2 => hb H2 (e.trans e2) _ fun u H3 e3 r3 => hr H3 v u ((e.trans e2).trans e3) (r2.ex e3) r3 _ fun w H4 e4 r4 => ⟨a, r4, by
    cases a with
    | true => exact hc rfl H4 (((e.trans e2).trans e3).trans e4) _ fun w' H5 e5 r5 => hr' rfl H5 u w' ((((e.trans e2).trans e3).trans e4).trans e5) ((r3.ex e4).ex e5) r5 Q fun w2 H6 e6 r6 => q w2 H6 ((((e2.trans e3).trans e4).trans e5).trans e6) r6
    | false => exact q _ H4 ((e2.trans e3).trans e4) rfl⟩
/-! ### arguments, tuples, lists -/
theorem evs_nil : EvS tNil σ H [] := fun H1 _ _ q => q [] H1 (Ex.refl H1) RpA.nil
theorem evs_cons {tr : TA} (h : EvD ta σ H x) (hr : EvS tr σ H ds) : EvS (tCons ta tr) σ H (x :: ds) := fun H1 e _ q =>
  h H1 e _ fun v H2 e2 r2 => hr H2 (e.trans e2) _ fun vs H3 e3 r3 => q (v :: vs) H3 (e2.trans e3) (RpA.cons (r2.ex e3) r3)
/-- a tuple whose object bears no dict -/
def tTupF (t : TA) : TE := fun σ H Q => t σ H fun xs H1 => xs.length ≤ sizeLine ∧ ∀ p o, H1 p = Option.none → o.dict = Option.none → Q (.ref p) (upd H1 p (.frz o (.tup xs)))
theorem evd_tup {tr : TA} (h : EvS tr σ H ds) (hl : ds.length ≤ 100000) : EvD (tTupF tr) σ H (.tuple ds) := fun H1 e _ q =>
  h H1 e _ fun vs H2 e2 r2 => ⟨sz_of (by rw [r2.len]; exact hl), fun p o hp ho => q _ _ (e2.trans (Ex.new hp)) ⟨p, vs, o, rfl, upd_same, ho, r2.ex (Ex.new hp)⟩⟩
theorem evn_lst {tr : TA} (h : EvS tr σ H ds) (hl : ds.length ≤ 100000) : EvN (tLst tr) σ H ds := fun H1 e _ q =>
  h H1 e _ fun vs H2 e2 r2 => ⟨sz_of (by rw [r2.len]; exact hl), fun p hp => q p vs _ (fresh_back e2 hp) (e2.trans (Ex.new hp)) upd_same (r2.ex (Ex.new hp))⟩
/-- a def's call -/
theorem evd_call {sp : Sp} {E : XK} {tr : TA} (h : EvS tr σ H ds) (hs : ∀ H1 vs Q, Ex H H1 → RpA H1 ds vs → (∀ v H2, Ex H1 H2 → Rp H2 d v → Q v H2) → sp vs H1 Q E) : EvD (tCall sp [] E tr) σ H d := fun H1 e Q q =>
  h H1 e _ fun vs H2 e2 r2 => by
    show sp (vs ++ []) H2 Q E
    rw [List.append_nil]
    exact hs H2 vs Q (e.trans e2) r2 fun v H3 e3 r3 => q v H3 (e2.trans e3) r3
theorem evn_call {sp : Sp} {E : XK} {tr : TA} {es : List PyData} (h : EvS tr σ H ds) (hs : ∀ H1 vs Q, Ex H H1 → RpA H1 ds vs → (∀ p ws H2, H1 p = none → Ex H1 H2 → H2 p = some (.lst ws) → RpA H2 es ws → Q (.ref p) H2) → sp vs H1 Q E) : EvN (tCall sp [] E tr) σ H es := fun H1 e Q q =>
  h H1 e _ fun vs H2 e2 r2 => by
    show sp (vs ++ []) H2 Q E
    rw [List.append_nil]
    exact hs H2 vs Q (e.trans e2) r2 fun p ws H3 hp e3 h3 r3 => q p ws H3 (fresh_back e2 hp) (e2.trans e3) h3 r3
/-- a built-in's call -/
def CD (r : List V → Hp → VK → Prop) (ds : List PyData) (H : Hp) (z : PyData) : Prop := ∀ H1 vs, Ex H H1 → RpA H1 ds vs → ∀ Q : VK, (∀ w H2, Ex H1 H2 → Rp H2 z w → Q w H2) → r vs H1 Q
def CN (r : List V → Hp → VK → Prop) (ds : List PyData) (H : Hp) (zs : List PyData) : Prop := ∀ H1 vs, Ex H H1 → RpA H1 ds vs → ∀ Q : VK, (∀ p ws H2, H1 p = none → Ex H1 H2 → H2 p = some (.lst ws) → RpA H2 zs ws → Q (.ref p) H2) → r vs H1 Q
theorem evd_cb {r : List V → Hp → VK → Prop} {tr : TA} (h : EvS tr σ H ds) (hr : CD r ds H z) : EvD (tCB r tr) σ H z := fun H1 e Q q =>
  h H1 e _ fun vs H2 e2 r2 => hr H2 vs (e.trans e2) r2 Q fun w H3 e3 r3 => q w H3 (e2.trans e3) r3
theorem evn_cb {r : List V → Hp → VK → Prop} {tr : TA} {zs : List PyData} (h : EvS tr σ H ds) (hr : CN r ds H zs) : EvN (tCB r tr) σ H zs := fun H1 e Q q =>
  h H1 e _ fun vs H2 e2 r2 => hr H2 vs (e.trans e2) r2 Q fun p ws H3 hp e3 h3 r3 => q p ws H3 (fresh_back e2 hp) (e2.trans e3) h3 r3
/-- a built-in's method that changes nothing -/
def MD (K : PySem.W.Frag) (T : String) (r : V → List V → Hp → VK → Prop) (x : PyData) (ds : List PyData) (H : Hp) (z : PyData) : Prop :=
  (∀ H1 v, Ex H H1 → Rp H1 x v → tyV K T v H1) ∧ ∀ H1 v vs, Ex H H1 → Rp H1 x v → RpA H1 ds vs → ∀ Q : VK, (∀ w H2, Ex H1 H2 → Rp H2 z w → Q w H2) → r v vs H1 Q
theorem evd_bm {T : String} {r : V → List V → Hp → VK → Prop} {to : TE} {tr : TA} (ho : EvD to σ H x) (h : EvS tr σ H ds) (hr : MD K T r x ds H z) : EvD (tBM K T r to tr) σ H z := fun H1 e Q q =>
  ho H1 e _ fun v H2 e2 r2 => ⟨hr.1 H2 v (e.trans e2) r2, h H2 (e.trans e2) _ fun vs H3 e3 r3 => hr.2 H3 v vs ((e.trans e2).trans e3) (r2.ex e3) r3 Q fun w H4 e4 r4 => q w H4 ((e2.trans e3).trans e4) r4⟩
end
end Bm

/-! Tuples that are told with their object (it bears no dict): made, added, searched by index; sorted of a tuple. -/
namespace Bm
open PySem PySem.Spec PyProof.Rows L2 Evl
section
variable {X : Cx} {pins : List (Addr × Obj)} {σ : L2.St} {H : Hp} {s : Shared} {es : List Expr} {t : TA} {pos : Pos}
/-- a new tuple laid at the heap's end, told with its object -/
theorem tupNew (I : Inv X pins σ H s) {h2 : Heap} {tk : Nat} {xs : List V} {us : List Value} (kp : ∀ b o, s.heap.get? b = some o → h2.get? b = some o) (r : Vals xs us) (z : xs.length ≤ sizeLine) {Q : VK}
    (q : ∀ p o, H p = none → o.dict = none → Q (.ref p) (upd H p (.frz o (.tup xs)))) :
    EP X pins σ Q (.ref h2.objs.size) { s with heap := h2.push { cls := .type "tuple", data := .seq us.toArray }, toks := tk } := by
  have J : Inv X pins σ H { s with heap := h2, toks := tk } := I.kept (t' := tk) kp
  have fr : H h2.objs.size = none := J.hok.fresh (Nat.le_refl _)
  have at_ : (h2.push { cls := .type "tuple", data := .seq us.toArray }).get? h2.objs.size = some { cls := .type "tuple", data := .seq us.toArray } := Heap.get?_push_size _ rfl
  refine ⟨.ref h2.objs.size, upd H h2.objs.size (.frz { cls := .type "tuple", data := .seq us.toArray } (.tup xs)), ?_, rfl, q _ _ fr rfl⟩
  refine J.laid (t' := tk) (fun b o e => Heap.get?_push_of_some _ e) (Nat.le_refl _) ⟨at_, z, us, r, ⟨_, at_, rfl, _, rfl⟩⟩
theorem pe_tupF {k : Nat} (h : PA X es t) : PE X (.Tuple es k pos) (tTupF t) := by
  refine ⟨fun pins s σ H Q I hq => wpAny_Tuple_spliced (thn (h.run pos pins s σ H _ I hq) fun us s1 hh => ?_)⟩
  obtain ⟨xs, H1, I1, r, z, q⟩ := hh
  exact ⟨by rw [← r.length]; exact z, tupNew (tk := s1.toks) I1 (fun _ _ e => e) r z q⟩
end
def rTupL (K : PySem.W.Frag) : List V → Hp → VK → Prop := fun xs H Q => ∃ p ys, xs = [.ref p] ∧ SqL K H p ys ∧ ∀ l o, H l = none → o.dict = none → Q (.ref l) (upd H l (.frz o (.tup ys)))
/-- x + y of tuples -/
def rCatF (K : PySem.W.Frag) : R2 := fun x y H Q => ∃ a b xs ys, x = .ref a ∧ y = .ref b ∧ SqT K H a xs ∧ SqT K H b ys ∧ xs.length + ys.length ≤ sizeLine ∧
  (xs = [] → Q (.ref b) H) ∧ (ys = [] → Q (.ref a) H) ∧ ∀ p o, H p = none → o.dict = none → Q (.ref p) (upd H p (.frz o (.tup (xs ++ ys))))
section
variable {X : Cx}
theorem cr_tupL : CallR X (.type "tuple") (rTupL X.K) := by
  intro pins s σ H xs us Q I r h
  obtain ⟨p, ys, rfl, hq, q⟩ := h
  obtain ⟨u, rfl, ru⟩ := vals1 r
  cases ru
  obtain ⟨its, rv, pl, z⟩ := I.list hq
  exact call_tuple_list pl.isList (fun h2 kp => tupNew (tk := s.toks) I kp rv z q) (by rw [List.size_toArray, ← rv.length]; exact z)
theorem op_catF : OpR X (binaryOp .Add) (rCatF X.K) := by
  intro pins s σ H x y v u Q I rx ry h
  obtain ⟨a, b, xs, ys, rfl, rfl, ha, hb, z, q0, q1, q2⟩ := h
  cases rx
  cases ry
  obtain ⟨i1, r1, p1, _⟩ := I.tuple ha
  obtain ⟨i2, r2, p2, _⟩ := I.tuple hb
  by_cases e : xs = []
  · subst e
    cases r1
    have zc := op_catA pins s σ H (.ref a) (.ref b) (.ref a) (.ref b) Q I rfl rfl
    exact zc ⟨a, b, [], ys, rfl, rfl, ha, hb, z, q0, fun k => absurd rfl k, fun k => absurd rfl k⟩
  · exact HT.cat_tup p1 p2 (fun k => e (r1.nil_iff.mp k)) (fun k => ⟨.ref a, H, I, rfl, q1 (r2.nil_iff.mp k)⟩)
      (fun k => tupNew (tk := s.toks) I (fun _ _ q => q) (r1.append r2) (by rw [List.length_append]; exact z) q2) (by rw [← r1.length, ← r2.length]; exact z)
/-! ### t.index(x) of ints -/
theorem flat_ints (ns : List Int) : (ns.map V.int).all flatV = true := by
  rw [List.all_map]
  exact List.all_eq_true.mpr fun _ _ => rfl
def rIxI (K : PySem.W.Frag) : V → List V → Hp → VK → Prop := fun x xs H Q => ∃ (p : Addr) (ns : List Int) (z : Int) (j : Nat), x = .ref p ∧ xs = [.int z] ∧ SqT K H p (ns.map V.int) ∧ ns[j]? = some z ∧ (∀ m, m < j → ns[m]? ≠ some z) ∧ Q (.int (j : Nat)) H
theorem mt_tupIx : MtR X "tuple.index" (rIxI X.K) := by
  intro pins s σ H x xs v us Q I rx rs h
  obtain ⟨p, ns, z, j, rfl, rfl, hq, hz, hno, q⟩ := h
  cases rx
  obtain ⟨u, rfl, tk, rfl⟩ := vals1 rs
  obtain ⟨its, r, pl, _⟩ := I.tuple hq
  obtain ⟨⟨c, dd, dt, sl⟩, ho, hc, n, hd⟩ := pl
  obtain rfl : c = .type "tuple" := hc
  obtain rfl : dt = .seq its.toArray n := hd
  have hl : its.toArray.size = ns.length := by rw [List.size_toArray, ← r.length, List.length_map]
  have item : ∀ (m : Nat) (hm : m < its.toArray.size), ∃ y t2, ns[m]? = some y ∧ its.toArray[m] = Value.int y t2 := fun m hm => by
    have hm2 : m < ns.length := hl ▸ hm
    obtain ⟨w2, hw, t2, e2⟩ := r.get (i := m) (x := .int ns[m]) (by simp [hm2])
    obtain ⟨_, e3⟩ := List.getElem?_eq_some_iff.mp hw
    exact ⟨ns[m], t2, List.getElem?_eq_getElem hm2, by rw [← e2, ← e3]; simp⟩
  have hj : j < its.toArray.size := by rw [hl]; exact (List.getElem?_eq_some_iff.mp hz).1
  have eqi : ∀ (y : Int) (t2 : Tok), eqU (.int z) (Value.int y t2) = (y == z) := fun _ _ => rfl
  refine call_meets PySem.F.slot_tuple_index ⟨_, ho, rfl⟩ PySem.F.entry_tuple_index (PySem.F.args_tuple_index_2 _ _)
    (TI.tuple_indexAt p its.toArray n dd sl (.int z tk) (eqU (.int z)) j hj ?_ fun m hm hmj => ?_)
    ⟨ho, fun w2 hw => mem_eqAt (x := .int z) ⟨tk, rfl⟩ rfl r (flat_ints ns) w2 (by simpa using hw), ⟨.int (j : Nat), H, I.tok _, ⟨_, rfl⟩, q⟩⟩
  · obtain ⟨y, t2, h1, h2⟩ := item j hj
    rw [hz] at h1
    cases h1
    rw [h2, eqi]
    exact beq_self_eq_true z
  · obtain ⟨y, t2, h1, h2⟩ := item m hm
    rw [h2, eqi]
    exact beq_eq_false_iff_ne.mpr fun e => hno m hmj (by rw [h1, e])
/-- the call of a tuple's method, the tuple told with its object -/
def tTM (r : V → List V → Hp → VK → Prop) (to : TE) (t : TA) : TE := fun σ H Q => to σ H fun x H1 => (∃ a o xs, x = .ref a ∧ H1 a = some (.frz o (.tup xs)) ∧ o.dict = none) ∧ t σ H1 fun xs H2 => r x xs H2 Q
theorem pe_tm {o e : Expr} {es : List Expr} {to : TE} {t : TA} {name : Str} {apos cpos : Pos} {id : String} {r : V → List V → Hp → VK → Prop} (pa : PlainAttrs "tuple") (slot : Slot "tuple" name id)
    (hty : typeOf (.builtin id) = pure (.type "method_descriptor")) (hm : MtR X id r) (ho : PE X o to) (ha : PA X (e :: es) t) (hbase : attributeBase o name X.env (eval o X.env) = eval o X.env := by rfl)
    (hfew : ((backTo cpos (starEach (e :: es) X.env)).all (fun x => !x.1) && (backToKw cpos (keywordEach [] X.env)).all (fun x => x.1.isSome) && decide ((e :: es).length + ([] : List Keyword).length + (if ([] : List Keyword).isEmpty then 0 else 1) < 30)) = true := by rfl)
    (hline : (apos.endLine == cpos.line) = true := by rfl) (hs : starEach (e :: es) X.env = (false, eval e X.env) :: starEach es X.env := by rfl)
    (hpl : (backTo cpos (starEach es X.env)).any (·.1) = false := by rfl) : PE X (.Call (.Attribute o name apos) (e :: es) [] cpos) (tTM r to t) := by
  refine ⟨fun pins s σ H Q I h => wpAny_Call_method_late hbase hfew hline rfl (thn (ho.run pins s σ H _ I h) fun v s1 hh => ?_)⟩
  obtain ⟨x, H1, I1, r1, ⟨a, ob, xs, rfl, hf, hd⟩, q1⟩ := hh
  obtain ⟨g1, g2⟩ := I1.hok a _ hf
  obtain ⟨_, its, _, o2, g3, g4, _⟩ := g2
  cases r1
  rw [g1] at g3
  cases g3
  refine ⟨"tuple", id, pa, slot, hty, ⟨ob, g1, g4⟩, fun b e2 => ?_, ?_⟩
  · cases e2
    exact ⟨ob, g1, hd⟩
  · have hA := ha.run cpos pins s1 σ H1 _ I1 q1
    rw [hs] at hA ⊢
    refine Calls.callWith_builtin (by show (false || (backTo cpos (starEach es X.env)).any (·.1)) = false; rw [hpl] <;> rfl) (Calls.evalArgs_plain ?_)
    exact thn hA fun us s2 ⟨vs, H2, I2, r2, q2⟩ => hm pins s2 σ H2 (.ref a) vs (.ref a) us Q I2 rfl r2 q2
/-- tuple(reversed(a list)) -/
def tTupRevF (K : PySem.W.Frag) (te : TE) : TE := fun σ H Q => te σ H fun v H1 => ∃ (a : Addr) (xs : List V), v = .ref a ∧ SqL K H1 a xs ∧ ∀ p o, H1 p = none → o.dict = none → Q (.ref p) (upd H1 p (.frz o (.tup xs.reverse)))
end
end Bm

/-! Statements, owned lists, loops, comprehensions over data. -/
namespace Bm
open PySem PySem.Spec PyProof.Rows L2 Evl

/-! ### all but one object stays -/
def ExB (l : Addr) (H H' : Hp) : Prop := ∀ b o, b ≠ l → H b = some o → H' b = some o
theorem ExB.base {H0 H H' : Hp} {l : Addr} (x : ExB l H H') (n : H0 l = none) (e : Ex H0 H) : Ex H0 H' := fun b o h => x b o (ne_of_none h n) (e b o h)
theorem ExB.kt {H H' : Hp} {l : Addr} {xs : List V} (x : ExB l H H') (h : H l = some (.lst xs)) : KT H H' := fun b o ys e => x b _ (ne_of e h fun z => by cases z) e
theorem ExB.of {H H' : Hp} {l : Addr} (e : Ex H H') : ExB l H H' := fun b o _ h => e b o h
theorem ExB.trans {H H1 H2 : Hp} {l : Addr} (a : ExB l H H1) (b : ExB l H1 H2) : ExB l H H2 := fun c o n h => b c o n (a c o n h)
theorem ExB.upd {H : Hp} {l : Addr} {o : HO} : ExB l H (L2.upd H l o) := fun b u n h => by rw [upd_ne n]; exact h

/-- a list of ours, made since H0 -/
structure Own (H0 H : Hp) (l : Addr) (ds : List PyData) : Prop where
  new : H0 l = none
  ex : Ex H0 H
  has : ∃ vs, H l = some (.lst vs) ∧ RpA H ds vs
  im : immA ds = true
section
variable {H0 H H1 : Hp} {l l2 : Addr} {ds : List PyData}
theorem Own.step (o : Own H0 H l ds) (e : Ex H H1) : Own H0 H1 l ds := by
  obtain ⟨vs, h1, h2⟩ := o.has
  exact ⟨o.new, o.ex.trans e, ⟨vs, e _ _ h1, h2.ex e⟩, o.im⟩
theorem Own.lower {Hb : Hp} (o : Own H0 H l ds) (e : Ex Hb H0) : Own Hb H l ds := ⟨fresh_back e o.new, e.trans o.ex, o.has, o.im⟩
theorem Own.rp (o : Own H0 H l ds) : Rp H (.list ds) (.ref l) := by
  obtain ⟨vs, h1, h2⟩ := o.has
  exact ⟨l, vs, rfl, h1, h2⟩
/-- another list has changed -/
theorem Own.other {xs : List V} (o : Own H0 H l ds) (x : ExB l2 H H1) (ne : l ≠ l2) (n : H0 l2 = none) (h : H l2 = some (.lst xs)) : Own H0 H1 l ds := by
  obtain ⟨vs, h1, h2⟩ := o.has
  exact ⟨o.new, x.base n o.ex, ⟨vs, x _ _ ne h1, RpA.keep (x.kt h) o.im h2⟩, o.im⟩
theorem Own.len (o : Own H0 H l ds) : ∃ vs, H l = some (.lst vs) ∧ vs.length = ds.length := by
  obtain ⟨vs, h1, h2⟩ := o.has
  exact ⟨vs, h1, h2.len⟩
theorem Own.of {p : Addr} {vs : List V} (hp : H0 p = none) (e : Ex H0 H) (h : H p = some (.lst vs)) (r : RpA H ds vs) (i : immA ds = true) : Own H0 H p ds := ⟨hp, e, ⟨vs, h, r⟩, i⟩
end
theorem immA_app {ds es : List PyData} (h : immA ds = true) (h' : immA es = true) : immA (ds ++ es) = true := immA_iff.mpr fun d m => (List.mem_append.mp m).elim (immA_iff.mp h d) (immA_iff.mp h' d)
theorem immA_one {d : PyData} (h : imm d = true) : immA [d] = true := by simp [immA, h]

/-! ### statements -/
section
variable {K : PySem.W.Frag} {σ : L2.St} {H H' : Hp} {ta tb te tl : TE} {t u : TT} {d x y z : PyData} {ds es : List PyData} {D : Ends} {tu tw : TS} {g : TG}
theorem s_asgD {i : Nat} (h : EvD te σ H d) (k : ∀ v H1, Ex H H1 → Rp H1 d v → D.nx (σ.set i (some v)) H1) : tAsg te (gName i) D σ H := h H (Ex.refl H) _ fun v H1 e r => k v H1 e r
theorem s_asgI {i : Nat} {n : Int} (h : EvD te σ H (.int n)) (k : ∀ H1, Ex H H1 → D.nx (σ.set i (some (.int n))) H1) : tAsg te (gName i) D σ H := h H (Ex.refl H) _ fun v H1 e r => by
  obtain rfl : v = .int n := r
  exact k H1 e
theorem s_asgB {i : Nat} {b : Bool} (h : EvD te σ H (.bool b)) (k : ∀ H1, Ex H H1 → D.nx (σ.set i (some (.bl b))) H1) : tAsg te (gName i) D σ H := h H (Ex.refl H) _ fun v H1 e r => by
  obtain rfl : v = .bl b := r
  exact k H1 e
theorem s_asgT {i : Nat} {b : Str} (h : EvD te σ H (.str b)) (k : ∀ H1, Ex H H1 → D.nx (σ.set i (some (.str b))) H1) : tAsg te (gName i) D σ H := h H (Ex.refl H) _ fun v H1 e r => by
  obtain rfl : v = .str b := r
  exact k H1 e
theorem s_asgO {i : Nat} (h : EvN te σ H ds) (im : immA ds = true) (k : ∀ p H1, Ex H H1 → Own H H1 p ds → D.nx (σ.set i (some (.ref p))) H1) : tAsg te (gName i) D σ H :=
  h H (Ex.refl H) _ fun p vs H1 hp e h1 r => k p H1 e (Own.of hp e h1 r im)
theorem s_asgNw {i : Nat} (h : EvN te σ H ds) (k : ∀ p vs H1, H p = none → Ex H H1 → H1 p = some (.lst vs) → RpA H1 ds vs → D.nx (σ.set i (some (.ref p))) H1) : tAsg te (gName i) D σ H := h H (Ex.refl H) _ fun p vs H1 hp e h1 r => k p vs H1 hp e h1 r
theorem s_retD (h : EvD te σ H d) (k : ∀ v H1, Ex H H1 → Rp H1 d v → D.rt v H1) : tRet te D σ H := h H (Ex.refl H) _ k
theorem s_retNw (h : EvN te σ H ds) (k : ∀ p vs H1, H p = none → Ex H H1 → H1 p = some (.lst vs) → RpA H1 ds vs → D.rt (.ref p) H1) : tRet te D σ H := h H (Ex.refl H) _ k
theorem s_dropD (h : EvD te σ H d) (k : ∀ H1, Ex H H1 → D.nx σ H1) : tDrop te D σ H := h H (Ex.refl H) _ fun _ H1 e _ => k H1 e
/-- xs.append(e), xs a list of ours -/
theorem s_appO {H0 : Hp} {l : Addr} {i : Nat} (o : Own H0 H l ds) (hi : σ[i]? = some (some (.ref l))) (h : EvD te σ H d) (im : imm d = true) (hz : ds.length < 100000)
    (k : ∀ H2, ExB l H H2 → Own H0 H2 l (ds ++ [d]) → D.nx σ H2) : tDrop (tBM K "list" rAppend (tVar i) (tCons te tNil)) D σ H := by
  obtain ⟨vs, h1, h2⟩ := o.has
  refine ⟨.ref l, hi, .inl ⟨rfl, vs, SqL.of h1⟩, h H (Ex.refl H) _ fun v H1 e1 r1 => ⟨l, vs, v, rfl, rfl, e1 _ _ h1, sz_lt (by rw [h2.len]; exact hz), ?_⟩⟩
  have x : ExB l H (upd H1 l (.lst (vs ++ [v]))) := (ExB.of e1).trans ExB.upd
  refine k _ x ⟨o.new, x.base o.new o.ex, ⟨_, upd_same, ?_⟩, immA_app o.im (immA_one im)⟩
  have kt : KT H1 (upd H1 l (.lst (vs ++ [v]))) := KT.lst (e1 _ _ h1)
  exact (RpA.keep kt o.im (h2.ex e1)).snoc (Rp.keep kt im r1)
/-- xs.extend(e), e a new list -/
theorem s_extO {H0 : Hp} {l : Addr} {i : Nat} (o : Own H0 H l ds) (hi : σ[i]? = some (some (.ref l))) (h : EvN te σ H es) (im : immA es = true) (hz : ds.length + es.length ≤ 100000)
    (k : ∀ H2, ExB l H H2 → Own H0 H2 l (ds ++ es) → D.nx σ H2) : tDrop (tBM K "list" rExtend (tVar i) (tCons te tNil)) D σ H := by
  obtain ⟨vs, h1, h2⟩ := o.has
  refine ⟨.ref l, hi, .inl ⟨rfl, vs, SqL.of h1⟩, h H (Ex.refl H) _ fun p ws H1 hp e1 hw r1 => ⟨l, p, vs, ws, rfl, rfl, e1 _ _ h1, hw, sz_of (by rw [h2.len, r1.len]; exact hz), ?_⟩⟩
  have x : ExB l H (upd H1 l (.lst (vs ++ ws))) := (ExB.of e1).trans ExB.upd
  refine k _ x ⟨o.new, x.base o.new o.ex, ⟨_, upd_same, ?_⟩, immA_app o.im im⟩
  have kt : KT H1 (upd H1 l (.lst (vs ++ ws))) := KT.lst (e1 _ _ h1)
  exact (RpA.keep kt o.im (h2.ex e1)).app (RpA.keep kt im r1)

/-! ### for -/
theorem map_get {α β : Type} {f : α → β} {xs : List α} {i : Nat} {y : β} (h : (xs.map f)[i]? = some y) : ∃ x, xs[i]? = some x ∧ y = f x := by
  rw [List.getElem?_map] at h
  cases e : xs[i]? with
  | none => rw [e] at h; cases h
  | some x => rw [e] at h; cases h; exact ⟨x, rfl, rfl⟩
/-- over a list that stays -/
theorem s_forD {α : Type} {f : α → PyData} {xs : List α} (h : EvD tl σ H (.list (xs.map f)))
    (k : ∀ H1, Ex H H1 → ∃ Pv : Nat → L2.St → Hp → Prop, Pv 0 σ H1 ∧ (∀ i σ' H', Pv i σ' H' → Ex H1 H') ∧
      (∀ i x v σ' H', xs[i]? = some x → Rp H' (f x) v → Pv i σ' H' → g v σ' H' fun σ2 H2 => tu { D with nx := Pv (i + 1), ct := Pv (i + 1), bk := D.nx } σ2 H2) ∧ ∀ σ' H', Pv xs.length σ' H' → D.nx σ' H') :
    tFor (iList K tl) g tu D σ H := h H (Ex.refl H) _ fun v H1 e r => by
  obtain ⟨a, vs, e1, h1, h2⟩ := r
  obtain ⟨Pv, p0, pe, ps, pd⟩ := k H1 e
  have hl : vs.length = xs.length := by rw [h2.len, List.length_map]
  refine ⟨a, e1, ⟨vs, SqL.of h1⟩, for_list (xs := vs) Pv p0 (fun i σ' H' _ p => SqL.of (pe i σ' H' p a _ h1)) (fun i v2 σ' H' hi p => ?_) (fun σ' H' p => pd σ' H' (hl ▸ p))⟩
  obtain ⟨d2, q1, q2⟩ := h2.getv hi
  obtain ⟨x, q3, rfl⟩ := map_get q1
  exact ps i x v2 σ' H' q3 (q2.ex (pe i σ' H' p)) p
theorem s_forR {ta : TA} {n : Int} (h : EvS ta σ H [.int n]) (hn : -100000 ≤ n ∧ n ≤ 100000)
    (k : ∀ H1, Ex H H1 → ∃ Pv : Nat → L2.St → Hp → Prop, Pv 0 σ H1 ∧
      (∀ (i : Nat) σ' H', (i : Int) < n → Pv i σ' H' → g (.int (i : Int)) σ' H' fun σ2 H2 => tu { D with nx := Pv (i + 1), ct := Pv (i + 1), bk := D.nx } σ2 H2) ∧ ∀ σ' H', Pv n.toNat σ' H' → D.nx σ' H') :
    tFor (iRng1 ta) g tu D σ H := h H (Ex.refl H) _ fun vs H1 e r => by
  obtain rfl : vs = [.int n] := RpA.ints (ns := [n]) r
  obtain ⟨Pv, p0, ps, pd⟩ := k H1 e
  refine ⟨n, rfl, by omega, by omega, for_range (lo := 0) (n := n.toNat) Pv p0 (fun i σ' H' hi p => ?_) pd⟩
  rw [Int.zero_add]
  exact ps i σ' H' (by omega) p
theorem s_forR2 {ta : TA} {lo n : Int} (h : EvS ta σ H [.int lo, .int n]) (hn : -100000 ≤ lo ∧ lo ≤ 100000 ∧ -100000 ≤ n ∧ n ≤ 100000)
    (k : ∀ H1, Ex H H1 → ∃ Pv : Nat → L2.St → Hp → Prop, Pv 0 σ H1 ∧
      (∀ (i : Nat) σ' H', lo + (i : Int) < n → Pv i σ' H' → g (.int (lo + (i : Int))) σ' H' fun σ2 H2 => tu { D with nx := Pv (i + 1), ct := Pv (i + 1), bk := D.nx } σ2 H2) ∧ ∀ σ' H', Pv (n - lo).toNat σ' H' → D.nx σ' H') :
    tFor (iRng2 ta) g tu D σ H := h H (Ex.refl H) _ fun vs H1 e r => by
  obtain rfl : vs = [.int lo, .int n] := RpA.ints (ns := [lo, n]) r
  obtain ⟨Pv, p0, ps, pd⟩ := k H1 e
  exact ⟨lo, n, rfl, ⟨by omega, by omega, by omega, by omega⟩, for_range (lo := lo) (n := (n - lo).toNat) Pv p0 (fun i σ' H' hi p => ps i σ' H' (by omega) p) pd⟩

/-! ### a, b = a pair -/
theorem g_name {i : Nat} {v : V} {Q : L2.St → Hp → Prop} (q : Q (σ.set i (some v)) H) : gName i v σ H Q := q
theorem g_pair {p : Int × Int} {v : V} {i j : Nat} {Q : L2.St → Hp → Prop} (r : Rp H (pD p) v) (q : Q ((σ.set i (some (.int p.1))).set j (some (.int p.2))) H) : gTup K 2 (gCons (gName i) (gCons (gName j) gNil)) v σ H Q := by
  obtain ⟨a, o, rfl, h1, _⟩ := r.pD
  exact ⟨a, _, rfl, .inl (.inr ⟨o, h1⟩), rfl, .int p.1, [.int p.2], rfl, .int p.2, [], rfl, rfl, q⟩

/-! ### comprehensions: the items that pass, and what is made of them -/
def LcW (Hb : Hp) (Dl : Addr) (ds : List PyData) (H : Hp) : Prop := Own Hb H Dl ds
/-- over a list -/
theorem evn_lcL {α : Type} {f : α → PyData} {xs : List α} {vs : List Nat} {tt : TT} (c : α → Bool) (y : α → PyData) (h : EvD tl σ H (.list (xs.map f))) (hz : xs.length ≤ 50000)
    (turn : ∀ x v H1, x ∈ xs → Ex H H1 → Rp H1 (f x) v → ∃ σ2, (∀ Q : L2.St → Hp → Prop, Q σ2 H1 → g v (wipe σ vs) H1 Q) ∧ wipe σ2 vs = wipe σ vs ∧ EvT tt σ2 H1 (c x) ∧ (c x = true → EvD te σ2 H1 (y x)))
    (im : ∀ x ∈ xs, c x = true → imm (y x) = true) : EvN (tLc (iList K tl) g tt te vs) σ H ((xs.filter c).map y) := fun H0 e0 Q q => h H0 e0 _ fun v H1 e1 r => by
  obtain ⟨a, ws, ea, h1, h2⟩ := r
  have hl : ws.length = xs.length := by rw [h2.len, List.length_map]
  refine ⟨a, ea, ⟨ws, SqL.of h1⟩, fun Dl hD => lc_list (xs := ws) (fun i H' => Own H1 H' Dl (((xs.take i).filter c).map y)) ?_ (fun i H' _ o => SqL.of (o.ex a _ h1)) (fun i x2 H' hi o => ?_) fun H' o => ?_⟩
  · exact ⟨hD, Ex.new hD, ⟨[], upd_same, RpA.nil⟩, rfl⟩
  · obtain ⟨d2, q1, q2⟩ := h2.getv hi
    obtain ⟨x, q3, rfl⟩ := map_get q1
    have hx : x ∈ xs := List.mem_of_getElem? q3
    obtain ⟨σ2, g1, g2, g3, g4⟩ := turn x x2 H' hx ((e0.trans e1).trans o.ex) (q2.ex o.ex)
    have hlen : i < xs.length := (List.getElem?_eq_some_iff.mp q3).1
    refine g1 _ ⟨g2, g3 H' (Ex.refl H') _ fun H3 e3 => ?_⟩
    have et : xs.take (i + 1) = xs.take i ++ [x] := by rw [List.take_add_one, q3]; rfl
    have o3 := o.step e3
    cases hc : c x with
    | true =>
      rw [if_pos rfl]
      refine g4 hc H3 e3 _ fun w H4 e4 r4 => ?_
      obtain ⟨acc, k1, k2⟩ := (o3.step e4).has
      have kt : KT H4 (upd H4 Dl (.lst (acc ++ [w]))) := KT.lst k1
      have hb : acc.length ≤ i := by
        rw [k2.len, List.length_map]
        exact Nat.le_trans (List.length_filter_le _ _) (by rw [List.length_take]; omega)
      refine ⟨acc, k1, sz_lt (by omega), o.new, ?_, ⟨_, upd_same, ?_⟩, ?_⟩
      · exact Ex.mut (o3.step e4).ex o.new
      · rw [et, List.filter_append, List.filter_cons, if_pos hc, List.map_append]
        exact (RpA.keep kt o.im k2).snoc (Rp.keep kt (im x hx hc) r4)
      · rw [et, List.filter_append, List.filter_cons, if_pos hc, List.map_append]
        exact immA_app o.im (immA_one (im x hx hc))
    | false =>
      rw [if_neg Bool.false_ne_true, et, List.filter_append, List.filter_cons, if_neg (by rw [hc]; exact Bool.false_ne_true), List.filter_nil, List.append_nil]
      exact o3
  · rw [hl, List.take_length] at o
    obtain ⟨acc, k1, k2⟩ := o.has
    exact q Dl acc H' (fresh_back e1 o.new) (e1.trans o.ex) k1 k2
/-- the ints lo, lo + 1, .. -/
def rgI (lo : Int) (n : Nat) : List Int := (List.range n).map fun i : Nat => lo + (i : Int)
theorem rgI_len (lo : Int) (n : Nat) : (rgI lo n).length = n := by unfold rgI; rw [List.length_map, List.length_range]
theorem rgI_get {lo : Int} {n i : Nat} (h : i < n) : (rgI lo n)[i]? = some (lo + (i : Int)) := by
  unfold rgI
  rw [List.getElem?_map, List.getElem?_range h]
  rfl
theorem mem_rgI {lo : Int} {n : Nat} {x : Int} : x ∈ rgI lo n ↔ lo ≤ x ∧ x < lo + (n : Int) := by
  unfold rgI
  constructor
  · intro h
    obtain ⟨i, hi, rfl⟩ := List.mem_map.mp h
    rw [List.mem_range] at hi
    omega
  · intro h
    exact List.mem_map.mpr ⟨(x - lo).toNat, List.mem_range.mpr (by omega), by omega⟩
theorem rgI_snoc (lo : Int) (n : Nat) : rgI lo (n + 1) = rgI lo n ++ [lo + (n : Int)] := by
  unfold rgI
  rw [List.range_succ, List.map_append]
  rfl
/-- a comprehension's turns over ints -/
theorem lcR_core {vs : List Nat} {tt : TT} {lo : Int} {n : Nat} {H0 H1 : Hp} {Dl : Addr} {Qd : Hp → Prop} (c : Int → Bool) (y : Int → PyData) (hz : n ≤ 50000) (e : Ex H H1) (hD : H1 Dl = none)
    (turn : ∀ x H1, lo ≤ x → x < lo + (n : Int) → Ex H H1 → ∃ σ2, (∀ Q : L2.St → Hp → Prop, Q σ2 H1 → g (.int x) (wipe σ vs) H1 Q) ∧ wipe σ2 vs = wipe σ vs ∧ EvT tt σ2 H1 (c x) ∧ (c x = true → EvD te σ2 H1 (y x)))
    (im : ∀ x, lo ≤ x → x < lo + (n : Int) → c x = true → imm (y x) = true) (q : ∀ H', Own H1 H' Dl (((rgI lo n).filter c).map y) → Qd H') :
    ∃ W : Nat → Nat → Hp → Prop, (∃ m, W 0 m (upd H1 Dl (.lst []))) ∧ ∀ i m H, W i m H →
      ((Itr lo n).stop i H ∧ Qd H) ∨ ((Itr lo n).go i H ∧ ∃ Nx : Hp → Prop, (∀ H', Nx H' → ∃ m', m' < m ∧ W (i + 1) m' H') ∧ ∀ x H', (Itr lo n).yld i H x H' → g x (wipe σ vs) H' fun σ2 H2 => wipe σ2 vs = wipe σ vs ∧ tt σ2 H2 fun b H3 =>
        if b = true then te σ2 H3 fun y H4 => ∃ acc, H4 Dl = some (.lst acc) ∧ acc.length < sizeLine ∧ Nx (upd H4 Dl (.lst (acc ++ [y]))) else Nx H3) := by
  refine lc_range (lo := lo) (n := n) (fun i H' => Own H1 H' Dl (((rgI lo i).filter c).map y)) ⟨hD, Ex.new hD, ⟨[], upd_same, RpA.nil⟩, rfl⟩ (fun i H' hi o => ?_) fun H' o => q H' o
  obtain ⟨σ2, g1, g2, g3, g4⟩ := turn (lo + (i : Int)) H' (by omega) (by omega) (e.trans o.ex)
  refine g1 _ ⟨g2, g3 H' (Ex.refl H') _ fun H3 e3 => ?_⟩
  have o3 := o.step e3
  cases hc : c (lo + (i : Int)) with
  | true =>
    rw [if_pos rfl]
    refine g4 hc H3 e3 _ fun w H4 e4 r4 => ?_
    obtain ⟨acc, k1, k2⟩ := (o3.step e4).has
    have kt : KT H4 (upd H4 Dl (.lst (acc ++ [w]))) := KT.lst k1
    have i1 := im (lo + (i : Int)) (by omega) (by omega) hc
    have hb : acc.length ≤ i := by
      rw [k2.len, List.length_map]
      exact Nat.le_trans (List.length_filter_le _ _) (by rw [rgI_len]; omega)
    refine ⟨acc, k1, sz_lt (by omega), o.new, Ex.mut (o3.step e4).ex o.new, ⟨_, upd_same, ?_⟩, ?_⟩
    · rw [rgI_snoc, List.filter_append, List.filter_cons, if_pos hc, List.map_append]
      exact (RpA.keep kt o.im k2).snoc (Rp.keep kt i1 r4)
    · rw [rgI_snoc, List.filter_append, List.filter_cons, if_pos hc, List.map_append]
      exact immA_app o.im (immA_one i1)
  | false =>
    rw [if_neg Bool.false_ne_true, rgI_snoc, List.filter_append, List.filter_cons, if_neg (by rw [hc]; exact Bool.false_ne_true), List.filter_nil, List.append_nil]
    exact o3
/-- over range(n) -/
theorem evn_lcR {vs : List Nat} {tt : TT} {ta : TA} {n : Int} (c : Int → Bool) (y : Int → PyData) (h : EvS ta σ H [.int n]) (hz : -50000 ≤ n ∧ n ≤ 50000)
    (turn : ∀ x H1, 0 ≤ x → x < n → Ex H H1 → ∃ σ2, (∀ Q : L2.St → Hp → Prop, Q σ2 H1 → g (.int x) (wipe σ vs) H1 Q) ∧ wipe σ2 vs = wipe σ vs ∧ EvT tt σ2 H1 (c x) ∧ (c x = true → EvD te σ2 H1 (y x)))
    (im : ∀ x, 0 ≤ x → x < n → c x = true → imm (y x) = true) : EvN (tLc (iRng1 ta) g tt te vs) σ H (((rgI 0 n.toNat).filter c).map y) := fun H0 e0 Q q => h H0 e0 _ fun ws H1 e1 r => by
  obtain rfl : ws = [.int n] := RpA.ints (ns := [n]) r
  refine ⟨n, rfl, by omega, by omega, fun Dl hD => lcR_core (H := H) (H0 := H0) c y (by omega) (e0.trans e1) hD (fun x H2 l1 l2 e2 => turn x H2 l1 (by omega) e2) (fun x l1 l2 => im x l1 (by omega)) fun H' o => ?_⟩
  obtain ⟨acc, k1, k2⟩ := o.has
  exact q Dl acc H' (fresh_back e1 o.new) (e1.trans o.ex) k1 k2
/-- over range(lo, n) -/
theorem evn_lcR2 {vs : List Nat} {tt : TT} {ta : TA} {lo n : Int} (c : Int → Bool) (y : Int → PyData) (h : EvS ta σ H [.int lo, .int n]) (hz : -20000 ≤ lo ∧ lo ≤ 20000 ∧ -20000 ≤ n ∧ n ≤ 20000)
    (turn : ∀ x H1, lo ≤ x → x < n → Ex H H1 → ∃ σ2, (∀ Q : L2.St → Hp → Prop, Q σ2 H1 → g (.int x) (wipe σ vs) H1 Q) ∧ wipe σ2 vs = wipe σ vs ∧ EvT tt σ2 H1 (c x) ∧ (c x = true → EvD te σ2 H1 (y x)))
    (im : ∀ x, lo ≤ x → x < n → c x = true → imm (y x) = true) : EvN (tLc (iRng2 ta) g tt te vs) σ H (((rgI lo (n - lo).toNat).filter c).map y) := fun H0 e0 Q q => h H0 e0 _ fun ws H1 e1 r => by
  obtain rfl : ws = [.int lo, .int n] := RpA.ints (ns := [lo, n]) r
  refine ⟨lo, n, rfl, ⟨by omega, by omega, by omega, by omega⟩, fun Dl hD => lcR_core (H := H) (H0 := H0) c y (by omega) (e0.trans e1) hD (fun x H2 l1 l2 e2 => turn x H2 l1 (by omega) e2) (fun x l1 l2 => im x l1 (by omega)) fun H' o => ?_⟩
  obtain ⟨acc, k1, k2⟩ := o.has
  exact q Dl acc H' (fresh_back e1 o.new) (e1.trans o.ex) k1 k2
theorem et_yes : EvT tYes σ H true := fun H1 _ _ q => q H1 (Ex.refl H1)
end
end Bm

/-! Sequences as data: equality, in, len, items, slices, index, isinstance, list(..), tuple(..), int(..), +. -/
namespace Bm
open PySem PySem.Spec PyProof.Rows L2 Evl

/-! ### equality of data without bools -/
mutual
def pure1 : PyData → Bool
  | .int _ => true
  | .str _ => true
  | .none => true
  | .tuple ds => pureA ds
  | .list ds => pureA ds
  | _ => false
def pureA : List PyData → Bool
  | [] => true
  | d :: ds => pure1 d && pureA ds
end
mutual
theorem eqv_pure : ∀ (d e : PyData), pure1 d = true → pure1 e = true → (PyData.eqv d e = true ↔ d = e)
  | .int i, e, _, h => by cases e <;> simp_all [PyData.eqv, pure1]
  | .str i, e, _, h => by cases e <;> simp_all [PyData.eqv, pure1]
  | .none, e, _, h => by cases e <;> simp_all [PyData.eqv, pure1]
  | .tuple ds, e, h', h => by
    cases e with
    | tuple es => rw [PyData.eqv, eqvA_pure ds es (by simpa [pure1] using h') (by simpa [pure1] using h)]; simp
    | _ => simp [PyData.eqv]
  | .list ds, e, h', h => by
    cases e with
    | list es => rw [PyData.eqv, eqvA_pure ds es (by simpa [pure1] using h') (by simpa [pure1] using h)]; simp
    | _ => simp [PyData.eqv]
  | .bool _, _, h, _ => by simp [pure1] at h
  | .dict _, _, h, _ => by simp [pure1] at h
theorem eqvA_pure : ∀ (ds es : List PyData), pureA ds = true → pureA es = true → (PyData.eqvAll ds es = true ↔ ds = es)
  | [], [], _, _ => by simp [PyData.eqvAll]
  | [], _ :: _, _, _ => by simp [PyData.eqvAll]
  | _ :: _, [], _, _ => by simp [PyData.eqvAll]
  | d :: ds, e :: es, h, h' => by
    rw [pureA, Bool.and_eq_true] at h h'
    rw [PyData.eqvAll, Bool.and_eq_true, eqv_pure d e h.1 h'.1, eqvA_pure ds es h.2 h'.2, List.cons.injEq]
end
theorem pureA_iff : ∀ {ds : List PyData}, pureA ds = true ↔ ∀ d ∈ ds, pure1 d = true
  | [] => by simp [pureA]
  | d :: ds => by rw [pureA, Bool.and_eq_true, pureA_iff (ds := ds), List.forall_mem_cons]
theorem canLayA : ∀ {ds : List PyData}, (∀ d ∈ ds, d.canLay0 = true) → PyData.canLayAll0 ds = true
  | [], _ => by rw [PyData.canLayAll0]
  | d :: ds, h => by
    rw [PyData.canLayAll0, Bool.and_eq_true]
    exact ⟨h d List.mem_cons_self, canLayA fun x m => h x (List.mem_cons_of_mem _ m)⟩
theorem depthA : ∀ {ds : List PyData} {n : Nat}, (∀ d ∈ ds, d.depth ≤ n) → PyData.depthAll ds ≤ n
  | [], n, _ => by rw [PyData.depthAll]; exact Nat.zero_le _
  | d :: ds, n, h => by
    rw [PyData.depthAll]
    exact Nat.max_le.mpr ⟨h d List.mem_cons_self, depthA fun x m => h x (List.mem_cons_of_mem _ m)⟩
/-- data that may be compared: its depth at most n, no bool in it -/
structure Cmp (n : Nat) (d : PyData) : Prop where
  p : pure1 d = true
  l : d.canLay0 = true
  d : d.depth ≤ n
theorem Cmp.int (i : Int) : Cmp 0 (.int i) := ⟨rfl, by rw [PyData.canLay0], by rw [PyData.depth]; exact Nat.le_refl _⟩
theorem Cmp.non : Cmp 0 .none := ⟨rfl, by rw [PyData.canLay0], by rw [PyData.depth]; exact Nat.le_refl _⟩
theorem Cmp.mono {n m : Nat} {d : PyData} (h : Cmp n d) (e : n ≤ m) : Cmp m d := ⟨h.p, h.l, Nat.le_trans h.d e⟩
theorem Cmp.tup {n : Nat} {ds : List PyData} (h : ∀ d ∈ ds, Cmp n d) : Cmp (n + 1) (.tuple ds) :=
  ⟨pureA_iff.mpr fun d m => (h d m).p, by rw [PyData.canLay0]; exact canLayA fun d m => (h d m).l, by rw [PyData.depth]; exact Nat.succ_le_succ (depthA fun d m => (h d m).d)⟩
theorem Cmp.lst {n : Nat} {ds : List PyData} (h : ∀ d ∈ ds, Cmp n d) : Cmp (n + 1) (.list ds) :=
  ⟨pureA_iff.mpr fun d m => (h d m).p, by rw [PyData.canLay0]; exact canLayA fun d m => (h d m).l, by rw [PyData.depth]; exact Nat.succ_le_succ (depthA fun d m => (h d m).d)⟩
theorem mem_map_of {α : Type} {f : α → PyData} {P : PyData → Prop} {xs : List α} (h : ∀ x ∈ xs, P (f x)) : ∀ d ∈ xs.map f, P d := fun d m => by
  obtain ⟨x, hx, rfl⟩ := List.mem_map.mp m
  exact h x hx
theorem cmp_iD (ns : List Int) : Cmp 1 (iD ns) := Cmp.tup (mem_map_of fun i _ => Cmp.int i)
theorem cmp_iL (ns : List Int) : Cmp 1 (iL ns) := Cmp.lst (mem_map_of fun i _ => Cmp.int i)
theorem cmp_pD (p : Int × Int) : Cmp 1 (pD p) := cmp_iD [p.1, p.2]
theorem cmp_vD (vs : List (List Int)) : Cmp 2 (vD vs) := Cmp.lst (mem_map_of fun i _ => cmp_iD i)
theorem cmp_wD (vs : List (Int × Int)) : Cmp 2 (wD vs) := Cmp.lst (mem_map_of fun i _ => cmp_pD i)
theorem Cmp.shaped {n : Nat} {d : PyData} (h : Cmp n d) (hn : n ≤ 64) : SeqAt.shaped d = true := by
  show (d.canLay0 && decide (d.depth ≤ 64)) = true
  rw [h.l, decide_eq_true (Nat.le_trans h.d hn)]
  rfl
theorem eqv_dec {d e : PyData} {P : Prop} [Decidable P] {n m : Nat} (h : Cmp n d) (h' : Cmp m e) (i : d = e ↔ P) : PyData.eqv d e = decide P := by
  have q := (eqv_pure d e h.p h'.p).trans i
  by_cases p : P
  · rw [decide_eq_true p, q.mpr p]
  · rw [decide_eq_false p]
    exact Bool.eq_false_iff.mpr fun z => p (q.mp z)
theorem int_inj : ∀ {i j : Int}, PyData.int i = PyData.int j → i = j := fun h => PyData.int.inj h
theorem map_inj {α : Type} {f : α → PyData} (h : ∀ x y, f x = f y → x = y) : ∀ {xs ys : List α}, xs.map f = ys.map f → xs = ys
  | [], [], _ => rfl
  | [], _ :: _, e => by cases e
  | _ :: _, [], e => by cases e
  | x :: xs, y :: ys, e => by
    rw [List.map_cons, List.map_cons, List.cons.injEq] at e
    rw [h x y e.1, map_inj h e.2]
theorem iD_inj {a b : List Int} (h : iD a = iD b) : a = b := map_inj (fun _ _ => int_inj) (PyData.tuple.inj h)
theorem iL_inj {a b : List Int} (h : iL a = iL b) : a = b := map_inj (fun _ _ => int_inj) (PyData.list.inj h)
theorem pD_inj {a b : Int × Int} (h : pD a = pD b) : a = b := by
  have e := iD_inj (a := [a.1, a.2]) (b := [b.1, b.2]) h
  cases a; cases b
  simp at e
  rw [e.1, e.2]
theorem vD_inj {a b : List (List Int)} (h : vD a = vD b) : a = b := map_inj (fun _ _ => iD_inj) (PyData.list.inj h)
theorem wD_inj {a b : List (Int × Int)} (h : wD a = wD b) : a = b := map_inj (fun _ _ => pD_inj) (PyData.list.inj h)

section
variable {K : PySem.W.Frag} {σ : L2.St} {H H' : Hp} {ta tb te tl : TE} {d e x y z : PyData} {ds es : List PyData} {P : Prop} [Decidable P] {n m : Nat}
theorem rd_eqD (h : Cmp n d) (h' : Cmp m e) (i : d = e ↔ P) (hn : n ≤ 64 := by decide) (hm : m ≤ 64 := by decide) : RD (rEqD K) d e H (.bool (decide P)) := rd_val fun H1 v u ex r1 r2 =>
  ⟨.bl (decide P), rfl, fun Q q => ⟨d, e, r1.dp, r2.dp, h.shaped hn, h'.shaped hm, by rw [eqv_dec h h' i]; exact q⟩⟩
theorem rd_neD (h : Cmp n d) (h' : Cmp m e) (i : d = e ↔ P) (hn : n ≤ 64 := by decide) (hm : m ≤ 64 := by decide) : RD (rNeD K) d e H (.bool (!decide P)) := rd_val fun H1 v u ex r1 r2 =>
  ⟨.bl (!decide P), rfl, fun Q q => ⟨d, e, r1.dp, r2.dp, h.shaped hn, h'.shaped hm, by rw [eqv_dec h h' i]; exact q⟩⟩
theorem rd_eqV {a b : List (List Int)} : RD (rEqD K) (vD a) (vD b) H (.bool (decide (a = b))) := rd_eqD (cmp_vD a) (cmp_vD b) ⟨vD_inj, fun e => by rw [e]⟩
theorem rd_neV {a b : List (List Int)} : RD (rNeD K) (vD a) (vD b) H (.bool (!decide (a = b))) := rd_neD (cmp_vD a) (cmp_vD b) ⟨vD_inj, fun e => by rw [e]⟩
theorem rd_eqW {a b : List (Int × Int)} : RD (rEqD K) (wD a) (wD b) H (.bool (decide (a = b))) := rd_eqD (cmp_wD a) (cmp_wD b) ⟨wD_inj, fun e => by rw [e]⟩
theorem rd_neW {a b : List (Int × Int)} : RD (rNeD K) (wD a) (wD b) H (.bool (!decide (a = b))) := rd_neD (cmp_wD a) (cmp_wD b) ⟨wD_inj, fun e => by rw [e]⟩
theorem rd_eqIL {a b : List Int} : RD (rEqD K) (iL a) (iL b) H (.bool (decide (a = b))) := rd_eqD (cmp_iL a) (cmp_iL b) ⟨iL_inj, fun e => by rw [e]⟩
theorem rd_neIL {a b : List Int} : RD (rNeD K) (iL a) (iL b) H (.bool (!decide (a = b))) := rd_neD (cmp_iL a) (cmp_iL b) ⟨iL_inj, fun e => by rw [e]⟩
theorem rd_eqID {a b : List Int} : RD (rEqD K) (iD a) (iD b) H (.bool (decide (a = b))) := rd_eqD (cmp_iD a) (cmp_iD b) ⟨iD_inj, fun e => by rw [e]⟩
theorem rd_neID {a b : List Int} : RD (rNeD K) (iD a) (iD b) H (.bool (!decide (a = b))) := rd_neD (cmp_iD a) (cmp_iD b) ⟨iD_inj, fun e => by rw [e]⟩

/-! ### in -/
theorem inV_ints (k : Int) : ∀ ns : List Int, inV (.int k) (ns.map V.int) = decide (k ∈ ns)
  | [] => rfl
  | n :: ns => by
    have ih := inV_ints k ns
    show (eqV (.int n) (.int k) || inV (.int k) (ns.map V.int)) = _
    rw [ih, show eqV (.int n) (.int k) = (n == k) from rfl]
    by_cases h : n = k
    · subst h; simp
    · have h2 : ¬ k = n := fun z => h z.symm
      simp [h, h2]
def rInF (K : PySem.W.Frag) : R2 := rIn K false
def rNiF (K : PySem.W.Frag) : R2 := rIn K true
theorem op_inF {X : Cx} : OpR X (compareOp .In) (rInF X.K) := op_in_seq
theorem op_niF {X : Cx} : OpR X (compareOp .NotIn) (rNiF X.K) := op_notIn_seq
theorem rd_inIL {k : Int} {ns : List Int} : RD (rInF K) (.int k) (iL ns) H (.bool (decide (k ∈ ns))) := rd_val fun H1 v u ex r1 r2 => by
  obtain rfl : v = .int k := r1
  obtain ⟨a, rfl, h⟩ := r2.iL
  exact ⟨.bl (decide (k ∈ ns)), rfl, fun Q q => ⟨a, _, rfl, .inl (SqL.of h), rfl, flat_ints ns, by rw [if_neg (by decide), inV_ints]; exact q⟩⟩
theorem rd_niIL {k : Int} {ns : List Int} : RD (rNiF K) (.int k) (iL ns) H (.bool (!decide (k ∈ ns))) := rd_val fun H1 v u ex r1 r2 => by
  obtain rfl : v = .int k := r1
  obtain ⟨a, rfl, h⟩ := r2.iL
  exact ⟨.bl (!decide (k ∈ ns)), rfl, fun Q q => ⟨a, _, rfl, .inl (SqL.of h), rfl, flat_ints ns, by rw [if_pos rfl, inV_ints]; exact q⟩⟩
theorem rd_inID {k : Int} {ns : List Int} : RD (rInF K) (.int k) (iD ns) H (.bool (decide (k ∈ ns))) := rd_val fun H1 v u ex r1 r2 => by
  obtain rfl : v = .int k := r1
  obtain ⟨a, o, rfl, h, _⟩ := r2.iD
  exact ⟨.bl (decide (k ∈ ns)), rfl, fun Q q => ⟨a, _, rfl, .inr (.inl (.inr ⟨o, h⟩)), rfl, flat_ints ns, by rw [if_neg (by decide), inV_ints]; exact q⟩⟩
theorem rd_niID {k : Int} {ns : List Int} : RD (rNiF K) (.int k) (iD ns) H (.bool (!decide (k ∈ ns))) := rd_val fun H1 v u ex r1 r2 => by
  obtain rfl : v = .int k := r1
  obtain ⟨a, o, rfl, h, _⟩ := r2.iD
  exact ⟨.bl (!decide (k ∈ ns)), rfl, fun Q q => ⟨a, _, rfl, .inr (.inl (.inr ⟨o, h⟩)), rfl, flat_ints ns, by rw [if_pos rfl, inV_ints]; exact q⟩⟩
theorem any_eqv {α : Type} [DecidableEq α] {f : α → PyData} {k : Nat} (hc : ∀ a, Cmp k (f a)) (hi : ∀ a b, f a = f b → a = b) (x : α) : ∀ xs : List α, (xs.map f).any (fun z => PyData.eqv z (f x)) = decide (x ∈ xs)
  | [] => rfl
  | a :: xs => by
    rw [List.map_cons, List.any_cons, any_eqv hc hi x xs, eqv_dec (P := a = x) (hc a) (hc x) ⟨hi a x, fun e => by rw [e]⟩]
    by_cases h : a = x
    · subst h; simp
    · have h2 : ¬ x = a := fun z => h z.symm
      simp [h, h2]
/-- a pair in a web -/
theorem rd_inW {p : Int × Int} {ps : List (Int × Int)} : RD (rInD K) (pD p) (wD ps) H (.bool (decide (p ∈ ps))) := rd_val fun H1 v u ex r1 r2 =>
  ⟨.bl (decide (p ∈ ps)), rfl, fun Q q => ⟨pD p, ps.map pD, r1.dp, r2.dp, (cmp_pD p).shaped (by decide), (cmp_wD ps).shaped (by decide), by rw [show ((ps.map pD).any fun z => PyData.eqv z (pD p)) = decide (p ∈ ps) from (any_eqv cmp_pD (fun a b => pD_inj) p ps).trans (decide_eq_decide.mpr Iff.rfl)]; exact q⟩⟩

/-! ### len, items, slices -/
theorem cr_len {X : Cx} : CallR X (.builtin "len") (rLenS X.K) := call_len_seq
theorem cd_lenL : CD (rLenS K) [.list ds] H (.int ds.length) := fun H1 vs e r Q q => by
  obtain ⟨v, w, rfl, ⟨a, xs, rfl, h1, h2⟩, rfl⟩ := r
  exact ⟨a, xs, rfl, .inl (SqL.of h1), by rw [h2.len]; exact q _ H1 (Ex.refl H1) rfl⟩
theorem cd_lenT : CD (rLenS K) [.tuple ds] H (.int ds.length) := fun H1 vs e r Q q => by
  obtain ⟨v, w, rfl, ⟨a, xs, o, rfl, h1, _, h2⟩, rfl⟩ := r
  exact ⟨a, xs, rfl, .inr (.inl (.inr ⟨o, h1⟩)), by rw [h2.len]; exact q _ H1 (Ex.refl H1) rfl⟩
theorem atI_rp {vs : List V} {i : Int} (r : RpA H ds vs) (h : atI ds i = some d) : ∃ v, atI vs i = some v ∧ Rp H d v := by
  unfold atI at h ⊢
  rw [r.len]
  cases e : ixN ds.length i with
  | none => rw [e] at h; cases h
  | some j =>
    rw [e] at h
    exact r.get h
theorem atI_map {α β : Type} {f : α → β} {xs : List α} {i : Int} {x : α} (h : atI xs i = some x) : atI (xs.map f) i = some (f x) := by
  unfold atI at h ⊢
  rw [List.length_map]
  cases e : ixN xs.length i with
  | none => rw [e] at h; cases h
  | some j =>
    rw [e] at h
    show (xs.map f)[j]? = _
    have h2 : xs[j]? = some x := h
    rw [List.getElem?_map, h2]
    rfl
theorem rd_ixL {i : Int} (h : atI ds i = some d) : RD (rIxL K) (.list ds) (.int i) H d := rd_val fun H1 v u ex r1 r2 => by
  obtain rfl : u = .int i := r2
  obtain ⟨a, xs, rfl, h1, h2⟩ := r1
  obtain ⟨w, q1, q2⟩ := atI_rp h2 h
  exact ⟨w, q2, fun Q q => ⟨a, xs, i, w, rfl, rfl, SqL.of h1, q1, q⟩⟩
theorem rd_ixT {i : Int} (h : atI ds i = some d) : RD (rIxT K) (.tuple ds) (.int i) H d := rd_val fun H1 v u ex r1 r2 => by
  obtain rfl : u = .int i := r2
  obtain ⟨a, xs, o, rfl, h1, _, h2⟩ := r1
  obtain ⟨w, q1, q2⟩ := atI_rp h2 h
  exact ⟨w, q2, fun Q q => ⟨a, xs, i, w, rfl, rfl, .inl (.inr ⟨o, h1⟩), q1, q⟩⟩
/-- a part of a list -/
def cutA {α : Type} (xs : List α) (lo hi : Option Int) : List α := (xs.drop (HT.sIx xs.length 0 lo)).take (HT.sIx xs.length xs.length hi - HT.sIx xs.length 0 lo)
theorem cutA_rp {vs : List V} (r : RpA H ds vs) (lo hi : Option Int) : RpA H (cutA ds lo hi) (cutV vs lo hi) := by
  unfold cutA cutV
  rw [r.len]
  exact (r.drop _).take _
theorem cutA_map {α β : Type} (f : α → β) (xs : List α) (lo hi : Option Int) : cutA (xs.map f) lo hi = (cutA xs lo hi).map f := by
  unfold cutA
  rw [List.length_map, List.map_take, List.map_drop]
theorem cutA_to {α : Type} (xs : List α) (k : Nat) : cutA xs none (some (k : Int)) = xs.take k := by
  unfold cutA
  rw [HT.sIx_none, HT.sIx_nat, List.drop_zero, Nat.sub_zero]
  by_cases h : k ≤ xs.length
  · rw [Nat.min_eq_left h]
  · rw [Nat.min_eq_right (by omega), List.take_length, List.take_of_length_le (by omega)]
theorem cutA_from {α : Type} (xs : List α) (k : Nat) : cutA xs (some (k : Int)) none = xs.drop k := by
  unfold cutA
  rw [HT.sIx_none, HT.sIx_nat]
  by_cases h : k ≤ xs.length
  · rw [Nat.min_eq_left h, List.take_of_length_le (by rw [List.length_drop]; omega)]
  · rw [Nat.min_eq_right (by omega), List.drop_of_length_le (Nat.le_refl _), List.drop_of_length_le (by omega), List.take_nil]
def EvP (to : TO) (σ : L2.St) (H : Hp) (o : Option Int) : Prop := ∀ H1, Ex H H1 → ∀ Q : Option Int → Hp → Prop, (∀ H2, Ex H1 H2 → Q o H2) → to σ H1 Q
theorem evp_none : EvP tNoPart σ H none := fun H1 _ _ q => q H1 (Ex.refl H1)
theorem evp_some {i : Int} (h : EvD te σ H (.int i)) : EvP (tPart te) σ H (some i) := fun H1 e _ q => h H1 e _ fun v H2 e2 r => ⟨i, r, q H2 e2⟩
theorem evn_slL {tl th : TO} {lo hi : Option Int} (h : EvD te σ H (.list ds)) (h1 : EvP tl σ H lo) (h2 : EvP th σ H hi) : EvN (tSl (rSlL K) te tl th) σ H (cutA ds lo hi) := fun H0 e Q q =>
  h H0 e _ fun v H2 e2 r => h1 H2 (e.trans e2) _ fun H3 e3 => h2 H3 ((e.trans e2).trans e3) _ fun H4 e4 => by
    obtain ⟨a, xs, rfl, k1, k2⟩ := r
    have e24 := e3.trans e4
    exact ⟨a, xs, rfl, SqL.of (e24 _ _ k1), fun p hp => q p _ _ (fresh_back (e2.trans e24) hp) ((e2.trans e24).trans (Ex.new hp)) upd_same ((cutA_rp (k2.ex e24) lo hi).ex (Ex.new hp))⟩
/-! ### + and * of lists, + of tuples -/
theorem evn_cat (ha : EvD ta σ H (.list ds)) (hb : EvD tb σ H (.list es)) (hz : ds.length + es.length ≤ 100000) : EvN (tOp rCat ta tb) σ H (ds ++ es) := fun H0 e Q q =>
  ha H0 e _ fun v H2 e2 r2 => hb H2 (e.trans e2) _ fun u H3 e3 r3 => by
    obtain ⟨a, xs, rfl, k1, k2⟩ := r2.ex e3
    obtain ⟨b, ys, rfl, k3, k4⟩ := r3
    exact ⟨a, b, xs, ys, rfl, rfl, k1, k3, sz_of (by rw [k2.len, k4.len]; exact hz), fun p hp => q p _ _ (fresh_back (e2.trans e3) hp) ((e2.trans e3).trans (Ex.new hp)) upd_same ((k2.app k4).ex (Ex.new hp))⟩
theorem evn_rep {k : Int} (ha : EvD ta σ H (.list ds)) (hb : EvD tb σ H (.int k)) (hk : 0 ≤ k ∧ k ≤ 1000) (hz : ds.length ≤ 1000) : EvN (tOp rRep ta tb) σ H (List.replicate k.toNat ds).flatten := fun H0 e Q q =>
  ha H0 e _ fun v H2 e2 r2 => hb H2 (e.trans e2) _ fun u H3 e3 r3 => by
    obtain rfl : u = .int k := r3
    obtain ⟨a, xs, rfl, k1, k2⟩ := r2.ex e3
    have hm : xs.length * k.toNat ≤ 1000 * 1000 := Nat.mul_le_mul (by rw [k2.len]; exact hz) (by omega)
    refine ⟨a, k, xs, rfl, rfl, k1, by omega, by omega, Nat.le_trans hm (by decide), fun p hp => ?_⟩
    exact q p _ _ (fresh_back (e2.trans e3) hp) ((e2.trans e3).trans (Ex.new hp)) upd_same ((k2.rep k.toNat).ex (Ex.new hp))
theorem evd_catT (ha : EvD ta σ H (.tuple ds)) (hb : EvD tb σ H (.tuple es)) (hz : ds.length + es.length ≤ 100000) : EvD (tOp (rCatF K) ta tb) σ H (.tuple (ds ++ es)) := fun H0 e Q q =>
  ha H0 e _ fun v H2 e2 r2 => hb H2 (e.trans e2) _ fun u H3 e3 r3 => by
    obtain ⟨a, xs, rfl, k1, k2⟩ := (r2.ex e3).seqT (K := K)
    obtain ⟨b, ys, rfl, k3, k4⟩ := r3.seqT (K := K)
    refine ⟨a, b, xs, ys, rfl, rfl, k1, k3, sz_of (by rw [k2.len, k4.len]; exact hz), fun z => ?_, fun z => ?_, fun p o hp ho => ?_⟩
    · have hd : ds = [] := List.eq_nil_of_length_eq_zero (by rw [← k2.len, z]; rfl)
      refine q _ H3 (e2.trans e3) ?_
      rw [hd]
      exact r3
    · have hd : es = [] := List.eq_nil_of_length_eq_zero (by rw [← k4.len, z]; rfl)
      refine q _ H3 (e2.trans e3) ?_
      rw [hd, List.append_nil]
      exact r2.ex e3
    · exact q _ _ ((e2.trans e3).trans (Ex.new hp)) ⟨p, _, o, rfl, upd_same, ho, (k2.app k4).ex (Ex.new hp)⟩
/-! ### list(..), tuple(..) -/
theorem cr_list {X : Cx} : CallR X (.type "list") (rListS X.K) := call_list_of
theorem cn_listL : CN (rListS K) [.list ds] H ds := fun H1 vs e r Q q => by
  obtain ⟨v, w, rfl, ⟨a, xs, rfl, h1, h2⟩, rfl⟩ := r
  exact ⟨a, xs, rfl, .inl (SqL.of h1), fun l hl => q l xs _ hl (Ex.new hl) upd_same (h2.ex (Ex.new hl))⟩
theorem cn_listT : CN (rListS K) [.tuple ds] H ds := fun H1 vs e r Q q => by
  obtain ⟨v, w, rfl, ⟨a, xs, o, rfl, h1, _, h2⟩, rfl⟩ := r
  exact ⟨a, xs, rfl, .inr (.inl (.inr ⟨o, h1⟩)), fun l hl => q l xs _ hl (Ex.new hl) upd_same (h2.ex (Ex.new hl))⟩
theorem cd_tupL : CD (rTupL K) [.list ds] H (.tuple ds) := fun H1 vs e r Q q => by
  obtain ⟨v, w, rfl, ⟨a, xs, rfl, h1, h2⟩, rfl⟩ := r
  exact ⟨a, xs, rfl, SqL.of h1, fun l o hl ho => q _ _ (Ex.new hl) ⟨l, xs, o, rfl, upd_same, ho, h2.ex (Ex.new hl)⟩⟩
theorem evn_rng {te2 : TE} {n : Int} (h : EvD te2 σ H (.int n)) (hz : 0 ≤ n ∧ n ≤ 100000) : EvN (tLstRg (tRg1 te2)) σ H ((rgI 0 n.toNat).map PyData.int) := fun H0 e Q q =>
  h H0 e _ fun v H2 e2 r => ⟨n, r, RgOk.of_le (by omega) (by omega) (by omega) (by omega), fun p hp => by
    have ev : rgV 0 n = (rgI 0 n.toNat).map V.int := by
      unfold rgV rgI
      rw [List.map_map, Int.sub_zero]
      rfl
    exact q p _ _ (fresh_back e2 hp) (e2.trans (Ex.new hp)) upd_same (by rw [ev]; exact rpa_ints _)⟩
/-! ### int(a bool), str(an int) -/
def rIntB : List V → Hp → VK → Prop := fun xs H Q => ∃ k, xs = [.bl k] ∧ Q (.int (if k then 1 else 0)) H
theorem cr_intB {X : Cx} : CallR X (.type "int") rIntB := fun pins s σ H xs us Q I r h => call_int1 pins s σ H xs us Q I r (.inr h)
theorem cd_intB {b : Bool} : CD rIntB [.bool b] H (.int (if b then 1 else 0)) := fun H1 vs e r Q q => by
  obtain ⟨v, w, rfl, rfl, rfl⟩ := r
  exact ⟨b, rfl, q _ H1 (Ex.refl H1) rfl⟩
/-! ### t.index(x) -/
/-- the first place of x -/
def ixOf (x : Int) : List Int → Nat
  | [] => 0
  | y :: ys => if y = x then 0 else ixOf x ys + 1
theorem ixOf_get {x : Int} : ∀ {ns : List Int}, x ∈ ns → ns[ixOf x ns]? = some x
  | [], h => by simp at h
  | y :: ys, h => by
    unfold ixOf
    by_cases e : y = x
    · rw [if_pos e, e]; rfl
    · rw [if_neg e]
      exact ixOf_get ((List.mem_cons.mp h).resolve_left fun z => e z.symm)
theorem ixOf_min {x : Int} : ∀ {ns : List Int} {m : Nat}, m < ixOf x ns → ns[m]? ≠ some x
  | [], m, h => by simp [ixOf] at h
  | y :: ys, m, h => by
    unfold ixOf at h
    by_cases e : y = x
    · rw [if_pos e] at h; omega
    · rw [if_neg e] at h
      cases m with
      | zero => exact fun z => e (Option.some.inj z)
      | succ m => exact ixOf_min (ns := ys) (m := m) (by omega)
theorem evd_tix {ns : List Int} {k : Int} (ho : EvD te σ H (iD ns)) (hk : EvD tl σ H (.int k)) (m : k ∈ ns) : EvD (tTM (rIxI K) te (tCons tl tNil)) σ H (.int (ixOf k ns)) := fun H0 e Q q =>
  ho H0 e _ fun v H2 e2 r => by
    obtain ⟨a, o, rfl, h1, hd⟩ := r.iD
    exact ⟨⟨a, o, _, rfl, h1, hd⟩, hk H2 (e.trans e2) _ fun u H3 e3 r3 => by
      obtain rfl : u = .int k := r3
      exact ⟨a, ns, k, ixOf k ns, rfl, rfl, .inl (.inr ⟨o, e3 _ _ h1⟩), ixOf_get m, fun m2 hm => ixOf_min hm, q _ H3 (e2.trans e3) rfl⟩⟩
/-! ### isinstance of built-in types -/
def tyN : PyData → String
  | .none => "NoneType"
  | .bool _ => "bool"
  | .int _ => "int"
  | .str _ => "str"
  | .list _ => "list"
  | .tuple _ => "tuple"
  | .dict _ => "dict"
theorem Rp.ty {v : V} : ∀ {d : PyData}, Rp H d v → TyX K H v (.type (tyN d))
  | .none, h => by cases h; exact .base .non
  | .bool _, h => by cases h; exact .base (.bl _)
  | .int _, h => by cases h; exact .base (.int _)
  | .str _, h => by cases h; exact .base (.str _)
  | .list _, h => by obtain ⟨a, xs, rfl, h1, _⟩ := h; exact .base (.lst h1)
  | .tuple _, h => by obtain ⟨a, xs, o, rfl, h1, _⟩ := h; exact .fTuple h1
  | .dict _, h => h.elim
theorem evd_isi {T : String} {b : Bool} (h : EvD te σ H d) (hb : kitB (tyN d) T = some b) : EvD (tCB (rIsi K) (tCons te (tCons (tC (.ty T)) tNil))) σ H (.bool b) := fun H0 e Q q =>
  h H0 e _ fun v H2 e2 r => ⟨v, .ty T, .type (tyN d), .type T, b, rfl, .ty T, r.ty, kit_ty hb, q _ H2 e2 rfl⟩
end
end Bm

/-! A def's promise by data; what stands behind the top. -/
namespace Bm
open PySem PySem.Spec PyProof.Rows L2 Evl

/-- a def's answer: data, a new list, an error of the class at C -/
inductive Out where
  | val (d : PyData)
  | new (ds : List PyData)
  | exc (C : Addr)
  | pair (s : Str) (ds : List PyData)
  | duo (i : Int) (ds : List PyData)
  | some (P : List PyData → Prop)
def Gives (H : Hp) (Q : VK) (E : XK) : Out → Prop
  | .val d => ∀ v H', Ex H H' → Rp H' d v → Q v H'
  | .new ds => ∀ p ws H', H p = none → Ex H H' → H' p = some (.lst ws) → RpA H' ds ws → Q (.ref p) H'
  | .exc C => ∀ H', Ex H H' → E (.ref C) none H'
  | .pair s ds => ∀ p ws a o H', H p = none → Ex H H' → H' p = some (.lst ws) → RpA H' ds ws → H' a = some (.frz o (.tup [.str s, .ref p])) → o.dict = none → Q (.ref a) H'
  | .duo i ds => ∀ p ws a o H', H p = none → Ex H H' → H' p = some (.lst ws) → RpA H' ds ws → H' a = some (.frz o (.tup [.int i, .ref p])) → o.dict = none → Q (.ref a) H'
  | .some P => ∀ ds, P ds → ∀ p ws H', H p = none → Ex H H' → H' p = some (.lst ws) → RpA H' ds ws → Q (.ref p) H'
def spO {α : Type} (enc : α → List PyData) (pre : α → Prop) (out : α → Out) : Sp := fun vs H Q E => ∃ a : α, RpA H (enc a) vs ∧ pre a ∧ Gives H Q E (out a)
theorem spO_len {α : Type} {enc : α → List PyData} {pre : α → Prop} {out : α → Out} {n : Nat} (hn : ∀ a, (enc a).length = n) (vs : List V) (H : Hp) (Q : VK) (E : XK) (h : spO enc pre out vs H Q E) : vs.length = n := by
  obtain ⟨a, r, _⟩ := h
  rw [r.len, hn]
section
variable {K : PySem.W.Frag} {σ : L2.St} {H H' : Hp} {tr : TA} {d : PyData} {ds : List PyData} {E : XK} {α : Type} {enc : α → List PyData} {pre : α → Prop} {out : α → Out}
theorem evd_callO (a : α) (h : EvS tr σ H (enc a)) (hp : pre a) (ho : out a = .val d) : EvD (tCall (spO enc pre out) [] E tr) σ H d :=
  evd_call h fun H1 vs Q e r k => ⟨a, r, hp, by rw [ho]; exact k⟩
theorem evn_callO (a : α) (h : EvS tr σ H (enc a)) (hp : pre a) (ho : out a = .new ds) : EvN (tCall (spO enc pre out) [] E tr) σ H ds :=
  evn_call h fun H1 vs Q e r k => ⟨a, r, hp, by rw [ho]; exact k⟩
/-- a call that may raise, as a statement -/
theorem s_callX {D : Ends} {Es : L2.St → XK} (a : α) (h : EvS tr σ H (enc a)) (hp : pre a)
    (k : ∀ H1, Ex H H1 → Gives H1 (fun _ H2 => D.nx σ H2) (Es σ) (out a)) : tDrop (tCallS (spO enc pre out) Es tr) D σ H := h H (Ex.refl H) _ fun vs H1 e r => ⟨a, r, hp, k H1 e⟩
end
/-- a def of the text behind the top -/
structure Df (K : PySem.W.Frag) (mg : Str → Option Value) (x : Str) (st : Stmt) (ps : List Str) (f : Addr) (fd : FuncData) : Prop where
  F : Fun K x x st f fd
  b : Binds K fd ps []
  g : mg x = some (.ref f)
/-- an error class of the text behind the top -/
structure Xc (K : PySem.W.Frag) (mg : Str → Option Value) (x : Str) (C : Addr) : Prop where
  g : mg x = some (.ref C)
  x : PySem.W.excIn K C [.type "ValueError", .type "Exception", .type "BaseException", .type "object"] "ValueError.__new__" = true
  k : PySem.W.keepIn K (.ref C) = true
  b : PySem.W.subIn K (.ref C) (.type "BaseException") = some true
  t : PySem.W.typeIn K (.ref C) = some (.type "type")
/-- the built-ins' names are the built-ins' still -/
structure Bi (mg : Str → Option Value) : Prop where
  len : mg "len" = none
  range : mg "range" = none
  list : mg "list" = none
  tuple : mg "tuple" = none
  sorted : mg "sorted" = none
  int : mg "int" = none
  bool : mg "bool" = none
  str : mg "str" = none
  isinstance : mg "isinstance" = none
  reversed : mg "reversed" = none
  set : mg "set" = none
  all : mg "all" = none
  max : mg "max" = none
  min : mg "min" = none
  ValueError : mg "ValueError" = none
theorem rp_int {H : Hp} {i : Int} : Rp H (.int i) (.int i) := rfl
theorem rp_bl {H : Hp} {i : Bool} : Rp H (.bool i) (.bl i) := rfl
theorem rp_str {H : Hp} {i : Str} : Rp H (.str i) (.str i) := rfl
theorem rp_non {H : Hp} : Rp H .none .non := rfl
section
variable {K : PySem.W.Frag} {σ : L2.St} {H : Hp} {ta : TE}
def rNegI : V → Hp → VK → Prop := rU fun i => .int (-i)
theorem un_negI {X : Cx} : UnR X (unaryOp .USub) rNegI := un_neg
theorem evd_neg {i : Int} (h : EvD ta σ H (.int i)) : EvD (tUn rNegI ta) σ H (.int (-i)) := fun H1 e Q q => h H1 e _ fun v H2 e2 r => ⟨i, r, q _ H2 e2 rfl⟩
end
end Bm

/-! sorted of a tuple of ints, of a list of ints. -/
namespace Bm
open PySem PySem.Spec PyProof.Rows L2 Evl
/-- the same ints, rising -/
def insI (x : Int) : List Int → List Int
  | [] => [x]
  | y :: ys => if x ≤ y then x :: y :: ys else y :: insI x ys
def srt : List Int → List Int
  | [] => []
  | x :: xs => insI x (srt xs)
theorem insI_perm (x : Int) : ∀ ys : List Int, (insI x ys).Perm (x :: ys)
  | [] => .refl _
  | y :: ys => by
    unfold insI
    by_cases h : x ≤ y
    · rw [if_pos h]
    · rw [if_neg h]
      exact ((insI_perm x ys).cons y).trans (.swap x y ys)
theorem srt_perm : ∀ xs : List Int, (srt xs).Perm xs
  | [] => .refl _
  | x :: xs => (insI_perm x (srt xs)).trans ((srt_perm xs).cons x)
theorem insI_pw {x : Int} : ∀ {ys : List Int}, ys.Pairwise (· ≤ ·) → (insI x ys).Pairwise (· ≤ ·)
  | [], _ => by simp [insI]
  | y :: ys, h => by
    unfold insI
    obtain ⟨h1, h2⟩ := List.pairwise_cons.mp h
    by_cases e : x ≤ y
    · rw [if_pos e]
      refine List.pairwise_cons.mpr ⟨fun z m => ?_, h⟩
      rcases List.mem_cons.mp m with rfl | m
      · exact e
      · exact Int.le_trans e (h1 z m)
    · rw [if_neg e]
      refine List.pairwise_cons.mpr ⟨fun z m => ?_, insI_pw h2⟩
      rcases List.mem_cons.mp ((insI_perm x ys).mem_iff.mp m) with rfl | m
      · omega
      · exact h1 z m
theorem srt_pw : ∀ xs : List Int, (srt xs).Pairwise (· ≤ ·)
  | [] => .nil
  | _ :: xs => insI_pw (srt_pw xs)
theorem srt_of {a b : List Int} (h : a.Perm b) (p : a.Pairwise (· ≤ ·)) : a = srt b := PySem.W.ksm_same (h.trans (srt_perm b).symm) p (srt_pw b)
theorem srt_rgI (n : Nat) {lo : Int} {a : List Int} (h : a.Perm (rgI lo n)) : srt a = rgI lo n := by
  refine PySem.W.ksm_same ((srt_perm a).trans h) (srt_pw a) ?_
  unfold rgI
  rw [List.pairwise_map]
  exact List.pairwise_lt_range.imp fun {i j} l => by omega
theorem srt_iff {n : Nat} {lo : Int} {a : List Int} : srt a = rgI lo n ↔ a.Perm (rgI lo n) := ⟨fun h => by rw [← h]; exact (srt_perm a).symm, srt_rgI n⟩

section
variable {prog : Program} {w : World} {A : Around} {E : Value → Shared → Prop} {s : Shared}
theorem sortedTup {t : Addr} {vs : List Value} {ns : List Int} {Q : Value → Shared → Prop} (ht : IsTup s.heap t vs.toArray) (hz : vs.length ≤ sizeLine) (hi : IntsAre vs ns)
    (q : ∀ (h1 h2 : Heap) (out : List Value) (k : Nat), (∀ b o, s.heap.get? b = some o → h1.get? b = some o) → (∀ b o, h1.get? b = some o → h2.get? b = some o) → h2.get? h1.objs.size = some { cls := .type "list", data := .seq out.toArray k } → IntsAre out (srt ns) → Q (.ref h1.objs.size) { s with heap := h2 }) :
    wpAny (model prog w) A (call (.builtin "sorted") [.ref t]) Q E s := by
  obtain ⟨o, ho, hc, k, hd⟩ := ht
  refine Calls.call_function_entry kind_sorted plain_sorted entry_sorted (args_sorted1 _) ?_
  unfold Builtin.«sorted»
  refine wpAny_bind (m := checkCount "sorted" 1 1 _) (wpAny_pure ?_)
  refine wpAny_bind (wpAny_collect_seq t (.inr rfl) ho hc hd (fun h1 kp => ?_) (by rw [List.size_toArray]; exact hz))
  refine wpAny_bind (wpAny_newList ?_ hz)
  have at_ : (h1.push (seqObj "list" vs.toArray 0)).get? h1.objs.size = some (seqObj "list" vs.toArray 0) := Heap.get?_push_size _ rfl
  have kp2 : ∀ b u, h1.get? b = some u → (h1.push (seqObj "list" vs.toArray 0)).get? b = some u := fun b u e => Heap.get?_push_of_some _ e
  refine wpAny_bind (wpAny_holding (wpAny_call_entry slot_list_sort ⟨_, at_, rfl⟩ entry_list_sort (SrtO.list_sort_ord SrtO.swo_int at_ hz (fun h2 => SrtO.ints_sortable hi h2) fun out e1 e2 => ⟨_, rfl, ?_⟩) (args_list_sort _)))
  obtain ⟨i1, i2, i3⟩ := SrtO.ints_out hi e1 e2
  obtain ⟨ep, he⟩ := sortedHeap_at (vs := vs) (out := out.toArray) at_
  refine wpAny_pure ⟨_, rfl, q h1 _ out ep kp (fun b u e => ?_) he ?_⟩
  · have lt := Heap.lt_size e
    rw [sortedHeap_old (Nat.ne_of_lt lt) (Heap.lt_size (kp2 b u e))]
    exact kp2 b u e
  · rw [← srt_of i2 i3]
    exact i1
end
/-- sorted(a tuple of ints): a new list -/
def rSortTI (K : PySem.W.Frag) : List V → Hp → VK → Prop := fun vs H Q => ∃ (a : Addr) (ns : List Int), vs = [V.ref a] ∧ SqT K H a (ns.map V.int) ∧ ∀ p, H p = none → Q (.ref p) (upd H p (.lst ((srt ns).map V.int)))
section
variable {X : Cx} {K : PySem.W.Frag} {H : Hp}
theorem cr_sortedTI : CallR X (.builtin "sorted") (rSortTI X.K) := by
  intro pins s σ H vs us Q I r h
  obtain ⟨a, ns, rfl, hs, q⟩ := h
  obtain ⟨its, rv, pl, z⟩ := I.tuple hs
  rw [Vals.ref1 r]
  refine sortedTup pl (by rw [← rv.length]; exact z) rv.ints fun h1 h2 out k k1 k2 e i => ?_
  have J : Inv X pins σ H { s with heap := h1 } := I.kept (t' := s.toks) k1
  have zl : ((srt ns).map V.int).length ≤ sizeLine := by
    rw [List.length_map, (srt_perm ns).length_eq]
    rwa [List.length_map] at z
  exact ⟨.ref h1.objs.size, _, J.laid (t' := s.toks) k2 (Nat.le_refl _) (show ObjOk X.prog X.w _ _ _ (.lst ((srt ns).map V.int)) from ⟨zl, out, k, vals_of_ints i, e⟩), rfl, q _ (J.hok.fresh (Nat.le_refl _))⟩
theorem cn_sortTI {ns : List Int} : CN (rSortTI K) [iD ns] H ((srt ns).map PyData.int) := fun H1 vs e r Q q => by
  obtain ⟨v, t, rfl, hv, rfl⟩ := r
  obtain ⟨a, o, rfl, h1, _⟩ := hv.iD
  exact ⟨a, ns, rfl, .inl (.inr ⟨o, h1⟩), fun p hp => q p _ _ hp (Ex.new hp) upd_same (rpa_ints _)⟩
end
end Bm

/-! The script handed on; pop. -/
namespace Bm
open PySem PySem.Spec PyProof.Rows L2 Evl
/-- a def that gets the script first -/
def spS {α : Type} (K : PySem.W.Frag) (enc : α → List PyData) (pre : List Int → α → Prop) (out : List Int → α → Out) : Sp := fun vs H Q E => ∃ (ns : List Int) (a : α) (sa : Addr) (r : List V), vs = .ref sa :: r ∧ SqL K H sa (ns.map V.int) ∧ RpA H (enc a) r ∧ pre ns a ∧ Gives H Q E (out ns a)
section
variable {K : PySem.W.Frag} {σ : L2.St} {H H' : Hp} {ta tb te : TE} {tr : TA} {d : PyData} {ds : List PyData} {E : XK} {α : Type} {enc : α → List PyData} {pre : List Int → α → Prop} {out : List Int → α → Out} {ns : List Int} {sa : Addr} {i : Nat}
theorem evd_callS (a : α) (hs : SqL K H sa (ns.map V.int)) (hi : σ[i]? = some (some (.ref sa))) (h : EvS tr σ H (enc a)) (hp : pre ns a) (ho : out ns a = .val d) : EvD (tCall (spS K enc pre out) [] E (tCons (tVar i) tr)) σ H d := fun H1 e Q q =>
  ⟨.ref sa, hi, h H1 e _ fun vs H2 e2 r2 => by
    show spS K enc pre out (.ref sa :: vs ++ []) H2 Q E
    rw [List.append_nil]
    exact ⟨ns, a, sa, vs, rfl, ex_l (e.trans e2) hs, r2, hp, by rw [ho]; exact fun v H3 e3 r3 => q v H3 (e2.trans e3) r3⟩⟩
theorem evn_callS (a : α) (hs : SqL K H sa (ns.map V.int)) (hi : σ[i]? = some (some (.ref sa))) (h : EvS tr σ H (enc a)) (hp : pre ns a) (ho : out ns a = .new ds) : EvN (tCall (spS K enc pre out) [] E (tCons (tVar i) tr)) σ H ds := fun H1 e Q q =>
  ⟨.ref sa, hi, h H1 e _ fun vs H2 e2 r2 => by
    show spS K enc pre out (.ref sa :: vs ++ []) H2 Q E
    rw [List.append_nil]
    exact ⟨ns, a, sa, vs, rfl, ex_l (e.trans e2) hs, r2, hp, by rw [ho]; exact fun p ws H3 hp2 e3 h3 r3 => q p ws H3 (fresh_back e2 hp2) (e2.trans e3) h3 r3⟩⟩
theorem spS_len {n : Nat} (hn : ∀ a, (enc a).length = n) (vs : List V) (H : Hp) (Q : VK) (E : XK) (h : spS K enc pre out vs H Q E) : vs.length = n + 1 := by
  obtain ⟨ns, a, sa, r, rfl, _, h, _⟩ := h
  rw [List.length_cons, h.len, hn]
theorem evd_lenS (hs : SqL K H sa (ns.map V.int)) (hi : σ[i]? = some (some (.ref sa))) : EvD (tCB (rLenS K) (tCons (tVar i) tNil)) σ H (.int ns.length) := fun H1 e Q q =>
  ⟨.ref sa, hi, sa, _, rfl, .inl (ex_l e hs), by rw [List.length_map]; exact q _ H1 (Ex.refl H1) rfl⟩
theorem evd_ixS {k : Int} {z : Int} (hs : SqL K H sa (ns.map V.int)) (hi : σ[i]? = some (some (.ref sa))) (hk : EvD tb σ H (.int k)) (hz : atI ns k = some z) : EvD (tOp (rIxL K) (tVar i) tb) σ H (.int z) := fun H1 e Q q =>
  ⟨.ref sa, hi, hk H1 e _ fun v H2 e2 r => ⟨sa, _, k, .int z, rfl, r, ex_l (e.trans e2) hs, atI_map hz, q _ H2 e2 rfl⟩⟩
end
section
variable {K : PySem.W.Frag} {σ : L2.St} {H H0 : Hp} {D : Ends} {l : Addr} {ds : List PyData} {i : Nat}
/-- over a list that stood at Hb, whatever is made since -/
theorem s_forB {g : TG} {tu : TS} {α : Type} {f : α → PyData} {xs : List α} {v : V} {Hb : Hp} (hi : σ[i]? = some (some v)) (hb : Rp Hb (.list (xs.map f)) v) (eb : Ex Hb H) (Pv : Nat → L2.St → Hp → Prop) (p0 : Pv 0 σ H) (pe : ∀ i σ' H', Pv i σ' H' → Ex Hb H')
    (turn : ∀ i x v σ' H', xs[i]? = some x → Rp H' (f x) v → Pv i σ' H' → g v σ' H' fun σ2 H2 => tu { D with nx := Pv (i + 1), ct := Pv (i + 1), bk := D.nx } σ2 H2) (done : ∀ σ' H', Pv xs.length σ' H' → D.nx σ' H') :
    tFor (iList K (tVar i)) g tu D σ H := by
  obtain ⟨a, vs, rfl, h1, h2⟩ := hb
  have hl : vs.length = xs.length := by rw [h2.len, List.length_map]
  refine ⟨.ref a, hi, a, rfl, ⟨vs, SqL.of (eb _ _ h1)⟩, for_list (xs := vs) Pv p0 (fun i σ' H' _ p => SqL.of (pe i σ' H' p a _ h1)) (fun i v2 σ' H' hi p => ?_) (fun σ' H' p => done σ' H' (hl ▸ p))⟩
  obtain ⟨d2, q1, q2⟩ := h2.getv hi
  obtain ⟨x, q3, rfl⟩ := map_get q1
  exact turn i x v2 σ' H' q3 (q2.ex (pe i σ' H' p)) p
/-- xs.clear(), xs a list of ours -/
theorem s_clearO (o : Own H0 H l ds) (hi : σ[i]? = some (some (.ref l))) (k : ∀ H2, ExB l H H2 → Own H0 H2 l [] → D.nx σ H2) : tDrop (tBM0 K "list" rClear (tVar i)) D σ H := by
  obtain ⟨vs, h1, h2⟩ := o.has
  refine ⟨.ref l, hi, .inl ⟨rfl, vs, SqL.of h1⟩, l, vs, rfl, rfl, h1, k _ ExB.upd ⟨o.new, Ex.mut o.ex o.new, ⟨[], upd_same, RpA.nil⟩, rfl⟩⟩
end
/-- the cell at k, or nought -/
def cellF (ns : List Int) (k : Int) : Int := ns.getD k.toNat 0
end Bm

/-! The rules by the written part's name. -/
namespace Bm
open PySem PySem.Spec PyProof.Rows L2 Evl
section
variable {X : Cx} {K : PySem.W.Frag}
theorem cr_lenK (h : X.K = K := by rfl) : CallR X (.builtin "len") (rLenS K) := h ▸ cr_len
theorem cr_listK (h : X.K = K := by rfl) : CallR X (.type "list") (rListS K) := h ▸ cr_list
theorem cr_tupLK (h : X.K = K := by rfl) : CallR X (.type "tuple") (rTupL K) := h ▸ cr_tupL
theorem cr_sortedTIK (h : X.K = K := by rfl) : CallR X (.builtin "sorted") (rSortTI K) := h ▸ cr_sortedTI
theorem call_isiK2 (h : X.K = K := by rfl) : CallR X (.builtin "isinstance") (rIsi K) := h ▸ call_isi
theorem cr_allK (hc : X.calm = true) (h : X.K = K := by rfl) : CallR X (.builtin "all") (rAll K) := h ▸ cr_all hc
theorem ix_listK (h : X.K = K := by rfl) : IxR X (rIxL K) := h ▸ ix_list
theorem ix_tupK (h : X.K = K := by rfl) : IxR X (rIxT K) := h ▸ ix_tup
theorem sl_listK (h : X.K = K := by rfl) : SlR X (rSlL K) := h ▸ sl_list
theorem op_inFK (h : X.K = K := by rfl) : OpR X (compareOp .In) (rInF K) := h ▸ op_inF
theorem op_niFK (h : X.K = K := by rfl) : OpR X (compareOp .NotIn) (rNiF K) := h ▸ op_niF
theorem op_catFK (h : X.K = K := by rfl) : OpR X (binaryOp .Add) (rCatF K) := h ▸ op_catF
theorem op_eqDK (hu : X.A.units + 64 < cLine) (h : X.K = K := by rfl) : OpR X (compareOp .Eq) (rEqD K) := h ▸ op_eqD hu
theorem op_neDK (hu : X.A.units + 64 < cLine) (h : X.K = K := by rfl) : OpR X (compareOp .NotEq) (rNeD K) := h ▸ op_neD hu
theorem op_inDK (hu : X.A.units + 65 < cLine) (h : X.K = K := by rfl) : OpR X (compareOp .In) (rInD K) := h ▸ op_inD hu
theorem op_niDK (hu : X.A.units + 65 < cLine) (h : X.K = K := by rfl) : OpR X (compareOp .NotIn) (rNotInD K) := h ▸ op_notInD hu
theorem mt_tupIxK (h : X.K = K := by rfl) : MtR X "tuple.index" (rIxI K) := h ▸ mt_tupIx
theorem pi_listK {tg l : Expr} {tl : TE} (hl : PE X l tl) (h : X.K = K := by rfl) : PI X tg l (iList K tl) := h ▸ pi_list hl
theorem pi_tupK {tg l : Expr} {tl : TE} (hl : PE X l tl) (h : X.K = K := by rfl) : PI X tg l (iTup K tl) := h ▸ pi_tup hl
theorem pg_tupK {es : List Expr} {k : Nat} {t : TGs} {n : Nat} {pos : Pos} (hc : X.calm = true) (h : PGs X es t) (hn : (assignEach es X.env).length = n := by rfl) (hst : (assignEach es X.env).findIdx? (·.1) = none := by rfl) (hk : X.K = K := by rfl) :
    PG X (.Tuple es k pos) (gTup K n t) := hk ▸ pg_tup hc h hn hst
end
theorem hu65 {k : Nat} {A : Around} (hr : Room k A) : A.units + 65 < cLine := by have := hr.un; omega
end Bm

/-! What is walked is gathered into a list: once for every kind of thing that is walked. -/
namespace Bm
open PySem PySem.Spec PyProof.Rows L2 Evl
/-- an empty list at the heap's end -/
abbrev bare0 : Obj := { cls := .type "list", data := .seq ([] : List Value).toArray }
abbrev pushL (h : Heap) : Heap := h.push bare0
theorem pushL_at (h : Heap) : (pushL h).get? h.objs.size = some bare0 := Heap.get?_push_size _ rfl
theorem pushL_old {h : Heap} {b : Addr} {u : Obj} (e : h.get? b = some u) : (pushL h).get? b = some u := Heap.get?_push_of_some _ e
/-- from h₂ on the iterator I gives n items, of which R is told; the place S has no part in it -/
def Gives1 (P : Program) (w : World) (A : Around) (h₂ : Heap) (S I : Addr) (R : Array Value → Prop) : Prop :=
  ∃ fp n Pv St, Walks P w A I fp [I] n Pv St ∧ n ≤ sizeLine ∧ S ∉ fp ∧ St 0 h₂ ∧ ∀ acc, ItemsOf Pv acc n → R acc
section
variable {P : Program} {w : World} {A : Around} {E : Value → Shared → Prop} {s : Shared}
/-- the gathering loop, the list at S still empty -/
theorem gather_loop {I S : Addr} {h₂ : Heap} {tk c : Nat} {R : Array Value → Prop} {Z : Result → Shared → Prop} (g : Gives1 P w A.in1 h₂ S I R) (e : h₂.get? S = some { cls := .type "list", dict := none, data := .seq #[] c, slots := #[] })
    (z : ∀ (h3 : Heap) tk3 acc c3, R acc → h3.get? S = some { cls := .type "list", dict := none, data := .seq acc c3, slots := #[] } → (∀ b u, b ≠ S → b ≠ I → h₂.get? b = some u → h3.get? b = some u) → Z (.ok (.ret (.ref S))) { s with heap := h3, toks := tk3 }) :
    codeAny (model P w) A (.builtin "list.extend.loop" ⟨[.ref S, .ref I, .ref S], []⟩) Z { s with heap := h₂, toks := tk } := by
  obtain ⟨fp, n, Pv, St, W, nz, away, st, told⟩ := g
  refine codeAny_extend_loopS W.toS nz S away (.ref S) n 0 _ #[] c rfl (Nat.zero_le _) st e (ItemsOf.nil Pv) fun s3 acc c3 mv e3 it => ?_
  have kp : ∀ b u, b ≠ S → b ≠ I → h₂.get? b = some u → s3.heap.get? b = some u := fun b u nS nI q => mv.heap b u (by simp [nS, nI]) q
  have es := mv.eq_with
  obtain ⟨h3, g3, d3, t3, o3⟩ := s3
  cases es
  exact z h3 t3 acc c3 (told acc it) e3 kp
theorem gather {a I : Addr} {o : Obj} {T : String} {h₂ : Heap} {R : Array Value → Prop} {Q : List Value → Shared → Prop} (ho : s.heap.get? a = some o) (hc : o.cls = .type T) (nl : T ≠ "list") (nt : T ≠ "tuple")
    (iter : ∀ (E' : Value → Shared → Prop) (Q' : Value → Shared → Prop), Q' (.ref I) { s with heap := h₂ } → wpAny (model P w) A.in1 (pyIter (.ref a)) Q' E' { s with heap := pushL s.heap })
    (hint : ∀ (E' : Value → Shared → Prop) (Q' : Bool → Shared → Prop), (∀ b tk, Q' b { s with heap := h₂, toks := tk }) → wpAny (model P w) A.in1 (Builtin.List.listLengthHint (.ref a)) Q' E' { s with heap := h₂ })
    (kp : ∀ b u, (pushL s.heap).get? b = some u → h₂.get? b = some u) (g : ∀ h, (∀ b u, b ≠ s.heap.objs.size → h₂.get? b = some u → h.get? b = some u) → Gives1 P w A.in1 h s.heap.objs.size I R)
    (q : ∀ (h' : Heap) tk acc, R acc → s.heap.objs.size ≤ h'.objs.size → (∀ b u, b ≠ I → s.heap.get? b = some u → h'.get? b = some u) → Q acc.toList { s with heap := h', toks := tk }) : wpAny (model P w) A (collect (.ref a)) Q E s := by
  have na : s.heap.objs.size ≠ a := Nat.ne_of_gt (Heap.lt_size ho)
  have at2 := kp _ _ (pushL_at s.heap)
  -- behind the loop the list is read
  have last : ∀ (h4 : Heap) (tk c : Nat), h4.get? s.heap.objs.size = some { cls := .type "list", dict := none, data := .seq #[] c, slots := #[] } → (∀ b u, b ≠ s.heap.objs.size → h₂.get? b = some u → h4.get? b = some u) →
      codeAny (model P w) A (.builtin "list.extend.loop" ⟨[.ref s.heap.objs.size, .ref I, .ref s.heap.objs.size], []⟩)
        (fun r s' => match r with
          | .ok (.ret v) => wpAny (model P w) A (match v with
            | .ref x => load x >>= fun ob => match ob.data with
              | .seq xs _ => pure xs.toList
              | _ => unsupported "internal:collect"
            | _ => unsupported "internal:collect") Q E s'
          | .ok _ => False
          | .error e => E e s') { s with heap := h4, toks := tk } :=
    fun h4 tk c e4 k4 => gather_loop (g h4 k4) e4 fun h3 tk3 acc c3 r e3 k3 => by
      refine wpAny_bind (wpAny_load e3 (wpAny_pure (q h3 tk3 acc r (Nat.le_of_lt (Heap.lt_size e3)) fun b u nI e => ?_)))
      have nS : b ≠ s.heap.objs.size := Nat.ne_of_lt (Heap.lt_size e)
      exact k3 b u nS nI (k4 b u nS (kp b u (pushL_old e)))
  unfold collect
  refine wpAny_bind (wpAny_runValue (codeAny_builtin F.entry_proto_collect (by
    rw [Around.under_plainId F.plain_proto_collect _]
    refine wpAny_bind (m := newList []) (wpAny_newObj_type (wpAny_pure ⟨plainId_quiet F.plain_list_iadd _, codeAny_builtin F.entry_list_iadd ?_⟩))
    rw [Around.under_plainId F.plain_list_iadd _]
    show wpAny (model P w) A.in1 (Builtin.List.listExtendWith (.ref s.heap.objs.size) (.ref a) (.ref s.heap.objs.size)) _ _ { s with heap := pushL s.heap }
    unfold Builtin.List.listExtendWith
    refine wpAny_bind (wpAny_typeOf (T := T) ⟨o, pushL_old ho, hc⟩ ?_)
    have other : (Builtin.List.listSameRef (.ref s.heap.objs.size) (.ref a) || Value.type T == Value.type "list" || Value.type T == Value.type "tuple") = false := by
      simp [Builtin.List.listSameRef, na, nl, nt]
    simp only [other, Bool.false_eq_true, if_false]
    refine wpAny_bind (iter _ _ (wpAny_bind (wpAny_holding (hint _ _ fun b tk => ?_))))
    split
    · refine wpAny_bind (m := rule "list.extend.makes-room") (wpAny_rule (wpAny_bind (m := Builtin.List.listTouch (.ref s.heap.objs.size)) ?_))
      have at3 := Heap.get?_update_self (Obj.mapSeq (·.push Value.none)) at2 rfl
      refine wpAny_bind (m := updateSeq s.heap.objs.size (·.push .none)) (wpAny_updateSeq at2 rfl (wpAny_updateSeq at3 rfl (wpAny_pure ⟨plainId_quiet F.plain_extend_loop _, last _ tk _ (Heap.get?_update_self (Obj.mapSeq (·.pop)) at3 rfl) fun b u n e => ?_⟩)))
      rw [Heap.get?_update_other _ _ (Ne.symm n), Heap.get?_update_other _ _ (Ne.symm n)]
      exact e
    · exact wpAny_pure ⟨plainId_quiet F.plain_extend_loop _, last h₂ tk 0 at2 fun _ _ _ e => e⟩)))
end
end Bm

/-! tuple(reversed(x)), x a list or a tuple: told with its object. -/
namespace Bm
open PySem PySem.Spec PyProof.Rows L2 Evl
abbrev idH : String := "reversed.__length_hint__"
theorem rt_noLen : typeLookup (.type "reversed") "__len__" = pure none := by rw [typeLookup_type, builtinLookup_eq_fast]; kernel_rfl
theorem rt_slotH : Slot "reversed" "__length_hint__" idH := by
  refine .of (owner := "reversed") (n := "__length_hint__") ?_ ?_ ?_ ?_ ?_ ?_
  · rw [typeLookup_type, builtinLookup_eq_fast]
    kernel_rfl
  · decide +kernel
  · decide +kernel
  · decide +kernel
  · first | exact .inr (by decide +kernel) | exact .inl (by decide +kernel)
  · rw [isSubtype_type]
    kernel_rfl
theorem rt_entH : entryFor table idH = some Builtin.«reversed.__length_hint__» := entryFor_of_tree (by kernel_rfl)
theorem rt_argH (a : Value) : argsOk idH ⟨[a], []⟩ := by
  unfold argsOk; rw [signature?_of (id := "reversed.__length_hint__") (n := ['_', '_', 't', 'n', 'i', 'h', '_', 'h', 't', 'g', 'n', 'e', 'l', '_', '_']) (o := ['d', 'e', 's', 'r', 'e', 'v', 'e', 'r']) (by kernel_rfl) RT.owner_rt]; kernel_rfl
/-- an iterator at the end of a tuple, backwards -/
structure RtAt (h : Heap) (it t : Addr) (xs : Array Value) : Prop where
  rt : RT.IsRt h it t ((xs.size : Int) - 1)
  tp : IsTup h t xs
theorem RtAt.to {h h' : Heap} {it t : Addr} {xs : Array Value} (x : RtAt h it t xs) (k : ∀ b u, h.get? b = some u → h'.get? b = some u) : RtAt h' it t xs :=
  ⟨x.rt.at (k it), x.tp.imp fun o q => ⟨k t o q.1, q.2⟩⟩
/-- the items, backwards -/
def BackOf (xs acc : Array Value) : Prop := ItemsOf (fun i v => xs[xs.size - 1 - i]? = some v) acc xs.size
section
variable {prog : Program} {w : World} {A : Around} {E : Value → Shared → Prop} {s : Shared} {it t : Addr} {xs : Array Value}
theorem RtAt.type (x : RtAt s.heap it t xs) : s.TypeIs (.ref it) "reversed" := x.rt.typeIs
/-- how many are left: all -/
theorem RtAt.left {Q : Value → Shared → Prop} (x : RtAt s.heap it t xs) (few : xs.size ≤ 100000) (q : ∀ tk tk2, Q (.int xs.size tk) { s with toks := tk2 }) : wpAny (model prog w) A (call (.builtin idH) [.ref it]) Q E s := by
  obtain ⟨o, o1, o2, o3⟩ := id x.rt
  have no : (Value.ref t == Value.none) = false := rfl
  have back : (xs.size : Int) - 1 + 1 = (xs.size : Int) := by omega
  refine wpAny_call_entry rt_slotH x.type rt_entH ?_ (rt_argH _)
  unfold Builtin.«reversed.__length_hint__»
  refine wpAny_bind (wpAny_of_eq (a := Value.ref it) rfl (wpAny_bind (wpAny_field o1 o3 (x := .ref t) rfl ?_)))
  refine wp_if_neg (by rw [no]; simp) ?_
  refine wpAny_bind (PyProof.Rows.len_tuple x.tp (by omega) (wpAny_bind (wpAny_of_eq (a := some (xs.size : Int)) rfl ?_)))
  refine wpAny_bind (wpAny_field (s := { s with toks := s.toks + 1 + 1 }) o1 o3 (x := rawInt ((xs.size : Int) - 1)) rfl ?_)
  show wpAny _ _ (if (xs.size : Int) < (xs.size : Int) - 1 + 1 then _ else _) _ _ _
  rw [back, if_neg (Int.lt_irrefl _)]
  exact wpAny_bind (wpAny_mkInt (wpAny_pure ⟨_, rfl, q _ _⟩))
theorem RtAt.hint {Q : Bool → Shared → Prop} (x : RtAt s.heap it t xs) (few : xs.size ≤ 100000) (q : ∀ b tk2, Q b { s with toks := tk2 }) : wpAny (model prog w) A (Builtin.List.listLengthHint (.ref it)) Q E s := by
  have fit : Builtin.List.listFitsIndex (xs.size : Int) = true := by simp [Builtin.List.listFitsIndex]; omega
  have room : Builtin.List.listTooLong (xs.size : Int).toNat = false := by simp [Builtin.List.listTooLong, sizeLine_eq]; omega
  have int_ : ∀ tk, asInt? (Value.int (xs.size : Int) tk) = pure (some (xs.size : Int)) := fun _ => rfl
  unfold Builtin.List.listLengthHint
  refine wpAny_bind (wpAny_specialOf x.type rt_noLen ?_)
  refine wpAny_bind (m := specialOf (Value.ref it) (Str.ofString "__length_hint__")) (wpAny_specialOf x.type rt_slotH.lookup ?_)
  generalize hid : idH = id0
  wp_delta
  rw [show splitId id0 = some ("reversed", "__length_hint__") from by subst hid; decide +kernel]
  subst hid
  refine wpAny_bind (wpAny_isInstance (b := true) x.type (by rw [isSubtype_type]; kernel_rfl) ?_)
  refine wpAny_bind (m := rule "list.length-hint.hint") (wpAny_rule (wpAny_bind (wpAny_of_eq (rt_slotH.bind _) ?_)))
  refine wpAny_bind (wpAny_attempt (x.left few fun tk tk2 => ?_))
  try dsimp only
  rw [int_ tk, pure_bind]
  dsimp only
  rw [fit, room, if_neg (by decide), if_neg (by omega), if_neg (by decide)]
  exact wpAny_pure (q _ _)
theorem rt_steps (hh : A.handled = none) (ne : t ≠ it) (nz : xs.size ≤ sizeLine) :
    Walks prog w A it [it, t] [it] xs.size (fun i v => xs[xs.size - 1 - i]? = some v) (fun i h => i ≤ xs.size ∧ RT.IsRt h it t ((xs.size : Int) - 1 - (i : Int)) ∧ IsTup h t xs) where
  sub := fun b m => by rw [List.mem_singleton.mp m]; exact List.mem_cons_self
  frame := fun _ _ _ x k => ⟨x.1, x.2.1.at (k it List.mem_cons_self), x.2.2.imp fun o q => ⟨k t (List.mem_cons_of_mem _ List.mem_cons_self) o q.1, q.2⟩⟩
  item := fun i s Q E l x q => by
    obtain ⟨_, rt, tp⟩ := x
    have lt : xs.size - 1 - i < xs.size := by omega
    have at_ : xs[xs.size - 1 - i]? = some xs[xs.size - 1 - i] := Array.getElem?_eq_getElem lt
    rw [show (xs.size : Int) - 1 - (i : Int) = ((xs.size - 1 - i : Nat) : Int) by omega] at rt
    refine RT.next_rt_item rt tp at_ nz fun h' rt' same => ?_
    rw [show ((xs.size - 1 - i : Nat) : Int) - 1 = (xs.size : Int) - 1 - ((i + 1 : Nat) : Int) by omega] at rt'
    exact q _ h' _ at_ ⟨l, rt', tp.imp fun o z => ⟨(same.2 t ne).trans z.1, z.2⟩⟩ fun b u nb e => same.extBut b u (fun z => nb (List.mem_singleton.mpr z)) e
  done := fun s Q E x q => by
    have rt := x.2.1
    rw [show (xs.size : Int) - 1 - (xs.size : Int) = -1 by omega] at rt
    exact RT.next_rt_end hh rt fun h' k => q h' s.toks fun b u nb e => k b u (fun z => nb (List.mem_singleton.mpr z)) e
  self := fun _ _ _ _ x q => RT.iter_rt x.2.1 q
theorem RtAt.gathered {Q : List Value → Shared → Prop} (x : RtAt s.heap it t xs) (hh : A.handled = none) (ne : t ≠ it) (few : xs.size ≤ 100000)
    (q : ∀ (h' : Heap) tk acc, BackOf xs acc → (∀ b u, b ≠ it → s.heap.get? b = some u → h'.get? b = some u) → Q acc.toList { s with heap := h', toks := tk }) : wpAny (model prog w) A (collect (.ref it)) Q E s := by
  obtain ⟨o, o1, o2, o3⟩ := id x.rt
  obtain ⟨u, u1, _⟩ := id x.tp
  have y := x.to (h' := pushL s.heap) fun _ _ => pushL_old
  have nz : xs.size ≤ sizeLine := by rw [sizeLine_eq]; omega
  have n1 : it ≠ s.heap.objs.size := Nat.ne_of_lt (Heap.lt_size o1)
  have n2 : t ≠ s.heap.objs.size := Nat.ne_of_lt (Heap.lt_size u1)
  refine gather (T := "reversed") (I := it) (h₂ := pushL s.heap) (R := BackOf xs) o1 o2 (by decide) (by decide) (fun E' Q' z => RT.iter_rt (s := { s with heap := pushL s.heap }) y.rt z)
    (fun E' Q' z => RtAt.hint (s := { s with heap := pushL s.heap }) y few z) (fun _ _ e => e) (fun h k => ⟨[it, t], xs.size, _, _, rt_steps hh ne nz, nz, by simp [n1.symm, n2.symm], ⟨Nat.zero_le _, ?_, ?_⟩, fun acc i => i⟩) fun h' tk acc r _ k => q h' tk acc r k
  · rw [show (xs.size : Int) - 1 - ((0 : Nat) : Int) = (xs.size : Int) - 1 by omega]
    exact y.rt.at fun u e => k it u n1 e
  · exact y.tp.imp fun u e => ⟨k t u n2 e.1, e.2⟩
/-- tuple(an iterator backwards), the gathering told by whoever calls -/
theorem tuple_back {Q : Value → Shared → Prop} {R : Array Value → Prop} (ty : s.TypeIs (.ref it) "reversed") (few : ∀ acc, R acc → acc.size ≤ sizeLine)
    (col : ∀ (Q' : List Value → Shared → Prop) (E' : Value → Shared → Prop), (∀ (h' : Heap) tk acc, R acc → (∀ b u, b ≠ it → s.heap.get? b = some u → h'.get? b = some u) → Q' acc.toList { s with heap := h', toks := tk }) → wpAny (model prog w) A.in1.in1 (collect (.ref it)) Q' E' s)
    (q : ∀ (h' : Heap) tk acc, R acc → (∀ b u, b ≠ it → s.heap.get? b = some u → h'.get? b = some u) → Q (.ref h'.objs.size) { s with heap := h'.push { cls := .type "tuple", data := .seq acc }, toks := tk }) :
    wpAny (model prog w) A (call (.type "tuple") [.ref it]) Q E s := by
  refine callType_codes (Q₁ := fun ob s₁ => s₁.TypeIs ob "tuple" ∧ Q ob s₁) F.called_tuple (F.typeCall_tuple_1 _) F.entry_object_init (codeAny_of_tree ?_) fun ob s₁ z =>
    ⟨z.1, F.args_object_init_2 ob _, object_init_meets F.called_tuple.init.lookup F.called_tuple.made (by decide) prog w A.in1 _ s₁ ⟨z.1, rfl, z.2⟩⟩
  refine wpAny_bind (m := checkBuiltinCall "tuple.__new__" ⟨[.type "tuple", .ref it], []⟩) (wpAny_of_eq (F.newCall_tuple_1 _) (wpAny_pure ⟨plainId_quiet F.plain_tuple_new _, codeAny_builtin F.entry_tuple_new ?_⟩))
  rw [Around.under_plainId F.plain_tuple_new _]
  have f1 := sub_tuple_self
  have f2 := init_tuple_lookup
  have f3 := madeHere_tuple
  wp_walk using wpAny_typeOf ty, col _ _
  intro h' tk acc r k
  have same : acc.toList.toArray = acc := Array.toArray_toList
  refine wpAny_bind (m := Builtin.Tuple.tupleExact acc.toList.toArray) ?_
  unfold Builtin.Tuple.tupleExact
  rw [same]
  exact wpAny_newObj_type (wpAny_pure ⟨⟨_, Heap.get?_push_size _ rfl, rfl⟩, q h' tk acc r k⟩) (few acc r)
end
/-- tuple(reversed(x)), x a list or a tuple -/
def tTupRv (K : PySem.W.Frag) (te : TE) : TE := fun σ H Q => te σ H fun v H1 => ∃ (a : Addr) (xs : List V), v = .ref a ∧ (SqL K H1 a xs ∨ SqT K H1 a xs) ∧ xs.length ≤ 100000 ∧ ∀ p o, H1 p = none → o.dict = none → Q (.ref p) (upd H1 p (.frz o (.tup xs.reverse)))
section
variable {X : Cx}
/-- the gathered items as a new tuple -/
theorem back_end {pins : List (Addr × Obj)} {σ : L2.St} {H : Hp} {s : Shared} {xs : List V} {its : List Value} {ob : Obj} {h' : Heap} {tk : Nat} {acc : Array Value} {Q : VK} (I : Inv X pins σ H s) (rv : Vals xs its) (z : xs.length ≤ sizeLine)
    (b : BackOf its.toArray acc) (k : ∀ b u, b ≠ s.heap.objs.size → (s.heap.push ob).get? b = some u → h'.get? b = some u) (q : ∀ p o, H p = none → o.dict = none → Q (.ref p) (upd H p (.frz o (.tup xs.reverse)))) :
    EP X pins σ Q (.ref h'.objs.size) { s with heap := h'.push { cls := .type "tuple", data := .seq acc }, toks := tk } := by
  obtain ⟨c1, c2, _, c3, c4, c5⟩ := I.fpOk (Nat.le_refl _) (I.hok.fresh (Nat.le_refl _))
  have J : Inv X pins σ H { s with heap := s.heap.push ob } := I.kept (t' := s.toks) fun _ _ e => Heap.get?_push_of_some _ e
  have y := tupNew (tk := tk) (J.turned (t' := tk) k c1 c2 c3 c4 c5) (fun _ _ e => e) (RT.vals_rev rv b) (by rw [List.length_reverse]; exact z) q
  rwa [Array.toArray_toList] at y
theorem pe_tupRevF {K : PySem.W.Frag} {e : Expr} {te : TE} {p p2 pos pos2 : Pos} (hc : X.calm = true) (hg : Gl X "tuple") (hm : X.mg "tuple" = none) (hg2 : Gl X "reversed") (hm2 : X.mg "reversed" = none) (he : PE X e te)
    (hK : X.K = K := by rfl) (one : starEach [e] X.env = (false, eval e X.env) :: starEach [] X.env := by rfl)
    (two : starEach [.Call (.Name "reversed" p2) [e] [] pos2] X.env = (false, eval (.Call (.Name "reversed" p2) [e] [] pos2) X.env) :: starEach [] X.env := by rfl) :
    PE X (.Call (.Name "tuple" p) [.Call (.Name "reversed" p2) [e] [] pos2] [] pos) (tTupRv K te) := ⟨fun pins s σ H Q I h => by
  subst hK
  refine Call_ (ld_blt I hg hm boot_tuple ?_)
  refine PyProof.Rows.callWith_type1 (args_cons ?_ two) two rfl
  refine Call_ (ld_blt I hg2 hm2 PyProof.Rows.boot_reversed ?_)
  refine PyProof.Rows.callWith_type1 (args_cons (thn (he.run pins s σ H _ I h) fun u s1 ⟨v, H1, I1, r1, a, xs, ev, hq, hlen, q⟩ => args_nil ?_) one) one rfl
  subst ev
  cases r1
  have new_ : ∀ ob : Obj, ∀ b o, s1.heap.get? b = some o → (s1.heap.push ob).get? b = some o := fun ob b o e => Heap.get?_push_of_some _ e
  rcases hq with hq | hq
  · obtain ⟨its, rv, pl, hz⟩ := I1.list hq
    have ls := pl.isList
    have na : a ≠ s1.heap.objs.size := Nat.ne_of_lt (by obtain ⟨o, e, _⟩ := id ls; exact Heap.lt_size e)
    refine PySem.call_reversed_list ls (args_nil ?_)
    exact RT.call_tuple_rev (s := { s1 with heap := s1.heap.push (revObj a ((its.toArray.size : Int) - 1)) }) (I1.ok.hd hc) ⟨_, Heap.get?_push_size _ rfl, rfl, rfl⟩ (ls.push _) na (by rw [List.size_toArray, ← rv.length]; exact hz)
      fun h' tk acc k i => back_end (s := s1) (ob := revObj a ((its.toArray.size : Int) - 1)) I1 rv hz i k q
  · obtain ⟨its, rv, tp, hz⟩ := I1.tuple hq
    have few : its.toArray.size ≤ 100000 := by rw [List.size_toArray, ← rv.length]; exact hlen
    have na : a ≠ s1.heap.objs.size := Nat.ne_of_lt (by obtain ⟨o, e, _⟩ := id tp; exact Heap.lt_size e)
    have x : RtAt (s1.heap.push (RT.rtObj a ((its.toArray.size : Int) - 1))) s1.heap.objs.size a its.toArray := ⟨⟨_, Heap.get?_push_size _ rfl, rfl, rfl⟩, tp.imp fun o z => ⟨new_ _ _ _ z.1, z.2⟩⟩
    refine RT.call_reversed_tup tp (fun A E Q k => PyProof.Rows.len_tuple tp (by omega) k) (args_nil ?_)
    exact tuple_back (s := { s1 with heap := s1.heap.push (RT.rtObj a ((its.toArray.size : Int) - 1)), toks := s1.toks + 1 + 1 }) (R := BackOf its.toArray) x.type (fun acc r => by rw [r.1, sizeLine_eq]; omega)
      (fun Q' E' z => RtAt.gathered (s := { s1 with heap := s1.heap.push (RT.rtObj a ((its.toArray.size : Int) - 1)), toks := s1.toks + 1 + 1 }) x (I1.ok.hd hc) na few z) fun h' tk acc i k => back_end (s := s1) (ob := RT.rtObj a ((its.toArray.size : Int) - 1)) I1 rv hz i k q⟩
end
section
variable {K : PySem.W.Frag} {σ : L2.St} {H : Hp} {te : TE} {ds : List PyData}
theorem evd_revT (h : EvD te σ H (.tuple ds)) (hl : ds.length ≤ 100000) : EvD (tTupRv K te) σ H (.tuple ds.reverse) := fun H1 e Q q =>
  h H1 e _ fun v H2 e2 r => by
    obtain ⟨a, xs, rfl, k1, k2⟩ := r.seqT (K := K)
    exact ⟨a, xs, rfl, .inr k1, by rw [k2.len]; exact hl, fun p o hp ho => q _ _ (e2.trans (Ex.new hp)) ⟨p, _, o, rfl, upd_same, ho, k2.rev.ex (Ex.new hp)⟩⟩
theorem evd_revL (h : EvD te σ H (.list ds)) (hl : ds.length ≤ 100000) : EvD (tTupRv K te) σ H (.tuple ds.reverse) := fun H1 e Q q =>
  h H1 e _ fun v H2 e2 r => by
    obtain ⟨a, xs, rfl, k1, k2⟩ := r.seqL (K := K)
    exact ⟨a, xs, rfl, .inl k1, by rw [k2.len]; exact hl, fun p o hp ho => q _ _ (e2.trans (Ex.new hp)) ⟨p, _, o, rfl, upd_same, ho, k2.rev.ex (Ex.new hp)⟩⟩
end
end Bm

/-! Loops and comprehensions over tuples; sorted of webs; all; is True. -/
namespace Bm
open PySem PySem.Spec PyProof.Rows L2 Evl
section
variable {K : PySem.W.Frag} {σ : L2.St} {H H' : Hp} {ta tb te tl : TE} {t u : TT} {d x y z : PyData} {ds es : List PyData} {D : Ends} {tu tw : TS} {g : TG}
/-- over a tuple -/
theorem s_forT {α : Type} {f : α → PyData} {xs : List α} (h : EvD tl σ H (.tuple (xs.map f)))
    (k : ∀ H1, Ex H H1 → ∃ Pv : Nat → L2.St → Hp → Prop, Pv 0 σ H1 ∧ (∀ i σ' H', Pv i σ' H' → Ex H1 H') ∧
      (∀ i x v σ' H', xs[i]? = some x → Rp H' (f x) v → Pv i σ' H' → g v σ' H' fun σ2 H2 => tu { D with nx := Pv (i + 1), ct := Pv (i + 1), bk := D.nx } σ2 H2) ∧ ∀ σ' H', Pv xs.length σ' H' → D.nx σ' H') :
    tFor (iTup K tl) g tu D σ H := h H (Ex.refl H) _ fun v H1 e r => by
  obtain ⟨a, vs, o, e1, h1, _, h2⟩ := r
  obtain ⟨Pv, p0, pe, ps, pd⟩ := k H1 e
  have hl : vs.length = xs.length := by rw [h2.len, List.length_map]
  refine ⟨a, e1, ⟨vs, .inl (.inr ⟨o, h1⟩)⟩, for_tup (xs := vs) Pv p0 (fun i σ' H' _ p => .inl (.inr ⟨o, pe i σ' H' p a _ h1⟩)) (fun i v2 σ' H' hi p => ?_) (fun σ' H' p => pd σ' H' (hl ▸ p))⟩
  obtain ⟨d2, q1, q2⟩ := h2.getv hi
  obtain ⟨x, q3, rfl⟩ := map_get q1
  exact ps i x v2 σ' H' q3 (q2.ex (pe i σ' H' p)) p
theorem evn_lcT {α : Type} {f : α → PyData} {xs : List α} {vs : List Nat} {tt : TT} (c : α → Bool) (y : α → PyData) (h : EvD tl σ H (.tuple (xs.map f))) (hz : xs.length ≤ 50000)
    (turn : ∀ x v H1, x ∈ xs → Ex H H1 → Rp H1 (f x) v → ∃ σ2, (∀ Q : L2.St → Hp → Prop, Q σ2 H1 → g v (wipe σ vs) H1 Q) ∧ wipe σ2 vs = wipe σ vs ∧ EvT tt σ2 H1 (c x) ∧ (c x = true → EvD te σ2 H1 (y x)))
    (im : ∀ x ∈ xs, c x = true → imm (y x) = true) : EvN (tLc (iTup K tl) g tt te vs) σ H ((xs.filter c).map y) := fun H0 e0 Q q => h H0 e0 _ fun v H1 e1 r => by
  obtain ⟨a, ws, ob, ea, h1, _, h2⟩ := r
  have hl : ws.length = xs.length := by rw [h2.len, List.length_map]
  refine ⟨a, ea, ⟨ws, .inl (.inr ⟨ob, h1⟩)⟩, fun Dl hD => lc_tup (xs := ws) (fun i H' => Own H1 H' Dl (((xs.take i).filter c).map y)) ?_ (fun i H' _ o => .inl (.inr ⟨ob, o.ex a _ h1⟩)) (fun i x2 H' hi o => ?_) fun H' o => ?_⟩
  · exact ⟨hD, Ex.new hD, ⟨[], upd_same, RpA.nil⟩, rfl⟩
  · obtain ⟨d2, q1, q2⟩ := h2.getv hi
    obtain ⟨x, q3, rfl⟩ := map_get q1
    have hx : x ∈ xs := List.mem_of_getElem? q3
    obtain ⟨σ2, g1, g2, g3, g4⟩ := turn x x2 H' hx ((e0.trans e1).trans o.ex) (q2.ex o.ex)
    have hlen : i < xs.length := (List.getElem?_eq_some_iff.mp q3).1
    refine g1 _ ⟨g2, g3 H' (Ex.refl H') _ fun H3 e3 => ?_⟩
    have et : xs.take (i + 1) = xs.take i ++ [x] := by rw [List.take_add_one, q3]; rfl
    have o3 := o.step e3
    cases hc : c x with
    | true =>
      rw [if_pos rfl]
      refine g4 hc H3 e3 _ fun w H4 e4 r4 => ?_
      obtain ⟨acc, k1, k2⟩ := (o3.step e4).has
      have kt : KT H4 (upd H4 Dl (.lst (acc ++ [w]))) := KT.lst k1
      have hb : acc.length ≤ i := by
        rw [k2.len, List.length_map]
        exact Nat.le_trans (List.length_filter_le _ _) (by rw [List.length_take]; omega)
      refine ⟨acc, k1, sz_lt (by omega), o.new, ?_, ⟨_, upd_same, ?_⟩, ?_⟩
      · exact Ex.mut (o3.step e4).ex o.new
      · rw [et, List.filter_append, List.filter_cons, if_pos hc, List.map_append]
        exact (RpA.keep kt o.im k2).snoc (Rp.keep kt (im x hx hc) r4)
      · rw [et, List.filter_append, List.filter_cons, if_pos hc, List.map_append]
        exact immA_app o.im (immA_one (im x hx hc))
    | false =>
      rw [if_neg Bool.false_ne_true, et, List.filter_append, List.filter_cons, if_neg (by rw [hc]; exact Bool.false_ne_true), List.filter_nil, List.append_nil]
      exact o3
  · rw [hl, List.take_length] at o
    obtain ⟨acc, k1, k2⟩ := o.has
    exact q Dl acc H' (fresh_back e1 o.new) (e1.trans o.ex) k1 k2
/-! ### all, is -/
theorem cd_all {bs : List Bool} : CD (rAll K) [.list (bs.map PyData.bool)] H (.bool (bs.all id)) := fun H1 vs e r Q q => by
  obtain ⟨v, w, rfl, ⟨a, xs, rfl, h1, h2⟩, rfl⟩ := r
  obtain rfl := h2.bls
  exact ⟨a, bs, rfl, SqL.of h1, q _ H1 (Ex.refl H1) rfl⟩
theorem rd_isB {a b : Bool} : RD rIsB (.bool a) (.bool b) H (.bool (decide (a = b))) := rd_val fun H1 v u e r1 r2 => ⟨.bl (decide (a = b)), rfl, fun Q q => ⟨a, b, r1, r2, q⟩⟩
theorem rd_notB {a b : Bool} : RD rNotB (.bool a) (.bool b) H (.bool (!decide (a = b))) := rd_val fun H1 v u e r1 r2 => ⟨.bl (!decide (a = b)), rfl, fun Q q => ⟨a, b, r1, r2, q⟩⟩
end
/-! ### sorted of a web -/
def cdP (p : Int × Int) : Int := p.1 * 64 + p.2
def bdP (p : Int × Int) : Prop := (0 ≤ p.1 ∧ p.1 < 64) ∧ 0 ≤ p.2 ∧ p.2 < 64
theorem cdP_inj {p q : Int × Int} (hp : bdP p) (hq : bdP q) (h : cdP p = cdP q) : p = q := by
  obtain ⟨a, b⟩ := p
  obtain ⟨c, d⟩ := q
  unfold bdP at hp hq
  unfold cdP at h
  dsimp only at hp hq h
  rw [show a = c by omega, show b = d by omega]
def insW (x : Int × Int) : List (Int × Int) → List (Int × Int)
  | [] => [x]
  | y :: ys => if cdP x ≤ cdP y then x :: y :: ys else y :: insW x ys
def srtW : List (Int × Int) → List (Int × Int)
  | [] => []
  | x :: xs => insW x (srtW xs)
theorem insW_perm (x : Int × Int) : ∀ ys, (insW x ys).Perm (x :: ys)
  | [] => .refl _
  | y :: ys => by
    unfold insW
    by_cases h : cdP x ≤ cdP y
    · rw [if_pos h]
    · rw [if_neg h]
      exact ((insW_perm x ys).cons y).trans (.swap x y ys)
theorem srtW_perm : ∀ xs, (srtW xs).Perm xs
  | [] => .refl _
  | x :: xs => (insW_perm x (srtW xs)).trans ((srtW_perm xs).cons x)
theorem insW_pw {x : Int × Int} : ∀ {ys : List (Int × Int)}, ys.Pairwise (fun p q => cdP p ≤ cdP q) → (insW x ys).Pairwise (fun p q => cdP p ≤ cdP q)
  | [], _ => by simp [insW]
  | y :: ys, h => by
    unfold insW
    obtain ⟨h1, h2⟩ := List.pairwise_cons.mp h
    by_cases e : cdP x ≤ cdP y
    · rw [if_pos e]
      refine List.pairwise_cons.mpr ⟨fun z m => ?_, h⟩
      rcases List.mem_cons.mp m with rfl | m
      · exact e
      · exact Int.le_trans e (h1 z m)
    · rw [if_neg e]
      refine List.pairwise_cons.mpr ⟨fun z m => ?_, insW_pw h2⟩
      rcases List.mem_cons.mp ((insW_perm x ys).mem_iff.mp m) with rfl | m
      · omega
      · exact h1 z m
theorem srtW_pw : ∀ xs, (srtW xs).Pairwise (fun p q => cdP p ≤ cdP q)
  | [] => .nil
  | _ :: xs => insW_pw (srtW_pw xs)
/-- rising rows of the same are the same -/
theorem srtW_uniq : ∀ {a b : List (Int × Int)}, a.Perm b → (∀ p ∈ a, bdP p) → a.Pairwise (fun p q => cdP p ≤ cdP q) → b.Pairwise (fun p q => cdP p ≤ cdP q) → a = b
  | [], b, h, _, _, _ => by rw [h.nil_eq]
  | x :: a, [], h, _, _, _ => by have := h.length_eq; simp at this
  | x :: a, y :: b, h, hb, h1, h2 => by
    have hby : ∀ p ∈ y :: b, bdP p := fun p m => hb p (h.mem_iff.mpr m)
    have e : x = y := by
      refine cdP_inj (hb x List.mem_cons_self) (hby y List.mem_cons_self) (Int.le_antisymm ?_ ?_)
      · rcases List.mem_cons.mp (h.mem_iff.mpr List.mem_cons_self : y ∈ x :: a) with e | m
        · rw [e]; exact Int.le_refl _
        · exact (List.pairwise_cons.mp h1).1 y m
      · rcases List.mem_cons.mp (h.mem_iff.mp List.mem_cons_self : x ∈ y :: b) with e | m
        · rw [e]; exact Int.le_refl _
        · exact (List.pairwise_cons.mp h2).1 x m
    subst e
    rw [srtW_uniq ((List.perm_cons x).mp h) (fun p m => hb p (List.mem_cons_of_mem _ m)) (List.pairwise_cons.mp h1).2 (List.pairwise_cons.mp h2).2]
theorem srtW_of {a b : List (Int × Int)} (h : a.Perm b) (hb : ∀ p ∈ a, bdP p) (p : a.Pairwise (fun p q => cdP p ≤ cdP q)) : a = srtW b := srtW_uniq (h.trans (srtW_perm b).symm) hb p (srtW_pw b)
theorem srtW_congr {a b : List (Int × Int)} (h : a.Perm b) (hb : ∀ p ∈ a, bdP p) : srtW a = srtW b := srtW_of ((srtW_perm a).trans h) (fun p m => hb p ((srtW_perm a).mem_iff.mp m)) (srtW_pw a)
theorem rpa_perm {α : Type} {f : α → PyData} {H : Hp} {xs ys : List V} (h : xs.Perm ys) : ∀ {ps : List α}, RpA H (ps.map f) xs → ∃ qs : List α, qs.Perm ps ∧ RpA H (qs.map f) ys := by
  induction h with
  | nil => exact fun {ps} r => ⟨ps, .refl _, r⟩
  | cons x _ ih =>
    intro ps r
    cases ps with
    | nil => exact absurd r.len (by simp)
    | cons p ps =>
      obtain ⟨v, t, e, r1, r2⟩ := r
      cases e
      obtain ⟨qs, h1, h2⟩ := ih r2
      exact ⟨p :: qs, h1.cons p, RpA.cons r1 h2⟩
  | swap x y l =>
    intro ps r
    match ps, r with
    | [], r => exact absurd r.len (by simp)
    | [p], r => exact absurd r.len (by simp)
    | p :: q :: ps, r =>
      obtain ⟨v, t, e, r1, v2, t2, e2, r2, r3⟩ := r
      cases e
      cases e2
      exact ⟨q :: p :: ps, .swap _ _ _, RpA.cons r2 (RpA.cons r1 r3)⟩
  | trans _ _ ih1 ih2 =>
    intro ps r
    obtain ⟨qs, h1, h2⟩ := ih1 r
    obtain ⟨us, h3, h4⟩ := ih2 h2
    exact ⟨us, h3.trans h1, h4⟩
theorem code_pD (p : Int × Int) : TS.code 64 [p.1, p.2] = cdP p := code_pair p.1 p.2
section
variable {X : Cx} {K : PySem.W.Frag} {H : Hp}
theorem cr_sortedWK (h : X.K = K := by rfl) : CallR X (.builtin "sorted") (rSortU K 2 64) := h ▸ cr_sortT (by decide)
theorem cn_sortW {ps : List (Int × Int)} (hl : ps.length < 64) (hb : ∀ p ∈ ps, bdP p) : CN (rSortU K 2 64) [wD ps] H ((srtW ps).map pD) := fun H1 vs e r Q q => by
  obtain ⟨v, t, rfl, ⟨a, xs, rfl, k1, k2⟩, rfl⟩ := r
  refine ⟨a, xs, rfl, SqL.of k1, by rw [k2.len, List.length_map]; exact hl, fun x hx => ?_, fun ys p hp hpw hn => ?_⟩
  · obtain ⟨i, hi⟩ := List.getElem?_of_mem hx
    obtain ⟨d, q1, q2⟩ := k2.getv hi
    obtain ⟨pr, q3, rfl⟩ := map_get q1
    obtain ⟨b, o, rfl, g1, _⟩ := q2.pD
    obtain ⟨z1, z2⟩ := hb pr (List.mem_of_getElem? q3)
    exact ⟨[pr.1, pr.2], ⟨b, rfl, .inl (.inr ⟨o, g1⟩)⟩, rfl, fun m hm => by
      rcases List.mem_cons.mp hm with rfl | hm
      · exact z1
      · rw [List.mem_singleton.mp hm]; exact z2⟩
  · obtain ⟨qs, h1, h2⟩ := rpa_perm hp.symm (ps := ps) k2
    have es : qs = srtW ps := by
      refine srtW_of h1 (fun p m => hb p (h1.mem_iff.mp m)) ?_
      rw [List.pairwise_iff_getElem] at hpw ⊢
      intro i j hi hj hij
      have li : ys.length = qs.length := by rw [h2.len, List.length_map]
      have gi : ∀ n (hn : n < qs.length), TupI K H1 (ys[n]'(by omega)) [qs[n].1, qs[n].2] := fun n hn => by
        have z := h2.get2 (i := n) (d := pD qs[n]) (v := ys[n]'(by omega)) (by rw [List.getElem?_map, List.getElem?_eq_getElem hn]; rfl) (List.getElem?_eq_getElem (by omega))
        obtain ⟨b, o, e1, g1, _⟩ := z.pD
        exact ⟨b, e1, .inl (.inr ⟨o, g1⟩)⟩
      have z := hpw i j (by omega) (by omega) hij _ _ (gi i hi) (gi j hj)
      rwa [code_pD, code_pD] at z
    rw [es] at h2
    exact q p ys _ hn (Ex.new hn) upd_same (h2.ex (Ex.new hn))
end
end Bm

/-! len(set(..)), the last item, not in a web. -/
namespace Bm
open PySem PySem.Spec PyProof.Rows L2 Evl
/-- where a comprehension within another one stands -/
def asgVal (s : Stmt) : Expr := match s with
  | .Assign _ v _ => v
  | _ => .Name "" ⟨0, 0, 0, 0⟩
def compSc (e : Expr) : Scope := match e with
  | .ListComp _ _ sc _ => sc
  | _ => defScope (.Pass ⟨0, 0, 0, 0⟩)
section
variable {X : Cx} {K : PySem.W.Frag}
theorem pe_lenSetIK {a : Expr} {ta : TE} {p p2 q pos : Pos} (hc : X.calm = true) (hg : Gl X "len") (hm : X.mg "len" = none) (hg2 : Gl X "set") (hm2 : X.mg "set" = none) (ha : PE X a ta)
    (hK : X.K = K := by rfl) (na : starEach [a] X.env = (false, eval a X.env) :: starEach [] X.env := by rfl) : PE X (.Call (.Name "len" p) [.Call (.Name "set" p2) [a] [] q] [] pos) (tLenSetI K ta) := hK ▸ pe_lenSetI hc hg hm hg2 hm2 ha na
end
section
variable {K : PySem.W.Frag} {σ : L2.St} {H : Hp} {te : TE}
theorem evd_lenSet {ns : List Int} (h : EvD te σ H (iL ns)) (hl : ns.length < 64) (n : ns.Nodup) : EvD (tLenSetI K te) σ H (.int ns.length) := fun H1 e Q q => h H1 e _ fun v H2 e2 r => by
  obtain ⟨a, rfl, k⟩ := r.iL
  exact ⟨a, ns, rfl, SqL.of k, hl, n, q _ H2 e2 rfl⟩
theorem rd_niW {p : Int × Int} {ps : List (Int × Int)} : RD (rNotInD K) (pD p) (wD ps) H (.bool (!decide (p ∈ ps))) := rd_val fun H1 v u ex r1 r2 =>
  ⟨.bl (!decide (p ∈ ps)), rfl, fun Q q => ⟨pD p, ps.map pD, r1.dp, r2.dp, (cmp_pD p).shaped (by decide), (cmp_wD ps).shaped (by decide), by rw [show ((ps.map pD).any fun z => PyData.eqv z (pD p)) = decide (p ∈ ps) from (any_eqv cmp_pD (fun a b => pD_inj) p ps).trans (decide_eq_decide.mpr Iff.rfl)]; exact q⟩⟩
theorem atI_m1 {α : Type} {xs : List α} {x : α} (h : xs[xs.length - 1]? = some x) : atI xs (-1) = some x := by
  have hl : 0 < xs.length := by
    have := (List.getElem?_eq_some_iff.mp h).1
    omega
  have e : ixN xs.length (-1) = some (xs.length - 1) := by
    unfold ixN
    rw [if_neg (by omega), if_pos (by omega)]
    congr 1
    omega
  unfold atI
  rw [e]
  exact h
end
/-! ### sorted of a list of ints; a loop over a new list -/
section
variable {X : Cx} {K : PySem.W.Frag} {σ : L2.St} {H : Hp} {tl : TE} {D : Ends} {g : TG} {tu : TS}
theorem cr_sortedIK (h : X.K = K := by rfl) : CallR X (.builtin "sorted") (rSortedI K) := h ▸ cr_sortedI
theorem cn_sortI {ns : List Int} : CN (rSortedI K) [iL ns] H ((srt ns).map PyData.int) := fun H1 vs e r Q q => by
  obtain ⟨v, t, rfl, hv, rfl⟩ := r
  obtain ⟨a, rfl, k⟩ := hv.iL
  refine ⟨a, ns, rfl, SqL.of k, fun ns' p h1 h2 hn => ?_⟩
  rw [srt_of h1 h2]
  exact q p _ _ hn (Ex.new hn) upd_same (rpa_ints _)
/-- over a new list: other new lists may change -/
theorem s_forN {α : Type} {f : α → PyData} {xs : List α} (h : EvN tl σ H (xs.map f)) (im : ∀ x ∈ xs, imm (f x) = true)
    (k : ∀ p vs H1, H p = none → Ex H H1 → H1 p = some (.lst vs) → ∃ Pv : Nat → L2.St → Hp → Prop, Pv 0 σ H1 ∧ (∀ i σ' H', Pv i σ' H' → KT H1 H' ∧ H' p = some (.lst vs)) ∧
      (∀ i x v σ' H', xs[i]? = some x → Rp H' (f x) v → Pv i σ' H' → g v σ' H' fun σ2 H2 => tu { D with nx := Pv (i + 1), ct := Pv (i + 1), bk := D.nx } σ2 H2) ∧ ∀ σ' H', Pv xs.length σ' H' → D.nx σ' H') :
    tFor (iList K tl) g tu D σ H := h H (Ex.refl H) _ fun p vs H1 hp e h1 h2 => by
  obtain ⟨Pv, p0, pe, ps, pd⟩ := k p vs H1 hp e h1
  have hl : vs.length = xs.length := by rw [h2.len, List.length_map]
  refine ⟨p, rfl, ⟨vs, SqL.of h1⟩, for_list (xs := vs) Pv p0 (fun i σ' H' _ q => SqL.of (pe i σ' H' q).2) (fun i v2 σ' H' hi q => ?_) (fun σ' H' q => pd σ' H' (hl ▸ q))⟩
  obtain ⟨d2, q1, q2⟩ := h2.getv hi
  obtain ⟨x, q3, rfl⟩ := map_get q1
  exact ps i x v2 σ' H' q3 (Rp.keep (pe i σ' H' q).1 (im x (List.mem_of_getElem? q3)) q2) q
end
/-- a branching with a place behind it told once -/
theorem joinK {A : Type} {D : Ends} {s : TS} {σ : L2.St} {H : Hp} (mk : A → L2.St) (J : A → Hp → Prop) (cont : ∀ w H', J w H' → D.nx (mk w) H') (main : (∀ w H', J w H' → D.nx (mk w) H') → s D σ H) : s D σ H := main cont
/-! ### a new list that is only read -/
def NL (H0 H' : Hp) (ds : List PyData) (v : V) : Prop := ∃ a vs, v = .ref a ∧ H0 a = none ∧ H' a = some (.lst vs) ∧ RpA H' ds vs
theorem NL.rp {H0 H' : Hp} {ds : List PyData} {v : V} (h : NL H0 H' ds v) : Rp H' (.list ds) v := by
  obtain ⟨a, vs, e, _, k1, k2⟩ := h
  exact ⟨a, vs, e, k1, k2⟩
theorem NL.ex {H0 H1 H2 : Hp} {ds : List PyData} {v : V} (h : NL H0 H1 ds v) (e : Ex H1 H2) : NL H0 H2 ds v := by
  obtain ⟨a, vs, e1, n, k1, k2⟩ := h
  exact ⟨a, vs, e1, n, e _ _ k1, k2.ex e⟩
theorem s_asgNL {H0 H : Hp} {te : TE} {σ : L2.St} {D : Ends} {i : Nat} {ds : List PyData} (h : EvN te σ H ds) (e0 : Ex H0 H) (k : ∀ v H1, Ex H H1 → NL H0 H1 ds v → D.nx (σ.set i (some v)) H1) : tAsg te (gName i) D σ H :=
  h H (Ex.refl H) _ fun p vs H1 hp e h1 h2 => k _ H1 e ⟨p, vs, rfl, fresh_back e0 hp, h1, h2⟩
theorem EvN.is {te : TE} {σ : L2.St} {H : Hp} {ds es : List PyData} (h : EvN te σ H ds) (e : ds = es) : EvN te σ H es := e ▸ h
end Bm

namespace Bm
open PySem PySem.Spec PyProof.Rows L2 Evl
def topS (i : Nat) : Stmt := PySem.Challenge.pw_beatmakers_k03_whole_voters_for_each_web.main.body.getD i (.Pass ⟨0, 0, 0, 0⟩)
abbrev s_look_at_count : Stmt := topS 7
theorem c_look_at_count : FnScope ["many"] ["many"] (defScope s_look_at_count) := ⟨rfl, rfl, rfl, by decide +kernel, rfl, by decide +kernel, by decide +kernel⟩
abbrev s_look_at_voters : Stmt := topS 8
theorem c_look_at_voters : FnScope ["many", "voters", "voter"] ["many", "voters"] (defScope s_look_at_voters) := ⟨rfl, rfl, rfl, by decide +kernel, rfl, by decide +kernel, by decide +kernel⟩
abbrev s_lead_of : Stmt := topS 9
theorem c_lead_of : FnScope ["voters", "one", "other", "found", "voter"] ["voters", "one", "other"] (defScope s_lead_of) := ⟨rfl, rfl, rfl, by decide +kernel, rfl, by decide +kernel, by decide +kernel⟩
abbrev s_beats_of : Stmt := topS 10
theorem c_beats_of : FnScope ["many", "voters", "found", "one", "other"] ["many", "voters"] (defScope s_beats_of) := ⟨rfl, rfl, rfl, by decide +kernel, rfl, by decide +kernel, by decide +kernel⟩
abbrev s_web_of : Stmt := topS 11
theorem c_web_of : FnScope ["many", "voters"] ["many", "voters"] (defScope s_web_of) := ⟨rfl, rfl, rfl, by decide +kernel, rfl, by decide +kernel, by decide +kernel⟩
abbrev s_look_at_web : Stmt := topS 13
theorem c_look_at_web : FnScope ["many", "web", "met", "one", "other"] ["many", "web"] (defScope s_look_at_web) := ⟨rfl, rfl, rfl, by decide +kernel, rfl, by decide +kernel, by decide +kernel⟩
abbrev s_two_for : Stmt := topS 15
theorem c_two_for : FnScope ["many", "one", "other", "rest", "thing"] ["many", "one", "other"] (defScope s_two_for) := ⟨rfl, rfl, rfl, by decide +kernel, rfl, by decide +kernel, by decide +kernel⟩
abbrev s_makers : Stmt := topS 16
theorem c_makers : FnScope ["many", "web", "found", "one", "other"] ["many", "web"] (defScope s_makers) := ⟨rfl, rfl, rfl, by decide +kernel, rfl, by decide +kernel, by decide +kernel⟩
abbrev s_make : Stmt := topS 17
theorem c_make : FnScope ["many", "voters", "web"] ["many", "voters", "web"] (defScope s_make) := ⟨rfl, rfl, rfl, by decide +kernel, rfl, by decide +kernel, by decide +kernel⟩
abbrev s_makes : Stmt := topS 18
theorem c_makes : FnScope ["many", "voters", "web"] ["many", "voters", "web"] (defScope s_makes) := ⟨rfl, rfl, rfl, by decide +kernel, rfl, by decide +kernel, by decide +kernel⟩
abbrev s__law_cell_at : Stmt := topS 20
theorem c__law_cell_at : FnScope ["script", "k"] ["script", "k"] (defScope s__law_cell_at) := ⟨rfl, rfl, rfl, by decide +kernel, rfl, by decide +kernel, by decide +kernel⟩
abbrev s__law_whole : Stmt := topS 21
theorem c__law_whole : FnScope ["found"] ["found"] (defScope s__law_whole) := ⟨rfl, rfl, rfl, by decide +kernel, rfl, by decide +kernel, by decide +kernel⟩
abbrev s__law_order : Stmt := topS 22
theorem c__law_order : FnScope ["cell", "many", "left", "order", "k"] ["cell", "many"] (defScope s__law_order) := ⟨rfl, rfl, rfl, by decide +kernel, rfl, by decide +kernel, by decide +kernel⟩
abbrev s__law_voters : Stmt := topS 23
theorem c__law_voters : FnScope ["script", "start", "many", "most", "count", "voters", "more", "k"] ["script", "start", "many", "most"] (defScope s__law_voters) := ⟨rfl, rfl, rfl, by decide +kernel, rfl, by decide +kernel, by decide +kernel⟩
abbrev s__law_lead : Stmt := topS 24
theorem c__law_lead : FnScope ["voters", "one", "other", "ahead", "voter"] ["voters", "one", "other"] (defScope s__law_lead) := ⟨rfl, rfl, rfl, by decide +kernel, rfl, by decide +kernel, by decide +kernel⟩
abbrev s__law_beats : Stmt := topS 25
theorem c__law_beats : FnScope ["many", "voters", "found", "one", "other"] ["many", "voters"] (defScope s__law_beats) := ⟨rfl, rfl, rfl, by decide +kernel, rfl, by decide +kernel, by decide +kernel⟩
abbrev s__law_web : Stmt := topS 26
theorem c__law_web : FnScope ["script", "start", "many", "cell", "way", "web", "stand", "one", "other", "wish", "turn"] ["script", "start", "many"] (defScope s__law_web) := ⟨rfl, rfl, rfl, by decide +kernel, rfl, by decide +kernel, by decide +kernel⟩
abbrev s__law_is_order : Stmt := topS 27
theorem c__law_is_order : FnScope ["found", "many", "thing"] ["found", "many"] (defScope s__law_is_order) := ⟨rfl, rfl, rfl, by decide +kernel, rfl, by decide +kernel, by decide +kernel⟩
abbrev s__law_is_voters : Stmt := topS 28
theorem c__law_is_voters : FnScope ["found", "many", "voter"] ["found", "many"] (defScope s__law_is_voters) := ⟨rfl, rfl, rfl, by decide +kernel, rfl, by decide +kernel, by decide +kernel⟩
abbrev s_law : Stmt := topS 29
theorem c_law : FnScope ["script", "many", "web", "due", "one", "other", "rest", "handed", "turn", "found", "voters", "some", "copies", "answer", "thing"] ["script"] (defScope s_law) := ⟨rfl, rfl, rfl, by decide +kernel, rfl, by decide +kernel, by decide +kernel⟩
local macro_rules | `(tactic| wtm_at "rp") => `(tactic| first | exact rp_int | exact rp_bl | exact rp_str | exact rp_non | assumption | (refine' Rp.ex ?e ?h; (case h => assumption); (case e => assumption)) | exact Own.rp (by assumption))
local macro_rules | `(tactic| wtm_at "side") => `(tactic| first | assumption | omega | decide | rfl | exact ⟨by omega, by omega⟩)
local macro_rules | `(tactic| wtm_at "es") => `(tactic| first | exact evs_nil | (refine' evs_cons ?a ?b; (case a => wtm_at "ev"); (case b => wtm_at "es")))
local macro_rules | `(tactic| wtm_at "ev") => `(tactic| first
  | exact evd_int | exact evd_str | exact evd_bl | exact evd_non
  | (refine' evd_var rfl ?h; (case h => wtm_at "rp"))
  | ((with_reducible refine' evd_op ?a ?b rd_addI); (case a => wtm_at "ev"); (case b => wtm_at "ev"))
  | ((with_reducible refine' evd_op ?a ?b rd_subI); (case a => wtm_at "ev"); (case b => wtm_at "ev"))
  | ((with_reducible refine' evd_op ?a ?b (rd_mulI ?c)); (case a => wtm_at "ev"); (case b => wtm_at "ev"); (case c => wtm_at "side"))
  | ((with_reducible refine' evd_op ?a ?b (rd_divI ?c)); (case a => wtm_at "ev"); (case b => wtm_at "ev"); (case c => wtm_at "side"))
  | ((with_reducible refine' evd_op ?a ?b (rd_modI ?c)); (case a => wtm_at "ev"); (case b => wtm_at "ev"); (case c => wtm_at "side"))
  | ((with_reducible refine' evd_op ?a ?b rd_ltI); (case a => wtm_at "ev"); (case b => wtm_at "ev"))
  | ((with_reducible refine' evd_op ?a ?b rd_leI); (case a => wtm_at "ev"); (case b => wtm_at "ev"))
  | ((with_reducible refine' evd_op ?a ?b rd_gtI); (case a => wtm_at "ev"); (case b => wtm_at "ev"))
  | ((with_reducible refine' evd_op ?a ?b rd_geI); (case a => wtm_at "ev"); (case b => wtm_at "ev"))
  | ((with_reducible refine' evd_op ?a ?b rd_eqI); (case a => wtm_at "ev"); (case b => wtm_at "ev"))
  | ((with_reducible refine' evd_op ?a ?b rd_neI); (case a => wtm_at "ev"); (case b => wtm_at "ev"))
  | ((with_reducible refine' evd_op ?a ?b rd_eqB); (case a => wtm_at "ev"); (case b => wtm_at "ev"))
  | ((with_reducible refine' evd_op ?a ?b rd_neB); (case a => wtm_at "ev"); (case b => wtm_at "ev"))
  | ((with_reducible refine' evd_op ?a ?b rd_isNo); (case a => wtm_at "ev"); (case b => wtm_at "ev"))
  | ((with_reducible refine' evd_op ?a ?b rd_notNo); (case a => wtm_at "ev"); (case b => wtm_at "ev"))
  | ((with_reducible refine' evd_op ?a ?b rd_inIL); (case a => wtm_at "ev"); (case b => wtm_at "ev"))
  | ((with_reducible refine' evd_op ?a ?b rd_niIL); (case a => wtm_at "ev"); (case b => wtm_at "ev"))
  | ((with_reducible refine' evd_op ?a ?b rd_inID); (case a => wtm_at "ev"); (case b => wtm_at "ev"))
  | ((with_reducible refine' evd_op ?a ?b rd_niID); (case a => wtm_at "ev"); (case b => wtm_at "ev"))
  | ((with_reducible refine' evd_neg ?a); (case a => wtm_at "ev"))
  | ((with_reducible refine' evd_tix ?a ?b ?c); (case a => wtm_at "ev"); (case b => wtm_at "ev"); (case c => wtm_at "side"))
  | ((with_reducible refine' evd_tup ?a ?b); (case a => wtm_at "es"); (case b => exact Nat.le_of_ble_eq_true rfl))
  | ((with_reducible refine' evd_cb ?a cd_lenL); (case a => wtm_at "es"))
  | ((with_reducible refine' evd_cb ?a cd_lenT); (case a => wtm_at "es"))
  | ((with_reducible refine' evd_cb ?a cd_intB); (case a => wtm_at "es"))
  | ((with_reducible refine' evd_cb ?a cd_tupL); (case a => wtm_at "es"))
  | ((with_reducible refine' evd_and ?a ?b); (case a => wtm_at "ev"); (case b => intro _; wtm_at "ev"))
  | ((with_reducible refine' evd_or ?a ?b); (case a => wtm_at "ev"); (case b => intro _; wtm_at "ev"))
  | ((with_reducible refine' evd_not ?a); (case a => wtm_at "ev"))
  | ((with_reducible refine' evd_op ?a ?b rd_neIL); (case a => wtm_at "ev"); (case b => wtm_at "ev"))
  | ((with_reducible refine' evd_op ?a ?b rd_eqIL); (case a => wtm_at "ev"); (case b => wtm_at "ev"))
  | ((with_reducible refine' EvN.toD ?a); (case a => wtm_at "en")))
local macro_rules | `(tactic| wtm_at "en") => `(tactic| first
  | ((with_reducible refine' evn_cb ?a cn_sortTI); (case a => wtm_at "es"))
  | ((with_reducible refine' evn_cb ?a cn_listL); (case a => wtm_at "es"))
  | ((with_reducible refine' evn_cb ?a cn_listT); (case a => wtm_at "es"))
  | ((with_reducible refine' evn_rng ?a ?b); (case a => wtm_at "ev"); (case b => wtm_at "side"))
  | ((with_reducible refine' evn_lst ?a ?b); (case a => wtm_at "es"); (case b => exact Nat.le_of_ble_eq_true rfl))
  | ((with_reducible refine' evn_cat ?a ?b ?c); (case a => wtm_at "ev"); (case b => wtm_at "ev"); (case c => wtm_at "side"))
  | ((with_reducible refine' evn_slL ?a ?b ?c); (case a => wtm_at "ev"); (case b => first | exact evp_none | (refine' evp_some ?d; (case d => wtm_at "ev"))); (case c => first | exact evp_none | (refine' evp_some ?d; (case d => wtm_at "ev")))))
local macro_rules | `(tactic| wtm_at "et") => `(tactic| first
  | exact et_yes
  | (refine' ett ?a; (case a => wtm_at "ev"))
  | (refine' etB ?a; (case a => wtm_at "ev"))
  | (refine' et_and ?a ?b; (case a => wtm_at "et"); (case b => intro _; wtm_at "et"))
  | (refine' et_or ?a ?b; (case a => wtm_at "et"); (case b => intro _; wtm_at "et"))
  | (refine' et_not ?a; (case a => wtm_at "et")))
local macro_rules | `(tactic| wtm_at "nx") => `(tactic| try dsimp only [tSeq, tNext])
/-! ### leads, beats, plain -/
/-- what one order gives: 1 where a is ahead of b -/
def sgn1 (v : List Int) (a b : Int) : Int := if ixOf a v < ixOf b v then 1 else -1
def leadF (vs : List (List Int)) (a b : Int) : Int := (vs.map fun v => sgn1 v a b).sum
theorem leadF_snoc (vs : List (List Int)) (v : List Int) (a b : Int) : leadF (vs ++ [v]) a b = leadF vs a b + sgn1 v a b := by
  unfold leadF
  rw [List.map_append, List.sum_append]
  simp
theorem leadF_app (vs ws : List (List Int)) (a b : Int) : leadF (vs ++ ws) a b = leadF vs a b + leadF ws a b := by
  unfold leadF
  rw [List.map_append, List.sum_append]
theorem leadF_take {vs : List (List Int)} {v : List Int} {i : Nat} (h : vs[i]? = some v) (a b : Int) : leadF (vs.take (i + 1)) a b = leadF (vs.take i) a b + sgn1 v a b := by
  rw [List.take_add_one, h]
  exact leadF_snoc _ _ _ _
theorem leadF_abs (a b : Int) : ∀ vs : List (List Int), -(vs.length : Int) ≤ leadF vs a b ∧ leadF vs a b ≤ (vs.length : Int)
  | [] => by simp [leadF]
  | v :: vs => by
    have ih := leadF_abs a b vs
    have e : leadF (v :: vs) a b = sgn1 v a b + leadF vs a b := by unfold leadF; rw [List.map_cons, List.sum_cons]
    rw [e, List.length_cons]
    unfold sgn1
    split <;> omega
/-- an order of m things -/
def isOrd (m : Int) (v : List Int) : Prop := srt v = rgI 0 m.toNat
instance (m : Int) (v : List Int) : Decidable (isOrd m v) := inferInstanceAs (Decidable (_ = _))
theorem isOrd_iff {m : Int} {v : List Int} : isOrd m v ↔ v.Perm (rgI 0 m.toNat) := srt_iff
theorem isOrd.mem {m : Int} {v : List Int} (h : isOrd m v) {x : Int} : x ∈ v ↔ 0 ≤ x ∧ x < m := by
  rw [(isOrd_iff.mp h).mem_iff, mem_rgI]
  omega
theorem isOrd.len {m : Int} {v : List Int} (h : isOrd m v) : v.length = m.toNat := by rw [(isOrd_iff.mp h).length_eq, rgI_len]
theorem rgI_nodup (lo : Int) (n : Nat) : (rgI lo n).Nodup := by
  unfold rgI
  exact List.pairwise_map.mpr (List.pairwise_lt_range.imp fun {i j} l z => by omega)
theorem isOrd.nodup {m : Int} {v : List Int} (h : isOrd m v) : v.Nodup := (isOrd_iff.mp h).nodup_iff.mpr (rgI_nodup 0 m.toNat)
def isVot (m : Int) (vs : List (List Int)) : Prop := ∀ v ∈ vs, isOrd m v
instance (m : Int) (vs : List (List Int)) : Decidable (isVot m vs) := inferInstanceAs (Decidable (∀ v ∈ vs, isOrd m v))
/-- the beats of one thing, the beats of all -/
def beatsOne (m : Int) (vs : List (List Int)) (a : Int) : List (Int × Int) := ((rgI 0 m.toNat).filter fun b => !decide (a = b) && decide (0 < leadF vs a b)).map fun b => (a, b)
def beatsF (m : Int) (vs : List (List Int)) : List (Int × Int) := ((rgI 0 m.toNat).map (beatsOne m vs)).flatten
/-! ### look_at_count -/
def okCount (m : Int) : Prop := 1 ≤ m ∧ m ≤ 6
instance (m : Int) : Decidable (okCount m) := inferInstanceAs (Decidable (_ ∧ _))
def sp_look_at_count (C : Addr) : Sp := spO (α := Int) (fun m => [.int m]) (fun _ => True) fun m => if okCount m then .val .none else .exc C
theorem len_look_at_count {C_BadCount : Addr} (vs : List V) (H : Hp) (Q : VK) (E : XK) (h : (sp_look_at_count C_BadCount) vs H Q E) : vs.length = 1 := by
  unfold sp_look_at_count at h
  obtain ⟨a, r, _⟩ := h
  rw [r.len]
  rfl
section
variable {P : Program} {w : World} {K : PySem.W.Frag} {mg : Str → Option Value} {base : Heap}
theorem ok_look_at_count {f : Addr} {fd : FuncData} (D : Df K mg "look_at_count" s_look_at_count ["many"] f fd) (Bi : Bi mg) {C_BadCount : Addr} (X_BadCount : Xc K mg "BadCount" C_BadCount) {t_MOST_THINGS : Tok} (K_MOST_THINGS : mg "MOST_THINGS" = some (.int 6 t_MOST_THINGS)) : FnOk P w K mg base (L2.CX P w) 1 f fd ["many"] (sp_look_at_count C_BadCount) := by
  refine D.F.okX c_look_at_count (fun vs H Q E h => len_look_at_count _ _ _ _ h) (fun cdv A outer s H vs Q E hr h => ?_)
  refine ⟨_, (pss_one (ps_if (PW.pt (pw_or (pt_cmpR op_ltI (pv 0) pe_int (nomark _)) (pw_or1 (pt_cmpR op_gtI (pv 0) (pe_glob (v := .int 6) (by rfl) K_MOST_THINGS ⟨_, rfl⟩) (nomark _)))))
      (pss_one (ps_raise rfl (takes_of rfl rfl rfl rfl) (pmk_own PySem.F.excBase_ValueError X_BadCount.x X_BadCount.g X_BadCount.k (raises_own X_BadCount.b X_BadCount.t) (by exact rfl))))
      pss_nil)), ?_⟩
  obtain ⟨m, ⟨v, _, rfl, rfl, rfl⟩, -, q⟩ := h
  dsimp only at q
  refine' s_if (b := _) ?t ?yes ?no
  case t => wtm_at "et"
  case yes =>
    intro hb H1 e1
    have hm : ¬ okCount m := by unfold okCount; simp at hb; omega
    rw [if_neg hm] at q
    exact q H1 e1
  case no =>
    intro hb H1 e1
    have hm : okCount m := by unfold okCount; simp at hb; omega
    rw [if_pos hm] at q
    exact q .non H1 e1 rfl
end
/-! ### look_at_voters -/
def chkV (C1 C2 : Addr) (m : Int) (vss : List (List Int)) (o : Out) : Out := if okCount m then (if isVot m vss then o else .exc C2) else .exc C1
theorem chkV_go {C1 C2 : Addr} {m : Int} {vss : List (List Int)} {o : Out} {H H1 : Hp} {Q : VK} {E : XK} {N : Hp → Prop} (q : Gives H Q E (chkV C1 C2 m vss o)) (e : Ex H H1)
    (k : okCount m → isVot m vss → Gives H Q E o → ∀ H2, Ex H1 H2 → N H2) : Gives H1 (fun _ H2 => N H2) E (chkV C1 C2 m vss (.val .none)) := by
  unfold chkV at q ⊢
  by_cases h1 : okCount m
  · rw [if_pos h1] at q ⊢
    by_cases h2 : isVot m vss
    · rw [if_pos h2] at q ⊢
      exact fun v H2 e2 _ => k h1 h2 q H2 e2
    · rw [if_neg h2] at q ⊢
      exact fun H2 e2 => q H2 (e.trans e2)
  · rw [if_neg h1] at q ⊢
    exact fun H2 e2 => q H2 (e.trans e2)
theorem chkV_ok {C1 C2 : Addr} {m : Int} {vss : List (List Int)} {o : Out} (h1 : okCount m) (h2 : isVot m vss) : chkV C1 C2 m vss o = o := by
  unfold chkV
  rw [if_pos h1, if_pos h2]
def sp_look_at_voters (C1 C2 : Addr) : Sp := spO (α := Int × List (List Int)) (fun a => [.int a.1, vD a.2]) (fun _ => True) fun a => chkV C1 C2 a.1 a.2 (.val .none)
theorem len_look_at_voters {C_BadCount : Addr} {C_BadVoter : Addr} (vs : List V) (H : Hp) (Q : VK) (E : XK) (h : (sp_look_at_voters C_BadCount C_BadVoter) vs H Q E) : vs.length = 2 := by
  unfold sp_look_at_voters at h
  obtain ⟨a, r, _⟩ := h
  rw [r.len]
  rfl
section
variable {P : Program} {w : World} {K : PySem.W.Frag} {mg : Str → Option Value} {base : Heap}
theorem ok_look_at_voters {f : Addr} {fd : FuncData} (D : Df K mg "look_at_voters" s_look_at_voters ["many", "voters"] f fd) (Bi : Bi mg) {C_BadVoter : Addr} (X_BadVoter : Xc K mg "BadVoter" C_BadVoter) {f_look_at_count : Addr} {fd_look_at_count : FuncData} (D_look_at_count : Df K mg "look_at_count" s_look_at_count ["many"] f_look_at_count fd_look_at_count) (G_look_at_count : FnOk P w K mg base (L2.CX P w) 1 f_look_at_count fd_look_at_count ["many"] (sp_look_at_count C_BadCount)) : FnOk P w K mg base (L2.CX P w) 2 f fd ["many", "voters"] (sp_look_at_voters C_BadCount C_BadVoter) := by
  refine D.F.okX c_look_at_voters (fun vs H Q E h => len_look_at_voters _ _ _ _ h) (fun cdv A outer s H vs Q E hr h => ?_)
  refine ⟨_, (pss_cons (ps_expr (pe_callS G_look_at_count (hr.mono (by decide)) (by rfl) D_look_at_count.g D_look_at_count.F.kp D_look_at_count.b (fun σ => passAt (takes_of rfl rfl rfl rfl) σ) (pa_cons (pv 0) pa_nil)))
      (pss_one (ps_for (passes_of rfl) rfl (pi_listK (K := K) (pv 1)) (pg_name (i := 2) c_look_at_voters.nd rfl (.inl rfl))
      (pss_one (ps_if (pt_cmpR (op_neDK (K := K) hr.units) (pe_callB (cr_sortedTIK (K := K)) (by rfl) Bi.sorted (by decide +kernel) (pa_cons (pv 2) pa_nil)) (pe_listRg rfl (by rfl) Bi.list (prg_1 (by rfl) Bi.range (pv 0))) (nomark _))
      (pss_one (ps_raise rfl (takes_of rfl rfl rfl rfl) (pmk_own PySem.F.excBase_ValueError X_BadVoter.x X_BadVoter.g X_BadVoter.k (raises_own X_BadVoter.b X_BadVoter.t) (by exact rfl))))
      pss_nil))))), ?_⟩
  obtain ⟨⟨m, vss⟩, ⟨v1, _, rfl, rfl, v2, _, rfl, hv, rfl⟩, -, q⟩ := h
  unfold chkV at q
  dsimp only at q hv
  refine s_callX m ?a trivial fun H1 e1 => ?_
  case a => wtm_at "es"
  by_cases hm : okCount m
  · rw [if_pos hm] at q
    rw [if_pos hm]
    intro _ H2 e2 _
    have e12 := e1.trans e2
    have hv2 := hv.ex e12
    have hmb : 1 ≤ m ∧ m ≤ 6 := hm
    refine s_forD (f := iD) (xs := vss) (evd_var rfl hv2) fun H3 e3 => ⟨fun i σ' H' => (∃ y, σ' = [some (.int m), some v2, y]) ∧ Ex H3 H' ∧ isVot m (vss.take i), ?_, ?_, ?_, ?_⟩
    · exact ⟨⟨none, rfl⟩, Ex.refl _, fun v h => by simp at h⟩
    · rintro i σ' H' ⟨_, e, _⟩
      exact e
    · rintro i x v σ' H' hx hr ⟨⟨y, rfl⟩, e, ho⟩
      refine g_name ?_
      refine' s_if (b := _) ?t ?yes ?no
      case t => wtm_at "et"
      case yes =>
        intro hb H5 e5
        have hn : ¬ isVot m vss := fun z => by
          have z2 := z x (List.mem_of_getElem? hx)
          unfold isOrd at z2
          simp [z2] at hb
        rw [if_neg hn] at q
        exact q H5 (((e12.trans e3).trans e).trans e5)
      case no =>
        intro hb H5 e5
        refine ⟨⟨_, rfl⟩, e.trans e5, fun u hu => ?_⟩
        rw [List.take_add_one, hx] at hu
        rcases List.mem_append.mp hu with hu | hu
        · exact ho u hu
        · simp at hu
          subst hu
          unfold isOrd
          simpa using hb
    · rintro σ' H' ⟨_, e, ho⟩
      rw [List.take_length] at ho
      rw [if_pos ho] at q
      exact q .non H' ((e12.trans e3).trans e) rfl
  · rw [if_neg hm] at q
    rw [if_neg hm]
    intro H2 e2
    exact q H2 (e1.trans e2)
end
/-! ### lead_of -/
def sp_lead_of : Sp := spO (α := List (List Int) × Int × Int) (fun a => [vD a.1, .int a.2.1, .int a.2.2]) (fun a => ∀ v ∈ a.1, a.2.1 ∈ v ∧ a.2.2 ∈ v) fun a => .val (.int (leadF a.1 a.2.1 a.2.2))
theorem len_lead_of (vs : List V) (H : Hp) (Q : VK) (E : XK) (h : sp_lead_of vs H Q E) : vs.length = 3 := by
  unfold sp_lead_of at h
  obtain ⟨a, r, _⟩ := h
  rw [r.len]
  rfl
section
variable {P : Program} {w : World} {K : PySem.W.Frag} {mg : Str → Option Value} {base : Heap}
theorem ok_lead_of {f : Addr} {fd : FuncData} (D : Df K mg "lead_of" s_lead_of ["voters", "one", "other"] f fd) (Bi : Bi mg) : FnOk P w K mg base CX0 1 f fd ["voters", "one", "other"] sp_lead_of := by
  refine D.F.ok c_lead_of (fun vs H Q E h => len_lead_of _ _ _ _ h) (fun cdv A outer s H vs Q E hr h => ?_)
  refine ⟨_, (pss_cons (ps_set (i := 3) c_lead_of.nd rfl (.inl rfl) pe_int)
      (pss_cons (ps_for (PassesOwn.never) rfl (pi_listK (K := K) (pv 0)) (pg_name (i := 4) c_lead_of.nd rfl (.inl rfl))
      (pss_one (ps_if (pt_cmpR op_ltI (pe_tm PySem.F.plainAttrs_tuple PySem.F.slot_tuple_index PySem.F.type_tuple_index (mt_tupIxK (K := K)) (pv 4) (pa_cons (pv 1) pa_nil)) (pe_tm PySem.F.plainAttrs_tuple PySem.F.slot_tuple_index PySem.F.type_tuple_index (mt_tupIxK (K := K)) (pv 4) (pa_cons (pv 2) pa_nil)) (nomark _))
      (pss_one (ps_set (i := 3) c_lead_of.nd rfl (.inl rfl) (pe_op op_addI (pv 3) pe_int)))
      (pss_one (ps_set (i := 3) c_lead_of.nd rfl (.inl rfl) (pe_op op_subI (pv 3) pe_int))))))
      (pss_one (ps_ret (pv 3))))), ?_⟩
  obtain ⟨⟨vss, a, b⟩, ⟨v1, _, rfl, hv, v2, _, rfl, rfl, v3, _, rfl, rfl, rfl⟩, hp, q⟩ := h
  dsimp only at q hv hp
  refine s_asgI evd_int fun H1 e1 => ?_
  refine s_forD (f := iD) (xs := vss) (evd_var rfl (hv.ex e1)) fun H3 e3 => ⟨fun i σ' H' => (∃ y, σ' = [some v1, some (.int a), some (.int b), some (.int (leadF (vss.take i) a b)), y]) ∧ Ex H3 H', ?_, ?_, ?_, ?_⟩
  · exact ⟨⟨none, rfl⟩, Ex.refl _⟩
  · rintro i σ' H' ⟨_, e⟩
    exact e
  · rintro i x v σ' H' hx hr ⟨⟨y, rfl⟩, e⟩
    obtain ⟨pa, pb⟩ := hp x (List.mem_of_getElem? hx)
    refine g_name ?_
    refine' s_if (b := _) ?t ?yes ?no
    case t => wtm_at "et"
    case yes =>
      intro hb H5 e5
      refine' s_asgI (n := leadF (vss.take i) a b + 1) ?x fun H6 e6 => ?_
      case x => wtm_at "ev"
      refine ⟨⟨some v, ?_⟩, (e.trans e5).trans e6⟩
      rw [leadF_take hx, show sgn1 x a b = 1 from if_pos (by simpa using hb)]
      rfl
    case no =>
      intro hb H5 e5
      refine' s_asgI (n := leadF (vss.take i) a b - 1) ?x fun H6 e6 => ?_
      case x => wtm_at "ev"
      refine ⟨⟨some v, ?_⟩, (e.trans e5).trans e6⟩
      rw [leadF_take hx, show sgn1 x a b = -1 from if_neg (by simpa using hb)]
      rfl
  · rintro σ' H' ⟨⟨y, rfl⟩, e⟩
    rw [List.take_length]
    exact s_retD (evd_var rfl rp_int) fun v H5 e5 r => q v H5 (((e1.trans e3).trans e).trans e5) r
end
theorem ev_lead_of {σ : L2.St} {H : Hp} {t1 t2 t3 : TE} {E : XK} {vss : List (List Int)} {a b : Int} (h1 : EvD t1 σ H (vD vss)) (h2 : EvD t2 σ H (.int a)) (h3 : EvD t3 σ H (.int b)) (p : ∀ v ∈ vss, a ∈ v ∧ b ∈ v) :
    EvD (tCall sp_lead_of [] E (tCons t1 (tCons t2 (tCons t3 tNil)))) σ H (.int (leadF vss a b)) := evd_callO (vss, a, b) (evs_cons h1 (evs_cons h2 (evs_cons h3 evs_nil))) p rfl
/-! ### beats_of -/
theorem filter_le {α : Type} (p : α → Bool) (xs : List α) : (xs.filter p).length ≤ xs.length := List.length_filter_le _ _
theorem beatsOne_len (m : Int) (vs : List (List Int)) (a : Int) : (beatsOne m vs a).length ≤ m.toNat := by
  unfold beatsOne
  rw [List.length_map]
  exact Nat.le_trans (filter_le _ _) (by rw [rgI_len]; exact Nat.le_refl _)
theorem flat_len {α : Type} {k : Nat} : ∀ {xss : List (List α)}, (∀ xs ∈ xss, xs.length ≤ k) → xss.flatten.length ≤ xss.length * k
  | [], _ => by simp
  | xs :: xss, h => by
    rw [List.flatten_cons, List.length_append, List.length_cons, Nat.succ_mul]
    have := h xs List.mem_cons_self
    have := flat_len (xss := xss) fun y m => h y (List.mem_cons_of_mem _ m)
    omega
/-- the beats of the things below i -/
def beatsTo (m : Int) (vs : List (List Int)) (i : Nat) : List (Int × Int) := ((rgI 0 i).map (beatsOne m vs)).flatten
theorem beatsTo_succ (m : Int) (vs : List (List Int)) (i : Nat) : beatsTo m vs (i + 1) = beatsTo m vs i ++ beatsOne m vs (i : Int) := by
  unfold beatsTo
  rw [rgI_snoc, List.map_append, List.flatten_append]
  simp
theorem beatsTo_len {m : Int} (h : 0 ≤ m ∧ m ≤ 6) (vs : List (List Int)) {i : Nat} (hi : i ≤ 6) : (beatsTo m vs i).length ≤ 36 := by
  unfold beatsTo
  refine Nat.le_trans (flat_len (k := 6) fun xs hx => ?_) ?_
  · obtain ⟨a, _, rfl⟩ := List.mem_map.mp hx
    exact Nat.le_trans (beatsOne_len m vs a) (by omega)
  · rw [List.length_map, rgI_len]
    omega
def sp_beats_of : Sp := spO (α := Int × List (List Int)) (fun a => [.int a.1, vD a.2]) (fun a => 0 ≤ a.1 ∧ a.1 ≤ 6 ∧ isVot a.1 a.2) fun a => .new ((beatsF a.1 a.2).map pD)
theorem len_beats_of (vs : List V) (H : Hp) (Q : VK) (E : XK) (h : sp_beats_of vs H Q E) : vs.length = 2 := by
  unfold sp_beats_of at h
  obtain ⟨a, r, _⟩ := h
  rw [r.len]
  rfl
section
variable {P : Program} {w : World} {K : PySem.W.Frag} {mg : Str → Option Value} {base : Heap}
theorem ok_beats_of {f : Addr} {fd : FuncData} (D : Df K mg "beats_of" s_beats_of ["many", "voters"] f fd) (Bi : Bi mg) {f_lead_of : Addr} {fd_lead_of : FuncData} (D_lead_of : Df K mg "lead_of" s_lead_of ["voters", "one", "other"] f_lead_of fd_lead_of) (G_lead_of : FnOk P w K mg base CX0 1 f_lead_of fd_lead_of ["voters", "one", "other"] sp_lead_of) : FnOk P w K mg base CX0 2 f fd ["many", "voters"] sp_beats_of := by
  refine D.F.ok c_beats_of (fun vs H Q E h => len_beats_of _ _ _ _ h) (fun cdv A outer s H vs Q E hr h => ?_)
  refine ⟨_, (pss_cons (ps_set (i := 2) c_beats_of.nd rfl (.inl rfl) (pe_lst pa_nil))
      (pss_cons (ps_for (PassesOwn.never) rfl (pi_range1 (by rfl) Bi.range (pa_cons (pv 0) pa_nil)) (pg_name (i := 3) c_beats_of.nd rfl (.inr rfl))
      (pss_one (ps_expr (pe_bm PySem.F.plainAttrs_list PySem.F.slot_list_extend PySem.F.type_list_extend mt_extend (pv 2) (pa_cons (pe_lc (own := [("other", 4)]) (g := (gName 4)) rfl c_beats_of.nd (pi_range1 (by rfl) Bi.range (pa_cons (pv 0) pa_nil)) (blkOk_by (own := [("other", 4)]) (N := ["many", "voters", "found", "one", "other"]) (sc := defScope s_beats_of) (by decide +kernel)) (fun _ _ _ _ _ => (pg_name (i := 4) c_beats_of.nd rfl (.inl rfl))) (fun _ _ _ _ _ => pts_one (PW.pt (pw_and (pt_cmpR op_neI (pv 3) (pv 4) (nomark _)) (pw_and1 (pt_cmpR op_gtI (pe_call G_lead_of (hr.mono (by decide)) (by rfl) D_lead_of.g D_lead_of.F.kp D_lead_of.b .nil pass0 (pa_cons (pv 1) (pa_cons (pv 3) (pa_cons (pv 4) pa_nil)))) pe_int (nomark _)))))) (fun _ _ _ _ _ => (pe_tupF (pa_cons (pv 3) (pa_cons (pv 4) pa_nil))))) pa_nil)))))
      (pss_one (ps_ret (pv 2))))), ?_⟩
  obtain ⟨⟨m, vss⟩, ⟨v1, _, rfl, rfl, v2, _, rfl, hv, rfl⟩, ⟨m0, m6, hp⟩, q⟩ := h
  dsimp only at q hv hp m0 m6
  refine' s_asgO (evn_lst evs_nil (by decide)) rfl fun p H1 e1 o1 => ?_
  wtm_at "nx"
  refine' s_forR (n := m) ?n (by omega) fun H3 e3 => ⟨fun i σ' H' => (∃ y, σ' = [some (.int m), some v2, some (.ref p), y, none]) ∧ i ≤ m.toNat ∧ Own H H' p ((beatsTo m vss i).map pD), ?_, ?_, ?_⟩
  case n => wtm_at "es"
  · exact ⟨⟨none, rfl⟩, Nat.zero_le _, o1.step e3⟩
  · rintro i σ' H' hi ⟨⟨y, rfl⟩, hi2, o⟩
    have l1 := beatsTo_len ⟨m0, m6⟩ vss (i := i) (by omega)
    have hv2 : Rp H' (vD vss) v2 := hv.ex o.ex
    refine g_name ?_
    refine' s_extO o rfl (es := (beatsOne m vss i).map pD) ?x ?im ?sz ?k
    case x =>
      rw [show (beatsOne m vss i).map pD = ((rgI 0 m.toNat).filter fun b => !decide ((i : Int) = b) && decide (0 < leadF vss i b)).map fun b => pD ((i : Int), b) by unfold beatsOne; rw [List.map_map]; rfl]
      refine' evn_lcR (n := m) (fun b => !decide ((i : Int) = b) && decide (0 < leadF vss i b)) (fun b => pD (i, b)) ?es (by omega) ?turn ?imm
      case es => wtm_at "es"
      case imm => intros; rfl
      case turn =>
        intro x H5 x0 x1 e5
        refine ⟨[some (.int m), some v2, some (.ref p), some (.int i), some (.int x)], fun Q hq => hq, rfl, ?_, fun _ => ?_⟩
        · have hv5 : Rp H5 (vD vss) v2 := hv2.ex e5
          refine' et_and ?a fun hab => ?b
          case a => wtm_at "et"
          case b =>
            refine' ett (evd_op (ev_lead_of ?p1 ?p2 ?p3 ?p4) evd_int rd_gtI)
            case p1 => wtm_at "ev"
            case p2 => wtm_at "ev"
            case p3 => wtm_at "ev"
            case p4 =>
              intro v hm
              exact ⟨(hp v hm).mem.mpr (by omega), (hp v hm).mem.mpr ⟨x0, x1⟩⟩
        · wtm_at "ev"
    case im => exact imm_wD _
    case sz =>
      rw [List.length_map, List.length_map]
      have := beatsOne_len m vss i
      omega
    case k =>
      intro H5 x5 o5
      rw [← List.map_append, ← beatsTo_succ] at o5
      exact ⟨⟨_, rfl⟩, by omega, o5⟩
  · rintro σ' H' ⟨⟨y, rfl⟩, _, o⟩
    obtain ⟨ws, k1, k2⟩ := o.has
    exact ⟨_, rfl, q p ws H' (fresh_back (Ex.refl H) o.new) o.ex k1 k2⟩
end
theorem ev_beats_of {σ : L2.St} {H : Hp} {t0 t1 : TE} {E : XK} {m : Int} {vss : List (List Int)} (h0 : EvD t0 σ H (.int m)) (h1 : EvD t1 σ H (vD vss)) (c : 0 ≤ m ∧ m ≤ 6) (p : isVot m vss) :
    EvN (tCall sp_beats_of [] E (tCons t0 (tCons t1 tNil))) σ H ((beatsF m vss).map pD) := evn_callO (m, vss) (evs_cons h0 (evs_cons h1 evs_nil)) ⟨c.1, c.2, p⟩ rfl
def sp_web_of (C1 C2 : Addr) : Sp := spO (α := Int × List (List Int)) (fun a => [.int a.1, vD a.2]) (fun _ => True) fun a => chkV C1 C2 a.1 a.2 (.new ((beatsF a.1 a.2).map pD))
theorem len_web_of {C_BadCount : Addr} {C_BadVoter : Addr} (vs : List V) (H : Hp) (Q : VK) (E : XK) (h : (sp_web_of C_BadCount C_BadVoter) vs H Q E) : vs.length = 2 := by
  unfold sp_web_of at h
  obtain ⟨a, r, _⟩ := h
  rw [r.len]
  rfl
section
variable {P : Program} {w : World} {K : PySem.W.Frag} {mg : Str → Option Value} {base : Heap}
theorem ok_web_of {f : Addr} {fd : FuncData} (D : Df K mg "web_of" s_web_of ["many", "voters"] f fd) (Bi : Bi mg) {f_look_at_voters : Addr} {fd_look_at_voters : FuncData} (D_look_at_voters : Df K mg "look_at_voters" s_look_at_voters ["many", "voters"] f_look_at_voters fd_look_at_voters) (G_look_at_voters : FnOk P w K mg base (L2.CX P w) 2 f_look_at_voters fd_look_at_voters ["many", "voters"] (sp_look_at_voters C_BadCount C_BadVoter)) {f_beats_of : Addr} {fd_beats_of : FuncData} (D_beats_of : Df K mg "beats_of" s_beats_of ["many", "voters"] f_beats_of fd_beats_of) (G_beats_of : FnOk P w K mg base CX0 2 f_beats_of fd_beats_of ["many", "voters"] sp_beats_of) : FnOk P w K mg base (L2.CX P w) 3 f fd ["many", "voters"] (sp_web_of C_BadCount C_BadVoter) := by
  refine D.F.okX c_web_of (fun vs H Q E h => len_web_of _ _ _ _ h) (fun cdv A outer s H vs Q E hr h => ?_)
  refine ⟨_, (pss_cons (ps_expr (pe_callS G_look_at_voters (hr.mono (by decide)) (by rfl) D_look_at_voters.g D_look_at_voters.F.kp D_look_at_voters.b (fun σ => passAt (takes_of rfl rfl rfl rfl) σ) (pa_cons (pv 0) (pa_cons (pv 1) pa_nil))))
      (pss_one (ps_ret (pe_call G_beats_of (hr.mono (by decide)) (by rfl) D_beats_of.g D_beats_of.F.kp D_beats_of.b .nil pass0 (pa_cons (pv 0) (pa_cons (pv 1) pa_nil)))))), ?_⟩
  obtain ⟨⟨m, vss⟩, ⟨v1, _, rfl, rfl, v2, _, rfl, hv, rfl⟩, -, q⟩ := h
  dsimp only at q hv
  refine s_callX (m, vss) ?a trivial fun H1 e1 => chkV_go q e1 fun h1 h2 q H2 e2 => ?_
  case a => wtm_at "es"
  have hv2 := hv.ex (e1.trans e2)
  have e12 := e1.trans e2
  have hm : 1 ≤ m ∧ m ≤ 6 := h1
  exact s_retNw (ev_beats_of (m := m) (vss := vss) (evd_var rfl rp_int) (evd_var rfl hv2) (by omega) h2) fun p ws H3 hn e3 k1 k2 => q p ws H3 (fresh_back e12 hn) (e12.trans e3) k1 k2
end
theorem ev_web_of {C1 C2 : Addr} {σ : L2.St} {H : Hp} {t0 t1 : TE} {E : XK} {m : Int} {vss : List (List Int)} (h0 : EvD t0 σ H (.int m)) (h1 : EvD t1 σ H (vD vss)) (c : okCount m) (p : isVot m vss) :
    EvN (tCall (sp_web_of C1 C2) [] E (tCons t0 (tCons t1 tNil))) σ H ((beatsF m vss).map pD) := evn_callO (m, vss) (evs_cons h0 (evs_cons h1 evs_nil)) trivial (chkV_ok c p)
end Bm

namespace Bm
open PySem PySem.Spec PyProof.Rows L2 Evl
local macro_rules | `(tactic| wtm_at "rp") => `(tactic| first | exact rp_int | exact rp_bl | exact rp_str | exact rp_non | assumption | (refine' Rp.ex ?e ?h; (case h => assumption); (case e => assumption)) | exact Own.rp (by assumption))
local macro_rules | `(tactic| wtm_at "side") => `(tactic| first | assumption | omega | decide | rfl | exact ⟨by omega, by omega⟩)
local macro_rules | `(tactic| wtm_at "es") => `(tactic| first | exact evs_nil | (refine' evs_cons ?a ?b; (case a => wtm_at "ev"); (case b => wtm_at "es")))
local macro_rules | `(tactic| wtm_at "ev") => `(tactic| first
  | exact evd_int | exact evd_str | exact evd_bl | exact evd_non
  | (refine' evd_var rfl ?h; (case h => wtm_at "rp"))
  | ((with_reducible refine' evd_op ?a ?b rd_addI); (case a => wtm_at "ev"); (case b => wtm_at "ev"))
  | ((with_reducible refine' evd_op ?a ?b rd_subI); (case a => wtm_at "ev"); (case b => wtm_at "ev"))
  | ((with_reducible refine' evd_op ?a ?b (rd_mulI ?c)); (case a => wtm_at "ev"); (case b => wtm_at "ev"); (case c => wtm_at "side"))
  | ((with_reducible refine' evd_op ?a ?b (rd_divI ?c)); (case a => wtm_at "ev"); (case b => wtm_at "ev"); (case c => wtm_at "side"))
  | ((with_reducible refine' evd_op ?a ?b (rd_modI ?c)); (case a => wtm_at "ev"); (case b => wtm_at "ev"); (case c => wtm_at "side"))
  | ((with_reducible refine' evd_op ?a ?b rd_ltI); (case a => wtm_at "ev"); (case b => wtm_at "ev"))
  | ((with_reducible refine' evd_op ?a ?b rd_leI); (case a => wtm_at "ev"); (case b => wtm_at "ev"))
  | ((with_reducible refine' evd_op ?a ?b rd_gtI); (case a => wtm_at "ev"); (case b => wtm_at "ev"))
  | ((with_reducible refine' evd_op ?a ?b rd_geI); (case a => wtm_at "ev"); (case b => wtm_at "ev"))
  | ((with_reducible refine' evd_op ?a ?b rd_eqI); (case a => wtm_at "ev"); (case b => wtm_at "ev"))
  | ((with_reducible refine' evd_op ?a ?b rd_neI); (case a => wtm_at "ev"); (case b => wtm_at "ev"))
  | ((with_reducible refine' evd_op ?a ?b rd_eqB); (case a => wtm_at "ev"); (case b => wtm_at "ev"))
  | ((with_reducible refine' evd_op ?a ?b rd_neB); (case a => wtm_at "ev"); (case b => wtm_at "ev"))
  | ((with_reducible refine' evd_op ?a ?b rd_isNo); (case a => wtm_at "ev"); (case b => wtm_at "ev"))
  | ((with_reducible refine' evd_op ?a ?b rd_notNo); (case a => wtm_at "ev"); (case b => wtm_at "ev"))
  | ((with_reducible refine' evd_op ?a ?b rd_inIL); (case a => wtm_at "ev"); (case b => wtm_at "ev"))
  | ((with_reducible refine' evd_op ?a ?b rd_niIL); (case a => wtm_at "ev"); (case b => wtm_at "ev"))
  | ((with_reducible refine' evd_op ?a ?b rd_inID); (case a => wtm_at "ev"); (case b => wtm_at "ev"))
  | ((with_reducible refine' evd_op ?a ?b rd_niID); (case a => wtm_at "ev"); (case b => wtm_at "ev"))
  | ((with_reducible refine' evd_neg ?a); (case a => wtm_at "ev"))
  | ((with_reducible refine' evd_tix ?a ?b ?c); (case a => wtm_at "ev"); (case b => wtm_at "ev"); (case c => wtm_at "side"))
  | ((with_reducible refine' evd_tup ?a ?b); (case a => wtm_at "es"); (case b => exact Nat.le_of_ble_eq_true rfl))
  | ((with_reducible refine' evd_cb ?a cd_lenL); (case a => wtm_at "es"))
  | ((with_reducible refine' evd_cb ?a cd_lenT); (case a => wtm_at "es"))
  | ((with_reducible refine' evd_cb ?a cd_intB); (case a => wtm_at "es"))
  | ((with_reducible refine' evd_cb ?a cd_tupL); (case a => wtm_at "es"))
  | ((with_reducible refine' evd_and ?a ?b); (case a => wtm_at "ev"); (case b => intro _; wtm_at "ev"))
  | ((with_reducible refine' evd_or ?a ?b); (case a => wtm_at "ev"); (case b => intro _; wtm_at "ev"))
  | ((with_reducible refine' evd_not ?a); (case a => wtm_at "ev"))
  | ((with_reducible refine' evd_op ?a ?b rd_neIL); (case a => wtm_at "ev"); (case b => wtm_at "ev"))
  | ((with_reducible refine' evd_op ?a ?b rd_eqIL); (case a => wtm_at "ev"); (case b => wtm_at "ev"))
  | ((with_reducible refine' EvN.toD ?a); (case a => wtm_at "en")))
local macro_rules | `(tactic| wtm_at "en") => `(tactic| first
  | ((with_reducible refine' evn_cb ?a cn_sortTI); (case a => wtm_at "es"))
  | ((with_reducible refine' evn_cb ?a cn_listL); (case a => wtm_at "es"))
  | ((with_reducible refine' evn_cb ?a cn_listT); (case a => wtm_at "es"))
  | ((with_reducible refine' evn_rng ?a ?b); (case a => wtm_at "ev"); (case b => wtm_at "side"))
  | ((with_reducible refine' evn_lst ?a ?b); (case a => wtm_at "es"); (case b => exact Nat.le_of_ble_eq_true rfl))
  | ((with_reducible refine' evn_cat ?a ?b ?c); (case a => wtm_at "ev"); (case b => wtm_at "ev"); (case c => wtm_at "side"))
  | ((with_reducible refine' evn_slL ?a ?b ?c); (case a => wtm_at "ev"); (case b => first | exact evp_none | (refine' evp_some ?d; (case d => wtm_at "ev"))); (case c => first | exact evp_none | (refine' evp_some ?d; (case d => wtm_at "ev")))))
local macro_rules | `(tactic| wtm_at "et") => `(tactic| first
  | exact et_yes
  | (refine' ett ?a; (case a => wtm_at "ev"))
  | (refine' etB ?a; (case a => wtm_at "ev"))
  | (refine' et_and ?a ?b; (case a => wtm_at "et"); (case b => intro _; wtm_at "et"))
  | (refine' et_or ?a ?b; (case a => wtm_at "et"); (case b => intro _; wtm_at "et"))
  | (refine' et_not ?a; (case a => wtm_at "et")))
local macro_rules | `(tactic| wtm_at "nx") => `(tactic| try dsimp only [tSeq, tNext])
/-! ### webs, plain -/
def swp (p : Int × Int) : Int × Int := (p.2, p.1)
def goodB (m : Int) (p : Int × Int) : Bool := decide (0 ≤ p.1) && decide (p.1 < m) && decide (0 ≤ p.2) && decide (p.2 < m) && !decide (p.1 = p.2)
/-- the beats behind those of met are all right -/
def webGo (m : Int) : List (Int × Int) → List (Int × Int) → Bool
  | _, [] => true
  | met, p :: ps => goodB m p && !decide (p ∈ met) && !decide (swp p ∈ met) && webGo m (met ++ [p]) ps
def isWeb (m : Int) (ps : List (Int × Int)) : Prop := webGo m [] ps = true
instance (m : Int) (ps : List (Int × Int)) : Decidable (isWeb m ps) := inferInstanceAs (Decidable (_ = _))
def chkW (C1 C3 : Addr) (m : Int) (ps : List (Int × Int)) (o : Out) : Out := if okCount m then (if isWeb m ps then o else .exc C3) else .exc C1
theorem chkW_go {C1 C3 : Addr} {m : Int} {ps : List (Int × Int)} {o : Out} {H H1 : Hp} {Q : VK} {E : XK} {N : Hp → Prop} (q : Gives H Q E (chkW C1 C3 m ps o)) (e : Ex H H1)
    (k : okCount m → isWeb m ps → Gives H Q E o → ∀ H2, Ex H1 H2 → N H2) : Gives H1 (fun _ H2 => N H2) E (chkW C1 C3 m ps (.val .none)) := by
  unfold chkW at q ⊢
  by_cases h1 : okCount m
  · rw [if_pos h1] at q ⊢
    by_cases h2 : isWeb m ps
    · rw [if_pos h2] at q ⊢
      exact fun v H2 e2 _ => k h1 h2 q H2 e2
    · rw [if_neg h2] at q ⊢
      exact fun H2 e2 => q H2 (e.trans e2)
  · rw [if_neg h1] at q ⊢
    exact fun H2 e2 => q H2 (e.trans e2)
theorem chkW_ok {C1 C3 : Addr} {m : Int} {ps : List (Int × Int)} {o : Out} (h1 : okCount m) (h2 : isWeb m ps) : chkW C1 C3 m ps o = o := by
  unfold chkW
  rw [if_pos h1, if_pos h2]
def pK (p : Int × Int) : List Key := [.inl p.1, .inl p.2]
theorem pK_inj {p q : Int × Int} : pK p = pK q ↔ p = q := by
  obtain ⟨a, b⟩ := p
  obtain ⟨c, d⟩ := q
  unfold pK
  simp
theorem webGo_stop {m : Int} : ∀ {met ps : List (Int × Int)} {i : Nat} {p : Int × Int}, ps[i]? = some p → webGo m met ps = true → goodB m p = true ∧ p ∉ met ++ ps.take i ∧ swp p ∉ met ++ ps.take i
  | _, [], _, _, h, _ => by simp at h
  | met, q :: ps, 0, p, h, w => by
    cases h
    simp only [webGo, Bool.and_eq_true, Bool.not_eq_true', decide_eq_false_iff_not] at w
    rw [List.take_zero, List.append_nil]
    exact ⟨w.1.1.1, w.1.1.2, w.1.2⟩
  | met, q :: ps, i + 1, p, h, w => by
    simp only [webGo, Bool.and_eq_true] at w
    have ih := webGo_stop (ps := ps) (i := i) (p := p) h w.2
    rw [List.take_succ_cons, List.append_cons]
    exact ih
theorem webGo_of {m : Int} : ∀ {met ps : List (Int × Int)}, (∀ (i : Nat) p, ps[i]? = some p → goodB m p = true ∧ p ∉ met ++ ps.take i ∧ swp p ∉ met ++ ps.take i) → webGo m met ps = true
  | _, [], _ => rfl
  | met, q :: ps, h => by
    obtain ⟨h1, h2, h3⟩ := h 0 q rfl
    rw [List.take_zero, List.append_nil] at h2 h3
    simp only [webGo, Bool.and_eq_true, Bool.not_eq_true', decide_eq_false_iff_not]
    refine ⟨⟨⟨h1, h2⟩, h3⟩, webGo_of fun i p e => ?_⟩
    have h4 := h (i + 1) p e
    rw [List.take_succ_cons, List.append_cons] at h4
    exact h4
theorem isWeb_iff {m : Int} {ps : List (Int × Int)} : isWeb m ps ↔ ∀ (i : Nat) p, ps[i]? = some p → goodB m p = true ∧ p ∉ ps.take i ∧ swp p ∉ ps.take i :=
  ⟨fun h i p e => webGo_stop e h, fun h => webGo_of fun i p e => h i p e⟩
theorem goodB_iff {m : Int} {p : Int × Int} : goodB m p = true ↔ 0 ≤ p.1 ∧ p.1 < m ∧ 0 ≤ p.2 ∧ p.2 < m ∧ p.1 ≠ p.2 := by
  unfold goodB
  simp only [Bool.and_eq_true, decide_eq_true_eq, Bool.not_eq_true', decide_eq_false_iff_not, and_assoc]
/-! ### look_at_web -/
def sp_look_at_web (C1 C3 : Addr) : Sp := spO (α := Int × List (Int × Int)) (fun a => [.int a.1, wD a.2]) (fun a => a.2.length ≤ 1000) fun a => chkW C1 C3 a.1 a.2 (.val .none)
theorem len_look_at_web {C_BadCount : Addr} {C_BadWeb : Addr} (vs : List V) (H : Hp) (Q : VK) (E : XK) (h : (sp_look_at_web C_BadCount C_BadWeb) vs H Q E) : vs.length = 2 := by
  unfold sp_look_at_web at h
  obtain ⟨a, r, _⟩ := h
  rw [r.len]
  rfl
theorem et_dinT {σ : L2.St} {H : Hp} {t1 t2 : TE} {a b : Int} {i : Nat} {pm : Addr} {kvs : List (List Key × V)} (h1 : EvD t1 σ H (.int a)) (h2 : EvD t2 σ H (.int b)) (hi : σ[i]? = some (some (.ref pm))) (hd : H pm = some (.dT kvs)) :
    EvT (tB (tDIn (tTup (tCons t1 (tCons t2 tNil))) (tVar i))) σ H (valV kvs (pK (a, b))).isSome := fun H1 e Q q =>
  h1 H1 e _ fun v H2 e2 r2 => h2 H2 (e.trans e2) _ fun u H3 e3 r3 => by
    obtain rfl : v = .int a := r2
    obtain rfl : u = .int b := r3
    refine ⟨by show 2 ≤ sizeLine; decide, fun p hp => ⟨.ref pm, hi, pm, _, rfl, DGet.t (k := pK (a, b)) (kvs := kvs) ?_ upd_same, _, rfl, q _ ((e2.trans e3).trans (Ex.new hp))⟩⟩
    rw [upd_ne (ne_of_none (((e.trans e2).trans e3) _ _ hd) hp)]
    exact ((e.trans e2).trans e3) _ _ hd
section
variable {P : Program} {w : World} {K : PySem.W.Frag} {mg : Str → Option Value} {base : Heap}
theorem ok_look_at_web {f : Addr} {fd : FuncData} (D : Df K mg "look_at_web" s_look_at_web ["many", "web"] f fd) (Bi : Bi mg) {C_BadWeb : Addr} (X_BadWeb : Xc K mg "BadWeb" C_BadWeb) {f_look_at_count : Addr} {fd_look_at_count : FuncData} (D_look_at_count : Df K mg "look_at_count" s_look_at_count ["many"] f_look_at_count fd_look_at_count) (G_look_at_count : FnOk P w K mg base (L2.CX P w) 1 f_look_at_count fd_look_at_count ["many"] (sp_look_at_count C_BadCount)) : FnOk P w K mg base (L2.CX P w) 2 f fd ["many", "web"] (sp_look_at_web C_BadCount C_BadWeb) := by
  refine D.F.okX c_look_at_web (fun vs H Q E h => len_look_at_web _ _ _ _ h) (fun cdv A outer s H vs Q E hr h => ?_)
  refine ⟨_, (pss_cons (ps_expr (pe_callS G_look_at_count (hr.mono (by decide)) (by rfl) D_look_at_count.g D_look_at_count.F.kp D_look_at_count.b (fun σ => passAt (takes_of rfl rfl rfl rfl) σ) (pa_cons (pv 0) pa_nil)))
      (pss_cons (ps_set (i := 2) c_look_at_web.nd rfl (.inl rfl) (pe_dnewT))
      (pss_one (ps_for (passes_of rfl) rfl (pi_listK (K := K) (pv 1)) (pg_tupK (K := K) rfl (pgs_cons (pg_name (i := 3) c_look_at_web.nd rfl (.inl rfl)) (pgs_cons (pg_name (i := 4) c_look_at_web.nd rfl (.inl rfl)) pgs_nil)))
      (pss_cons (ps_if (PW.pt (pw_or (pt_cmpR op_ltI (pv 3) pe_int (nomark _)) (pw_or (pt_cmpR op_geI (pv 3) (pv 0) (nomark _)) (pw_or (pt_cmpR op_ltI (pv 4) pe_int (nomark _)) (pw_or (pt_cmpR op_geI (pv 4) (pv 0) (nomark _)) (pw_or1 (pt_cmpR op_eqI (pv 3) (pv 4) (nomark _))))))))
      (pss_one (ps_raise rfl (takes_of rfl rfl rfl rfl) (pmk_own PySem.F.excBase_ValueError X_BadWeb.x X_BadWeb.g X_BadWeb.k (raises_own X_BadWeb.b X_BadWeb.t) (by exact rfl))))
      pss_nil)
      (pss_cons (ps_if (PW.pt (pw_or (pt_cmp (pc_din (hu_of hr) (pe_tup (pa_cons (pv 3) (pa_cons (pv 4) pa_nil))) (pv 2)) (by rfl)) (pw_or1 (pt_cmp (pc_din (hu_of hr) (pe_tup (pa_cons (pv 4) (pa_cons (pv 3) pa_nil))) (pv 2)) (by rfl)))))
      (pss_one (ps_raise rfl (takes_of rfl rfl rfl rfl) (pmk_own PySem.F.excBase_ValueError X_BadWeb.x X_BadWeb.g X_BadWeb.k (raises_own X_BadWeb.b X_BadWeb.t) (by exact rfl))))
      pss_nil)
      (pss_one (ps_dput (hu_of hr) (pv 2) (pe_tup (pa_cons (pv 3) (pa_cons (pv 4) pa_nil))) pe_bl rfl)))))))), ?_⟩
  obtain ⟨⟨m, ps⟩, ⟨v1, _, rfl, rfl, v2, _, rfl, hv, rfl⟩, hl, q⟩ := h
  unfold chkW at q
  dsimp only at q hv hl
  refine s_callX m ?a trivial fun H1 e1 => ?_
  case a => wtm_at "es"
  by_cases hm : okCount m
  · rw [if_pos hm] at q
    rw [if_pos hm]
    intro _ H2 e2 _
    wtm_at "nx"
    have e12 := e1.trans e2
    refine fun pm hpm => ?_
    have hpmH : H pm = none := fresh_back e12 hpm
    wtm_at "nx"
    refine s_forB (f := pD) (xs := ps) (Hb := H) rfl hv (e12.trans (Ex.new hpm)) (fun i σ' H' => ∃ y z kvs, σ' = [some (.int m), some v2, some (.ref pm), y, z] ∧ Ex H H' ∧ H' pm = some (.dT kvs) ∧ kvs.length ≤ i ∧ (∀ p, (valV kvs (pK p)).isSome = decide (p ∈ ps.take i)) ∧
      ∀ (j : Nat) p, j < i → ps[j]? = some p → goodB m p = true ∧ p ∉ ps.take j ∧ swp p ∉ ps.take j) ?_ ?_ ?_ ?_
    · exact ⟨none, none, [], rfl, e12.trans (Ex.new hpm), upd_same, Nat.le_refl _, fun p => by simp [valV_nil], fun j p h => absurd h (Nat.not_lt_zero _)⟩
    · rintro i σ' H' ⟨_, _, _, _, e, _⟩
      exact e
    · rintro i x v σ' H' hx hr ⟨y, z, kvs, rfl, e, hd, hk, hkv, hok⟩
      refine g_pair hr ?_
      have hi : i < ps.length := (List.getElem?_eq_some_iff.mp hx).1
      have bad : ¬ (goodB m x = true ∧ x ∉ ps.take i ∧ swp x ∉ ps.take i) → ¬ isWeb m ps := fun h z => h (isWeb_iff.mp z i x hx)
      refine' s_if (b := _) ?t ?yes ?no
      case t => wtm_at "et"
      case yes =>
        intro hb H5 e5
        have hn : ¬ isWeb m ps := bad fun h => by
          have g := goodB_iff.mp h.1
          simp only [Bool.or_eq_true, decide_eq_true_eq] at hb
          omega
        rw [if_neg hn] at q
        exact q H5 (e.trans e5)
      case no =>
        intro hb H5 e5
        wtm_at "nx"
        have hg : goodB m x = true := goodB_iff.mpr (by
          simp only [Bool.or_eq_false_iff, decide_eq_false_iff_not] at hb
          omega)
        have hd5 := e5 _ _ hd
        refine' s_if (b := (valV kvs (pK (x.1, x.2))).isSome || (valV kvs (pK (x.2, x.1))).isSome) ?t ?yes ?no
        case t =>
          refine' et_or (et_dinT ?a ?b rfl hd5) fun _ => et_dinT ?c ?d rfl hd5
          case a => wtm_at "ev"
          case b => wtm_at "ev"
          case c => wtm_at "ev"
          case d => wtm_at "ev"
        case yes =>
          intro hb2 H6 e6
          rw [hkv, hkv] at hb2
          have hn : ¬ isWeb m ps := bad fun h => by
            simp only [Bool.or_eq_true, decide_eq_true_eq] at hb2
            exact hb2.elim h.2.1 h.2.2
          rw [if_neg hn] at q
          exact q H6 ((e.trans e5).trans e6)
        case no =>
          intro hb2 H6 e6
          wtm_at "nx"
          rw [hkv, hkv] at hb2
          simp only [Bool.or_eq_false_iff, decide_eq_false_iff_not] at hb2
          have hd6 := e6 _ _ hd5
          have nmap : H pm = none := hpmH
          refine ⟨.ref pm, rfl, _, rfl, _, rfl, by show 2 ≤ sizeLine; decide, fun p hp => ⟨pm, _, rfl, DPut.t (kvs := kvs) (k := pK x) ?_ upd_same (sz_lt (by omega)), ?_⟩⟩
          · rw [upd_ne (ne_of_none hd6 hp)]
            exact hd6
          · have eH : Ex H (upd (upd H6 p (.tup [.int x.1, .int x.2])) pm (.dT (putK kvs (pK x) (.bl true)))) := Ex.mut (((e.trans e5).trans e6).trans (Ex.new hp)) nmap
            refine ⟨_, _, putK kvs (pK x) (.bl true), rfl, eH, upd_same, Nat.le_trans (length_putK _ _ _) (by omega), fun p2 => ?_, fun j p2 hj hx2 => ?_⟩
            · rw [valV_put, List.take_add_one, hx]
              by_cases h2 : p2 = x
              · subst h2
                rw [if_pos rfl]
                simp
              · rw [if_neg (fun z => h2 (pK_inj.mp z)), hkv]
                simp [h2]
            · by_cases h2 : j < i
              · exact hok j p2 h2 hx2
              · obtain rfl : j = i := by omega
                rw [hx] at hx2
                cases hx2
                exact ⟨hg, hb2.1, hb2.2⟩
    · rintro σ' H' ⟨y, z, kvs, rfl, e, hd, hk, hkv, hok⟩
      have hw : isWeb m ps := isWeb_iff.mpr fun i p h => hok i p (List.getElem?_eq_some_iff.mp h).1 h
      rw [if_pos hw] at q
      exact q .non H' e rfl
  · rw [if_neg hm] at q
    rw [if_neg hm]
    intro H2 e2
    exact q H2 (e1.trans e2)
end
end Bm

namespace Bm
open PySem PySem.Spec PyProof.Rows L2 Evl
/-! ### webs as sets of pairs -/
def nrm (p : Int × Int) : Int × Int := if p.1 ≤ p.2 then p else swp p
theorem swp_swp (p : Int × Int) : swp (swp p) = p := rfl
theorem nrm_iff {p q : Int × Int} : nrm p = nrm q ↔ p = q ∨ p = swp q := by
  obtain ⟨a, b⟩ := p
  obtain ⟨c, d⟩ := q
  unfold nrm swp
  dsimp only
  split <;> split <;> simp only [Prod.mk.injEq] <;> omega
theorem nrm_mem {p : Int × Int} {met : List (Int × Int)} : nrm p ∈ met.map nrm ↔ p ∈ met ∨ swp p ∈ met := by
  constructor
  · intro h
    obtain ⟨q, hq, e⟩ := List.mem_map.mp h
    rcases nrm_iff.mp e with rfl | rfl
    · exact .inl hq
    · exact .inr hq
  · rintro (h | h)
    · exact List.mem_map.mpr ⟨p, h, rfl⟩
    · exact List.mem_map.mpr ⟨_, h, nrm_iff.mpr (.inr rfl)⟩
theorem webGo_iff {m : Int} : ∀ {met ps : List (Int × Int)}, webGo m met ps = true ↔ (∀ p ∈ ps, goodB m p = true ∧ nrm p ∉ met.map nrm) ∧ (ps.map nrm).Nodup
  | met, [] => by simp [webGo]
  | met, q :: ps => by
    simp only [webGo, Bool.and_eq_true, Bool.not_eq_true', decide_eq_false_iff_not]
    rw [webGo_iff (met := met ++ [q]) (ps := ps), List.map_cons, List.nodup_cons]
    constructor
    · rintro ⟨⟨⟨h1, h2⟩, h3⟩, h4, h5⟩
      refine ⟨fun p hp => ?_, fun z => ?_, h5⟩
      · rcases List.mem_cons.mp hp with rfl | hp
        · exact ⟨h1, fun z => (nrm_mem.mp z).elim h2 h3⟩
        · refine ⟨(h4 p hp).1, fun z => (h4 p hp).2 ?_⟩
          rw [List.map_append]
          exact List.mem_append_left _ z
      · obtain ⟨p, hp, e⟩ := List.mem_map.mp z
        refine (h4 p hp).2 ?_
        rw [List.map_append, e]
        exact List.mem_append_right _ (by simp)
    · rintro ⟨h1, h2, h3⟩
      obtain ⟨g1, g2⟩ := h1 q List.mem_cons_self
      refine ⟨⟨⟨g1, fun z => g2 (nrm_mem.mpr (.inl z))⟩, fun z => g2 (nrm_mem.mpr (.inr z))⟩, fun p hp => ?_, h3⟩
      obtain ⟨k1, k2⟩ := h1 p (List.mem_cons_of_mem _ hp)
      refine ⟨k1, fun z => ?_⟩
      rw [List.map_append] at z
      rcases List.mem_append.mp z with z | z
      · exact k2 z
      · have e : nrm p = nrm q := by simpa using z
        exact h2 (e ▸ List.mem_map.mpr ⟨p, hp, rfl⟩)
theorem isWeb_set {m : Int} {ps : List (Int × Int)} : isWeb m ps ↔ (∀ p ∈ ps, goodB m p = true) ∧ (ps.map nrm).Nodup := by
  unfold isWeb
  rw [webGo_iff]
  simp
theorem isWeb.perm {m : Int} {ps qs : List (Int × Int)} (h : isWeb m ps) (e : ps.Perm qs) : isWeb m qs := by
  rw [isWeb_set] at h ⊢
  exact ⟨fun p hp => h.1 p (e.mem_iff.mpr hp), (e.map nrm).nodup_iff.mp h.2⟩
theorem isWeb.good {m : Int} {ps : List (Int × Int)} (h : isWeb m ps) {p : Int × Int} (hp : p ∈ ps) : 0 ≤ p.1 ∧ p.1 < m ∧ 0 ≤ p.2 ∧ p.2 < m ∧ p.1 ≠ p.2 := goodB_iff.mp ((isWeb_set.mp h).1 p hp)
theorem nodup_of_map {α β : Type} {f : α → β} {xs : List α} (h : (xs.map f).Nodup) : xs.Nodup := (List.pairwise_map.mp h).imp fun ne e => ne (by rw [e])
theorem isWeb.nodup {m : Int} {ps : List (Int × Int)} (h : isWeb m ps) : ps.Nodup := nodup_of_map (isWeb_set.mp h).2
theorem isWeb.swp {m : Int} {ps : List (Int × Int)} (h : isWeb m ps) {p : Int × Int} (hp : p ∈ ps) : swp p ∉ ps := fun hq => by
  obtain ⟨i, hi⟩ := List.getElem?_of_mem hp
  obtain ⟨j, hj⟩ := List.getElem?_of_mem hq
  have hg := h.good hp
  have z := List.pairwise_iff_getElem.mp (isWeb_set.mp h).2
  obtain ⟨li, ei⟩ := List.getElem?_eq_some_iff.mp hi
  obtain ⟨lj, ej⟩ := List.getElem?_eq_some_iff.mp hj
  have hne : p ≠ Bm.swp p := fun e => hg.2.2.2.2 (by have := congrArg Prod.fst e; exact this)
  rcases Nat.lt_trichotomy i j with l | l | l
  · have := z i j (by simpa using li) (by simpa using lj) l
    rw [List.getElem_map, List.getElem_map, ei, ej] at this
    exact this (nrm_iff.mpr (.inr (swp_swp p).symm))
  · subst l
    rw [ei] at ej
    exact hne ej
  · have := z j i (by simpa using lj) (by simpa using li) l
    rw [List.getElem_map, List.getElem_map, ei, ej] at this
    exact this (nrm_iff.mpr (.inr rfl))
theorem isWeb.bd {m : Int} {ps : List (Int × Int)} (h : isWeb m ps) (hm : m ≤ 6) : ∀ p ∈ ps, bdP p := fun p hp => by
  have := h.good hp
  unfold bdP
  omega
/-! ### beats, as a set -/
theorem mem_beatsOne {m : Int} {vs : List (List Int)} {a : Int} {p : Int × Int} (hm : 0 ≤ m) : p ∈ beatsOne m vs a ↔ p.1 = a ∧ 0 ≤ p.2 ∧ p.2 < m ∧ a ≠ p.2 ∧ 0 < leadF vs a p.2 := by
  unfold beatsOne
  rw [List.mem_map]
  constructor
  · rintro ⟨b, hb, rfl⟩
    rw [List.mem_filter, mem_rgI] at hb
    simp only [Bool.and_eq_true, Bool.not_eq_true', decide_eq_false_iff_not, decide_eq_true_eq] at hb
    refine ⟨rfl, hb.1.1, ?_, hb.2.1, hb.2.2⟩
    have := hb.1.2
    dsimp only
    omega
  · rintro ⟨h1, h2, h3, h4, h5⟩
    refine ⟨p.2, ?_, by rw [← h1]⟩
    rw [List.mem_filter, mem_rgI]
    simp only [Bool.and_eq_true, Bool.not_eq_true', decide_eq_false_iff_not, decide_eq_true_eq]
    exact ⟨⟨h2, by omega⟩, h4, h5⟩
theorem mem_beatsF {m : Int} {vs : List (List Int)} {p : Int × Int} (hm : 0 ≤ m) : p ∈ beatsF m vs ↔ 0 ≤ p.1 ∧ p.1 < m ∧ 0 ≤ p.2 ∧ p.2 < m ∧ p.1 ≠ p.2 ∧ 0 < leadF vs p.1 p.2 := by
  unfold beatsF
  rw [List.mem_flatten]
  constructor
  · rintro ⟨l, hl, hp⟩
    obtain ⟨a, ha, rfl⟩ := List.mem_map.mp hl
    rw [mem_rgI] at ha
    obtain ⟨h1, h2, h3, h4, h5⟩ := (mem_beatsOne hm).mp hp
    subst h1
    exact ⟨ha.1, by omega, h2, h3, h4, h5⟩
  · rintro ⟨h1, h2, h3, h4, h5, h6⟩
    exact ⟨_, List.mem_map.mpr ⟨p.1, mem_rgI.mpr ⟨h1, by omega⟩, rfl⟩, (mem_beatsOne hm).mpr ⟨rfl, h3, h4, h5, h6⟩⟩
theorem rgI_lt (lo : Int) (n : Nat) : (rgI lo n).Pairwise (· < ·) := by
  unfold rgI
  exact List.pairwise_map.mpr (List.pairwise_lt_range.imp fun {i j} l => by omega)
theorem beatsF_pw {m : Int} (hm : 0 ≤ m ∧ m ≤ 6) (vs : List (List Int)) : (beatsF m vs).Pairwise fun p q => cdP p < cdP q := by
  unfold beatsF
  rw [List.pairwise_flatten]
  constructor
  · intro l hl
    obtain ⟨a, ha, rfl⟩ := List.mem_map.mp hl
    unfold beatsOne
    rw [List.pairwise_map]
    refine ((rgI_lt 0 m.toNat).filter _).imp fun {b c} h => ?_
    unfold cdP
    dsimp only
    omega
  · rw [List.pairwise_map]
    refine (rgI_lt 0 m.toNat).imp fun {a b} h p hp q hq => ?_
    obtain ⟨h1, h2, h3, _⟩ := (mem_beatsOne hm.1).mp hp
    obtain ⟨k1, k2, k3, _⟩ := (mem_beatsOne hm.1).mp hq
    unfold cdP
    omega
theorem beatsF_nodup {m : Int} (hm : 0 ≤ m ∧ m ≤ 6) (vs : List (List Int)) : (beatsF m vs).Nodup := (beatsF_pw hm vs).imp fun {p q} h e => by rw [e] at h; omega
theorem beatsF_is {m : Int} (hm : 0 ≤ m ∧ m ≤ 6) {vs : List (List Int)} {ps : List (Int × Int)} (hn : ps.Nodup) (h : ∀ p, p ∈ ps ↔ 0 ≤ p.1 ∧ p.1 < m ∧ 0 ≤ p.2 ∧ p.2 < m ∧ p.1 ≠ p.2 ∧ 0 < leadF vs p.1 p.2) : beatsF m vs = srtW ps := by
  refine srtW_of ((List.perm_ext_iff_of_nodup (beatsF_nodup hm vs) hn).mpr fun p => by rw [mem_beatsF hm.1, h]) (fun p hp => ?_) ((beatsF_pw hm vs).imp fun {p q} h => Int.le_of_lt h)
  have := (mem_beatsF hm.1).mp hp
  unfold bdP
  omega
theorem ixOf_ne {a b : Int} : ∀ {v : List Int}, a ∈ v → a ≠ b → ixOf a v ≠ ixOf b v
  | [], h, _ => by simp at h
  | y :: ys, h, ne => by
    unfold ixOf
    by_cases e : y = a
    · rw [if_pos e, if_neg (fun z => ne (e.symm.trans z))]
      omega
    · rw [if_neg e]
      by_cases e2 : y = b
      · rw [if_pos e2]
        omega
      · rw [if_neg e2]
        have := ixOf_ne (v := ys) (b := b) ((List.mem_cons.mp h).resolve_left fun z => e z.symm) ne
        omega
theorem sgn1_neg {v : List Int} {a b : Int} (h : a ∈ v) (ne : a ≠ b) : sgn1 v b a = -sgn1 v a b := by
  have := ixOf_ne (v := v) h ne
  unfold sgn1
  split <;> split <;> omega
theorem leadF_neg {a b : Int} (ne : a ≠ b) : ∀ {vs : List (List Int)}, (∀ v ∈ vs, a ∈ v) → leadF vs b a = -leadF vs a b
  | [], _ => rfl
  | v :: vs, h => by
    have e : ∀ x y, leadF (v :: vs) x y = sgn1 v x y + leadF vs x y := fun x y => by unfold leadF; rw [List.map_cons, List.sum_cons]
    rw [e, e, leadF_neg ne fun u hu => h u (List.mem_cons_of_mem _ hu), sgn1_neg (h v List.mem_cons_self) ne]
    omega
theorem beatsF_web {m : Int} (hm : 0 ≤ m ∧ m ≤ 6) {vs : List (List Int)} (hv : isVot m vs) : isWeb m (beatsF m vs) := by
  refine isWeb_set.mpr ⟨fun p hp => ?_, ?_⟩
  · have := (mem_beatsF hm.1).mp hp
    exact goodB_iff.mpr ⟨this.1, this.2.1, this.2.2.1, this.2.2.2.1, this.2.2.2.2.1⟩
  · refine List.pairwise_map.mpr ((beatsF_nodup hm vs).imp_of_mem fun {p q} hp hq ne e => ?_)
    rcases nrm_iff.mp e with e | e
    · exact ne e
    · obtain ⟨a1, a2, a3, a4, a5, a6⟩ := (mem_beatsF hm.1).mp hp
      obtain ⟨b1, b2, b3, b4, b5, b6⟩ := (mem_beatsF hm.1).mp hq
      rw [e] at a6
      have := leadF_neg (a := q.1) (b := q.2) b5 fun v hv2 => (hv v hv2).mem.mpr ⟨b1, b2⟩
      have a6' : 0 < leadF vs q.2 q.1 := a6
      omega
theorem beatsF_len {m : Int} (hm : 0 ≤ m ∧ m ≤ 6) (vs : List (List Int)) : (beatsF m vs).length ≤ 36 := by
  have e : beatsF m vs = beatsTo m vs m.toNat := rfl
  rw [e]
  exact beatsTo_len hm vs (by omega)
/-! ### the pairs of things, rising -/
theorem rgI_cons (lo : Int) (n : Nat) : rgI lo (n + 1) = lo :: rgI (lo + 1) n := by
  unfold rgI
  rw [List.range_succ_eq_map, List.map_cons, List.map_map]
  congr 1
  · omega
  · refine List.map_congr_left fun i _ => ?_
    show lo + ((i + 1 : Nat) : Int) = lo + 1 + (i : Int)
    omega
/-- the pairs of a with those from b up to m -/
def rowP (m a b : Int) : List (Int × Int) := (rgI b (m - b).toNat).map fun c => (a, c)
/-- the pairs of things from a up to m -/
def prsF (m : Int) : Nat → Int → List (Int × Int)
  | 0, _ => []
  | n + 1, a => rowP m a (a + 1) ++ prsF m n (a + 1)
def prs (m a : Int) : List (Int × Int) := prsF m (m - a).toNat a
theorem prs_end {m a : Int} (h : m ≤ a) : prs m a = [] := by
  unfold prs
  rw [show (m - a).toNat = 0 by omega]
  rfl
theorem prs_step {m a : Int} (h : a < m) : prs m a = rowP m a (a + 1) ++ prs m (a + 1) := by
  unfold prs
  obtain ⟨n, hn⟩ : ∃ n, (m - a).toNat = n + 1 := ⟨(m - a).toNat - 1, by omega⟩
  rw [hn, show (m - (a + 1)).toNat = n by omega]
  rfl
theorem rowP_end {m a b : Int} (h : m ≤ b) : rowP m a b = [] := by
  unfold rowP
  rw [show (m - b).toNat = 0 by omega]
  rfl
theorem rowP_step {m a b : Int} (h : b < m) : rowP m a b = (a, b) :: rowP m a (b + 1) := by
  unfold rowP
  obtain ⟨n, hn⟩ : ∃ n, (m - b).toNat = n + 1 := ⟨(m - b).toNat - 1, by omega⟩
  rw [hn, rgI_cons, List.map_cons, show (m - (b + 1)).toNat = n by omega]
theorem mem_rowP {m a b : Int} {p : Int × Int} : p ∈ rowP m a b ↔ p.1 = a ∧ b ≤ p.2 ∧ p.2 < m := by
  unfold rowP
  rw [List.mem_map]
  constructor
  · rintro ⟨c, hc, rfl⟩
    rw [mem_rgI] at hc
    dsimp only
    omega
  · rintro ⟨h1, h2, h3⟩
    exact ⟨p.2, mem_rgI.mpr (by omega), by rw [← h1]⟩
theorem mem_prsF {m : Int} {p : Int × Int} : ∀ {n : Nat} {a : Int}, a + (n : Int) = m ∨ n = 0 → (p ∈ prsF m n a ↔ a ≤ p.1 ∧ p.1 < a + n ∧ p.1 < p.2 ∧ p.2 < m)
  | 0, a, _ => by
    simp only [prsF, List.not_mem_nil, false_iff]
    omega
  | n + 1, a, h => by
    simp only [prsF, List.mem_append]
    rw [mem_rowP, mem_prsF (n := n) (a := a + 1) (by omega)]
    omega
theorem mem_prs {m a : Int} {p : Int × Int} : p ∈ prs m a ↔ a ≤ p.1 ∧ p.1 < p.2 ∧ p.2 < m := by
  unfold prs
  by_cases h : a ≤ m
  · rw [mem_prsF (.inl (by omega))]
    omega
  · rw [mem_prsF (.inr (by omega))]
    omega
theorem prsF_nodup {m : Int} : ∀ {n : Nat} {a : Int}, a + (n : Int) = m ∨ n = 0 → (prsF m n a).Nodup
  | 0, _, _ => List.nodup_nil
  | n + 1, a, h => by
    show (rowP m a (a + 1) ++ prsF m n (a + 1)).Nodup
    rw [List.nodup_append]
    refine ⟨?_, prsF_nodup (by omega), fun p hp q hq e => ?_⟩
    · unfold rowP
      exact List.pairwise_map.mpr ((rgI_nodup _ _).imp fun ne e => ne (by injection e))
    · subst e
      rw [mem_rowP] at hp
      rw [mem_prsF (by omega)] at hq
      omega
theorem prs_nodup (m a : Int) : (prs m a).Nodup := by
  unfold prs
  by_cases h : a ≤ m
  · exact prsF_nodup (.inl (by omega))
  · exact prsF_nodup (.inr (by omega))
theorem prs_len {m : Int} (hm : 0 ≤ m ∧ m ≤ 6) : (prs m 0).length ≤ 15 := by
  have : m = 0 ∨ m = 1 ∨ m = 2 ∨ m = 3 ∨ m = 4 ∨ m = 5 ∨ m = 6 := by omega
  rcases this with rfl | rfl | rfl | rfl | rfl | rfl | rfl <;> decide
end Bm

namespace Bm
open PySem PySem.Spec PyProof.Rows L2 Evl
/-! ### two voters for a beat, plain -/
def restF (m a b : Int) : List Int := (rgI 0 m.toNat).filter fun t => !decide (t = a) && !decide (t = b)
def twoF (m : Int) (p : Int × Int) : List (List Int) := [[p.1, p.2] ++ restF m p.1 p.2, (restF m p.1 p.2).reverse ++ [p.1, p.2]]
def dueF (m : Int) (ps : List (Int × Int)) : List (List Int) := (ps.map (twoF m)).flatten
theorem twoF_all : ((rgI 1 6).all fun m => (rgI 0 m.toNat).all fun x => (rgI 0 m.toNat).all fun y => decide (x = y) || ((twoF m (x, y)).all (fun v => decide (srt v = rgI 0 m.toNat)) &&
    (rgI 0 m.toNat).all fun a => (rgI 0 m.toNat).all fun b => decide (a = b) || decide (leadF (twoF m (x, y)) a b = if (a, b) = (x, y) then 2 else if (b, a) = (x, y) then -2 else 0))) = true := by decide +kernel
theorem twoF_ok {m : Int} (hm : 1 ≤ m ∧ m ≤ 6) {p : Int × Int} (hp : goodB m p = true) : isVot m (twoF m p) ∧
    ∀ a b, 0 ≤ a → a < m → 0 ≤ b → b < m → a ≠ b → leadF (twoF m p) a b = if (a, b) = p then 2 else if (b, a) = p then -2 else 0 := by
  obtain ⟨x, y⟩ := p
  obtain ⟨h1, h2, h3, h4, h5⟩ := goodB_iff.mp hp
  have z := List.all_eq_true.mp twoF_all m (mem_rgI.mpr (by omega))
  have z := List.all_eq_true.mp z x (mem_rgI.mpr (by dsimp only at *; omega))
  have z := List.all_eq_true.mp z y (mem_rgI.mpr (by dsimp only at *; omega))
  rw [decide_eq_false h5, Bool.false_or, Bool.and_eq_true] at z
  refine ⟨fun v hv => of_decide_eq_true (List.all_eq_true.mp z.1 v hv), fun a b a0 a1 b0 b1 ne => ?_⟩
  have w := List.all_eq_true.mp z.2 a (mem_rgI.mpr (by omega))
  have w := List.all_eq_true.mp w b (mem_rgI.mpr (by omega))
  rw [decide_eq_false ne, Bool.false_or, decide_eq_true_eq] at w
  exact w
theorem dueF_cons (m : Int) (p : Int × Int) (ps : List (Int × Int)) : dueF m (p :: ps) = twoF m p ++ dueF m ps := by
  unfold dueF
  rw [List.map_cons, List.flatten_cons]
theorem dueF_snoc (m : Int) (p : Int × Int) (ps : List (Int × Int)) : dueF m (ps ++ [p]) = dueF m ps ++ twoF m p := by
  unfold dueF
  rw [List.map_append, List.flatten_append]
  simp
theorem dueF_take {m : Int} {ps : List (Int × Int)} {i : Nat} {p : Int × Int} (h : ps[i]? = some p) : dueF m (ps.take (i + 1)) = dueF m (ps.take i) ++ twoF m p := by
  rw [List.take_add_one, h]
  exact dueF_snoc _ _ _
theorem dueF_len (m : Int) : ∀ ps : List (Int × Int), (dueF m ps).length = 2 * ps.length
  | [] => rfl
  | p :: ps => by
    rw [dueF_cons, List.length_append, dueF_len m ps, List.length_cons]
    show 2 + _ = _
    omega
theorem dueF_ok {m : Int} (hm : 1 ≤ m ∧ m ≤ 6) : ∀ {ps : List (Int × Int)}, (∀ p ∈ ps, goodB m p = true) → isVot m (dueF m ps)
  | [], _ => fun v h => by simp [dueF] at h
  | p :: ps, h => fun v hv => by
    rw [dueF_cons] at hv
    rcases List.mem_append.mp hv with hv | hv
    · exact (twoF_ok hm (h p List.mem_cons_self)).1 v hv
    · exact dueF_ok hm (fun q hq => h q (List.mem_cons_of_mem _ hq)) v hv
theorem dueF_lead {m : Int} (hm : 1 ≤ m ∧ m ≤ 6) {a b : Int} (ha : 0 ≤ a ∧ a < m) (hb : 0 ≤ b ∧ b < m) (ne : a ≠ b) : ∀ {ps : List (Int × Int)}, (∀ p ∈ ps, goodB m p = true) →
    ((b, a) ∉ ps → 0 ≤ leadF (dueF m ps) a b) ∧ ((b, a) ∉ ps → (a, b) ∈ ps → 0 < leadF (dueF m ps) a b) ∧ ((a, b) ∉ ps → leadF (dueF m ps) a b ≤ 0)
  | [], _ => by simp [dueF, leadF]
  | p :: ps, h => by
    obtain ⟨h1, h2, h3⟩ := dueF_lead hm ha hb ne (ps := ps) fun q hq => h q (List.mem_cons_of_mem _ hq)
    have z := (twoF_ok hm (h p List.mem_cons_self)).2 a b ha.1 ha.2 hb.1 hb.2 ne
    rw [dueF_cons, leadF_app, z]
    simp only [List.mem_cons, not_or]
    refine ⟨fun k => ?_, fun k k2 => ?_, fun k => ?_⟩
    · have := h1 k.2
      rw [if_neg k.1]
      split <;> omega
    · have := h1 k.2
      rw [if_neg k.1]
      rcases k2 with k2 | k2
      · rw [if_pos k2]
        omega
      · have := h2 k.2 k2
        split <;> omega
    · have := h3 k.2
      rw [if_neg k.1]
      split <;> omega
/-- the voters put together for a web make just this web -/
theorem due_beats {m : Int} (hm : 1 ≤ m ∧ m ≤ 6) {ps : List (Int × Int)} (h : isWeb m ps) : beatsF m (dueF m ps) = srtW ps := by
  have hg := (isWeb_set.mp h).1
  refine beatsF_is ⟨by omega, hm.2⟩ h.nodup fun p => ⟨fun hp => ?_, fun hp => ?_⟩
  · obtain ⟨h1, h2, h3, h4, h5⟩ := h.good hp
    exact ⟨h1, h2, h3, h4, h5, (dueF_lead hm ⟨h1, h2⟩ ⟨h3, h4⟩ h5 hg).2.1 (h.swp hp) hp⟩
  · obtain ⟨h1, h2, h3, h4, h5, h6⟩ := hp
    refine Classical.byContradiction fun n => ?_
    have := (dueF_lead hm ⟨h1, h2⟩ ⟨h3, h4⟩ h5 hg).2.2 n
    omega
/-- the lead that the voters for a web give: two for each beat -/
theorem due_lead {m : Int} (hm : 1 ≤ m ∧ m ≤ 6) {a b : Int} (ha : 0 ≤ a ∧ a < m) (hb : 0 ≤ b ∧ b < m) (ne : a ≠ b) : ∀ {ps : List (Int × Int)}, isWeb m ps → leadF (dueF m ps) a b = if (a, b) ∈ ps then 2 else if (b, a) ∈ ps then -2 else 0
  | [], _ => by simp [dueF, leadF]
  | p :: ps, h => by
    obtain ⟨g, n⟩ := isWeb_set.mp h
    rw [List.map_cons, List.nodup_cons] at n
    have hw : isWeb m ps := isWeb_set.mpr ⟨fun q hq => g q (List.mem_cons_of_mem _ hq), n.2⟩
    have nm : p ∉ ps ∧ swp p ∉ ps := ⟨fun z => n.1 (nrm_mem.mpr (.inl z)), fun z => n.1 (nrm_mem.mpr (.inr z))⟩
    have z := (twoF_ok hm (g p List.mem_cons_self)).2 a b ha.1 ha.2 hb.1 hb.2 ne
    rw [dueF_cons, leadF_app, z, due_lead hm ha hb ne hw]
    simp only [List.mem_cons]
    by_cases e1 : (a, b) = p
    · subst e1
      have n2 : (b, a) ∉ ps := nm.2
      rw [if_pos rfl, if_neg nm.1, if_neg n2, if_pos (.inl rfl)]
      rfl
    · by_cases e2 : (b, a) = p
      · subst e2
        have n2 : (a, b) ∉ ps := nm.2
        rw [if_neg e1, if_pos rfl, if_neg n2, if_neg nm.1, if_neg (by simp [e1, n2]), if_pos (.inl rfl)]
        rfl
      · rw [if_neg e1, if_neg e2]
        simp [e1, e2]
end Bm

namespace Bm
open PySem PySem.Spec PyProof.Rows L2 Evl
local macro_rules | `(tactic| wtm_at "rp") => `(tactic| first | exact rp_int | exact rp_bl | exact rp_str | exact rp_non | assumption | (refine' Rp.ex ?e ?h; (case h => assumption); (case e => assumption)) | exact Own.rp (by assumption))
local macro_rules | `(tactic| wtm_at "side") => `(tactic| first | assumption | omega | decide | rfl | exact ⟨by omega, by omega⟩)
local macro_rules | `(tactic| wtm_at "es") => `(tactic| first | exact evs_nil | (refine' evs_cons ?a ?b; (case a => wtm_at "ev"); (case b => wtm_at "es")))
local macro_rules | `(tactic| wtm_at "ev") => `(tactic| first
  | exact evd_int | exact evd_str | exact evd_bl | exact evd_non
  | (refine' evd_var rfl ?h; (case h => wtm_at "rp"))
  | ((with_reducible refine' evd_op ?a ?b rd_addI); (case a => wtm_at "ev"); (case b => wtm_at "ev"))
  | ((with_reducible refine' evd_op ?a ?b rd_subI); (case a => wtm_at "ev"); (case b => wtm_at "ev"))
  | ((with_reducible refine' evd_op ?a ?b (rd_mulI ?c)); (case a => wtm_at "ev"); (case b => wtm_at "ev"); (case c => wtm_at "side"))
  | ((with_reducible refine' evd_op ?a ?b (rd_divI ?c)); (case a => wtm_at "ev"); (case b => wtm_at "ev"); (case c => wtm_at "side"))
  | ((with_reducible refine' evd_op ?a ?b (rd_modI ?c)); (case a => wtm_at "ev"); (case b => wtm_at "ev"); (case c => wtm_at "side"))
  | ((with_reducible refine' evd_op ?a ?b rd_ltI); (case a => wtm_at "ev"); (case b => wtm_at "ev"))
  | ((with_reducible refine' evd_op ?a ?b rd_leI); (case a => wtm_at "ev"); (case b => wtm_at "ev"))
  | ((with_reducible refine' evd_op ?a ?b rd_gtI); (case a => wtm_at "ev"); (case b => wtm_at "ev"))
  | ((with_reducible refine' evd_op ?a ?b rd_geI); (case a => wtm_at "ev"); (case b => wtm_at "ev"))
  | ((with_reducible refine' evd_op ?a ?b rd_eqI); (case a => wtm_at "ev"); (case b => wtm_at "ev"))
  | ((with_reducible refine' evd_op ?a ?b rd_neI); (case a => wtm_at "ev"); (case b => wtm_at "ev"))
  | ((with_reducible refine' evd_op ?a ?b rd_eqB); (case a => wtm_at "ev"); (case b => wtm_at "ev"))
  | ((with_reducible refine' evd_op ?a ?b rd_neB); (case a => wtm_at "ev"); (case b => wtm_at "ev"))
  | ((with_reducible refine' evd_op ?a ?b rd_isNo); (case a => wtm_at "ev"); (case b => wtm_at "ev"))
  | ((with_reducible refine' evd_op ?a ?b rd_notNo); (case a => wtm_at "ev"); (case b => wtm_at "ev"))
  | ((with_reducible refine' evd_op ?a ?b rd_inIL); (case a => wtm_at "ev"); (case b => wtm_at "ev"))
  | ((with_reducible refine' evd_op ?a ?b rd_niIL); (case a => wtm_at "ev"); (case b => wtm_at "ev"))
  | ((with_reducible refine' evd_op ?a ?b rd_inID); (case a => wtm_at "ev"); (case b => wtm_at "ev"))
  | ((with_reducible refine' evd_op ?a ?b rd_niID); (case a => wtm_at "ev"); (case b => wtm_at "ev"))
  | ((with_reducible refine' evd_neg ?a); (case a => wtm_at "ev"))
  | ((with_reducible refine' evd_tix ?a ?b ?c); (case a => wtm_at "ev"); (case b => wtm_at "ev"); (case c => wtm_at "side"))
  | ((with_reducible refine' evd_tup ?a ?b); (case a => wtm_at "es"); (case b => exact Nat.le_of_ble_eq_true rfl))
  | ((with_reducible refine' evd_cb ?a cd_lenL); (case a => wtm_at "es"))
  | ((with_reducible refine' evd_cb ?a cd_lenT); (case a => wtm_at "es"))
  | ((with_reducible refine' evd_cb ?a cd_intB); (case a => wtm_at "es"))
  | ((with_reducible refine' evd_cb ?a cd_tupL); (case a => wtm_at "es"))
  | ((with_reducible refine' evd_and ?a ?b); (case a => wtm_at "ev"); (case b => intro _; wtm_at "ev"))
  | ((with_reducible refine' evd_or ?a ?b); (case a => wtm_at "ev"); (case b => intro _; wtm_at "ev"))
  | ((with_reducible refine' evd_not ?a); (case a => wtm_at "ev"))
  | ((with_reducible refine' evd_op ?a ?b rd_neIL); (case a => wtm_at "ev"); (case b => wtm_at "ev"))
  | ((with_reducible refine' evd_op ?a ?b rd_eqIL); (case a => wtm_at "ev"); (case b => wtm_at "ev"))
  | ((with_reducible refine' EvN.toD ?a); (case a => wtm_at "en")))
local macro_rules | `(tactic| wtm_at "en") => `(tactic| first
  | ((with_reducible refine' evn_cb ?a cn_sortTI); (case a => wtm_at "es"))
  | ((with_reducible refine' evn_cb ?a cn_listL); (case a => wtm_at "es"))
  | ((with_reducible refine' evn_cb ?a cn_listT); (case a => wtm_at "es"))
  | ((with_reducible refine' evn_rng ?a ?b); (case a => wtm_at "ev"); (case b => wtm_at "side"))
  | ((with_reducible refine' evn_lst ?a ?b); (case a => wtm_at "es"); (case b => exact Nat.le_of_ble_eq_true rfl))
  | ((with_reducible refine' evn_cat ?a ?b ?c); (case a => wtm_at "ev"); (case b => wtm_at "ev"); (case c => wtm_at "side"))
  | ((with_reducible refine' evn_slL ?a ?b ?c); (case a => wtm_at "ev"); (case b => first | exact evp_none | (refine' evp_some ?d; (case d => wtm_at "ev"))); (case c => first | exact evp_none | (refine' evp_some ?d; (case d => wtm_at "ev")))))
local macro_rules | `(tactic| wtm_at "et") => `(tactic| first
  | exact et_yes
  | (refine' ett ?a; (case a => wtm_at "ev"))
  | (refine' etB ?a; (case a => wtm_at "ev"))
  | (refine' et_and ?a ?b; (case a => wtm_at "et"); (case b => intro _; wtm_at "et"))
  | (refine' et_or ?a ?b; (case a => wtm_at "et"); (case b => intro _; wtm_at "et"))
  | (refine' et_not ?a; (case a => wtm_at "et")))
local macro_rules | `(tactic| wtm_at "nx") => `(tactic| try dsimp only [tSeq, tNext])
/-! ### two_for, makers, make, makes -/
def sp_two_for : Sp := spO (α := Int × Int × Int) (fun a => [.int a.1, .int a.2.1, .int a.2.2]) (fun a => 0 ≤ a.1 ∧ a.1 ≤ 6) fun a => .new ((twoF a.1 (a.2.1, a.2.2)).map iD)
theorem len_two_for (vs : List V) (H : Hp) (Q : VK) (E : XK) (h : sp_two_for vs H Q E) : vs.length = 3 := by
  unfold sp_two_for at h
  obtain ⟨a, r, _⟩ := h
  rw [r.len]
  rfl
theorem restF_len (m a b : Int) : (restF m a b).length ≤ m.toNat := by
  unfold restF
  exact Nat.le_trans (List.length_filter_le _ _) (by rw [rgI_len]; exact Nat.le_refl _)
section
variable {P : Program} {w : World} {K : PySem.W.Frag} {mg : Str → Option Value} {base : Heap}
theorem ok_two_for {f : Addr} {fd : FuncData} (D : Df K mg "two_for" s_two_for ["many", "one", "other"] f fd) (Bi : Bi mg) : FnOk P w K mg base CX0 1 f fd ["many", "one", "other"] sp_two_for := by
  refine D.F.ok c_two_for (fun vs H Q E h => len_two_for _ _ _ _ h) (fun cdv A outer s H vs Q E hr h => ?_)
  refine ⟨_, (pss_cons (ps_setLc (i := 3) (own := [("thing", 4)]) (g := (gName 4)) rfl c_two_for.nd rfl rfl (sw_true rfl rfl rfl (by decide +kernel)) (pi_range1 (by rfl) Bi.range (pa_cons (pv 0) pa_nil)) (blkOk_by (own := [("thing", 4)]) (N := ["many", "one", "other", "rest", "thing"]) (sc := defScope s_two_for) (by decide +kernel)) (fun _ _ _ _ _ => (pg_name (i := 4) c_two_for.nd rfl (.inl rfl))) (fun _ _ _ _ _ => pts_one (PW.pt (pw_and (pt_cmpR op_neI (pv 4) (pv 1) (nomark _)) (pw_and1 (pt_cmpR op_neI (pv 4) (pv 2) (nomark _)))))) (fun _ _ _ _ _ => (pv 4)))
      (pss_one (ps_ret (pe_lst (pa_cons (pe_op (op_catFK (K := K)) (pe_tupF (pa_cons (pv 1) (pa_cons (pv 2) pa_nil))) (pe_callTy (cr_tupLK (K := K)) (by rfl) Bi.tuple (by decide +kernel) (pa_cons (pv 3) pa_nil))) (pa_cons (pe_op (op_catFK (K := K)) (pe_tupRevF rfl (by rfl) Bi.tuple (by rfl) Bi.reversed (pv 3)) (pe_tupF (pa_cons (pv 1) (pa_cons (pv 2) pa_nil)))) pa_nil)))))), ?_⟩
  obtain ⟨⟨m, a, b⟩, ⟨v1, _, rfl, rfl, v2, _, rfl, rfl, v3, _, rfl, rfl, rfl⟩, ⟨m0, m6⟩, q⟩ := h
  dsimp only at q m0 m6
  have hl := restF_len m a b
  refine' s_asgO (ds := (restF m a b).map .int) ?x (imm_ints _) fun p H1 e1 o1 => ?_
  case x =>
    unfold restF
    refine' evn_lcR (n := m) (fun t => !decide (t = a) && !decide (t = b)) (fun t => .int t) ?es (by omega) ?turn ?imm
    case es => wtm_at "es"
    case imm => intros; rfl
    case turn =>
      intro x H5 x0 x1 e5
      refine ⟨_, fun Q hq => hq, rfl, ?_, fun _ => ?_⟩
      · wtm_at "et"
      · wtm_at "ev"
  wtm_at "nx"
  have hr := o1.rp
  refine' s_retNw (ds := (twoF m (a, b)).map iD) ?r fun p2 ws H3 hn e3 k1 k2 => q p2 ws H3 (fresh_back e1 hn) (e1.trans e3) k1 k2
  case r =>
    rw [show (twoF m (a, b)).map iD = [.tuple ([.int a, .int b] ++ (restF m a b).map .int), .tuple (((restF m a b).map .int).reverse ++ [.int a, .int b])] by
      unfold twoF iD
      simp]
    refine' evn_lst (evs_cons (evd_catT ?a (evd_cb (evs_cons (evd_var rfl hr) evs_nil) cd_tupL) ?c) (evs_cons (evd_catT (evd_revL (evd_var rfl hr) ?d) ?e ?f) evs_nil)) (Nat.le_of_ble_eq_true rfl)
    case a => wtm_at "ev"
    case e => wtm_at "ev"
    case c =>
      rw [List.length_map]
      show 2 + _ ≤ _
      omega
    case d =>
      rw [List.length_map]
      omega
    case f =>
      rw [List.length_reverse, List.length_map]
      show _ + 2 ≤ _
      omega
end
theorem ev_two_for {σ : L2.St} {H : Hp} {t0 t1 t2 : TE} {E : XK} {m a b : Int} (h0 : EvD t0 σ H (.int m)) (h1 : EvD t1 σ H (.int a)) (h2 : EvD t2 σ H (.int b)) (c : 0 ≤ m ∧ m ≤ 6) :
    EvN (tCall sp_two_for [] E (tCons t0 (tCons t1 (tCons t2 tNil)))) σ H ((twoF m (a, b)).map iD) := evn_callO (m, a, b) (evs_cons h0 (evs_cons h1 (evs_cons h2 evs_nil))) c rfl
def sp_makers (C1 C3 : Addr) : Sp := spO (α := Int × List (Int × Int)) (fun a => [.int a.1, wD a.2]) (fun a => a.2.length ≤ 1000) fun a => chkW C1 C3 a.1 a.2 (.new ((dueF a.1 a.2).map iD))
theorem len_makers {C_BadCount : Addr} {C_BadWeb : Addr} (vs : List V) (H : Hp) (Q : VK) (E : XK) (h : (sp_makers C_BadCount C_BadWeb) vs H Q E) : vs.length = 2 := by
  unfold sp_makers at h
  obtain ⟨a, r, _⟩ := h
  rw [r.len]
  rfl
section
variable {P : Program} {w : World} {K : PySem.W.Frag} {mg : Str → Option Value} {base : Heap}
theorem ok_makers {f : Addr} {fd : FuncData} (D : Df K mg "makers" s_makers ["many", "web"] f fd) (Bi : Bi mg) {f_look_at_web : Addr} {fd_look_at_web : FuncData} (D_look_at_web : Df K mg "look_at_web" s_look_at_web ["many", "web"] f_look_at_web fd_look_at_web) (G_look_at_web : FnOk P w K mg base (L2.CX P w) 2 f_look_at_web fd_look_at_web ["many", "web"] (sp_look_at_web C_BadCount C_BadWeb)) {f_two_for : Addr} {fd_two_for : FuncData} (D_two_for : Df K mg "two_for" s_two_for ["many", "one", "other"] f_two_for fd_two_for) (G_two_for : FnOk P w K mg base CX0 1 f_two_for fd_two_for ["many", "one", "other"] sp_two_for) : FnOk P w K mg base (L2.CX P w) 3 f fd ["many", "web"] (sp_makers C_BadCount C_BadWeb) := by
  refine D.F.okX c_makers (fun vs H Q E h => len_makers _ _ _ _ h) (fun cdv A outer s H vs Q E hr h => ?_)
  refine ⟨_, (pss_cons (ps_expr (pe_callS G_look_at_web (hr.mono (by decide)) (by rfl) D_look_at_web.g D_look_at_web.F.kp D_look_at_web.b (fun σ => passAt (takes_of rfl rfl rfl rfl) σ) (pa_cons (pv 0) (pa_cons (pv 1) pa_nil))))
      (pss_cons (ps_set (i := 2) c_makers.nd rfl (.inl rfl) (pe_lst pa_nil))
      (pss_cons (ps_for (passes_of rfl) rfl (pi_listK (K := K) (pv 1)) (pg_tupK (K := K) rfl (pgs_cons (pg_name (i := 3) c_makers.nd rfl (.inl rfl)) (pgs_cons (pg_name (i := 4) c_makers.nd rfl (.inl rfl)) pgs_nil)))
      (pss_one (ps_expr (pe_bm PySem.F.plainAttrs_list PySem.F.slot_list_extend PySem.F.type_list_extend mt_extend (pv 2) (pa_cons (pe_call G_two_for (hr.mono (by decide)) (by rfl) D_two_for.g D_two_for.F.kp D_two_for.b .nil pass0 (pa_cons (pv 0) (pa_cons (pv 3) (pa_cons (pv 4) pa_nil)))) pa_nil)))))
      (pss_one (ps_ret (pv 2)))))), ?_⟩
  obtain ⟨⟨m, ps⟩, ⟨v1, _, rfl, rfl, v2, _, rfl, hv, rfl⟩, hl, q⟩ := h
  dsimp only at q hv hl
  refine s_callX (m, ps) ?a hl fun H1 e1 => chkW_go q e1 fun h1 h2 q H2 e2 => ?_
  case a => wtm_at "es"
  wtm_at "nx"
  have e12 := e1.trans e2
  have hm : 1 ≤ m ∧ m ≤ 6 := h1
  refine' s_asgO (evn_lst evs_nil (by decide)) rfl fun p H3 e3 o3 => ?_
  wtm_at "nx"
  have o3 := o3.lower e12
  refine s_forB (f := pD) (xs := ps) (Hb := H) rfl hv (e12.trans e3) (fun i σ' H' => (∃ y z, σ' = [some (.int m), some v2, some (.ref p), y, z]) ∧ Own H H' p ((dueF m (ps.take i)).map iD)) ?_ ?_ ?_ ?_
  · exact ⟨⟨none, none, rfl⟩, o3⟩
  · rintro i σ' H' ⟨_, o⟩
    exact o.ex
  · rintro i x v σ' H' hx hr ⟨⟨y, z, rfl⟩, o⟩
    refine g_pair hr ?_
    have hi : i < ps.length := (List.getElem?_eq_some_iff.mp hx).1
    refine' s_extO o rfl (es := (twoF m x).map iD) (ev_two_for (a := x.1) (b := x.2) ?a ?b ?c (by omega)) (imm_vD _) ?sz fun H5 x5 o5 => ?_
    case a => wtm_at "ev"
    case b => wtm_at "ev"
    case c => wtm_at "ev"
    case sz =>
      rw [List.length_map, List.length_map, dueF_len, List.length_take]
      show _ + 2 ≤ _
      omega
    rw [← List.map_append, ← dueF_take hx] at o5
    exact ⟨⟨_, _, rfl⟩, o5⟩
  · rintro σ' H' ⟨⟨y, z, rfl⟩, o⟩
    rw [List.take_length] at o
    obtain ⟨ws, k1, k2⟩ := o.has
    exact ⟨_, rfl, q p ws H' o.new o.ex k1 k2⟩
end
theorem ev_makers {C1 C3 : Addr} {σ : L2.St} {H : Hp} {t0 t1 : TE} {E : XK} {m : Int} {ps : List (Int × Int)} (h0 : EvD t0 σ H (.int m)) (h1 : EvD t1 σ H (wD ps)) (c : okCount m) (p : isWeb m ps) (l : ps.length ≤ 1000) :
    EvN (tCall (sp_makers C1 C3) [] E (tCons t0 (tCons t1 tNil))) σ H ((dueF m ps).map iD) := evn_callO (m, ps) (evs_cons h0 (evs_cons h1 evs_nil)) l (chkW_ok c p)
def makeF (m : Int) (vs : List (List Int)) (ps : List (Int × Int)) : Bool := decide (beatsF m vs = srtW ps)
def sp_make : Sp := spO (α := Int × List (List Int) × List (Int × Int)) (fun a => [.int a.1, vD a.2.1, wD a.2.2]) (fun a => (0 ≤ a.1 ∧ a.1 ≤ 6) ∧ isVot a.1 a.2.1 ∧ a.2.2.length < 64 ∧ ∀ p ∈ a.2.2, bdP p) fun a => .val (.bool (makeF a.1 a.2.1 a.2.2))
theorem len_make (vs : List V) (H : Hp) (Q : VK) (E : XK) (h : sp_make vs H Q E) : vs.length = 3 := by
  unfold sp_make at h
  obtain ⟨a, r, _⟩ := h
  rw [r.len]
  rfl
section
variable {P : Program} {w : World} {K : PySem.W.Frag} {mg : Str → Option Value} {base : Heap}
theorem ok_make {f : Addr} {fd : FuncData} (D : Df K mg "make" s_make ["many", "voters", "web"] f fd) (Bi : Bi mg) {f_beats_of : Addr} {fd_beats_of : FuncData} (D_beats_of : Df K mg "beats_of" s_beats_of ["many", "voters"] f_beats_of fd_beats_of) (G_beats_of : FnOk P w K mg base CX0 2 f_beats_of fd_beats_of ["many", "voters"] sp_beats_of) : FnOk P w K mg base CX0 3 f fd ["many", "voters", "web"] sp_make := by
  refine D.F.ok c_make (fun vs H Q E h => len_make _ _ _ _ h) (fun cdv A outer s H vs Q E hr h => ?_)
  refine ⟨_, (pss_one (ps_ret (pe_cmpR (op_eqDK (K := K) hr.units) (pe_call G_beats_of (hr.mono (by decide)) (by rfl) D_beats_of.g D_beats_of.F.kp D_beats_of.b .nil pass0 (pa_cons (pv 0) (pa_cons (pv 1) pa_nil))) (pe_callB (cr_sortedWK (K := K)) (by rfl) Bi.sorted (by decide +kernel) (pa_cons (pv 2) pa_nil)) (nomark _)))), ?_⟩
  obtain ⟨⟨m, vss, ps⟩, ⟨v1, _, rfl, rfl, v2, _, rfl, hv, v3, _, rfl, hw, rfl⟩, ⟨hm, hp, hl, hb⟩, q⟩ := h
  dsimp only at q hv hw hm hp hl hb
  refine s_retD (d := .bool (makeF m vss ps)) (evd_op (ev_beats_of (m := m) (vss := vss) (evd_var rfl rp_int) (evd_var rfl hv) hm hp).toD (evn_cb (evs_cons (evd_var rfl hw) evs_nil) (cn_sortW hl hb)).toD rd_eqW) q
end
theorem ev_make {σ : L2.St} {H : Hp} {t0 t1 t2 : TE} {E : XK} {m : Int} {vss : List (List Int)} {ps : List (Int × Int)} (h0 : EvD t0 σ H (.int m)) (h1 : EvD t1 σ H (vD vss)) (h2 : EvD t2 σ H (wD ps)) (c : 0 ≤ m ∧ m ≤ 6) (p : isVot m vss) (l : ps.length < 64) (b : ∀ p ∈ ps, bdP p) :
    EvD (tCall sp_make [] E (tCons t0 (tCons t1 (tCons t2 tNil)))) σ H (.bool (makeF m vss ps)) := evd_callO (m, vss, ps) (evs_cons h0 (evs_cons h1 (evs_cons h2 evs_nil))) ⟨c, p, l, b⟩ rfl
def sp_makes (C1 C2 C3 : Addr) : Sp := spO (α := Int × List (List Int) × List (Int × Int)) (fun a => [.int a.1, vD a.2.1, wD a.2.2]) (fun a => a.2.2.length < 64) fun a => chkV C1 C2 a.1 a.2.1 (chkW C1 C3 a.1 a.2.2 (.val (.bool (makeF a.1 a.2.1 a.2.2))))
theorem len_makes {C_BadCount : Addr} {C_BadVoter : Addr} {C_BadWeb : Addr} (vs : List V) (H : Hp) (Q : VK) (E : XK) (h : (sp_makes C_BadCount C_BadVoter C_BadWeb) vs H Q E) : vs.length = 3 := by
  unfold sp_makes at h
  obtain ⟨a, r, _⟩ := h
  rw [r.len]
  rfl
section
variable {P : Program} {w : World} {K : PySem.W.Frag} {mg : Str → Option Value} {base : Heap}
theorem ok_makes {f : Addr} {fd : FuncData} (D : Df K mg "makes" s_makes ["many", "voters", "web"] f fd) (Bi : Bi mg) {f_look_at_voters : Addr} {fd_look_at_voters : FuncData} (D_look_at_voters : Df K mg "look_at_voters" s_look_at_voters ["many", "voters"] f_look_at_voters fd_look_at_voters) (G_look_at_voters : FnOk P w K mg base (L2.CX P w) 2 f_look_at_voters fd_look_at_voters ["many", "voters"] (sp_look_at_voters C_BadCount C_BadVoter)) {f_look_at_web : Addr} {fd_look_at_web : FuncData} (D_look_at_web : Df K mg "look_at_web" s_look_at_web ["many", "web"] f_look_at_web fd_look_at_web) (G_look_at_web : FnOk P w K mg base (L2.CX P w) 2 f_look_at_web fd_look_at_web ["many", "web"] (sp_look_at_web C_BadCount C_BadWeb)) {f_make : Addr} {fd_make : FuncData} (D_make : Df K mg "make" s_make ["many", "voters", "web"] f_make fd_make) (G_make : FnOk P w K mg base CX0 3 f_make fd_make ["many", "voters", "web"] sp_make) : FnOk P w K mg base (L2.CX P w) 4 f fd ["many", "voters", "web"] (sp_makes C_BadCount C_BadVoter C_BadWeb) := by
  refine D.F.okX c_makes (fun vs H Q E h => len_makes _ _ _ _ h) (fun cdv A outer s H vs Q E hr h => ?_)
  refine ⟨_, (pss_cons (ps_expr (pe_callS G_look_at_voters (hr.mono (by decide)) (by rfl) D_look_at_voters.g D_look_at_voters.F.kp D_look_at_voters.b (fun σ => passAt (takes_of rfl rfl rfl rfl) σ) (pa_cons (pv 0) (pa_cons (pv 1) pa_nil))))
      (pss_cons (ps_expr (pe_callS G_look_at_web (hr.mono (by decide)) (by rfl) D_look_at_web.g D_look_at_web.F.kp D_look_at_web.b (fun σ => passAt (takes_of rfl rfl rfl rfl) σ) (pa_cons (pv 0) (pa_cons (pv 2) pa_nil))))
      (pss_one (ps_ret (pe_call G_make (hr.mono (by decide)) (by rfl) D_make.g D_make.F.kp D_make.b .nil pass0 (pa_cons (pv 0) (pa_cons (pv 1) (pa_cons (pv 2) pa_nil)))))))), ?_⟩
  obtain ⟨⟨m, vss, ps⟩, ⟨v1, _, rfl, rfl, v2, _, rfl, hv, v3, _, rfl, hw, rfl⟩, hl, q⟩ := h
  dsimp only at q hv hw hl
  refine s_callX (m, vss) ?a trivial fun H1 e1 => chkV_go q e1 fun h1 h2 q H2 e2 => ?_
  case a => wtm_at "es"
  wtm_at "nx"
  have e12 := e1.trans e2
  have hv2 := hv.ex e12
  have hw2 := hw.ex e12
  refine s_callX (m, ps) ?a (by show ps.length ≤ 1000; omega) fun H3 e3 => chkW_go q (e12.trans e3) fun h3 h4 q H4 e4 => ?_
  case a => wtm_at "es"
  wtm_at "nx"
  have e34 := e3.trans e4
  have hm : 1 ≤ m ∧ m ≤ 6 := h1
  exact s_retD (ev_make (evd_var rfl rp_int) (evd_var rfl (hv2.ex e34)) (evd_var rfl (hw2.ex e34)) (by omega) h2 hl (h4.bd hm.2)) fun v H5 e5 r => q v H5 ((e12.trans e34).trans e5) r
end
theorem ev_makes {C1 C2 C3 : Addr} {σ : L2.St} {H : Hp} {t0 t1 t2 : TE} {E : XK} {m : Int} {vss : List (List Int)} {ps : List (Int × Int)} (h0 : EvD t0 σ H (.int m)) (h1 : EvD t1 σ H (vD vss)) (h2 : EvD t2 σ H (wD ps)) (c : okCount m) (p : isVot m vss) (p2 : isWeb m ps) (l : ps.length < 64) :
    EvD (tCall (sp_makes C1 C2 C3) [] E (tCons t0 (tCons t1 (tCons t2 tNil)))) σ H (.bool (makeF m vss ps)) := evd_callO (m, vss, ps) (evs_cons h0 (evs_cons h1 (evs_cons h2 evs_nil))) l (by rw [chkV_ok c p, chkW_ok c p2])
end Bm

namespace Bm
open PySem PySem.Spec PyProof.Rows L2 Evl
local macro_rules | `(tactic| wtm_at "rp") => `(tactic| first | exact rp_int | exact rp_bl | exact rp_str | exact rp_non | assumption | (refine' Rp.ex ?e ?h; (case h => assumption); (case e => assumption)) | exact Own.rp (by assumption))
local macro_rules | `(tactic| wtm_at "side") => `(tactic| first | assumption | omega | decide | rfl | exact ⟨by omega, by omega⟩)
local macro_rules | `(tactic| wtm_at "es") => `(tactic| first | exact evs_nil | (refine' evs_cons ?a ?b; (case a => wtm_at "ev"); (case b => wtm_at "es")))
local macro_rules | `(tactic| wtm_at "ev") => `(tactic| first
  | exact evd_int | exact evd_str | exact evd_bl | exact evd_non
  | (refine' evd_var rfl ?h; (case h => wtm_at "rp"))
  | ((with_reducible refine' evd_op ?a ?b rd_addI); (case a => wtm_at "ev"); (case b => wtm_at "ev"))
  | ((with_reducible refine' evd_op ?a ?b rd_subI); (case a => wtm_at "ev"); (case b => wtm_at "ev"))
  | ((with_reducible refine' evd_op ?a ?b (rd_mulI ?c)); (case a => wtm_at "ev"); (case b => wtm_at "ev"); (case c => wtm_at "side"))
  | ((with_reducible refine' evd_op ?a ?b (rd_divI ?c)); (case a => wtm_at "ev"); (case b => wtm_at "ev"); (case c => wtm_at "side"))
  | ((with_reducible refine' evd_op ?a ?b (rd_modI ?c)); (case a => wtm_at "ev"); (case b => wtm_at "ev"); (case c => wtm_at "side"))
  | ((with_reducible refine' evd_op ?a ?b rd_ltI); (case a => wtm_at "ev"); (case b => wtm_at "ev"))
  | ((with_reducible refine' evd_op ?a ?b rd_leI); (case a => wtm_at "ev"); (case b => wtm_at "ev"))
  | ((with_reducible refine' evd_op ?a ?b rd_gtI); (case a => wtm_at "ev"); (case b => wtm_at "ev"))
  | ((with_reducible refine' evd_op ?a ?b rd_geI); (case a => wtm_at "ev"); (case b => wtm_at "ev"))
  | ((with_reducible refine' evd_op ?a ?b rd_eqI); (case a => wtm_at "ev"); (case b => wtm_at "ev"))
  | ((with_reducible refine' evd_op ?a ?b rd_neI); (case a => wtm_at "ev"); (case b => wtm_at "ev"))
  | ((with_reducible refine' evd_op ?a ?b rd_eqB); (case a => wtm_at "ev"); (case b => wtm_at "ev"))
  | ((with_reducible refine' evd_op ?a ?b rd_neB); (case a => wtm_at "ev"); (case b => wtm_at "ev"))
  | ((with_reducible refine' evd_op ?a ?b rd_isNo); (case a => wtm_at "ev"); (case b => wtm_at "ev"))
  | ((with_reducible refine' evd_op ?a ?b rd_notNo); (case a => wtm_at "ev"); (case b => wtm_at "ev"))
  | ((with_reducible refine' evd_op ?a ?b rd_inIL); (case a => wtm_at "ev"); (case b => wtm_at "ev"))
  | ((with_reducible refine' evd_op ?a ?b rd_niIL); (case a => wtm_at "ev"); (case b => wtm_at "ev"))
  | ((with_reducible refine' evd_op ?a ?b rd_inID); (case a => wtm_at "ev"); (case b => wtm_at "ev"))
  | ((with_reducible refine' evd_op ?a ?b rd_niID); (case a => wtm_at "ev"); (case b => wtm_at "ev"))
  | ((with_reducible refine' evd_neg ?a); (case a => wtm_at "ev"))
  | ((with_reducible refine' evd_tix ?a ?b ?c); (case a => wtm_at "ev"); (case b => wtm_at "ev"); (case c => wtm_at "side"))
  | ((with_reducible refine' evd_tup ?a ?b); (case a => wtm_at "es"); (case b => exact Nat.le_of_ble_eq_true rfl))
  | ((with_reducible refine' evd_cb ?a cd_lenL); (case a => wtm_at "es"))
  | ((with_reducible refine' evd_cb ?a cd_lenT); (case a => wtm_at "es"))
  | ((with_reducible refine' evd_cb ?a cd_intB); (case a => wtm_at "es"))
  | ((with_reducible refine' evd_cb ?a cd_tupL); (case a => wtm_at "es"))
  | ((with_reducible refine' evd_and ?a ?b); (case a => wtm_at "ev"); (case b => intro _; wtm_at "ev"))
  | ((with_reducible refine' evd_or ?a ?b); (case a => wtm_at "ev"); (case b => intro _; wtm_at "ev"))
  | ((with_reducible refine' evd_not ?a); (case a => wtm_at "ev"))
  | ((with_reducible refine' evd_op ?a ?b rd_neIL); (case a => wtm_at "ev"); (case b => wtm_at "ev"))
  | ((with_reducible refine' evd_op ?a ?b rd_eqIL); (case a => wtm_at "ev"); (case b => wtm_at "ev"))
  | ((with_reducible refine' EvN.toD ?a); (case a => wtm_at "en")))
local macro_rules | `(tactic| wtm_at "en") => `(tactic| first
  | ((with_reducible refine' evn_cb ?a cn_sortTI); (case a => wtm_at "es"))
  | ((with_reducible refine' evn_cb ?a cn_listL); (case a => wtm_at "es"))
  | ((with_reducible refine' evn_cb ?a cn_listT); (case a => wtm_at "es"))
  | ((with_reducible refine' evn_rng ?a ?b); (case a => wtm_at "ev"); (case b => wtm_at "side"))
  | ((with_reducible refine' evn_lst ?a ?b); (case a => wtm_at "es"); (case b => exact Nat.le_of_ble_eq_true rfl))
  | ((with_reducible refine' evn_cat ?a ?b ?c); (case a => wtm_at "ev"); (case b => wtm_at "ev"); (case c => wtm_at "side"))
  | ((with_reducible refine' evn_slL ?a ?b ?c); (case a => wtm_at "ev"); (case b => first | exact evp_none | (refine' evp_some ?d; (case d => wtm_at "ev"))); (case c => first | exact evp_none | (refine' evp_some ?d; (case d => wtm_at "ev")))))
local macro_rules | `(tactic| wtm_at "et") => `(tactic| first
  | exact et_yes
  | (refine' ett ?a; (case a => wtm_at "ev"))
  | (refine' etB ?a; (case a => wtm_at "ev"))
  | (refine' et_and ?a ?b; (case a => wtm_at "et"); (case b => intro _; wtm_at "et"))
  | (refine' et_or ?a ?b; (case a => wtm_at "et"); (case b => intro _; wtm_at "et"))
  | (refine' et_not ?a; (case a => wtm_at "et")))
local macro_rules | `(tactic| wtm_at "nx") => `(tactic| try dsimp only [tSeq, tNext])
/-! ### the law's own helpers: cells, whole numbers, orders, voters, leads, beats -/
def sp__law_cell_at (K : PySem.W.Frag) : Sp := spS (α := Int) K (fun k => [.int k]) (fun _ k => 0 ≤ k) fun ns k => .val (.int (cellF ns k))
theorem len__law_cell_at {K : PySem.W.Frag} (vs : List V) (H : Hp) (Q : VK) (E : XK) (h : (sp__law_cell_at K) vs H Q E) : vs.length = 2 := by
  unfold sp__law_cell_at at h
  obtain ⟨ns, a, sa, r, rfl, _, h, _⟩ := h
  rw [List.length_cons, h.len]
  rfl
theorem cellF_at {ns : List Int} {k : Int} (h0 : 0 ≤ k) (h : k < ns.length) : atI ns k = some (cellF ns k) := by
  have hk : k = ((k.toNat : Nat) : Int) := by omega
  have hl : k.toNat < ns.length := by omega
  have e : ns[k.toNat]? = some (cellF ns k) := by
    unfold cellF
    rw [List.getD_eq_getElem?_getD, List.getElem?_eq_getElem hl]
    rfl
  conv => lhs; rw [hk]
  exact atI_nat e
theorem cellF_out {ns : List Int} {k : Int} (h : ¬ k < ns.length) : cellF ns k = 0 := by
  unfold cellF
  rw [List.getD_eq_getElem?_getD, List.getElem?_eq_none (by omega)]
  rfl
section
variable {P : Program} {w : World} {K : PySem.W.Frag} {mg : Str → Option Value} {base : Heap}
theorem ok__law_cell_at {f : Addr} {fd : FuncData} (D : Df K mg "_law_cell_at" s__law_cell_at ["script", "k"] f fd) (Bi : Bi mg) : FnOk P w K mg base CX0 1 f fd ["script", "k"] (sp__law_cell_at K) := by
  refine D.F.ok c__law_cell_at (fun vs H Q E h => len__law_cell_at _ _ _ _ h) (fun cdv A outer s H vs Q E hr h => ?_)
  refine ⟨_, (pss_cons (ps_if (pt_cmpR op_ltI (pv 1) (pe_callB (cr_lenK (K := K)) (by rfl) Bi.len (by decide +kernel) (pa_cons (pv 0) pa_nil)) (nomark _))
      (pss_one (ps_ret (pe_ix (ix_listK (K := K)) (pv 0) (pv 1) (fun _ _ => rfl))))
      pss_nil)
      (pss_one (ps_ret pe_int))), ?_⟩
  obtain ⟨ns, k, sa, _, rfl, hs, ⟨v1, _, rfl, rfl, rfl⟩, hk, q⟩ := h
  dsimp only at q
  refine' s_if (b := decide (k < (ns.length : Int))) ?t ?yes ?no
  case t => exact ett (evd_op (evd_var rfl rp_int) (evd_lenS hs rfl) rd_ltI)
  case yes =>
    intro hb H1 e1
    have hb' : k < ns.length := by simpa using hb
    exact s_retD (evd_ixS (ex_l e1 hs) rfl (evd_var rfl rp_int) (cellF_at hk hb')) fun v H2 e2 r => q v H2 (e1.trans e2) r
  case no =>
    intro hb H1 e1
    have hb' : ¬ k < ns.length := by simpa using hb
    rw [cellF_out hb'] at q
    wtm_at "nx"
    exact s_retD evd_int fun v H2 e2 r => q v H2 (e1.trans e2) r
end
theorem ev_cell {K : PySem.W.Frag} {σ : L2.St} {H : Hp} {tb : TE} {E : XK} {ns : List Int} {sa : Addr} {i : Nat} {k : Int} (hs : SqL K H sa (ns.map V.int)) (hi : σ[i]? = some (some (.ref sa))) (h : EvD tb σ H (.int k)) (p : 0 ≤ k) :
    EvD (tCall (sp__law_cell_at K) [] E (tCons (tVar i) (tCons tb tNil))) σ H (.int (cellF ns k)) := evd_callS k hs hi (evs_cons h evs_nil) p rfl
def sp__law_whole : Sp := spO (α := Int) (fun k => [.int k]) (fun _ => True) fun _ => .val (.bool true)
theorem len__law_whole (vs : List V) (H : Hp) (Q : VK) (E : XK) (h : sp__law_whole vs H Q E) : vs.length = 1 := by
  unfold sp__law_whole at h
  obtain ⟨a, r, _⟩ := h
  rw [r.len]
  rfl
section
variable {P : Program} {w : World} {K : PySem.W.Frag} {mg : Str → Option Value} {base : Heap}
theorem ok__law_whole {f : Addr} {fd : FuncData} (D : Df K mg "_law_whole" s__law_whole ["found"] f fd) (Bi : Bi mg) : FnOk P w K mg base CX0 1 f fd ["found"] sp__law_whole := by
  refine D.F.ok c__law_whole (fun vs H Q E h => len__law_whole _ _ _ _ h) (fun cdv A outer s H vs Q E hr h => ?_)
  refine ⟨_, (pss_one (ps_ret (pe_and (pe_callB (call_isiK2 (K := K)) (by rfl) Bi.isinstance (by decide +kernel) (pa_cons (pv 0) (pa_cons (pe_bltn (v := .ty "int") (by rfl) Bi.int (by decide +kernel) rfl) pa_nil))) (pe_one (pe_not (pe_callB (call_isiK2 (K := K)) (by rfl) Bi.isinstance (by decide +kernel) (pa_cons (pv 0) (pa_cons (pe_bltn (v := .ty "bool") (by rfl) Bi.bool (by decide +kernel) rfl) pa_nil)))))))), ?_⟩
  obtain ⟨k, ⟨v1, _, rfl, rfl, rfl⟩, -, q⟩ := h
  exact s_retD (evd_and (a := true) (b := true) (evd_isi (evd_var rfl rp_int) (show kitB "int" "int" = some true by decide +kernel)) fun _ => evd_not (a := false) (evd_isi (evd_var rfl rp_int) (show kitB "int" "bool" = some false by decide +kernel))) fun v H2 e2 r => q v H2 e2 r
end
theorem ev_whole {σ : L2.St} {H : Hp} {tb : TE} {E : XK} {k : Int} (h : EvD tb σ H (.int k)) : EvD (tCall sp__law_whole [] E (tCons tb tNil)) σ H (.bool true) := evd_callO k (evs_cons h evs_nil) trivial rfl
/-- orders drawn by a cell -/
def ordR : Nat → List Int → Int → List Int
  | 0, _, _ => []
  | n + 1, left, c => left.getD (c % (left.length : Int)).toNat 0 :: ordR n (left.eraseIdx (c % (left.length : Int)).toNat) (c / (left.length : Int))
def lawOrd (c m : Int) : List Int := ordR m.toNat (rgI 0 m.toNat) c
theorem map_erase {α β : Type} (f : α → β) : ∀ (l : List α) (k : Nat), (l.map f).eraseIdx k = (l.eraseIdx k).map f
  | [], _ => rfl
  | _ :: _, 0 => rfl
  | x :: xs, k + 1 => by
    rw [List.map_cons, List.eraseIdx_cons_succ, List.eraseIdx_cons_succ, List.map_cons, map_erase f xs k]
theorem erase_perm : ∀ {l : List Int} {k : Nat} (h : k < l.length), (l[k] :: l.eraseIdx k).Perm l
  | [], _, h => by simp at h
  | x :: xs, 0, _ => .refl _
  | x :: xs, k + 1, h => by
    have ih := erase_perm (l := xs) (k := k) (by simpa using h)
    rw [List.getElem_cons_succ, List.eraseIdx_cons_succ]
    exact (List.Perm.swap _ _ _).trans (ih.cons x)
theorem ordR_perm : ∀ {n : Nat} {left : List Int} {c : Int}, left.length = n → (ordR n left c).Perm left
  | 0, left, c, h => by
    rw [List.eq_nil_of_length_eq_zero h]
    exact .refl _
  | n + 1, left, c, h => by
    have h0 : (0 : Int) < (left.length : Int) := by omega
    have l1 := Int.emod_nonneg c (Int.ne_of_gt h0)
    have l2 := Int.emod_lt_of_pos c h0
    have hk : (c % (left.length : Int)).toNat < left.length := by omega
    unfold ordR
    generalize (c % (left.length : Int)).toNat = k at hk
    have ih := ordR_perm (n := n) (left := left.eraseIdx k) (c := c / (left.length : Int)) (by rw [List.length_eraseIdx_of_lt hk]; omega)
    have e : left.getD k 0 = left[k] := by rw [List.getD_eq_getElem?_getD, List.getElem?_eq_getElem hk]; rfl
    rw [e]
    exact (ih.cons _).trans (erase_perm hk)
theorem lawOrd_ord (c m : Int) : isOrd m (lawOrd c m) := isOrd_iff.mpr (ordR_perm (rgI_len _ _))
def sp__law_order : Sp := spO (α := Int × Int) (fun a => [.int a.1, .int a.2]) (fun a => 0 ≤ a.2 ∧ a.2 ≤ 6) fun a => .val (iD (lawOrd a.1 a.2))
theorem len__law_order (vs : List V) (H : Hp) (Q : VK) (E : XK) (h : sp__law_order vs H Q E) : vs.length = 2 := by
  unfold sp__law_order at h
  obtain ⟨a, r, _⟩ := h
  rw [r.len]
  rfl
section
variable {P : Program} {w : World} {K : PySem.W.Frag} {mg : Str → Option Value} {base : Heap}
theorem ok__law_order {f : Addr} {fd : FuncData} (D : Df K mg "_law_order" s__law_order ["cell", "many"] f fd) (Bi : Bi mg) : FnOk P w K mg base CX0 1 f fd ["cell", "many"] sp__law_order := by
  refine D.F.ok c__law_order (fun vs H Q E h => len__law_order _ _ _ _ h) (fun cdv A outer s H vs Q E hr h => ?_)
  refine ⟨_, (pss_cons (ps_set (i := 2) c__law_order.nd rfl (.inl rfl) (pe_listRg rfl (by rfl) Bi.list (prg_1 (by rfl) Bi.range (pv 1))))
      (pss_cons (ps_set (i := 3) c__law_order.nd rfl (.inl rfl) (pe_lst pa_nil))
      (pss_cons (ps_for (PassesOwn.never) rfl (pi_range1 (by rfl) Bi.range (pa_cons (pv 1) pa_nil)) (pg_name (i := 4) c__law_order.nd rfl (.inl rfl))
      (pss_cons (ps_expr (pe_bm PySem.F.plainAttrs_list PySem.F.slot_list_append PySem.F.type_list_append mt_append (pv 3) (pa_cons (pe_bm PySem.F.plainAttrs_list PySem.F.slot_list_pop PySem.F.type_list_pop mt_popAt (pv 2) (pa_cons (pe_op op_modI (pv 0) (pe_callB (cr_lenK (K := K)) (by rfl) Bi.len (by decide +kernel) (pa_cons (pv 2) pa_nil))) pa_nil)) pa_nil)))
      (pss_one (ps_set (i := 0) c__law_order.nd rfl (.inl rfl) (pe_op op_divI (pv 0) (pe_op op_addI (pe_callB (cr_lenK (K := K)) (by rfl) Bi.len (by decide +kernel) (pa_cons (pv 2) pa_nil)) pe_int))))))
      (pss_one (ps_ret (pe_callTy (cr_tupLK (K := K)) (by rfl) Bi.tuple (by decide +kernel) (pa_cons (pv 3) pa_nil))))))), ?_⟩
  obtain ⟨⟨c, m⟩, ⟨v1, _, rfl, rfl, v2, _, rfl, rfl, rfl⟩, ⟨m0, m6⟩, q⟩ := h
  dsimp only at q m0 m6
  refine' s_asgO (evn_rng (n := m) ?n (by omega)) (imm_ints _) fun pl H1 e1 o1 => ?_
  case n => wtm_at "ev"
  wtm_at "nx"
  refine' s_asgO (evn_lst evs_nil (by decide)) rfl fun po H2 e2 o2 => ?_
  wtm_at "nx"
  have npo : pl ≠ po := by
    obtain ⟨_, z, _⟩ := o1.has
    exact ne_of_none z o2.new
  refine' s_forR (n := m) ?n (by omega) fun H3 e3 => ⟨fun i σ' H' => ∃ y left order cell, σ' = [some (.int cell), some (.int m), some (.ref pl), some (.ref po), y] ∧ Own H H' pl (left.map .int) ∧ Own H H' po (order.map .int) ∧
    left.length + i = m.toNat ∧ order.length = i ∧ order ++ ordR left.length left cell = lawOrd c m, ?_, ?_, ?_⟩
  case n => wtm_at "es"
  · exact ⟨none, _, [], c, rfl, (o1.step e2).step e3, (o2.step e3).lower e1, by rw [rgI_len]; omega, rfl, by rw [rgI_len]; rfl⟩
  · rintro i σ' H' hi ⟨y, left, order, cell, rfl, ol, oo, hl, ho, hm⟩
    refine g_name ?_
    have h0 : (0 : Int) < (left.length : Int) := by omega
    have l1 := Int.emod_nonneg cell (Int.ne_of_gt h0)
    have l2 := Int.emod_lt_of_pos cell h0
    have hk : (cell % (left.length : Int)).toNat < left.length := by omega
    obtain ⟨ws, w1, w2⟩ := oo.has
    obtain ⟨us, u1, u2⟩ := ol.has
    have ix : EvD (tOp rModI (tVar 0) (tCB (rLenS K) (tCons (tVar 2) tNil))) ([some (V.int cell), some (V.int m), some (V.ref pl), some (V.ref po), y].set 4 (some (V.int (i : Int)))) H' (.int (cell % (left.length : Int))) := by
      have lz : EvD (tCB (rLenS K) (tCons (tVar 2) tNil)) ([some (V.int cell), some (V.int m), some (V.ref pl), some (V.ref po), y].set 4 (some (V.int (i : Int)))) H' (.int (left.map PyData.int).length) := evd_cb (evs_cons (evd_var rfl ol.rp) evs_nil) cd_lenL
      rw [List.length_map] at lz
      exact evd_op (evd_var rfl rp_int) lz (rd_modI h0)
    have u3 := u2.ints
    have w3 := w2.ints
    subst u3 w3
    refine ⟨.ref po, rfl, .inl ⟨rfl, _, SqL.of w1⟩, .ref pl, rfl, .inl ⟨rfl, _, SqL.of u1⟩, ix H' (Ex.refl _) _ fun v5 H5 e5 r5 => ?_⟩
    obtain rfl : v5 = .int (cell % (left.length : Int)) := r5
    have g : (left.map V.int)[(cell % (left.length : Int)).toNat]? = some (.int (left.getD (cell % (left.length : Int)).toNat 0)) := by
      rw [List.getElem?_map, List.getD_eq_getElem?_getD, List.getElem?_eq_getElem hk]
      rfl
    have sx : seqIndex? (cell % (left.length : Int)) (left.map V.int).length = some (cell % (left.length : Int)).toNat := by
      rw [List.length_map]
      exact (ixN_seq (by unfold ixN; rw [if_pos l1, if_pos l2])).1
    refine ⟨pl, _, _, (cell % (left.length : Int)).toNat, _, rfl, rfl, e5 _ _ u1, by omega, by omega, sx, g, ?_⟩
    have w5 : (upd H5 pl (.lst ((left.map V.int).eraseIdx (cell % (left.length : Int)).toNat))) po = some (.lst (order.map V.int)) := by
      rw [upd_ne npo.symm]
      exact e5 _ _ w1
    refine ⟨po, _, _, rfl, rfl, w5, sz_lt (by rw [List.length_map]; omega), ?_⟩
    have nHl : H pl = none := ol.new
    have nHo : H po = none := oo.new
    have hlen2 : (left.eraseIdx (cell % (left.length : Int)).toNat).length = left.length - 1 := List.length_eraseIdx_of_lt hk
    have hstep : ordR left.length left cell = left.getD (cell % (left.length : Int)).toNat 0 :: ordR (left.length - 1) (left.eraseIdx (cell % (left.length : Int)).toNat) (cell / (left.length : Int)) := by
      have e1 : ∀ n, n = left.length - 1 → ordR (n + 1) left cell = left.getD (cell % (left.length : Int)).toNat 0 :: ordR n (left.eraseIdx (cell % (left.length : Int)).toNat) (cell / (left.length : Int)) := fun n _ => rfl
      have e2 := e1 _ rfl
      rwa [Nat.sub_add_cancel (by omega)] at e2
    generalize hk' : (cell % (left.length : Int)).toNat = k at *
    rw [map_erase V.int left k]
    have exB : Ex H (upd (upd H5 pl (.lst ((left.eraseIdx k).map V.int))) po (.lst (order.map V.int ++ [V.int (left.getD k 0)]))) := Ex.mut (Ex.mut (ol.ex.trans e5) nHl) nHo
    have own1 : Own H (upd (upd H5 pl (.lst ((left.eraseIdx k).map V.int))) po (.lst (order.map V.int ++ [V.int (left.getD k 0)]))) pl ((left.eraseIdx k).map .int) := by
      refine ⟨nHl, exB, ⟨_, ?_, rpa_ints _⟩, imm_ints _⟩
      rw [upd_ne npo, upd_same]
    have own2 : Own H (upd (upd H5 pl (.lst ((left.eraseIdx k).map V.int))) po (.lst (order.map V.int ++ [V.int (left.getD k 0)]))) po ((order ++ [left.getD k 0]).map .int) := by
      refine ⟨nHo, exB, ⟨_, upd_same, ?_⟩, imm_ints _⟩
      rw [List.map_append]
      exact (rpa_ints order).app (rpa_ints [left.getD k 0])
    generalize (upd (upd H5 pl (.lst ((left.eraseIdx k).map V.int))) po (.lst (order.map V.int ++ [V.int (left.getD k 0)]))) = H6 at own1 own2 ⊢
    wtm_at "nx"
    have lz : EvD (tCB (rLenS K) (tCons (tVar 2) tNil)) ([some (V.int cell), some (V.int m), some (V.ref pl), some (V.ref po), y].set 4 (some (V.int (i : Int)))) H6 (.int ((left.eraseIdx k).map PyData.int).length) := evd_cb (evs_cons (evd_var rfl own1.rp) evs_nil) cd_lenL
    rw [List.length_map, hlen2] at lz
    refine s_asgI (n := cell / ((left.length - 1 : Nat) + 1 : Int)) (evd_op (evd_var rfl rp_int) (evd_op lz evd_int rd_addI) (rd_divI ⟨by omega, by omega⟩)) fun H7 e7 => ?_
    rw [show ((left.length - 1 : Nat) + 1 : Int) = (left.length : Int) by omega]
    refine ⟨some (.int i), left.eraseIdx k, order ++ [left.getD k 0], _, rfl, own1.step e7, own2.step e7, by omega, by rw [List.length_append, ho]; rfl, ?_⟩
    rw [hlen2, List.append_assoc, List.singleton_append, ← hstep]
    exact hm
  · rintro σ' H' ⟨y, left, order, cell, rfl, ol, oo, hl, ho, hm⟩
    have l0 : left = [] := List.eq_nil_of_length_eq_zero (by omega)
    subst l0
    rw [show ordR ([] : List Int).length [] cell = [] from rfl, List.append_nil] at hm
    wtm_at "nx"
    refine s_retD (d := iD order) ?r fun v H5 e5 r => ?_
    case r => wtm_at "ev"
    rw [hm] at r
    exact q v H5 (ol.ex.trans e5) r
end
end Bm

namespace Bm
open PySem PySem.Spec PyProof.Rows L2 Evl
local macro_rules | `(tactic| wtm_at "rp") => `(tactic| first | exact rp_int | exact rp_bl | exact rp_str | exact rp_non | assumption | (refine' Rp.ex ?e ?h; (case h => assumption); (case e => assumption)) | exact Own.rp (by assumption))
local macro_rules | `(tactic| wtm_at "side") => `(tactic| first | assumption | omega | decide | rfl | exact ⟨by omega, by omega⟩)
local macro_rules | `(tactic| wtm_at "es") => `(tactic| first | exact evs_nil | (refine' evs_cons ?a ?b; (case a => wtm_at "ev"); (case b => wtm_at "es")))
local macro_rules | `(tactic| wtm_at "ev") => `(tactic| first
  | exact evd_int | exact evd_str | exact evd_bl | exact evd_non
  | (refine' evd_var rfl ?h; (case h => wtm_at "rp"))
  | ((with_reducible refine' evd_op ?a ?b rd_addI); (case a => wtm_at "ev"); (case b => wtm_at "ev"))
  | ((with_reducible refine' evd_op ?a ?b rd_subI); (case a => wtm_at "ev"); (case b => wtm_at "ev"))
  | ((with_reducible refine' evd_op ?a ?b (rd_mulI ?c)); (case a => wtm_at "ev"); (case b => wtm_at "ev"); (case c => wtm_at "side"))
  | ((with_reducible refine' evd_op ?a ?b (rd_divI ?c)); (case a => wtm_at "ev"); (case b => wtm_at "ev"); (case c => wtm_at "side"))
  | ((with_reducible refine' evd_op ?a ?b (rd_modI ?c)); (case a => wtm_at "ev"); (case b => wtm_at "ev"); (case c => wtm_at "side"))
  | ((with_reducible refine' evd_op ?a ?b rd_ltI); (case a => wtm_at "ev"); (case b => wtm_at "ev"))
  | ((with_reducible refine' evd_op ?a ?b rd_leI); (case a => wtm_at "ev"); (case b => wtm_at "ev"))
  | ((with_reducible refine' evd_op ?a ?b rd_gtI); (case a => wtm_at "ev"); (case b => wtm_at "ev"))
  | ((with_reducible refine' evd_op ?a ?b rd_geI); (case a => wtm_at "ev"); (case b => wtm_at "ev"))
  | ((with_reducible refine' evd_op ?a ?b rd_eqI); (case a => wtm_at "ev"); (case b => wtm_at "ev"))
  | ((with_reducible refine' evd_op ?a ?b rd_neI); (case a => wtm_at "ev"); (case b => wtm_at "ev"))
  | ((with_reducible refine' evd_op ?a ?b rd_eqB); (case a => wtm_at "ev"); (case b => wtm_at "ev"))
  | ((with_reducible refine' evd_op ?a ?b rd_neB); (case a => wtm_at "ev"); (case b => wtm_at "ev"))
  | ((with_reducible refine' evd_op ?a ?b rd_isNo); (case a => wtm_at "ev"); (case b => wtm_at "ev"))
  | ((with_reducible refine' evd_op ?a ?b rd_notNo); (case a => wtm_at "ev"); (case b => wtm_at "ev"))
  | ((with_reducible refine' evd_op ?a ?b rd_inIL); (case a => wtm_at "ev"); (case b => wtm_at "ev"))
  | ((with_reducible refine' evd_op ?a ?b rd_niIL); (case a => wtm_at "ev"); (case b => wtm_at "ev"))
  | ((with_reducible refine' evd_op ?a ?b rd_inID); (case a => wtm_at "ev"); (case b => wtm_at "ev"))
  | ((with_reducible refine' evd_op ?a ?b rd_niID); (case a => wtm_at "ev"); (case b => wtm_at "ev"))
  | ((with_reducible refine' evd_neg ?a); (case a => wtm_at "ev"))
  | ((with_reducible refine' evd_tix ?a ?b ?c); (case a => wtm_at "ev"); (case b => wtm_at "ev"); (case c => wtm_at "side"))
  | ((with_reducible refine' evd_tup ?a ?b); (case a => wtm_at "es"); (case b => exact Nat.le_of_ble_eq_true rfl))
  | ((with_reducible refine' evd_cb ?a cd_lenL); (case a => wtm_at "es"))
  | ((with_reducible refine' evd_cb ?a cd_lenT); (case a => wtm_at "es"))
  | ((with_reducible refine' evd_cb ?a cd_intB); (case a => wtm_at "es"))
  | ((with_reducible refine' evd_cb ?a cd_tupL); (case a => wtm_at "es"))
  | ((with_reducible refine' evd_and ?a ?b); (case a => wtm_at "ev"); (case b => intro _; wtm_at "ev"))
  | ((with_reducible refine' evd_or ?a ?b); (case a => wtm_at "ev"); (case b => intro _; wtm_at "ev"))
  | ((with_reducible refine' evd_not ?a); (case a => wtm_at "ev"))
  | ((with_reducible refine' evd_op ?a ?b rd_neIL); (case a => wtm_at "ev"); (case b => wtm_at "ev"))
  | ((with_reducible refine' evd_op ?a ?b rd_eqIL); (case a => wtm_at "ev"); (case b => wtm_at "ev"))
  | ((with_reducible refine' EvN.toD ?a); (case a => wtm_at "en")))
local macro_rules | `(tactic| wtm_at "en") => `(tactic| first
  | ((with_reducible refine' evn_cb ?a cn_sortTI); (case a => wtm_at "es"))
  | ((with_reducible refine' evn_cb ?a cn_listL); (case a => wtm_at "es"))
  | ((with_reducible refine' evn_cb ?a cn_listT); (case a => wtm_at "es"))
  | ((with_reducible refine' evn_rng ?a ?b); (case a => wtm_at "ev"); (case b => wtm_at "side"))
  | ((with_reducible refine' evn_lst ?a ?b); (case a => wtm_at "es"); (case b => exact Nat.le_of_ble_eq_true rfl))
  | ((with_reducible refine' evn_cat ?a ?b ?c); (case a => wtm_at "ev"); (case b => wtm_at "ev"); (case c => wtm_at "side"))
  | ((with_reducible refine' evn_slL ?a ?b ?c); (case a => wtm_at "ev"); (case b => first | exact evp_none | (refine' evp_some ?d; (case d => wtm_at "ev"))); (case c => first | exact evp_none | (refine' evp_some ?d; (case d => wtm_at "ev")))))
local macro_rules | `(tactic| wtm_at "et") => `(tactic| first
  | exact et_yes
  | (refine' ett ?a; (case a => wtm_at "ev"))
  | (refine' etB ?a; (case a => wtm_at "ev"))
  | (refine' et_and ?a ?b; (case a => wtm_at "et"); (case b => intro _; wtm_at "et"))
  | (refine' et_or ?a ?b; (case a => wtm_at "et"); (case b => intro _; wtm_at "et"))
  | (refine' et_not ?a; (case a => wtm_at "et")))
local macro_rules | `(tactic| wtm_at "nx") => `(tactic| try dsimp only [tSeq, tNext])
theorem ev_order {σ : L2.St} {H : Hp} {t1 t2 : TE} {E : XK} {c m : Int} (h1 : EvD t1 σ H (.int c)) (h2 : EvD t2 σ H (.int m)) (p : 0 ≤ m ∧ m ≤ 6) :
    EvD (tCall sp__law_order [] E (tCons t1 (tCons t2 tNil))) σ H (iD (lawOrd c m)) := evd_callO (c, m) (evs_cons h1 (evs_cons h2 evs_nil)) p rfl
/-- voters drawn by cells -/
def votBase (ns : List Int) (start m most : Int) : List (List Int) := (rgI 0 (cellF ns start % (most + 1)).toNat).map fun k => lawOrd (cellF ns (start + 1 + k)) m
def lawVot (ns : List Int) (start m most : Int) : List (List Int) :=
  if cellF ns start / (most + 1) % 8 = 5 then (List.replicate 60 (votBase ns start m most)).flatten.take (most + cellF ns start / (most + 1) / 8 % (61 - most)).toNat
  else votBase ns start m most ++ (votBase ns start m most).take (cellF ns start / (most + 1) % 4).toNat
theorem votBase_ok (ns : List Int) (start m most : Int) : isVot m (votBase ns start m most) := fun v h => by
  obtain ⟨k, _, rfl⟩ := List.mem_map.mp h
  exact lawOrd_ord _ _
theorem lawVot_ok (ns : List Int) (start m most : Int) : isVot m (lawVot ns start m most) := fun v h => by
  unfold lawVot at h
  split at h
  · have h2 := List.mem_of_mem_take h
    obtain ⟨l, h3, h4⟩ := List.mem_flatten.mp h2
    rw [(List.mem_replicate.mp h3).2] at h4
    exact votBase_ok ns start m most v h4
  · rcases List.mem_append.mp h with h | h
    · exact votBase_ok ns start m most v h
    · exact votBase_ok ns start m most v (List.mem_of_mem_take h)
theorem votBase_len (ns : List Int) (start m : Int) {most : Int} (h : 0 ≤ most) : ((votBase ns start m most).length : Int) ≤ most := by
  unfold votBase
  rw [List.length_map, rgI_len]
  have := Int.emod_nonneg (cellF ns start) (show most + 1 ≠ 0 by omega)
  have := Int.emod_lt_of_pos (cellF ns start) (show 0 < most + 1 by omega)
  omega
theorem lawVot_len (ns : List Int) (start m : Int) {most : Int} (h : 0 ≤ most ∧ most ≤ 30) : (lawVot ns start m most).length ≤ 60 := by
  unfold lawVot
  have l := votBase_len ns start m h.1
  split
  · rw [List.length_take]
    have := Int.emod_nonneg (cellF ns start / (most + 1) / 8) (show 61 - most ≠ 0 by omega)
    have := Int.emod_lt_of_pos (cellF ns start / (most + 1) / 8) (show 0 < 61 - most by omega)
    omega
  · rw [List.length_append, List.length_take]
    omega
def sp__law_voters (K : PySem.W.Frag) : Sp := spS (α := Int × Int × Int) K (fun a => [.int a.1, .int a.2.1, .int a.2.2]) (fun _ a => 0 ≤ a.1 ∧ (0 ≤ a.2.1 ∧ a.2.1 ≤ 6) ∧ 0 ≤ a.2.2 ∧ a.2.2 ≤ 30) fun ns a => .new ((lawVot ns a.1 a.2.1 a.2.2).map iD)
theorem len__law_voters {K : PySem.W.Frag} (vs : List V) (H : Hp) (Q : VK) (E : XK) (h : (sp__law_voters K) vs H Q E) : vs.length = 4 := by
  unfold sp__law_voters at h
  obtain ⟨ns, a, sa, r, rfl, _, h, _⟩ := h
  rw [List.length_cons, h.len]
  rfl
section
variable {P : Program} {w : World} {K : PySem.W.Frag} {mg : Str → Option Value} {base : Heap}
theorem ok__law_voters {f : Addr} {fd : FuncData} (D : Df K mg "_law_voters" s__law_voters ["script", "start", "many", "most"] f fd) (Bi : Bi mg) {f__law_cell_at : Addr} {fd__law_cell_at : FuncData} (D__law_cell_at : Df K mg "_law_cell_at" s__law_cell_at ["script", "k"] f__law_cell_at fd__law_cell_at) (G__law_cell_at : FnOk P w K mg base CX0 1 f__law_cell_at fd__law_cell_at ["script", "k"] (sp__law_cell_at K)) {f__law_order : Addr} {fd__law_order : FuncData} (D__law_order : Df K mg "_law_order" s__law_order ["cell", "many"] f__law_order fd__law_order) (G__law_order : FnOk P w K mg base CX0 1 f__law_order fd__law_order ["cell", "many"] sp__law_order) : FnOk P w K mg base CX0 2 f fd ["script", "start", "many", "most"] (sp__law_voters K) := by
  refine D.F.ok c__law_voters (fun vs H Q E h => len__law_voters _ _ _ _ h) (fun cdv A outer s H vs Q E hr h => ?_)
  refine ⟨_, (pss_cons (ps_set (i := 4) c__law_voters.nd rfl (.inl rfl) (pe_op op_modI (pe_call G__law_cell_at (hr.mono (by decide)) (by rfl) D__law_cell_at.g D__law_cell_at.F.kp D__law_cell_at.b .nil pass0 (pa_cons (pv 0) (pa_cons (pv 1) pa_nil))) (pe_op op_addI (pv 3) pe_int)))
      (pss_cons (ps_setLc (i := 5) (own := [("k", 7)]) (g := (gName 7)) (tt := tYes) rfl c__law_voters.nd rfl rfl (sw_true rfl rfl rfl (by decide +kernel)) (pi_range1 (by rfl) Bi.range (pa_cons (pv 4) pa_nil)) (blkOk_by (own := [("k", 7)]) (N := ["script", "start", "many", "most", "count", "voters", "more", "k"]) (sc := defScope s__law_voters) (by decide +kernel)) (fun _ _ _ _ _ => (pg_name (i := 7) c__law_voters.nd rfl (.inl rfl))) (fun _ _ _ _ _ => pts_nil) (fun _ _ _ _ _ => (pe_call G__law_order (hr.mono (by decide)) (by rfl) D__law_order.g D__law_order.F.kp D__law_order.b .nil pass0 (pa_cons (pe_call G__law_cell_at (hr.mono (by decide)) (by rfl) D__law_cell_at.g D__law_cell_at.F.kp D__law_cell_at.b .nil pass0 (pa_cons (pv 0) (pa_cons (pe_op op_addI (pe_op op_addI (pv 1) pe_int) (pv 7)) pa_nil))) (pa_cons (pv 2) pa_nil)))))
      (pss_cons (ps_set (i := 6) c__law_voters.nd rfl (.inl rfl) (pe_op op_divI (pe_call G__law_cell_at (hr.mono (by decide)) (by rfl) D__law_cell_at.g D__law_cell_at.F.kp D__law_cell_at.b .nil pass0 (pa_cons (pv 0) (pa_cons (pv 1) pa_nil))) (pe_op op_addI (pv 3) pe_int)))
      (pss_cons (ps_if (pt_cmpR op_eqI (pe_op op_modI (pv 6) pe_int) pe_int (nomark _))
      (pss_one (ps_ret (pe_slice (sl_listK (K := K)) (pe_op op_rep (pv 5) pe_int) po_none (po_some (pe_op op_addI (pv 3) (pe_op op_modI (pe_op op_divI (pv 6) pe_int) (pe_op op_subI pe_int (pv 3))))))))
      pss_nil)
      (pss_one (ps_ret (pe_op op_cat (pv 5) (pe_slice (sl_listK (K := K)) (pv 5) po_none (po_some (pe_op op_modI (pv 6) pe_int)))))))))), ?_⟩
  obtain ⟨ns, ⟨start, m, most⟩, sa, _, rfl, hs, ⟨v2, _, rfl, rfl, v3, _, rfl, rfl, v4, _, rfl, rfl, rfl⟩, ⟨s0, ⟨m0, m6⟩, t0, t9⟩, q⟩ := h
  dsimp only at q s0 m0 m6 t0 t9
  have cn := Int.emod_nonneg (cellF ns start) (show most + 1 ≠ 0 by omega)
  have cl := Int.emod_lt_of_pos (cellF ns start) (show 0 < most + 1 by omega)
  have vl := votBase_len ns start m t0
  -- count
  refine' s_asgI (n := cellF ns start % (most + 1)) (evd_op (ev_cell hs rfl ?a s0) ?b (rd_modI (by omega))) fun H1 e1 => ?_
  case a => wtm_at "ev"
  case b => wtm_at "ev"
  wtm_at "nx"
  have hs1 := ex_l e1 hs
  -- voters
  have eb : (votBase ns start m most).map iD = ((rgI 0 (cellF ns start % (most + 1)).toNat).filter fun _ => true).map fun k => iD (lawOrd (cellF ns (start + 1 + k)) m) := by
    unfold votBase
    rw [List.filter_eq_self.mpr (fun _ _ => rfl), List.map_map]
    rfl
  refine' s_asgNw (ds := (votBase ns start m most).map iD) ?x fun p vs H2 hp e2 k1 k2 => ?_
  case x =>
    rw [eb]
    refine' evn_lcR (n := cellF ns start % (most + 1)) _ _ ?es (by omega) ?turn ?imm
    case es => wtm_at "es"
    case imm => exact fun x _ _ _ => imm_iD _
    case turn =>
      intro x H5 x0 x1 e5
      refine ⟨_, fun Q hq => hq, rfl, et_yes, fun _ => ?_⟩
      refine' ev_order (ev_cell (ex_l e5 hs1) rfl ?a (by omega)) ?b ⟨m0, m6⟩
      case a => wtm_at "ev"
      case b => wtm_at "ev"
  wtm_at "nx"
  have hs2 := ex_l e2 hs1
  have hv : Rp H2 (vD (votBase ns start m most)) (.ref p) := ⟨p, vs, rfl, k1, k2⟩
  -- more
  refine' s_asgI (n := cellF ns start / (most + 1)) (evd_op (ev_cell hs2 rfl ?a s0) ?b (rd_divI ⟨by omega, by omega⟩)) fun H3 e3 => ?_
  case a => wtm_at "ev"
  case b => wtm_at "ev"
  wtm_at "nx"
  have hv3 := hv.ex e3
  have e123 := (e1.trans e2).trans e3
  generalize hmore : cellF ns start / (most + 1) = more
  unfold lawVot at q
  rw [hmore] at q
  refine' s_if (b := decide (more % 8 = 5)) ?t ?yes ?no
  case t => wtm_at "et"
  case yes =>
    intro hb H4 e4
    have hb' : more % 8 = 5 := by simpa using hb
    rw [if_pos hb'] at q
    have d0 := Int.emod_nonneg (more / 8) (show 61 - most ≠ 0 by omega)
    have d1 := Int.emod_lt_of_pos (more / 8) (show 0 < 61 - most by omega)
    have hk : most + more / 8 % (61 - most) = (((most + more / 8 % (61 - most)).toNat : Nat) : Int) := by omega
    refine' s_retNw (ds := cutA (List.replicate (60 : Int).toNat ((votBase ns start m most).map iD)).flatten none (some (((most + more / 8 % (61 - most)).toNat : Nat) : Int))) (evn_slL (evn_rep ?a ?b (by omega) (by rw [List.length_map]; omega)).toD evp_none (evp_some ?c)) fun p2 ws H5 hn e5 g1 g2 => ?_
    case a => exact evd_var rfl (hv3.ex e4)
    case b => wtm_at "ev"
    case c =>
      rw [← hk]
      wtm_at "ev"
    rw [cutA_to] at g2
    refine q p2 ws H5 (fresh_back (e123.trans e4) hn) ((e123.trans e4).trans e5) g1 ?_
    have ef : ∀ n, (List.replicate n ((votBase ns start m most).map iD)).flatten = (List.replicate n (votBase ns start m most)).flatten.map iD := fun n => by
      rw [List.map_flatten, List.map_replicate]
    rw [List.map_take, ← ef]
    exact g2
  case no =>
    intro hb H4 e4
    wtm_at "nx"
    have hb' : ¬ more % 8 = 5 := by simpa using hb
    rw [if_neg hb'] at q
    have d0 := Int.emod_nonneg more (show (4 : Int) ≠ 0 by omega)
    have d1 := Int.emod_lt_of_pos more (show (0 : Int) < 4 by omega)
    have hk : more % 4 = (((more % 4).toNat : Nat) : Int) := by omega
    refine' s_retNw (ds := (votBase ns start m most).map iD ++ cutA ((votBase ns start m most).map iD) none (some (((more % 4).toNat : Nat) : Int))) (evn_cat ?a (evn_slL ?b evp_none (evp_some ?c)).toD ?d) fun p2 ws H5 hn e5 g1 g2 => ?_
    case a => exact evd_var rfl (hv3.ex e4)
    case b => exact evd_var rfl (hv3.ex e4)
    case c =>
      rw [← hk]
      wtm_at "ev"
    case d =>
      rw [cutA_to, List.length_take, List.length_map]
      omega
    rw [cutA_to] at g2
    refine q p2 ws H5 (fresh_back (e123.trans e4) hn) ((e123.trans e4).trans e5) g1 ?_
    rw [List.map_append, List.map_take]
    exact g2
end
theorem ev_voters {K : PySem.W.Frag} {σ : L2.St} {H : Hp} {t1 t2 t3 : TE} {E : XK} {ns : List Int} {sa : Addr} {i : Nat} {start m most : Int} (hs : SqL K H sa (ns.map V.int)) (hi : σ[i]? = some (some (.ref sa))) (h1 : EvD t1 σ H (.int start)) (h2 : EvD t2 σ H (.int m)) (h3 : EvD t3 σ H (.int most))
    (p : 0 ≤ start) (p2 : 0 ≤ m ∧ m ≤ 6) (p3 : 0 ≤ most ∧ most ≤ 30) : EvN (tCall (sp__law_voters K) [] E (tCons (tVar i) (tCons t1 (tCons t2 (tCons t3 tNil))))) σ H ((lawVot ns start m most).map iD) := evn_callS (start, m, most) hs hi (evs_cons h1 (evs_cons h2 (evs_cons h3 evs_nil))) ⟨p, p2, p3⟩ rfl
end Bm

namespace Bm
open PySem PySem.Spec PyProof.Rows L2 Evl
local macro_rules | `(tactic| wtm_at "rp") => `(tactic| first | exact rp_int | exact rp_bl | exact rp_str | exact rp_non | assumption | (refine' Rp.ex ?e ?h; (case h => assumption); (case e => assumption)) | exact Own.rp (by assumption))
local macro_rules | `(tactic| wtm_at "side") => `(tactic| first | assumption | omega | decide | rfl | exact ⟨by omega, by omega⟩)
local macro_rules | `(tactic| wtm_at "es") => `(tactic| first | exact evs_nil | (refine' evs_cons ?a ?b; (case a => wtm_at "ev"); (case b => wtm_at "es")))
local macro_rules | `(tactic| wtm_at "ev") => `(tactic| first
  | exact evd_int | exact evd_str | exact evd_bl | exact evd_non
  | (refine' evd_var rfl ?h; (case h => wtm_at "rp"))
  | ((with_reducible refine' evd_op ?a ?b rd_addI); (case a => wtm_at "ev"); (case b => wtm_at "ev"))
  | ((with_reducible refine' evd_op ?a ?b rd_subI); (case a => wtm_at "ev"); (case b => wtm_at "ev"))
  | ((with_reducible refine' evd_op ?a ?b (rd_mulI ?c)); (case a => wtm_at "ev"); (case b => wtm_at "ev"); (case c => wtm_at "side"))
  | ((with_reducible refine' evd_op ?a ?b (rd_divI ?c)); (case a => wtm_at "ev"); (case b => wtm_at "ev"); (case c => wtm_at "side"))
  | ((with_reducible refine' evd_op ?a ?b (rd_modI ?c)); (case a => wtm_at "ev"); (case b => wtm_at "ev"); (case c => wtm_at "side"))
  | ((with_reducible refine' evd_op ?a ?b rd_ltI); (case a => wtm_at "ev"); (case b => wtm_at "ev"))
  | ((with_reducible refine' evd_op ?a ?b rd_leI); (case a => wtm_at "ev"); (case b => wtm_at "ev"))
  | ((with_reducible refine' evd_op ?a ?b rd_gtI); (case a => wtm_at "ev"); (case b => wtm_at "ev"))
  | ((with_reducible refine' evd_op ?a ?b rd_geI); (case a => wtm_at "ev"); (case b => wtm_at "ev"))
  | ((with_reducible refine' evd_op ?a ?b rd_eqI); (case a => wtm_at "ev"); (case b => wtm_at "ev"))
  | ((with_reducible refine' evd_op ?a ?b rd_neI); (case a => wtm_at "ev"); (case b => wtm_at "ev"))
  | ((with_reducible refine' evd_op ?a ?b rd_eqB); (case a => wtm_at "ev"); (case b => wtm_at "ev"))
  | ((with_reducible refine' evd_op ?a ?b rd_neB); (case a => wtm_at "ev"); (case b => wtm_at "ev"))
  | ((with_reducible refine' evd_op ?a ?b rd_isNo); (case a => wtm_at "ev"); (case b => wtm_at "ev"))
  | ((with_reducible refine' evd_op ?a ?b rd_notNo); (case a => wtm_at "ev"); (case b => wtm_at "ev"))
  | ((with_reducible refine' evd_op ?a ?b rd_inIL); (case a => wtm_at "ev"); (case b => wtm_at "ev"))
  | ((with_reducible refine' evd_op ?a ?b rd_niIL); (case a => wtm_at "ev"); (case b => wtm_at "ev"))
  | ((with_reducible refine' evd_op ?a ?b rd_inID); (case a => wtm_at "ev"); (case b => wtm_at "ev"))
  | ((with_reducible refine' evd_op ?a ?b rd_niID); (case a => wtm_at "ev"); (case b => wtm_at "ev"))
  | ((with_reducible refine' evd_neg ?a); (case a => wtm_at "ev"))
  | ((with_reducible refine' evd_tix ?a ?b ?c); (case a => wtm_at "ev"); (case b => wtm_at "ev"); (case c => wtm_at "side"))
  | ((with_reducible refine' evd_tup ?a ?b); (case a => wtm_at "es"); (case b => exact Nat.le_of_ble_eq_true rfl))
  | ((with_reducible refine' evd_cb ?a cd_lenL); (case a => wtm_at "es"))
  | ((with_reducible refine' evd_cb ?a cd_lenT); (case a => wtm_at "es"))
  | ((with_reducible refine' evd_cb ?a cd_intB); (case a => wtm_at "es"))
  | ((with_reducible refine' evd_cb ?a cd_tupL); (case a => wtm_at "es"))
  | ((with_reducible refine' evd_and ?a ?b); (case a => wtm_at "ev"); (case b => intro _; wtm_at "ev"))
  | ((with_reducible refine' evd_or ?a ?b); (case a => wtm_at "ev"); (case b => intro _; wtm_at "ev"))
  | ((with_reducible refine' evd_not ?a); (case a => wtm_at "ev"))
  | ((with_reducible refine' evd_op ?a ?b rd_neIL); (case a => wtm_at "ev"); (case b => wtm_at "ev"))
  | ((with_reducible refine' evd_op ?a ?b rd_eqIL); (case a => wtm_at "ev"); (case b => wtm_at "ev"))
  | ((with_reducible refine' EvN.toD ?a); (case a => wtm_at "en")))
local macro_rules | `(tactic| wtm_at "en") => `(tactic| first
  | ((with_reducible refine' evn_cb ?a cn_sortTI); (case a => wtm_at "es"))
  | ((with_reducible refine' evn_cb ?a cn_listL); (case a => wtm_at "es"))
  | ((with_reducible refine' evn_cb ?a cn_listT); (case a => wtm_at "es"))
  | ((with_reducible refine' evn_rng ?a ?b); (case a => wtm_at "ev"); (case b => wtm_at "side"))
  | ((with_reducible refine' evn_lst ?a ?b); (case a => wtm_at "es"); (case b => exact Nat.le_of_ble_eq_true rfl))
  | ((with_reducible refine' evn_cat ?a ?b ?c); (case a => wtm_at "ev"); (case b => wtm_at "ev"); (case c => wtm_at "side"))
  | ((with_reducible refine' evn_slL ?a ?b ?c); (case a => wtm_at "ev"); (case b => first | exact evp_none | (refine' evp_some ?d; (case d => wtm_at "ev"))); (case c => first | exact evp_none | (refine' evp_some ?d; (case d => wtm_at "ev")))))
local macro_rules | `(tactic| wtm_at "et") => `(tactic| first
  | exact et_yes
  | (refine' ett ?a; (case a => wtm_at "ev"))
  | (refine' etB ?a; (case a => wtm_at "ev"))
  | (refine' et_and ?a ?b; (case a => wtm_at "et"); (case b => intro _; wtm_at "et"))
  | (refine' et_or ?a ?b; (case a => wtm_at "et"); (case b => intro _; wtm_at "et"))
  | (refine' et_not ?a; (case a => wtm_at "et")))
local macro_rules | `(tactic| wtm_at "nx") => `(tactic| try dsimp only [tSeq, tNext])
theorem leadF_eq (a b : Int) : ∀ vs : List (List Int), leadF vs a b = 2 * ((vs.filter fun v => decide (ixOf a v < ixOf b v)).length : Int) - (vs.length : Int)
  | [] => rfl
  | v :: vs => by
    have ih := leadF_eq a b vs
    have e : leadF (v :: vs) a b = sgn1 v a b + leadF vs a b := by unfold leadF; rw [List.map_cons, List.sum_cons]
    rw [e, ih, List.filter_cons, List.length_cons]
    unfold sgn1
    by_cases h : ixOf a v < ixOf b v
    · rw [if_pos h, if_pos (by simpa using h), List.length_cons]
      omega
    · rw [if_neg h, if_neg (by simpa using h)]
      omega
def sp__law_lead : Sp := spO (α := List (List Int) × Int × Int) (fun a => [vD a.1, .int a.2.1, .int a.2.2]) (fun a => a.1.length ≤ 1000 ∧ ∀ v ∈ a.1, a.2.1 ∈ v ∧ a.2.2 ∈ v) fun a => .val (.int (leadF a.1 a.2.1 a.2.2))
theorem len__law_lead (vs : List V) (H : Hp) (Q : VK) (E : XK) (h : sp__law_lead vs H Q E) : vs.length = 3 := by
  unfold sp__law_lead at h
  obtain ⟨a, r, _⟩ := h
  rw [r.len]
  rfl
section
variable {P : Program} {w : World} {K : PySem.W.Frag} {mg : Str → Option Value} {base : Heap}
theorem ok__law_lead {f : Addr} {fd : FuncData} (D : Df K mg "_law_lead" s__law_lead ["voters", "one", "other"] f fd) (Bi : Bi mg) : FnOk P w K mg base CX0 1 f fd ["voters", "one", "other"] sp__law_lead := by
  refine D.F.ok c__law_lead (fun vs H Q E h => len__law_lead _ _ _ _ h) (fun cdv A outer s H vs Q E hr h => ?_)
  refine ⟨_, (pss_cons (ps_setLc (i := 3) (own := [("voter", 4)]) (g := (gName 4)) rfl c__law_lead.nd rfl rfl (sw_true rfl rfl rfl (by decide +kernel)) (pi_listK (K := K) (pv 0)) (blkOk_by (own := [("voter", 4)]) (N := ["voters", "one", "other", "ahead", "voter"]) (sc := defScope s__law_lead) (by decide +kernel)) (fun _ _ _ _ _ => (pg_name (i := 4) c__law_lead.nd rfl (.inl rfl))) (fun _ _ _ _ _ => pts_one (pt_cmpR op_ltI (pe_tm PySem.F.plainAttrs_tuple PySem.F.slot_tuple_index PySem.F.type_tuple_index (mt_tupIxK (K := K)) (pv 4) (pa_cons (pv 1) pa_nil)) (pe_tm PySem.F.plainAttrs_tuple PySem.F.slot_tuple_index PySem.F.type_tuple_index (mt_tupIxK (K := K)) (pv 4) (pa_cons (pv 2) pa_nil)) (nomark _))) (fun _ _ _ _ _ => (pv 4)))
      (pss_one (ps_ret (pe_op op_subI (pe_op op_mulI pe_int (pe_callB (cr_lenK (K := K)) (by rfl) Bi.len (by decide +kernel) (pa_cons (pv 3) pa_nil))) (pe_callB (cr_lenK (K := K)) (by rfl) Bi.len (by decide +kernel) (pa_cons (pv 0) pa_nil)))))), ?_⟩
  obtain ⟨⟨vss, a, b⟩, ⟨v1, _, rfl, hv, v2, _, rfl, rfl, v3, _, rfl, rfl, rfl⟩, ⟨hl, hp⟩, q⟩ := h
  dsimp only at q hv hp hl
  refine' s_asgO (ds := ((vss.filter fun v => decide (ixOf a v < ixOf b v)).map iD)) ?x (imm_vD _) fun p H1 e1 o1 => ?_
  case x =>
    refine' evn_lcL (f := iD) (xs := vss) (fun v => decide (ixOf a v < ixOf b v)) iD (evd_var rfl hv) (by omega) ?turn fun x _ _ => imm_iD x
    intro x v H5 hx e5 r
    obtain ⟨pa, pb⟩ := hp x hx
    refine ⟨_, fun Q hq => hq, rfl, ?_, fun _ => evd_var rfl r⟩
    rw [show decide (ixOf a x < ixOf b x) = decide ((ixOf a x : Int) < (ixOf b x : Int)) from decide_eq_decide.mpr (by omega)]
    wtm_at "et"
  wtm_at "nx"
  have hv1 := hv.ex e1
  have l1 : EvD (tCB (rLenS K) (tCons (tVar 3) tNil)) ([some v1, some (V.int a), some (V.int b), some (.ref p), none]) H1 (.int ((vss.filter fun v => decide (ixOf a v < ixOf b v)).map iD).length) := evd_cb (evs_cons (evd_var rfl o1.rp) evs_nil) cd_lenL
  have l2 : EvD (tCB (rLenS K) (tCons (tVar 0) tNil)) ([some v1, some (V.int a), some (V.int b), some (.ref p), none]) H1 (.int (vss.map iD).length) := evd_cb (evs_cons (evd_var rfl hv1) evs_nil) cd_lenL
  rw [List.length_map] at l1 l2
  rw [leadF_eq] at q
  exact s_retD (evd_op (evd_op evd_int l1 (rd_mulI (.inl ⟨by omega, by omega⟩))) l2 rd_subI) fun v H2 e2 r => q v H2 (e1.trans e2) r
end
theorem ev_llead {σ : L2.St} {H : Hp} {t1 t2 t3 : TE} {E : XK} {vss : List (List Int)} {a b : Int} (h1 : EvD t1 σ H (vD vss)) (h2 : EvD t2 σ H (.int a)) (h3 : EvD t3 σ H (.int b)) (l : vss.length ≤ 1000) (p : ∀ v ∈ vss, a ∈ v ∧ b ∈ v) :
    EvD (tCall sp__law_lead [] E (tCons t1 (tCons t2 (tCons t3 tNil)))) σ H (.int (leadF vss a b)) := evd_callO (vss, a, b) (evs_cons h1 (evs_cons h2 (evs_cons h3 evs_nil))) ⟨l, p⟩ rfl
/-- the beats of a thing over those below j -/
def beatsOneTo (vs : List (List Int)) (a : Int) (j : Nat) : List (Int × Int) := ((rgI 0 j).filter fun b => !decide (a = b) && decide (0 < leadF vs a b)).map fun b => (a, b)
theorem beatsOneTo_succ (vs : List (List Int)) (a : Int) (j : Nat) : beatsOneTo vs a (j + 1) = beatsOneTo vs a j ++ if (!decide (a = (j : Int)) && decide (0 < leadF vs a j)) = true then [(a, (j : Int))] else [] := by
  unfold beatsOneTo
  rw [rgI_snoc, List.filter_append, List.map_append]
  congr 1
  rw [Int.zero_add, List.filter_cons]
  split <;> rfl
theorem beatsOneTo_len (vs : List (List Int)) (a : Int) (j : Nat) : (beatsOneTo vs a j).length ≤ j := by
  unfold beatsOneTo
  rw [List.length_map]
  exact Nat.le_trans (List.length_filter_le _ _) (by rw [rgI_len]; exact Nat.le_refl _)
def sp__law_beats : Sp := spO (α := Int × List (List Int)) (fun a => [.int a.1, vD a.2]) (fun a => (0 ≤ a.1 ∧ a.1 ≤ 6) ∧ a.2.length ≤ 1000 ∧ isVot a.1 a.2) fun a => .new ((beatsF a.1 a.2).map pD)
theorem len__law_beats (vs : List V) (H : Hp) (Q : VK) (E : XK) (h : sp__law_beats vs H Q E) : vs.length = 2 := by
  unfold sp__law_beats at h
  obtain ⟨a, r, _⟩ := h
  rw [r.len]
  rfl
section
variable {P : Program} {w : World} {K : PySem.W.Frag} {mg : Str → Option Value} {base : Heap}
theorem ok__law_beats {f : Addr} {fd : FuncData} (D : Df K mg "_law_beats" s__law_beats ["many", "voters"] f fd) (Bi : Bi mg) {f__law_lead : Addr} {fd__law_lead : FuncData} (D__law_lead : Df K mg "_law_lead" s__law_lead ["voters", "one", "other"] f__law_lead fd__law_lead) (G__law_lead : FnOk P w K mg base CX0 1 f__law_lead fd__law_lead ["voters", "one", "other"] sp__law_lead) : FnOk P w K mg base CX0 2 f fd ["many", "voters"] sp__law_beats := by
  refine D.F.ok c__law_beats (fun vs H Q E h => len__law_beats _ _ _ _ h) (fun cdv A outer s H vs Q E hr h => ?_)
  refine ⟨_, (pss_cons (ps_set (i := 2) c__law_beats.nd rfl (.inl rfl) (pe_lst pa_nil))
      (pss_cons (ps_for (PassesOwn.never) rfl (pi_range1 (by rfl) Bi.range (pa_cons (pv 0) pa_nil)) (pg_name (i := 3) c__law_beats.nd rfl (.inl rfl))
      (pss_one (ps_for (PassesOwn.never) rfl (pi_range1 (by rfl) Bi.range (pa_cons (pv 0) pa_nil)) (pg_name (i := 4) c__law_beats.nd rfl (.inl rfl))
      (pss_one (ps_if (PW.pt (pw_and (pt_cmpR op_neI (pv 3) (pv 4) (nomark _)) (pw_and1 (pt_cmpR op_gtI (pe_call G__law_lead (hr.mono (by decide)) (by rfl) D__law_lead.g D__law_lead.F.kp D__law_lead.b .nil pass0 (pa_cons (pv 1) (pa_cons (pv 3) (pa_cons (pv 4) pa_nil)))) pe_int (nomark _)))))
      (pss_one (ps_expr (pe_bm PySem.F.plainAttrs_list PySem.F.slot_list_append PySem.F.type_list_append mt_append (pv 2) (pa_cons (pe_tupF (pa_cons (pv 3) (pa_cons (pv 4) pa_nil))) pa_nil))))
      pss_nil)))))
      (pss_one (ps_ret (pv 2))))), ?_⟩
  obtain ⟨⟨m, vss⟩, ⟨v1, _, rfl, rfl, v2, _, rfl, hv, rfl⟩, ⟨⟨m0, m6⟩, hl, hp⟩, q⟩ := h
  dsimp only at q hv hp m0 m6 hl
  refine' s_asgO (evn_lst evs_nil (by decide)) rfl fun p H1 e1 o1 => ?_
  wtm_at "nx"
  refine' s_forR (n := m) ?n (by omega) fun H3 e3 => ⟨fun i σ' H' => (∃ y z, σ' = [some (.int m), some v2, some (.ref p), y, z]) ∧ i ≤ m.toNat ∧ Own H H' p ((beatsTo m vss i).map pD), ?_, ?_, ?_⟩
  case n => wtm_at "es"
  · exact ⟨⟨none, none, rfl⟩, Nat.zero_le _, o1.step e3⟩
  · rintro i σ' H' hi ⟨⟨y, z, rfl⟩, hi2, o⟩
    have l1 := beatsTo_len ⟨m0, m6⟩ vss (i := i) (by omega)
    refine g_name ?_
    refine' s_forR (n := m) ?n (by omega) fun H4 e4 => ⟨fun j σ' H' => (∃ z, σ' = [some (.int m), some v2, some (.ref p), some (.int i), z]) ∧ j ≤ m.toNat ∧ Own H H' p ((beatsTo m vss i ++ beatsOneTo vss i j).map pD), ?_, ?_, ?_⟩
    case n => wtm_at "es"
    · refine ⟨⟨z, rfl⟩, Nat.zero_le _, ?_⟩
      rw [show beatsOneTo vss i 0 = [] from rfl, List.append_nil]
      exact o.step e4
    · rintro j σ' H' hj ⟨⟨z, rfl⟩, hj2, o⟩
      have l2 := beatsOneTo_len vss i j
      have hv2 : Rp H' (vD vss) v2 := hv.ex o.ex
      refine g_name ?_
      refine' s_if (b := !decide ((i : Int) = (j : Int)) && decide (0 < leadF vss i j)) ?t ?yes ?no
      case t =>
        refine' et_and ?a fun hab => ?b
        case a => wtm_at "et"
        case b =>
          refine' ett (evd_op (ev_llead ?p1 ?p2 ?p3 hl ?p4) evd_int rd_gtI)
          case p1 => wtm_at "ev"
          case p2 => wtm_at "ev"
          case p3 => wtm_at "ev"
          case p4 =>
            intro v hm
            exact ⟨(hp v hm).mem.mpr (by omega), (hp v hm).mem.mpr (by omega)⟩
      case yes =>
        intro hb H5 e5
        refine' s_appO (d := pD ((i : Int), (j : Int))) (o.step e5) rfl ?x rfl ?sz ?k
        case x => wtm_at "ev"
        case sz =>
          rw [List.length_map, List.length_append]
          omega
        case k =>
          intro H6 x6 o6
          refine ⟨⟨_, rfl⟩, by omega, ?_⟩
          rw [beatsOneTo_succ, if_pos hb, ← List.append_assoc, List.map_append]
          exact o6
      case no =>
        intro hb H5 e5
        refine ⟨⟨_, rfl⟩, by omega, ?_⟩
        rw [beatsOneTo_succ, if_neg (by rw [hb]; exact Bool.false_ne_true), List.append_nil]
        exact o.step e5
    · rintro σ' H' ⟨⟨z, rfl⟩, _, o⟩
      refine ⟨⟨_, _, rfl⟩, by omega, ?_⟩
      rw [beatsTo_succ]
      exact o
  · rintro σ' H' ⟨⟨y, z, rfl⟩, _, o⟩
    obtain ⟨ws, k1, k2⟩ := o.has
    exact ⟨_, rfl, q p ws H' o.new o.ex k1 k2⟩
end
theorem ev_lbeats {σ : L2.St} {H : Hp} {t0 t1 : TE} {E : XK} {m : Int} {vss : List (List Int)} (h0 : EvD t0 σ H (.int m)) (h1 : EvD t1 σ H (vD vss)) (c : 0 ≤ m ∧ m ≤ 6) (l : vss.length ≤ 1000) (p : isVot m vss) :
    EvN (tCall sp__law_beats [] E (tCons t0 (tCons t1 tNil))) σ H ((beatsF m vss).map pD) := evn_callO (m, vss) (evs_cons h0 (evs_cons h1 evs_nil)) ⟨c, l, p⟩ rfl
end Bm

namespace Bm
open PySem PySem.Spec PyProof.Rows L2 Evl
local macro_rules | `(tactic| wtm_at "rp") => `(tactic| first | exact rp_int | exact rp_bl | exact rp_str | exact rp_non | assumption | (refine' Rp.ex ?e ?h; (case h => assumption); (case e => assumption)) | exact Own.rp (by assumption))
local macro_rules | `(tactic| wtm_at "side") => `(tactic| first | assumption | omega | decide | rfl | exact ⟨by omega, by omega⟩)
local macro_rules | `(tactic| wtm_at "es") => `(tactic| first | exact evs_nil | (refine' evs_cons ?a ?b; (case a => wtm_at "ev"); (case b => wtm_at "es")))
local macro_rules | `(tactic| wtm_at "ev") => `(tactic| first
  | exact evd_int | exact evd_str | exact evd_bl | exact evd_non
  | (refine' evd_var rfl ?h; (case h => wtm_at "rp"))
  | ((with_reducible refine' evd_op ?a ?b rd_addI); (case a => wtm_at "ev"); (case b => wtm_at "ev"))
  | ((with_reducible refine' evd_op ?a ?b rd_subI); (case a => wtm_at "ev"); (case b => wtm_at "ev"))
  | ((with_reducible refine' evd_op ?a ?b (rd_mulI ?c)); (case a => wtm_at "ev"); (case b => wtm_at "ev"); (case c => wtm_at "side"))
  | ((with_reducible refine' evd_op ?a ?b (rd_divI ?c)); (case a => wtm_at "ev"); (case b => wtm_at "ev"); (case c => wtm_at "side"))
  | ((with_reducible refine' evd_op ?a ?b (rd_modI ?c)); (case a => wtm_at "ev"); (case b => wtm_at "ev"); (case c => wtm_at "side"))
  | ((with_reducible refine' evd_op ?a ?b rd_ltI); (case a => wtm_at "ev"); (case b => wtm_at "ev"))
  | ((with_reducible refine' evd_op ?a ?b rd_leI); (case a => wtm_at "ev"); (case b => wtm_at "ev"))
  | ((with_reducible refine' evd_op ?a ?b rd_gtI); (case a => wtm_at "ev"); (case b => wtm_at "ev"))
  | ((with_reducible refine' evd_op ?a ?b rd_geI); (case a => wtm_at "ev"); (case b => wtm_at "ev"))
  | ((with_reducible refine' evd_op ?a ?b rd_eqI); (case a => wtm_at "ev"); (case b => wtm_at "ev"))
  | ((with_reducible refine' evd_op ?a ?b rd_neI); (case a => wtm_at "ev"); (case b => wtm_at "ev"))
  | ((with_reducible refine' evd_op ?a ?b rd_eqB); (case a => wtm_at "ev"); (case b => wtm_at "ev"))
  | ((with_reducible refine' evd_op ?a ?b rd_neB); (case a => wtm_at "ev"); (case b => wtm_at "ev"))
  | ((with_reducible refine' evd_op ?a ?b rd_isNo); (case a => wtm_at "ev"); (case b => wtm_at "ev"))
  | ((with_reducible refine' evd_op ?a ?b rd_notNo); (case a => wtm_at "ev"); (case b => wtm_at "ev"))
  | ((with_reducible refine' evd_op ?a ?b rd_inIL); (case a => wtm_at "ev"); (case b => wtm_at "ev"))
  | ((with_reducible refine' evd_op ?a ?b rd_niIL); (case a => wtm_at "ev"); (case b => wtm_at "ev"))
  | ((with_reducible refine' evd_op ?a ?b rd_inID); (case a => wtm_at "ev"); (case b => wtm_at "ev"))
  | ((with_reducible refine' evd_op ?a ?b rd_niID); (case a => wtm_at "ev"); (case b => wtm_at "ev"))
  | ((with_reducible refine' evd_neg ?a); (case a => wtm_at "ev"))
  | ((with_reducible refine' evd_tix ?a ?b ?c); (case a => wtm_at "ev"); (case b => wtm_at "ev"); (case c => wtm_at "side"))
  | ((with_reducible refine' evd_tup ?a ?b); (case a => wtm_at "es"); (case b => exact Nat.le_of_ble_eq_true rfl))
  | ((with_reducible refine' evd_cb ?a cd_lenL); (case a => wtm_at "es"))
  | ((with_reducible refine' evd_cb ?a cd_lenT); (case a => wtm_at "es"))
  | ((with_reducible refine' evd_cb ?a cd_intB); (case a => wtm_at "es"))
  | ((with_reducible refine' evd_cb ?a cd_tupL); (case a => wtm_at "es"))
  | ((with_reducible refine' evd_and ?a ?b); (case a => wtm_at "ev"); (case b => intro _; wtm_at "ev"))
  | ((with_reducible refine' evd_or ?a ?b); (case a => wtm_at "ev"); (case b => intro _; wtm_at "ev"))
  | ((with_reducible refine' evd_not ?a); (case a => wtm_at "ev"))
  | ((with_reducible refine' evd_op ?a ?b rd_neIL); (case a => wtm_at "ev"); (case b => wtm_at "ev"))
  | ((with_reducible refine' evd_op ?a ?b rd_eqIL); (case a => wtm_at "ev"); (case b => wtm_at "ev"))
  | ((with_reducible refine' EvN.toD ?a); (case a => wtm_at "en")))
local macro_rules | `(tactic| wtm_at "en") => `(tactic| first
  | ((with_reducible refine' evn_cb ?a cn_sortTI); (case a => wtm_at "es"))
  | ((with_reducible refine' evn_cb ?a cn_listL); (case a => wtm_at "es"))
  | ((with_reducible refine' evn_cb ?a cn_listT); (case a => wtm_at "es"))
  | ((with_reducible refine' evn_rng ?a ?b); (case a => wtm_at "ev"); (case b => wtm_at "side"))
  | ((with_reducible refine' evn_lst ?a ?b); (case a => wtm_at "es"); (case b => exact Nat.le_of_ble_eq_true rfl))
  | ((with_reducible refine' evn_cat ?a ?b ?c); (case a => wtm_at "ev"); (case b => wtm_at "ev"); (case c => wtm_at "side"))
  | ((with_reducible refine' evn_slL ?a ?b ?c); (case a => wtm_at "ev"); (case b => first | exact evp_none | (refine' evp_some ?d; (case d => wtm_at "ev"))); (case c => first | exact evp_none | (refine' evp_some ?d; (case d => wtm_at "ev")))))
local macro_rules | `(tactic| wtm_at "et") => `(tactic| first
  | exact et_yes
  | (refine' ett ?a; (case a => wtm_at "ev"))
  | (refine' etB ?a; (case a => wtm_at "ev"))
  | (refine' et_and ?a ?b; (case a => wtm_at "et"); (case b => intro _; wtm_at "et"))
  | (refine' et_or ?a ?b; (case a => wtm_at "et"); (case b => intro _; wtm_at "et"))
  | (refine' et_not ?a; (case a => wtm_at "et")))
local macro_rules | `(tactic| wtm_at "nx") => `(tactic| try dsimp only [tSeq, tNext])
/-! ### a drawn web -/
def wish1 (way : Int) (st : List Int) (p : Int × Int) (cell : Int) : Int := if way = 3 then (if cell % 3 < 2 then (if ixOf p.2 st < ixOf p.1 st then 1 else 0) else cell % 3) else cell % 3
def wish2 (way : Int) (st : List Int) (p : Int × Int) (cell : Int) : Int := if way = 1 then wish1 way st p cell % 2 else wish1 way st p cell
def pickF (way : Int) (st : List Int) (p : Int × Int) (cell : Int) : List (Int × Int) := if wish2 way st p cell < 2 ∨ way = 2 then [if wish2 way st p cell % 2 = 0 then p else swp p] else []
def webL (way : Int) (st : List Int) : List (Int × Int) → Int → List (Int × Int)
  | [], _ => []
  | p :: r, cell => pickF way st p cell ++ webL way st r (cell / 3)
def webRaw (ns : List Int) (start m : Int) : List (Int × Int) := webL (cellF ns (start + 1) % 4) (lawOrd (cellF ns (start + 1) / 16) m) (prs m 0) (cellF ns start)
def lawTurn (ns : List Int) (start m : Int) : Nat := (cellF ns (start + 1) / 4 % ((webRaw ns start m).length + 1 : Int)).toNat
def lawWeb (ns : List Int) (start m : Int) : List (Int × Int) := (webRaw ns start m).drop (lawTurn ns start m) ++ (webRaw ns start m).take (lawTurn ns start m)
theorem pickF_len (way : Int) (st : List Int) (p : Int × Int) (cell : Int) : (pickF way st p cell).length ≤ 1 := by
  unfold pickF
  split
  · exact Nat.le_refl _
  · exact Nat.zero_le _
theorem webL_len (way : Int) (st : List Int) : ∀ (r : List (Int × Int)) (cell : Int), (webL way st r cell).length ≤ r.length
  | [], _ => Nat.le_refl _
  | p :: r, cell => by
    have := pickF_len way st p cell
    have := webL_len way st r (cell / 3)
    show (pickF way st p cell ++ webL way st r (cell / 3)).length ≤ _
    rw [List.length_append, List.length_cons]
    omega
theorem webL_mem {way : Int} {st : List Int} {q : Int × Int} : ∀ {r : List (Int × Int)} {cell : Int}, q ∈ webL way st r cell → q ∈ r ∨ swp q ∈ r
  | [], _, h => by simp [webL] at h
  | p :: r, cell, h => by
    rcases List.mem_append.mp (show q ∈ pickF way st p cell ++ webL way st r (cell / 3) from h) with h | h
    · unfold pickF at h
      split at h
      · rw [List.mem_singleton] at h
        split at h
        · exact .inl (h ▸ List.mem_cons_self)
        · exact .inr (by rw [h, swp_swp]; exact List.mem_cons_self)
      · cases h
    · exact (webL_mem h).imp (List.mem_cons_of_mem _) (List.mem_cons_of_mem _)
theorem webL_nodup {way : Int} {st : List Int} : ∀ {r : List (Int × Int)} {cell : Int}, (∀ p ∈ r, p.1 < p.2) → r.Nodup → ((webL way st r cell).map nrm).Nodup
  | [], _, _, _ => List.nodup_nil
  | p :: r, cell, h, n => by
    have ih := webL_nodup (way := way) (st := st) (r := r) (cell := cell / 3) (fun q hq => h q (List.mem_cons_of_mem _ hq)) (List.nodup_cons.mp n).2
    have hp := h p List.mem_cons_self
    have key : nrm p ∉ (webL way st r (cell / 3)).map nrm := fun z => by
      have np := (List.nodup_cons.mp n).1
      have ns : swp p ∉ r := fun z => by
        have := h _ (List.mem_cons_of_mem _ z)
        have e : (swp p).1 < (swp p).2 := this
        unfold swp at e
        dsimp only at e
        omega
      rcases nrm_mem.mp z with z | z
      · exact (webL_mem z).elim np ns
      · exact (webL_mem z).elim ns np
    show ((pickF way st p cell ++ webL way st r (cell / 3)).map nrm).Nodup
    unfold pickF
    split
    · rw [List.singleton_append, List.map_cons]
      refine List.nodup_cons.mpr ⟨?_, ih⟩
      have e : ∀ b : Bool, nrm (if b = true then p else swp p) = nrm p := fun b => by
        cases b with
        | true => rfl
        | false => exact nrm_iff.mpr (.inr rfl)
      have e2 := e (decide (wish2 way st p cell % 2 = 0))
      simp only [decide_eq_true_eq] at e2
      rw [e2]
      exact key
    · exact ih
theorem webRaw_web (ns : List Int) (start : Int) {m : Int} : isWeb m (webRaw ns start m) := by
  unfold webRaw
  refine isWeb_set.mpr ⟨fun p hp => ?_, webL_nodup (fun p hp => (mem_prs.mp hp).2.1) (prs_nodup m 0)⟩
  rw [goodB_iff]
  rcases webL_mem hp with h | h
  · rw [mem_prs] at h
    omega
  · rw [mem_prs] at h
    unfold swp at h
    dsimp only at h
    omega
theorem webRaw_len (ns : List Int) (start : Int) {m : Int} (hm : 0 ≤ m ∧ m ≤ 6) : (webRaw ns start m).length ≤ 15 := Nat.le_trans (webL_len _ _ _ _) (prs_len hm)
theorem lawWeb_perm (ns : List Int) (start m : Int) : (lawWeb ns start m).Perm (webRaw ns start m) := by
  unfold lawWeb
  have := List.perm_append_comm (l₁ := (webRaw ns start m).drop (lawTurn ns start m)) (l₂ := (webRaw ns start m).take (lawTurn ns start m))
  rwa [List.take_append_drop] at this
theorem lawWeb_web (ns : List Int) (start m : Int) : isWeb m (lawWeb ns start m) := (webRaw_web ns start).perm (lawWeb_perm ns start m).symm
theorem lawWeb_len (ns : List Int) (start : Int) {m : Int} (hm : 0 ≤ m ∧ m ≤ 6) : (lawWeb ns start m).length ≤ 15 := by
  rw [(lawWeb_perm ns start m).length_eq]
  exact webRaw_len ns start hm
def sp__law_web (K : PySem.W.Frag) : Sp := spS (α := Int × Int) K (fun a => [.int a.1, .int a.2]) (fun _ a => 0 ≤ a.1 ∧ 0 ≤ a.2 ∧ a.2 ≤ 6) fun ns a => .new ((lawWeb ns a.1 a.2).map pD)
theorem len__law_web {K : PySem.W.Frag} (vs : List V) (H : Hp) (Q : VK) (E : XK) (h : (sp__law_web K) vs H Q E) : vs.length = 3 := by
  unfold sp__law_web at h
  obtain ⟨ns, a, sa, r, rfl, _, h, _⟩ := h
  rw [List.length_cons, h.len]
  rfl
section
variable {P : Program} {w : World} {K : PySem.W.Frag} {mg : Str → Option Value} {base : Heap}
theorem ok__law_web {f : Addr} {fd : FuncData} (D : Df K mg "_law_web" s__law_web ["script", "start", "many"] f fd) (Bi : Bi mg) {f__law_cell_at : Addr} {fd__law_cell_at : FuncData} (D__law_cell_at : Df K mg "_law_cell_at" s__law_cell_at ["script", "k"] f__law_cell_at fd__law_cell_at) (G__law_cell_at : FnOk P w K mg base CX0 1 f__law_cell_at fd__law_cell_at ["script", "k"] (sp__law_cell_at K)) {f__law_order : Addr} {fd__law_order : FuncData} (D__law_order : Df K mg "_law_order" s__law_order ["cell", "many"] f__law_order fd__law_order) (G__law_order : FnOk P w K mg base CX0 1 f__law_order fd__law_order ["cell", "many"] sp__law_order) : FnOk P w K mg base CX0 2 f fd ["script", "start", "many"] (sp__law_web K) := by
  refine D.F.ok c__law_web (fun vs H Q E h => len__law_web _ _ _ _ h) (fun cdv A outer s H vs Q E hr h => ?_)
  refine ⟨_, (pss_cons (ps_set (i := 3) c__law_web.nd rfl (.inl rfl) (pe_call G__law_cell_at (hr.mono (by decide)) (by rfl) D__law_cell_at.g D__law_cell_at.F.kp D__law_cell_at.b .nil pass0 (pa_cons (pv 0) (pa_cons (pv 1) pa_nil))))
      (pss_cons (ps_set (i := 4) c__law_web.nd rfl (.inl rfl) (pe_op op_modI (pe_call G__law_cell_at (hr.mono (by decide)) (by rfl) D__law_cell_at.g D__law_cell_at.F.kp D__law_cell_at.b .nil pass0 (pa_cons (pv 0) (pa_cons (pe_op op_addI (pv 1) pe_int) pa_nil))) pe_int))
      (pss_cons (ps_set (i := 5) c__law_web.nd rfl (.inl rfl) (pe_lst pa_nil))
      (pss_cons (ps_set (i := 6) c__law_web.nd rfl (.inl rfl) (pe_listRg rfl (by rfl) Bi.list (prg_1 (by rfl) Bi.range (pv 2))))
      (pss_cons (ps_if (pt_cmpR op_eqI (pv 4) pe_int (nomark _))
      (pss_one (ps_set (i := 6) c__law_web.nd rfl (.inl rfl) (pe_call G__law_order (hr.mono (by decide)) (by rfl) D__law_order.g D__law_order.F.kp D__law_order.b .nil pass0 (pa_cons (pe_op op_divI (pe_call G__law_cell_at (hr.mono (by decide)) (by rfl) D__law_cell_at.g D__law_cell_at.F.kp D__law_cell_at.b .nil pass0 (pa_cons (pv 0) (pa_cons (pe_op op_addI (pv 1) pe_int) pa_nil))) pe_int) (pa_cons (pv 2) pa_nil)))))
      pss_nil)
      (pss_cons (ps_for (PassesOwn.never) rfl (pi_range1 (by rfl) Bi.range (pa_cons (pv 2) pa_nil)) (pg_name (i := 7) c__law_web.nd rfl (.inl rfl))
      (pss_one (ps_for (PassesOwn.never) rfl (pi_range2 (by rfl) Bi.range (pa_cons (pe_op op_addI (pv 7) pe_int) (pa_cons (pv 2) pa_nil))) (pg_name (i := 8) c__law_web.nd rfl (.inl rfl))
      (pss_cons (ps_set (i := 9) c__law_web.nd rfl (.inl rfl) (pe_op op_modI (pv 3) pe_int))
      (pss_cons (ps_set (i := 3) c__law_web.nd rfl (.inl rfl) (pe_op op_divI (pv 3) pe_int))
      (pss_cons (ps_if (pt_cmpR op_eqI (pv 4) pe_int (nomark _))
      (pss_one (ps_if (pt_cmpR op_ltI (pv 9) pe_int (nomark _))
      (pss_one (ps_set (i := 9) c__law_web.nd rfl (.inl rfl) (pe_callTy cr_intB (by rfl) Bi.int (by decide +kernel) (pa_cons (pe_cmpR op_gtI (pe_tm PySem.F.plainAttrs_tuple PySem.F.slot_tuple_index PySem.F.type_tuple_index (mt_tupIxK (K := K)) (pv 6) (pa_cons (pv 7) pa_nil)) (pe_tm PySem.F.plainAttrs_tuple PySem.F.slot_tuple_index PySem.F.type_tuple_index (mt_tupIxK (K := K)) (pv 6) (pa_cons (pv 8) pa_nil)) (nomark _)) pa_nil))))
      pss_nil))
      pss_nil)
      (pss_cons (ps_if (pt_cmpR op_eqI (pv 4) pe_int (nomark _))
      (pss_one (ps_set (i := 9) c__law_web.nd rfl (.inl rfl) (pe_op op_modI (pv 9) pe_int)))
      pss_nil)
      (pss_one (ps_if (PW.pt (pw_or (pt_cmpR op_ltI (pv 9) pe_int (nomark _)) (pw_or1 (pt_cmpR op_eqI (pv 4) pe_int (nomark _)))))
      (pss_one (ps_expr (pe_bm PySem.F.plainAttrs_list PySem.F.slot_list_append PySem.F.type_list_append mt_append (pv 5) (pa_cons (pe_ix (ix_listK (K := K)) (pe_lst (pa_cons (pe_tupF (pa_cons (pv 7) (pa_cons (pv 8) pa_nil))) (pa_cons (pe_tupF (pa_cons (pv 8) (pa_cons (pv 7) pa_nil))) pa_nil))) (pe_op op_modI (pv 9) pe_int) (fun _ _ => rfl)) pa_nil))))
      pss_nil)))))))))
      (pss_cons (ps_set (i := 10) c__law_web.nd rfl (.inl rfl) (pe_op op_modI (pe_op op_divI (pe_call G__law_cell_at (hr.mono (by decide)) (by rfl) D__law_cell_at.g D__law_cell_at.F.kp D__law_cell_at.b .nil pass0 (pa_cons (pv 0) (pa_cons (pe_op op_addI (pv 1) pe_int) pa_nil))) pe_int) (pe_op op_addI (pe_callB (cr_lenK (K := K)) (by rfl) Bi.len (by decide +kernel) (pa_cons (pv 5) pa_nil)) pe_int)))
      (pss_one (ps_ret (pe_op op_cat (pe_slice (sl_listK (K := K)) (pv 5) (po_some (pv 10)) po_none) (pe_slice (sl_listK (K := K)) (pv 5) po_none (po_some (pv 10))))))))))))), ?_⟩
  obtain ⟨ns, ⟨start, m⟩, sa, _, rfl, hs, ⟨v2, _, rfl, rfl, v3, _, rfl, rfl, rfl⟩, ⟨s0, m0, m6⟩, q⟩ := h
  dsimp only at q s0 m0 m6
  have hrl := webRaw_len ns start ⟨m0, m6⟩
  refine' s_asgI (n := cellF ns start) (ev_cell hs rfl ?a s0) fun H1 e1 => ?_
  case a => wtm_at "ev"
  wtm_at "nx"
  have hs1 := ex_l e1 hs
  refine' s_asgI (n := cellF ns (start + 1) % 4) (evd_op (ev_cell hs1 rfl ?a (by omega)) ?b (rd_modI (by omega))) fun H2 e2 => ?_
  case a => wtm_at "ev"
  case b => wtm_at "ev"
  wtm_at "nx"
  have hs2 := ex_l e2 hs1
  have e12 := e1.trans e2
  generalize hway : cellF ns (start + 1) % 4 = way
  refine' s_asgO (evn_lst evs_nil (by decide)) rfl fun pw H3 e3 o3 => ?_
  wtm_at "nx"
  have hs3 := ex_l e3 hs2
  have o3 := o3.lower e12
  -- how they stand
  generalize hst : lawOrd (cellF ns (start + 1) / 16) m = st
  have hord : isOrd m st := hst ▸ lawOrd_ord _ _
  have hraw : webL way st (prs m 0) (cellF ns start) = webRaw ns start m := by
    unfold webRaw
    rw [hway, hst]
  refine' s_asgNw (ds := (rgI 0 m.toNat).map .int) (evn_rng (n := m) ?n (by omega)) fun p4 vs4 H4 n4 e4 g1 g2 => ?_
  case n => wtm_at "ev"
  wtm_at "nx"
  have hs4 := ex_l e4 hs3
  have o4 := o3.step e4
  refine joinK (A := V) (fun v => [some (.ref sa), some (.int start), some (.int m), some (.int (cellF ns start)), some (.int way), some (.ref pw), some v, none, none, none, none])
    (fun v H' => Ex H4 H' ∧ (way = 3 → Rp H' (iD st) v)) (fun vst H5 => ?_) fun cont => ?_
  rotate_left
  · refine' s_if (b := decide (way = 3)) ?t ?yes ?no
    case t => wtm_at "et"
    case yes =>
      intro hb H5 e5
      have hs5 := ex_l e5 hs4
      refine' s_asgD (d := iD st) ((ev_order (c := cellF ns (start + 1) / 16) (m := m) (evd_op (ev_cell (k := start + 1) hs5 rfl ?a (by omega)) evd_int (rd_divI (j := 16) ⟨by omega, by omega⟩)) ?c ⟨m0, m6⟩).is (by rw [hst])) fun v H6 e6 r => ?_
      case a => wtm_at "ev"
      case c => wtm_at "ev"
      exact cont v H6 ⟨e5.trans e6, fun _ => r⟩
    case no =>
      intro hb H5 e5
      exact cont _ H5 ⟨e5, fun z => absurd z (by simpa using hb)⟩
  · rintro ⟨e5, hv5⟩
    wtm_at "nx"
    have o5 := o4.step e5
    have hbig : ∀ {acc r : List (Int × Int)} {cell : Int}, acc ++ webL way st r cell = webRaw ns start m → acc.length ≤ 15 := fun h => by
      have := congrArg List.length h
      rw [List.length_append] at this
      omega
    refine' s_forR (n := m) ?n (by omega) fun H6 e6 => ⟨fun i σ' H' => ∃ cell acc y z u, σ' = [some (.ref sa), some (.int start), some (.int m), some (.int cell), some (.int way), some (.ref pw), some vst, y, z, u, none] ∧ i ≤ m.toNat ∧ Own H H' pw (acc.map pD) ∧ (way = 3 → Rp H' (iD st) vst) ∧ acc ++ webL way st (prs m i) cell = webRaw ns start m, ?_, ?_, ?_⟩
    case n => wtm_at "es"
    · exact ⟨_, [], none, none, none, rfl, Nat.zero_le _, o5.step e6, fun h => (hv5 h).ex e6, hraw⟩
    · rintro i σ' H' hi ⟨cell, acc, y, z, u, rfl, hi2, o, hv, hm⟩
      refine g_name ?_
      refine' s_forR2 (lo := (i : Int) + 1) (n := m) ?n (by omega) fun H7 e7 => ⟨fun j σ' H' => ∃ cell acc z u, σ' = [some (.ref sa), some (.int start), some (.int m), some (.int cell), some (.int way), some (.ref pw), some vst, some (.int i), z, u, none] ∧ j ≤ (m - ((i : Int) + 1)).toNat ∧ Own H H' pw (acc.map pD) ∧ (way = 3 → Rp H' (iD st) vst) ∧
        acc ++ webL way st (rowP m i ((i : Int) + 1 + (j : Int)) ++ prs m ((i : Int) + 1)) cell = webRaw ns start m, ?_, ?_, ?_⟩
      case n => wtm_at "es"
      · refine ⟨cell, acc, z, u, rfl, Nat.zero_le _, o.step e7, fun h => (hv h).ex e7, ?_⟩
        rw [Int.natCast_zero, Int.add_zero, ← prs_step hi]
        exact hm
      · rintro j σ' H' hj ⟨cell, acc, z, u, rfl, hj2, o, hv, hm⟩
        generalize hb : (i : Int) + 1 + (j : Int) = b at hj hm
        rw [rowP_step hj, List.cons_append] at hm
        have hm : acc ++ (pickF way st ((i : Int), b) cell ++ webL way st (rowP m i (b + 1) ++ prs m ((i : Int) + 1)) (cell / 3)) = webRaw ns start m := hm
        have hacc := hbig (cell := cell) (r := ((i : Int), b) :: (rowP m i (b + 1) ++ prs m ((i : Int) + 1))) hm
        rw [← List.append_assoc] at hm
        refine g_name ?_
        refine' s_asgI (n := cell % 3) ?x fun H8 e8 => ?_
        case x => wtm_at "ev"
        wtm_at "nx"
        refine' s_asgI (n := cell / 3) (evd_op ?x ?y (rd_divI ⟨by omega, by omega⟩)) fun H9 e9 => ?_
        case x => wtm_at "ev"
        case y => wtm_at "ev"
        wtm_at "nx"
        have o9 := (o.step e8).step e9
        have hv9 : way = 3 → Rp H9 (iD st) vst := fun h => ((hv h).ex e8).ex e9
        -- the wish
        refine joinK (A := Unit) (fun _ => [some (.ref sa), some (.int start), some (.int m), some (.int (cell / 3)), some (.int way), some (.ref pw), some vst, some (.int i), some (.int b), some (.int (wish1 way st ((i : Int), b) cell)), none])
          (fun _ H' => Ex H9 H') (fun _ H10 e10 => ?_) fun cont => ?_
        rotate_left
        · refine' s_if (b := decide (way = 3)) ?t ?yes ?no
          case t => wtm_at "et"
          case no =>
            intro hb2 H10 e10
            have z := cont () H10 e10
            have nw : ¬ way = 3 := by simpa using hb2
            unfold wish1 at z
            rw [if_neg nw] at z
            exact z
          case yes =>
            intro hb2 H10 e10
            have hw3 : way = 3 := by simpa using hb2
            refine' s_if (b := decide (cell % 3 < 2)) ?t ?yes ?no
            case t => wtm_at "et"
            case no =>
              intro hb3 H11 e11
              have z := cont () H11 (e10.trans e11)
              unfold wish1 at z
              rw [if_pos hw3, if_neg (by simpa using hb3)] at z
              exact z
            case yes =>
              intro hb3 H11 e11
              have hv11 := ((hv9 hw3).ex e10).ex e11
              refine' s_asgI (n := if ixOf b st < ixOf (i : Int) st then 1 else 0) ?x fun H12 e12 => ?_
              case x =>
                have z : EvD (tCB rIntB (tCons (tOp rGtI (tTM (rIxI K) (tVar 6) (tCons (tVar 7) tNil)) (tTM (rIxI K) (tVar 6) (tCons (tVar 8) tNil))) tNil)) [some (V.ref sa), some (.int start), some (.int m), some (.int (cell / 3)), some (.int way), some (.ref pw), some vst, some (.int i), some (.int b), some (.int (cell % 3)), none] H11 (.int (if decide (((ixOf b st : Nat) : Int) < ((ixOf (i : Int) st : Nat) : Int)) then 1 else 0)) := by
                  refine' evd_cb (evs_cons (evd_op (evd_tix (evd_var rfl hv11) ?a (hord.mem.mpr (by omega))) (evd_tix (evd_var rfl hv11) ?b (hord.mem.mpr (by omega))) rd_gtI) evs_nil) cd_intB
                  case a => wtm_at "ev"
                  case b => wtm_at "ev"
                rw [show (if decide (((ixOf b st : Nat) : Int) < ((ixOf (i : Int) st : Nat) : Int)) then (1 : Int) else 0) = if ixOf b st < ixOf (i : Int) st then 1 else 0 by
                  simp only [decide_eq_true_eq, Int.ofNat_lt]] at z
                exact z
              have z := cont () H12 ((e10.trans e11).trans e12)
              unfold wish1 at z
              rw [if_pos hw3, if_pos (by simpa using hb3)] at z
              exact z
        · wtm_at "nx"
          have o10 := o9.step e10
          have hv10 : way = 3 → Rp H10 (iD st) vst := fun h => (hv9 h).ex e10
          refine joinK (A := Unit) (fun _ => [some (.ref sa), some (.int start), some (.int m), some (.int (cell / 3)), some (.int way), some (.ref pw), some vst, some (.int i), some (.int b), some (.int (wish2 way st ((i : Int), b) cell)), none])
            (fun _ H' => Ex H10 H') (fun _ H11 e11 => ?_) fun cont => ?_
          rotate_left
          · refine' s_if (b := decide (way = 1)) ?t ?yes ?no
            case t => wtm_at "et"
            case no =>
              intro hb2 H11 e11
              have z := cont () H11 e11
              unfold wish2 at z
              rw [if_neg (by simpa using hb2)] at z
              exact z
            case yes =>
              intro hb2 H11 e11
              refine' s_asgI (n := wish1 way st ((i : Int), b) cell % 2) ?x fun H12 e12 => ?_
              case x => wtm_at "ev"
              have z := cont () H12 (e11.trans e12)
              unfold wish2 at z
              rw [if_pos (by simpa using hb2)] at z
              exact z
          · wtm_at "nx"
            have o11 := o10.step e11
            have hv11 : way = 3 → Rp H11 (iD st) vst := fun h => (hv10 h).ex e11
            have hb1 : (i : Int) + 1 + ((j + 1 : Nat) : Int) = b + 1 := by omega
            refine' s_if (b := decide (wish2 way st ((i : Int), b) cell < 2) || decide (way = 2)) ?t ?yes ?no
            case t => wtm_at "et"
            case no =>
              intro hb2 H12 e12
              have hp : pickF way st ((i : Int), b) cell = [] := by
                unfold pickF
                rw [if_neg (by simpa using hb2)]
              rw [hp, List.append_nil] at hm
              refine ⟨cell / 3, acc, _, _, rfl, by omega, o11.step e12, fun h => (hv11 h).ex e12, ?_⟩
              rw [hb1]
              exact hm
            case yes =>
              intro hb2 H12 e12
              have hp : pickF way st ((i : Int), b) cell = [if wish2 way st ((i : Int), b) cell % 2 = 0 then ((i : Int), b) else swp ((i : Int), b)] := by
                unfold pickF
                rw [if_pos (by simpa using hb2)]
              rw [hp] at hm
              have w0 := Int.emod_nonneg (wish2 way st ((i : Int), b) cell) (show (2 : Int) ≠ 0 by omega)
              have w1 := Int.emod_lt_of_pos (wish2 way st ((i : Int), b) cell) (show (0 : Int) < 2 by omega)
              have o12 := o11.step e12
              have hv12 : way = 3 → Rp H12 (iD st) vst := fun h => (hv11 h).ex e12
              refine' s_appO (d := pD (if wish2 way st ((i : Int), b) cell % 2 = 0 then ((i : Int), b) else swp ((i : Int), b))) o12 rfl ?x rfl ?sz fun H13 x13 o13 => ?_
              case x =>
                refine' evd_op (EvN.toD (evn_lst (ds := [pD ((i : Int), b), pD (b, (i : Int))]) ?l (Nat.le_of_ble_eq_true rfl))) (y := .int (wish2 way st ((i : Int), b) cell % 2)) ?k (rd_ixL ?ix)
                case l => wtm_at "es"
                case k => wtm_at "ev"
                case ix =>
                  generalize wish2 way st ((i : Int), b) cell % 2 = k at w0 w1
                  have : k = 0 ∨ k = 1 := by omega
                  rcases this with rfl | rfl <;> rfl
              case sz =>
                rw [List.length_map]
                omega
              obtain ⟨ws, k1, _⟩ := o12.has
              refine ⟨cell / 3, acc ++ [if wish2 way st ((i : Int), b) cell % 2 = 0 then ((i : Int), b) else swp ((i : Int), b)], _, _, rfl, by omega, ?_, fun h => Rp.keep (x13.kt k1) (imm_iD _) (hv12 h), ?_⟩
              · rw [List.map_append]
                exact o13
              · rw [hb1]
                exact hm
      · rintro σ' H' ⟨cell, acc, z, u, rfl, _, o, hv, hm⟩
        refine ⟨cell, acc, _, _, _, rfl, by omega, o, hv, ?_⟩
        rw [rowP_end (by omega), List.nil_append] at hm
        rw [show ((i + 1 : Nat) : Int) = (i : Int) + 1 by omega]
        exact hm
    · rintro σ' H' ⟨cell, acc, y, z, u, rfl, _, o, hv, hm⟩
      wtm_at "nx"
      rw [prs_end (by omega)] at hm
      have hm : acc = webRaw ns start m := by
        rw [← hm]
        show acc = acc ++ []
        rw [List.append_nil]
      subst hm
      have hs' := ex_l o.ex hs
      have t0 := Int.emod_nonneg (cellF ns (start + 1) / 4) (show ((webRaw ns start m).length + 1 : Int) ≠ 0 by omega)
      have t1 := Int.emod_lt_of_pos (cellF ns (start + 1) / 4) (show (0 : Int) < ((webRaw ns start m).length + 1 : Int) by omega)
      have hk : cellF ns (start + 1) / 4 % ((webRaw ns start m).length + 1 : Int) = ((lawTurn ns start m : Nat) : Int) := by
        unfold lawTurn
        omega
      have lz : EvD (tCB (rLenS K) (tCons (tVar 5) tNil)) [some (V.ref sa), some (.int start), some (.int m), some (.int cell), some (.int way), some (.ref pw), some vst, y, z, u, none] H' (.int ((webRaw ns start m).map pD).length) := evd_cb (evs_cons (evd_var rfl o.rp) evs_nil) cd_lenL
      rw [List.length_map] at lz
      refine' s_asgI (n := ((lawTurn ns start m : Nat) : Int)) ((evd_op (evd_op (ev_cell (k := start + 1) hs' rfl ?a (by omega)) evd_int (rd_divI (j := 4) ⟨by omega, by omega⟩)) (evd_op lz evd_int (rd_addI (j := 1))) (rd_modI (by omega))).is (by rw [hk])) fun H7 e7 => ?_
      case a => wtm_at "ev"
      wtm_at "nx"
      have o7 := o.step e7
      refine' s_retNw (ds := cutA ((webRaw ns start m).map pD) (some ((lawTurn ns start m : Nat) : Int)) none ++ cutA ((webRaw ns start m).map pD) none (some ((lawTurn ns start m : Nat) : Int))) (evn_cat (evn_slL (evd_var rfl o7.rp) (evp_some ?a) evp_none).toD (evn_slL (evd_var rfl o7.rp) evp_none (evp_some ?b)).toD ?c) fun p8 ws8 H8 n8 e8 k1 k2 => ?_
      case a => wtm_at "ev"
      case b => wtm_at "ev"
      case c =>
        rw [cutA_to, cutA_from, List.length_take, List.length_drop, List.length_map]
        omega
      rw [cutA_to, cutA_from, ← List.map_take, ← List.map_drop, ← List.map_append] at k2
      exact q p8 ws8 H8 (fresh_back o7.ex n8) (o7.ex.trans e8) k1 k2
end
theorem ev_lweb {K : PySem.W.Frag} {σ : L2.St} {H : Hp} {t1 t2 : TE} {E : XK} {ns : List Int} {sa : Addr} {i : Nat} {start m : Int} (hs : SqL K H sa (ns.map V.int)) (hi : σ[i]? = some (some (.ref sa))) (h1 : EvD t1 σ H (.int start)) (h2 : EvD t2 σ H (.int m))
    (p : 0 ≤ start) (p2 : 0 ≤ m ∧ m ≤ 6) : EvN (tCall (sp__law_web K) [] E (tCons (tVar i) (tCons t1 (tCons t2 tNil)))) σ H ((lawWeb ns start m).map pD) := evn_callS (start, m) hs hi (evs_cons h1 (evs_cons h2 evs_nil)) ⟨p, p2⟩ rfl
end Bm

namespace Bm
open PySem PySem.Spec PyProof.Rows L2 Evl
local macro_rules | `(tactic| wtm_at "rp") => `(tactic| first | exact rp_int | exact rp_bl | exact rp_str | exact rp_non | assumption | (refine' Rp.ex ?e ?h; (case h => assumption); (case e => assumption)) | exact Own.rp (by assumption))
local macro_rules | `(tactic| wtm_at "side") => `(tactic| first | assumption | omega | decide | rfl | exact ⟨by omega, by omega⟩)
local macro_rules | `(tactic| wtm_at "es") => `(tactic| first | exact evs_nil | (refine' evs_cons ?a ?b; (case a => wtm_at "ev"); (case b => wtm_at "es")))
local macro_rules | `(tactic| wtm_at "ev") => `(tactic| first
  | exact evd_int | exact evd_str | exact evd_bl | exact evd_non
  | (refine' evd_var rfl ?h; (case h => wtm_at "rp"))
  | ((with_reducible refine' evd_op ?a ?b rd_addI); (case a => wtm_at "ev"); (case b => wtm_at "ev"))
  | ((with_reducible refine' evd_op ?a ?b rd_subI); (case a => wtm_at "ev"); (case b => wtm_at "ev"))
  | ((with_reducible refine' evd_op ?a ?b (rd_mulI ?c)); (case a => wtm_at "ev"); (case b => wtm_at "ev"); (case c => wtm_at "side"))
  | ((with_reducible refine' evd_op ?a ?b (rd_divI ?c)); (case a => wtm_at "ev"); (case b => wtm_at "ev"); (case c => wtm_at "side"))
  | ((with_reducible refine' evd_op ?a ?b (rd_modI ?c)); (case a => wtm_at "ev"); (case b => wtm_at "ev"); (case c => wtm_at "side"))
  | ((with_reducible refine' evd_op ?a ?b rd_ltI); (case a => wtm_at "ev"); (case b => wtm_at "ev"))
  | ((with_reducible refine' evd_op ?a ?b rd_leI); (case a => wtm_at "ev"); (case b => wtm_at "ev"))
  | ((with_reducible refine' evd_op ?a ?b rd_gtI); (case a => wtm_at "ev"); (case b => wtm_at "ev"))
  | ((with_reducible refine' evd_op ?a ?b rd_geI); (case a => wtm_at "ev"); (case b => wtm_at "ev"))
  | ((with_reducible refine' evd_op ?a ?b rd_eqI); (case a => wtm_at "ev"); (case b => wtm_at "ev"))
  | ((with_reducible refine' evd_op ?a ?b rd_neI); (case a => wtm_at "ev"); (case b => wtm_at "ev"))
  | ((with_reducible refine' evd_op ?a ?b rd_eqB); (case a => wtm_at "ev"); (case b => wtm_at "ev"))
  | ((with_reducible refine' evd_op ?a ?b rd_neB); (case a => wtm_at "ev"); (case b => wtm_at "ev"))
  | ((with_reducible refine' evd_op ?a ?b rd_isNo); (case a => wtm_at "ev"); (case b => wtm_at "ev"))
  | ((with_reducible refine' evd_op ?a ?b rd_notNo); (case a => wtm_at "ev"); (case b => wtm_at "ev"))
  | ((with_reducible refine' evd_op ?a ?b rd_inIL); (case a => wtm_at "ev"); (case b => wtm_at "ev"))
  | ((with_reducible refine' evd_op ?a ?b rd_niIL); (case a => wtm_at "ev"); (case b => wtm_at "ev"))
  | ((with_reducible refine' evd_op ?a ?b rd_inID); (case a => wtm_at "ev"); (case b => wtm_at "ev"))
  | ((with_reducible refine' evd_op ?a ?b rd_niID); (case a => wtm_at "ev"); (case b => wtm_at "ev"))
  | ((with_reducible refine' evd_neg ?a); (case a => wtm_at "ev"))
  | ((with_reducible refine' evd_tix ?a ?b ?c); (case a => wtm_at "ev"); (case b => wtm_at "ev"); (case c => wtm_at "side"))
  | ((with_reducible refine' evd_tup ?a ?b); (case a => wtm_at "es"); (case b => exact Nat.le_of_ble_eq_true rfl))
  | ((with_reducible refine' evd_cb ?a cd_lenL); (case a => wtm_at "es"))
  | ((with_reducible refine' evd_cb ?a cd_lenT); (case a => wtm_at "es"))
  | ((with_reducible refine' evd_cb ?a cd_intB); (case a => wtm_at "es"))
  | ((with_reducible refine' evd_cb ?a cd_tupL); (case a => wtm_at "es"))
  | ((with_reducible refine' evd_and ?a ?b); (case a => wtm_at "ev"); (case b => intro _; wtm_at "ev"))
  | ((with_reducible refine' evd_or ?a ?b); (case a => wtm_at "ev"); (case b => intro _; wtm_at "ev"))
  | ((with_reducible refine' evd_not ?a); (case a => wtm_at "ev"))
  | ((with_reducible refine' evd_op ?a ?b rd_neIL); (case a => wtm_at "ev"); (case b => wtm_at "ev"))
  | ((with_reducible refine' evd_op ?a ?b rd_eqIL); (case a => wtm_at "ev"); (case b => wtm_at "ev"))
  | ((with_reducible refine' EvN.toD ?a); (case a => wtm_at "en")))
local macro_rules | `(tactic| wtm_at "en") => `(tactic| first
  | ((with_reducible refine' evn_cb ?a cn_sortTI); (case a => wtm_at "es"))
  | ((with_reducible refine' evn_cb ?a cn_listL); (case a => wtm_at "es"))
  | ((with_reducible refine' evn_cb ?a cn_listT); (case a => wtm_at "es"))
  | ((with_reducible refine' evn_rng ?a ?b); (case a => wtm_at "ev"); (case b => wtm_at "side"))
  | ((with_reducible refine' evn_lst ?a ?b); (case a => wtm_at "es"); (case b => exact Nat.le_of_ble_eq_true rfl))
  | ((with_reducible refine' evn_cat ?a ?b ?c); (case a => wtm_at "ev"); (case b => wtm_at "ev"); (case c => wtm_at "side"))
  | ((with_reducible refine' evn_slL ?a ?b ?c); (case a => wtm_at "ev"); (case b => first | exact evp_none | (refine' evp_some ?d; (case d => wtm_at "ev"))); (case c => first | exact evp_none | (refine' evp_some ?d; (case d => wtm_at "ev")))))
local macro_rules | `(tactic| wtm_at "et") => `(tactic| first
  | exact et_yes
  | (refine' ett ?a; (case a => wtm_at "ev"))
  | (refine' etB ?a; (case a => wtm_at "ev"))
  | (refine' et_and ?a ?b; (case a => wtm_at "et"); (case b => intro _; wtm_at "et"))
  | (refine' et_or ?a ?b; (case a => wtm_at "et"); (case b => intro _; wtm_at "et"))
  | (refine' et_not ?a; (case a => wtm_at "et")))
local macro_rules | `(tactic| wtm_at "nx") => `(tactic| try dsimp only [tSeq, tNext])
/-! ### _law_is_order, _law_is_voters -/
def sp__law_is_order : Sp := spO (α := List Int × Int) (fun a => [iD a.1, .int a.2]) (fun a => (0 ≤ a.2 ∧ a.2 ≤ 6) ∧ a.1.length ≤ 1000) fun a => .val (.bool (decide (isOrd a.2 a.1)))
theorem len__law_is_order (vs : List V) (H : Hp) (Q : VK) (E : XK) (h : sp__law_is_order vs H Q E) : vs.length = 2 := by
  unfold sp__law_is_order at h
  obtain ⟨a, r, _⟩ := h
  rw [r.len]
  rfl
section
variable {P : Program} {w : World} {K : PySem.W.Frag} {mg : Str → Option Value} {base : Heap}
theorem ok__law_is_order {f : Addr} {fd : FuncData} (D : Df K mg "_law_is_order" s__law_is_order ["found", "many"] f fd) (Bi : Bi mg) {f__law_whole : Addr} {fd__law_whole : FuncData} (D__law_whole : Df K mg "_law_whole" s__law_whole ["found"] f__law_whole fd__law_whole) (G__law_whole : FnOk P w K mg base CX0 1 f__law_whole fd__law_whole ["found"] sp__law_whole) : FnOk P w K mg base CX0 2 f fd ["found", "many"] sp__law_is_order := by
  refine D.F.ok c__law_is_order (fun vs H Q E h => len__law_is_order _ _ _ _ h) (fun cdv A outer s H vs Q E hr h => ?_)
  refine ⟨_, (pss_cons (ps_if (PW.pt (pw_or (pt_not (pt_val (pe_callB (call_isiK2 (K := K)) (by rfl) Bi.isinstance (by decide +kernel) (pa_cons (pv 0) (pa_cons (pe_bltn (v := .ty "tuple") (by rfl) Bi.tuple (by decide +kernel) rfl) pa_nil))))) (pw_or1 (pt_cmpR op_neI (pe_callB (cr_lenK (K := K)) (by rfl) Bi.len (by decide +kernel) (pa_cons (pv 0) pa_nil)) (pv 1) (nomark _)))))
      (pss_one (ps_ret pe_bl))
      pss_nil)
      (pss_one (ps_ret (pe_and (pe_callB (cr_allK (K := K) rfl) (by rfl) Bi.all (by decide +kernel) (pa_cons (pe_lc (own := [("thing", 2)]) (g := (gName 2)) (tt := tYes) rfl c__law_is_order.nd (pi_tupK (K := K) (pv 0)) (blkOk_by (own := [("thing", 2)]) (N := ["found", "many", "thing"]) (sc := defScope s__law_is_order) (by decide +kernel)) (fun _ _ _ _ _ => (pg_name (i := 2) c__law_is_order.nd rfl (.inl rfl))) (fun _ _ _ _ _ => pts_nil) (fun _ _ _ _ _ => (pe_call G__law_whole (hr.mono (by decide)) (by rfl) D__law_whole.g D__law_whole.F.kp D__law_whole.b .nil pass0 (pa_cons (pv 2) pa_nil)))) pa_nil)) (pe_one (pe_cmpR (op_eqDK (K := K) hr.units) (pe_callB (cr_sortedTIK (K := K)) (by rfl) Bi.sorted (by decide +kernel) (pa_cons (pv 0) pa_nil)) (pe_listRg rfl (by rfl) Bi.list (prg_1 (by rfl) Bi.range (pv 1))) (nomark _))))))), ?_⟩
  obtain ⟨⟨v, m⟩, ⟨v1, _, rfl, hv, v2, _, rfl, rfl, rfl⟩, ⟨⟨m0, m6⟩, hl⟩, q⟩ := h
  dsimp only at q hv m0 m6 hl
  refine' s_if (b := (!true) || !decide ((v.length : Int) = m)) ?t ?yes ?no
  case t =>
    have l1 : EvD (tCB (rLenS K) (tCons (tVar 0) tNil)) [some v1, some (V.int m), none] H (.int (v.map PyData.int).length) := evd_cb (evs_cons (evd_var rfl hv) evs_nil) cd_lenT
    rw [List.length_map] at l1
    refine' et_or (et_not (etB (evd_isi (evd_var rfl hv) (show kitB "tuple" "tuple" = some true by decide +kernel)))) fun _ => ett (evd_op l1 ?b rd_neI)
    case b => wtm_at "ev"
  case yes =>
    intro hb H1 e1
    have hn : ¬ isOrd m v := fun z => by
      have := z.len
      simp at hb
      omega
    rw [decide_eq_false hn] at q
    exact s_retD evd_bl fun u H2 e2 r => q u H2 (e1.trans e2) r
  case no =>
    intro hb H1 e1
    wtm_at "nx"
    have hv1 := hv.ex e1
    have ha : EvD (tCB (rAll K) (tCons (tLc (iTup K (tVar 0)) (gName 2) tYes (tCall sp__law_whole [] E0 (tCons (tVar 2) tNil)) [2]) tNil)) [some v1, some (V.int m), none] H1 (.bool ((v.map fun _ => true).all id)) := by
      refine evd_cb (evs_cons ?_ evs_nil) cd_all
      refine EvN.toD ?_
      have z : EvN (tLc (iTup K (tVar 0)) (gName 2) tYes (tCall sp__law_whole [] E0 (tCons (tVar 2) tNil)) [2]) [some v1, some (V.int m), none] H1 ((v.filter fun _ => true).map fun _ => PyData.bool true) := by
        refine' evn_lcT (f := PyData.int) (xs := v) (fun _ => true) (fun _ => .bool true) (evd_var rfl hv1) (by omega) ?turn fun _ _ _ => rfl
        intro x u H5 hx e5 r
        exact ⟨_, fun Q hq => hq, rfl, et_yes, fun _ => ev_whole (k := x) (evd_var rfl r)⟩
      rw [List.filter_eq_self.mpr (fun _ _ => rfl)] at z
      rw [List.map_map]
      exact z
    have hall : ((v.map fun _ => true).all id) = true := by simp
    rw [hall] at ha
    refine' s_retD (d := .bool (true && decide (isOrd m v))) (evd_and ha fun _ => evd_op (EvN.toD (evn_cb (evs_cons (evd_var rfl hv1) evs_nil) cn_sortTI)) (EvN.toD (evn_rng (n := m) ?n (by omega))) (rd_eqIL (a := srt v) (b := rgI 0 m.toNat))) fun u H2 e2 r => ?_
    case n => wtm_at "ev"
    rw [Bool.true_and] at r
    exact q u H2 (e1.trans e2) r
end
theorem ev_is_order {σ : L2.St} {H : Hp} {t1 t2 : TE} {E : XK} {v : List Int} {m : Int} (h1 : EvD t1 σ H (iD v)) (h2 : EvD t2 σ H (.int m)) (p : 0 ≤ m ∧ m ≤ 6) (l : v.length ≤ 1000) :
    EvD (tCall sp__law_is_order [] E (tCons t1 (tCons t2 tNil))) σ H (.bool (decide (isOrd m v))) := evd_callO (v, m) (evs_cons h1 (evs_cons h2 evs_nil)) ⟨p, l⟩ rfl
def sp__law_is_voters : Sp := spO (α := List (List Int) × Int) (fun a => [vD a.1, .int a.2]) (fun a => (0 ≤ a.2 ∧ a.2 ≤ 6) ∧ a.1.length ≤ 1000 ∧ ∀ v ∈ a.1, v.length ≤ 1000) fun a => .val (.bool (decide (isVot a.2 a.1)))
theorem len__law_is_voters (vs : List V) (H : Hp) (Q : VK) (E : XK) (h : sp__law_is_voters vs H Q E) : vs.length = 2 := by
  unfold sp__law_is_voters at h
  obtain ⟨a, r, _⟩ := h
  rw [r.len]
  rfl
section
variable {P : Program} {w : World} {K : PySem.W.Frag} {mg : Str → Option Value} {base : Heap}
theorem ok__law_is_voters {f : Addr} {fd : FuncData} (D : Df K mg "_law_is_voters" s__law_is_voters ["found", "many"] f fd) (Bi : Bi mg) {f__law_is_order : Addr} {fd__law_is_order : FuncData} (D__law_is_order : Df K mg "_law_is_order" s__law_is_order ["found", "many"] f__law_is_order fd__law_is_order) (G__law_is_order : FnOk P w K mg base CX0 2 f__law_is_order fd__law_is_order ["found", "many"] sp__law_is_order) : FnOk P w K mg base CX0 3 f fd ["found", "many"] sp__law_is_voters := by
  refine D.F.ok c__law_is_voters (fun vs H Q E h => len__law_is_voters _ _ _ _ h) (fun cdv A outer s H vs Q E hr h => ?_)
  refine ⟨_, (pss_cons (ps_if (pt_not (pt_val (pe_callB (call_isiK2 (K := K)) (by rfl) Bi.isinstance (by decide +kernel) (pa_cons (pv 0) (pa_cons (pe_bltn (v := .ty "list") (by rfl) Bi.list (by decide +kernel) rfl) pa_nil)))))
      (pss_one (ps_ret pe_bl))
      pss_nil)
      (pss_one (ps_ret (pe_cmpR op_eqI (pe_callB (cr_lenK (K := K)) (by rfl) Bi.len (by decide +kernel) (pa_cons (pe_lc (own := [("voter", 2)]) (g := (gName 2)) rfl c__law_is_voters.nd (pi_listK (K := K) (pv 0)) (blkOk_by (own := [("voter", 2)]) (N := ["found", "many", "voter"]) (sc := defScope s__law_is_voters) (by decide +kernel)) (fun _ _ _ _ _ => (pg_name (i := 2) c__law_is_voters.nd rfl (.inl rfl))) (fun _ _ _ _ _ => pts_one (pt_not (pt_val (pe_call G__law_is_order (hr.mono (by decide)) (by rfl) D__law_is_order.g D__law_is_order.F.kp D__law_is_order.b .nil pass0 (pa_cons (pv 2) (pa_cons (pv 1) pa_nil)))))) (fun _ _ _ _ _ => (pv 2))) pa_nil)) pe_int (nomark _))))), ?_⟩
  obtain ⟨⟨vss, m⟩, ⟨v1, _, rfl, hv, v2, _, rfl, rfl, rfl⟩, ⟨⟨m0, m6⟩, hl, hl2⟩, q⟩ := h
  dsimp only at q hv m0 m6 hl hl2
  refine' s_if (b := !true) ?t ?yes ?no
  case t => exact et_not (etB (evd_isi (evd_var rfl hv) (show kitB "list" "list" = some true by decide +kernel)))
  case yes => exact fun hb => absurd hb (by simp)
  case no =>
    intro _ H1 e1
    wtm_at "nx"
    have hv1 := hv.ex e1
    have z : EvD (tCB (rLenS K) (tCons (tLc (iList K (tVar 0)) (gName 2) (tNot (tB (tCall sp__law_is_order [] E0 (tCons (tVar 2) (tCons (tVar 1) tNil))))) (tVar 2) [2]) tNil)) [some v1, some (V.int m), none] H1 (.int ((vss.filter fun v => !decide (isOrd m v)).map iD).length) := by
      refine evd_cb (evs_cons ?_ evs_nil) cd_lenL
      refine EvN.toD ?_
      refine' evn_lcL (f := iD) (xs := vss) (fun v => !decide (isOrd m v)) iD (evd_var rfl hv1) (by omega) ?turn fun x _ _ => imm_iD x
      intro x u H5 hx e5 r
      refine' ⟨_, fun Q hq => hq, rfl, et_not (etB (ev_is_order (evd_var rfl r) ?b ⟨m0, m6⟩ (hl2 x hx))), fun _ => evd_var rfl r⟩
      case b => wtm_at "ev"
    rw [List.length_map] at z
    refine s_retD (d := .bool (decide (((vss.filter fun v => !decide (isOrd m v)).length : Int) = 0))) (evd_op z evd_int rd_eqI) fun u H2 e2 r => ?_
    have e : decide (((vss.filter fun v => !decide (isOrd m v)).length : Int) = 0) = decide (isVot m vss) := by
      refine decide_eq_decide.mpr ?_
      rw [show (((vss.filter fun v => !decide (isOrd m v)).length : Int) = 0) ↔ (vss.filter fun v => !decide (isOrd m v)).length = 0 by omega, List.length_eq_zero_iff, List.filter_eq_nil_iff]
      simp only [Bool.not_eq_true', decide_eq_false_iff_not, Classical.not_not]
      exact Iff.rfl
    rw [e] at r
    exact q u H2 (e1.trans e2) r
end
theorem ev_is_voters {σ : L2.St} {H : Hp} {t1 t2 : TE} {E : XK} {vss : List (List Int)} {m : Int} (h1 : EvD t1 σ H (vD vss)) (h2 : EvD t2 σ H (.int m)) (p : 0 ≤ m ∧ m ≤ 6) (l : vss.length ≤ 1000) (hv : isVot m vss) :
    EvD (tCall sp__law_is_voters [] E (tCons t1 (tCons t2 tNil))) σ H (.bool true) := evd_callO (vss, m) (evs_cons h1 (evs_cons h2 evs_nil)) ⟨p, l, fun v hm => by rw [(hv v hm).len]; omega⟩ (by show Out.val (.bool (decide (isVot m vss))) = _; rw [decide_eq_true hv])
end Bm

namespace Bm
open PySem PySem.Spec PyProof.Rows L2 Evl
local macro_rules | `(tactic| wtm_at "rp") => `(tactic| first | exact rp_int | exact rp_bl | exact rp_str | exact rp_non | assumption | (refine' Rp.ex ?e ?h; (case h => assumption); (case e => assumption)) | exact Own.rp (by assumption))
local macro_rules | `(tactic| wtm_at "side") => `(tactic| first | assumption | omega | decide | rfl | exact ⟨by omega, by omega⟩)
local macro_rules | `(tactic| wtm_at "es") => `(tactic| first | exact evs_nil | (refine' evs_cons ?a ?b; (case a => wtm_at "ev"); (case b => wtm_at "es")))
local macro_rules | `(tactic| wtm_at "ev") => `(tactic| first
  | exact evd_int | exact evd_str | exact evd_bl | exact evd_non
  | (refine' evd_var rfl ?h; (case h => wtm_at "rp"))
  | ((with_reducible refine' evd_op ?a ?b rd_addI); (case a => wtm_at "ev"); (case b => wtm_at "ev"))
  | ((with_reducible refine' evd_op ?a ?b rd_subI); (case a => wtm_at "ev"); (case b => wtm_at "ev"))
  | ((with_reducible refine' evd_op ?a ?b (rd_mulI ?c)); (case a => wtm_at "ev"); (case b => wtm_at "ev"); (case c => wtm_at "side"))
  | ((with_reducible refine' evd_op ?a ?b (rd_divI ?c)); (case a => wtm_at "ev"); (case b => wtm_at "ev"); (case c => wtm_at "side"))
  | ((with_reducible refine' evd_op ?a ?b (rd_modI ?c)); (case a => wtm_at "ev"); (case b => wtm_at "ev"); (case c => wtm_at "side"))
  | ((with_reducible refine' evd_op ?a ?b rd_ltI); (case a => wtm_at "ev"); (case b => wtm_at "ev"))
  | ((with_reducible refine' evd_op ?a ?b rd_leI); (case a => wtm_at "ev"); (case b => wtm_at "ev"))
  | ((with_reducible refine' evd_op ?a ?b rd_gtI); (case a => wtm_at "ev"); (case b => wtm_at "ev"))
  | ((with_reducible refine' evd_op ?a ?b rd_geI); (case a => wtm_at "ev"); (case b => wtm_at "ev"))
  | ((with_reducible refine' evd_op ?a ?b rd_eqI); (case a => wtm_at "ev"); (case b => wtm_at "ev"))
  | ((with_reducible refine' evd_op ?a ?b rd_neI); (case a => wtm_at "ev"); (case b => wtm_at "ev"))
  | ((with_reducible refine' evd_op ?a ?b rd_eqB); (case a => wtm_at "ev"); (case b => wtm_at "ev"))
  | ((with_reducible refine' evd_op ?a ?b rd_neB); (case a => wtm_at "ev"); (case b => wtm_at "ev"))
  | ((with_reducible refine' evd_op ?a ?b rd_isNo); (case a => wtm_at "ev"); (case b => wtm_at "ev"))
  | ((with_reducible refine' evd_op ?a ?b rd_notNo); (case a => wtm_at "ev"); (case b => wtm_at "ev"))
  | ((with_reducible refine' evd_op ?a ?b rd_inIL); (case a => wtm_at "ev"); (case b => wtm_at "ev"))
  | ((with_reducible refine' evd_op ?a ?b rd_niIL); (case a => wtm_at "ev"); (case b => wtm_at "ev"))
  | ((with_reducible refine' evd_op ?a ?b rd_inID); (case a => wtm_at "ev"); (case b => wtm_at "ev"))
  | ((with_reducible refine' evd_op ?a ?b rd_niID); (case a => wtm_at "ev"); (case b => wtm_at "ev"))
  | ((with_reducible refine' evd_neg ?a); (case a => wtm_at "ev"))
  | ((with_reducible refine' evd_tix ?a ?b ?c); (case a => wtm_at "ev"); (case b => wtm_at "ev"); (case c => wtm_at "side"))
  | ((with_reducible refine' evd_tup ?a ?b); (case a => wtm_at "es"); (case b => exact Nat.le_of_ble_eq_true rfl))
  | ((with_reducible refine' evd_cb ?a cd_lenL); (case a => wtm_at "es"))
  | ((with_reducible refine' evd_cb ?a cd_lenT); (case a => wtm_at "es"))
  | ((with_reducible refine' evd_cb ?a cd_intB); (case a => wtm_at "es"))
  | ((with_reducible refine' evd_cb ?a cd_tupL); (case a => wtm_at "es"))
  | ((with_reducible refine' evd_and ?a ?b); (case a => wtm_at "ev"); (case b => intro _; wtm_at "ev"))
  | ((with_reducible refine' evd_or ?a ?b); (case a => wtm_at "ev"); (case b => intro _; wtm_at "ev"))
  | ((with_reducible refine' evd_not ?a); (case a => wtm_at "ev"))
  | ((with_reducible refine' evd_op ?a ?b rd_neIL); (case a => wtm_at "ev"); (case b => wtm_at "ev"))
  | ((with_reducible refine' evd_op ?a ?b rd_eqIL); (case a => wtm_at "ev"); (case b => wtm_at "ev"))
  | ((with_reducible refine' EvN.toD ?a); (case a => wtm_at "en")))
local macro_rules | `(tactic| wtm_at "en") => `(tactic| first
  | ((with_reducible refine' evn_cb ?a cn_sortTI); (case a => wtm_at "es"))
  | ((with_reducible refine' evn_cb ?a cn_listL); (case a => wtm_at "es"))
  | ((with_reducible refine' evn_cb ?a cn_listT); (case a => wtm_at "es"))
  | ((with_reducible refine' evn_rng ?a ?b); (case a => wtm_at "ev"); (case b => wtm_at "side"))
  | ((with_reducible refine' evn_lst ?a ?b); (case a => wtm_at "es"); (case b => exact Nat.le_of_ble_eq_true rfl))
  | ((with_reducible refine' evn_cat ?a ?b ?c); (case a => wtm_at "ev"); (case b => wtm_at "ev"); (case c => wtm_at "side"))
  | ((with_reducible refine' evn_slL ?a ?b ?c); (case a => wtm_at "ev"); (case b => first | exact evp_none | (refine' evp_some ?d; (case d => wtm_at "ev"))); (case c => first | exact evp_none | (refine' evp_some ?d; (case d => wtm_at "ev")))))
local macro_rules | `(tactic| wtm_at "et") => `(tactic| first
  | exact et_yes
  | (refine' ett ?a; (case a => wtm_at "ev"))
  | (refine' etB ?a; (case a => wtm_at "ev"))
  | (refine' et_and ?a ?b; (case a => wtm_at "et"); (case b => intro _; wtm_at "et"))
  | (refine' et_or ?a ?b; (case a => wtm_at "et"); (case b => intro _; wtm_at "et"))
  | (refine' et_not ?a; (case a => wtm_at "et")))
local macro_rules | `(tactic| wtm_at "nx") => `(tactic| try dsimp only [tSeq, tNext])
theorem many6 (c : Int) : 1 ≤ 1 + c % 6 ∧ 1 + c % 6 ≤ 6 := by omega
def sp_law (K : PySem.W.Frag) : Sp := fun vs H Q _ => ∃ (a : Addr) (ns : List Int), vs = [.ref a] ∧ SqL K H a (ns.map V.int) ∧ ns.length ≤ 63 ∧ ∀ H2, Q (.bl true) H2
theorem len_law {K : PySem.W.Frag} (vs : List V) (H : Hp) (Q : VK) (E : XK) (h : sp_law K vs H Q E) : vs.length = 1 := by
  obtain ⟨a, ns, rfl, _⟩ := h
  rfl
section
variable {P : Program} {w : World} {K : PySem.W.Frag} {mg : Str → Option Value} {base : Heap}
theorem ok_law {f : Addr} {fd : FuncData} (D : Df K mg "law" s_law ["script"] f fd) (Bi : Bi mg) {f__law_cell_at : Addr} {fd__law_cell_at : FuncData} (D__law_cell_at : Df K mg "_law_cell_at" s__law_cell_at ["script", "k"] f__law_cell_at fd__law_cell_at) (G__law_cell_at : FnOk P w K mg base CX0 1 f__law_cell_at fd__law_cell_at ["script", "k"] (sp__law_cell_at K)) {f__law_web : Addr} {fd__law_web : FuncData} (D__law_web : Df K mg "_law_web" s__law_web ["script", "start", "many"] f__law_web fd__law_web) (G__law_web : FnOk P w K mg base CX0 2 f__law_web fd__law_web ["script", "start", "many"] (sp__law_web K)) {f_makers : Addr} {fd_makers : FuncData} (D_makers : Df K mg "makers" s_makers ["many", "web"] f_makers fd_makers) (G_makers : FnOk P w K mg base (L2.CX P w) 3 f_makers fd_makers ["many", "web"] (sp_makers C_BadCount C_BadWeb)) {f__law_is_voters : Addr} {fd__law_is_voters : FuncData} (D__law_is_voters : Df K mg "_law_is_voters" s__law_is_voters ["found", "many"] f__law_is_voters fd__law_is_voters) (G__law_is_voters : FnOk P w K mg base CX0 3 f__law_is_voters fd__law_is_voters ["found", "many"] sp__law_is_voters) {f__law_beats : Addr} {fd__law_beats : FuncData} (D__law_beats : Df K mg "_law_beats" s__law_beats ["many", "voters"] f__law_beats fd__law_beats) (G__law_beats : FnOk P w K mg base CX0 2 f__law_beats fd__law_beats ["many", "voters"] sp__law_beats) {f_web_of : Addr} {fd_web_of : FuncData} (D_web_of : Df K mg "web_of" s_web_of ["many", "voters"] f_web_of fd_web_of) (G_web_of : FnOk P w K mg base (L2.CX P w) 3 f_web_of fd_web_of ["many", "voters"] (sp_web_of C_BadCount C_BadVoter)) {f_makes : Addr} {fd_makes : FuncData} (D_makes : Df K mg "makes" s_makes ["many", "voters", "web"] f_makes fd_makes) (G_makes : FnOk P w K mg base (L2.CX P w) 4 f_makes fd_makes ["many", "voters", "web"] (sp_makes C_BadCount C_BadVoter C_BadWeb)) {f__law_voters : Addr} {fd__law_voters : FuncData} (D__law_voters : Df K mg "_law_voters" s__law_voters ["script", "start", "many", "most"] f__law_voters fd__law_voters) (G__law_voters : FnOk P w K mg base CX0 2 f__law_voters fd__law_voters ["script", "start", "many", "most"] (sp__law_voters K)) : FnOk P w K mg base CX0 5 f fd ["script"] (sp_law K) := by
  refine D.F.ok c_law (fun vs H Q E h => len_law _ _ _ _ h) (fun cdv A outer s H vs Q E hr h => ?_)
  refine ⟨_, (pss_cons (ps_set (i := 1) c_law.nd rfl (.inl rfl) (pe_op op_addI pe_int (pe_op op_modI (pe_call G__law_cell_at (hr.mono (by decide)) (by rfl) D__law_cell_at.g D__law_cell_at.F.kp D__law_cell_at.b .nil pass0 (pa_cons (pv 0) (pa_cons pe_int pa_nil))) pe_int)))
      (pss_cons (ps_set (i := 2) c_law.nd rfl (.inl rfl) (pe_call G__law_web (hr.mono (by decide)) (by rfl) D__law_web.g D__law_web.F.kp D__law_web.b .nil pass0 (pa_cons (pv 0) (pa_cons pe_int (pa_cons (pv 1) pa_nil)))))
      (pss_cons (ps_set (i := 3) c_law.nd rfl (.inl rfl) (pe_lst pa_nil))
      (pss_cons (ps_for (PassesOwn.never) rfl (pi_listK (K := K) (pv 2)) (pg_tupK (K := K) rfl (pgs_cons (pg_name (i := 4) c_law.nd rfl (.inr rfl)) (pgs_cons (pg_name (i := 5) c_law.nd rfl (.inr rfl)) pgs_nil)))
      (pss_cons (ps_set (i := 6) c_law.nd rfl (.inl rfl) (pe_callTy (cr_tupLK (K := K)) (by rfl) Bi.tuple (by decide +kernel) (pa_cons (pe_lc (own := [("thing", 14)]) (g := (gName 14)) rfl c_law.nd (pi_range1 (by rfl) Bi.range (pa_cons (pv 1) pa_nil)) (blkOk_by (own := [("thing", 14)]) (N := ["script", "many", "web", "due", "one", "other", "rest", "handed", "turn", "found", "voters", "some", "copies", "answer", "thing"]) (sc := defScope s_law) (by decide +kernel)) (fun _ _ _ _ _ => (pg_name (i := 14) c_law.nd rfl (.inl rfl))) (fun _ _ _ _ _ => pts_one (PW.pt (pw_and (pt_cmpR op_neI (pv 14) (pv 4) (nomark _)) (pw_and1 (pt_cmpR op_neI (pv 14) (pv 5) (nomark _)))))) (fun _ _ _ _ _ => (pv 14))) pa_nil)))
      (pss_one (ps_set (i := 3) c_law.nd rfl (.inl rfl) (pe_op op_cat (pv 3) (pe_lst (pa_cons (pe_op (op_catFK (K := K)) (pe_tupF (pa_cons (pv 4) (pa_cons (pv 5) pa_nil))) (pv 6)) (pa_cons (pe_op (op_catFK (K := K)) (pe_tupRevF rfl (by rfl) Bi.tuple (by rfl) Bi.reversed (pv 6)) (pe_tupF (pa_cons (pv 4) (pa_cons (pv 5) pa_nil)))) pa_nil))))))))
      (pss_cons (ps_set (i := 7) c_law.nd rfl (.inl rfl) (pe_callTy (cr_listK (K := K)) (by rfl) Bi.list (by decide +kernel) (pa_cons (pv 2) pa_nil)))
      (pss_cons (ps_for (PassesOwn.never) rfl (pi_range1 (by rfl) Bi.range (pa_cons pe_int pa_nil)) (pg_name (i := 8) c_law.nd rfl (.inl rfl))
      (pss_cons (ps_set (i := 9) c_law.nd rfl (.inl rfl) (pe_call G_makers (hr.mono (by decide)) (by rfl) D_makers.g D_makers.F.kp D_makers.b .nil passL (pa_cons (pv 1) (pa_cons (pv 7) pa_nil))))
      (pss_cons (ps_if (PW.pt (pw_or (pt_not (pt_val (pe_call G__law_is_voters (hr.mono (by decide)) (by rfl) D__law_is_voters.g D__law_is_voters.F.kp D__law_is_voters.b .nil pass0 (pa_cons (pv 9) (pa_cons (pv 1) pa_nil))))) (pw_or (pt_cmpR (op_neDK (K := K) hr.units) (pv 9) (pv 3) (nomark _)) (pw_or1 (pt_cmpR (op_neDK (K := K) hr.units) (pv 7) (pv 2) (nomark _))))))
      (pss_one (ps_ret pe_bl))
      pss_nil)
      (pss_one (ps_expr (pe_bm PySem.F.plainAttrs_list PySem.F.slot_list_append PySem.F.type_list_append mt_append (pv 9) (pa_cons (pe_tupF pa_nil) pa_nil)))))))
      (pss_cons (ps_if (PW.pt (pw_or (pt_cmpR (op_neDK (K := K) hr.units) (pe_callB (cr_sortedWK (K := K)) (by rfl) Bi.sorted (by decide +kernel) (pa_cons (pv 2) pa_nil)) (pe_call G__law_beats (hr.mono (by decide)) (by rfl) D__law_beats.g D__law_beats.F.kp D__law_beats.b .nil pass0 (pa_cons (pv 1) (pa_cons (pv 3) pa_nil))) (nomark _)) (pw_or1 (pt_cmpR (op_neDK (K := K) hr.units) (pe_call G_web_of (hr.mono (by decide)) (by rfl) D_web_of.g D_web_of.F.kp D_web_of.b .nil passL (pa_cons (pv 1) (pa_cons (pe_callTy (cr_listK (K := K)) (by rfl) Bi.list (by decide +kernel) (pa_cons (pv 3) pa_nil)) pa_nil))) (pe_callB (cr_sortedWK (K := K)) (by rfl) Bi.sorted (by decide +kernel) (pa_cons (pv 2) pa_nil)) (nomark _)))))
      (pss_one (ps_ret pe_bl))
      pss_nil)
      (pss_cons (ps_if (PW.pt (pw_or (pt_cmpR op_notBl (pe_call G_makes (hr.mono (by decide)) (by rfl) D_makes.g D_makes.F.kp D_makes.b .nil passL (pa_cons (pv 1) (pa_cons (pe_callTy (cr_listK (K := K)) (by rfl) Bi.list (by decide +kernel) (pa_cons (pv 3) pa_nil)) (pa_cons (pv 7) pa_nil)))) pe_bl (nomark _)) (pw_or1 (pt_cmpR (op_neDK (K := K) hr.units) (pv 7) (pv 2) (nomark _)))))
      (pss_one (ps_ret pe_bl))
      pss_nil)
      (pss_cons (ps_set (i := 10) c_law.nd rfl (.inl rfl) (pe_call G__law_voters (hr.mono (by decide)) (by rfl) D__law_voters.g D__law_voters.F.kp D__law_voters.b .nil pass0 (pa_cons (pv 0) (pa_cons pe_int (pa_cons (pv 1) (pa_cons pe_int pa_nil))))))
      (pss_cons (ps_for (PassesOwn.never) rfl (pi_listK (K := K) (pe_lst (pa_cons (pv 2) (pa_cons (pe_call G__law_beats (hr.mono (by decide)) (by rfl) D__law_beats.g D__law_beats.F.kp D__law_beats.b .nil pass0 (pa_cons (pv 1) (pa_cons (pv 10) pa_nil))) pa_nil)))) (pg_name (i := 11) c_law.nd rfl (.inl rfl))
      (pss_cons (ps_set (i := 12) c_law.nd rfl (.inl rfl) (pe_lst (pa_cons (pe_callTy (cr_listK (K := K)) (by rfl) Bi.list (by decide +kernel) (pa_cons (pv 10) pa_nil)) (pa_cons (pe_callTy (cr_listK (K := K)) (by rfl) Bi.list (by decide +kernel) (pa_cons (pv 11) pa_nil)) pa_nil))))
      (pss_cons (ps_set (i := 13) c_law.nd rfl (.inl rfl) (pe_call G_makes (hr.mono (by decide)) (by rfl) D_makes.g D_makes.F.kp D_makes.b .nil passL (pa_cons (pv 1) (pa_cons (pe_ix (ix_listK (K := K)) (pv 12) pe_int (fun _ _ => rfl)) (pa_cons (pe_ix (ix_listK (K := K)) (pv 12) pe_int (fun _ _ => rfl)) pa_nil)))))
      (pss_cons (ps_if (PW.pt (pw_or (pt_not (pt_val (pe_callB (call_isiK2 (K := K)) (by rfl) Bi.isinstance (by decide +kernel) (pa_cons (pv 13) (pa_cons (pe_bltn (v := .ty "bool") (by rfl) Bi.bool (by decide +kernel) rfl) pa_nil))))) (pw_or1 (pt_cmpR op_neB (pv 13) (pe_cmpR (op_eqDK (K := K) hr.units) (pe_call G__law_beats (hr.mono (by decide)) (by rfl) D__law_beats.g D__law_beats.F.kp D__law_beats.b .nil pass0 (pa_cons (pv 1) (pa_cons (pv 10) pa_nil))) (pe_callB (cr_sortedWK (K := K)) (by rfl) Bi.sorted (by decide +kernel) (pa_cons (pv 11) pa_nil)) (nomark _)) (nomark _)))))
      (pss_one (ps_ret pe_bl))
      pss_nil)
      (pss_one (ps_if (pt_cmpR (op_neDK (K := K) hr.units) (pv 12) (pe_lst (pa_cons (pv 10) (pa_cons (pv 11) pa_nil))) (nomark _))
      (pss_one (ps_ret pe_bl))
      pss_nil))))))
      (pss_one (ps_ret pe_bl)))))))))))), ?_⟩
  obtain ⟨sa, ns, rfl, hs, hlen, q⟩ := h
  have hm := many6 (cellF ns 0)
  refine' s_asgI (n := 1 + cellF ns 0 % 6) (evd_op evd_int (evd_op (ev_cell hs rfl evd_int (by decide)) evd_int (rd_modI (by decide))) rd_addI) fun H1 e1 => ?_
  wtm_at "nx"
  generalize 1 + cellF ns 0 % 6 = m at hm
  have hm6 : 0 ≤ m ∧ m ≤ 6 := by omega
  have hs1 := ex_l e1 hs
  have hweb := lawWeb_web ns 1 m
  have hwl := lawWeb_len ns 1 hm6
  refine' s_asgNw (ev_lweb (start := 1) (m := m) hs1 rfl evd_int ?a (by decide) hm6) fun p1 vs1 H2 n1 e2 k1 k2 => ?_
  case a => wtm_at "ev"
  wtm_at "nx"
  generalize hps : lawWeb ns 1 m = ps at hweb hwl k2
  have hs2 := ex_l e2 hs1
  have hw : Rp H2 (wD ps) (.ref p1) := ⟨p1, vs1, rfl, k1, k2⟩
  have hgood := (isWeb_set.mp hweb).1
  refine' s_asgNw (ds := []) (evn_lst evs_nil (by decide)) fun p2 vs2 H3 n2 e3 g1 g2 => ?_
  wtm_at "nx"
  have hw3 := hw.ex e3
  have hs3 := ex_l e3 hs2
  have hd0 : Rp H3 (vD []) (.ref p2) := ⟨p2, vs2, rfl, g1, g2⟩
  refine s_forD (f := pD) (xs := ps) (evd_var rfl hw3) fun H4 e4 => ⟨fun i σ' H' => (∃ y a b r, σ' = [some (.ref sa), some (.int m), some (.ref p1), some y, a, b, r, none, none, none, none, none, none, none, none] ∧ Rp H' (vD (dueF m (ps.take i))) y) ∧ Ex H4 H', ?_, ?_, ?_, ?_⟩
  · exact ⟨⟨_, none, none, none, rfl, hd0.ex e4⟩, Ex.refl _⟩
  · rintro i σ' H' ⟨_, e⟩
    exact e
  · rintro i x v σ' H' hx hr ⟨⟨y, a, b, r, rfl, hy⟩, e⟩
    refine g_pair hr ?_
    have hi : i < ps.length := (List.getElem?_eq_some_iff.mp hx).1
    have hrl := restF_len m x.1 x.2
    refine' s_asgD (d := iD (restF m x.1 x.2)) (evd_cb (evs_cons (EvN.toD (ds := (restF m x.1 x.2).map .int) ?x) evs_nil) cd_tupL) fun vr H5 e5 r5 => ?_
    case x =>
      unfold restF
      refine' evn_lcR (n := m) (fun t => !decide (t = x.1) && !decide (t = x.2)) (fun t => .int t) ?es (by omega) ?turn ?imm
      case es => wtm_at "es"
      case imm => intros; rfl
      case turn =>
        intro x H5 x0 x1 e5
        refine ⟨_, fun Q hq => hq, rfl, ?_, fun _ => ?_⟩
        · wtm_at "et"
        · wtm_at "ev"
    wtm_at "nx"
    have hy5 := hy.ex e5
    refine' s_asgD (d := vD (dueF m (ps.take (i + 1)))) ((EvN.toD (evn_cat (ds := (dueF m (ps.take i)).map iD) (es := [.tuple ([.int x.1, .int x.2] ++ (restF m x.1 x.2).map .int), .tuple (((restF m x.1 x.2).map .int).reverse ++ [.int x.1, .int x.2])]) (evd_var rfl hy5)
      (EvN.toD (evn_lst (evs_cons (evd_catT ?a (evd_var rfl r5) ?c) (evs_cons (evd_catT (evd_revT (evd_var rfl r5) ?d) ?e ?f) evs_nil)) (Nat.le_of_ble_eq_true rfl))) ?g)).is ?h) fun y2 H6 e6 r6 => ?_
    case a => wtm_at "ev"
    case e => wtm_at "ev"
    case c =>
      rw [List.length_map]
      show 2 + _ ≤ _
      omega
    case d =>
      rw [List.length_map]
      omega
    case f =>
      rw [List.length_reverse, List.length_map]
      show _ + 2 ≤ _
      omega
    case g =>
      rw [List.length_map, dueF_len, List.length_take]
      show _ + 2 ≤ _
      omega
    case h =>
      rw [dueF_take hx, vD, List.map_append]
      unfold twoF iD
      simp
    exact ⟨⟨_, _, _, _, rfl, r6⟩, (e.trans e5).trans e6⟩
  · rintro σ' H' ⟨⟨y, a, b, r, rfl, hy⟩, e⟩
    rw [List.take_length] at hy
    wtm_at "nx"
    have hw' := hw3.ex (e4.trans e)
    have hs' := ex_l (e4.trans e) hs3
    have hdl : (dueF m ps).length ≤ 30 := by
      rw [dueF_len]
      omega
    have hdv : isVot m (dueF m ps) := dueF_ok hm hgood
    have hbe : beatsF m (dueF m ps) = srtW ps := due_beats hm hweb
    refine' s_asgNw (ds := ps.map pD) ?x fun p7 vs7 H7 n7 e7 g1 g2 => ?_
    case x => exact evn_cb (evs_cons (evd_var rfl hw') evs_nil) cn_listL
    wtm_at "nx"
    have hw7 := hw'.ex e7
    have hs7 := ex_l e7 hs'
    have hy7 := hy.ex e7
    have hh7 : Rp H7 (wD ps) (.ref p7) := ⟨p7, vs7, rfl, g1, g2⟩
    refine' s_forR (n := 2) ?n (by omega) fun H8 e8 => ⟨fun i σ' H' => (∃ t u, σ' = [some (.ref sa), some (.int m), some (.ref p1), some y, a, b, r, some (.ref p7), t, u, none, none, none, none, none]) ∧ Ex H7 H', ?_, ?_, ?_⟩
    case n => wtm_at "es"
    · exact ⟨⟨_, _, rfl⟩, e8⟩
    · rintro i σ' H' hi ⟨⟨t, u, rfl⟩, e⟩
      refine g_name ?_
      refine' s_asgO (ds := (dueF m ps).map iD) (ev_makers (m := m) (ps := ps) ?a (evd_var rfl (hh7.ex e)) hm hweb (by omega)) (imm_vD _) fun p9 H9 e9 o9 => ?_
      case a => wtm_at "ev"
      wtm_at "nx"
      have e79 := e.trans e9
      refine' s_if (b := (!true) || ((!decide (dueF m ps = dueF m ps)) || (!decide (ps = ps)))) ?t ?yes ?no
      case t =>
        refine' et_or (et_not (etB (ev_is_voters (evd_var rfl o9.rp) ?a hm6 (by omega) hdv))) fun _ => et_or (ett (evd_op (evd_var rfl o9.rp) (evd_var rfl (hy7.ex e79)) rd_neV)) fun _ => ett (evd_op (evd_var rfl (hh7.ex e79)) (evd_var rfl (hw7.ex e79)) rd_neW)
        case a => wtm_at "ev"
      case yes => exact fun hb => absurd hb (by simp)
      case no =>
        intro _ H10 e10
        wtm_at "nx"
        refine s_appO (d := .tuple []) (o9.step e10) rfl (evd_tup evs_nil (Nat.zero_le _)) rfl (by rw [List.length_map]; omega) fun H11 x11 o11 => ?_
        exact ⟨⟨_, _, rfl⟩, e.trans o11.ex⟩
    · rintro σ' H' ⟨⟨t, u, rfl⟩, e⟩
      wtm_at "nx"
      have hwx := hw7.ex e
      have hyx := hy7.ex e
      have hhx := hh7.ex e
      have hsx := ex_l e hs7
      -- their web
      refine' s_if (b := (!decide (srtW ps = beatsF m (dueF m ps))) || (!decide (beatsF m (dueF m ps) = srtW ps))) ?t ?yes ?no
      case t =>
        refine' et_or (ett (evd_op (EvN.toD (evn_cb (evs_cons (evd_var rfl hwx) evs_nil) (cn_sortW (by omega) (hweb.bd hm.2)))) (EvN.toD (ev_lbeats ?a (evd_var rfl hyx) hm6 (by omega) hdv)) rd_neW)) fun _ => ett (evd_op (EvN.toD (ev_web_of ?b (EvN.toD (evn_cb (evs_cons (evd_var rfl hyx) evs_nil) cn_listL)) hm hdv)) (EvN.toD (evn_cb (evs_cons (evd_var rfl hwx) evs_nil) (cn_sortW (by omega) (hweb.bd hm.2)))) rd_neW)
        case a => wtm_at "ev"
        case b => wtm_at "ev"
      case yes => exact fun hb => absurd hb (by simp [hbe])
      case no =>
        intro _ H8 e8
        wtm_at "nx"
        have hwx := hwx.ex e8
        have hyx := hyx.ex e8
        have hhx := hhx.ex e8
        have hsx := ex_l e8 hsx
        have hmk : makeF m (dueF m ps) ps = true := by
          unfold makeF
          rw [hbe]
          simp
        refine' s_if (b := (!decide (true = true)) || (!decide (ps = ps))) ?t ?yes ?no
        case t =>
          refine' et_or (ett (evd_op ((ev_makes (m := m) (vss := dueF m ps) (ps := ps) ?a (EvN.toD (evn_cb (evs_cons (evd_var rfl hyx) evs_nil) cn_listL)) (evd_var rfl hhx) hm hdv hweb (by omega)).is (by rw [hmk])) evd_bl rd_notB)) fun _ => ett (evd_op (evd_var rfl hhx) (evd_var rfl hwx) rd_neW)
          case a => wtm_at "ev"
        case yes => exact fun hb => absurd hb (by simp)
        case no =>
          intro _ H9 e9
          wtm_at "nx"
          have hwx := hwx.ex e9
          have hsx := ex_l e9 hsx
          have hvot := lawVot_ok ns 4 m 9
          have hvl := lawVot_len ns 4 m (most := 9) (by omega)
          refine' s_asgNw (ev_voters (start := 4) (m := m) (most := 9) hsx rfl evd_int ?a evd_int (by decide) hm6 (by omega)) fun p10 vs10 H10 n10 e10 k1 k2 => ?_
          case a => wtm_at "ev"
          wtm_at "nx"
          generalize hvss : lawVot ns 4 m 9 = vss at hvot hvl k2
          have hv : Rp H10 (vD vss) (.ref p10) := ⟨p10, vs10, rfl, k1, k2⟩
          have hwx := hwx.ex e10
          have hbl := beatsF_len hm6 vss
          have hbw := beatsF_web hm6 hvot
          refine' s_forD (f := wD) (xs := [ps, beatsF m vss]) (EvN.toD (evn_lst (evs_cons (evd_var rfl hwx) (evs_cons (EvN.toD (ev_lbeats ?a (evd_var rfl hv) hm6 (by omega) hvot)) evs_nil)) (Nat.le_of_ble_eq_true rfl))) fun H11 e11 => ⟨fun i σ' H' => (∃ z1 z2 z3, σ' = [some (.ref sa), some (.int m), some (.ref p1), some y, a, b, r, some (.ref p7), t, u, some (.ref p10), z1, z2, z3, none]) ∧ Ex H11 H', ?_, ?_, ?_, ?_⟩
          case a => wtm_at "ev"
          · exact ⟨⟨_, _, _, rfl⟩, Ex.refl _⟩
          · rintro i σ' H' ⟨_, e⟩
            exact e
          · rintro i x v σ' H' hx hr ⟨⟨z1, z2, z3, rfl⟩, e⟩
            refine g_name ?_
            have hxx : isWeb m x ∧ x.length < 64 := by
              have := List.mem_of_getElem? hx
              simp only [List.mem_cons, List.not_mem_nil, or_false] at this
              rcases this with rfl | rfl
              · exact ⟨hweb, by omega⟩
              · exact ⟨hbw, by omega⟩
            have hv' := hv.ex (e11.trans e)
            refine' s_asgD (d := .list [vD vss, wD x]) (EvN.toD (evn_lst (evs_cons (EvN.toD (evn_cb (evs_cons (evd_var rfl hv') evs_nil) cn_listL)) (evs_cons (EvN.toD (evn_cb (evs_cons (evd_var rfl hr) evs_nil) cn_listL)) evs_nil)) (Nat.le_of_ble_eq_true rfl))) fun vc H12 e12 hc => ?_
            wtm_at "nx"
            refine' s_asgB (b := makeF m vss x) (ev_makes (m := m) (vss := vss) (ps := x) ?a (evd_op (evd_var rfl hc) evd_int (rd_ixL (atI_nat (j := 0) rfl))) (evd_op (evd_var rfl hc) evd_int (rd_ixL (atI_nat (j := 1) rfl))) hm hvot hxx.1 hxx.2) fun H13 e13 => ?_
            case a => wtm_at "ev"
            wtm_at "nx"
            have e1213 := e12.trans e13
            refine' s_if (b := (!true) || (!decide (makeF m vss x = decide (beatsF m vss = srtW x)))) ?t ?yes ?no
            case t =>
              refine' et_or (et_not (etB (evd_isi (evd_var rfl rp_bl) (show kitB "bool" "bool" = some true by decide +kernel)))) fun _ => ett (evd_op (evd_var rfl rp_bl) (evd_op (EvN.toD (ev_lbeats ?a (evd_var rfl (hv'.ex e1213)) hm6 (by omega) hvot)) (EvN.toD (evn_cb (evs_cons (evd_var rfl (hr.ex e1213)) evs_nil) (cn_sortW hxx.2 (hxx.1.bd hm.2)))) rd_eqW) rd_neB)
              case a => wtm_at "ev"
            case yes => exact fun hb => absurd hb (by simp [makeF])
            case no =>
              intro _ H14 e14
              wtm_at "nx"
              have e124 := e1213.trans e14
              have hcmp : Cmp 3 (.list [vD vss, wD x]) := Cmp.lst (n := 2) fun d hd => by
                rcases List.mem_cons.mp hd with rfl | hd
                · exact cmp_vD vss
                · rw [List.mem_singleton.mp hd]
                  exact cmp_wD x
              refine' s_if (b := !decide True) ?t ?yes ?no
              case t => exact ett (evd_op (evd_var rfl (hc.ex (e13.trans e14))) (EvN.toD (evn_lst (evs_cons (evd_var rfl (hv'.ex e124)) (evs_cons (evd_var rfl (hr.ex e124)) evs_nil)) (Nat.le_of_ble_eq_true rfl))) (rd_neD hcmp hcmp ⟨fun _ => trivial, fun _ => rfl⟩))
              case yes => exact fun hb => absurd hb (by simp)
              case no =>
                intro _ H15 e15
                exact ⟨⟨_, _, _, rfl⟩, e.trans (e124.trans e15)⟩
          · rintro σ' H' ⟨⟨z1, z2, z3, rfl⟩, e⟩
            wtm_at "nx"
            exact s_retD evd_bl fun v H7 e7 r => by
              obtain rfl : v = .bl true := r
              exact q H7
end
end Bm

namespace Bm
open PySem PySem.Spec PyProof.Rows L2 Evl
/-! ### the end -/
theorem all_mk {l : PySem.W.OpenLaw} {w : World} {K : PySem.W.Frag} {h : Heap} {mg : Str → Option Value} {fa : Addr} (X : K.In h) (G : h.Ns mainGlobals mg) (hfa : mg "law" = some (.ref fa))
    {f__law_cell_at : Addr} {od__law_cell_at an__law_cell_at : Option Addr} {sl__law_cell_at : Array (Option Value)} {oc__law_cell_at kV__law_cell_at dc__law_cell_at pm__law_cell_at cd__law_cell_at ct__law_cell_at : Value}
    (a__law_cell_at : PySem.W.nsIn K mainGlobals "_law_cell_at" = some (some (.ref f__law_cell_at))) (l__law_cell_at : K.lookup f__law_cell_at = some ⟨oc__law_cell_at, od__law_cell_at, .func (PySem.W.fnOf "_law_cell_at" "_law_cell_at" (defArgs s__law_cell_at) (defBody s__law_cell_at) (defScope s__law_cell_at) .none kV__law_cell_at dc__law_cell_at pm__law_cell_at an__law_cell_at cd__law_cell_at ct__law_cell_at), sl__law_cell_at⟩) (c__law_cell_at : PySem.W.codeIn K cd__law_cell_at "_law_cell_at" = true) (k__law_cell_at : PySem.W.keepIn K (.ref f__law_cell_at) = true)
    {f__law_order : Addr} {od__law_order an__law_order : Option Addr} {sl__law_order : Array (Option Value)} {oc__law_order kV__law_order dc__law_order pm__law_order cd__law_order ct__law_order : Value}
    (a__law_order : PySem.W.nsIn K mainGlobals "_law_order" = some (some (.ref f__law_order))) (l__law_order : K.lookup f__law_order = some ⟨oc__law_order, od__law_order, .func (PySem.W.fnOf "_law_order" "_law_order" (defArgs s__law_order) (defBody s__law_order) (defScope s__law_order) .none kV__law_order dc__law_order pm__law_order an__law_order cd__law_order ct__law_order), sl__law_order⟩) (c__law_order : PySem.W.codeIn K cd__law_order "_law_order" = true) (k__law_order : PySem.W.keepIn K (.ref f__law_order) = true)
    {f__law_web : Addr} {od__law_web an__law_web : Option Addr} {sl__law_web : Array (Option Value)} {oc__law_web kV__law_web dc__law_web pm__law_web cd__law_web ct__law_web : Value}
    (a__law_web : PySem.W.nsIn K mainGlobals "_law_web" = some (some (.ref f__law_web))) (l__law_web : K.lookup f__law_web = some ⟨oc__law_web, od__law_web, .func (PySem.W.fnOf "_law_web" "_law_web" (defArgs s__law_web) (defBody s__law_web) (defScope s__law_web) .none kV__law_web dc__law_web pm__law_web an__law_web cd__law_web ct__law_web), sl__law_web⟩) (c__law_web : PySem.W.codeIn K cd__law_web "_law_web" = true) (k__law_web : PySem.W.keepIn K (.ref f__law_web) = true)
    {f_look_at_count : Addr} {od_look_at_count an_look_at_count : Option Addr} {sl_look_at_count : Array (Option Value)} {oc_look_at_count kV_look_at_count dc_look_at_count pm_look_at_count cd_look_at_count ct_look_at_count : Value}
    (a_look_at_count : PySem.W.nsIn K mainGlobals "look_at_count" = some (some (.ref f_look_at_count))) (l_look_at_count : K.lookup f_look_at_count = some ⟨oc_look_at_count, od_look_at_count, .func (PySem.W.fnOf "look_at_count" "look_at_count" (defArgs s_look_at_count) (defBody s_look_at_count) (defScope s_look_at_count) .none kV_look_at_count dc_look_at_count pm_look_at_count an_look_at_count cd_look_at_count ct_look_at_count), sl_look_at_count⟩) (c_look_at_count : PySem.W.codeIn K cd_look_at_count "look_at_count" = true) (k_look_at_count : PySem.W.keepIn K (.ref f_look_at_count) = true)
    {f_look_at_web : Addr} {od_look_at_web an_look_at_web : Option Addr} {sl_look_at_web : Array (Option Value)} {oc_look_at_web kV_look_at_web dc_look_at_web pm_look_at_web cd_look_at_web ct_look_at_web : Value}
    (a_look_at_web : PySem.W.nsIn K mainGlobals "look_at_web" = some (some (.ref f_look_at_web))) (l_look_at_web : K.lookup f_look_at_web = some ⟨oc_look_at_web, od_look_at_web, .func (PySem.W.fnOf "look_at_web" "look_at_web" (defArgs s_look_at_web) (defBody s_look_at_web) (defScope s_look_at_web) .none kV_look_at_web dc_look_at_web pm_look_at_web an_look_at_web cd_look_at_web ct_look_at_web), sl_look_at_web⟩) (c_look_at_web : PySem.W.codeIn K cd_look_at_web "look_at_web" = true) (k_look_at_web : PySem.W.keepIn K (.ref f_look_at_web) = true)
    {f_two_for : Addr} {od_two_for an_two_for : Option Addr} {sl_two_for : Array (Option Value)} {oc_two_for kV_two_for dc_two_for pm_two_for cd_two_for ct_two_for : Value}
    (a_two_for : PySem.W.nsIn K mainGlobals "two_for" = some (some (.ref f_two_for))) (l_two_for : K.lookup f_two_for = some ⟨oc_two_for, od_two_for, .func (PySem.W.fnOf "two_for" "two_for" (defArgs s_two_for) (defBody s_two_for) (defScope s_two_for) .none kV_two_for dc_two_for pm_two_for an_two_for cd_two_for ct_two_for), sl_two_for⟩) (c_two_for : PySem.W.codeIn K cd_two_for "two_for" = true) (k_two_for : PySem.W.keepIn K (.ref f_two_for) = true)
    {f_makers : Addr} {od_makers an_makers : Option Addr} {sl_makers : Array (Option Value)} {oc_makers kV_makers dc_makers pm_makers cd_makers ct_makers : Value}
    (a_makers : PySem.W.nsIn K mainGlobals "makers" = some (some (.ref f_makers))) (l_makers : K.lookup f_makers = some ⟨oc_makers, od_makers, .func (PySem.W.fnOf "makers" "makers" (defArgs s_makers) (defBody s_makers) (defScope s_makers) .none kV_makers dc_makers pm_makers an_makers cd_makers ct_makers), sl_makers⟩) (c_makers : PySem.W.codeIn K cd_makers "makers" = true) (k_makers : PySem.W.keepIn K (.ref f_makers) = true)
    {f__law_whole : Addr} {od__law_whole an__law_whole : Option Addr} {sl__law_whole : Array (Option Value)} {oc__law_whole kV__law_whole dc__law_whole pm__law_whole cd__law_whole ct__law_whole : Value}
    (a__law_whole : PySem.W.nsIn K mainGlobals "_law_whole" = some (some (.ref f__law_whole))) (l__law_whole : K.lookup f__law_whole = some ⟨oc__law_whole, od__law_whole, .func (PySem.W.fnOf "_law_whole" "_law_whole" (defArgs s__law_whole) (defBody s__law_whole) (defScope s__law_whole) .none kV__law_whole dc__law_whole pm__law_whole an__law_whole cd__law_whole ct__law_whole), sl__law_whole⟩) (c__law_whole : PySem.W.codeIn K cd__law_whole "_law_whole" = true) (k__law_whole : PySem.W.keepIn K (.ref f__law_whole) = true)
    {f__law_is_order : Addr} {od__law_is_order an__law_is_order : Option Addr} {sl__law_is_order : Array (Option Value)} {oc__law_is_order kV__law_is_order dc__law_is_order pm__law_is_order cd__law_is_order ct__law_is_order : Value}
    (a__law_is_order : PySem.W.nsIn K mainGlobals "_law_is_order" = some (some (.ref f__law_is_order))) (l__law_is_order : K.lookup f__law_is_order = some ⟨oc__law_is_order, od__law_is_order, .func (PySem.W.fnOf "_law_is_order" "_law_is_order" (defArgs s__law_is_order) (defBody s__law_is_order) (defScope s__law_is_order) .none kV__law_is_order dc__law_is_order pm__law_is_order an__law_is_order cd__law_is_order ct__law_is_order), sl__law_is_order⟩) (c__law_is_order : PySem.W.codeIn K cd__law_is_order "_law_is_order" = true) (k__law_is_order : PySem.W.keepIn K (.ref f__law_is_order) = true)
    {f__law_is_voters : Addr} {od__law_is_voters an__law_is_voters : Option Addr} {sl__law_is_voters : Array (Option Value)} {oc__law_is_voters kV__law_is_voters dc__law_is_voters pm__law_is_voters cd__law_is_voters ct__law_is_voters : Value}
    (a__law_is_voters : PySem.W.nsIn K mainGlobals "_law_is_voters" = some (some (.ref f__law_is_voters))) (l__law_is_voters : K.lookup f__law_is_voters = some ⟨oc__law_is_voters, od__law_is_voters, .func (PySem.W.fnOf "_law_is_voters" "_law_is_voters" (defArgs s__law_is_voters) (defBody s__law_is_voters) (defScope s__law_is_voters) .none kV__law_is_voters dc__law_is_voters pm__law_is_voters an__law_is_voters cd__law_is_voters ct__law_is_voters), sl__law_is_voters⟩) (c__law_is_voters : PySem.W.codeIn K cd__law_is_voters "_law_is_voters" = true) (k__law_is_voters : PySem.W.keepIn K (.ref f__law_is_voters) = true)
    {f__law_lead : Addr} {od__law_lead an__law_lead : Option Addr} {sl__law_lead : Array (Option Value)} {oc__law_lead kV__law_lead dc__law_lead pm__law_lead cd__law_lead ct__law_lead : Value}
    (a__law_lead : PySem.W.nsIn K mainGlobals "_law_lead" = some (some (.ref f__law_lead))) (l__law_lead : K.lookup f__law_lead = some ⟨oc__law_lead, od__law_lead, .func (PySem.W.fnOf "_law_lead" "_law_lead" (defArgs s__law_lead) (defBody s__law_lead) (defScope s__law_lead) .none kV__law_lead dc__law_lead pm__law_lead an__law_lead cd__law_lead ct__law_lead), sl__law_lead⟩) (c__law_lead : PySem.W.codeIn K cd__law_lead "_law_lead" = true) (k__law_lead : PySem.W.keepIn K (.ref f__law_lead) = true)
    {f__law_beats : Addr} {od__law_beats an__law_beats : Option Addr} {sl__law_beats : Array (Option Value)} {oc__law_beats kV__law_beats dc__law_beats pm__law_beats cd__law_beats ct__law_beats : Value}
    (a__law_beats : PySem.W.nsIn K mainGlobals "_law_beats" = some (some (.ref f__law_beats))) (l__law_beats : K.lookup f__law_beats = some ⟨oc__law_beats, od__law_beats, .func (PySem.W.fnOf "_law_beats" "_law_beats" (defArgs s__law_beats) (defBody s__law_beats) (defScope s__law_beats) .none kV__law_beats dc__law_beats pm__law_beats an__law_beats cd__law_beats ct__law_beats), sl__law_beats⟩) (c__law_beats : PySem.W.codeIn K cd__law_beats "_law_beats" = true) (k__law_beats : PySem.W.keepIn K (.ref f__law_beats) = true)
    {f_look_at_voters : Addr} {od_look_at_voters an_look_at_voters : Option Addr} {sl_look_at_voters : Array (Option Value)} {oc_look_at_voters kV_look_at_voters dc_look_at_voters pm_look_at_voters cd_look_at_voters ct_look_at_voters : Value}
    (a_look_at_voters : PySem.W.nsIn K mainGlobals "look_at_voters" = some (some (.ref f_look_at_voters))) (l_look_at_voters : K.lookup f_look_at_voters = some ⟨oc_look_at_voters, od_look_at_voters, .func (PySem.W.fnOf "look_at_voters" "look_at_voters" (defArgs s_look_at_voters) (defBody s_look_at_voters) (defScope s_look_at_voters) .none kV_look_at_voters dc_look_at_voters pm_look_at_voters an_look_at_voters cd_look_at_voters ct_look_at_voters), sl_look_at_voters⟩) (c_look_at_voters : PySem.W.codeIn K cd_look_at_voters "look_at_voters" = true) (k_look_at_voters : PySem.W.keepIn K (.ref f_look_at_voters) = true)
    {f_lead_of : Addr} {od_lead_of an_lead_of : Option Addr} {sl_lead_of : Array (Option Value)} {oc_lead_of kV_lead_of dc_lead_of pm_lead_of cd_lead_of ct_lead_of : Value}
    (a_lead_of : PySem.W.nsIn K mainGlobals "lead_of" = some (some (.ref f_lead_of))) (l_lead_of : K.lookup f_lead_of = some ⟨oc_lead_of, od_lead_of, .func (PySem.W.fnOf "lead_of" "lead_of" (defArgs s_lead_of) (defBody s_lead_of) (defScope s_lead_of) .none kV_lead_of dc_lead_of pm_lead_of an_lead_of cd_lead_of ct_lead_of), sl_lead_of⟩) (c_lead_of : PySem.W.codeIn K cd_lead_of "lead_of" = true) (k_lead_of : PySem.W.keepIn K (.ref f_lead_of) = true)
    {f_beats_of : Addr} {od_beats_of an_beats_of : Option Addr} {sl_beats_of : Array (Option Value)} {oc_beats_of kV_beats_of dc_beats_of pm_beats_of cd_beats_of ct_beats_of : Value}
    (a_beats_of : PySem.W.nsIn K mainGlobals "beats_of" = some (some (.ref f_beats_of))) (l_beats_of : K.lookup f_beats_of = some ⟨oc_beats_of, od_beats_of, .func (PySem.W.fnOf "beats_of" "beats_of" (defArgs s_beats_of) (defBody s_beats_of) (defScope s_beats_of) .none kV_beats_of dc_beats_of pm_beats_of an_beats_of cd_beats_of ct_beats_of), sl_beats_of⟩) (c_beats_of : PySem.W.codeIn K cd_beats_of "beats_of" = true) (k_beats_of : PySem.W.keepIn K (.ref f_beats_of) = true)
    {f_web_of : Addr} {od_web_of an_web_of : Option Addr} {sl_web_of : Array (Option Value)} {oc_web_of kV_web_of dc_web_of pm_web_of cd_web_of ct_web_of : Value}
    (a_web_of : PySem.W.nsIn K mainGlobals "web_of" = some (some (.ref f_web_of))) (l_web_of : K.lookup f_web_of = some ⟨oc_web_of, od_web_of, .func (PySem.W.fnOf "web_of" "web_of" (defArgs s_web_of) (defBody s_web_of) (defScope s_web_of) .none kV_web_of dc_web_of pm_web_of an_web_of cd_web_of ct_web_of), sl_web_of⟩) (c_web_of : PySem.W.codeIn K cd_web_of "web_of" = true) (k_web_of : PySem.W.keepIn K (.ref f_web_of) = true)
    {f_make : Addr} {od_make an_make : Option Addr} {sl_make : Array (Option Value)} {oc_make kV_make dc_make pm_make cd_make ct_make : Value}
    (a_make : PySem.W.nsIn K mainGlobals "make" = some (some (.ref f_make))) (l_make : K.lookup f_make = some ⟨oc_make, od_make, .func (PySem.W.fnOf "make" "make" (defArgs s_make) (defBody s_make) (defScope s_make) .none kV_make dc_make pm_make an_make cd_make ct_make), sl_make⟩) (c_make : PySem.W.codeIn K cd_make "make" = true) (k_make : PySem.W.keepIn K (.ref f_make) = true)
    {f_makes : Addr} {od_makes an_makes : Option Addr} {sl_makes : Array (Option Value)} {oc_makes kV_makes dc_makes pm_makes cd_makes ct_makes : Value}
    (a_makes : PySem.W.nsIn K mainGlobals "makes" = some (some (.ref f_makes))) (l_makes : K.lookup f_makes = some ⟨oc_makes, od_makes, .func (PySem.W.fnOf "makes" "makes" (defArgs s_makes) (defBody s_makes) (defScope s_makes) .none kV_makes dc_makes pm_makes an_makes cd_makes ct_makes), sl_makes⟩) (c_makes : PySem.W.codeIn K cd_makes "makes" = true) (k_makes : PySem.W.keepIn K (.ref f_makes) = true)
    {f__law_voters : Addr} {od__law_voters an__law_voters : Option Addr} {sl__law_voters : Array (Option Value)} {oc__law_voters kV__law_voters dc__law_voters pm__law_voters cd__law_voters ct__law_voters : Value}
    (a__law_voters : PySem.W.nsIn K mainGlobals "_law_voters" = some (some (.ref f__law_voters))) (l__law_voters : K.lookup f__law_voters = some ⟨oc__law_voters, od__law_voters, .func (PySem.W.fnOf "_law_voters" "_law_voters" (defArgs s__law_voters) (defBody s__law_voters) (defScope s__law_voters) .none kV__law_voters dc__law_voters pm__law_voters an__law_voters cd__law_voters ct__law_voters), sl__law_voters⟩) (c__law_voters : PySem.W.codeIn K cd__law_voters "_law_voters" = true) (k__law_voters : PySem.W.keepIn K (.ref f__law_voters) = true)
    {f_law : Addr} {od_law an_law : Option Addr} {sl_law : Array (Option Value)} {oc_law kV_law dc_law pm_law cd_law ct_law : Value}
    (a_law : PySem.W.nsIn K mainGlobals "law" = some (some (.ref f_law))) (l_law : K.lookup f_law = some ⟨oc_law, od_law, .func (PySem.W.fnOf "law" "law" (defArgs s_law) (defBody s_law) (defScope s_law) .none kV_law dc_law pm_law an_law cd_law ct_law), sl_law⟩) (c_law : PySem.W.codeIn K cd_law "law" = true) (k_law : PySem.W.keepIn K (.ref f_law) = true)
    {C_BadCount : Addr} (g_BadCount : PySem.W.nsIn K mainGlobals "BadCount" = some (some (.ref C_BadCount))) (x_BadCount : PySem.W.excIn K C_BadCount [.type "ValueError", .type "Exception", .type "BaseException", .type "object"] "ValueError.__new__" = true) (xk_BadCount : PySem.W.keepIn K (.ref C_BadCount) = true) (xb_BadCount : PySem.W.subIn K (.ref C_BadCount) (.type "BaseException") = some true) (xt_BadCount : PySem.W.typeIn K (.ref C_BadCount) = some (.type "type"))
    {C_BadWeb : Addr} (g_BadWeb : PySem.W.nsIn K mainGlobals "BadWeb" = some (some (.ref C_BadWeb))) (x_BadWeb : PySem.W.excIn K C_BadWeb [.type "ValueError", .type "Exception", .type "BaseException", .type "object"] "ValueError.__new__" = true) (xk_BadWeb : PySem.W.keepIn K (.ref C_BadWeb) = true) (xb_BadWeb : PySem.W.subIn K (.ref C_BadWeb) (.type "BaseException") = some true) (xt_BadWeb : PySem.W.typeIn K (.ref C_BadWeb) = some (.type "type"))
    {C_BadVoter : Addr} (g_BadVoter : PySem.W.nsIn K mainGlobals "BadVoter" = some (some (.ref C_BadVoter))) (x_BadVoter : PySem.W.excIn K C_BadVoter [.type "ValueError", .type "Exception", .type "BaseException", .type "object"] "ValueError.__new__" = true) (xk_BadVoter : PySem.W.keepIn K (.ref C_BadVoter) = true) (xb_BadVoter : PySem.W.subIn K (.ref C_BadVoter) (.type "BaseException") = some true) (xt_BadVoter : PySem.W.typeIn K (.ref C_BadVoter) = some (.type "type"))
    {t_MOST_THINGS : Tok} (v_MOST_THINGS : PySem.W.nsIn K mainGlobals "MOST_THINGS" = some (some (.int 6 t_MOST_THINGS)))
    (z_len : PySem.W.nsIn K mainGlobals "len" = some none)
    (z_range : PySem.W.nsIn K mainGlobals "range" = some none)
    (z_list : PySem.W.nsIn K mainGlobals "list" = some none)
    (z_tuple : PySem.W.nsIn K mainGlobals "tuple" = some none)
    (z_sorted : PySem.W.nsIn K mainGlobals "sorted" = some none)
    (z_int : PySem.W.nsIn K mainGlobals "int" = some none)
    (z_bool : PySem.W.nsIn K mainGlobals "bool" = some none)
    (z_str : PySem.W.nsIn K mainGlobals "str" = some none)
    (z_isinstance : PySem.W.nsIn K mainGlobals "isinstance" = some none)
    (z_reversed : PySem.W.nsIn K mainGlobals "reversed" = some none)
    (z_set : PySem.W.nsIn K mainGlobals "set" = some none)
    (z_all : PySem.W.nsIn K mainGlobals "all" = some none)
    (z_max : PySem.W.nsIn K mainGlobals "max" = some none)
    (z_min : PySem.W.nsIn K mainGlobals "min" = some none)
    (z_ValueError : PySem.W.nsIn K mainGlobals "ValueError" = some none)
    : ∃ fd : FuncData, (∀ (s : Shared) (v : Value), BindsTo s fd ⟨[v], []⟩ [("script", v)]) ∧ ∀ base : Heap, K.In base → base.Ns mainGlobals mg → FnOk l.prog w K mg base CX0 5 fa fd ["script"] (sp_law K) := by
  have e := hfa.symm.trans (PySem.W.mg_of X G a_law)
  cases e
  have Bi_ : Bi mg := ⟨PySem.W.mg_none_of X G z_len, PySem.W.mg_none_of X G z_range, PySem.W.mg_none_of X G z_list, PySem.W.mg_none_of X G z_tuple, PySem.W.mg_none_of X G z_sorted, PySem.W.mg_none_of X G z_int, PySem.W.mg_none_of X G z_bool, PySem.W.mg_none_of X G z_str, PySem.W.mg_none_of X G z_isinstance, PySem.W.mg_none_of X G z_reversed, PySem.W.mg_none_of X G z_set, PySem.W.mg_none_of X G z_all, PySem.W.mg_none_of X G z_max, PySem.W.mg_none_of X G z_min, PySem.W.mg_none_of X G z_ValueError⟩
  have X_BadCount : Xc K mg "BadCount" C_BadCount := ⟨PySem.W.mg_of X G g_BadCount, x_BadCount, xk_BadCount, xb_BadCount, xt_BadCount⟩
  have X_BadWeb : Xc K mg "BadWeb" C_BadWeb := ⟨PySem.W.mg_of X G g_BadWeb, x_BadWeb, xk_BadWeb, xb_BadWeb, xt_BadWeb⟩
  have X_BadVoter : Xc K mg "BadVoter" C_BadVoter := ⟨PySem.W.mg_of X G g_BadVoter, x_BadVoter, xk_BadVoter, xb_BadVoter, xt_BadVoter⟩
  have K_MOST_THINGS := PySem.W.mg_of X G v_MOST_THINGS
  have F__law_cell_at := fun_mk (st := s__law_cell_at) l__law_cell_at c__law_cell_at k__law_cell_at
  have D__law_cell_at : Df K mg "_law_cell_at" s__law_cell_at ["script", "k"] f__law_cell_at _ := ⟨F__law_cell_at, F__law_cell_at.binds (ps := ["script", "k"]) fun _ _ _ _ _ _ us hl => match us, hl with | [_, _], _ => rfl, PySem.W.mg_of X G a__law_cell_at⟩
  have F__law_order := fun_mk (st := s__law_order) l__law_order c__law_order k__law_order
  have D__law_order : Df K mg "_law_order" s__law_order ["cell", "many"] f__law_order _ := ⟨F__law_order, F__law_order.binds (ps := ["cell", "many"]) fun _ _ _ _ _ _ us hl => match us, hl with | [_, _], _ => rfl, PySem.W.mg_of X G a__law_order⟩
  have F__law_web := fun_mk (st := s__law_web) l__law_web c__law_web k__law_web
  have D__law_web : Df K mg "_law_web" s__law_web ["script", "start", "many"] f__law_web _ := ⟨F__law_web, F__law_web.binds (ps := ["script", "start", "many"]) fun _ _ _ _ _ _ us hl => match us, hl with | [_, _, _], _ => rfl, PySem.W.mg_of X G a__law_web⟩
  have F_look_at_count := fun_mk (st := s_look_at_count) l_look_at_count c_look_at_count k_look_at_count
  have D_look_at_count : Df K mg "look_at_count" s_look_at_count ["many"] f_look_at_count _ := ⟨F_look_at_count, F_look_at_count.binds (ps := ["many"]) fun _ _ _ _ _ _ us hl => match us, hl with | [_], _ => rfl, PySem.W.mg_of X G a_look_at_count⟩
  have F_look_at_web := fun_mk (st := s_look_at_web) l_look_at_web c_look_at_web k_look_at_web
  have D_look_at_web : Df K mg "look_at_web" s_look_at_web ["many", "web"] f_look_at_web _ := ⟨F_look_at_web, F_look_at_web.binds (ps := ["many", "web"]) fun _ _ _ _ _ _ us hl => match us, hl with | [_, _], _ => rfl, PySem.W.mg_of X G a_look_at_web⟩
  have F_two_for := fun_mk (st := s_two_for) l_two_for c_two_for k_two_for
  have D_two_for : Df K mg "two_for" s_two_for ["many", "one", "other"] f_two_for _ := ⟨F_two_for, F_two_for.binds (ps := ["many", "one", "other"]) fun _ _ _ _ _ _ us hl => match us, hl with | [_, _, _], _ => rfl, PySem.W.mg_of X G a_two_for⟩
  have F_makers := fun_mk (st := s_makers) l_makers c_makers k_makers
  have D_makers : Df K mg "makers" s_makers ["many", "web"] f_makers _ := ⟨F_makers, F_makers.binds (ps := ["many", "web"]) fun _ _ _ _ _ _ us hl => match us, hl with | [_, _], _ => rfl, PySem.W.mg_of X G a_makers⟩
  have F__law_whole := fun_mk (st := s__law_whole) l__law_whole c__law_whole k__law_whole
  have D__law_whole : Df K mg "_law_whole" s__law_whole ["found"] f__law_whole _ := ⟨F__law_whole, F__law_whole.binds (ps := ["found"]) fun _ _ _ _ _ _ us hl => match us, hl with | [_], _ => rfl, PySem.W.mg_of X G a__law_whole⟩
  have F__law_is_order := fun_mk (st := s__law_is_order) l__law_is_order c__law_is_order k__law_is_order
  have D__law_is_order : Df K mg "_law_is_order" s__law_is_order ["found", "many"] f__law_is_order _ := ⟨F__law_is_order, F__law_is_order.binds (ps := ["found", "many"]) fun _ _ _ _ _ _ us hl => match us, hl with | [_, _], _ => rfl, PySem.W.mg_of X G a__law_is_order⟩
  have F__law_is_voters := fun_mk (st := s__law_is_voters) l__law_is_voters c__law_is_voters k__law_is_voters
  have D__law_is_voters : Df K mg "_law_is_voters" s__law_is_voters ["found", "many"] f__law_is_voters _ := ⟨F__law_is_voters, F__law_is_voters.binds (ps := ["found", "many"]) fun _ _ _ _ _ _ us hl => match us, hl with | [_, _], _ => rfl, PySem.W.mg_of X G a__law_is_voters⟩
  have F__law_lead := fun_mk (st := s__law_lead) l__law_lead c__law_lead k__law_lead
  have D__law_lead : Df K mg "_law_lead" s__law_lead ["voters", "one", "other"] f__law_lead _ := ⟨F__law_lead, F__law_lead.binds (ps := ["voters", "one", "other"]) fun _ _ _ _ _ _ us hl => match us, hl with | [_, _, _], _ => rfl, PySem.W.mg_of X G a__law_lead⟩
  have F__law_beats := fun_mk (st := s__law_beats) l__law_beats c__law_beats k__law_beats
  have D__law_beats : Df K mg "_law_beats" s__law_beats ["many", "voters"] f__law_beats _ := ⟨F__law_beats, F__law_beats.binds (ps := ["many", "voters"]) fun _ _ _ _ _ _ us hl => match us, hl with | [_, _], _ => rfl, PySem.W.mg_of X G a__law_beats⟩
  have F_look_at_voters := fun_mk (st := s_look_at_voters) l_look_at_voters c_look_at_voters k_look_at_voters
  have D_look_at_voters : Df K mg "look_at_voters" s_look_at_voters ["many", "voters"] f_look_at_voters _ := ⟨F_look_at_voters, F_look_at_voters.binds (ps := ["many", "voters"]) fun _ _ _ _ _ _ us hl => match us, hl with | [_, _], _ => rfl, PySem.W.mg_of X G a_look_at_voters⟩
  have F_lead_of := fun_mk (st := s_lead_of) l_lead_of c_lead_of k_lead_of
  have D_lead_of : Df K mg "lead_of" s_lead_of ["voters", "one", "other"] f_lead_of _ := ⟨F_lead_of, F_lead_of.binds (ps := ["voters", "one", "other"]) fun _ _ _ _ _ _ us hl => match us, hl with | [_, _, _], _ => rfl, PySem.W.mg_of X G a_lead_of⟩
  have F_beats_of := fun_mk (st := s_beats_of) l_beats_of c_beats_of k_beats_of
  have D_beats_of : Df K mg "beats_of" s_beats_of ["many", "voters"] f_beats_of _ := ⟨F_beats_of, F_beats_of.binds (ps := ["many", "voters"]) fun _ _ _ _ _ _ us hl => match us, hl with | [_, _], _ => rfl, PySem.W.mg_of X G a_beats_of⟩
  have F_web_of := fun_mk (st := s_web_of) l_web_of c_web_of k_web_of
  have D_web_of : Df K mg "web_of" s_web_of ["many", "voters"] f_web_of _ := ⟨F_web_of, F_web_of.binds (ps := ["many", "voters"]) fun _ _ _ _ _ _ us hl => match us, hl with | [_, _], _ => rfl, PySem.W.mg_of X G a_web_of⟩
  have F_make := fun_mk (st := s_make) l_make c_make k_make
  have D_make : Df K mg "make" s_make ["many", "voters", "web"] f_make _ := ⟨F_make, F_make.binds (ps := ["many", "voters", "web"]) fun _ _ _ _ _ _ us hl => match us, hl with | [_, _, _], _ => rfl, PySem.W.mg_of X G a_make⟩
  have F_makes := fun_mk (st := s_makes) l_makes c_makes k_makes
  have D_makes : Df K mg "makes" s_makes ["many", "voters", "web"] f_makes _ := ⟨F_makes, F_makes.binds (ps := ["many", "voters", "web"]) fun _ _ _ _ _ _ us hl => match us, hl with | [_, _, _], _ => rfl, PySem.W.mg_of X G a_makes⟩
  have F__law_voters := fun_mk (st := s__law_voters) l__law_voters c__law_voters k__law_voters
  have D__law_voters : Df K mg "_law_voters" s__law_voters ["script", "start", "many", "most"] f__law_voters _ := ⟨F__law_voters, F__law_voters.binds (ps := ["script", "start", "many", "most"]) fun _ _ _ _ _ _ us hl => match us, hl with | [_, _, _, _], _ => rfl, PySem.W.mg_of X G a__law_voters⟩
  have F_law := fun_mk (st := s_law) l_law c_law k_law
  have D_law : Df K mg "law" s_law ["script"] fa _ := ⟨F_law, F_law.binds (ps := ["script"]) fun _ _ _ _ _ _ us hl => match us, hl with | [_], _ => rfl, PySem.W.mg_of X G a_law⟩
  refine ⟨PySem.W.fnOf "law" "law" (defArgs s_law) (defBody s_law) (defScope s_law) .none kV_law dc_law pm_law an_law cd_law ct_law, fun s v => .of_eq rfl, fun base _ _ => ?_⟩
  have G__law_cell_at : FnOk l.prog w K mg base CX0 1 f__law_cell_at _ ["script", "k"] (sp__law_cell_at K) := ok__law_cell_at D__law_cell_at Bi_
  have G__law_order : FnOk l.prog w K mg base CX0 1 f__law_order _ ["cell", "many"] sp__law_order := ok__law_order D__law_order Bi_
  have G__law_web : FnOk l.prog w K mg base CX0 2 f__law_web _ ["script", "start", "many"] (sp__law_web K) := ok__law_web D__law_web Bi_ D__law_cell_at G__law_cell_at D__law_order G__law_order
  have G_look_at_count : FnOk l.prog w K mg base (L2.CX l.prog w) 1 f_look_at_count _ ["many"] (sp_look_at_count C_BadCount) := ok_look_at_count D_look_at_count Bi_ X_BadCount K_MOST_THINGS
  have G_look_at_web : FnOk l.prog w K mg base (L2.CX l.prog w) 2 f_look_at_web _ ["many", "web"] (sp_look_at_web C_BadCount C_BadWeb) := ok_look_at_web D_look_at_web Bi_ X_BadWeb D_look_at_count G_look_at_count
  have G_two_for : FnOk l.prog w K mg base CX0 1 f_two_for _ ["many", "one", "other"] sp_two_for := ok_two_for D_two_for Bi_
  have G_makers : FnOk l.prog w K mg base (L2.CX l.prog w) 3 f_makers _ ["many", "web"] (sp_makers C_BadCount C_BadWeb) := ok_makers D_makers Bi_ D_look_at_web G_look_at_web D_two_for G_two_for
  have G__law_whole : FnOk l.prog w K mg base CX0 1 f__law_whole _ ["found"] sp__law_whole := ok__law_whole D__law_whole Bi_
  have G__law_is_order : FnOk l.prog w K mg base CX0 2 f__law_is_order _ ["found", "many"] sp__law_is_order := ok__law_is_order D__law_is_order Bi_ D__law_whole G__law_whole
  have G__law_is_voters : FnOk l.prog w K mg base CX0 3 f__law_is_voters _ ["found", "many"] sp__law_is_voters := ok__law_is_voters D__law_is_voters Bi_ D__law_is_order G__law_is_order
  have G__law_lead : FnOk l.prog w K mg base CX0 1 f__law_lead _ ["voters", "one", "other"] sp__law_lead := ok__law_lead D__law_lead Bi_
  have G__law_beats : FnOk l.prog w K mg base CX0 2 f__law_beats _ ["many", "voters"] sp__law_beats := ok__law_beats D__law_beats Bi_ D__law_lead G__law_lead
  have G_look_at_voters : FnOk l.prog w K mg base (L2.CX l.prog w) 2 f_look_at_voters _ ["many", "voters"] (sp_look_at_voters C_BadCount C_BadVoter) := ok_look_at_voters D_look_at_voters Bi_ X_BadVoter D_look_at_count G_look_at_count
  have G_lead_of : FnOk l.prog w K mg base CX0 1 f_lead_of _ ["voters", "one", "other"] sp_lead_of := ok_lead_of D_lead_of Bi_
  have G_beats_of : FnOk l.prog w K mg base CX0 2 f_beats_of _ ["many", "voters"] sp_beats_of := ok_beats_of D_beats_of Bi_ D_lead_of G_lead_of
  have G_web_of : FnOk l.prog w K mg base (L2.CX l.prog w) 3 f_web_of _ ["many", "voters"] (sp_web_of C_BadCount C_BadVoter) := ok_web_of D_web_of Bi_ D_look_at_voters G_look_at_voters D_beats_of G_beats_of
  have G_make : FnOk l.prog w K mg base CX0 3 f_make _ ["many", "voters", "web"] sp_make := ok_make D_make Bi_ D_beats_of G_beats_of
  have G_makes : FnOk l.prog w K mg base (L2.CX l.prog w) 4 f_makes _ ["many", "voters", "web"] (sp_makes C_BadCount C_BadVoter C_BadWeb) := ok_makes D_makes Bi_ D_look_at_voters G_look_at_voters D_look_at_web G_look_at_web D_make G_make
  have G__law_voters : FnOk l.prog w K mg base CX0 2 f__law_voters _ ["script", "start", "many", "most"] (sp__law_voters K) := ok__law_voters D__law_voters Bi_ D__law_cell_at G__law_cell_at D__law_order G__law_order
  have G_law : FnOk l.prog w K mg base CX0 5 fa _ ["script"] (sp_law K) := ok_law D_law Bi_ D__law_cell_at G__law_cell_at D__law_web G__law_web D_makers G_makers D__law_is_voters G__law_is_voters D__law_beats G__law_beats D_web_of G_web_of D_makes G_makes D__law_voters G__law_voters
  exact G_law
end Bm
open PySem PySem.W PyProof.Rows
set_option maxHeartbeats 0 in
theorem PySem.Challenge.cw_beatmakers_k03_whole_voters_for_each_web_holds : PySem.Challenge.rw_beatmakers_k03_whole_voters_for_each_web.Holds := by
  w_on; o_law; k_head; (case hw => w_witness2)
  k_fill
  refine L2.walk_of (l := PySem.Challenge.rw_beatmakers_k03_whole_voters_for_each_web) (n := 63) (k := 5) (x := "script") (CX := fun _ => L2.CX0) (sp := fun w => Bm.sp_law _) rfl (by decide) rfl ⟨rfl, by decide, by decide⟩ (fun w h Y => PySem.W.kIn_of Y) ?F (fun _ _ a ns hl _ hS => ⟨a, ns, rfl, hS, hl, fun _ => rfl⟩) (fun _ _ _ _ _ h => h)
  case F =>
    intro w mg fa h KX G hmg
    refine' Bm.all_mk KX G hmg ?a__law_cell_at ?l__law_cell_at ?c__law_cell_at ?k__law_cell_at ?a__law_order ?l__law_order ?c__law_order ?k__law_order ?a__law_web ?l__law_web ?c__law_web ?k__law_web ?a_look_at_count ?l_look_at_count ?c_look_at_count ?k_look_at_count ?a_look_at_web ?l_look_at_web ?c_look_at_web ?k_look_at_web ?a_two_for ?l_two_for ?c_two_for ?k_two_for ?a_makers ?l_makers ?c_makers ?k_makers ?a__law_whole ?l__law_whole ?c__law_whole ?k__law_whole ?a__law_is_order ?l__law_is_order ?c__law_is_order ?k__law_is_order ?a__law_is_voters ?l__law_is_voters ?c__law_is_voters ?k__law_is_voters ?a__law_lead ?l__law_lead ?c__law_lead ?k__law_lead ?a__law_beats ?l__law_beats ?c__law_beats ?k__law_beats ?a_look_at_voters ?l_look_at_voters ?c_look_at_voters ?k_look_at_voters ?a_lead_of ?l_lead_of ?c_lead_of ?k_lead_of ?a_beats_of ?l_beats_of ?c_beats_of ?k_beats_of ?a_web_of ?l_web_of ?c_web_of ?k_web_of ?a_make ?l_make ?c_make ?k_make ?a_makes ?l_makes ?c_makes ?k_makes ?a__law_voters ?l__law_voters ?c__law_voters ?k__law_voters ?a_law ?l_law ?c_law ?k_law ?g_BadCount ?x_BadCount ?xk_BadCount ?xb_BadCount ?xt_BadCount ?g_BadWeb ?x_BadWeb ?xk_BadWeb ?xb_BadWeb ?xt_BadWeb ?g_BadVoter ?x_BadVoter ?xk_BadVoter ?xb_BadVoter ?xt_BadVoter ?v_MOST_THINGS ?z_len ?z_range ?z_list ?z_tuple ?z_sorted ?z_int ?z_bool ?z_str ?z_isinstance ?z_reversed ?z_set ?z_all ?z_max ?z_min ?z_ValueError
    (case a__law_cell_at => k_is)
    (case l__law_cell_at => k_is)
    (case c__law_cell_at => k_is)
    (case k__law_cell_at => k_is)
    (case a__law_order => k_is)
    (case l__law_order => k_is)
    (case c__law_order => k_is)
    (case k__law_order => k_is)
    (case a__law_web => k_is)
    (case l__law_web => k_is)
    (case c__law_web => k_is)
    (case k__law_web => k_is)
    (case a_look_at_count => k_is)
    (case l_look_at_count => k_is)
    (case c_look_at_count => k_is)
    (case k_look_at_count => k_is)
    (case a_look_at_web => k_is)
    (case l_look_at_web => k_is)
    (case c_look_at_web => k_is)
    (case k_look_at_web => k_is)
    (case a_two_for => k_is)
    (case l_two_for => k_is)
    (case c_two_for => k_is)
    (case k_two_for => k_is)
    (case a_makers => k_is)
    (case l_makers => k_is)
    (case c_makers => k_is)
    (case k_makers => k_is)
    (case a__law_whole => k_is)
    (case l__law_whole => k_is)
    (case c__law_whole => k_is)
    (case k__law_whole => k_is)
    (case a__law_is_order => k_is)
    (case l__law_is_order => k_is)
    (case c__law_is_order => k_is)
    (case k__law_is_order => k_is)
    (case a__law_is_voters => k_is)
    (case l__law_is_voters => k_is)
    (case c__law_is_voters => k_is)
    (case k__law_is_voters => k_is)
    (case a__law_lead => k_is)
    (case l__law_lead => k_is)
    (case c__law_lead => k_is)
    (case k__law_lead => k_is)
    (case a__law_beats => k_is)
    (case l__law_beats => k_is)
    (case c__law_beats => k_is)
    (case k__law_beats => k_is)
    (case a_look_at_voters => k_is)
    (case l_look_at_voters => k_is)
    (case c_look_at_voters => k_is)
    (case k_look_at_voters => k_is)
    (case a_lead_of => k_is)
    (case l_lead_of => k_is)
    (case c_lead_of => k_is)
    (case k_lead_of => k_is)
    (case a_beats_of => k_is)
    (case l_beats_of => k_is)
    (case c_beats_of => k_is)
    (case k_beats_of => k_is)
    (case a_web_of => k_is)
    (case l_web_of => k_is)
    (case c_web_of => k_is)
    (case k_web_of => k_is)
    (case a_make => k_is)
    (case l_make => k_is)
    (case c_make => k_is)
    (case k_make => k_is)
    (case a_makes => k_is)
    (case l_makes => k_is)
    (case c_makes => k_is)
    (case k_makes => k_is)
    (case a__law_voters => k_is)
    (case l__law_voters => k_is)
    (case c__law_voters => k_is)
    (case k__law_voters => k_is)
    (case a_law => k_is)
    (case l_law => k_is)
    (case c_law => k_is)
    (case k_law => k_is)
    (case g_BadCount => k_is)
    (case x_BadCount => k_exc)
    (case xk_BadCount => k_is)
    (case xb_BadCount => k_is)
    (case xt_BadCount => k_is)
    (case g_BadWeb => k_is)
    (case x_BadWeb => k_exc)
    (case xk_BadWeb => k_is)
    (case xb_BadWeb => k_is)
    (case xt_BadWeb => k_is)
    (case g_BadVoter => k_is)
    (case x_BadVoter => k_exc)
    (case xk_BadVoter => k_is)
    (case xb_BadVoter => k_is)
    (case xt_BadVoter => k_is)
    (case v_MOST_THINGS => k_is)
    (case z_len => k_is)
    (case z_range => k_is)
    (case z_list => k_is)
    (case z_tuple => k_is)
    (case z_sorted => k_is)
    (case z_int => k_is)
    (case z_bool => k_is)
    (case z_str => k_is)
    (case z_isinstance => k_is)
    (case z_reversed => k_is)
    (case z_set => k_is)
    (case z_all => k_is)
    (case z_max => k_is)
    (case z_min => k_is)
    (case z_ValueError => k_is)

