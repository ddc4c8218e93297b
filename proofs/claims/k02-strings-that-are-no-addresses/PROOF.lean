import PyProof.Rows.All
import Wide.All
import OpenK.AllK
import Wide.FinOn
import KE.KStateDown
import HandS.ForMost
import HandS.ForSpec
import HandS.IsInst
import HandS.StrMore
import HandS.TupAny
import HandS.Deep
import HandS.TupLe
import HandS.Defaults
import HandS.More
import HandS.Conv
import HandS.Walk
import HandS.Flow
import HandS.Iter
import HandS.Evl
import HandS.Text
import HandS.HeadHook1
import HandS.HeadHook2
import HandS.RaiseMore
import HandS.ExcOwn
import HandS.ExcIs
import HandS.TryOnly
import HandS.WordsExc
import HandS.SetTxt0
import HandS.SetFor
import PyProof.Rows.SortStr
import HandS.SortInts
import HandS.ExcInit
import HandS.ExcSuper
import HandS.ExcField
import KE.KSuper
import HandS.EndTab
import HandS.HeadWalk
import HandS.HeadHook4
import KE.SortKeyHeap
import KE.KSortKey
import HandS.TryMany
import HandS.Wide
import PyProof.StrBlock2
import HandS.AnyAll
import HandS.GenList
import Lean
import HandS.Head0
import HandS.Head1
import HandS.Head2
import HandS.HeadEnd
import PySem.Challenge.RW_dawkline_k02_strings_that_are_no_address
set_option Elab.async false
set_option linter.all false
set_option maxRecDepth 100000
set_option maxHeartbeats 4000000

/-! Own layer over HandS: data that never change, steps of the heap, rules that take any kind of value, a walk of readings. -/
namespace Dk
open PySem PySem.Spec PyProof.Rows L2

/-! ### data that never change -/
mutual
inductive Dq (H : Hp) : V → PyData → Prop
  | non : Dq H .non .none
  | bl (b : Bool) : Dq H (.bl b) (.bool b)
  | int (i : Int) : Dq H (.int i) (.int i)
  | str (x : Str) : Dq H (.str x) (.str x)
  | tup {a : Addr} {xs : List V} {ds : List PyData} : H a = some (.tup xs) → Dqs H xs ds → Dq H (.ref a) (.tuple ds)
inductive Dqs (H : Hp) : List V → List PyData → Prop
  | nil : Dqs H [] []
  | cons {v : V} {vs : List V} {d : PyData} {ds : List PyData} : Dq H v d → Dqs H vs ds → Dqs H (v :: vs) (d :: ds)
end

/-- tuples and what is locked stand as they were -/
structure Gro (H H' : Hp) : Prop where
  tup : ∀ a xs, H a = some (.tup xs) → H' a = some (.tup xs)
  frz : ∀ a o u, H a = some (.frz o u) → H' a = some (.frz o u)
theorem Gro.refl (H : Hp) : Gro H H := ⟨fun _ _ h => h, fun _ _ _ h => h⟩
theorem Gro.trans {H H1 H2 : Hp} (a : Gro H H1) (b : Gro H1 H2) : Gro H H2 := ⟨fun p xs h => b.tup p xs (a.tup p xs h), fun p o u h => b.frz p o u (a.frz p o u h)⟩
theorem Gro.same {H H' : Hp} (s : Same H H') : Gro H H' := ⟨fun p _ h => s p _ h, fun p _ _ h => s p _ h⟩

mutual
theorem Dq.mono {H H' : Hp} (g : Gro H H') : ∀ {d : PyData} {v : V}, Dq H v d → Dq H' v d
  | .none, _, h => by cases h; exact .non
  | .bool b, _, h => by cases h; exact .bl b
  | .int i, _, h => by cases h; exact .int i
  | .str x, _, h => by cases h; exact .str x
  | .tuple ds, _, h => by
    cases h with
    | tup ha hs => exact .tup (g.tup _ _ ha) (Dqs.mono g hs)
  | .list _, _, h => by cases h
  | .dict _, _, h => by cases h
theorem Dqs.mono {H H' : Hp} (g : Gro H H') : ∀ {ds : List PyData} {vs : List V}, Dqs H vs ds → Dqs H' vs ds
  | [], _, h => by cases h; exact .nil
  | d :: ds, _, h => by
    cases h with
    | cons h1 h2 => exact .cons (Dq.mono g h1) (Dqs.mono g h2)
end
mutual
theorem Dq.dp {K : PySem.W.Frag} {H : Hp} : ∀ {d : PyData} {v : V}, Dq H v d → Dp K H v d
  | .none, _, h => by cases h; exact .non
  | .bool b, _, h => by cases h; exact .bl b
  | .int i, _, h => by cases h; exact .int i
  | .str x, _, h => by cases h; exact .str x
  | .tuple ds, _, h => by
    cases h with
    | tup ha hs => exact .tup (SqT.of ha) (Dqs.dp hs)
  | .list _, _, h => by cases h
  | .dict _, _, h => by cases h
theorem Dqs.dp {K : PySem.W.Frag} {H : Hp} : ∀ {ds : List PyData} {vs : List V}, Dqs H vs ds → DpAll K H vs ds
  | [], _, h => by cases h; exact .nil
  | d :: ds, _, h => by
    cases h with
    | cons h1 h2 => exact .cons (Dq.dp h1) (Dqs.dp h2)
end
theorem Dqs.length {H : Hp} : ∀ {ds : List PyData} {vs : List V}, Dqs H vs ds → vs.length = ds.length
  | [], _, h => by cases h; rfl
  | d :: ds, _, h => by
    cases h with
    | cons h1 h2 => rw [List.length_cons, List.length_cons, Dqs.length h2]
theorem Dqs.get {H : Hp} : ∀ {ds : List PyData} {vs : List V} {i : Nat} {v : V}, Dqs H vs ds → vs[i]? = some v → ∃ d, ds[i]? = some d ∧ Dq H v d
  | [], _, i, v, h, e => by
    cases h
    simp at e
  | d :: ds, _, 0, v, h, e => by
    cases h with
    | cons h1 h2 =>
      simp only [List.getElem?_cons_zero, Option.some.injEq] at e
      subst e
      exact ⟨d, rfl, h1⟩
  | d :: ds, _, i + 1, v, h, e => by
    cases h with
    | cons h1 h2 =>
      simp only [List.getElem?_cons_succ] at e
      obtain ⟨d', e1, e2⟩ := Dqs.get h2 e
      exact ⟨d', by simpa using e1, e2⟩
theorem Dqs.snoc {H : Hp} {d : PyData} {v : V} (hv : Dq H v d) : ∀ {ds : List PyData} {vs : List V}, Dqs H vs ds → Dqs H (vs ++ [v]) (ds ++ [d])
  | [], _, h => by
    cases h
    exact .cons hv .nil
  | d :: ds, _, h => by
    cases h with
    | cons h1 h2 => exact .cons h1 (Dqs.snoc hv h2)
/-- texts -/
theorem Dqs.strs {H : Hp} : ∀ (ss : List Str), Dqs H (ss.map V.str) (ss.map PyData.str)
  | [] => .nil
  | s :: ss => .cons (.str s) (Dqs.strs ss)
theorem Dqs.strs_of {H : Hp} : ∀ {ss : List Str} {vs : List V}, Dqs H vs (ss.map PyData.str) → vs = ss.map V.str
  | [], _, h => by cases h; rfl
  | s :: ss, _, h => by
    cases h with
    | cons h1 h2 =>
      cases h1
      rw [Dqs.strs_of h2] <;> rfl

/-! ### steps of the heap -/
/-- all but what stands at the places of F is as it was -/
def Fr (F : Addr → Prop) (H H' : Hp) : Prop := ∀ b o, H b = some o → ¬ F b → H' b = some o
theorem Fr.refl (F : Addr → Prop) (H : Hp) : Fr F H H := fun _ _ h _ => h
theorem Fr.trans {F : Addr → Prop} {H H1 H2 : Hp} (a : Fr F H H1) (b : Fr F H1 H2) : Fr F H H2 := fun p o h n => b p o (a p o h n) n
theorem Fr.same {F : Addr → Prop} {H H' : Hp} (s : Same H H') : Fr F H H' := fun b o h _ => s b o h
/-- the law's own state: a list of two ints -/
def Drw (H : Hp) (a : Addr) : Prop := ∃ x y : Int, H a = some (.lst [.int x, .int y])
/-- a step that changes the list at a alone, which stays such a list -/
structure Stp (a : Addr) (H H' : Hp) : Prop where
  fr : ∀ b o, H b = some o → b ≠ a → H' b = some o
  gro : Gro H H'
  drw : Drw H' a
theorem Stp.refl {a : Addr} {H : Hp} (h : Drw H a) : Stp a H H := ⟨fun _ _ h _ => h, Gro.refl H, h⟩
theorem Stp.trans {a : Addr} {H H1 H2 : Hp} (x : Stp a H H1) (y : Stp a H1 H2) : Stp a H H2 := ⟨fun b o h n => y.fr b o (x.fr b o h n) n, x.gro.trans y.gro, y.drw⟩
theorem Stp.same {a : Addr} {H H' : Hp} (h : Drw H a) (s : Same H H') : Stp a H H' := ⟨fun b o e _ => s b o e, Gro.same s, let ⟨x, y, e⟩ := h; ⟨x, y, s _ _ e⟩⟩
theorem Stp.snd {a : Addr} {H H1 H2 : Hp} (x : Stp a H H1) (s : Same H1 H2) : Stp a H H2 := x.trans (Stp.same x.drw s)
theorem Stp.free {a : Addr} {H H' : Hp} (x : Stp a H H') {p : Addr} (hp : H' p = none) (ha : ∃ o, H a = some o) : H p = none := by
  by_cases e : p = a
  · obtain ⟨u, v, q⟩ := x.drw
    rw [e, q] at hp
    cases hp
  · cases q : H p with
    | none => rfl
    | some o =>
      rw [x.fr p o q e] at hp
      cases hp
theorem Stp.new {a : Addr} {H H' : Hp} (x : Stp a H H') {p : Addr} {o : HO} (hp : H p = none) (hd : Drw H a) : Stp a H (upd H' p o) := by
  have pa : a ≠ p := by
    intro e
    obtain ⟨u, v, q⟩ := hd
    rw [e, hp] at q
    cases q
  refine ⟨fun b u h n => ?_, ⟨fun b xs h => ?_, fun b u z h => ?_⟩, ?_⟩
  · rw [upd_ne (ne_of_none h hp)]
    exact x.fr b u h n
  · rw [upd_ne (ne_of_none h hp)]
    exact x.gro.tup b xs h
  · rw [upd_ne (ne_of_none h hp)]
    exact x.gro.frz b u z h
  · obtain ⟨u, v, q⟩ := x.drw
    exact ⟨u, v, by rw [upd_ne pa]; exact q⟩
theorem same_new {H : Hp} {p : Addr} {o : HO} (h : H p = none) : Same H (upd H p o) := fun a u e => by
  rw [upd_ne (ne_of_none e h)]
  exact e
/-- the script -/
def Scr (K : PySem.W.Frag) (H : Hp) (a : Addr) : Prop := ∃ ns : List Int, ns.length ≤ 63 ∧ ((∃ o, H a = some (.frz o (.lst (ns.map V.int)))) ∨
  ∃ (o : Obj) (its : Array Value) (n : Nat), K.lookup a = some o ∧ o.cls = .type "list" ∧ o.dict = none ∧ o.data = .seq its n ∧ its.size ≤ sizeLine ∧ Vals (ns.map V.int) its.toList)
theorem Scr.mono {K : PySem.W.Frag} {H H' : Hp} {a : Addr} (g : Gro H H') (h : Scr K H a) : Scr K H' a := by
  obtain ⟨ns, l, h⟩ := h
  refine ⟨ns, l, ?_⟩
  rcases h with ⟨o, h⟩ | h
  · exact .inl ⟨o, g.frz _ _ _ h⟩
  · exact .inr h
theorem Scr.seq {K : PySem.W.Frag} {H : Hp} {a : Addr} (h : Scr K H a) : ∃ ns : List Int, ns.length ≤ 63 ∧ SqL K H a (ns.map V.int) := by
  obtain ⟨ns, l, h⟩ := h
  refine ⟨ns, l, ?_⟩
  rcases h with ⟨o, h⟩ | h
  · exact .inl (.inr ⟨o, h⟩)
  · exact .inr h
theorem Scr.of {K : PySem.W.Frag} {H : Hp} {a : Addr} {ns : List Int} (hl : ns.length ≤ 63) (O : Only H) (h : SqL K H a (ns.map V.int)) : Scr K H a := by
  refine ⟨ns, hl, ?_⟩
  rcases h with (h | ⟨o, h⟩) | h
  · rcases O a with e | ⟨o, xs, e⟩
    · rw [e] at h
      cases h
    · rw [e] at h
      cases h
  · exact .inl ⟨o, h⟩
  · exact .inr h
end Dk

/-! Rules that take any kind of value: a match on the values says what is asked. -/
namespace Dk
open PySem PySem.Spec PyProof.Rows L2
section
variable {X : Cx} {K : PySem.W.Frag}
theorem opw {f : Value → Value → Sem Value} {r r' : R2} (h : OpR X f r) (w : ∀ x y H Q, r' x y H Q → r x y H Q) : OpR X f r' :=
  fun pins s σ H x y v u Q I rx ry q => h pins s σ H x y v u Q I rx ry (w _ _ _ _ q)
theorem callw {f : Value} {r r' : List V → Hp → VK → Prop} (h : CallR X f r) (w : ∀ xs H Q, r' xs H Q → r xs H Q) : CallR X f r' :=
  fun pins s σ H xs us Q I r q => h pins s σ H xs us Q I r (w _ _ _ q)
theorem mtw {id : String} {r r' : V → List V → Hp → VK → Prop} (h : MtR X id r) (w : ∀ x xs H Q, r' x xs H Q → r x xs H Q) : MtR X id r' :=
  fun pins s σ H x xs v us Q I rx r q => h pins s σ H x xs v us Q I rx r (w _ _ _ _ q)
/-- a + b -/
def uAdd (K : PySem.W.Frag) : R2 := fun x y H Q => match x, y with
  | .int i, .int j => Q (.int (i + j)) H
  | .str a, .str b => a.length + b.length ≤ sizeLine ∧ Q (.str (a ++ b)) H
  | .ref a, .ref b => rCat (.ref a) (.ref b) H Q ∨ rCatA K (.ref a) (.ref b) H Q
  | _, _ => False
theorem op_addU (hK : X.K = K := by rfl) : OpR X (binaryOp .Add) (uAdd K) := by
  subst hK
  refine opw ((op_add).or (op_add_str.or (op_cat.or op_catA))) fun x y H Q h => ?_
  cases x <;> cases y <;> first
    | exact .inl ⟨_, _, rfl, rfl, h⟩
    | exact .inr (.inl ⟨_, _, rfl, rfl, h.1, h.2⟩)
    | exact .inr (.inr h)
    | exact False.elim h
def uI (C : Int → Int → Prop) (g : Int → Int → V) : R2 := fun x y H Q => match x, y with
  | .int i, .int j => C i j ∧ Q (g i j) H
  | _, _ => False
def uI0 (g : Int → Int → V) : R2 := fun x y H Q => match x, y with
  | .int i, .int j => Q (g i j) H
  | _, _ => False
theorem uI_w {C : Int → Int → Prop} {g : Int → Int → V} {f : Value → Value → Sem Value} (h : OpR X f (rI C g)) : OpR X f (uI C g) := by
  refine opw h fun x y H Q h => ?_
  cases x <;> cases y <;> first
    | exact ⟨_, _, rfl, rfl, h.1, h.2⟩
    | exact False.elim h
theorem uI0_w {g : Int → Int → V} {f : Value → Value → Sem Value} (h : OpR X f (rI0 g)) : OpR X f (uI0 g) := by
  refine opw h fun x y H Q h => ?_
  cases x <;> cases y <;> first
    | exact ⟨_, _, rfl, rfl, h⟩
    | exact False.elim h
abbrev uSub : R2 := uI0 fun i j => .int (i - j)
theorem op_subU : OpR X (binaryOp .Sub) uSub := uI0_w op_sub
/-- a * b: ints, one of them small; a list some times -/
def uMul : R2 := fun x y H Q => match x, y with
  | .int i, .int j => CMul i j ∧ Q (.int (i * j)) H
  | .ref a, .int j => rRep (.ref a) (.int j) H Q
  | _, _ => False
theorem op_mulU : OpR X (binaryOp .Mult) uMul := by
  refine opw (op_mul.or op_rep) fun x y H Q h => ?_
  cases x <;> cases y <;> first
    | exact .inl ⟨_, _, rfl, rfl, h.1, h.2⟩
    | exact .inr h
    | exact False.elim h
abbrev uMod : R2 := uI (fun _ j => 0 < j) fun i j => .int (i % j)
theorem op_modU : OpR X (binaryOp .Mod) uMod := uI_w op_mod
abbrev uDiv : R2 := uI CDiv fun i j => .int (i / j)
theorem op_divU : OpR X (binaryOp .FloorDiv) uDiv := uI_w op_fdiv
abbrev uPow : R2 := uI CPow fun i j => .int (i ^ j.toNat)
theorem op_powU : OpR X (binaryOp .Pow) uPow := uI_w op_pow
abbrev uShl : R2 := uI CPow fun i j => .int (i * 2 ^ j.toNat)
theorem op_shlU : OpR X (binaryOp .LShift) uShl := uI_w op_shl
abbrev uShr : R2 := uI (fun _ j => 0 ≤ j) fun i j => .int (i / 2 ^ j.toNat)
theorem op_shrU : OpR X (binaryOp .RShift) uShr := uI_w op_shr
abbrev uAnd : R2 := uI0 fun i j => .int (Builtin.bitAnd i j)
theorem op_andU : OpR X (binaryOp .BitAnd) uAnd := uI0_w op_and
abbrev uLt : R2 := uI0 fun i j => .bl (decide (i < j))
theorem op_ltU : OpR X (compareOp .Lt) uLt := uI0_w op_lt
abbrev uLe : R2 := uI0 fun i j => .bl (decide (i ≤ j))
theorem op_leU : OpR X (compareOp .LtE) uLe := uI0_w op_le
abbrev uGt : R2 := uI0 fun i j => .bl (decide (j < i))
theorem op_gtU : OpR X (compareOp .Gt) uGt := uI0_w op_gt
abbrev uGe : R2 := uI0 fun i j => .bl (decide (j ≤ i))
theorem op_geU : OpR X (compareOp .GtE) uGe := uI0_w op_ge
theorem dec_i {i j : Int} : decide (V.int i = V.int j) = decide (i = j) := by
  by_cases h : i = j
  · rw [h, decide_eq_true rfl, decide_eq_true rfl]
  · rw [decide_eq_false h, decide_eq_false fun e => h (V.int.inj e)]
theorem dec_s {i j : Str} : decide (V.str i = V.str j) = decide (i = j) := by
  by_cases h : i = j
  · rw [h, decide_eq_true rfl, decide_eq_true rfl]
  · rw [decide_eq_false h, decide_eq_false fun e => h (V.str.inj e)]
/-- a == b -/
def uEq (K : PySem.W.Frag) : R2 := fun x y H Q => match x, y with
  | .int i, .int j => Q (.bl (decide (i = j))) H
  | .str i, .str j => Q (.bl (decide (i = j))) H
  | x, y => rEq x y H Q ∨ rEqD K x y H Q
def uNe (K : PySem.W.Frag) : R2 := fun x y H Q => match x, y with
  | .int i, .int j => Q (.bl (!decide (i = j))) H
  | .str i, .str j => Q (.bl (!decide (i = j))) H
  | x, y => rNe x y H Q ∨ rNeD K x y H Q
theorem op_eqU {k : Nat} (hr : Room k X.A) (hK : X.K = K := by rfl) : OpR X (compareOp .Eq) (uEq K) := by
  subst hK
  refine opw (op_eq.or (op_eqD hr.units)) fun x y H Q h => ?_
  cases x <;> cases y <;> first
    | exact .inl ⟨rfl, by rw [dec_i]; exact h⟩
    | exact .inl ⟨rfl, by rw [dec_s]; exact h⟩
    | exact h
theorem op_neU {k : Nat} (hr : Room k X.A) (hK : X.K = K := by rfl) : OpR X (compareOp .NotEq) (uNe K) := by
  subst hK
  refine opw (op_ne.or (op_neD hr.units)) fun x y H Q h => ?_
  cases x <;> cases y <;> first
    | exact .inl ⟨rfl, by rw [dec_i]; exact h⟩
    | exact .inl ⟨rfl, by rw [dec_s]; exact h⟩
    | exact h
/-- a is None, a is True -/
def uIs : R2 := fun x y H Q => match y with
  | .non => Q (.bl (decide (x = .non))) H
  | .bl b => (match x with
    | .bl a => Q (.bl (decide (a = b))) H
    | _ => False)
  | _ => False
def uIsNot : R2 := fun x y H Q => match y with
  | .non => Q (.bl (!decide (x = .non))) H
  | .bl b => (match x with
    | .bl a => Q (.bl (!decide (a = b))) H
    | _ => False)
  | _ => False
theorem op_isU : OpR X (compareOp .Is) uIs := by
  refine opw (op_isN.or op_is_bl) fun x y H Q h => ?_
  cases y with
  | non => exact .inl ⟨rfl, h⟩
  | bl b => cases x <;> first
    | exact .inr ⟨_, _, rfl, rfl, h⟩
    | exact False.elim h
  | _ => exact False.elim h
theorem op_isNotU : OpR X (compareOp .IsNot) uIsNot := by
  refine opw (op_notN.or op_isnot_bl) fun x y H Q h => ?_
  cases y with
  | non => exact .inl ⟨rfl, h⟩
  | bl b => cases x <;> first
    | exact .inr ⟨_, _, rfl, rfl, h⟩
    | exact False.elim h
  | _ => exact False.elim h
/-- a in b -/
def occ (i j : Str) : Bool := !(Builtin.Str.occurrences j i 0 j.length 1).isEmpty
def uIn (K : PySem.W.Frag) : R2 := fun x y H Q => match y with
  | .str j => (match x with
    | .str i => Q (.bl (occ i j)) H
    | _ => False)
  | y => rIn K false x y H Q ∨ rInD K x y H Q
def uNotIn (K : PySem.W.Frag) : R2 := fun x y H Q => match y with
  | .str j => (match x with
    | .str i => Q (.bl (!occ i j)) H
    | _ => False)
  | y => rIn K true x y H Q ∨ rNotInD K x y H Q
theorem op_inU {k : Nat} (hr : Room (k + 1) X.A) (hK : X.K = K := by rfl) : OpR X (compareOp .In) (uIn K) := by
  subst hK
  refine opw (op_in_str.or (op_in_seq.or (op_inD (by have := hr.un; omega)))) fun x y H Q h => ?_
  cases y with
  | str j => cases x <;> first
    | exact .inl ⟨_, _, rfl, rfl, h⟩
    | exact False.elim h
  | _ => exact .inr h
theorem op_notInU {k : Nat} (hr : Room (k + 1) X.A) (hK : X.K = K := by rfl) : OpR X (compareOp .NotIn) (uNotIn K) := by
  subst hK
  refine opw (op_notin_str.or (op_notIn_seq.or (op_notInD (by have := hr.un; omega)))) fun x y H Q h => ?_
  cases y with
  | str j => cases x <;> first
    | exact .inl ⟨_, _, rfl, rfl, h⟩
    | exact False.elim h
  | _ => exact .inr h
end
end Dk

namespace Dk
open PySem PySem.Spec PyProof.Rows L2
/-! ### built-in names -/
theorem bt_len : bootBuiltins "len" = some (.builtin "len") := by decide +kernel
theorem bt_int : bootBuiltins "int" = some (.type "int") := by decide +kernel
theorem bt_str : bootBuiltins "str" = some (.type "str") := by decide +kernel
theorem bt_bool : bootBuiltins "bool" = some (.type "bool") := by decide +kernel
theorem bt_tuple : bootBuiltins "tuple" = some (.type "tuple") := by decide +kernel
theorem bt_list : bootBuiltins "list" = some (.type "list") := by decide +kernel
theorem bt_isinstance : bootBuiltins "isinstance" = some (.builtin "isinstance") := by decide +kernel
theorem bt_ord : bootBuiltins "ord" = some (.builtin "ord") := by decide +kernel
theorem bt_sorted : bootBuiltins "sorted" = some (.builtin "sorted") := by decide +kernel
theorem bt_min : bootBuiltins "min" = some (.builtin "min") := by decide +kernel
theorem bt_max : bootBuiltins "max" = some (.builtin "max") := by decide +kernel
theorem bt_sum : bootBuiltins "sum" = some (.builtin "sum") := by decide +kernel
theorem bt_all : bootBuiltins "all" = some (.builtin "all") := by decide +kernel
theorem bt_any : bootBuiltins "any" = some (.builtin "any") := by decide +kernel
section
variable {X : Cx} {K : PySem.W.Frag}
/-- len(x) -/
def uLen (K : PySem.W.Frag) : List V → Hp → VK → Prop := fun xs H Q => match xs with
  | [.str z] => z.length ≤ sizeLine ∧ Q (.int z.length) H
  | [x] => ∃ n, LenV K x H n ∧ Q (.int n) H
  | _ => False
theorem call_lenU (hK : X.K = K := by rfl) : CallR X (.builtin "len") (uLen K) := by
  subst hK
  refine callw call_len fun xs H Q h => ?_
  match xs, h with
  | [.str z], h => exact ⟨_, z.length, rfl, ⟨h.1, rfl⟩, h.2⟩
  | [.non], h => exact ⟨_, h.choose, rfl, h.choose_spec.1, h.choose_spec.2⟩
  | [.bl _], h => exact ⟨_, h.choose, rfl, h.choose_spec.1, h.choose_spec.2⟩
  | [.int _], h => exact ⟨_, h.choose, rfl, h.choose_spec.1, h.choose_spec.2⟩
  | [.byt _], h => exact ⟨_, h.choose, rfl, h.choose_spec.1, h.choose_spec.2⟩
  | [.flt _], h => exact ⟨_, h.choose, rfl, h.choose_spec.1, h.choose_spec.2⟩
  | [.ref _], h => exact ⟨_, h.choose, rfl, h.choose_spec.1, h.choose_spec.2⟩
  | [.ty _], h => exact ⟨_, h.choose, rfl, h.choose_spec.1, h.choose_spec.2⟩
/-- int(x) -/
def uInt : List V → Hp → VK → Prop := fun xs H Q => match xs with
  | [.int i] => Q (.int i) H
  | [.bl b] => Q (.int (if b then 1 else 0)) H
  | [.str a] => ∃ n, PySem.intText? a = some n ∧ a.length ≤ 640 ∧ Q (.int n) H
  | _ => False
theorem call_intU : CallR X (.type "int") uInt := by
  refine callw (call_int1.or call_int_str) fun xs H Q h => ?_
  match xs, h with
  | [.int i], h => exact .inl (.inl ⟨_, rfl, h⟩)
  | [.bl i], h => exact .inl (.inr ⟨_, rfl, h⟩)
  | [.str a], h => exact .inr ⟨_, _, rfl, h.choose_spec.1, h.choose_spec.2.1, h.choose_spec.2.2⟩
/-- tuple(x) -/
def uTuple (K : PySem.W.Frag) : List V → Hp → VK → Prop := fun xs H Q => match xs with
  | [.ref p] => ∃ ys, (SqL K H p ys ∧ ∀ l, H l = none → Q (.ref l) (upd H l (.tup ys))) ∨ (SqT K H p ys ∧ Q (.ref p) H)
  | _ => False
theorem call_tupleU (hK : X.K = K := by rfl) : CallR X (.type "tuple") (uTuple K) := by
  subst hK
  refine callw call_tuple_of fun xs H Q h => ?_
  match xs, h with
  | [.ref p], h => exact ⟨p, h.choose, rfl, h.choose_spec⟩
/-- list(x) -/
def uList (K : PySem.W.Frag) : List V → Hp → VK → Prop := fun xs H Q => match xs with
  | [.ref p] => ∃ ys, (SqL K H p ys ∨ SqT K H p ys) ∧ ∀ l, H l = none → Q (.ref l) (upd H l (.lst ys))
  | _ => False
theorem call_listU (hK : X.K = K := by rfl) : CallR X (.type "list") (uList K) := by
  subst hK
  refine callw call_list_of fun xs H Q h => ?_
  match xs, h with
  | [.ref p], h => exact ⟨p, h.choose, rfl, h.choose_spec⟩
/-- isinstance(x, a built-in class) -/
def tyO : Option HO → Option String
  | some (.lst _) => some "list"
  | some (.tup _) => some "tuple"
  | some (.dK _) => some "dict"
  | some (.dT _) => some "dict"
  | _ => none
def tyN (H : Hp) : V → Option String
  | .non => some "NoneType"
  | .bl _ => some "bool"
  | .int _ => some "int"
  | .str _ => some "str"
  | .ref a => tyO (H a)
  | _ => none
theorem tyN_ok {K : PySem.W.Frag} {H : Hp} {x : V} {n : String} (h : tyN H x = some n) : TyX K H x (.type n) := by
  cases x with
  | non => cases h; exact .base .non
  | bl b => cases h; exact .base (.bl b)
  | int b => cases h; exact .base (.int b)
  | str b => cases h; exact .base (.str b)
  | ref a =>
    have h : tyO (H a) = some n := h
    cases e : H a with
    | none =>
      rw [e] at h
      cases h
    | some o =>
      rw [e] at h
      cases o with
      | lst xs => cases h; exact .base (.lst e)
      | tup xs => cases h; exact .base (.tup e)
      | dK xs => cases h; exact .base (.dK e)
      | dT xs => cases h; exact .base (.dT e)
      | _ => cases h
  | _ => cases h
def uIsi (K : PySem.W.Frag) : List V → Hp → VK → Prop := fun xs H Q => match xs with
  | [x, .ty m] => ∃ n b, tyN H x = some n ∧ kitB n m = some b ∧ Q (.bl b) H
  | _ => False
theorem call_isiU (hK : X.K = K := by rfl) : CallR X (.builtin "isinstance") (uIsi K) := by
  subst hK
  refine callw call_isi fun xs H Q h => ?_
  match xs, h with
  | [x, .ty m], h =>
    obtain ⟨n, b, h1, h2, h3⟩ := h
    exact ⟨x, .ty m, .type n, .type m, b, rfl, .ty m, tyN_ok h1, kit_ty h2, h3⟩
/-- x[i] -/
def uIx (K : PySem.W.Frag) : R2 := fun x y H Q => match x, y with
  | .ref p, .int i => ∃ xs v, (SqL K H p xs ∨ SqT K H p xs) ∧ atI xs i = some v ∧ Q v H
  | .str z, .int i => ∃ c, z.length ≤ sizeLine ∧ atI z.cps.toList i = some c ∧ Q (.str ⟨#[c]⟩) H
  | _, _ => False
theorem ix_U (hK : X.K = K := by rfl) : IxR X (uIx K) := by
  subst hK
  intro va sl pins s σ H x y v u Q I rx ry h hs
  refine ix_seq va sl pins s σ H x y v u Q I rx ry ?_ hs
  match x, y, h with
  | .ref p, .int i, h =>
    obtain ⟨xs, w, h1, h2, h3⟩ := h
    rcases h1 with h1 | h1
    · exact .inl ⟨p, xs, i, w, rfl, rfl, h1, h2, h3⟩
    · exact .inr (.inl ⟨p, xs, i, w, rfl, rfl, h1, h2, h3⟩)
  | .str z, .int i, h =>
    obtain ⟨c, h1, h2, h3⟩ := h
    exact .inr (.inr ⟨z, i, c, rfl, rfl, h1, h2, h3⟩)
/-- x[lo:hi] -/
def uSl (K : PySem.W.Frag) : V → Option Int → Option Int → Hp → VK → Prop := fun x lo hi H Q => match x with
  | .str z => z.length ≤ sizeLine ∧ Q (.str (cutS z lo hi)) H
  | x => rSlL K x lo hi H Q ∨ rSlA K x lo hi H Q
theorem sl_U (hK : X.K = K := by rfl) : SlR X (uSl K) := by
  subst hK
  intro pins s σ H x v vl vu lo hi sl Q I rx hs pl pu h
  refine (sl_str.or (sl_list.or sl_tupA)) pins s σ H x v vl vu lo hi sl Q I rx hs pl pu ?_
  cases x with
  | str z => exact .inl ⟨z, rfl, h.1, h.2⟩
  | _ => exact .inr h
/-- methods of texts with one text -/
def uS1 (f : Str → Str → V) : V → List V → Hp → VK → Prop := fun x xs H Q => match x, xs with
  | .str a, [.str b] => Q (f a b) H
  | _, _ => False
theorem mt_startsU : MtR X "str.startswith" (uS1 fun a b => .bl (Txt.startswith a b)) := by
  refine mtw mt_startswith fun x xs H Q h => ?_
  match x, xs, h with
  | .str a, [.str b], h => exact ⟨a, b, rfl, rfl, h⟩
theorem mt_endsU : MtR X "str.endswith" (uS1 fun a b => .bl (Txt.endswith a b)) := by
  refine mtw mt_endswith fun x xs H Q h => ?_
  match x, xs, h with
  | .str a, [.str b], h => exact ⟨a, b, rfl, rfl, h⟩
theorem mt_findU : MtR X "str.find" (uS1 fun a b => .int (Txt.find a b)) := by
  refine mtw mt_find fun x xs H Q h => ?_
  match x, xs, h with
  | .str a, [.str b], h => exact ⟨a, b, rfl, rfl, h⟩
def uS1l (f : Str → Str → V) : V → List V → Hp → VK → Prop := fun x xs H Q => match x, xs with
  | .str a, [.str b] => a.length ≤ sizeLine ∧ Q (f a b) H
  | _, _ => False
theorem mt_rstripU : MtR X "str.rstrip" (uS1l fun a b => .str (Txt.rstripChars a b)) := by
  refine mtw mt_rstripChars fun x xs H Q h => ?_
  match x, xs, h with
  | .str a, [.str b], h => exact ⟨a, b, rfl, rfl, h.1, h.2⟩
def uSplit : V → List V → Hp → VK → Prop := fun x xs H Q => match x, xs with
  | .str a, [.str b] => (b.length == 0) = false ∧ a.length + 2 ≤ sizeLine ∧ rNewStrs (Txt.split a b) H Q
  | _, _ => False
theorem mt_splitU : MtR X "str.split" uSplit := by
  refine mtw mt_split fun x xs H Q h => ?_
  match x, xs, h with
  | .str a, [.str b], h => exact ⟨a, b, rfl, rfl, h.1, h.2.1, h.2.2⟩
def uJoin (K : PySem.W.Frag) : V → List V → Hp → VK → Prop := fun x xs H Q => match x, xs with
  | .str a, [.ref p] => ∃ ys : List Str, (SqL K H p (ys.map V.str) ∨ SqT K H p (ys.map V.str)) ∧ (ys.map (·.length)).sum + ys.length * a.length ≤ 16777216 ∧ Q (.str (Txt.join a ys)) H
  | _, _ => False
theorem mt_joinU (hK : X.K = K := by rfl) : MtR X "str.join" (uJoin K) := by
  subst hK
  refine mtw mt_join fun x xs H Q h => ?_
  match x, xs, h with
  | .str a, [.ref p], h => exact ⟨a, p, h.choose, rfl, rfl, h.choose_spec.1, h.choose_spec.2.1, h.choose_spec.2.2⟩
def uS0 (f : Str → V) : V → List V → Hp → VK → Prop := fun x xs H Q => match x, xs with
  | .str a, [] => a.length ≤ 5592405 ∧ Q (f a) H
  | _, _ => False
theorem mt_lowerU : MtR X "str.lower" (uS0 fun a => .str (Txt.lower a)) := by
  refine mtw mt_lower fun x xs H Q h => ?_
  match x, xs, h with
  | .str a, [], h => exact ⟨a, rfl, rfl, h.1, h.2⟩
theorem mt_upperU : MtR X "str.upper" (uS0 fun a => .str (Txt.upper a)) := by
  refine mtw mt_upper fun x xs H Q h => ?_
  match x, xs, h with
  | .str a, [], h => exact ⟨a, rfl, rfl, h.1, h.2⟩
/-- str(x) -/
def uStr : List V → Hp → VK → Prop := fun xs H Q => match xs with
  | [.int i] => i.natAbs.log2 < 1920 ∧ Q (.str (toString i)) H
  | [.str a] => Q (.str a) H
  | _ => False
/-! ### defs by their names -/
structure Wd where
  P : Program
  w : World
  K : PySem.W.Frag
  mg : Str → Option Value
  base : Heap
/-- the def that the module's name x holds keeps the promise sp -/
def Can (e : Wd) (k : Nat) (x : Str) (ps : List Str) (sp : Sp) : Prop :=
  ∃ f fd, FnOk e.P e.w e.K e.mg e.base (L2.CX e.P e.w) k f fd ps sp ∧ e.mg x = some (.ref f) ∧ PySem.W.keepIn e.K (.ref f) = true ∧ Binds e.K fd ps []
theorem Can.imp {e : Wd} {k j : Nat} {x : Str} {ps : List Str} {sp sp' : Sp} (c : Can e k x ps sp) (h : ∀ vs H Q E, sp' vs H Q E → sp vs H Q E) (hk : k ≤ j := by decide) : Can e j x ps sp' := by
  obtain ⟨f, fd, F, m, kp, b⟩ := c
  exact ⟨f, fd, (F.imp h).mono hk, m, kp, b⟩
abbrev wdOf (X : Cx) : Wd := ⟨X.prog, X.w, X.K, X.mg, X.base⟩
theorem pe_can {k : Nat} {x : Str} {ps : List Str} {sp : Sp} {E : XK} {p pos : Pos} {e : Expr} {es : List Expr} {t : TA} (c : Can (wdOf X) k x ps sp) (hr : Room k X.A) (hx : Passes (L2.CX X.prog X.w) X E) (ha : PA X (e :: es) t) (hg : Gl X x := by rfl)
    (hdb : (x == ("__debug__" : Str)) = false := by decide) (he : starEach (e :: es) X.env = (false, eval e X.env) :: starEach es X.env := by rfl) (hpl : (backTo pos (starEach es X.env)).any (·.1) = false := by rfl) : PE X (.Call (.Name x p) (e :: es) [] pos) (tCall sp [] E t) := by
  obtain ⟨f, fd, F, m, kp, b⟩ := c
  exact pe_call F hr hg m kp b .nil hx ha hdb he hpl
theorem pe_can0 {k : Nat} {x : Str} {ps : List Str} {sp : Sp} {E : XK} {p pos : Pos} (c : Can (wdOf X) k x ps sp) (hr : Room k X.A) (hx : Passes (L2.CX X.prog X.w) X E) (hg : Gl X x := by rfl)
    (hdb : (x == ("__debug__" : Str)) = false := by decide) : PE X (.Call (.Name x p) [] [] pos) (tCall sp [] E tNil) := by
  obtain ⟨f, fd, F, m, kp, b⟩ := c
  exact pe_call0 F hr hg m kp b .nil hx hdb
def DefAt (e : Wd) (x : Str) (st : Stmt) : Prop := ∃ f fd, FunD e.K x x (defArgs st) (defBody st) (defScope st) [] [] f fd ∧ e.mg x = some (.ref f)
/-- how its arguments bind -/
abbrev BindOk (x : Str) (st : Stmt) (ps : List Str) : Prop := ∀ (kV doc pm : Value) (an : Option Addr) (cdv ct : Value) (us : List Value), us.length = ps.length → bindArgs (PySem.W.fnOf x x (defArgs st) (defBody st) (defScope st) .none kV doc pm an cdv ct) ⟨us, []⟩ = pure (ps.zip us)
/-- a def that lets no error out -/
theorem fnok_of {e : Wd} {x : Str} {st : Stmt} {N ps : List Str} {k : Nat} {sp : Sp} {f : Addr} {fd : FuncData} (F : FunD e.K x x (defArgs st) (defBody st) (defScope st) [] [] f fd) (S : FnScope N ps (defScope st)) (len : ∀ vs H Q E, sp vs H Q E → vs.length = ps.length)
    (hbody : ∀ (cdv : Value) (f : Addr) (A : Around) (outer : List Env) (s : Shared) (H : Hp) (vs : List V) (Q : VK) (E : XK), Room k (A.deeper (envOfC x (defScope st) s.heap.objs.size f cdv)) → sp vs H Q E →
      ∃ t, PSs (cxOf (L2.CX e.P e.w) e.P e.w e.K e.mg e.base N x (defScope st) f cdv A outer s H E).nox (defBody st) t ∧ t { nx := fun _ H' => Q .non H', rt := Q } (start N vs) H) : FnOk e.P e.w e.K e.mg e.base (L2.CX e.P e.w) (k + 1) f fd ps sp :=
  F.ok S len fun cdv A outer s H vs Q E hr h => by
    obtain ⟨t, h1, h2⟩ := hbody cdv f A outer s H vs Q E hr h
    exact ⟨t, h1.nox, h2⟩
theorem can_of {e : Wd} {x : Str} {st : Stmt} {N ps : List Str} {k : Nat} {sp : Sp} (D : DefAt e x st) (S : FnScope N ps (defScope st)) (B : BindOk x st ps) (len : ∀ vs H Q E, sp vs H Q E → vs.length = ps.length)
    (hbody : ∀ (cdv : Value) (f : Addr) (A : Around) (outer : List Env) (s : Shared) (H : Hp) (vs : List V) (Q : VK) (E : XK), Room k (A.deeper (envOfC x (defScope st) s.heap.objs.size f cdv)) → sp vs H Q E →
      ∃ t, PSs (cxOf (L2.CX e.P e.w) e.P e.w e.K e.mg e.base N x (defScope st) f cdv A outer s H E).nox (defBody st) t ∧ t { nx := fun _ H' => Q .non H', rt := Q } (start N vs) H) : Can e (k + 1) x ps sp := by
  obtain ⟨f, fd, F, m⟩ := D
  exact ⟨f, fd, fnok_of F S len hbody, m, F.kp, F.bindsN B⟩
/-- a text, an int of the module's -/
theorem pe_gs {x z : Str} {pos : Pos} (h : ∃ t, X.mg x = some (.str z t)) (hg : Gl X x := by rfl) (hd : (x == ("__debug__" : Str)) = false := by decide) : PE X (.Name x pos) (tC (.str z)) := by
  obtain ⟨t, h⟩ := h
  exact pe_glob hg h ⟨t, rfl⟩ hd
theorem pe_gi {x : Str} {i : Int} {pos : Pos} (h : ∃ t, X.mg x = some (.int i t)) (hg : Gl X x := by rfl) (hd : (x == ("__debug__" : Str)) = false := by decide) : PE X (.Name x pos) (tC (.int i)) := by
  obtain ⟨t, h⟩ := h
  exact pe_glob hg h ⟨t, rfl⟩ hd
end
end Dk

/-! What a reading asks, word by word; a walk over readings. -/
namespace Dk
open PySem PySem.Spec PyProof.Rows L2
section
variable {X : Cx} {K : PySem.W.Frag} {σ : L2.St} {H : Hp} {Q : VK} {QB : Bool → Hp → Prop} {D : Ends} {ta tb tc te : TE} {t u c : TT} {r r' : R2} {i : Nat} {x y v : V} {tA tA' : TA} {tS uS : TS}
/-! ### rules that are lacking in the modules: a value's truth; what a for walks, of any kind -/
def tTru (K : PySem.W.Frag) (te : TE) : TT := fun σ H Q => te σ H fun x H' => ∃ k, TruV K x H' k ∧ Q k H'
theorem pt_tru {a : Expr} (ha : PE X a te) (hK : X.K = K := by rfl) (he : ∀ whole, isTrue a X.env whole = (do let v ← whole; standAt a.pos; holding [v] (truthy v)) := by intro _; rfl) : PT X a (tTru K te) := by
  subst hK
  exact pt_truth ha he
theorem pior {tg e : Expr} {w1 w2 : TI} (h1 : PI X tg e w1) (h2 : PI X tg e w2) : PI X tg e (fun σ H R => w1 σ H R ∨ w2 σ H R) :=
  ⟨fun pins s σ H R I h => h.elim (h1.run pins s σ H R I) (h2.run pins s σ H R I)⟩
theorem peor {e : Expr} {w1 w2 : TE} (h1 : PE X e w1) (h2 : PE X e w2) : PE X e (fun σ H R => w1 σ H R ∨ w2 σ H R) :=
  ⟨fun pins s σ H R I h => h.elim (h1.run pins s σ H R I) (h2.run pins s σ H R I)⟩
/-- a list, a tuple, a text -/
def iU (K : PySem.W.Frag) (te : TE) : TI := fun σ H R => te σ H fun x H1 => match x with
  | .ref a => ((∃ xs, SqL K H1 a xs) ∧ R (Itl K a) H1) ∨ ((∃ xs, SqT K H1 a xs) ∧ R (Itt K a) H1)
  | .str z => R (Its z) H1
  | _ => False
theorem pi_U {tg l : Expr} (hl : PE X l te) (hK : X.K = K := by rfl) : PI X tg l (iU K te) := by
  subst hK
  refine ⟨fun pins s σ H R I h => ?_⟩
  refine thn (hl.run pins s σ H _ I h) fun v s1 ⟨x, H1, I1, r1, q1⟩ => ?_
  cases x with
  | ref a =>
    cases r1
    rcases q1 with ⟨⟨xs, hq⟩, q⟩ | ⟨⟨xs, hq⟩, q⟩
    · obtain ⟨its, rv, p, hz⟩ := I1.list hq
      refine wpAny_pyIter_list p.isList ?_
      refine ⟨s1.heap.objs.size, [s1.heap.objs.size], _, _, H1, rfl, I1.kept (t' := s1.toks) fun b o e => Heap.get?_push_of_some _ e, turn_list a _, ⟨_, Heap.get?_push_size _ rfl, rfl, rfl⟩, fun b hb => ?_, q⟩
      have e : b = s1.heap.objs.size := by simpa using hb
      subst e
      exact I1.fpOk (Nat.le_refl _) (I1.hok.fresh (Nat.le_refl _))
    · obtain ⟨its, rv, p, hz⟩ := I1.tuple hq
      refine wpAny_pyIter_tuple (show s1.heap.IsTuple a its.toArray from p) ?_
      refine ⟨s1.heap.objs.size, [s1.heap.objs.size], _, _, H1, rfl, I1.kept (t' := s1.toks) fun b o e => Heap.get?_push_of_some _ e, turn_tuple a _, ⟨_, Heap.get?_push_size _ rfl, rfl, rfl⟩, fun b hb => ?_, q⟩
      have e : b = s1.heap.objs.size := by simpa using hb
      subst e
      exact I1.fpOk (Nat.le_refl _) (I1.hok.fresh (Nat.le_refl _))
  | str z =>
    obtain ⟨t, rfl⟩ := r1
    cases ha : z.cps.all (· < 128)
    · exact wpAny_pyIter_wide ha (pi_one (tk := s1.toks) I1 _ (turn_str _ z t "str_iterator" (.inr rfl)) ⟨_, Heap.get?_push_size _ rfl, rfl, rfl⟩ q1)
    · exact wpAny_pyIter_ascii ha (pi_one (tk := s1.toks) I1 _ (turn_str _ z t "str_ascii_iterator" (.inl rfl)) ⟨_, Heap.get?_push_size _ rfl, rfl, rfl⟩ q1)
  | _ => exact False.elim q1
theorem pe_notU {a : Expr} {pos : Pos} (ha : PE X a ta) (hK : X.K = K := by rfl) : PE X (.UnaryOp .Not a pos) (tNotT K ta) := by
  subst hK
  exact pe_notT ha
theorem pe_andU {a b : Expr} {rest : List Expr} {pos : Pos} (ha : PE X a ta) (hb : PE X (.BoolOp .And (b :: rest) pos) tb) (hK : X.K = K := by rfl) : PE X (.BoolOp .And (a :: b :: rest) pos) (tAndT K ta tb) := by
  subst hK
  exact pe_andT ha hb
theorem pe_orU {a b : Expr} {rest : List Expr} {pos : Pos} (ha : PE X a ta) (hb : PE X (.BoolOp .Or (b :: rest) pos) tb) (hK : X.K = K := by rfl) : PE X (.BoolOp .Or (a :: b :: rest) pos) (tOrT K ta tb) := by
  subst hK
  exact pe_orT ha hb
theorem pg_tupU {es : List Expr} {k : Nat} {t : TGs} {n : Nat} {pos : Pos} (hc : X.calm = true) (h : PGs X es t) (hK : X.K = K := by rfl)
    (hn : (assignEach es X.env).length = n := by rfl) (hst : (assignEach es X.env).findIdx? (·.1) = none := by rfl) : PG X (.Tuple es k pos) (gTup K n t) := by
  subst hK
  exact pg_tup hc h hn hst
theorem pe_bmU {T id : String} {name : Str} {r : V → List V → Hp → VK → Prop} {o e : Expr} {es : List Expr} {apos cpos : Pos} (pa : PlainAttrs T) (slot : Slot T name id) (hty : typeOf (.builtin id) = pure (.type "method_descriptor")) (hm : MtR X id r) (ho : PE X o te) (ha : PA X (e :: es) tA)
    (hK : X.K = K := by rfl) (hbase : attributeBase o name X.env (eval o X.env) = eval o X.env := by rfl)
    (hfew : ((backTo cpos (starEach (e :: es) X.env)).all (fun x => !x.1) && (backToKw cpos (keywordEach [] X.env)).all (fun x => x.1.isSome)
      && decide ((e :: es).length + ([] : List Keyword).length + (if ([] : List Keyword).isEmpty then 0 else 1) < 30)) = true := by rfl)
    (hline : (apos.endLine == cpos.line) = true := by rfl) (hs : starEach (e :: es) X.env = (false, eval e X.env) :: starEach es X.env := by rfl) (hplain : (backTo cpos (starEach es X.env)).any (·.1) = false := by rfl) :
    PE X (.Call (.Attribute o name apos) (e :: es) [] cpos) (tBM K T r te tA) := by
  subst hK
  exact pe_bm pa slot hty hm ho ha hbase hfew hline hs hplain
theorem pe_bm0U {T id : String} {name : Str} {r : V → List V → Hp → VK → Prop} {o : Expr} {apos cpos : Pos} (pa : PlainAttrs T) (slot : Slot T name id) (hty : typeOf (.builtin id) = pure (.type "method_descriptor")) (hm : MtR X id r) (ho : PE X o te)
    (hK : X.K = K := by rfl) (hbase : attributeBase o name X.env (eval o X.env) = eval o X.env := by rfl) (hline : (apos.endLine == cpos.line) = true := by rfl) : PE X (.Call (.Attribute o name apos) [] [] cpos) (tBM0 K T r te) := by
  subst hK
  exact pe_bm0 pa slot hty hm ho hbase hline
/-! ### readings: expressions -/
/-- a truth value is wanted, an int is wanted -/
def bq (x : V) (H : Hp) (QB : Bool → Hp → Prop) : Prop := ∃ k, x = .bl k ∧ QB k H
def trq (K : PySem.W.Frag) (x : V) (H : Hp) (QB : Bool → Hp → Prop) : Prop := ∃ k, TruV K x H k ∧ QB k H
def newq (n : Nat) (o : HO) (H : Hp) (Q : VK) : Prop := n ≤ sizeLine ∧ ∀ p, H p = none → Q (.ref p) (upd H p o)
def parq (a b : Nat) (vs : List V) (σ : L2.St) (D : Ends) (H : Hp) : Prop := ∃ v w, vs = [v, w] ∧ D.nx ((σ.set a (some v)).set b (some w)) H
def iq (x : V) (P : Int → Prop) : Prop := ∃ n, x = .int n ∧ P n
theorem r_var (h : σ[i]? = some (some v)) (q : Q v H) : tVar i σ H Q := ⟨v, h, q⟩
theorem r_c (q : Q v H) : tC v σ H Q := q
theorem r_op (q : ta σ H fun x H1 => tb σ H1 fun y H2 => r x y H2 Q) : tOp r ta tb σ H Q := q
theorem r_un {f : V → Hp → VK → Prop} (q : ta σ H fun x H1 => f x H1 Q) : tUn f ta σ H Q := q
theorem r_neg {g : Int → V} {n : Int} (q : Q (g n) H) : rU g (.int n) H Q := ⟨n, rfl, q⟩
theorem r_test (q : te σ H fun x H1 => bq x H1 QB) : tTest te σ H QB := q
theorem r_tB (q : te σ H fun x H1 => bq x H1 QB) : tB te σ H QB := q
theorem r_bl {b : Bool} {H : Hp} (q : QB b H) : bq (.bl b) H QB := ⟨b, rfl, q⟩
theorem r_tru (q : te σ H fun x H1 => trq K x H1 QB) : tTru K te σ H QB := q
theorem r_trub {b : Bool} (q : QB b H) : trq K (.bl b) H QB := ⟨b, rfl, q⟩
theorem r_trui {n : Int} (q : QB (n != 0) H) : trq K (.int n) H QB := ⟨_, rfl, q⟩
theorem r_trun (q : QB false H) : trq K .non H QB := ⟨_, rfl, q⟩
theorem r_trus {z : Str} (hz : z.length ≤ sizeLine) (q : QB ((z.length : Int) != 0) H) : trq K (.str z) H QB := ⟨_, ⟨hz, rfl⟩, q⟩
theorem r_trul {p : Addr} {xs : List V} (h : SqL K H p xs) (q : QB (!xs.isEmpty) H) : trq K (.ref p) H QB := ⟨_, .inl ⟨xs, h, rfl⟩, q⟩
theorem r_trut {p : Addr} {xs : List V} (h : SqT K H p xs) (q : QB (!xs.isEmpty) H) : trq K (.ref p) H QB := ⟨_, .inr (.inl ⟨xs, h, rfl⟩), q⟩
theorem r_and (q : t σ H fun b H1 => if b = true then u σ H1 QB else QB false H1) : tAnd t u σ H QB := q
theorem r_or (q : t σ H fun b H1 => if b = true then QB true H1 else u σ H1 QB) : tOr t u σ H QB := q
theorem r_not (q : t σ H fun b H1 => QB (!b) H1) : tNot t σ H QB := q
theorem r_andT (q : ta σ H fun x H1 => trq K x H1 fun k H2 => if k = true then tb σ H2 Q else Q x H2) : tAndT K ta tb σ H Q := q
theorem r_orT (q : ta σ H fun x H1 => trq K x H1 fun k H2 => if k = true then Q x H2 else tb σ H2 Q) : tOrT K ta tb σ H Q := q
theorem r_notT (q : ta σ H fun x H1 => trq K x H1 fun k H2 => Q (.bl (!k)) H2) : tNotT K ta σ H Q := q
theorem r_ifx (q : t σ H fun b H1 => if b = true then ta σ H1 Q else tb σ H1 Q) : tIf t ta tb σ H Q := q
theorem r_chain (q : ta σ H fun x H1 => tb σ H1 fun y H2 => r x y H2 fun z H3 => bq z H3 fun k H4 => if k = true then tc σ H4 (fun w H5 => r' y w H5 Q) else Q (.bl false) H4) : tChain r r' ta tb tc σ H Q := q
theorem r_nil {QA : List V → Hp → Prop} (q : QA [] H) : tNil σ H QA := q
theorem r_cons {QA : List V → Hp → Prop} (q : ta σ H fun x H1 => tA σ H1 fun xs H2 => QA (x :: xs) H2) : tCons ta tA σ H QA := q
theorem r_tup (q : tA σ H fun xs H1 => newq xs.length (.tup xs) H1 Q) : tTup tA σ H Q := q
theorem r_lst (q : tA σ H fun xs H1 => newq xs.length (.lst xs) H1 Q) : tLst tA σ H Q := q
/-- a new object: the heap behind it by what is known of it -/
theorem r_new {o : HO} {n : Nat} (hn : n ≤ sizeLine) (k : ∀ p H', H p = none → Same H H' → H' p = some o → Q (.ref p) H') : newq n o H Q :=
  ⟨hn, fun p np => k p _ np (same_new np) upd_same⟩
theorem r_new0 {o : HO} (k : ∀ p H', H p = none → Same H H' → H' p = some o → Q (.ref p) H') : ∀ p, H p = none → Q (.ref p) (upd H p o) :=
  fun p np => k p _ np (same_new np) upd_same
theorem r_cb {f : List V → Hp → VK → Prop} (q : tA σ H fun vs H1 => f vs H1 Q) : tCB f tA σ H Q := q
theorem r_call {sp : Sp} {E : XK} (q : tA σ H fun vs H1 => sp vs H1 Q E) : tCall sp [] E tA σ H Q := by
  show tA σ H fun vs H1 => sp (vs ++ []) H1 Q E
  have e : (fun vs H1 => sp (vs ++ []) H1 Q E) = fun (vs : List V) H1 => sp vs H1 Q E := by
    funext vs H1
    rw [List.append_nil]
  rw [e]
  exact q
theorem r_bm {T : String} {f : V → List V → Hp → VK → Prop} (q : ta σ H fun x H1 => tyV K T x H1 ∧ tA σ H1 fun xs H2 => f x xs H2 Q) : tBM K T f ta tA σ H Q := q
theorem r_bm0 {T : String} {f : V → List V → Hp → VK → Prop} (q : ta σ H fun x H1 => tyV K T x H1 ∧ f x [] H1 Q) : tBM0 K T f ta σ H Q := q
theorem r_tys {z : Str} {P : Prop} (q : P) : tyV K "str" (.str z) H ∧ P := ⟨rfl, q⟩
theorem r_tyl {p : Addr} {xs : List V} {P : Prop} (h : H p = some (.lst xs)) (q : P) : tyV K "list" (.ref p) H ∧ P := ⟨.inl ⟨rfl, xs, SqL.of h⟩, q⟩
theorem r_sl {f : V → Option Int → Option Int → Hp → VK → Prop} {tl th : TO} (q : te σ H fun x H1 => tl σ H1 fun l H2 => th σ H2 fun h H3 => f x l h H3 Q) : tSl f te tl th σ H Q := q
theorem r_part {QO : Option Int → Hp → Prop} (q : te σ H fun x H1 => iq x fun n => QO (some n) H1) : tPart te σ H QO := q
theorem r_nopart {QO : Option Int → Hp → Prop} (q : QO none H) : tNoPart σ H QO := q
/-! values -/
theorem r_addI {n m : Int} (q : Q (.int (n + m)) H) : uAdd K (.int n) (.int m) H Q := q
theorem r_addS {a b : Str} (h : a.length + b.length ≤ sizeLine) (q : Q (.str (a ++ b)) H) : uAdd K (.str a) (.str b) H Q := ⟨h, q⟩
theorem r_addT {a b : Addr} {xs ys : List V} (ha : H a = some (.tup xs)) (hb : H b = some (.tup ys)) (hl : xs.length + ys.length ≤ sizeLine) (k : ∀ p H', Same H H' → H' p = some (.tup (xs ++ ys)) → Q (.ref p) H') : uAdd K (.ref a) (.ref b) H Q := by
  refine .inr ⟨a, b, xs, ys, rfl, rfl, SqT.of ha, SqT.of hb, hl, fun e => ?_, fun _ e => ?_, fun _ _ p np => k p _ (same_new np) upd_same⟩
  · exact k b H (Same.refl H) (by rw [e, List.nil_append]; exact hb)
  · exact k a H (Same.refl H) (by rw [e, List.append_nil]; exact ha)
theorem r_addL {a b : Addr} {xs ys : List V} (ha : H a = some (.lst xs)) (hb : H b = some (.lst ys)) (hl : xs.length + ys.length ≤ sizeLine) (k : ∀ p H', H p = none → Same H H' → H' p = some (.lst (xs ++ ys)) → Q (.ref p) H') : uAdd K (.ref a) (.ref b) H Q :=
  .inl ⟨a, b, xs, ys, rfl, rfl, ha, hb, hl, fun p np => k p _ np (same_new np) upd_same⟩
theorem r_I {C : Int → Int → Prop} {g : Int → Int → V} {n m : Int} (h : C n m) (q : Q (g n m) H) : uI C g (.int n) (.int m) H Q := ⟨h, q⟩
theorem r_I0 {g : Int → Int → V} {n m : Int} (q : Q (g n m) H) : uI0 g (.int n) (.int m) H Q := q
theorem r_mulI {n m : Int} (h : CMul n m) (q : Q (.int (n * m)) H) : uMul (.int n) (.int m) H Q := ⟨h, q⟩
theorem r_mulL {a : Addr} {n : Int} {xs : List V} (ha : H a = some (.lst xs)) (h0 : -(2 ^ 63) ≤ n) (h1 : n < 2 ^ 63) (hl : xs.length * n.toNat ≤ sizeLine) (k : ∀ p H', H p = none → Same H H' → H' p = some (.lst (List.replicate n.toNat xs).flatten) → Q (.ref p) H') : uMul (.ref a) (.int n) H Q :=
  ⟨a, n, xs, rfl, rfl, ha, h0, h1, hl, fun p np => k p _ np (same_new np) upd_same⟩
theorem r_eqI {n m : Int} (q : Q (.bl (decide (n = m))) H) : uEq K (.int n) (.int m) H Q := q
theorem r_eqS {n m : Str} (q : Q (.bl (decide (n = m))) H) : uEq K (.str n) (.str m) H Q := q
theorem r_neI {n m : Int} (q : Q (.bl (!decide (n = m))) H) : uNe K (.int n) (.int m) H Q := q
theorem r_neS {n m : Str} (q : Q (.bl (!decide (n = m))) H) : uNe K (.str n) (.str m) H Q := q
theorem r_eqB {n m : Bool} (q : Q (.bl (decide (V.bl n = V.bl m))) H) : uEq K (.bl n) (.bl m) H Q := .inl ⟨rfl, q⟩
theorem r_eqD {a : Addr} {y : V} {d f : PyData} (hx : Dq H (.ref a) d) (hy : Dq H y f) (sd : SeqAt.shaped d = true) (sf : SeqAt.shaped f = true) (q : Q (.bl (PyData.eqv d f)) H) : uEq K (.ref a) y H Q := by
  have z : rEqD K (.ref a) y H Q := ⟨d, f, hx.dp, hy.dp, sd, sf, q⟩
  cases y <;> exact .inr z
theorem r_eqD2 {a : Addr} {x : V} {d f : PyData} (hx : Dq H x d) (hy : Dq H (.ref a) f) (sd : SeqAt.shaped d = true) (sf : SeqAt.shaped f = true) (q : Q (.bl (PyData.eqv d f)) H) : uEq K x (.ref a) H Q := by
  have z : rEqD K x (.ref a) H Q := ⟨d, f, hx.dp, hy.dp, sd, sf, q⟩
  cases x <;> exact .inr z
theorem r_neD {a : Addr} {y : V} {d f : PyData} (hx : Dq H (.ref a) d) (hy : Dq H y f) (sd : SeqAt.shaped d = true) (sf : SeqAt.shaped f = true) (q : Q (.bl (!PyData.eqv d f)) H) : uNe K (.ref a) y H Q := by
  have z : rNeD K (.ref a) y H Q := ⟨d, f, hx.dp, hy.dp, sd, sf, q⟩
  cases y <;> exact .inr z
theorem r_neD2 {a : Addr} {x : V} {d f : PyData} (hx : Dq H x d) (hy : Dq H (.ref a) f) (sd : SeqAt.shaped d = true) (sf : SeqAt.shaped f = true) (q : Q (.bl (!PyData.eqv d f)) H) : uNe K x (.ref a) H Q := by
  have z : rNeD K x (.ref a) H Q := ⟨d, f, hx.dp, hy.dp, sd, sf, q⟩
  cases x <;> exact .inr z
theorem r_isN (q : Q (.bl (decide (x = .non))) H) : uIs x .non H Q := q
theorem r_isB {a b : Bool} (q : Q (.bl (decide (a = b))) H) : uIs (.bl a) (.bl b) H Q := q
theorem r_isnotN (q : Q (.bl (!decide (x = .non))) H) : uIsNot x .non H Q := q
theorem r_isnotB {a b : Bool} (q : Q (.bl (!decide (a = b))) H) : uIsNot (.bl a) (.bl b) H Q := q
theorem r_inS {a b : Str} (q : Q (.bl (occ a b)) H) : uIn K (.str a) (.str b) H Q := q
theorem r_notinS {a b : Str} (q : Q (.bl (!occ a b)) H) : uNotIn K (.str a) (.str b) H Q := q
theorem r_inT {p : Addr} {xs : List V} (h : H p = some (.tup xs)) (hx : flatV x = true) (ha : xs.all flatV = true) (q : Q (.bl (inV x xs)) H) : uIn K x (.ref p) H Q := .inl ⟨p, xs, rfl, .inr (SqT.of h), hx, ha, q⟩
theorem r_inL {p : Addr} {xs : List V} (h : H p = some (.lst xs)) (hx : flatV x = true) (ha : xs.all flatV = true) (q : Q (.bl (inV x xs)) H) : uIn K x (.ref p) H Q := .inl ⟨p, xs, rfl, .inl (SqL.of h), hx, ha, q⟩
theorem r_notinT {p : Addr} {xs : List V} (h : H p = some (.tup xs)) (hx : flatV x = true) (ha : xs.all flatV = true) (q : Q (.bl (!inV x xs)) H) : uNotIn K x (.ref p) H Q := .inl ⟨p, xs, rfl, .inr (SqT.of h), hx, ha, q⟩
theorem r_lenS {z : Str} (h : z.length ≤ sizeLine) (q : Q (.int z.length) H) : uLen K [.str z] H Q := ⟨h, q⟩
theorem r_lenT {p : Addr} {xs : List V} (h : H p = some (.tup xs)) (q : Q (.int xs.length) H) : uLen K [.ref p] H Q := ⟨xs.length, .inr ⟨xs, SqT.of h, rfl⟩, q⟩
theorem r_lenL {p : Addr} {xs : List V} (h : SqL K H p xs) (q : Q (.int xs.length) H) : uLen K [.ref p] H Q := ⟨xs.length, .inl ⟨xs, h, rfl⟩, q⟩
theorem r_intI {n : Int} (q : Q (.int n) H) : uInt [.int n] H Q := q
theorem r_intB {b : Bool} (q : Q (.int (if b then 1 else 0)) H) : uInt [.bl b] H Q := q
theorem r_tupleL {p : Addr} {xs : List V} (h : H p = some (.lst xs)) (k : ∀ p H', H p = none → Same H H' → H' p = some (.tup xs) → Q (.ref p) H') : uTuple K [.ref p] H Q := ⟨xs, .inl ⟨SqL.of h, r_new0 k⟩⟩
theorem r_tupleT {p : Addr} {xs : List V} (h : H p = some (.tup xs)) (q : Q (.ref p) H) : uTuple K [.ref p] H Q := ⟨xs, .inr ⟨SqT.of h, q⟩⟩
theorem r_listT {p : Addr} {xs : List V} (h : H p = some (.tup xs)) (k : ∀ p H', H p = none → Same H H' → H' p = some (.lst xs) → Q (.ref p) H') : uList K [.ref p] H Q := ⟨xs, .inr (SqT.of h), r_new0 k⟩
theorem r_listL {p : Addr} {xs : List V} (h : H p = some (.lst xs)) (k : ∀ p H', H p = none → Same H H' → H' p = some (.lst xs) → Q (.ref p) H') : uList K [.ref p] H Q := ⟨xs, .inl (SqL.of h), r_new0 k⟩
theorem r_isi {n m : String} {b : Bool} (h : tyN H x = some n) (hk : kitB n m = some b) (q : Q (.bl b) H) : uIsi K [x, .ty m] H Q := ⟨n, b, h, hk, q⟩
theorem tyN_t {p : Addr} {xs : List V} (h : H p = some (.tup xs)) : tyN H (.ref p) = some "tuple" := by
  show tyO (H p) = some "tuple"
  rw [h] <;> rfl
theorem tyN_l {p : Addr} {xs : List V} (h : H p = some (.lst xs)) : tyN H (.ref p) = some "list" := by
  show tyO (H p) = some "list"
  rw [h] <;> rfl
theorem r_ixT {p : Addr} {xs : List V} {n : Int} (h : H p = some (.tup xs)) (ha : atI xs n = some v) (q : Q v H) : uIx K (.ref p) (.int n) H Q := ⟨xs, v, .inr (SqT.of h), ha, q⟩
theorem r_ixL {p : Addr} {xs : List V} {n : Int} (h : SqL K H p xs) (ha : atI xs n = some v) (q : Q v H) : uIx K (.ref p) (.int n) H Q := ⟨xs, v, .inl h, ha, q⟩
theorem r_slS {z : Str} {lo hi : Option Int} (h : z.length ≤ sizeLine) (q : Q (.str (cutS z lo hi)) H) : uSl K (.str z) lo hi H Q := ⟨h, q⟩
theorem r_slL {p : Addr} {xs : List V} {lo hi : Option Int} (h : H p = some (.lst xs)) (k : ∀ p H', H p = none → Same H H' → H' p = some (.lst (cutV xs lo hi)) → Q (.ref p) H') : uSl K (.ref p) lo hi H Q := .inl ⟨p, xs, rfl, SqL.of h, r_new0 k⟩
theorem r_S1 {f : Str → Str → V} {a b : Str} (q : Q (f a b) H) : uS1 f (.str a) [.str b] H Q := q
theorem r_S1l {f : Str → Str → V} {a b : Str} (h : a.length ≤ sizeLine) (q : Q (f a b) H) : uS1l f (.str a) [.str b] H Q := ⟨h, q⟩
theorem r_S0 {f : Str → V} {a : Str} (h : a.length ≤ 5592405) (q : Q (f a) H) : uS0 f (.str a) [] H Q := ⟨h, q⟩
theorem r_split {a b : Str} (hb : (b.length == 0) = false) (ha : a.length + 2 ≤ sizeLine) (k : ∀ p H', H p = none → Same H H' → H' p = some (.lst ((Txt.split a b).map V.str)) → Q (.ref p) H') : uSplit (.str a) [.str b] H Q := ⟨hb, ha, r_new0 k⟩
theorem r_join {a : Str} {p : Addr} {ys : List Str} (h : H p = some (.lst (ys.map V.str))) (hl : (ys.map (·.length)).sum + ys.length * a.length ≤ 16777216) (q : Q (.str (Txt.join a ys)) H) : uJoin K (.str a) [.ref p] H Q := ⟨ys, .inl (SqL.of h), hl, q⟩
theorem r_joinT {a : Str} {p : Addr} {ys : List Str} (h : H p = some (.tup (ys.map V.str))) (hl : (ys.map (·.length)).sum + ys.length * a.length ≤ 16777216) (q : Q (.str (Txt.join a ys)) H) : uJoin K (.str a) [.ref p] H Q := ⟨ys, .inr (SqT.of h), hl, q⟩
/-! ### statements -/
theorem r_seq (q : tS (Ends.mk (uS D) D.rt D.bk D.ct) σ H) : tSeq tS uS D σ H := q
theorem r_set (q : te σ H fun x H1 => D.nx (σ.set i (some x)) H1) : tAsg te (gName i) D σ H := q
theorem r_asg {g : TG} (q : te σ H fun x H1 => g x σ H1 D.nx) : tAsg te g D σ H := q
theorem r_gname {QG : L2.St → Hp → Prop} (q : QG (σ.set i (some v)) H) : gName i v σ H QG := q
theorem r_gsub {ts : TSet} {QG : L2.St → Hp → Prop} (q : ta σ H fun o H1 => tb σ H1 fun j H2 => ts o j v H2 fun H3 => QG σ H3) : gSub ta tb ts v σ H QG := q
theorem r_gtup {ts : TGs} {n : Nat} {QG : L2.St → Hp → Prop} {p : Addr} {xs : List V} (h : H p = some (.tup xs)) (hl : xs.length = n) (q : ts xs σ H QG) : gTup K n ts (.ref p) σ H QG := ⟨p, xs, rfl, SqT.of h, hl, q⟩
theorem r_gcons {g : TG} {ts : TGs} {xs : List V} {QG : L2.St → Hp → Prop} (q : g x σ H fun σ' H' => ts xs σ' H' QG) : gCons g ts (x :: xs) σ H QG := ⟨x, xs, rfl, q⟩
theorem r_gnil {QG : L2.St → Hp → Prop} (q : QG σ H) : gNil [] σ H QG := ⟨rfl, q⟩
/-- xs[j] = v, the place known -/
theorem r_setL {a : Addr} {n : Int} {xs : List V} {j : Nat} {Qh : Hp → Prop} (h : H a = some (.lst xs)) (hj : ixN xs.length n = some j) (k : ∀ H', H' a = some (.lst (xs.set j v)) → (∀ b, b ≠ a → H' b = H b) → Qh H') : rSetL (.ref a) (.int n) v H Qh :=
  ⟨a, xs, n, j, rfl, rfl, h, hj, k _ upd_same fun b hb => upd_ne hb⟩
theorem r_par {a b : Nat} (q : tA σ H fun vs H1 => parq a b vs σ D H1) : tPar a b tA D σ H := q
theorem r_par2 {a b : Nat} {v w : V} (q : D.nx ((σ.set a (some v)).set b (some w)) H) : parq a b [v, w] σ D H := ⟨v, w, rfl, q⟩
theorem r_drop (q : te σ H fun _ H1 => D.nx σ H1) : tDrop te D σ H := q
theorem r_ret (q : te σ H D.rt) : tRet te D σ H := q
theorem r_retN (q : D.rt .non H) : tRetN D σ H := q
theorem r_if (q : t σ H fun b H1 => if b = true then tS D σ H1 else uS D σ H1) : tIfS t tS uS D σ H := q
theorem r_next (q : D.nx σ H) : tNext D σ H := q
theorem r_break (q : D.bk σ H) : tBreak D σ H := q
theorem r_cont (q : D.ct σ H) : tCont D σ H := q
theorem r_augI {f : Int → Int → Int} {n : Int} (h : σ[i]? = some (some (.int n))) (q : te σ H fun y H1 => iq y fun m => D.nx (σ.set i (some (.int (f n m)))) H1) : tAug i te (ipI f) D σ H := by
  refine ⟨_, h, ?_⟩
  have e : (fun y H1 => iq y fun m => D.nx (σ.set i (some (.int (f n m)))) H1) = fun y H1 => (ipI f) (.int n) y H1 fun z H2 => D.nx (σ.set i (some z)) H2 := by
    funext y H1
    refine propext ⟨fun ⟨m, e, q⟩ => ⟨n, m, rfl, e, q⟩, fun ⟨a, b, e1, e2, q⟩ => ⟨b, e2, ?_⟩⟩
    cases e1
    exact q
  rw [← e]
  exact q
theorem r_ex1 {P : Int → Prop} {n : Int} (q : P n) : iq (.int n) P := ⟨n, rfl, q⟩
/-- xs.append(v) -/
theorem r_app {l : Addr} {xs : List V} (h : H l = some (.lst xs)) (hl : xs.length < sizeLine) (k : ∀ H', H' l = some (.lst (xs ++ [v])) → (∀ b, b ≠ l → H' b = H b) → Q .non H') : rAppend (.ref l) [v] H Q :=
  ⟨l, xs, v, rfl, rfl, h, hl, k _ upd_same fun b hb => upd_ne hb⟩
/-! ### ways -/
theorem r_ite {p A B : Prop} [Decidable p] (h1 : p → A) (h2 : ¬ p → B) : if decide p = true then A else B := by
  by_cases h : p
  · rw [if_pos (decide_eq_true h)]
    exact h1 h
  · rw [if_neg (by rw [decide_eq_false h]; exact Bool.false_ne_true)]
    exact h2 h
theorem r_iten {p A B : Prop} [Decidable p] (h1 : ¬ p → A) (h2 : p → B) : if (!decide p) = true then A else B := by
  by_cases h : p
  · rw [if_neg (by rw [decide_eq_true h]; exact Bool.false_ne_true)]
    exact h2 h
  · rw [if_pos (by rw [decide_eq_false h] <;> rfl)]
    exact h1 h
theorem r_itb {b : Bool} {A B : Prop} (h1 : b = true → A) (h2 : b = false → B) : if b = true then A else B := by
  cases b with
  | true => exact h1 rfl
  | false => exact h2 rfl
theorem r_iteT {A B : Prop} (h : A) : if true = true then A else B := h
theorem r_iteF {A B : Prop} (h : B) : if false = true then A else B := by
  rw [if_neg Bool.false_ne_true]
  exact h
theorem r_itnT {A B : Prop} (h : B) : if (!true) = true then A else B := by
  rw [if_neg (by decide)]
  exact h
theorem r_itnF {A B : Prop} (h : A) : if (!false) = true then A else B := h
end
end Dk

namespace Dk
open PySem PySem.Spec PyProof.Rows L2
theorem Drw.mono {H H' : Hp} {a : Addr} (s : Same H H') (h : Drw H a) : Drw H' a := let ⟨x, y, e⟩ := h; ⟨x, y, s _ _ e⟩
theorem same_at {H H' : Hp} {a : Addr} {o : HO} (s : Same H H') (h : H a = some o) : H' a = some o := s a o h
theorem Stp.at_ {a b : Addr} {H H' : Hp} {o : HO} (s : Stp a H H') (h : H b = some o) (n : b ≠ a) : H' b = some o := s.fr b o h n
theorem bt_ValueError : bootBuiltins "ValueError" = some (.type "ValueError") := by decide +kernel
/-- what the top leaves of built-in names: none is hidden -/
structure Bl (mg : Str → Option Value) : Prop where
  b_len : mg "len" = none
  b_int : mg "int" = none
  b_str : mg "str" = none
  b_bool : mg "bool" = none
  b_tuple : mg "tuple" = none
  b_list : mg "list" = none
  b_isinstance : mg "isinstance" = none
  b_range : mg "range" = none
  b_ord : mg "ord" = none
  b_sorted : mg "sorted" = none
  b_min : mg "min" = none
  b_max : mg "max" = none
  b_sum : mg "sum" = none
  b_all : mg "all" = none
  b_any : mg "any" = none
  b_enumerate : mg "enumerate" = none
  b_set : mg "set" = none
  b_zip : mg "zip" = none
  b_dict : mg "dict" = none
  b_reversed : mg "reversed" = none
  b_ValueError : mg "ValueError" = none
theorem r_cut {tS uS : TS} {D : Ends} {σ : L2.St} {H : Hp} (M : L2.St → Hp → Prop) (h1 : tS (Ends.mk M D.rt D.bk D.ct) σ H) (h2 : ∀ σ' H', M σ' H' → uS D σ' H') : Evl.tCut tS uS D σ H := ⟨M, h1, h2⟩
theorem atI_nn {α : Type} {xs : List α} {j : Nat} {x : α} (h : xs[j]? = some x) : atI xs (j : Int) = some x := by
  have hl := (List.getElem?_eq_some_iff.mp h).1
  unfold atI ixN
  rw [if_pos (by omega), if_pos (by omega)]
  simpa using h
theorem atI_mod {ns : List Int} (h : 0 < ns.length) (n : Int) : ∃ v, atI (ns.map V.int) (n % (ns.length : Int)) = some (.int v) := by
  have h1 : 0 ≤ n % (ns.length : Int) := Int.emod_nonneg _ (by omega)
  have h2 : n % (ns.length : Int) < ns.length := Int.emod_lt_of_pos _ (by omega)
  obtain ⟨j, hj⟩ : ∃ j : Nat, n % (ns.length : Int) = j := ⟨(n % (ns.length : Int)).toNat, by omega⟩
  rw [hj]
  have hl : j < ns.length := by omega
  exact ⟨ns[j], atI_nn (by rw [List.getElem?_map, List.getElem?_eq_getElem hl] <;> rfl)⟩
/-- a list is changed that is the law's own state -/
theorem Stp.but {a : Addr} {H H1 H2 : Hp} (s : Stp a H H1) {x y : Int} (h : H2 a = some (.lst [.int x, .int y])) (k : ∀ b, b ≠ a → H2 b = H1 b) : Stp a H H2 := by
  obtain ⟨u, v, e⟩ := s.drw
  have na : ∀ b o, H1 b = some o → (∀ xs, o ≠ .lst xs) → b ≠ a := fun b o q n z => by
    rw [z, e] at q
    exact n _ (Option.some.inj q).symm
  exact ⟨fun b o q n => by rw [k b n]; exact s.fr b o q n,
    ⟨fun b xs q => by rw [k b (na _ _ (s.gro.tup b xs q) fun _ z => by cases z)]; exact s.gro.tup b xs q, fun b o u q => by rw [k b (na _ _ (s.gro.frz b o u q) fun _ z => by cases z)]; exact s.gro.frz b o u q⟩, ⟨x, y, h⟩⟩
theorem from_ {H H' : Hp} {a : Addr} {o : HO} (h : H a = some o) (s : H a = some o → H' a = some o) : H' a = some o := s h
/-- a promise that no error is asked of: nothing leaves the def -/
theorem fnok_0 {P : Program} {w : World} {K : PySem.W.Frag} {mg : Str → Option Value} {base : Heap} {k : Nat} {f : Addr} {fd : FuncData} {ps : List Str} {sp : Sp} (F : FnOk P w K mg base (L2.CX P w) k f fd ps sp) (hE : ∀ vs H Q E, sp vs H Q E → sp vs H Q E0) :
    FnOk P w K mg base CX0 k f fd ps sp :=
  ⟨F.len, fun A outer s H args us vs Q E hr e0 hb r h => codeAny_mono (F.run A outer s H args us vs Q E0 hr e0 hb r (hE _ _ _ _ h)) fun r s' hq => by
    cases r with
    | error e =>
      obtain ⟨_, _, _, _, _, _, _, _, _, _, _, _, z⟩ := hq
      exact z.elim
    | ok fl => cases fl <;> exact hq⟩
/-! short texts -/
abbrev trS : Str := Str.ofString "Received: by "
abbrev atS : Str := Str.ofString "@"
abbrev eS : Str := Str.ofString ""
abbrev dotS : Str := Str.ofString "."
theorem trS_len : (Str.ofString "Received: by ").length = 13 := by decide +kernel
theorem atS_len : (Str.ofString "@").length = 1 := by decide +kernel
theorem eS_len : (Str.ofString "").length = 0 := by decide +kernel
theorem dotS_len : (Str.ofString ".").length = 1 := by decide +kernel
/-! isinstance of built-in values -/
theorem kit_NoneType_int : kitB "NoneType" "int" = some false := by decide +kernel
theorem kit_NoneType_bool : kitB "NoneType" "bool" = some false := by decide +kernel
theorem kit_NoneType_tuple : kitB "NoneType" "tuple" = some false := by decide +kernel
theorem kit_NoneType_str : kitB "NoneType" "str" = some false := by decide +kernel
theorem kit_NoneType_list : kitB "NoneType" "list" = some false := by decide +kernel
theorem kit_bool_int : kitB "bool" "int" = some true := by decide +kernel
theorem kit_bool_bool : kitB "bool" "bool" = some true := by decide +kernel
theorem kit_bool_tuple : kitB "bool" "tuple" = some false := by decide +kernel
theorem kit_bool_str : kitB "bool" "str" = some false := by decide +kernel
theorem kit_bool_list : kitB "bool" "list" = some false := by decide +kernel
theorem kit_int_int : kitB "int" "int" = some true := by decide +kernel
theorem kit_int_bool : kitB "int" "bool" = some false := by decide +kernel
theorem kit_int_tuple : kitB "int" "tuple" = some false := by decide +kernel
theorem kit_int_str : kitB "int" "str" = some false := by decide +kernel
theorem kit_int_list : kitB "int" "list" = some false := by decide +kernel
theorem kit_str_int : kitB "str" "int" = some false := by decide +kernel
theorem kit_str_bool : kitB "str" "bool" = some false := by decide +kernel
theorem kit_str_tuple : kitB "str" "tuple" = some false := by decide +kernel
theorem kit_str_str : kitB "str" "str" = some true := by decide +kernel
theorem kit_str_list : kitB "str" "list" = some false := by decide +kernel
theorem kit_list_int : kitB "list" "int" = some false := by decide +kernel
theorem kit_list_bool : kitB "list" "bool" = some false := by decide +kernel
theorem kit_list_tuple : kitB "list" "tuple" = some false := by decide +kernel
theorem kit_list_str : kitB "list" "str" = some false := by decide +kernel
theorem kit_list_list : kitB "list" "list" = some true := by decide +kernel
theorem kit_tuple_int : kitB "tuple" "int" = some false := by decide +kernel
theorem kit_tuple_bool : kitB "tuple" "bool" = some false := by decide +kernel
theorem kit_tuple_tuple : kitB "tuple" "tuple" = some true := by decide +kernel
theorem kit_tuple_str : kitB "tuple" "str" = some false := by decide +kernel
theorem kit_tuple_list : kitB "tuple" "list" = some false := by decide +kernel
/-! promises by the number of the arguments -/
def sp1 (f : V → Hp → VK → XK → Prop) : Sp := fun vs H Q E => match vs with
  | [v0] => f v0 H Q E
  | _ => False
theorem sp1_ex {f : V → Hp → VK → XK → Prop} {vs : List V} {H : Hp} {Q : VK} {E : XK} (h : sp1 f vs H Q E) : ∃ v0, vs = [v0] ∧ f v0 H Q E := by
  match vs, h with
  | [v0], h => exact ⟨_, rfl, h⟩
theorem sp1_len {f : V → Hp → VK → XK → Prop} {vs : List V} {H : Hp} {Q : VK} {E : XK} (h : sp1 f vs H Q E) : vs.length = 1 := by
  match vs, h with
  | [v0], h => rfl
def sp2 (f : V → V → Hp → VK → XK → Prop) : Sp := fun vs H Q E => match vs with
  | [v0, v1] => f v0 v1 H Q E
  | _ => False
theorem sp2_ex {f : V → V → Hp → VK → XK → Prop} {vs : List V} {H : Hp} {Q : VK} {E : XK} (h : sp2 f vs H Q E) : ∃ v0 v1, vs = [v0, v1] ∧ f v0 v1 H Q E := by
  match vs, h with
  | [v0, v1], h => exact ⟨_, _, rfl, h⟩
theorem sp2_len {f : V → V → Hp → VK → XK → Prop} {vs : List V} {H : Hp} {Q : VK} {E : XK} (h : sp2 f vs H Q E) : vs.length = 2 := by
  match vs, h with
  | [v0, v1], h => rfl
def sp3 (f : V → V → V → Hp → VK → XK → Prop) : Sp := fun vs H Q E => match vs with
  | [v0, v1, v2] => f v0 v1 v2 H Q E
  | _ => False
theorem sp3_ex {f : V → V → V → Hp → VK → XK → Prop} {vs : List V} {H : Hp} {Q : VK} {E : XK} (h : sp3 f vs H Q E) : ∃ v0 v1 v2, vs = [v0, v1, v2] ∧ f v0 v1 v2 H Q E := by
  match vs, h with
  | [v0, v1, v2], h => exact ⟨_, _, _, rfl, h⟩
theorem sp3_len {f : V → V → V → Hp → VK → XK → Prop} {vs : List V} {H : Hp} {Q : VK} {E : XK} (h : sp3 f vs H Q E) : vs.length = 3 := by
  match vs, h with
  | [v0, v1, v2], h => rfl
def sp4 (f : V → V → V → V → Hp → VK → XK → Prop) : Sp := fun vs H Q E => match vs with
  | [v0, v1, v2, v3] => f v0 v1 v2 v3 H Q E
  | _ => False
theorem sp4_ex {f : V → V → V → V → Hp → VK → XK → Prop} {vs : List V} {H : Hp} {Q : VK} {E : XK} (h : sp4 f vs H Q E) : ∃ v0 v1 v2 v3, vs = [v0, v1, v2, v3] ∧ f v0 v1 v2 v3 H Q E := by
  match vs, h with
  | [v0, v1, v2, v3], h => exact ⟨_, _, _, _, rfl, h⟩
theorem sp4_len {f : V → V → V → V → Hp → VK → XK → Prop} {vs : List V} {H : Hp} {Q : VK} {E : XK} (h : sp4 f vs H Q E) : vs.length = 4 := by
  match vs, h with
  | [v0, v1, v2, v3], h => rfl
def sp5 (f : V → V → V → V → V → Hp → VK → XK → Prop) : Sp := fun vs H Q E => match vs with
  | [v0, v1, v2, v3, v4] => f v0 v1 v2 v3 v4 H Q E
  | _ => False
theorem sp5_ex {f : V → V → V → V → V → Hp → VK → XK → Prop} {vs : List V} {H : Hp} {Q : VK} {E : XK} (h : sp5 f vs H Q E) : ∃ v0 v1 v2 v3 v4, vs = [v0, v1, v2, v3, v4] ∧ f v0 v1 v2 v3 v4 H Q E := by
  match vs, h with
  | [v0, v1, v2, v3, v4], h => exact ⟨_, _, _, _, _, rfl, h⟩
theorem sp5_len {f : V → V → V → V → V → Hp → VK → XK → Prop} {vs : List V} {H : Hp} {Q : VK} {E : XK} (h : sp5 f vs H Q E) : vs.length = 5 := by
  match vs, h with
  | [v0, v1, v2, v3, v4], h => rfl
def sp6 (f : V → V → V → V → V → V → Hp → VK → XK → Prop) : Sp := fun vs H Q E => match vs with
  | [v0, v1, v2, v3, v4, v5] => f v0 v1 v2 v3 v4 v5 H Q E
  | _ => False
theorem sp6_ex {f : V → V → V → V → V → V → Hp → VK → XK → Prop} {vs : List V} {H : Hp} {Q : VK} {E : XK} (h : sp6 f vs H Q E) : ∃ v0 v1 v2 v3 v4 v5, vs = [v0, v1, v2, v3, v4, v5] ∧ f v0 v1 v2 v3 v4 v5 H Q E := by
  match vs, h with
  | [v0, v1, v2, v3, v4, v5], h => exact ⟨_, _, _, _, _, _, rfl, h⟩
theorem sp6_len {f : V → V → V → V → V → V → Hp → VK → XK → Prop} {vs : List V} {H : Hp} {Q : VK} {E : XK} (h : sp6 f vs H Q E) : vs.length = 6 := by
  match vs, h with
  | [v0, v1, v2, v3, v4, v5], h => rfl
def sp7 (f : V → V → V → V → V → V → V → Hp → VK → XK → Prop) : Sp := fun vs H Q E => match vs with
  | [v0, v1, v2, v3, v4, v5, v6] => f v0 v1 v2 v3 v4 v5 v6 H Q E
  | _ => False
theorem sp7_ex {f : V → V → V → V → V → V → V → Hp → VK → XK → Prop} {vs : List V} {H : Hp} {Q : VK} {E : XK} (h : sp7 f vs H Q E) : ∃ v0 v1 v2 v3 v4 v5 v6, vs = [v0, v1, v2, v3, v4, v5, v6] ∧ f v0 v1 v2 v3 v4 v5 v6 H Q E := by
  match vs, h with
  | [v0, v1, v2, v3, v4, v5, v6], h => exact ⟨_, _, _, _, _, _, _, rfl, h⟩
theorem sp7_len {f : V → V → V → V → V → V → V → Hp → VK → XK → Prop} {vs : List V} {H : Hp} {Q : VK} {E : XK} (h : sp7 f vs H Q E) : vs.length = 7 := by
  match vs, h with
  | [v0, v1, v2, v3, v4, v5, v6], h => rfl
def sp8 (f : V → V → V → V → V → V → V → V → Hp → VK → XK → Prop) : Sp := fun vs H Q E => match vs with
  | [v0, v1, v2, v3, v4, v5, v6, v7] => f v0 v1 v2 v3 v4 v5 v6 v7 H Q E
  | _ => False
theorem sp8_ex {f : V → V → V → V → V → V → V → V → Hp → VK → XK → Prop} {vs : List V} {H : Hp} {Q : VK} {E : XK} (h : sp8 f vs H Q E) : ∃ v0 v1 v2 v3 v4 v5 v6 v7, vs = [v0, v1, v2, v3, v4, v5, v6, v7] ∧ f v0 v1 v2 v3 v4 v5 v6 v7 H Q E := by
  match vs, h with
  | [v0, v1, v2, v3, v4, v5, v6, v7], h => exact ⟨_, _, _, _, _, _, _, _, rfl, h⟩
theorem sp8_len {f : V → V → V → V → V → V → V → V → Hp → VK → XK → Prop} {vs : List V} {H : Hp} {Q : VK} {E : XK} (h : sp8 f vs H Q E) : vs.length = 8 := by
  match vs, h with
  | [v0, v1, v2, v3, v4, v5, v6, v7], h => rfl
def sp9 (f : V → V → V → V → V → V → V → V → V → Hp → VK → XK → Prop) : Sp := fun vs H Q E => match vs with
  | [v0, v1, v2, v3, v4, v5, v6, v7, v8] => f v0 v1 v2 v3 v4 v5 v6 v7 v8 H Q E
  | _ => False
theorem sp9_ex {f : V → V → V → V → V → V → V → V → V → Hp → VK → XK → Prop} {vs : List V} {H : Hp} {Q : VK} {E : XK} (h : sp9 f vs H Q E) : ∃ v0 v1 v2 v3 v4 v5 v6 v7 v8, vs = [v0, v1, v2, v3, v4, v5, v6, v7, v8] ∧ f v0 v1 v2 v3 v4 v5 v6 v7 v8 H Q E := by
  match vs, h with
  | [v0, v1, v2, v3, v4, v5, v6, v7, v8], h => exact ⟨_, _, _, _, _, _, _, _, _, rfl, h⟩
theorem sp9_len {f : V → V → V → V → V → V → V → V → V → Hp → VK → XK → Prop} {vs : List V} {H : Hp} {Q : VK} {E : XK} (h : sp9 f vs H Q E) : vs.length = 9 := by
  match vs, h with
  | [v0, v1, v2, v3, v4, v5, v6, v7, v8], h => rfl
def sp10 (f : V → V → V → V → V → V → V → V → V → V → Hp → VK → XK → Prop) : Sp := fun vs H Q E => match vs with
  | [v0, v1, v2, v3, v4, v5, v6, v7, v8, v9] => f v0 v1 v2 v3 v4 v5 v6 v7 v8 v9 H Q E
  | _ => False
theorem sp10_ex {f : V → V → V → V → V → V → V → V → V → V → Hp → VK → XK → Prop} {vs : List V} {H : Hp} {Q : VK} {E : XK} (h : sp10 f vs H Q E) : ∃ v0 v1 v2 v3 v4 v5 v6 v7 v8 v9, vs = [v0, v1, v2, v3, v4, v5, v6, v7, v8, v9] ∧ f v0 v1 v2 v3 v4 v5 v6 v7 v8 v9 H Q E := by
  match vs, h with
  | [v0, v1, v2, v3, v4, v5, v6, v7, v8, v9], h => exact ⟨_, _, _, _, _, _, _, _, _, _, rfl, h⟩
theorem sp10_len {f : V → V → V → V → V → V → V → V → V → V → Hp → VK → XK → Prop} {vs : List V} {H : Hp} {Q : VK} {E : XK} (h : sp10 f vs H Q E) : vs.length = 10 := by
  match vs, h with
  | [v0, v1, v2, v3, v4, v5, v6, v7, v8, v9], h => rfl
end Dk

/-! Comprehensions and loops whose turns draw; texts as lists of codes. -/
namespace Dk
open PySem PySem.Spec PyProof.Rows L2 TL
section
variable {K : PySem.W.Frag} {σ : L2.St} {H : Hp} {Q : VK} {te : TE} {tt : TT} {vs : List Nat} {j : Nat} {tA : TA} {a : Addr}
theorem r_tyes {QB : Bool → Hp → Prop} (q : QB true H) : tYes σ H QB := q
/-- [e for j in range(n)], n known -/
def rlq (xs : List V) (j : Nat) (tt : TT) (te : TE) (vs : List Nat) (σ : L2.St) (H : Hp) (Q : VK) : Prop := tLc (iRng1 fun _ H1 QA => QA xs H1) (gName j) tt te vs σ H Q
theorem r_lcr (q : tA σ H fun xs H1 => rlq xs j tt te vs σ H1 Q) : tLc (iRng1 tA) (gName j) tt te vs σ H Q := q
theorem Dqs.all_strs {H : Hp} {P : Str → Prop} : ∀ {ds : List PyData} {ys : List V}, Dqs H ys ds → (∀ (i : Nat) d, ds[i]? = some d → ∃ s, d = PyData.str s ∧ P s) → ∃ ss : List Str, ys = ss.map V.str ∧ ss.length = ds.length ∧ ∀ s ∈ ss, P s
  | [], _, h, _ => by
    cases h
    exact ⟨[], rfl, rfl, fun _ z => nomatch z⟩
  | d :: ds, _, h, hp => by
    cases h with
    | cons h1 h2 =>
      obtain ⟨s, e, p⟩ := hp 0 d rfl
      subst e
      cases h1
      obtain ⟨ss, e1, e2, e3⟩ := Dqs.all_strs h2 fun i d q => hp (i + 1) d (by simpa using q)
      refine ⟨s :: ss, by rw [e1] <;> rfl, by simp [e2], fun z hz => ?_⟩
      rcases List.mem_cons.mp hz with e | hz
      · rw [e]
        exact p
      · exact e3 z hz
/-- each turn draws and gives a datum -/
theorem lcr_draw {n : Int} (PP : Nat → PyData → Prop) (hd : Drw H a) (h1 : -(2 ^ 62) ≤ n) (h2 : n < 10000000) (hw : ∀ x, wipe ((wipe σ vs).set j (some x)) vs = wipe σ vs)
    (el : ∀ (i : Nat) (H1 : Hp) (Q1 : VK), (i : Int) < n → Stp a H H1 → (∀ y d H2, Stp a H1 H2 → Dq H2 y d → PP i d → Q1 y H2) → te ((wipe σ vs).set j (some (.int i))) H1 Q1)
    (k : ∀ D H' ys ds, H D = none → Stp a H H' → H' D = some (.lst ys) → Dqs H' ys ds → ds.length = n.toNat → (∀ (i : Nat) d, ds[i]? = some d → PP i d) → Q (.ref D) H') : rlq [.int n] j tYes te vs σ H Q := by
  refine ⟨n, rfl, h1, by omega, fun D hD => ?_⟩
  have aD : a ≠ D := by
    intro e
    obtain ⟨u, v, q⟩ := hd
    rw [e, hD] at q
    cases q
  refine lc_range (lo := 0) (n := n.toNat) (fun i H' => ∃ ys ds, Stp a H H' ∧ H' D = some (.lst ys) ∧ Dqs H' ys ds ∧ ds.length = i ∧ ∀ (i : Nat) d, ds[i]? = some d → PP i d) ?_ ?_ ?_
  · exact ⟨[], [], (Stp.refl hd).new hD hd, upd_same, .nil, rfl, fun i d e => by simp at e⟩
  · rintro i H' hi ⟨ys, ds, s1, hl, dq, el1, pp⟩
    have e0 : (0 : Int) + (i : Int) = (i : Int) := Int.zero_add _
    rw [e0]
    refine ⟨hw _, r_tyes (r_iteT ?_)⟩
    refine el i H' _ (by omega) s1 fun y d H2 s2 hy p => ?_
    have s12 := s1.trans s2
    refine ⟨ys, s2.at_ hl (Ne.symm aD), ?_, ?_⟩
    · have hlen := dq.length
      rw [sizeLine_eq]
      omega
    · have s3 : Stp a H (upd H2 D (.lst (ys ++ [y]))) := s12.new hD hd
      have g : Gro H2 (upd H2 D (.lst (ys ++ [y]))) := by
        have hD2 : H2 D = some (.lst ys) := s2.at_ hl (Ne.symm aD)
        refine ⟨fun b xs e => ?_, fun b o u e => ?_⟩
        · rw [upd_ne (ne_of e hD2 (by intro z; cases z))]
          exact e
        · rw [upd_ne (ne_of e hD2 (by intro z; cases z))]
          exact e
      refine ⟨ys ++ [y], ds ++ [d], s3, upd_same, ((dq.mono (s2.gro)).snoc hy).mono g, by simp [el1], fun i' d' e => ?_⟩
      rw [List.getElem?_append] at e
      split at e
      · exact pp i' d' e
      · rename_i hge
        have hi' : i' - ds.length = 0 := by
          cases hh : i' - ds.length with
          | zero => rfl
          | succ m =>
            rw [hh] at e
            simp at e
        rw [hi'] at e
        simp only [List.getElem?_cons_zero, Option.some.injEq] at e
        have hii : i' = i := by omega
        rw [hii, ← e]
        exact p
  · rintro H' ⟨ys, ds, s1, hl, dq, el1, pp⟩
    exact k D H' ys ds hD s1 hl dq el1 pp
end
section
variable {K : PySem.W.Frag} {σ : L2.St} {H : Hp} {Q : VK} {te tl' : TE} {tt : TT} {vs : List Nat} {j : Nat} {tA : TA} {tb : TS} {D : Ends} {g : TG} {x : V}
/-- for j in range(n) -/
def rfq (xs : List V) (g : TG) (tb : TS) (D : Ends) (σ : L2.St) (H : Hp) : Prop := tFor (iRng1 fun _ H1 QA => QA xs H1) g tb D σ H
theorem r_forr (q : tA σ H fun xs H1 => rfq xs g tb D σ H1) : tFor (iRng1 tA) g tb D σ H := q
theorem for_rng {n : Int} (Pv : Nat → L2.St → Hp → Prop) (h1 : -(2 ^ 62) ≤ n) (h2 : n < 2 ^ 62) (h0 : Pv 0 σ H)
    (hs : ∀ (i : Nat) σ' H', (i : Int) < n → Pv i σ' H' → tb (Ends.mk (Pv (i + 1)) D.rt D.nx (Pv (i + 1))) (σ'.set j (some (.int i))) H') (hd : ∀ σ' H', Pv n.toNat σ' H' → D.nx σ' H') : rfq [.int n] (gName j) tb D σ H := by
  refine ⟨n, rfl, h1, h2, for_range (lo := 0) (n := n.toNat) Pv h0 (fun i σ' H' hi hp => ?_) hd⟩
  have e0 : (0 : Int) + (i : Int) = (i : Int) := Int.zero_add _
  rw [e0]
  exact hs i σ' H' (by omega) hp
/-- for .. in a list, a tuple, a text -/
def fuq (K : PySem.W.Frag) (x : V) (g : TG) (tb : TS) (D : Ends) (σ : L2.St) (H : Hp) : Prop := tFor (iU K (tC x)) g tb D σ H
theorem r_foru (q : te σ H fun x H1 => fuq K x g tb D σ H1) : tFor (iU K te) g tb D σ H := q
theorem for_T {p : Addr} {xs : List V} (Pv : Nat → L2.St → Hp → Prop) (h : H p = some (.tup xs)) (h0 : Pv 0 σ H) (hl : ∀ i σ' H', i ≤ xs.length → Pv i σ' H' → H' p = some (.tup xs))
    (hs : ∀ (i : Nat) x σ' H', xs[i]? = some x → Pv i σ' H' → g x σ' H' fun σ2 H2 => tb (Ends.mk (Pv (i + 1)) D.rt D.nx (Pv (i + 1))) σ2 H2) (hd : ∀ σ' H', Pv xs.length σ' H' → D.nx σ' H') : fuq K (.ref p) g tb D σ H :=
  .inr ⟨⟨xs, SqT.of h⟩, for_tup (xs := xs) Pv h0 (fun i σ' H' hi q => SqT.of (hl i σ' H' hi q)) hs hd⟩
theorem for_L {p : Addr} {xs : List V} (Pv : Nat → L2.St → Hp → Prop) (h : SqL K H p xs) (h0 : Pv 0 σ H) (hl : ∀ i σ' H', i ≤ xs.length → Pv i σ' H' → SqL K H' p xs)
    (hs : ∀ (i : Nat) x σ' H', xs[i]? = some x → Pv i σ' H' → g x σ' H' fun σ2 H2 => tb (Ends.mk (Pv (i + 1)) D.rt D.nx (Pv (i + 1))) σ2 H2) (hd : ∀ σ' H', Pv xs.length σ' H' → D.nx σ' H') : fuq K (.ref p) g tb D σ H :=
  .inl ⟨⟨xs, h⟩, for_list (xs := xs) Pv h0 hl hs hd⟩
/-- [e for .. in a list, a tuple, a text] -/
def luq (K : PySem.W.Frag) (x : V) (g : TG) (tt : TT) (te : TE) (vs : List Nat) (σ : L2.St) (H : Hp) (Q : VK) : Prop := tLc (iU K (tC x)) g tt te vs σ H Q
theorem r_lcu (q : tl' σ H fun x H1 => luq K x g tt te vs σ H1 Q) : tLc (iU K tl') g tt te vs σ H Q := q
end
/-- a kind of step of the heap, from H on -/
structure Sr (H : Hp) (S : Hp → Hp → Prop) : Prop where
  refl : S H H
  trans : ∀ {H1 H2 : Hp}, S H H1 → S H1 H2 → S H H2
  gro : ∀ {H1 H2 : Hp}, S H1 H2 → Gro H1 H2
  chg : ∀ {H' : Hp} {D : Addr} {o : HO}, S H H' → H D = none → S H (upd H' D o)
  keep : ∀ {H1 H2 : Hp} {D : Addr} {o : HO}, H D = none → S H H1 → S H1 H2 → H1 D = some o → H2 D = some o
theorem sr_same (H : Hp) : Sr H Same :=
  ⟨Same.refl H, fun a b => a.trans b, fun s => Gro.same s, fun s hD b u e => by rw [upd_ne (ne_of_none e hD)]; exact s b u e, fun _ _ s h => s _ _ h⟩
theorem ne_drw {H : Hp} {a D : Addr} (hd : Drw H a) (hD : H D = none) : D ≠ a := by
  intro e
  obtain ⟨u, v, q⟩ := hd
  rw [← e, hD] at q
  cases q
theorem ne_drw' {H : Hp} {a D : Addr} (hD : H D = none) (hd : Drw H a) : D ≠ a := ne_drw hd hD
theorem sr_stp {H : Hp} {a : Addr} (hd : Drw H a) : Sr H (Stp a) :=
  ⟨Stp.refl hd, fun a b => a.trans b, fun s => s.gro, fun s hD => s.new hD hd, fun hD _ s h => s.at_ h (ne_drw hd hD)⟩
section
variable {K : PySem.W.Frag} {σ : L2.St} {H : Hp} {Q : VK} {te tl' : TE} {tt : TT} {vs : List Nat} {j : Nat} {g : TG} {J : It} {n : Nat} {G : Hp → Prop} {Y : Nat → Hp → V → Hp → Prop} {S : Hp → Hp → Prop}
theorem lc_gen (w : Walk J n G Y) (sr : Sr H S) (Rv : Nat → List PyData → Prop) (hG : ∀ H', S H H' → G H') (hn : n < 10000000) (h0 : Rv 0 [])
    (el : ∀ (i : Nat) x (H1 H1' : Hp) (ds : List PyData) (Q1 : VK) (Qn : Hp → Prop), i < n → S H H1 → Y i H1 x H1' → Rv i ds →
      (∀ y d H2, S H1 H2 → Dq H2 y d → Rv (i + 1) (ds ++ [d]) → Q1 y H2) → (∀ H2, S H1 H2 → Rv (i + 1) ds → Qn H2) →
      g x (wipe σ vs) H1' fun σ2 H2 => wipe σ2 vs = wipe σ vs ∧ tt σ2 H2 fun b H3 => if b = true then te σ2 H3 Q1 else Qn H3)
    (k : ∀ D H' ys ds, H D = none → S H H' → H' D = some (.lst ys) → Dqs H' ys ds → Rv n ds → Q (.ref D) H') :
    ∀ D, H D = none → ∃ W : Nat → Nat → Hp → Prop, (∃ m, W 0 m (upd H D (.lst []))) ∧ ∀ i m H, W i m H →
      (J.stop i H ∧ Q (.ref D) H) ∨ (J.go i H ∧ ∃ Nx : Hp → Prop, (∀ H', Nx H' → ∃ m', m' < m ∧ W (i + 1) m' H') ∧ ∀ x H', J.yld i H x H' → g x (wipe σ vs) H' fun σ2 H2 => wipe σ2 vs = wipe σ vs ∧ tt σ2 H2 fun b H3 =>
        if b = true then te σ2 H3 fun y H4 => ∃ acc, H4 D = some (.lst acc) ∧ acc.length < sizeLine ∧ Nx (upd H4 D (.lst (acc ++ [y]))) else Nx H3) := by
  intro D hD
  refine lc_it w (Qd := fun H' => Q (.ref D) H') (fun i H' => ∃ ys ds, S H H' ∧ H' D = some (.lst ys) ∧ Dqs H' ys ds ∧ ds.length ≤ i ∧ Rv i ds) ?_ (fun i H' _ ⟨_, _, s, _⟩ => hG H' s) ?_ ?_
  · exact ⟨[], [], sr.chg sr.refl hD, upd_same, .nil, Nat.le_refl _, h0⟩
  · rintro i x H1 H1' hi ⟨ys, ds, s1, hl, dq, hle, rv⟩ hy
    refine el i x H1 H1' ds _ _ hi s1 hy rv (fun y d H2 s2 hyd r2 => ?_) (fun H2 s2 r2 => ?_)
    · have hD2 := sr.keep hD s1 s2 hl
      have s12 := sr.trans s1 s2
      have gg : Gro H2 (upd H2 D (.lst (ys ++ [y]))) := by
        refine ⟨fun b xs e => ?_, fun b o u e => ?_⟩
        · rw [upd_ne (ne_of e hD2 (by intro z; cases z))]
          exact e
        · rw [upd_ne (ne_of e hD2 (by intro z; cases z))]
          exact e
      have hlen := dq.length
      refine ⟨ys, hD2, by rw [sizeLine_eq]; omega, ys ++ [y], ds ++ [d], sr.chg s12 hD, upd_same, ((dq.mono (sr.gro s2)).snoc hyd).mono gg, by simp; omega, r2⟩
    · exact ⟨ys, ds, sr.trans s1 s2, sr.keep hD s1 s2 hl, dq.mono (sr.gro s2), by omega, r2⟩
  · rintro H' ⟨ys, ds, s1, hl, dq, hle, rv⟩
    exact k D H' ys ds hD s1 hl dq rv
/-- over a tuple, a list that stands: the target a name -/
theorem lc_T {p : Addr} {xs : List V} (h : H p = some (.tup xs)) (sr : Sr H S) (Rv : Nat → List PyData → Prop) (hn : xs.length < 10000000) (h0 : Rv 0 []) (hw : ∀ x, wipe ((wipe σ vs).set j (some x)) vs = wipe σ vs)
    (el : ∀ (i : Nat) x (H1 : Hp) (ds : List PyData) (Q1 : VK) (Qn : Hp → Prop), xs[i]? = some x → S H H1 → Rv i ds →
      (∀ y d H2, S H1 H2 → Dq H2 y d → Rv (i + 1) (ds ++ [d]) → Q1 y H2) → (∀ H2, S H1 H2 → Rv (i + 1) ds → Qn H2) → tt ((wipe σ vs).set j (some x)) H1 fun b H3 => if b = true then te ((wipe σ vs).set j (some x)) H3 Q1 else Qn H3)
    (k : ∀ D H' ys ds, H D = none → S H H' → H' D = some (.lst ys) → Dqs H' ys ds → Rv xs.length ds → Q (.ref D) H') : luq K (.ref p) (gName j) tt te vs σ H Q :=
  .inr ⟨⟨xs, SqT.of h⟩, lc_gen (walk_tup (xs := xs)) sr Rv (fun H' s => SqT.of ((sr.gro s).tup _ _ h)) hn h0 (fun i x H1 H1' ds Q1 Qn hi s1 hy rv k1 k2 => by
    obtain ⟨rfl, hy⟩ := hy
    exact ⟨hw x, el i x H1' ds Q1 Qn hy s1 rv k1 k2⟩) k⟩
theorem lc_L {p : Addr} {xs : List V} (h : H p = some (.lst xs)) (hk : ∀ H', S H H' → H' p = some (.lst xs)) (sr : Sr H S) (Rv : Nat → List PyData → Prop) (hn : xs.length < 10000000) (h0 : Rv 0 []) (hw : ∀ x, wipe ((wipe σ vs).set j (some x)) vs = wipe σ vs)
    (el : ∀ (i : Nat) x (H1 : Hp) (ds : List PyData) (Q1 : VK) (Qn : Hp → Prop), xs[i]? = some x → S H H1 → Rv i ds →
      (∀ y d H2, S H1 H2 → Dq H2 y d → Rv (i + 1) (ds ++ [d]) → Q1 y H2) → (∀ H2, S H1 H2 → Rv (i + 1) ds → Qn H2) → tt ((wipe σ vs).set j (some x)) H1 fun b H3 => if b = true then te ((wipe σ vs).set j (some x)) H3 Q1 else Qn H3)
    (k : ∀ D H' ys ds, H D = none → S H H' → H' D = some (.lst ys) → Dqs H' ys ds → Rv xs.length ds → Q (.ref D) H') : luq K (.ref p) (gName j) tt te vs σ H Q :=
  .inl ⟨⟨xs, SqL.of h⟩, lc_gen (walk_list (xs := xs)) sr Rv (fun H' s => SqL.of (hk H' s)) hn h0 (fun i x H1 H1' ds Q1 Qn hi s1 hy rv k1 k2 => by
    obtain ⟨rfl, hy⟩ := hy
    exact ⟨hw x, el i x H1' ds Q1 Qn hy s1 rv k1 k2⟩) k⟩
/-- over the signs of a text -/
theorem lc_S {z : Str} (sr : Sr H S) (Rv : Nat → List PyData → Prop) (hn : z.length < 10000000) (h0 : Rv 0 []) (hw : ∀ x, wipe ((wipe σ vs).set j (some x)) vs = wipe σ vs)
    (el : ∀ (i : Nat) (c : Nat) (H1 : Hp) (ds : List PyData) (Q1 : VK) (Qn : Hp → Prop), (tl z)[i]? = some c → S H H1 → Rv i ds →
      (∀ y d H2, S H1 H2 → Dq H2 y d → Rv (i + 1) (ds ++ [d]) → Q1 y H2) → (∀ H2, S H1 H2 → Rv (i + 1) ds → Qn H2) → tt ((wipe σ vs).set j (some (.str ⟨#[c]⟩))) H1 fun b H3 => if b = true then te ((wipe σ vs).set j (some (.str ⟨#[c]⟩))) H3 Q1 else Qn H3)
    (k : ∀ D H' ys ds, H D = none → S H H' → H' D = some (.lst ys) → Dqs H' ys ds → Rv z.length ds → Q (.ref D) H') : luq K (.str z) (gName j) tt te vs σ H Q :=
  lc_gen (walk_str (z := z)) sr Rv (fun H' s => trivial) hn h0 (fun i x H1 H1' ds Q1 Qn hi s1 hy rv k1 k2 => by
    obtain ⟨rfl, c, hc, rfl⟩ := hy
    exact ⟨hw _, el i c H1' ds Q1 Qn (by rw [Array.getElem?_toList]; exact hc) s1 rv k1 k2⟩) k
/-- over range(n) -/
theorem lc_R {m : Int} (sr : Sr H S) (Rv : Nat → List PyData → Prop) (h1 : -(2 ^ 62) ≤ m) (h2 : m < 10000000) (h0 : Rv 0 []) (hw : ∀ x, wipe ((wipe σ vs).set j (some x)) vs = wipe σ vs)
    (el : ∀ (i : Nat) (H1 : Hp) (ds : List PyData) (Q1 : VK) (Qn : Hp → Prop), (i : Int) < m → S H H1 → Rv i ds →
      (∀ y d H2, S H1 H2 → Dq H2 y d → Rv (i + 1) (ds ++ [d]) → Q1 y H2) → (∀ H2, S H1 H2 → Rv (i + 1) ds → Qn H2) → tt ((wipe σ vs).set j (some (.int i))) H1 fun b H3 => if b = true then te ((wipe σ vs).set j (some (.int i))) H3 Q1 else Qn H3)
    (k : ∀ D H' ys ds, H D = none → S H H' → H' D = some (.lst ys) → Dqs H' ys ds → Rv m.toNat ds → Q (.ref D) H') : rlq [.int m] j tt te vs σ H Q :=
  ⟨m, rfl, h1, by omega, lc_gen (walk_range (lo := 0) (n := m.toNat)) sr Rv (fun H' s => trivial) (by omega) h0 (fun i x H1 H1' ds Q1 Qn hi s1 hy rv k1 k2 => by
    obtain ⟨rfl, rfl⟩ := hy
    have e0 : (0 : Int) + (i : Int) = (i : Int) := Int.zero_add _
    show gName j (V.int ((0 : Int) + (i : Int))) (wipe σ vs) H1' _
    rw [e0]
    exact ⟨hw _, el i H1' ds Q1 Qn (by omega) s1 rv k1 k2⟩) k⟩
end
theorem atI_get {α : Type} {xs : List α} {d : Int} (h0 : 0 ≤ d) (h1 : d < xs.length) : ∃ v, atI xs d = some v ∧ v ∈ xs := by
  obtain ⟨j, rfl⟩ : ∃ j : Nat, d = j := ⟨d.toNat, by omega⟩
  have hj : j < xs.length := by omega
  exact ⟨xs[j], atI_nn (List.getElem?_eq_getElem hj), List.getElem_mem hj⟩
/-! ### texts as lists of codes -/
theorem len_cut0 {z : Str} {n : Nat} : (cutS z none (some (n : Int))).length ≤ n := by
  show (((z.cps.toList.drop 0).take (HT.sIx z.length z.length (some (n : Int)) - 0)).toArray).size ≤ n
  rw [List.size_toArray, List.length_take]
  have : HT.sIx z.length z.length (some (n : Int)) ≤ n := by
    unfold HT.sIx
    simp only
    split <;> omega
  omega
theorem cut_one {z : Str} {d : Int} (h0 : 0 ≤ d) (h1 : d < z.length) : ∃ c, c ∈ tl z ∧ cutS z (some d) (some (d + 1)) = ⟨#[c]⟩ := by
  obtain ⟨n, rfl⟩ : ∃ n : Nat, d = n := ⟨d.toNat, by omega⟩
  have hn : n < (tl z).length := by rw [← len_tl]; omega
  refine ⟨(tl z)[n], List.getElem_mem hn, ?_⟩
  have e1 : HT.sIx z.length 0 (some (n : Int)) = n := by rw [HT.sIx_nat]; rw [len_tl] at *; omega
  have e2 : HT.sIx z.length z.length (some ((n : Int) + 1)) = n + 1 := by
    rw [show (n : Int) + 1 = ((n + 1 : Nat) : Int) by omega, HT.sIx_nat]
    rw [len_tl] at *
    omega
  unfold cutS
  rw [e1, e2]
  have e3 : ((tl z).drop n).take (n + 1 - n) = [(tl z)[n]] := by
    rw [show n + 1 - n = 1 by omega, List.drop_eq_getElem_cons hn]
    rfl
  show (⟨(((tl z).drop n).take (n + 1 - n)).toArray⟩ : Str) = _
  rw [e3] <;> rfl
/-- a text of signs of S, between lo and hi of them -/
structure Wrd (S : List Nat) (lo hi : Nat) (s : Str) : Prop where
  lo : lo ≤ (tl s).length
  hi : (tl s).length ≤ hi
  sg : ∀ c ∈ tl s, c ∈ S
theorem Wrd.len {S : List Nat} {lo hi : Nat} {s : Str} (h : Wrd S lo hi s) : s.length ≤ hi := by rw [len_tl]; exact h.hi
theorem joinL_nil : ∀ parts : List (List Nat), joinL [] parts = parts.flatten
  | [] => rfl
  | [p] => by simp [joinL]
  | p :: q :: r => by
    show p ++ ([] ++ joinL [] (q :: r)) = (p :: q :: r).flatten
    rw [joinL_nil (q :: r)]
    simp
theorem tl_join0 (parts : List Str) : tl (Txt.join (Str.ofString "") parts) = (parts.map tl).flatten := by
  rw [join_eq, tl_join]
  have e : tl (Str.ofString "") = [] := by decide +kernel
  rw [e, joinL_nil]
/-- signs one by one make a word -/
theorem wrd_join {S : List Nat} {n : Nat} {ss : List Str} (h : ∀ s ∈ ss, ∃ c, c ∈ S ∧ s = ⟨#[c]⟩) (hl : ss.length = n) : Wrd S n n (Txt.join (Str.ofString "") ss) := by
  subst hl
  have key : ∀ ss : List Str, (∀ s ∈ ss, ∃ c, c ∈ S ∧ s = ⟨#[c]⟩) → (ss.map tl).flatten.length = ss.length ∧ ∀ c ∈ (ss.map tl).flatten, c ∈ S := by
    intro ss
    induction ss with
    | nil => exact fun _ => ⟨rfl, fun c hc => nomatch hc⟩
    | cons s r ih =>
      intro h
      obtain ⟨c, hc, e⟩ := h s List.mem_cons_self
      obtain ⟨i1, i2⟩ := ih fun s hs => h s (List.mem_cons_of_mem _ hs)
      have et : tl s = [c] := by rw [e]
      refine ⟨by rw [List.map_cons, List.flatten_cons, List.length_append, i1, et, List.length_cons]; simp; omega, fun d hd => ?_⟩
      rw [List.map_cons, List.flatten_cons, et] at hd
      rcases List.mem_append.mp hd with hd | hd
      · rw [List.mem_singleton.mp hd]
        exact hc
      · exact i2 d hd
  obtain ⟨k1, k2⟩ := key ss h
  rw [← tl_join0] at k1 k2
  exact ⟨Nat.le_of_eq k1.symm, Nat.le_of_eq k1, k2⟩
/-- what a join of signs weighs -/
theorem sum_ones {S : List Nat} : ∀ {ss : List Str}, (∀ s ∈ ss, ∃ c, c ∈ S ∧ s = ⟨#[c]⟩) → (ss.map (·.length)).sum = ss.length
  | [], _ => rfl
  | s :: r, h => by
    obtain ⟨c, _, e⟩ := h s List.mem_cons_self
    rw [List.map_cons, List.sum_cons, sum_ones fun s hs => h s (List.mem_cons_of_mem _ hs), e, List.length_cons]
    show 1 + r.length = r.length + 1
    omega
theorem sum_le {n : Nat} : ∀ {ss : List Str}, (∀ s ∈ ss, s.length ≤ n) → (ss.map (·.length)).sum ≤ n * ss.length
  | [], _ => Nat.zero_le _
  | s :: r, h => by
    rw [List.map_cons, List.sum_cons, List.length_cons, Nat.mul_succ]
    have h1 := h s List.mem_cons_self
    have h2 := sum_le (n := n) fun s hs => h s (List.mem_cons_of_mem _ hs)
    omega
end Dk

/-! The texts that the laws draw: local parts, domains. -/
namespace Dk
open PySem PySem.Spec PyProof.Rows L2 TL
/-- what is left of a text behind rstrip of one sign -/
theorem rstrip_facts (x : Str) (c : Nat) : ∃ h, h ≤ (tl x).length ∧ tl (Txt.rstripChars x ⟨#[c]⟩) = (tl x).take h ∧ (h = 0 ∨ (tl x)[h - 1]? ≠ some c) ∧ ∀ k, h ≤ k → k < (tl x).length → (tl x)[k]? = some c := by
  have h0 : PySem.stripLo (#[c] : Array Nat).contains false x = 0 := rfl
  obtain ⟨h1, h2, h3, h4⟩ := hi_facts (#[c] : Array Nat).contains x 0 (Nat.zero_le _)
  have gc : ∀ d, (#[c] : Array Nat).contains d = true ↔ d = c := fun d => by
    rw [Array.contains_iff_mem]
    simp
  have getd : ∀ k, k < (tl x).length → (tl x)[k]? = some (x.cps.getD k 0) := fun k hk => by
    rw [← getD_list]
    rw [List.getElem?_eq_getElem hk]
    simp [List.getD, List.getElem?_eq_getElem hk]
  refine ⟨stripHi (#[c] : Array Nat).contains true x 0, by rw [← len_tl]; exact h2, ?_, ?_, fun k hk hl => ?_⟩
  · show tl (Txt.stripBy (#[c] : Array Nat).contains false true x) = _
    rw [stripBy_eq, h0, tl_strSub, List.drop_zero, Nat.sub_zero]
  · by_cases hz : stripHi (#[c] : Array Nat).contains true x 0 = 0
    · exact .inl hz
    · right
      rcases h4 with h4 | h4
      · exact absurd h4 hz
      · rw [getd _ (by rw [← len_tl]; omega)]
        intro e
        have e1 := (gc _).mpr (Option.some.inj e)
        rw [h4] at e1
        cases e1
  · rw [getd k hl]
    exact congrArg some ((gc _).mp (h3 k hk (by rw [len_tl]; exact hl)))
/-- signs of S, dots between them: none ahead (p), none behind another -/
def okL (S : List Nat) : Bool → List Nat → Bool
  | _, [] => true
  | p, c :: r => if c = 46 then !p && okL S true r else decide (c ∈ S) && okL S false r
theorem okL_take {S : List Nat} : ∀ {l : List Nat} {p : Bool} {n : Nat}, okL S p l = true → okL S p (l.take n) = true
  | [], p, n, _ => by cases n <;> rfl
  | c :: r, p, 0, _ => rfl
  | c :: r, p, n + 1, h => by
    rw [List.take_succ_cons]
    unfold okL at h ⊢
    by_cases e : c = 46
    · rw [if_pos e, Bool.and_eq_true] at h ⊢
      exact ⟨h.1, okL_take h.2⟩
    · rw [if_neg e, Bool.and_eq_true] at h ⊢
      exact ⟨h.1, okL_take h.2⟩
theorem okL_word {S : List Nat} (hS : 46 ∉ S) : ∀ {w r : List Nat} {p : Bool}, (∀ c ∈ w, c ∈ S) → w ≠ [] → okL S p (w ++ r) = okL S false r
  | [], _, _, _, h => absurd rfl h
  | c :: w, r, p, h, _ => by
    have hc := h c List.mem_cons_self
    have nc : c ≠ 46 := fun e => hS (e ▸ hc)
    have e : okL S p (c :: (w ++ r)) = okL S false (w ++ r) := by
      rw [okL, if_neg nc, decide_eq_true hc, Bool.true_and]
    show okL S p (c :: (w ++ r)) = okL S false r
    rw [e]
    cases w with
    | nil => rfl
    | cons d w => exact okL_word hS (fun c hc => h c (List.mem_cons_of_mem _ hc)) (by simp)
theorem okL_join {S : List Nat} (hS : 46 ∉ S) : ∀ {ps : List (List Nat)} {p : Bool}, (∀ w ∈ ps, w ≠ [] ∧ ∀ c ∈ w, c ∈ S) → ps ≠ [] → okL S p (joinL [46] ps) = true
  | [], _, _, h => absurd rfl h
  | [w], p, h, _ => by
    obtain ⟨h1, h2⟩ := h w List.mem_cons_self
    show okL S p w = true
    rw [← List.append_nil w, okL_word hS h2 h1] <;> rfl
  | w :: v :: r, p, h, _ => by
    obtain ⟨h1, h2⟩ := h w List.mem_cons_self
    show okL S p (w ++ ([46] ++ joinL [46] (v :: r))) = true
    rw [okL_word hS h2 h1]
    show okL S false (46 :: joinL [46] (v :: r)) = true
    unfold okL
    rw [if_pos rfl, okL_join hS (fun w hw => h w (List.mem_cons_of_mem _ hw)) (by simp)] <;> rfl
theorem okL_head {S : List Nat} {l : List Nat} (h : okL S true l = true) : l.head? ≠ some 46 := by
  cases l with
  | nil => simp
  | cons c r =>
    unfold okL at h
    intro e
    have e1 : c = 46 := by simpa using e
    rw [if_pos e1] at h
    cases h
/-- a local part -/
structure Loc1 (S : List Nat) (l : List Nat) : Prop where
  ok : okL S true l = true
  lo : 1 ≤ l.length
  hi : l.length ≤ 40
  last : l.getLast? ≠ some 46
theorem dot_eq : Str.ofString "." = ⟨#[46]⟩ := by decide +kernel
theorem tl_joinDot (parts : List Str) : tl (Txt.join (Str.ofString ".") parts) = joinL [46] (parts.map tl) := by
  rw [join_eq, tl_join]
  have e : tl (Str.ofString ".") = [46] := by decide +kernel
  rw [e]
theorem tl_cut0 (z : Str) (n : Nat) : tl (cutS z none (some (n : Int))) = (tl z).take n := by
  unfold cutS
  rw [HT.sIx_none, HT.sIx_nat, Nat.sub_zero, List.drop_zero]
  show (tl z).take (min n z.length) = (tl z).take n
  rw [len_tl, List.take_eq_take_iff]
  omega
theorem joinL_pos {S : List Nat} {ps : List (List Nat)} (h : ∀ w ∈ ps, w ≠ []) (hn : ps ≠ []) : joinL S ps ≠ [] := by
  cases ps with
  | nil => exact absurd rfl hn
  | cons w r =>
    have hw := h w List.mem_cons_self
    cases r with
    | nil => exact hw
    | cons v r =>
      show w ++ (S ++ joinL S (v :: r)) ≠ []
      simp [hw]
theorem loc_of {S : List Nat} (hS : 46 ∉ S) {parts : List Str} (h : ∀ s ∈ parts, tl s ≠ [] ∧ ∀ c ∈ tl s, c ∈ S) (hn : parts ≠ []) :
    Loc1 S (tl (Txt.rstripChars (cutS (Txt.join (Str.ofString ".") parts) none (some (40 : Int))) (Str.ofString "."))) := by
  have e40 : tl (cutS (Txt.join (Str.ofString ".") parts) none (some (40 : Int))) = (joinL [46] (parts.map tl)).take 40 := by
    rw [← tl_joinDot]
    exact tl_cut0 _ 40
  have hw : ∀ w ∈ parts.map tl, w ≠ [] ∧ ∀ c ∈ w, c ∈ S := fun w hw => by
    obtain ⟨s, hs, e⟩ := List.mem_map.mp hw
    rw [← e]
    exact h s hs
  have hne : parts.map tl ≠ [] := fun e => hn (List.map_eq_nil_iff.mp e)
  have ok : okL S true ((joinL [46] (parts.map tl)).take 40) = true := okL_take (okL_join hS hw hne)
  have pos : joinL [46] (parts.map tl) ≠ [] := joinL_pos (fun w q => (hw w q).1) hne
  generalize cutS (Txt.join (Str.ofString ".") parts) none (some (40 : Int)) = x at *
  rw [dot_eq]
  obtain ⟨k, k1, k2, k3, k4⟩ := rstrip_facts x 46
  rw [e40] at k1 k2 k3 k4
  generalize hL : (joinL [46] (parts.map tl)).take 40 = L at *
  have Lne : L ≠ [] := by
    rw [← hL]
    intro e
    rcases List.take_eq_nil_iff.mp e with e | e
    · cases e
    · exact pos e
  have L40 : L.length ≤ 40 := by
    rw [← hL, List.length_take]
    omega
  have kpos : 1 ≤ k := by
    cases k with
    | zero =>
      have h0 := k4 0 (Nat.le_refl _) (List.length_pos_iff.mpr Lne)
      exact absurd (by rw [List.head?_eq_getElem?]; exact h0) (okL_head ok)
    | succ k => exact Nat.succ_pos _
  rw [k2]
  refine ⟨okL_take ok, by rw [List.length_take]; omega, by rw [List.length_take]; omega, ?_⟩
  rw [List.getLast?_eq_getElem?, List.length_take, Nat.min_eq_left k1, List.getElem?_take_of_lt (by omega)]
  rcases k3 with k3 | k3
  · omega
  · exact k3
theorem joinL_len (S : List Nat) : ∀ ps : List (List Nat), (joinL S ps).length ≤ (ps.map List.length).sum + ps.length * S.length
  | [] => Nat.zero_le _
  | [w] => by
    show w.length ≤ _
    rw [List.map_singleton, List.sum_singleton]
    omega
  | w :: v :: r => by
    show (w ++ (S ++ joinL S (v :: r))).length ≤ _
    have ih := joinL_len S (v :: r)
    rw [List.length_append, List.length_append, List.map_cons, List.sum_cons, List.length_cons, Nat.succ_mul]
    omega
theorem joinDot_len (parts : List Str) : (Txt.join (Str.ofString ".") parts).length ≤ (parts.map (·.length)).sum + parts.length := by
  rw [len_tl, tl_joinDot]
  have h := joinL_len [46] (parts.map tl)
  have e : ((parts.map tl).map List.length) = parts.map (·.length) := by
    rw [List.map_map]
    exact List.map_congr_left fun s _ => (len_tl s).symm
  rw [e, List.length_map] at h
  simp only [List.length_cons, List.length_nil] at h
  omega
theorem rep_strs (n : Nat) (s : Str) : (List.replicate n [V.str s]).flatten = (List.replicate n s).map V.str := by
  induction n with
  | zero => rfl
  | succ n ih => rw [List.replicate_succ, List.flatten_cons, ih, List.replicate_succ, List.map_cons] <;> rfl
theorem rep_wrd {S : List Nat} {c n : Nat} (hc : c ∈ S) : Wrd S n n (Txt.join (Str.ofString "") (List.replicate n ⟨#[c]⟩)) :=
  wrd_join (fun s hs => ⟨c, hc, (List.mem_replicate.mp hs).2⟩) (List.length_replicate ..)
/-- the signs of a drawn word, a drawn label -/
abbrev lEnds : Str := Str.ofString "abcdefghijklmnopqrstuvwxyz0123456789-_+"
abbrev dEnds : Str := Str.ofString "abcdefghijklmnopqrstuvwxyz0123456789"
theorem lEnds_dot : 46 ∉ tl lEnds := by decide +kernel
/-- a label -/
structure Lab (l : List Nat) : Prop where
  lo : 2 ≤ l.length
  hi : l.length ≤ 5
  sg : ∀ c ∈ l, c ∈ 45 :: tl dEnds
  fst : l.head? ≠ some 45
  lst : l.getLast? ≠ some 45
/-- a domain -/
structure Dom (l : List Nat) : Prop where
  ex : ∃ ls : List (List Nat), l = joinL [46] ls ∧ 1 ≤ ls.length ∧ ls.length ≤ 3 ∧ ∀ w ∈ ls, Lab w
theorem Dom.len {s : Str} (h : Dom (tl s)) : s.length ≤ 18 := by
  obtain ⟨ls, e, h1, h2, h3⟩ := h.ex
  rw [len_tl, e]
  have q := joinL_len [46] ls
  have r : ∀ ps : List (List Nat), (∀ w ∈ ps, Lab w) → (ps.map List.length).sum ≤ 5 * ps.length := by
    intro ps
    induction ps with
    | nil => exact fun _ => Nat.zero_le _
    | cons w r ih =>
      intro h
      rw [List.map_cons, List.sum_cons, List.length_cons]
      have a := (h w List.mem_cons_self).hi
      have b := ih fun w hw => h w (List.mem_cons_of_mem _ hw)
      omega
  have r1 := r ls h3
  simp only [List.length_cons, List.length_nil] at q
  omega
theorem Loc1.len {S : List Nat} {s : Str} (h : Loc1 S (tl s)) : s.length ≤ 40 := by
  rw [len_tl]
  exact h.hi
theorem lab_of {c d : Nat} {m : Str} (hc : c ∈ tl dEnds) (hd : d ∈ tl dEnds) (hm : m ∈ ["", "-", "--", "x-y", "z9"].map Str.ofString) : Lab (tl (((⟨#[c]⟩ : Str) ++ m) ++ (⟨#[d]⟩ : Str))) := by
  have e : tl (((⟨#[c]⟩ : Str) ++ m) ++ (⟨#[d]⟩ : Str)) = c :: (tl m ++ [d]) := by
    rw [tl_append, tl_append] <;> rfl
  have n45 : 45 ∉ tl dEnds := by decide +kernel
  have key : ∀ z ∈ ["", "-", "--", "x-y", "z9"].map Str.ofString, (tl z).length ≤ 3 ∧ ∀ x ∈ tl z, x ∈ 45 :: tl dEnds := by decide +kernel
  obtain ⟨k1, k2⟩ := key m hm
  rw [e]
  refine ⟨by simp, by simp; omega, fun x hx => ?_, ?_, ?_⟩
  · rcases List.mem_cons.mp hx with hx | hx
    · rw [hx]
      exact List.mem_cons_of_mem _ hc
    · rcases List.mem_append.mp hx with hx | hx
      · exact k2 x hx
      · rw [List.mem_singleton.mp hx]
        exact List.mem_cons_of_mem _ hd
  · intro q
    have : c = 45 := by simpa using q
    exact n45 (this ▸ hc)
  · rw [show c :: (tl m ++ [d]) = (c :: tl m) ++ [d] from rfl, List.getLast?_concat]
    intro q
    have : d = 45 := by simpa using q
    exact n45 (this ▸ hd)
/-- a line: a short text of the signs that are allowed -/
structure Lin (s : Str) : Prop where
  len : s.length ≤ 18
  sg : ∀ c ∈ tl s, 32 ≤ c ∧ c ≤ 126 ∧ c ≠ 37
def pool : List Str := ["", ".", "..", ". x", "Received: by ", "Received: by q.r", "received: by x", " Received: by y", "To: a", "~"].map Str.ofString
abbrev signs : Str := Str.ofString " !\"#$&'()*+,-./0123456789:;<=>?@ABCDEFGHIJKLMNOPQRSTUVWXYZ[\\]^_`abcdefghijklmnopqrstuvwxyz{|}~"
theorem pool_lin : ∀ s ∈ pool, Lin s := by
  have key : ∀ s ∈ pool, s.length ≤ 18 ∧ ∀ c ∈ tl s, 32 ≤ c ∧ c ≤ 126 ∧ c ≠ 37 := by decide +kernel
  exact fun s hs => ⟨(key s hs).1, (key s hs).2⟩
theorem signs_lin : ∀ c ∈ tl signs, 32 ≤ c ∧ c ≤ 126 ∧ c ≠ 37 := by decide +kernel
end Dk

/-! Messages as lists of texts. -/
namespace Dk
open PySem PySem.Spec PyProof.Rows L2 TL
def hopsM : List Str → Nat
  | [] => 0
  | s :: r => if s = eS then 0 else (if Txt.startswith s trS = true then 1 else 0) + hopsM r
theorem hopsM_le : ∀ ss : List Str, hopsM ss ≤ ss.length
  | [] => Nat.le_refl _
  | s :: r => by
    unfold hopsM
    have := hopsM_le r
    rw [List.length_cons]
    split
    · omega
    · split <;> omega
def stuffM (s : Str) : Str := if Txt.startswith s dotS = true then dotS ++ s else s
def unstuffM (s : Str) : Str := if Txt.startswith s dotS = true then cutS s (some 1) none else s
theorem starts_iff (x y : Str) : Txt.startswith x y = ((tl x).take (tl y).length == tl y) := by
  unfold Txt.startswith
  rw [PySem.StrLaws.subAt_eq, List.drop_zero, Nat.zero_add, len_tl, len_tl]
  by_cases h : (tl y).length ≤ (tl x).length
  · rw [decide_eq_true h, Bool.true_and]
  · rw [decide_eq_false h, Bool.false_and]
    symm
    rw [beq_eq_false_iff_ne]
    intro e
    have e2 := congrArg List.length e
    rw [List.length_take] at e2
    omega
theorem tl_dot : tl dotS = [46] := by decide +kernel
theorem tl_cut1 (s : Str) : tl (cutS s (some 1) none) = (tl s).drop 1 := by
  unfold cutS
  rw [HT.sIx_none, show (1 : Int) = ((1 : Nat) : Int) from rfl, HT.sIx_nat]
  show ((tl s).drop (min 1 s.length)).take (s.length - min 1 s.length) = (tl s).drop 1
  rw [len_tl]
  by_cases h : 1 ≤ (tl s).length
  · rw [Nat.min_eq_left h, List.take_of_length_le (by rw [List.length_drop]; omega)]
  · have e : tl s = [] := List.length_eq_zero_iff.mp (by omega)
    rw [e] <;> rfl
theorem tl_cutN (s : Str) (n : Nat) : tl (cutS s none (some (n : Int))) = (tl s).take n := tl_cut0 s n
theorem starts_dot (s : Str) : Txt.startswith s dotS = decide ((tl s).head? = some 46) := by
  rw [starts_iff, tl_dot]
  cases e : tl s with
  | nil => rfl
  | cons c r =>
    show ([c] == [46]) = decide (some c = some 46)
    by_cases h : c = 46
    · subst h
      rfl
    · rw [decide_eq_false (fun q => h (Option.some.inj q)), beq_eq_false_iff_ne]
      exact fun q => h (List.cons.inj q).1
theorem unstuff_stuff (s : Str) : unstuffM (stuffM s) = s := by
  unfold stuffM
  by_cases h : Txt.startswith s dotS = true
  · rw [if_pos h]
    have e : tl (dotS ++ s) = 46 :: tl s := by rw [tl_append, tl_dot] <;> rfl
    unfold unstuffM
    rw [if_pos (by rw [starts_dot, e] <;> rfl)]
    refine ext_tl ?_
    rw [tl_cut1, e] <;> rfl
  · rw [if_neg h]
    unfold unstuffM
    rw [if_neg h]
theorem stuff_ne (s : Str) : stuffM s ≠ dotS := by
  intro e
  unfold stuffM at e
  by_cases h : Txt.startswith s dotS = true
  · rw [if_pos h] at e
    have e2 := congrArg tl e
    rw [tl_append, tl_dot] at e2
    have e3 : tl s = [] := by simpa using e2
    rw [starts_dot, e3] at h
    cases h
  · rw [if_neg h] at e
    rw [e] at h
    exact h (by decide +kernel)
theorem stuff_len (s : Str) : (stuffM s).length ≤ s.length + 1 := by
  unfold stuffM
  split
  · rw [PySem.Str.length_append, dotS_len]
    omega
  · omega
theorem drop_of_get {α : Type} {xs : List α} {i : Nat} {x : α} (h : xs[i]? = some x) : xs.drop i = x :: xs.drop (i + 1) := by
  obtain ⟨hl, e⟩ := List.getElem?_eq_some_iff.mp h
  rw [List.drop_eq_getElem_cons hl, e]
theorem get_map {xs : List Str} {i : Nat} {x : V} (h : (xs.map V.str)[i]? = some x) : ∃ s, xs[i]? = some s ∧ x = .str s := by
  rw [List.getElem?_map] at h
  cases e : xs[i]? with
  | none =>
    rw [e] at h
    cases h
  | some s =>
    rw [e] at h
    exact ⟨s, rfl, (Option.some.inj h).symm⟩
theorem mem_of_get {α : Type} {xs : List α} {i : Nat} {x : α} (h : xs[i]? = some x) : x ∈ xs := List.mem_of_getElem? h
/-- a comprehension over texts that gives texts -/
theorem Dqs.strs_eq {H : Hp} {ss : List Str} {ys : List V} (h : Dqs H ys (ss.map PyData.str)) : ys = ss.map V.str := h.strs_of
theorem take_snoc {α : Type} {xs : List α} {i : Nat} {x : α} (h : xs[i]? = some x) : xs.take (i + 1) = xs.take i ++ [x] := by
  rw [List.take_add_one, h] <;> rfl
def reportM (l d r : Str) : List Str := [Str.ofString "Subject: undelivered", eS, Str.ofString "Recipient: " ++ (l ++ atS ++ d), Str.ofString "Reason: " ++ r]
theorem cut13 (s : Str) : decide (cutS s none (some 13) = trS) = Txt.startswith s trS := by
  rw [starts_iff]
  have e13 : (tl trS).length = 13 := by decide +kernel
  have e := tl_cutN s 13
  by_cases h : cutS s none (some 13) = trS
  · rw [decide_eq_true h, e13]
    have h2 : tl (cutS s none (some ((13 : Nat) : Int))) = tl trS := congrArg tl h
    rw [← e, h2]
    exact (beq_self_eq_true _).symm
  · rw [decide_eq_false h, e13]
    symm
    rw [beq_eq_false_iff_ne]
    intro q
    rw [← e] at q
    exact h (ext_tl q)
theorem cut_dot (s : Str) : decide (cutS s none (some 1) = dotS) = Txt.startswith s dotS := by
  rw [starts_iff]
  have e1 : (tl dotS).length = 1 := by decide +kernel
  have e := tl_cutN s 1
  by_cases h : cutS s none (some 1) = dotS
  · rw [decide_eq_true h, e1]
    have h2 : tl (cutS s none (some ((1 : Nat) : Int))) = tl dotS := congrArg tl h
    rw [← e, h2]
    exact (beq_self_eq_true _).symm
  · rw [decide_eq_false h, e1]
    symm
    rw [beq_eq_false_iff_ne]
    intro q
    rw [← e] at q
    exact h (ext_tl q)
theorem str_assoc (a b c : Str) : a ++ b ++ c = a ++ (b ++ c) := ext_tl (by rw [tl_append, tl_append, tl_append, tl_append, List.append_assoc])
theorem hops_cons (d : Str) (ss : List Str) : hopsM ((trS ++ d) :: ss) = hopsM ss + 1 := by
  have h1 : trS ++ d ≠ eS := fun e => by
    have e2 := congrArg (fun z => (tl z).length) e
    simp only [tl_append, List.length_append] at e2
    have e3 : (tl trS).length = 13 := by decide +kernel
    have e4 : (tl eS).length = 0 := by decide +kernel
    omega
  have h2 : Txt.startswith (trS ++ d) trS = true := by
    rw [starts_iff, tl_append, List.take_left]
    exact beq_self_eq_true _
  rw [hopsM, if_neg h1, if_pos h2]
  omega
end Dk

/-! Data compared. -/
namespace Dk
open PySem PySem.Spec PyProof.Rows L2 TL
mutual
/-- data without truth values, lists, dicts -/
def nb : PyData → Bool
  | .none => true
  | .int _ => true
  | .str s => PyData.strOk s
  | .tuple ds => nbs ds
  | _ => false
def nbs : List PyData → Bool
  | [] => true
  | d :: ds => nb d && nbs ds
end
mutual
theorem nb_lay : ∀ d : PyData, nb d = true → d.canLay0 = true
  | .none, _ => by simp [PyData.canLay0]
  | .int i, _ => by simp [PyData.canLay0]
  | .str s, h => by
    rw [PyData.canLay0]
    rw [nb] at h
    exact h
  | .tuple ds, h => by
    rw [PyData.canLay0]
    rw [nb] at h
    exact nbs_lay ds h
  | .bool _, h => by simp [nb] at h
  | .list _, h => by simp [nb] at h
  | .dict _, h => by simp [nb] at h
theorem nbs_lay : ∀ ds : List PyData, nbs ds = true → PyData.canLayAll0 ds = true
  | [], _ => by simp [PyData.canLayAll0]
  | d :: ds, h => by
    rw [nbs, Bool.and_eq_true] at h
    rw [PyData.canLayAll0, nb_lay d h.1, nbs_lay ds h.2] <;> rfl
end
theorem nb_shaped {d : PyData} (h : nb d = true) (hd : d.depth ≤ 64) : SeqAt.shaped d = true := by
  unfold SeqAt.shaped
  rw [nb_lay d h, decide_eq_true hd] <;> rfl
mutual
theorem eqv_nb : ∀ d e : PyData, nb d = true → PyData.eqv d e = true → nb e = true → d = e
  | .none, e, _, h, he => by
    cases e <;> first
      | rfl
      | simp [PyData.eqv] at h
  | .int i, e, _, h, he => by
    cases e <;> first
      | (simp [PyData.eqv] at h; done)
      | (simp [nb] at he; done)
      | (simp [PyData.eqv] at h; rw [h])
  | .str i, e, _, h, he => by
    cases e <;> first
      | (simp [PyData.eqv] at h; done)
      | (simp [PyData.eqv] at h; rw [h])
  | .tuple ds, e, hd, h, he => by
    cases e with
    | tuple es =>
      rw [PyData.eqv] at h
      rw [nb] at hd he
      rw [eqvs_nb ds es hd h he]
    | _ => simp [PyData.eqv] at h
  | .bool _, _, h, _, _ => by simp [nb] at h
  | .list _, _, h, _, _ => by simp [nb] at h
  | .dict _, _, h, _, _ => by simp [nb] at h
theorem eqvs_nb : ∀ ds es : List PyData, nbs ds = true → PyData.eqvAll ds es = true → nbs es = true → ds = es
  | [], es, _, h, _ => by
    cases es with
    | nil => rfl
    | cons e es => simp [PyData.eqvAll] at h
  | d :: ds, es, hd, h, he => by
    cases es with
    | nil => simp [PyData.eqvAll] at h
    | cons e es =>
      rw [PyData.eqvAll, Bool.and_eq_true] at h
      rw [nbs, Bool.and_eq_true] at hd he
      rw [eqv_nb d e hd.1 h.1 he.1, eqvs_nb ds es hd.2 h.2 he.2]
end
theorem eqv_self {d : PyData} (h : nb d = true) : PyData.eqv d d = true := SeqAt.eqv_refl d (nb_lay d h)
theorem eqv_ne {d e : PyData} (h : nb d = true) (he : nb e = true) (n : d ≠ e) : PyData.eqv d e = false := by
  cases q : PyData.eqv d e with
  | false => rfl
  | true => exact absurd (eqv_nb d e h q he) n
theorem nbs_strs : ∀ {ss : List Str}, (∀ s ∈ ss, PyData.strOk s = true) → nbs (ss.map PyData.str) = true
  | [], _ => by simp [nbs]
  | s :: ss, h => by
    rw [List.map_cons, nbs, nb, h s List.mem_cons_self, nbs_strs fun s hs => h s (List.mem_cons_of_mem _ hs)] <;> rfl
theorem depth_strs : ∀ ss : List Str, PyData.depthAll (ss.map PyData.str) = 0
  | [] => by simp [PyData.depthAll]
  | s :: ss => by
    rw [List.map_cons, PyData.depthAll, depth_strs ss, PyData.depth] <;> rfl
/-- plain signs -/
def Asc (s : Str) : Prop := ∀ c ∈ tl s, c < 128
theorem Asc.ok {s : Str} (h : Asc s) : PyData.strOk s = true := by
  unfold PyData.strOk
  rw [Array.all_eq_true']
  intro c hc
  have := h c (by simpa using hc)
  simp only [decide_eq_true_eq]
  omega
theorem Asc.app {a b : Str} (ha : Asc a) (hb : Asc b) : Asc (a ++ b) := fun c hc => by
  rw [tl_append] at hc
  rcases List.mem_append.mp hc with hc | hc
  · exact ha c hc
  · exact hb c hc
theorem Lin.asc {s : Str} (h : Lin s) : Asc s := fun c hc => by
  have := h.sg c hc
  omega
theorem okL_mem {S : List Nat} : ∀ {l : List Nat} {p : Bool}, okL S p l = true → ∀ c ∈ l, c = 46 ∨ c ∈ S
  | [], _, _, c, hc => nomatch hc
  | d :: r, p, h, c, hc => by
    unfold okL at h
    by_cases e : d = 46
    · rw [if_pos e, Bool.and_eq_true] at h
      rcases List.mem_cons.mp hc with q | q
      · exact .inl (q.trans e)
      · exact okL_mem h.2 c q
    · rw [if_neg e, Bool.and_eq_true] at h
      rcases List.mem_cons.mp hc with q | q
      · exact .inr (q ▸ of_decide_eq_true h.1)
      · exact okL_mem h.2 c q
theorem ends_asc : ∀ c ∈ tl lEnds, c < 128 := by decide +kernel
theorem dends_asc : ∀ c ∈ tl dEnds, c < 128 := by decide +kernel
theorem Loc1.asc {s : Str} (h : Loc1 (tl lEnds) (tl s)) : Asc s := fun c hc => by
  rcases okL_mem h.ok c hc with e | e
  · omega
  · exact ends_asc c e
theorem joinL_mem {S : List Nat} : ∀ {ps : List (List Nat)} {c : Nat}, c ∈ joinL S ps → c ∈ S ∨ ∃ w ∈ ps, c ∈ w
  | [], c, h => nomatch h
  | [w], c, h => .inr ⟨w, List.mem_cons_self, h⟩
  | w :: v :: r, c, h => by
    have h : c ∈ w ++ (S ++ joinL S (v :: r)) := h
    rcases List.mem_append.mp h with h | h
    · exact .inr ⟨w, List.mem_cons_self, h⟩
    · rcases List.mem_append.mp h with h | h
      · exact .inl h
      · rcases joinL_mem h with h | ⟨u, hu, hc⟩
        · exact .inl h
        · exact .inr ⟨u, List.mem_cons_of_mem _ hu, hc⟩
theorem Dom.asc {s : Str} (h : Dom (tl s)) : Asc s := fun c hc => by
  obtain ⟨ls, e, _, _, h3⟩ := h.ex
  rw [e] at hc
  rcases joinL_mem hc with q | ⟨w, hw, q⟩
  · have := List.mem_singleton.mp q
    omega
  · rcases List.mem_cons.mp ((h3 w hw).sg c q) with q | q
    · omega
    · exact dends_asc c q
theorem tr_asc : Asc trS := by unfold Asc; decide +kernel
theorem at_asc : Asc atS := by unfold Asc; decide +kernel
theorem e_asc : Asc eS := by unfold Asc; decide +kernel
theorem dot_asc : Asc dotS := by unfold Asc; decide +kernel
theorem stuff_asc {s : Str} (h : Asc s) : Asc (stuffM s) := by
  unfold stuffM
  split
  · exact dot_asc.app h
  · exact h
/-- a tuple of texts as a datum -/
abbrev sD (ss : List Str) : PyData := .tuple (ss.map PyData.str)
theorem sD_nb {ss : List Str} (h : ∀ s ∈ ss, Asc s) : nb (sD ss) = true := by
  rw [nb]
  exact nbs_strs fun s hs => (h s hs).ok
theorem sD_shaped {ss : List Str} (h : ∀ s ∈ ss, Asc s) : SeqAt.shaped (sD ss) = true := by
  refine nb_shaped (sD_nb h) ?_
  rw [PyData.depth, depth_strs]
  omega
theorem Dq.strs {H : Hp} {p : Addr} {ss : List Str} (h : H p = some (.tup (ss.map V.str))) : Dq H (.ref p) (sD ss) := .tup h (Dqs.strs ss)
theorem flat_strs (ss : List Str) : (ss.map V.str).all flatV = true := by
  rw [List.all_eq_true]
  intro x hx
  obtain ⟨s, _, rfl⟩ := List.mem_map.mp hx
  rfl
theorem inV_no {ss : List Str} {z : Str} (h : ∀ s ∈ ss, s ≠ z) : inV (.str z) (ss.map V.str) = false := by
  unfold inV
  rw [List.any_eq_false]
  intro x hx
  obtain ⟨s, hs, rfl⟩ := List.mem_map.mp hx
  intro e
  exact h s hs (by simpa [eqV] using e)
end Dk

/-! Own classes: instances, attributes, methods. -/
namespace Dk
open PySem PySem.Spec PyProof.Rows L2
/-- the def of a method -/
def MethAt (e : Wd) (C : Addr) (m qual : Str) (st : Stmt) : Prop := ∃ f fd, FunD e.K m qual (defArgs st) (defBody st) (defScope st) [] [] f fd ∧ Meth e.K C m f ∧ Cls e.K C
/-- the def of __init__ -/
def InitAt (e : Wd) (C : Addr) (x qual : Str) (st : Stmt) : Prop := ∃ f fd, FunD e.K "__init__" qual (defArgs st) (defBody st) (defScope st) [] [] f fd ∧ Mk e.K C f ∧ e.mg x = some (.ref C)
def CanM (e : Wd) (k : Nat) (C : Addr) (m : Str) (ps : List Str) (sp : Sp) : Prop :=
  ∃ f fd, FnOk e.P e.w e.K e.mg e.base (L2.CX e.P e.w) k f fd ps sp ∧ Cls e.K C ∧ Meth e.K C m f ∧ Binds e.K fd ps []
def CanN (e : Wd) (k : Nat) (C : Addr) (x : Str) (ps : List Str) (sp : Sp) : Prop :=
  ∃ f fd, FnOk e.P e.w e.K e.mg e.base (L2.CX e.P e.w) k f fd ps sp ∧ Mk e.K C f ∧ e.mg x = some (.ref C) ∧ Binds e.K fd ps []
abbrev BindQ (x qual : Str) (st : Stmt) (ps : List Str) : Prop := ∀ (kV doc pm : Value) (an : Option Addr) (cdv ct : Value) (us : List Value), us.length = ps.length → bindArgs (PySem.W.fnOf x qual (defArgs st) (defBody st) (defScope st) .none kV doc pm an cdv ct) ⟨us, []⟩ = pure (ps.zip us)
section
variable {e : Wd} {C : Addr} {m x qual : Str} {st : Stmt} {N ps : List Str} {k : Nat} {sp : Sp}
theorem fnokQ {f : Addr} {fd : FuncData} (F : FunD e.K x qual (defArgs st) (defBody st) (defScope st) [] [] f fd) (S : FnScope N ps (defScope st)) (len : ∀ vs H Q E, sp vs H Q E → vs.length = ps.length)
    (hbody : ∀ (cdv : Value) (f : Addr) (A : Around) (outer : List Env) (s : Shared) (H : Hp) (vs : List V) (Q : VK) (E : XK), Room k (A.deeper (envOfC qual (defScope st) s.heap.objs.size f cdv)) → sp vs H Q E →
      ∃ t, PSs (cxOf (L2.CX e.P e.w) e.P e.w e.K e.mg e.base N qual (defScope st) f cdv A outer s H E).nox (defBody st) t ∧ t { nx := fun _ H' => Q .non H', rt := Q } (start N vs) H) : FnOk e.P e.w e.K e.mg e.base (L2.CX e.P e.w) (k + 1) f fd ps sp :=
  F.ok S len fun cdv A outer s H vs Q E hr h => by
    obtain ⟨t, h1, h2⟩ := hbody cdv f A outer s H vs Q E hr h
    exact ⟨t, h1.nox, h2⟩
theorem canM_of (D : MethAt e C m qual st) (S : FnScope N ps (defScope st)) (B : BindQ m qual st ps) (len : ∀ vs H Q E, sp vs H Q E → vs.length = ps.length)
    (hbody : ∀ (cdv : Value) (f : Addr) (A : Around) (outer : List Env) (s : Shared) (H : Hp) (vs : List V) (Q : VK) (E : XK), Room k (A.deeper (envOfC qual (defScope st) s.heap.objs.size f cdv)) → sp vs H Q E →
      ∃ t, PSs (cxOf (L2.CX e.P e.w) e.P e.w e.K e.mg e.base N qual (defScope st) f cdv A outer s H E).nox (defBody st) t ∧ t { nx := fun _ H' => Q .non H', rt := Q } (start N vs) H) : CanM e (k + 1) C m ps sp := by
  obtain ⟨f, fd, F, M, c⟩ := D
  exact ⟨f, fd, fnokQ F S len hbody, c, M, F.bindsN B⟩
theorem canN_of (D : InitAt e C x qual st) (S : FnScope N ps (defScope st)) (B : BindQ "__init__" qual st ps) (len : ∀ vs H Q E, sp vs H Q E → vs.length = ps.length)
    (hbody : ∀ (cdv : Value) (f : Addr) (A : Around) (outer : List Env) (s : Shared) (H : Hp) (vs : List V) (Q : VK) (E : XK), Room k (A.deeper (envOfC qual (defScope st) s.heap.objs.size f cdv)) → sp vs H Q E →
      ∃ t, PSs (cxOf (L2.CX e.P e.w) e.P e.w e.K e.mg e.base N qual (defScope st) f cdv A outer s H E).nox (defBody st) t ∧ t { nx := fun _ H' => Q .non H', rt := Q } (start N vs) H) : CanN e (k + 1) C x ps sp := by
  obtain ⟨f, fd, F, M, g⟩ := D
  exact ⟨f, fd, fnokQ F S len hbody, M, g, F.bindsN B⟩
end
section
variable {X : Cx} {E : XK} {k : Nat} {C : Addr} {m x : Str} {ps : List Str} {sp : Sp} {o e : Expr} {es : List Expr} {p pos apos : Pos} {ta : TE} {t : TA}
theorem pe_canM {pl : Sem Bool} (c : CanM (wdOf X) k C m ps sp) (hr : Room k X.A) (hx : Passes (L2.CX X.prog X.w) X E) (he : PE X o ta) (ha : PA X (e :: es) t)
    (hst : starEach (e :: es) X.env = (false, eval e X.env) :: starEach es X.env := by rfl) (hpl : (backTo pos (starEach es X.env)).any (·.1) = false := by rfl)
    (ht : eval (.Call (.Attribute o m apos) (e :: es) [] pos) X.env = (do
      let ov ← eval o X.env
      standAt apos.atName
      let (f, first) ← holding [ov] (getMethod ov m pl)
      callWith pos f first (backTo pos (starEach (e :: es) X.env)) (backToKw pos (keywordEach [] X.env))) := by rfl) : PE X (.Call (.Attribute o m apos) (e :: es) [] pos) (tMeth C m sp [] E ta t) := by
  obtain ⟨f, fd, F, c, M, b⟩ := c
  exact pe_meth he c M F hr b .nil hx ha hst hpl ht
theorem pe_canM0 {pl : Sem Bool} (c : CanM (wdOf X) k C m ps sp) (hr : Room k X.A) (hx : Passes (L2.CX X.prog X.w) X E) (he : PE X o ta)
    (ht : eval (.Call (.Attribute o m apos) [] [] pos) X.env = (do
      let ov ← eval o X.env
      standAt apos.atName
      let (f, first) ← holding [ov] (getMethod ov m pl)
      callWith pos f first (backTo pos (starEach [] X.env)) (backToKw pos (keywordEach [] X.env))) := by rfl) : PE X (.Call (.Attribute o m apos) [] [] pos) (tMeth C m sp [] E ta tNil) := by
  obtain ⟨f, fd, F, c, M, b⟩ := c
  exact pe_meth0 he c M F hr b .nil hx ht
theorem pe_canN (c : CanN (wdOf X) k C x ps sp) (hr : Room (k + 1) X.A) (hx : Passes (L2.CX X.prog X.w) X E) (ha : PA X (e :: es) t) (hg : Gl X x := by rfl) (hdb : (x == ("__debug__" : Str)) = false := by decide)
    (he : starEach (e :: es) X.env = (false, eval e X.env) :: starEach es X.env := by rfl) (hpl : (backTo pos (starEach es X.env)).any (·.1) = false := by rfl) : PE X (.Call (.Name x p) (e :: es) [] pos) (tMake C sp [] E t) := by
  obtain ⟨f, fd, F, M, g, b⟩ := c
  exact pe_make M F hr hg g b .nil hx ha hdb he hpl
theorem pe_canN0 (c : CanN (wdOf X) k C x ps sp) (hr : Room (k + 1) X.A) (hx : Passes (L2.CX X.prog X.w) X E) (hg : Gl X x := by rfl) (hdb : (x == ("__debug__" : Str)) = false := by decide) : PE X (.Call (.Name x p) [] [] pos) (tMake C sp [] E tNil) := by
  obtain ⟨f, fd, F, M, g, b⟩ := c
  exact pe_make0 M F hr hg g b .nil hx hdb
variable {K : PySem.W.Frag} {tv : TE} {value : Expr} {f : Str} {pos' : Pos}
theorem pe_fldU (he : PE X e ta) (hK : X.K = K := by rfl) (hb : attributeBase e f X.env (eval e X.env) = eval e X.env := by rfl) : PE X (.Attribute e f pos) (tFld K ta f) := by
  subst hK
  exact pe_fld he hb
theorem ps_fldU (ha : PE X o ta) (hv : PE X value tv) (hK : X.K = K := by rfl) (hs : swapsWith value (some (.Attribute o f pos')) pos.line X.env = pure false := by rfl) : PS X (.Assign [.Attribute o f pos'] value pos) (sFld K ta tv f) := by
  subst hK
  exact ps_fld ha hv hs
theorem ps_fldaugU {op : Operator} {rd : V → V → Hp → VK → Prop} {tpos : Pos} (ha : PE X o ta) (hv : PE X value tv) (hop : InOp X op rd) (hK : X.K = K := by rfl) : PS X (.AugAssign (.Attribute o f tpos) op value pos) (sFldAug K ta tv rd f) := by
  subst hK
  exact ps_fldaug ha hv hop
end
section
variable {K : PySem.W.Frag} {σ : L2.St} {H : Hp} {Q : VK} {D : Ends} {ta tb tv : TE} {t : TA} {C a dx : Addr} {f m : Str} {fs fs' : List (Str × V)} {v x y : V} {sp : Sp} {E : XK} {P : Prop}
/-- an instance of C with these attributes -/
def Ins (H : Hp) (a C : Addr) (fs : List (Str × V)) : Prop := ∃ dx, H a = some (.ins C dx fs)
theorem Ins.mono {H' : Hp} (h : Ins H a C fs) (k : ∀ o, H a = some o → H' a = some o) : Ins H' a C fs := let ⟨dx, e⟩ := h; ⟨dx, k _ e⟩
theorem Ins.same {H' : Hp} (s : Same H H') (h : Ins H a C fs) : Ins H' a C fs := let ⟨dx, e⟩ := h; ⟨dx, s _ _ e⟩
theorem Ins.stp {H' : Hp} {b : Addr} (s : Stp b H H') (hd : Drw H b) (h : Ins H a C fs) : Ins H' a C fs := by
  obtain ⟨dx, e⟩ := h
  refine ⟨dx, s.at_ e fun q => ?_⟩
  obtain ⟨u, w, z⟩ := hd
  rw [← q, e] at z
  cases z
/-- an attribute of the instance at a is written: all else stands -/
structure Fput (a : Addr) (H H' : Hp) : Prop where
  kp : ∀ b, b ≠ a → H' b = H b
  old : ∃ C fs, Ins H a C fs
theorem Fput.at_ {b : Addr} {o : HO} {H' : Hp} (f : Fput a H H') (h : H b = some o) (n : ∀ C dx fs, o ≠ .ins C dx fs) : H' b = some o := by
  rw [f.kp b fun e => ?_]
  · exact h
  · obtain ⟨C, fs, dx, q⟩ := f.old
    rw [e, q] at h
    exact n C dx fs (Option.some.inj h).symm
theorem Fput.gro {H' : Hp} (f : Fput a H H') : Gro H H' := ⟨(fun b xs e => f.at_ e fun _ _ _ z => by cases z), (fun b o u e => f.at_ e fun _ _ _ z => by cases z)⟩
theorem Fput.lst {b : Addr} {xs : List V} {H' : Hp} (f : Fput a H H') (h : H b = some (.lst xs)) : H' b = some (.lst xs) := f.at_ h fun _ _ _ z => by cases z
theorem Fput.tup {b : Addr} {xs : List V} {H' : Hp} (f : Fput a H H') (h : H b = some (.tup xs)) : H' b = some (.tup xs) := f.at_ h fun _ _ _ z => by cases z
theorem Fput.drw {b : Addr} {H' : Hp} (f : Fput a H H') (h : Drw H b) : Drw H' b := let ⟨x, y, e⟩ := h; ⟨x, y, f.lst e⟩
theorem Fput.fresh {b : Addr} {H' : Hp} {fs' : List (Str × V)} (f : Fput a H H') (hi : Ins H' a C fs') (h : H' b = none) : H b = none := by
  have n : b ≠ a := fun e => by
    obtain ⟨dx, q⟩ := hi
    rw [e, q] at h
    cases h
  rw [← f.kp b n]
  exact h
theorem Ins.fput {b C2 : Addr} {fs2 : List (Str × V)} {H' : Hp} (f : Fput b H H') (n : a ≠ b) (h : Ins H a C2 fs2) : Ins H' a C2 fs2 := let ⟨dx, e⟩ := h; ⟨dx, by rw [f.kp a n]; exact e⟩
def fldq (K : PySem.W.Frag) (f : Str) (x : V) (H : Hp) (Q : VK) : Prop := ∃ a C dx fs v, x = .ref a ∧ H a = some (.ins C dx fs) ∧ Cls K C ∧ NoAttr K C f ∧ fs.lookup f = some v ∧ Q v H
theorem r_fld (q : ta σ H fun x H1 => fldq K f x H1 Q) : tFld K ta f σ H Q := q
theorem r_fldv (h : Ins H a C fs) (c : Cls K C) (n : NoAttr K C f) (l : fs.lookup f = some v) (q : Q v H) : fldq K f (.ref a) H Q := let ⟨dx, e⟩ := h; ⟨a, C, dx, fs, v, rfl, e, c, n, l, q⟩
def sfldq (K : PySem.W.Frag) (f : Str) (y x : V) (σ : L2.St) (D : Ends) (H : Hp) : Prop := ∃ a C dx fs, x = .ref a ∧ H a = some (.ins C dx fs) ∧ Cls K C ∧ NoAttr K C f ∧ fs.length < 1000 ∧ D.nx σ (upd H a (.ins C dx (putF f y fs)))
theorem r_sfld (q : tv σ H fun y H1 => ta σ H1 fun x H2 => sfldq K f y x σ D H2) : sFld K ta tv f D σ H := q
theorem r_sfldv (h : Ins H a C fs) (c : Cls K C) (n : NoAttr K C f) (hl : fs.length < 1000) (e : putF f y fs = fs') (k : ∀ H', Ins H' a C fs' → Fput a H H' → D.nx σ H') : sfldq K f y (.ref a) σ D H := by
  obtain ⟨dx, he⟩ := h
  subst e
  exact ⟨a, C, dx, fs, rfl, he, c, n, hl, k _ ⟨dx, upd_same⟩ ⟨fun b hb => upd_ne hb, C, fs, dx, he⟩⟩
def methq (C : Addr) (m : Str) (x : V) (H : Hp) (P : Prop) : Prop := ∃ a dx fs, x = .ref a ∧ H a = some (.ins C dx fs) ∧ fs.lookup m = none ∧ P
theorem r_meth (q : ta σ H fun x H1 => methq C m x H1 (t σ H1 fun vs H2 => sp (x :: vs) H2 Q E)) : tMeth C m sp [] E ta t σ H Q := by
  show ta σ H fun x H1 => ∃ a dx fs, x = .ref a ∧ H1 a = some (.ins C dx fs) ∧ fs.lookup m = none ∧ t σ H1 fun vs H2 => sp (x :: (vs ++ [])) H2 Q E
  have e : (fun (x : V) H1 => ∃ a dx fs, x = .ref a ∧ H1 a = some (.ins C dx fs) ∧ fs.lookup m = none ∧ t σ H1 fun vs H2 => sp (x :: (vs ++ [])) H2 Q E) = fun (x : V) H1 => methq C m x H1 (t σ H1 fun vs H2 => sp (x :: vs) H2 Q E) := by
    funext x H1
    have e2 : (fun (vs : List V) H2 => sp (x :: (vs ++ [])) H2 Q E) = fun vs H2 => sp (x :: vs) H2 Q E := by
      funext vs H2
      rw [List.append_nil]
    rw [e2]
    rfl
  rw [e]
  exact q
theorem r_methv (h : Ins H a C fs) (l : fs.lookup m = none) (q : P) : methq C m (.ref a) H P := let ⟨dx, e⟩ := h; ⟨a, dx, fs, rfl, e, l, q⟩
/-- a new instance, then __init__ -/
def makeq (C : Addr) (sp : Sp) (E : XK) (vs : List V) (H : Hp) (Q : VK) : Prop := ∀ x dx, H x = none → H dx = none → dx ≠ x → sp (.ref x :: vs) (upd (upd H dx (.own x)) x (.ins C dx [])) (fun v H2 => v = .non ∧ Q (.ref x) H2) E
theorem r_make (q : t σ H fun vs H1 => makeq C sp E vs H1 Q) : tMake C sp [] E t σ H Q := by
  have e : (fun (vs : List V) (H1 : Hp) => ∀ x dx, H1 x = none → H1 dx = none → dx ≠ x → sp (.ref x :: (vs ++ [])) (upd (upd H1 dx (.own x)) x (.ins C dx [])) (fun v H2 => v = .non ∧ Q (.ref x) H2) E) = fun (vs : List V) (H1 : Hp) => makeq C sp E vs H1 Q := by
    funext vs H1
    rw [List.append_nil]
    rfl
  show t σ H fun (vs : List V) (H1 : Hp) => ∀ x dx, H1 x = none → H1 dx = none → dx ≠ x → sp (.ref x :: (vs ++ [])) (upd (upd H1 dx (.own x)) x (.ins C dx [])) (fun v H2 => v = .non ∧ Q (.ref x) H2) E
  rw [e]
  exact q
theorem r_makev {vs : List V} (k : ∀ x H', H x = none → Same H H' → Ins H' x C [] → sp (.ref x :: vs) H' (fun v H2 => v = .non ∧ Q (.ref x) H2) E) : makeq C sp E vs H Q := fun x dx nx nd ne =>
  k x _ nx (fun b o e => by rw [upd_ne (ne_of_none e nx), upd_ne (ne_of_none e nd)]; exact e) ⟨dx, upd_same⟩
theorem r_non (q : P) : V.non = V.non ∧ P := ⟨rfl, q⟩
end
/-! looking up in short lists of attributes -/
theorem lk_hd {f : Str} {v : V} {r : List (Str × V)} : List.lookup f ((f, v) :: r) = some v := by
  have e : (f == f) = true := beq_self_eq_true f
  simp only [List.lookup, e]
theorem lk_tl {f g : Str} {v : V} {r : List (Str × V)} {o : Option V} (h : (f == g) = false) (e : r.lookup f = o) : List.lookup f ((g, v) :: r) = o := by
  simp only [List.lookup, h]
  exact e
theorem lk_nil {f : Str} : List.lookup f ([] : List (Str × V)) = none := rfl
theorem pf_nil {f : Str} {v : V} : putF f v [] = [(f, v)] := rfl
theorem pf_hd {f : Str} {v x : V} {r : List (Str × V)} : putF f v ((f, x) :: r) = (f, v) :: r := by
  rw [putF, if_pos rfl]
theorem pf_tl {f g : Str} {v x : V} {r r' : List (Str × V)} (h : (g == f) = false) (e : putF f v r = r') : putF f v ((g, x) :: r) = (g, x) :: r' := by
  rw [putF, if_neg (beq_eq_false_iff_ne.mp h), e]
section
variable {X : Cx} {K : PySem.W.Frag} {H : Hp} {Q : VK}
theorem call_strU : CallR X (.type "str") uStr := by
  refine callw (call_str_int.or SkE.call_str_str) fun xs H Q h => ?_
  match xs, h with
  | [.int i], h => exact .inl ⟨_, rfl, h.1, h.2⟩
  | [.str a], h => exact .inr ⟨_, rfl, h⟩
theorem r_strI {n : Int} (h : n.natAbs.log2 < 1920) (q : Q (.str (toString n)) H) : uStr [.int n] H Q := ⟨h, q⟩
theorem r_strS {s : Str} (q : Q (.str s) H) : uStr [.str s] H Q := q
end
theorem inV_str (ss : List Str) (z : Str) : inV (.str z) (ss.map V.str) = decide (z ∈ ss) := by
  by_cases h : z ∈ ss
  · rw [decide_eq_true h]
    unfold inV
    rw [List.any_eq_true]
    exact ⟨.str z, List.mem_map_of_mem h, by simp [eqV]⟩
  · rw [decide_eq_false h]
    exact inV_no fun s hs e => h (e ▸ hs)
section
variable {K : PySem.W.Frag} {H : Hp} {Q : VK} {p : Addr} {ss : List Str} {z : Str}
theorem r_inTs (h : H p = some (.tup (ss.map V.str))) (q : Q (.bl (decide (z ∈ ss))) H) : uIn K (.str z) (.ref p) H Q := r_inT h rfl (flat_strs _) (by rw [inV_str]; exact q)
theorem r_inLs (h : H p = some (.lst (ss.map V.str))) (q : Q (.bl (decide (z ∈ ss))) H) : uIn K (.str z) (.ref p) H Q := r_inL h rfl (flat_strs _) (by rw [inV_str]; exact q)
end
section
variable {K : PySem.W.Frag} {H : Hp} {Q : VK} {p : Addr} {z : Str} {n : Int} {b : Bool}
theorem r_isNN (q : Q (.bl true) H) : uIs .non .non H Q := q
theorem r_isNS (q : Q (.bl false) H) : uIs (.str z) .non H Q := q
theorem r_isNI (q : Q (.bl false) H) : uIs (.int n) .non H Q := q
theorem r_isNR (q : Q (.bl false) H) : uIs (.ref p) .non H Q := q
theorem r_isNB (q : Q (.bl false) H) : uIs (.bl b) .non H Q := q
theorem r_isnotNN (q : Q (.bl false) H) : uIsNot .non .non H Q := q
theorem r_isnotNS (q : Q (.bl true) H) : uIsNot (.str z) .non H Q := q
theorem r_isnotNI (q : Q (.bl true) H) : uIsNot (.int n) .non H Q := q
theorem r_isnotNR (q : Q (.bl true) H) : uIsNot (.ref p) .non H Q := q
theorem r_isnotNB (q : Q (.bl true) H) : uIsNot (.bl b) .non H Q := q
end
/-! data that may be compared -/
structure Okd (n : Nat) (d : PyData) : Prop where
  nb : nb d = true
  dp : d.depth ≤ n
theorem Okd.le {n m : Nat} {d : PyData} (h : Okd n d) (k : n ≤ m) : Okd m d := ⟨h.nb, Nat.le_trans h.dp k⟩
theorem Okd.str {n : Nat} {s : Str} (h : Asc s) : Okd n (.str s) := ⟨by rw [Dk.nb]; exact h.ok, by simp [PyData.depth]⟩
theorem Okd.non {n : Nat} : Okd n .none := ⟨by simp [Dk.nb], by simp [PyData.depth]⟩
theorem Okd.int {n : Nat} (i : Int) : Okd n (.int i) := ⟨by simp [Dk.nb], by simp [PyData.depth]⟩
theorem okd_all {n : Nat} : ∀ {ds : List PyData}, (∀ d ∈ ds, Okd n d) → nbs ds = true ∧ PyData.depthAll ds ≤ n
  | [], _ => ⟨by simp [nbs], by simp [PyData.depthAll]⟩
  | d :: ds, h => by
    have h1 := h d List.mem_cons_self
    have h2 := okd_all fun e he => h e (List.mem_cons_of_mem _ he)
    refine ⟨by rw [nbs, h1.nb, h2.1] <;> rfl, ?_⟩
    rw [PyData.depthAll]
    have := h1.dp
    omega
theorem Okd.tup {n : Nat} {ds : List PyData} (h : ∀ d ∈ ds, Okd n d) : Okd (n + 1) (.tuple ds) := by
  have q := okd_all h
  refine ⟨by rw [Dk.nb]; exact q.1, ?_⟩
  rw [PyData.depth]
  omega
theorem Okd.shaped {n : Nat} {d : PyData} (h : Okd n d) (k : n ≤ 64) : SeqAt.shaped d = true := nb_shaped h.nb (Nat.le_trans h.dp k)
theorem Okd.sD {n : Nat} {ss : List Str} (h : ∀ s ∈ ss, Asc s) : Okd (n + 1) (sD ss) := by
  refine .tup fun d hd => ?_
  obtain ⟨s, hs, rfl⟩ := List.mem_map.mp hd
  exact .str (h s hs)
section
variable {K : PySem.W.Frag} {H : Hp} {Q : VK} {p : Addr} {y : V} {d f : PyData} {n : Nat}
theorem r_neOk (hx : Dq H (.ref p) d) (hy : Dq H y d) (ok : Okd n d) (hn : n ≤ 64) (q : Q (.bl false) H) : uNe K (.ref p) y H Q := by
  refine r_neD hx hy (ok.shaped hn) (ok.shaped hn) ?_
  rw [eqv_self ok.nb]
  exact q
theorem r_eqOk (hx : Dq H (.ref p) d) (hy : Dq H y d) (ok : Okd n d) (hn : n ≤ 64) (q : Q (.bl true) H) : uEq K (.ref p) y H Q := by
  refine r_eqD hx hy (ok.shaped hn) (ok.shaped hn) ?_
  rw [eqv_self ok.nb]
  exact q
end
theorem len_cut (z : Str) (lo hi : Option Int) : (cutS z lo hi).length ≤ z.length := by
  show (((z.cps.toList.drop _).take _).toArray).size ≤ z.cps.size
  rw [List.size_toArray, List.length_take, List.length_drop, Array.length_toList]
  omega
/-- a list alone is changed -/
theorem gro_but {H H' : Hp} {a : Addr} {xs : List V} (h : H a = some (.lst xs)) (k : ∀ b, b ≠ a → H' b = H b) : Gro H H' := by
  refine ⟨fun b ys q => ?_, fun b o u q => ?_⟩
  · rw [k b (ne_of q h (by intro z; cases z))]
    exact q
  · rw [k b (ne_of q h (by intro z; cases z))]
    exact q
/-! an attribute changed by an operator -/
section
variable {K : PySem.W.Frag} {σ : L2.St} {H : Hp} {D : Ends} {ta tv : TE} {C a : Addr} {f : Str} {fs fs' : List (Str × V)} {v x y z : V} {rd : V → V → Hp → VK → Prop}
def augq (K : PySem.W.Frag) (f : Str) (tv : TE) (rd : V → V → Hp → VK → Prop) (x : V) (σ : L2.St) (D : Ends) (H1 : Hp) : Prop := ∃ a C dx fs v, x = .ref a ∧ H1 a = some (.ins C dx fs) ∧ Cls K C ∧ NoAttr K C f ∧ fs.lookup f = some v ∧
  tv σ H1 fun y H2 => rd v y H2 fun z H3 => ∃ dx' fs', H3 a = some (.ins C dx' fs') ∧ fs'.length < 1000 ∧ D.nx σ (upd H3 a (.ins C dx' (putF f z fs')))
def putq (a C : Addr) (f : Str) (σ : L2.St) (D : Ends) : VK := fun z H3 => ∃ dx' fs', H3 a = some (.ins C dx' fs') ∧ fs'.length < 1000 ∧ D.nx σ (upd H3 a (.ins C dx' (putF f z fs')))
theorem r_fldaug (q : ta σ H fun x H1 => augq K f tv rd x σ D H1) : sFldAug K ta tv rd f D σ H := q
theorem r_augq (h : Ins H a C fs) (c : Cls K C) (n : NoAttr K C f) (l : fs.lookup f = some v) (q : tv σ H fun y H2 => rd v y H2 (putq a C f σ D)) : augq K f tv rd (.ref a) σ D H := let ⟨dx, e⟩ := h; ⟨a, C, dx, fs, v, rfl, e, c, n, l, q⟩
theorem r_inAdd {i j : Int} {Q : VK} (q : Q (.int (i + j)) H) : rAdd (.int i) (.int j) H Q := ⟨i, j, rfl, rfl, q⟩
theorem r_inSub {i j : Int} {Q : VK} (q : Q (.int (i - j)) H) : rSub (.int i) (.int j) H Q := ⟨i, j, rfl, rfl, q⟩
theorem r_putq (h : Ins H a C fs) (hl : fs.length < 1000) (e : putF f z fs = fs') (k : ∀ H', Ins H' a C fs' → Fput a H H' → D.nx σ H') : putq a C f σ D z H := by
  obtain ⟨dx, he⟩ := h
  subst e
  exact ⟨dx, fs, he, hl, k _ ⟨dx, upd_same⟩ ⟨fun b hb => upd_ne hb, C, fs, dx, he⟩⟩
end
theorem get_mapG {α β : Type} {f : α → β} {xs : List α} {i : Nat} {y : β} (h : (xs.map f)[i]? = some y) : ∃ x, xs[i]? = some x ∧ f x = y := by
  rw [List.getElem?_map] at h
  cases e : xs[i]? with
  | none =>
    rw [e] at h
    cases h
  | some x =>
    rw [e] at h
    exact ⟨x, rfl, Option.some.inj h⟩
end Dk

/-! Defs that raise, own exceptions, except clauses. -/
namespace Dk
open PySem PySem.Spec PyProof.Rows L2
/-- an exception class of the program without its own __init__ -/
def Xco (K : PySem.W.Frag) (C : Addr) : Prop := PySem.W.excIn K C He.veBase "ValueError.__new__" = true ∧ PySem.W.keepIn K (.ref C) = true ∧ PySem.W.subIn K (.ref C) (.type "BaseException") = some true ∧ PySem.W.typeIn K (.ref C) = some (.type "type")
section
variable {e : Wd} {C : Addr} {m x qual : Str} {st : Stmt} {N ps : List Str} {k : Nat} {sp : Sp}
abbrev cxX (e : Wd) (N : List Str) (qual : Str) (scope : Scope) (f : Addr) (cdv : Value) (A : Around) (outer : List Env) (s : Shared) (H : Hp) (E : XK) : Cx := cxOf (L2.CX e.P e.w) e.P e.w e.K e.mg e.base N qual scope f cdv A outer s H E
/-- what a raising body has to show -/
abbrev BodyX (e : Wd) (qual : Str) (st : Stmt) (N : List Str) (k : Nat) (sp : Sp) : Prop :=
  ∀ (cdv : Value) (f : Addr) (A : Around) (outer : List Env) (s : Shared) (H : Hp) (vs : List V) (Q : VK) (E : XK), Room k (A.deeper (envOfC qual (defScope st) s.heap.objs.size f cdv)) → sp vs H Q E →
    Takes (cxX e N qual (defScope st) f cdv A outer s H E) (fun cls d _ H' => E cls d H') → PassesOwn (model e.P e.w) (cxX e N qual (defScope st) f cdv A outer s H E).A (cxX e N qual (defScope st) f cdv A outer s H E).env (cxX e N qual (defScope st) f cdv A outer s H E).xe →
    ∃ t, PSs (cxX e N qual (defScope st) f cdv A outer s H E) (defBody st) t ∧ t { nx := fun _ H' => Q .non H', rt := Q } (start N vs) H
theorem fnokX {f : Addr} {fd : FuncData} (F : FunD e.K x qual (defArgs st) (defBody st) (defScope st) [] [] f fd) (S : FnScope N ps (defScope st)) (len : ∀ vs H Q E, sp vs H Q E → vs.length = ps.length) (hb : BodyX e qual st N k sp) : FnOk e.P e.w e.K e.mg e.base (L2.CX e.P e.w) (k + 1) f fd ps sp :=
  F.ok S len fun cdv A outer s H vs Q E hr h => hb cdv f A outer s H vs Q E hr h (takes_of rfl rfl rfl rfl) (passes_of rfl)
theorem canX_of (D : DefAt e x st) (S : FnScope N ps (defScope st)) (B : BindOk x st ps) (len : ∀ vs H Q E, sp vs H Q E → vs.length = ps.length) (hb : BodyX e x st N k sp) : Can e (k + 1) x ps sp := by
  obtain ⟨f, fd, F, m⟩ := D
  exact ⟨f, fd, fnokX F S len hb, m, F.kp, F.bindsN B⟩
theorem canMX_of (D : MethAt e C m qual st) (S : FnScope N ps (defScope st)) (B : BindQ m qual st ps) (len : ∀ vs H Q E, sp vs H Q E → vs.length = ps.length) (hb : BodyX e qual st N k sp) : CanM e (k + 1) C m ps sp := by
  obtain ⟨f, fd, F, M, c⟩ := D
  exact ⟨f, fd, fnokX F S len hb, c, M, F.bindsN B⟩
end
/-! ### calls that may raise -/
section
variable {X : Cx} {W : WX} {k : Nat} {C : Addr} {m x : Str} {ps : List Str} {sp : Sp} {o e : Expr} {es : List Expr} {p pos apos : Pos} {ta : TE} {t : TA}
theorem pe_canX (tk : Takes X W) (c : Can (wdOf X) k x ps sp) (hr : Room k X.A) (ha : PA X (e :: es) t) (hg : Gl X x := by rfl)
    (hdb : (x == ("__debug__" : Str)) = false := by decide) (he : starEach (e :: es) X.env = (false, eval e X.env) :: starEach es X.env := by rfl) (hpl : (backTo pos (starEach es X.env)).any (·.1) = false := by rfl) : PE X (.Call (.Name x p) (e :: es) [] pos) (tCallS sp (WE W) t) := by
  obtain ⟨f, fd, F, m, kp, b⟩ := c
  exact pe_callS F hr hg m kp b (fun σ => passAt tk σ) ha hdb he hpl
theorem pe_canX0 (tk : Takes X W) (c : Can (wdOf X) k x ps sp) (hr : Room k X.A) (hg : Gl X x := by rfl) (hdb : (x == ("__debug__" : Str)) = false := by decide) : PE X (.Call (.Name x p) [] [] pos) (tCallS sp (WE W) tNil) := by
  obtain ⟨f, fd, F, m, kp, b⟩ := c
  exact ⟨fun pins s σ H Q I h => wpAny_Call_Name_kw (ld_glob I hg m (PySem.W.callWith_K0 I.kIn kp (run_fnS (us := []) F hr b (passAt tk σ) I .nil h)) hdb)⟩
/-- o.m(..) that may raise -/
def tMethX (C : Addr) (m : Str) (sp : Sp) (E : L2.St → XK) (ta : TE) (t : TA) : TE := fun σ H Q => ta σ H fun x H1 => methq C m x H1 (t σ H1 fun vs H2 => sp (x :: vs) H2 Q (E σ))
theorem pe_canMX {pl : Sem Bool} (tk : Takes X W) (c : CanM (wdOf X) k C m ps sp) (hr : Room k X.A) (he : PE X o ta) (ha : PA X (e :: es) t)
    (hst : starEach (e :: es) X.env = (false, eval e X.env) :: starEach es X.env := by rfl) (hpl : (backTo pos (starEach es X.env)).any (·.1) = false := by rfl)
    (ht : eval (.Call (.Attribute o m apos) (e :: es) [] pos) X.env = (do let ov ← eval o X.env; standAt apos.atName; let (f, first) ← holding [ov] (getMethod ov m pl); callWith pos f first (backTo pos (starEach (e :: es) X.env)) (backToKw pos (keywordEach [] X.env))) := by rfl) :
    PE X (.Call (.Attribute o m apos) (e :: es) [] pos) (tMethX C m sp (WE W) ta t) := by
  obtain ⟨f, fd, F, c, M, b⟩ := c
  refine ⟨fun pins s σ H Q I h => PySem.W.methodCall_KW (pl := pl) (thn (he.run pins s σ H _ I h) fun u s1 ⟨x, H1, I1, rx, a, dx, fs, ex, ea, l, q⟩ => ?_) ht⟩
  cases ex
  cases rx
  exact getmeth_ok I1 ea c M l (PySem.W.callWith_K (first := [.ref a]) (h₀ := X.base) I.ok.mod.kin M.kp (thn (ha.run pos pins s1 σ H1 _ I1 q) fun us s2 ⟨vs, H2, I2, r, q2⟩ => ⟨I2.kIn, run_fnS (us := .ref a :: us) (vs := .ref a :: vs) F hr b (passAt tk σ) I2 (.cons rfl r) q2⟩) hst hpl)
theorem pe_canMX0 {pl : Sem Bool} (tk : Takes X W) (c : CanM (wdOf X) k C m ps sp) (hr : Room k X.A) (he : PE X o ta)
    (ht : eval (.Call (.Attribute o m apos) [] [] pos) X.env = (do let ov ← eval o X.env; standAt apos.atName; let (f, first) ← holding [ov] (getMethod ov m pl); callWith pos f first (backTo pos (starEach [] X.env)) (backToKw pos (keywordEach [] X.env))) := by rfl) :
    PE X (.Call (.Attribute o m apos) [] [] pos) (tMethX C m sp (WE W) ta tNil) := by
  obtain ⟨f, fd, F, c, M, b⟩ := c
  refine ⟨fun pins s σ H Q I h => PySem.W.methodCall_KW (pl := pl) (thn (he.run pins s σ H _ I h) fun u s1 ⟨x, H1, I1, rx, a, dx, fs, ex, ea, l, q⟩ => ?_) ht⟩
  cases ex
  cases rx
  exact getmeth_ok I1 ea c M l (PySem.W.callWith_K0 (first := [.ref a]) I1.kIn M.kp (run_fnS (us := [.ref a]) (vs := [.ref a]) F hr b (passAt tk σ) I1 (.cons rfl .nil) q))
end
/-! ### raise -/
section
variable {X : Cx} {W : WX} {K : PySem.W.Frag} {C : Addr} {x : Str} {e : Expr} {p pos : Pos} {ta : TE} {t : L2.St → Hp → XK → Prop} {D : Ends} {σ : L2.St} {H : Hp} {cls : Value} {d : Option Addr} {i : Nat} {ts : Addr → Value → Option Addr → TS} {Wout : WX}
def tMk0 (C : Addr) : L2.St → Hp → XK → Prop := fun _ H Q => Q (.ref C) none H
def tMk1 (C : Addr) (ta : TE) : L2.St → Hp → XK → Prop := fun σ H Q => ta σ H fun _ H1 => Q (.ref C) none H1
theorem mk0 (xo : Xco X.K C) (g : X.mg x = some (.ref C)) (hg : Gl X x := by rfl) (hdb : (x == ("__debug__" : Str)) = false := by decide) : PMk X (.Call (.Name x p) [] [] pos) (tMk0 C) := by
  obtain ⟨h1, h2, h3, h4⟩ := xo
  intro pins s σ H Q I h
  obtain ⟨bm, N, nm, qn, bs, hdct, sn, sub, ab, col, dd, k0, k1, k2, k3, k5, mN, hC, hN, hni, T⟩ := exc_obj I.kIn h1
  refine wpAny_Call_Name_kw (ld_glob I hg g (PySem.W.callWith_K0 I.kIn h2 ?_) hdb)
  show wpAny _ _ (call (.ref C) []) _ _ _
  exact wpAny_call_exc_subT PySem.F.excBase_ValueError T hC hN hni (fun h' e hm => mk_of I hm (raises_own h3 h4) h (I.hok.gone hm.new)) (Nat.zero_le _)
theorem mk1 (xo : Xco X.K C) (g : X.mg x = some (.ref C)) (he : PE X e ta) (hg : Gl X x := by rfl) (hs : starEach [e] X.env = (false, eval e X.env) :: starEach [] X.env := by rfl) (hdb : (x == ("__debug__" : Str)) = false := by decide) :
    PMk X (.Call (.Name x p) [e] [] pos) (tMk1 C ta) := by
  obtain ⟨h1, h2, h3, h4⟩ := xo
  exact SkE.pmk_own1 PySem.F.excBase_ValueError h1 g h2 (raises_own h3 h4) hg he hs hdb
def tRaise (t : L2.St → Hp → XK → Prop) (W : WX) : TS := fun _ σ H => t σ H fun cls d H' => W cls d σ H'
theorem ps_raiseU (hc : X.calm = true) (tk : Takes X W) (he : PMk X e t) : PS X (.Raise (some e) none pos) (tRaise t W) := ps_raise hc tk he
/-- a statement that is not reached -/
theorem ps_never {s : Stmt} : PS X s (fun _ _ _ => False) := ⟨fun _ _ _ _ _ _ h => h.elim⟩
theorem r_raise0 (q : W (.ref C) none σ H) : tRaise (tMk0 C) W D σ H := q
theorem r_raise1 (q : ta σ H fun _ H1 => W (.ref C) none σ H1) : tRaise (tMk1 C ta) W D σ H := q
/-! ### except clauses -/
/-- what an exception finds: the clause, or nothing -/
def tTryA (K : PySem.W.Frag) (c : Value) (i : Nat) (ts : Addr → Value → Option Addr → TS) (Wout : WX) (tb : WX → TS) : TS := fun D σ H => tb (wAs K c i ts Wout D) D σ H
def tTryO (K : PySem.W.Frag) (c : Value) (ts : Addr → Value → Option Addr → TS) (Wout : WX) (tb : WX → TS) : TS := fun D σ H => tb (wOnly K c ts Wout D) D σ H
theorem r_tryA {tb : WX → TS} (q : tb (wAs K (.ref C) i ts Wout D) D σ H) : tTryA K (.ref C) i ts Wout tb D σ H := q
theorem r_tryO {tb : WX → TS} (q : tb (wOnly K (.ref C) ts Wout D) D σ H) : tTryO K (.ref C) ts Wout tb D σ H := q
theorem r_wAsT {c : Value} (h : PySem.W.exmOne K cls c = some true) (k : ∀ a, H a = none → ts a cls d { nx := fun σ' H' => D.nx (σ'.set i none) H', rt := D.rt, bk := fun σ' H' => D.bk (σ'.set i none) H', ct := fun σ' H' => D.ct (σ'.set i none) H' } (σ.set i (some (.ref a))) H) : wAs K c i ts Wout D cls d σ H :=
  ⟨true, h, fun _ => k, (fun z => absurd z.symm Bool.false_ne_true)⟩
theorem r_wAsF {c : Value} (h : PySem.W.exmOne K cls c = some false) (k : Wout cls d σ H) : wAs K c i ts Wout D cls d σ H := ⟨false, h, (fun z => absurd z Bool.false_ne_true), fun _ => k⟩
theorem r_wOnlyT {c : Value} (h : PySem.W.exmOne K cls c = some true) (k : ∀ a, H a = none → ts a cls d D σ H) : wOnly K c ts Wout D cls d σ H := ⟨true, h, fun _ => k, (fun z => absurd z.symm Bool.false_ne_true)⟩
theorem r_wOnlyF {c : Value} (h : PySem.W.exmOne K cls c = some false) (k : Wout cls d σ H) : wOnly K c ts Wout D cls d σ H := ⟨false, h, (fun z => absurd z Bool.false_ne_true), fun _ => k⟩
/-- isinstance(e, a class) of the exception in hand -/
def rIsX (K : PySem.W.Frag) (cls : Value) (d : Option Addr) (a : Addr) : List V → Hp → VK → Prop := fun xs H Q => ∃ D, cls = .ref D ∧ d = none ∧ ExcC K D ∧ rIsE K D a xs H Q
theorem call_isX {a : Addr} {oe : Obj} {pn : List (Addr × Obj)} (hz : Zc cls d oe) (hf : ∃ vs, oe.data = .fields vs) (hK : X.K = K := by rfl) : CallR (X.suite a ((a, oe) :: pn)) (.builtin "isinstance") (rIsX K cls d a) := by
  subst hK
  intro pins s σ H xs us Q I r ⟨D, e1, e2, c, q⟩
  subst e1 e2
  exact call_isE c hz hf pins s σ H xs us Q I r q
theorem r_isX {a D2 : Addr} {b : Bool} {Q : VK} (h : ExcC K C) (hk : PySem.W.kitOne K (.ref C) (.ref D2) = some b) (q : Q (.bl b) H) : rIsX K (.ref C) none a [.ref a, .ref D2] H Q :=
  ⟨C, rfl, rfl, h, .ref D2, .ref D2, b, rfl, fun u r => r, hk, q⟩
theorem r_isXt {a : Addr} {n : String} {b : Bool} {Q : VK} (h : ExcC K C) (hk : PySem.W.kitOne K (.ref C) (.type n) = some b) (q : Q (.bl b) H) : rIsX K (.ref C) none a [.ref a, .ty n] H Q :=
  ⟨C, rfl, rfl, h, .ty n, .type n, b, rfl, fun u r => r, hk, q⟩
end
/-! ### readings of calls that may raise -/
section
variable {σ : L2.St} {H : Hp} {Q : VK} {ta : TE} {t : TA} {C : Addr} {m : Str} {sp : Sp} {E : L2.St → XK} {W : WX}
theorem r_callS (q : t σ H fun vs H1 => sp vs H1 Q (E σ)) : tCallS sp E t σ H Q := q
theorem r_methX (q : ta σ H fun x H1 => methq C m x H1 (t σ H1 fun vs H2 => sp (x :: vs) H2 Q (E σ))) : tMethX C m sp E ta t σ H Q := q
end
section
variable {X : Cx} {K : PySem.W.Frag} {x n : Str} {C : Addr} {i : Nat} {body suite : List Stmt} {b₀ : Stmt} {np pos pos' : Pos} {tb : WX → TS} {ts : Addr → Value → Option Addr → TS} {Wout : WX}
theorem ps_tryA (hs : X.stack = X.env :: X.outer) (hf : X.env.frame = some X.env.locals) (hN : X.N.Nodup) (hi : X.N[i]? = some n) (hln : X.env.kindOf n = some .local) (hc : Names X x (.ref C)) (tk : Takes X Wout)
    (hb : ∀ (W : WX) (pn : List (Addr × Obj)) (xe : Value → Shared → Prop), Takes (X.tr pn xe) W → PassesOwn (model X.prog X.w) X.A X.env xe → PSs (X.tr pn xe) body (tb W))
    (hsu : ∀ (a : Addr) (oe : Obj) (cls : Value) (d : Option Addr) (pn : List (Addr × Obj)), Zc cls d oe → (∃ vs, oe.data = .fields vs) → PSs (X.suite a ((a, oe) :: pn)) (b₀ :: suite) (ts a cls d)) (hK : X.K = K := by rfl) :
    PS X (.Try body [.ExceptHandler (some (.Name x np)) (some n) (b₀ :: suite) pos'] [] [] pos) (tTryA K (.ref C) i ts Wout tb) := by
  subst hK
  exact ps_try_as hs hf hN hi hln hc tk hb hsu
theorem ps_tryO (hs : X.stack = X.env :: X.outer) (hf : X.env.frame = some X.env.locals) (hc : Names X x (.ref C)) (tk : Takes X Wout)
    (hb : ∀ (W : WX) (pn : List (Addr × Obj)) (xe : Value → Shared → Prop), Takes (X.tr pn xe) W → PassesOwn (model X.prog X.w) X.A X.env xe → PSs (X.tr pn xe) body (tb W))
    (hsu : ∀ (a : Addr) (oe : Obj) (cls : Value) (d : Option Addr) (pn : List (Addr × Obj)), Zc cls d oe → (∃ vs, oe.data = .fields vs) → PSs (X.suite a ((a, oe) :: pn)) (b₀ :: suite) (ts a cls d)) (hK : X.K = K := by rfl) :
    PS X (.Try body [.ExceptHandler (some (.Name x np)) none (b₀ :: suite) pos'] [] [] pos) (tTryO K (.ref C) ts Wout tb) := by
  subst hK
  exact ps_try_only hs hf hc tk hb hsu
/-- a class of the module by its name -/
theorem pe_gc (h : X.mg x = some (.ref C)) (hg : Gl X x := by rfl) (hd : (x == ("__debug__" : Str)) = false := by decide) : PE X (.Name x pos) (tC (.ref C)) := pe_glob hg h rfl hd
def uAll (K : PySem.W.Frag) : List V → Hp → VK → Prop := fun vs H Q => ∃ (a : Addr) (bs : List Bool), vs = [V.ref a] ∧ SqL K H a (bs.map V.bl) ∧ Q (.bl (bs.all id)) H
def uAny (K : PySem.W.Frag) : List V → Hp → VK → Prop := fun vs H Q => ∃ (a : Addr) (bs : List Bool), vs = [V.ref a] ∧ SqL K H a (bs.map V.bl) ∧ Q (.bl (bs.any id)) H
theorem call_allU (hc : X.calm = true) (hK : X.K = K := by rfl) : CallR X (.builtin "all") (uAll K) := by
  subst hK
  exact cr_all hc
theorem call_anyU (hc : X.calm = true) (hK : X.K = K := by rfl) : CallR X (.builtin "any") (uAny K) := by
  subst hK
  exact cr_any hc
variable {H : Hp} {Q : VK} {a : Addr} {bs : List Bool}
theorem r_all (h : H a = some (.lst (bs.map V.bl))) (q : Q (.bl (bs.all id)) H) : uAll K [.ref a] H Q := ⟨a, bs, rfl, SqL.of h, q⟩
theorem r_any (h : H a = some (.lst (bs.map V.bl))) (q : Q (.bl (bs.any id)) H) : uAny K [.ref a] H Q := ⟨a, bs, rfl, SqL.of h, q⟩
end
end Dk

/-! Objects that change: trees of lists and instances, each object once. -/
namespace Dk
open PySem PySem.Spec PyProof.Rows L2
inductive Tr where
  | dat (d : PyData)
  | lst (ts : List Tr)
  | tup (ts : List Tr)
  | ins (C : Addr) (ns : List Str) (ts : List Tr)
mutual
/-- v is the tree t; its own objects stand at fp -/
inductive Own (H : Hp) : V → Tr → List Addr → Prop
  | dat {v : V} {d : PyData} : Dq H v d → Own H v (.dat d) []
  | lst {a : Addr} {vs : List V} {ts : List Tr} {fp : List Addr} : H a = some (.lst vs) → Owns H vs ts fp → a ∉ fp → Own H (.ref a) (.lst ts) (a :: fp)
  | tup {a : Addr} {vs : List V} {ts : List Tr} {fp : List Addr} : H a = some (.tup vs) → Owns H vs ts fp → Own H (.ref a) (.tup ts) fp
  | ins {a dx C : Addr} {fs : List (Str × V)} {ns : List Str} {ts : List Tr} {fp : List Addr} : H a = some (.ins C dx fs) → fs.map (·.1) = ns → Owns H (fs.map (·.2)) ts fp → a ∉ fp → Own H (.ref a) (.ins C ns ts) (a :: fp)
inductive Owns (H : Hp) : List V → List Tr → List Addr → Prop
  | nil : Owns H [] [] []
  | cons {v : V} {t : Tr} {fp : List Addr} {vs : List V} {ts : List Tr} {gp : List Addr} : Own H v t fp → Owns H vs ts gp → (∀ b ∈ fp, b ∉ gp) → Owns H (v :: vs) (t :: ts) (fp ++ gp)
end
/-- no place in common -/
def Dsj (fp gp : List Addr) : Prop := ∀ b ∈ fp, b ∉ gp
theorem Dsj.symm {fp gp : List Addr} (h : Dsj fp gp) : Dsj gp fp := fun b h1 h2 => h b h2 h1
/-- a step that changes what stands at F, which is F' behind it -/
structure Chg (F F' : List Addr) (H H' : Hp) : Prop where
  kp : ∀ b o, H b = some o → b ∉ F → H' b = some o
  nw : ∀ b ∈ F', b ∈ F ∨ H b = none
  gro : Gro H H'
theorem Chg.refl (F : List Addr) (H : Hp) : Chg F F H H := ⟨fun _ _ h _ => h, fun _ h => .inl h, Gro.refl H⟩
theorem Chg.trans {F F1 F2 : List Addr} {H H1 H2 : Hp} (a : Chg F F1 H H1) (b : Chg F1 F2 H1 H2) : Chg F F2 H H2 := by
  refine ⟨fun c o h n => b.kp c o (a.kp c o h n) fun m => ?_, fun c hc => ?_, a.gro.trans b.gro⟩
  · rcases a.nw c m with z | z
    · exact n z
    · rw [z] at h
      cases h
  · rcases b.nw c hc with z | z
    · exact a.nw c z
    · by_cases m : c ∈ F
      · exact .inl m
      · right
        cases q : H c with
        | none => rfl
        | some o =>
          rw [a.kp c o q m] at z
          cases z
theorem Chg.same {F : List Addr} {H H' : Hp} (s : Same H H') : Chg F F H H' := ⟨fun b o h _ => s b o h, fun _ h => .inl h, Gro.same s⟩
theorem Chg.snd {F F' : List Addr} {H H1 H2 : Hp} (a : Chg F F' H H1) (s : Same H1 H2) : Chg F F' H H2 := a.trans (Chg.same s)
theorem Chg.le {F F' G : List Addr} {H H' : Hp} (a : Chg F F' H H') (h : ∀ b ∈ G, b ∈ F') : Chg F G H H' := ⟨a.kp, fun b hb => a.nw b (h b hb), a.gro⟩
/-- more may be changed than is -/
theorem Chg.wide {F F' G : List Addr} {H H' : Hp} (a : Chg F F' H H') : Chg (F ++ G) (F' ++ G) H H' :=
  ⟨fun b o h n => a.kp b o h fun m => n (List.mem_append_left _ m), fun b hb => (List.mem_append.mp hb).elim (fun z => (a.nw b z).elim (fun y => .inl (List.mem_append_left _ y)) .inr) fun z => .inl (List.mem_append_right _ z), a.gro⟩
theorem Chg.at_ {F F' : List Addr} {H H' : Hp} {b : Addr} {o : HO} (c : Chg F F' H H') (h : H b = some o) (n : b ∉ F) : H' b = some o := c.kp b o h n
theorem Chg.drw {F F' : List Addr} {H H' : Hp} {a : Addr} (c : Chg F F' H H') (h : Drw H a) (n : a ∉ F) : Drw H' a := let ⟨x, y, e⟩ := h; ⟨x, y, c.kp a _ e n⟩
theorem Chg.out {F F' : List Addr} {H H' : Hp} {b : Addr} {o : HO} (c : Chg F F' H H') (h : H b = some o) (n : b ∉ F) : b ∉ F' := fun m => by
  rcases c.nw b m with z | z
  · exact n z
  · rw [z] at h
    cases h
theorem Stp.chg {a : Addr} {H H' : Hp} (s : Stp a H H') : Chg [a] [a] H H' := ⟨fun b o h n => s.fr b o h fun e => n (by rw [e]; exact List.mem_singleton.mpr rfl), fun b h => .inl h, s.gro⟩
theorem Chg.stp {a : Addr} {H H' : Hp} (c : Chg [a] [a] H H') (d : Drw H' a) : Stp a H H' := ⟨fun b o h n => c.kp b o h fun m => n (List.mem_singleton.mp m), c.gro, d⟩
mutual
theorem Own.frame {H H' : Hp} (g : Gro H H') : ∀ {t : Tr} {v : V} {fp : List Addr}, Own H v t fp → (∀ b ∈ fp, H' b = H b) → Own H' v t fp
  | .dat d, _, _, h, _ => by
    cases h with
    | dat h => exact .dat (h.mono g)
  | .lst ts, _, _, h, k => by
    cases h with
    | lst ha hs n => exact .lst (by rw [k _ List.mem_cons_self]; exact ha) (Owns.frame g hs fun b hb => k b (List.mem_cons_of_mem _ hb)) n
  | .tup ts, _, _, h, k => by
    cases h with
    | tup ha hs => exact .tup (g.tup _ _ ha) (Owns.frame g hs k)
  | .ins C ns ts, _, _, h, k => by
    cases h with
    | ins ha he hs n => exact .ins (by rw [k _ List.mem_cons_self]; exact ha) he (Owns.frame g hs fun b hb => k b (List.mem_cons_of_mem _ hb)) n
theorem Owns.frame {H H' : Hp} (g : Gro H H') : ∀ {ts : List Tr} {vs : List V} {fp : List Addr}, Owns H vs ts fp → (∀ b ∈ fp, H' b = H b) → Owns H' vs ts fp
  | [], _, _, h, _ => by cases h; exact .nil
  | t :: ts, _, _, h, k => by
    cases h with
    | cons h1 h2 n => exact .cons (Own.frame g h1 fun b hb => k b (List.mem_append_left _ hb)) (Owns.frame g h2 fun b hb => k b (List.mem_append_right _ hb)) n
end
/-- the objects of a tree stand, and are no tuples, nothing that is locked -/
def Mt (o : Option HO) : Prop := ∃ u, o = some u ∧ (∀ xs, u ≠ .tup xs) ∧ ∀ ob w, u ≠ .frz ob w
theorem mt_lst {o : Option HO} {xs : List V} (h : o = some (.lst xs)) : Mt o := ⟨_, h, (fun _ z => by cases z), (fun _ _ z => by cases z)⟩
theorem mt_ins {o : Option HO} {C dx : Addr} {fs : List (Str × V)} (h : o = some (.ins C dx fs)) : Mt o := ⟨_, h, (fun _ z => by cases z), (fun _ _ z => by cases z)⟩
mutual
theorem Own.there {H : Hp} : ∀ {t : Tr} {v : V} {fp : List Addr}, Own H v t fp → ∀ b ∈ fp, Mt (H b)
  | .dat d, _, _, h, b, hb => by
    cases h
    exact absurd hb List.not_mem_nil
  | .lst ts, _, _, h, b, hb => by
    cases h with
    | lst ha hs n =>
      rcases List.mem_cons.mp hb with e | hb
      · exact mt_lst (e ▸ ha)
      · exact Owns.there hs b hb
  | .tup ts, _, _, h, b, hb => by
    cases h with
    | tup ha hs => exact Owns.there hs b hb
  | .ins C ns ts, _, _, h, b, hb => by
    cases h with
    | ins ha he hs n =>
      rcases List.mem_cons.mp hb with e | hb
      · exact mt_ins (e ▸ ha)
      · exact Owns.there hs b hb
theorem Owns.there {H : Hp} : ∀ {ts : List Tr} {vs : List V} {fp : List Addr}, Owns H vs ts fp → ∀ b ∈ fp, Mt (H b)
  | [], _, _, h, b, hb => by
    cases h
    exact absurd hb List.not_mem_nil
  | t :: ts, _, _, h, b, hb => by
    cases h with
    | cons h1 h2 n => exact (List.mem_append.mp hb).elim (fun z => Own.there h1 b z) fun z => Owns.there h2 b z
end
section
variable {H H' : Hp} {v : V} {t : Tr} {F F' fp : List Addr} {vs : List V} {ts : List Tr}
theorem Own.same (s : Same H H') (h : Own H v t fp) : Own H' v t fp := h.frame (Gro.same s) fun b hb => by
  obtain ⟨u, e, _⟩ := h.there b hb
  rw [e]
  exact s b u e
theorem Owns.same (s : Same H H') (h : Owns H vs ts fp) : Owns H' vs ts fp := h.frame (Gro.same s) fun b hb => by
  obtain ⟨u, e, _⟩ := h.there b hb
  rw [e]
  exact s b u e
theorem Own.chg (c : Chg F F' H H') (n : Dsj F fp) (h : Own H v t fp) : Own H' v t fp := h.frame c.gro fun b hb => by
  obtain ⟨u, e, _⟩ := h.there b hb
  rw [e]
  exact c.kp b u e fun m => n b m hb
theorem Owns.chg (c : Chg F F' H H') (n : Dsj F fp) (h : Owns H vs ts fp) : Owns H' vs ts fp := h.frame c.gro fun b hb => by
  obtain ⟨u, e, _⟩ := h.there b hb
  rw [e]
  exact c.kp b u e fun m => n b m hb
/-- the other tree stays apart -/
theorem Own.apart (c : Chg F F' H H') (n : Dsj F fp) (h : Own H v t fp) : Dsj F' fp := fun b hb m => by
  obtain ⟨u, e, _⟩ := h.there b m
  exact c.out e (fun z => n b z m) hb
theorem Owns.apart (c : Chg F F' H H') (n : Dsj F fp) (h : Owns H vs ts fp) : Dsj F' fp := fun b hb m => by
  obtain ⟨u, e, _⟩ := h.there b m
  exact c.out e (fun z => n b z m) hb
theorem Own.stp {a : Addr} (s : Stp a H H') (n : a ∉ fp) (h : Own H v t fp) : Own H' v t fp := h.chg s.chg fun b hb m => n (List.mem_singleton.mp hb ▸ m)
theorem Own.new_out {a : Addr} (h : Own H v t fp) (n : H a = none) : a ∉ fp := fun m => by
  obtain ⟨u, e, _⟩ := h.there a m
  rw [n] at e
  cases e
theorem Owns.new_out {a : Addr} (h : Owns H vs ts fp) (n : H a = none) : a ∉ fp := fun m => by
  obtain ⟨u, e, _⟩ := h.there a m
  rw [n] at e
  cases e
theorem Own.tup_out {a : Addr} {xs : List V} (h : Own H v t fp) (n : H a = some (.tup xs)) : a ∉ fp := fun m => by
  obtain ⟨u, e, k, _⟩ := h.there a m
  rw [n] at e
  cases e
  exact k _ rfl
end
/-- what is changed at F: tuples and what is locked stand -/
theorem Chg.of {F F' : List Addr} {H H' : Hp} (k : ∀ b o, H b = some o → b ∉ F → H' b = some o) (m : ∀ b ∈ F, Mt (H b)) (n : ∀ b ∈ F', b ∈ F ∨ H b = none) : Chg F F' H H' := by
  refine ⟨k, n, ⟨fun b xs e => k b _ e fun hb => ?_, fun b o u e => k b _ e fun hb => ?_⟩⟩
  · obtain ⟨w, e1, e2, _⟩ := m b hb
    rw [e] at e1
    exact e2 xs (Option.some.inj e1).symm
  · obtain ⟨w, e1, _, e2⟩ := m b hb
    rw [e] at e1
    exact e2 o u (Option.some.inj e1).symm
/-- a list of ints -/
def intsT (ns : List Int) : Tr := .lst (ns.map fun n => .dat (.int n))
theorem ownsInts {H : Hp} : ∀ ns : List Int, Owns H (ns.map V.int) (ns.map fun n => Tr.dat (.int n)) []
  | [] => .nil
  | n :: ns => .cons (fp := []) (.dat (.int n)) (ownsInts ns) fun _ h => absurd h List.not_mem_nil
theorem ownsInts_of {H : Hp} : ∀ {ns : List Int} {vs : List V} {fp : List Addr}, Owns H vs (ns.map fun n => Tr.dat (.int n)) fp → vs = ns.map V.int ∧ fp = []
  | [], _, _, h => by cases h; exact ⟨rfl, rfl⟩
  | n :: ns, _, _, h => by
    cases h with
    | cons h1 h2 _ =>
      cases h1 with
      | dat h1 =>
        cases h1
        obtain ⟨e1, e2⟩ := ownsInts_of h2
        rw [e1, e2]
        exact ⟨rfl, rfl⟩
theorem Own.intsAt {H : Hp} {v : V} {ns : List Int} {fp : List Addr} (h : Own H v (intsT ns) fp) : ∃ a, v = .ref a ∧ fp = [a] ∧ H a = some (.lst (ns.map V.int)) := by
  cases h with
  | lst ha hs n =>
    obtain ⟨e1, e2⟩ := ownsInts_of hs
    rw [e1] at ha
    rw [e2]
    exact ⟨_, rfl, rfl, ha⟩
theorem Own.mkInts {H : Hp} {a : Addr} {ns : List Int} (h : H a = some (.lst (ns.map V.int))) : Own H (.ref a) (intsT ns) [a] := .lst h (ownsInts ns) List.not_mem_nil
theorem Same.before {H H' : Hp} {r : Addr} (s : Same H H') (h : H' r = none) : H r = none := by
  cases q : H r with
  | none => rfl
  | some o =>
    rw [s r o q] at h
    cases h
/-- what is changed was new -/
theorem Same.but {H H1 H2 : Hp} {r : Addr} (s : Same H H1) (n : H r = none) (k : ∀ b, b ≠ r → H2 b = H1 b) : Same H H2 := fun b o e => by
  rw [k b (ne_of_none e n)]
  exact s b o e
theorem Same.fput {H H1 H2 : Hp} {r : Addr} (s : Same H H1) (n : H r = none) (k : Fput r H1 H2) : Same H H2 := Same.but s n k.kp
theorem but_at {H H' : Hp} {a b : Addr} {o : HO} (k : ∀ c, c ≠ a → H' c = H c) (h : H b = some o) (n : b ≠ a) : H' b = some o := by
  rw [k b n]
  exact h
/-- [e for j in range(m)], the elements of any kind: Iv by the new list, the turn, what is in it, the heap -/
theorem lc_RG {σ : L2.St} {H : Hp} {Q : VK} {te : TE} {vs : List Nat} {j : Nat} {m : Int} (Iv : Addr → Nat → List V → Hp → Prop) (h1 : -(2 ^ 62) ≤ m) (h2 : m < 10000000) (hw : ∀ x, wipe ((wipe σ vs).set j (some x)) vs = wipe σ vs)
    (h0 : ∀ D H', H D = none → H' D = some (.lst []) → (∀ b, b ≠ D → H' b = H b) → Iv D 0 [] H')
    (el : ∀ D (i : Nat) ys H1 (Q1 : VK), (i : Int) < m → H D = none → H1 D = some (.lst ys) → Iv D i ys H1 → (∀ y H2, H2 D = some (.lst ys) → (∀ H3, H3 D = some (.lst (ys ++ [y])) → (∀ b, b ≠ D → H3 b = H2 b) → Iv D (i + 1) (ys ++ [y]) H3) → Q1 y H2) → te ((wipe σ vs).set j (some (.int i))) H1 Q1)
    (k : ∀ D H' ys, H D = none → H' D = some (.lst ys) → Iv D m.toNat ys H' → Q (.ref D) H') : rlq [.int m] j tYes te vs σ H Q := by
  refine ⟨m, rfl, h1, by omega, fun D hD => ?_⟩
  refine lc_it (walk_range (lo := 0) (n := m.toNat)) (Qd := fun H' => Q (.ref D) H') (fun i H' => ∃ ys, H' D = some (.lst ys) ∧ ys.length ≤ i ∧ Iv D i ys H') ?_ (fun _ _ _ _ => trivial) ?_ ?_
  · exact ⟨[], upd_same, Nat.le_refl _, h0 D _ hD upd_same fun b hb => upd_ne hb⟩
  · rintro i x H1 H1' hi ⟨ys, hl, hle, iv⟩ hy
    obtain ⟨rfl, rfl⟩ := hy
    have e0 : (0 : Int) + (i : Int) = (i : Int) := Int.zero_add _
    show gName j (V.int ((0 : Int) + (i : Int))) (wipe σ vs) H1' _
    rw [e0]
    refine ⟨hw _, r_tyes (r_iteT (el D i ys H1' _ (by omega) hD hl iv fun y H2 hl2 kk => ?_))⟩
    exact ⟨ys, hl2, by rw [sizeLine_eq]; omega, ys ++ [y], upd_same, by simp; omega, kk _ upd_same fun b hb => upd_ne hb⟩
  · rintro H' ⟨ys, hl, _, iv⟩
    exact k D H' ys hD hl iv
/-- part of a tuple -/
theorem r_slT {K : PySem.W.Frag} {H : Hp} {Q : VK} {p : Addr} {xs : List V} {lo hi : Option Int} (h : H p = some (.tup xs)) (k : ∀ p H', Same H H' → H' p = some (.tup (cutV xs lo hi)) → Q (.ref p) H') : uSl K (.ref p) lo hi H Q := by
  refine .inr ⟨p, xs, rfl, SqT.of h, fun ⟨e1, e2⟩ => ?_, fun _ q nq => k q _ (same_new nq) upd_same⟩
  refine k p H (Same.refl _) ?_
  rw [h]
  unfold cutV
  rw [e1, e2, List.drop_zero, Nat.sub_zero, List.take_of_length_le (Nat.le_refl _)]
/-- min, max of two ints -/
def uMin2 : List V → Hp → VK → Prop := fun xs H Q => match xs with
  | [.int i, .int j] => Q (.int (if j < i then j else i)) H
  | _ => False
def uMax2 : List V → Hp → VK → Prop := fun xs H Q => match xs with
  | [.int i, .int j] => Q (.int (if i < j then j else i)) H
  | _ => False
theorem call_min2U {X : Cx} (hc : X.calm = true) : CallR X (.builtin "min") uMin2 := by
  refine callw (call_min2 hc) fun xs H Q h => ?_
  match xs, h with
  | [.int i, .int j], h => exact ⟨i, j, rfl, h⟩
theorem r_min2 {H : Hp} {Q : VK} {i j : Int} (q : Q (.int (if j < i then j else i)) H) : uMin2 [.int i, .int j] H Q := q
theorem ins_ne {H : Hp} {a b C : Addr} {fs : List (Str × V)} {xs : List V} (h : Ins H a C fs) (k : H b = some (.lst xs)) : a ≠ b := by
  obtain ⟨dx, h⟩ := h
  intro e
  rw [e, k] at h
  cases h
theorem dsj_one {a : Addr} {fp : List Addr} (h : a ∉ fp) : Dsj [a] fp := fun b hb m => h (List.mem_singleton.mp hb ▸ m)
theorem Fput.chg {p : Addr} {fp : List Addr} {H H' : Hp} (f : Fput p H H') (h : p ∈ fp) : Chg fp fp H H' :=
  ⟨fun b o e n => by rw [f.kp b fun z => n (z ▸ h)]; exact e, fun _ h => .inl h, f.gro⟩
theorem but_chg {p : Addr} {fp : List Addr} {H H' : Hp} {xs : List V} (k : ∀ b, b ≠ p → H' b = H b) (e : H p = some (.lst xs)) (h : p ∈ fp) : Chg fp fp H H' :=
  ⟨fun b o e n => by rw [k b fun z => n (z ▸ h)]; exact e, fun _ h => .inl h, gro_but e k⟩
end Dk

/-! Disks. -/
namespace Dk
open PySem PySem.Spec PyProof.Rows L2
def pwV : Option Int → V
  | none => .non
  | some n => .int n
def pwD : Option Int → PyData
  | none => .none
  | some n => .int n
/-- a disk: two contents, their pending steps, the power -/
structure Dsk where
  c : Nat → List Int
  s : Nat → List Int
  pw : Option Int
def diskF (L S : V) (pw : Option Int) : List (Str × V) := [("durable", L), ("steps", S), ("power", pwV pw)]
def diskT (K : PySem.W.Frag) (D : Dsk) : Tr := .ins (He.ga K "Disk") ["durable", "steps", "power"] [.lst [intsT (D.c 0), intsT (D.c 1)], .lst [intsT (D.s 0), intsT (D.s 1)], .dat (pwD D.pw)]
/-- a disk as it stands -/
structure DkAt (K : PySem.W.Frag) (H : Hp) (p L S : Addr) (ca sa : Nat → Addr) (D : Dsk) : Prop where
  ins : Ins H p (He.ga K "Disk") (diskF (.ref L) (.ref S) D.pw)
  ld : H L = some (.lst [.ref (ca 0), .ref (ca 1)])
  ls : H S = some (.lst [.ref (sa 0), .ref (sa 1)])
  cs : ∀ i, i < 2 → H (ca i) = some (.lst ((D.c i).map V.int))
  ss : ∀ i, i < 2 → H (sa i) = some (.lst ((D.s i).map V.int))
  ls' : L ≠ S
  cc : ca 0 ≠ ca 1
  sss : sa 0 ≠ sa 1
  xs : ∀ i j, i < 2 → j < 2 → ca i ≠ sa j
abbrev diskP (p L S : Addr) (ca sa : Nat → Addr) : List Addr := [p, L, ca 0, ca 1, S, sa 0, sa 1]
theorem ints_ne {H : Hp} {a b x y : Addr} {ns : List Int} (h : H a = some (.lst [.ref x, .ref y])) (k : H b = some (.lst (ns.map V.int))) : a ≠ b := by
  intro e
  rw [e, k] at h
  cases ns with
  | nil => cases h
  | cons n r => cases h
theorem pw_dq {H : Hp} (o : Option Int) : Dq H (pwV o) (pwD o) := by
  cases o with
  | none => exact .non
  | some n => exact .int n
theorem pw_of {H : Hp} {v : V} {o : Option Int} (h : Dq H v (pwD o)) : v = pwV o := by
  cases o with
  | none => cases h; rfl
  | some n => cases h; rfl
theorem DkAt.nodup {K : PySem.W.Frag} {H : Hp} {p L S : Addr} {ca sa : Nat → Addr} {D : Dsk} (d : DkAt K H p L S ca sa D) : (diskP p L S ca sa).Nodup := by
  have h0 := d.cs 0 (by decide)
  have h1 := d.cs 1 (by decide)
  have g0 := d.ss 0 (by decide)
  have g1 := d.ss 1 (by decide)
  have a1 := ins_ne d.ins d.ld
  have a2 := ins_ne d.ins d.ls
  have a3 := ins_ne d.ins h0
  have a4 := ins_ne d.ins h1
  have a5 := ins_ne d.ins g0
  have a6 := ins_ne d.ins g1
  have b1 := ints_ne d.ld h0
  have b2 := ints_ne d.ld h1
  have b3 := ints_ne d.ld g0
  have b4 := ints_ne d.ld g1
  have c1 := ints_ne d.ls h0
  have c2 := ints_ne d.ls h1
  have c3 := ints_ne d.ls g0
  have c4 := ints_ne d.ls g1
  have e1 := d.xs 0 0 (by decide) (by decide)
  have e2 := d.xs 0 1 (by decide) (by decide)
  have e3 := d.xs 1 0 (by decide) (by decide)
  have e4 := d.xs 1 1 (by decide) (by decide)
  have f1 := d.ls'
  have f2 := d.cc
  have f3 := d.sss
  simp only [List.nodup_cons, List.mem_cons, List.not_mem_nil, or_false, not_or, not_false_eq_true, List.nodup_nil, and_true]
  exact ⟨⟨a1, a3, a4, a2, a5, a6⟩, ⟨b1, b2, f1, b3, b4⟩, ⟨f2, c1.symm, e1, e2⟩, ⟨c2.symm, e3, e4⟩, ⟨c3, c4⟩, f3⟩
theorem owns2 {H : Hp} {vs : List V} {xs ys : List Int} {fp : List Addr} (h : Owns H vs [intsT xs, intsT ys] fp) : ∃ a b, vs = [.ref a, .ref b] ∧ fp = [a, b] ∧ a ≠ b ∧ H a = some (.lst (xs.map V.int)) ∧ H b = some (.lst (ys.map V.int)) := by
  cases h with
  | cons h1 h2 n =>
    obtain ⟨a, rfl, rfl, ha⟩ := h1.intsAt
    cases h2 with
    | cons h2 h3 n2 =>
      obtain ⟨b, rfl, rfl, hb⟩ := h2.intsAt
      cases h3
      exact ⟨a, b, rfl, rfl, fun e => n a List.mem_cons_self (by rw [e]; exact List.mem_cons_self), ha, hb⟩
theorem owns2_mk {H : Hp} {a b : Addr} {xs ys : List Int} (ha : H a = some (.lst (xs.map V.int))) (hb : H b = some (.lst (ys.map V.int))) (n : a ≠ b) : Owns H [.ref a, .ref b] [intsT xs, intsT ys] [a, b] :=
  .cons (fp := [a]) (gp := [b]) (Own.mkInts ha) (.cons (fp := [b]) (gp := []) (Own.mkInts hb) .nil fun _ _ => List.not_mem_nil) fun x hx hy => n ((List.mem_singleton.mp hx).symm.trans (List.mem_singleton.mp hy))
theorem DkAt.own {K : PySem.W.Frag} {H : Hp} {p L S : Addr} {ca sa : Nat → Addr} {D : Dsk} (d : DkAt K H p L S ca sa D) : Own H (.ref p) (diskT K D) (diskP p L S ca sa) := by
  have nd := d.nodup
  simp only [List.nodup_cons, List.mem_cons, List.not_mem_nil, or_false, not_or, not_false_eq_true, List.nodup_nil, and_true] at nd
  obtain ⟨⟨a1, a2, a3, a4, a5, a6⟩, ⟨b1, b2, b3, b4, b5⟩, ⟨c1, c2, c3, c4⟩, ⟨d1, d2, d3⟩, ⟨e1, e2⟩, f⟩ := nd
  obtain ⟨dx, hi⟩ := d.ins
  refine .ins (fp := [L, ca 0, ca 1, S, sa 0, sa 1]) hi rfl ?_ (by simp [a1, a2, a3, a4, a5, a6])
  show Owns H [.ref L, .ref S, pwV D.pw] _ ([L, ca 0, ca 1] ++ ([S, sa 0, sa 1] ++ ([] ++ [])))
  refine .cons (.lst d.ld (owns2_mk (d.cs 0 (by decide)) (d.cs 1 (by decide)) c1) (by simp [b1, b2])) (.cons (.lst d.ls (owns2_mk (d.ss 0 (by decide)) (d.ss 1 (by decide)) f) (by simp [e1, e2])) (.cons (.dat (pw_dq _)) .nil fun _ h => absurd h List.not_mem_nil) fun _ _ => List.not_mem_nil) ?_
  intro x hx hy
  simp only [List.mem_cons, List.not_mem_nil, or_false, List.append_nil] at hx hy
  rcases hx with rfl | rfl | rfl <;> rcases hy with h | h | h <;> first
    | exact b3 h
    | exact b4 h
    | exact b5 h
    | exact c2 h
    | exact c3 h
    | exact c4 h
    | exact d1 h
    | exact d2 h
    | exact d3 h
theorem Own.disk {K : PySem.W.Frag} {H : Hp} {v : V} {D : Dsk} {fp : List Addr} (h : Own H v (diskT K D) fp) : ∃ p L S ca sa, v = .ref p ∧ fp = diskP p L S ca sa ∧ DkAt K H p L S ca sa D := by
  unfold diskT at h
  generalize hn : ([("durable" : Str), "steps", "power"] : List Str) = ns at h
  cases h with
  | @ins p dx C fs ns ts gp hi he hs n =>
    rw [← hn] at he
    match fs, he with
    | [(x1, v1), (x2, v2), (x3, v3)], he =>
      simp only [List.map_cons, List.map_nil, List.cons.injEq, and_true] at he
      obtain ⟨rfl, rfl, rfl⟩ := he
      simp only [List.map_cons, List.map_nil] at hs
      cases hs with
      | cons h1 hs n1 =>
      cases hs with
      | cons h2 hs n2 =>
      cases hs with
      | cons h3 hs n3 =>
      cases hs
      cases h1 with
      | lst hL o1 m1 =>
      cases h2 with
      | lst hS o2 m2 =>
      cases h3 with
      | dat h3 =>
      obtain ⟨c0, c1, rfl, rfl, cc, hc0, hc1⟩ := owns2 o1
      obtain ⟨s0, s1, rfl, rfl, ss, hs0, hs1⟩ := owns2 o2
      rename_i aL aS
      refine ⟨p, aL, aS, (fun i => if i = 0 then c0 else c1), (fun i => if i = 0 then s0 else s1), rfl, rfl, ⟨⟨dx, by rw [pw_of h3] at hi; exact hi⟩, hL, hS, fun i hi => ?_, fun i hi => ?_, fun e => ?_, cc, ss, fun i j hi hj => ?_⟩⟩
      · match i, hi with
        | 0, _ => exact hc0
        | 1, _ => exact hc1
      · match i, hi with
        | 0, _ => exact hs0
        | 1, _ => exact hs1
      · exact n1 aL (by simp) (by rw [e]; simp)
      · match i, j, hi, hj with
        | 0, 0, _, _ => exact fun e => n1 c0 (by simp) (by rw [show c0 = s0 from e]; simp)
        | 0, 1, _, _ => exact fun e => n1 c0 (by simp) (by rw [show c0 = s1 from e]; simp)
        | 1, 0, _, _ => exact fun e => n1 c1 (by simp) (by rw [show c1 = s0 from e]; simp)
        | 1, 1, _, _ => exact fun e => n1 c1 (by simp) (by rw [show c1 = s1 from e]; simp)
/-- after the steps -/
def appliedM (xs st : List Int) : List Int := st.foldl (fun acc x => if x = -1 then [] else acc ++ [x]) xs
theorem applied_snoc (xs st : List Int) (x : Int) : appliedM xs (st ++ [x]) = if x = -1 then [] else appliedM xs st ++ [x] := by
  unfold appliedM
  rw [List.foldl_append] <;> rfl
theorem applied_len (xs : List Int) : ∀ st : List Int, (appliedM xs st).length ≤ xs.length + st.length := by
  unfold appliedM
  intro st
  induction st generalizing xs with
  | nil => exact Nat.le_refl _
  | cons x r ih =>
    rw [List.foldl_cons, List.length_cons]
    refine Nat.le_trans (ih _) ?_
    split
    · simp; omega
    · rw [List.length_append]; simp; omega
/-- an update of one file's list -/
def setF {α : Type} (f : Nat → α) (i : Nat) (x : α) : Nat → α := fun j => if j = i then x else f j
theorem setF_at {α : Type} (f : Nat → α) (i : Nat) (x : α) : setF f i x i = x := if_pos rfl
theorem setF_ne {α : Type} (f : Nat → α) {i j : Nat} (x : α) (h : j ≠ i) : setF f i x j = f j := if_neg h
theorem at2 (g : Nat → Addr) {f : Nat} (h : f < 2) : atI [V.ref (g 0), V.ref (g 1)] (f : Int) = some (.ref (g f)) := by
  match f, h with
  | 0, _ => rfl
  | 1, _ => rfl
def Dsk.add (D : Dsk) (f : Nat) (ys : List Int) : Dsk := { D with s := setF D.s f (D.s f ++ ys) }
def Dsk.use (D : Dsk) (n : Int) : Dsk := { D with pw := D.pw.map (· - n) }
theorem Dsk.ext {D E : Dsk} (h1 : ∀ i, i < 2 → D.c i = E.c i) (h2 : ∀ i, i < 2 → D.s i = E.s i) (h3 : D.pw = E.pw) (K : PySem.W.Frag) : diskT K D = diskT K E := by
  unfold diskT
  rw [h1 0 (by decide), h1 1 (by decide), h2 0 (by decide), h2 1 (by decide), h3]
section
variable {K : PySem.W.Frag} {H H' : Hp} {p L S : Addr} {ca sa : Nat → Addr} {D : Dsk} {f : Nat} {ys : List Int}
theorem DkAt.fput (d : DkAt K H p L S ca sa D) (g : Fput p H H') {pw : Option Int} (hi : Ins H' p (He.ga K "Disk") (diskF (.ref L) (.ref S) pw)) : DkAt K H' p L S ca sa { D with pw := pw } :=
  ⟨hi, g.lst d.ld, g.lst d.ls, fun i h => g.lst (d.cs i h), fun i h => g.lst (d.ss i h), d.ls', d.cc, d.sss, d.xs⟩
theorem DkAt.sne (d : DkAt K H p L S ca sa D) {i j : Nat} (hi : i < 2) (hj : j < 2) (n : i ≠ j) : sa i ≠ sa j := by
  match i, j, hi, hj, n with
  | 0, 1, _, _, _ => exact d.sss
  | 1, 0, _, _, _ => exact Ne.symm d.sss
  | 0, 0, _, _, n => exact absurd rfl n
  | 1, 1, _, _, n => exact absurd rfl n
theorem DkAt.cne (d : DkAt K H p L S ca sa D) {i j : Nat} (hi : i < 2) (hj : j < 2) (n : i ≠ j) : ca i ≠ ca j := by
  match i, j, hi, hj, n with
  | 0, 1, _, _, _ => exact d.cc
  | 1, 0, _, _, _ => exact Ne.symm d.cc
  | 0, 0, _, _, n => exact absurd rfl n
  | 1, 1, _, _, n => exact absurd rfl n
theorem DkAt.put (d : DkAt K H p L S ca sa D) (hf : f < 2) (h : H' (sa f) = some (.lst (ys.map V.int))) (k : ∀ b, b ≠ sa f → H' b = H b) : DkAt K H' p L S ca sa { D with s := setF D.s f ys } := by
  have g := d.ss f hf
  refine ⟨?_, by rw [k _ (ints_ne d.ld g)]; exact d.ld, by rw [k _ (ints_ne d.ls g)]; exact d.ls, fun i hi => ?_, fun i hi => ?_, d.ls', d.cc, d.sss, d.xs⟩
  · obtain ⟨dx, q⟩ := d.ins
    exact ⟨dx, by rw [k _ (ins_ne d.ins g)]; exact q⟩
  · rw [k _ (d.xs i f hi hf)]
    exact d.cs i hi
  · by_cases e : i = f
    · subst e
      show H' (sa i) = some (.lst ((setF D.s i ys i).map V.int))
      rw [setF_at]
      exact h
    · show H' (sa i) = some (.lst ((setF D.s f ys i).map V.int))
      rw [setF_ne _ _ e, k _ (d.sne hi hf e)]
      exact d.ss i hi
theorem diskP_s (p L S : Addr) (ca sa : Nat → Addr) (hf : f < 2) : sa f ∈ diskP p L S ca sa := by
  match f, hf with
  | 0, _ => simp
  | 1, _ => simp
theorem DkAt.chg_s (d : DkAt K H p L S ca sa D) (hf : f < 2) (k : ∀ b, b ≠ sa f → H' b = H b) : Chg (diskP p L S ca sa) (diskP p L S ca sa) H H' := but_chg k (d.ss f hf) (diskP_s p L S ca sa hf)
theorem set2 (g : Nat → Addr) (hf : f < 2) (r : Addr) : [V.ref (g 0), V.ref (g 1)].set f (.ref r) = [.ref (setF g f r 0), .ref (setF g f r 1)] := by
  match f, hf with
  | 0, _ => rfl
  | 1, _ => rfl
theorem ix2 (hf : f < 2) : ixN 2 (f : Int) = some f := by
  match f, hf with
  | 0, _ => rfl
  | 1, _ => rfl
theorem use0 (D : Dsk) : D.use 0 = D := by
  unfold Dsk.use
  obtain ⟨c, s, pw⟩ := D
  cases pw with
  | none => rfl
  | some n => simp
end
theorem setF_setF {α : Type} (g : Nat → α) (f : Nat) (x y : α) : setF (setF g f x) f y = setF g f y := by
  funext j
  unfold setF
  by_cases e : j = f
  · rw [if_pos e, if_pos e]
  · rw [if_neg e, if_neg e, if_neg e]
theorem pw_step (o : Option Int) (i : Int) : (o.map (· - i)).map (· - 1) = o.map (· - (i + 1)) := by
  cases o with
  | none => rfl
  | some n =>
    show some (n - i - 1) = some (n - (i + 1))
    rw [Int.sub_sub]
theorem dsk_step (D : Dsk) (f : Nat) (xs ys : List Int) (i : Int) : (Dsk.mk D.c (setF (setF D.s f (D.s f ++ xs)) f (D.s f ++ ys)) ((D.pw.map (· - i)).map (· - 1))) = (D.add f ys).use (i + 1) := by
  rw [setF_setF, pw_step]
  rfl
section
variable {K : PySem.W.Frag} {H1 H2 H3 H4 H5 : Hp} {p L S r r2 : Addr} {ca sa : Nat → Addr} {D : Dsk} {f : Nat} {xs : List Int}
theorem DkAt.syn (d : DkAt K H1 p L S ca sa D) (hf : f < 2) (nr : H1 r = none) (m2 : Same H1 H2) (hr : H2 r = some (.lst (xs.map V.int))) (h3 : H3 L = some (.lst ([V.ref (ca 0), V.ref (ca 1)].set f (.ref r)))) (k3 : ∀ b, b ≠ L → H3 b = H2 b)
    (nr2 : H3 r2 = none) (m4 : Same H3 H4) (hr2 : H4 r2 = some (.lst [])) (h5 : H5 S = some (.lst ([V.ref (sa 0), V.ref (sa 1)].set f (.ref r2)))) (k5 : ∀ b, b ≠ S → H5 b = H4 b) :
    DkAt K H5 p L S (setF ca f r) (setF sa f r2) { D with c := setF D.c f xs, s := setF D.s f [] } ∧ Chg (diskP p L S ca sa) (diskP p L S (setF ca f r) (setF sa f r2)) H1 H5 := by
  have keep : ∀ b o, H1 b = some o → b ≠ L → b ≠ S → H5 b = some o := fun b o h n1 n2 => by
    rw [k5 b n2]
    refine m4 _ _ ?_
    rw [k3 b n1]
    exact m2 _ _ h
  have rL : r ≠ L := fun z => by
    have := d.ld
    rw [← z, nr] at this
    cases this
  have rS : r ≠ S := fun z => by
    have := d.ls
    rw [← z, nr] at this
    cases this
  have h3S : H3 S = some (.lst [.ref (sa 0), .ref (sa 1)]) := by
    rw [k3 S (Ne.symm d.ls')]
    exact m2 _ _ d.ls
  have r2S : r2 ≠ S := fun z => by
    rw [← z, nr2] at h3S
    cases h3S
  have r2L : r2 ≠ L := fun z => by
    rw [← z, nr2] at h3
    cases h3
  have h3r : H3 r = some (.lst (xs.map V.int)) := by
    rw [k3 r rL]
    exact hr
  have rr2 : r ≠ r2 := fun z => by
    rw [← z, h3r] at nr2
    cases nr2
  have nr2' : H1 r2 = none := by
    have e : H3 r2 = H2 r2 := k3 r2 r2L
    rw [nr2] at e
    exact Same.before m2 e.symm
  have h5L : H5 L = some (.lst [.ref (setF ca f r 0), .ref (setF ca f r 1)]) := by
    rw [k5 L d.ls', ← set2 ca hf]
    exact m4 _ _ h3
  have h5r : H5 r = some (.lst (xs.map V.int)) := by
    rw [k5 r rS]
    exact m4 _ _ h3r
  have h5r2 : H5 r2 = some (.lst []) := by
    rw [k5 r2 r2S]
    exact hr2
  refine ⟨⟨?_, h5L, by rw [← set2 sa hf]; exact h5, fun i hi => ?_, fun i hi => ?_, d.ls', ?_, ?_, fun i j hi hj => ?_⟩, Chg.of (fun b o h n => keep b o h (fun z => n (by rw [z]; simp)) (fun z => n (by rw [z]; simp))) d.own.there fun b hb => ?_⟩
  · obtain ⟨dx, q⟩ := d.ins
    exact ⟨dx, keep _ _ q (ins_ne ⟨dx, q⟩ d.ld) (ins_ne ⟨dx, q⟩ d.ls)⟩
  · by_cases ei : i = f
    · subst ei
      show H5 (setF ca i r i) = some (.lst ((setF D.c i xs i).map V.int))
      rw [setF_at, setF_at]
      exact h5r
    · show H5 (setF ca f r i) = some (.lst ((setF D.c f xs i).map V.int))
      rw [setF_ne _ _ ei, setF_ne _ _ ei]
      exact keep _ _ (d.cs i hi) (Ne.symm (ints_ne d.ld (d.cs i hi))) (Ne.symm (ints_ne d.ls (d.cs i hi)))
  · by_cases ei : i = f
    · subst ei
      show H5 (setF sa i r2 i) = some (.lst ((setF D.s i [] i).map V.int))
      rw [setF_at, setF_at]
      exact h5r2
    · show H5 (setF sa f r2 i) = some (.lst ((setF D.s f [] i).map V.int))
      rw [setF_ne _ _ ei, setF_ne _ _ ei]
      exact keep _ _ (d.ss i hi) (Ne.symm (ints_ne d.ld (d.ss i hi))) (Ne.symm (ints_ne d.ls (d.ss i hi)))
  · match f, hf with
    | 0, _ => exact Ne.symm (ne_of_none (d.cs 1 (by decide)) nr)
    | 1, _ => exact ne_of_none (d.cs 0 (by decide)) nr
  · match f, hf with
    | 0, _ => exact Ne.symm (ne_of_none (d.ss 1 (by decide)) nr2')
    | 1, _ => exact ne_of_none (d.ss 0 (by decide)) nr2'
  · by_cases ei : i = f
    · subst ei
      rw [setF_at]
      by_cases ej : j = i
      · subst ej
        rw [setF_at]
        exact rr2
      · rw [setF_ne _ _ ej]
        exact Ne.symm (ne_of_none (d.ss j hj) nr)
    · rw [setF_ne _ _ ei]
      by_cases ej : j = f
      · subst ej
        rw [setF_at]
        exact ne_of_none (d.cs i hi) nr2'
      · rw [setF_ne _ _ ej]
        exact d.xs i j hi hj
  · match f, hf with
    | 0, _ =>
      have hb : b ∈ [p, L, r, ca 1, S, r2, sa 1] := hb
      simp only [List.mem_cons, List.not_mem_nil, or_false] at hb ⊢
      rcases hb with rfl | rfl | rfl | rfl | rfl | rfl | rfl <;> first
        | exact .inr nr
        | exact .inr nr2'
        | exact .inl (by simp)
    | 1, _ =>
      have hb : b ∈ [p, L, ca 0, r, S, sa 0, r2] := hb
      simp only [List.mem_cons, List.not_mem_nil, or_false] at hb ⊢
      rcases hb with rfl | rfl | rfl | rfl | rfl | rfl | rfl <;> first
        | exact .inr nr
        | exact .inr nr2'
        | exact .inl (by simp)
end
def Dsk.syn (D : Dsk) (f : Nat) : Dsk := { D with c := setF D.c f (appliedM (D.c f) (D.s f)), s := setF D.s f [] }
def Dsk.crash (D : Dsk) (a b : Nat) : Dsk := ⟨fun i => if i = 0 then appliedM (D.c 0) ((D.s 0).take a) else appliedM (D.c 1) ((D.s 1).take b), fun _ => [], none⟩
theorem cutV_take (xs : List V) (n : Nat) : cutV xs none (some (n : Int)) = xs.take n := by
  unfold cutV
  rw [HT.sIx_none, HT.sIx_nat, List.drop_zero, Nat.sub_zero]
  by_cases h : n ≤ xs.length
  · rw [Nat.min_eq_left h]
  · rw [Nat.min_eq_right (by omega), List.take_of_length_le (Nat.le_refl _), List.take_of_length_le (by omega)]
/-! the law's own model of a disk -/
def stepO (acc : List Int) : Option Int → List Int
  | none => []
  | some x => acc ++ [x]
def afterM (xs : List Int) (os : List (Option Int)) : List Int := os.foldl stepO xs
theorem after_snoc (xs : List Int) (os : List (Option Int)) (o : Option Int) : afterM xs (os ++ [o]) = stepO (afterM xs os) o := by
  unfold afterM
  rw [List.foldl_append] <;> rfl
theorem after_len (xs : List Int) : ∀ os : List (Option Int), (afterM xs os).length ≤ xs.length + os.length := by
  unfold afterM
  intro os
  induction os generalizing xs with
  | nil => exact Nat.le_refl _
  | cons o r ih =>
    rw [List.foldl_cons, List.length_cons]
    refine Nat.le_trans (ih _) ?_
    cases o with
    | none => show 0 + r.length ≤ _; omega
    | some x => show (xs ++ [x]).length + r.length ≤ _; rw [List.length_append]; simp; omega
def codeO (o : Option Int) : Int := o.getD (-1)
theorem after_applied (xs : List Int) : ∀ os : List (Option Int), (∀ n, some n ∈ os → 0 ≤ n) → afterM xs os = appliedM xs (os.map codeO) := by
  unfold afterM appliedM
  intro os
  induction os generalizing xs with
  | nil => exact fun _ => rfl
  | cons o r ih =>
    intro h
    rw [List.foldl_cons, List.map_cons, List.foldl_cons]
    have e : (if codeO o = -1 then ([] : List Int) else xs ++ [codeO o]) = stepO xs o := by
      cases o with
      | none => rfl
      | some x =>
        have hx := h x List.mem_cons_self
        show (if x = -1 then ([] : List Int) else xs ++ [x]) = xs ++ [x]
        rw [if_neg (by omega)]
    rw [e]
    exact ih _ fun n hn => h n (List.mem_cons_of_mem _ hn)
theorem dqs_trues {H : Hp} : ∀ {n : Nat} {ys : List V}, Dqs H ys (List.replicate n (.bool true)) → ys = (List.replicate n true).map V.bl
  | 0, _, h => by cases h; rfl
  | n + 1, _, h => by
    cases h with
    | cons h1 h2 =>
      cases h1
      rw [dqs_trues h2] <;> rfl
theorem all_trues (n : Nat) : (List.replicate n true).all id = true := by
  rw [List.all_eq_true]
  intro b hb
  rw [(List.mem_replicate.mp hb).2] <;> rfl
/-! an act: 0 appends, 1 clears, 2 syncs -/
def lenM (k : Nat) (bs : List Int) : Nat := if k = 0 then bs.length else 1
/-- how many of its steps the power is enough for -/
def cntM (pw : Option Int) (n : Nat) : Nat := match pw with
  | none => n
  | some m => min n m.toNat
def doM (D : Dsk) (k f : Nat) (bs : List Int) : Dsk :=
  if k = 0 then (D.add f (bs.take (cntM D.pw bs.length))).use (cntM D.pw bs.length)
  else if cntM D.pw 1 = 0 then D
  else if k = 1 then (D.add f [-1]).use 1
  else (D.syn f).use 1
/-- what the law is told -/
def Told (H : Hp) (v : V) (ok : Bool) : Prop := (ok = true ∧ v = .non) ∨ (ok = false ∧ ∃ r, v = .ref r ∧ H r = some (.tup [.str "cut", .bl true]))
structure Mdl where
  c : Nat → List Int
  s : Nat → List (Option Int)
  pw : Option Int
/-- the law's model as it stands -/
structure MAt (H : Hp) (m F : Addr) (ta ca sa : Nat → Addr) (M : Mdl) : Prop where
  mm : H m = some (.lst [.ref F, pwV M.pw])
  ff : H F = some (.lst [.ref (ta 0), .ref (ta 1)])
  ts : ∀ i, i < 2 → H (ta i) = some (.tup [.ref (ca i), .ref (sa i)])
  cs : ∀ i, i < 2 → H (ca i) = some (.lst ((M.c i).map V.int))
  ss : ∀ i, i < 2 → H (sa i) = some (.lst ((M.s i).map pwV))
abbrev mdlP (m F : Addr) (ca sa : Nat → Addr) : List Addr := [m, F, ca 0, ca 1, sa 0, sa 1]
theorem opts_ne {H : Hp} {a b x : Addr} {r : List V} {ns : List (Option Int)} (h : H a = some (.lst (.ref x :: r))) (k : H b = some (.lst (ns.map pwV))) : a ≠ b := by
  intro e
  rw [e, k] at h
  cases ns with
  | nil => cases h
  | cons n r => cases n <;> cases h
theorem ints_ne' {H : Hp} {a b x : Addr} {r : List V} {ns : List Int} (h : H a = some (.lst (.ref x :: r))) (k : H b = some (.lst (ns.map V.int))) : a ≠ b := by
  intro e
  rw [e, k] at h
  cases ns with
  | nil => cases h
  | cons n r => cases h
theorem pw_nref (o : Option Int) (a : Addr) : pwV o ≠ .ref a := by
  cases o with
  | none => intro h; cases h
  | some n => intro h; cases h
section
variable {H H' : Hp} {m F : Addr} {ta ca sa : Nat → Addr} {M : Mdl} {f : Nat}
theorem MAt.mF (d : MAt H m F ta ca sa M) : m ≠ F := by
  intro e
  have h1 := d.mm
  rw [e, d.ff] at h1
  simp only [Option.some.injEq, HO.lst.injEq, List.cons.injEq, and_true] at h1
  exact pw_nref _ _ h1.2.symm
theorem MAt.keep (d : MAt H m F ta ca sa M) (k : ∀ b o, H b = some o → (b ∈ mdlP m F ca sa ∨ ∃ xs, o = .tup xs) → H' b = some o) : MAt H' m F ta ca sa M := by
  refine ⟨k _ _ d.mm (.inl (by simp)), k _ _ d.ff (.inl (by simp)), fun i hi => k _ _ (d.ts i hi) (.inr ⟨_, rfl⟩), fun i hi => k _ _ (d.cs i hi) (.inl ?_), fun i hi => k _ _ (d.ss i hi) (.inl ?_)⟩
  · match i, hi with
    | 0, _ => simp
    | 1, _ => simp
  · match i, hi with
    | 0, _ => simp
    | 1, _ => simp
theorem MAt.same (s : Same H H') (d : MAt H m F ta ca sa M) : MAt H' m F ta ca sa M := d.keep fun b o h _ => s b o h
theorem MAt.chg {G G' : List Addr} (c : Chg G G' H H') (n : Dsj G (mdlP m F ca sa)) (d : MAt H m F ta ca sa M) : MAt H' m F ta ca sa M := d.keep fun b o h z => by
  rcases z with z | ⟨xs, rfl⟩
  · exact c.kp b o h fun q => n b q z
  · exact c.gro.tup b xs h
theorem MAt.there (d : MAt H m F ta ca sa M) : ∀ b ∈ mdlP m F ca sa, ∃ xs, H b = some (.lst xs) := by
  intro b hb
  simp only [List.mem_cons, List.not_mem_nil, or_false] at hb
  rcases hb with rfl | rfl | rfl | rfl | rfl | rfl
  · exact ⟨_, d.mm⟩
  · exact ⟨_, d.ff⟩
  · exact ⟨_, d.cs 0 (by decide)⟩
  · exact ⟨_, d.cs 1 (by decide)⟩
  · exact ⟨_, d.ss 0 (by decide)⟩
  · exact ⟨_, d.ss 1 (by decide)⟩
theorem MAt.apart {G G' : List Addr} (c : Chg G G' H H') (n : Dsj G (mdlP m F ca sa)) (d : MAt H m F ta ca sa M) : Dsj G' (mdlP m F ca sa) := fun b hb z => by
  obtain ⟨xs, e⟩ := d.there b z
  exact c.out e (fun q => n b q z) hb
/-- the power is written -/
theorem MAt.pow (d : MAt H m F ta ca sa M) {pw : Option Int} (h : H' m = some (.lst [.ref F, pwV pw])) (k : ∀ b, b ≠ m → H' b = H b) : MAt H' m F ta ca sa { M with pw := pw } ∧ Chg (mdlP m F ca sa) (mdlP m F ca sa) H H' := by
  refine ⟨⟨h, by rw [k F d.mF.symm]; exact d.ff, fun i hi => ?_, fun i hi => ?_, fun i hi => ?_⟩, but_chg k d.mm (by simp)⟩
  · rw [k _ (ne_of (d.ts i hi) d.mm (by intro z; cases z))]
    exact d.ts i hi
  · rw [k _ (Ne.symm (ints_ne' d.mm (d.cs i hi)))]
    exact d.cs i hi
  · rw [k _ (Ne.symm (opts_ne d.mm (d.ss i hi)))]
    exact d.ss i hi
/-- one file's pair is written -/
theorem MAt.pair (d : MAt H m F ta ca sa M) (hf : f < 2) {t c s : Addr} {xs : List Int} {os : List (Option Int)} (ht : H t = some (.tup [.ref c, .ref s])) (hc : H c = some (.lst (xs.map V.int))) (hs : H s = some (.lst (os.map pwV))) (h : H' F = some (.lst ([V.ref (ta 0), V.ref (ta 1)].set f (.ref t)))) (k : ∀ b, b ≠ F → H' b = H b) :
    MAt H' m F (setF ta f t) (setF ca f c) (setF sa f s) { M with c := setF M.c f xs, s := setF M.s f os } := by
  have kt : ∀ b xs, H b = some (.tup xs) → H' b = some (.tup xs) := fun b xs e => by
    rw [k b (ne_of e d.ff (by intro z; cases z))]
    exact e
  have ki : ∀ b (ns : List Int), H b = some (.lst (ns.map V.int)) → H' b = some (.lst (ns.map V.int)) := fun b ns e => by
    rw [k b (Ne.symm (ints_ne' d.ff e))]
    exact e
  have ko : ∀ b (ns : List (Option Int)), H b = some (.lst (ns.map pwV)) → H' b = some (.lst (ns.map pwV)) := fun b ns e => by
    rw [k b (Ne.symm (opts_ne d.ff e))]
    exact e
  refine ⟨by rw [k m d.mF]; exact d.mm, by rw [← set2 ta hf]; exact h, fun i hi => ?_, fun i hi => ?_, fun i hi => ?_⟩
  · by_cases e : i = f
    · subst e
      rw [setF_at, setF_at, setF_at]
      exact kt _ _ ht
    · rw [setF_ne _ _ e, setF_ne _ _ e, setF_ne _ _ e]
      exact kt _ _ (d.ts i hi)
  · by_cases e : i = f
    · subst e
      show H' (setF ca i c i) = some (.lst ((setF M.c i xs i).map V.int))
      rw [setF_at, setF_at]
      exact ki _ _ hc
    · show H' (setF ca f c i) = some (.lst ((setF M.c f xs i).map V.int))
      rw [setF_ne _ _ e, setF_ne _ _ e]
      exact ki _ _ (d.cs i hi)
  · by_cases e : i = f
    · subst e
      show H' (setF sa i s i) = some (.lst ((setF M.s i os i).map pwV))
      rw [setF_at, setF_at]
      exact ko _ _ hs
    · show H' (setF sa f s i) = some (.lst ((setF M.s f os i).map pwV))
      rw [setF_ne _ _ e, setF_ne _ _ e]
      exact ko _ _ (d.ss i hi)
end
def stepsM (k : Nat) (bs : List Int) : List (Option Int) := if k = 0 then bs.map some else [none]
theorem stepsM_len (k : Nat) (bs : List Int) : (stepsM k bs).length = lenM k bs := by
  unfold stepsM lenM
  by_cases h : k = 0
  · rw [if_pos h, if_pos h, List.length_map]
  · rw [if_neg h, if_neg h] <;> rfl
/-- the files behind an act, n of its steps performed -/
def mfileM (M : Mdl) (k f : Nat) (bs : List Int) (n : Nat) : Mdl :=
  if k = 2 then (if n = 1 then { M with c := setF M.c f (afterM (M.c f) (M.s f)), s := setF M.s f [] } else M) else { M with s := setF M.s f (M.s f ++ (stepsM k bs).take n) }
def mdoM (M : Mdl) (k f : Nat) (bs : List Int) : Mdl :=
  { mfileM M k f bs (cntM M.pw (lenM k bs)) with pw := M.pw.map (· - (cntM M.pw (lenM k bs) : Int)) }
theorem mfile_pw (M : Mdl) (k f : Nat) (bs : List Int) (n : Nat) : (mfileM M k f bs n).pw = M.pw := by
  unfold mfileM
  by_cases h : k = 2
  · rw [if_pos h]
    by_cases h2 : n = 1
    · rw [if_pos h2]
    · rw [if_neg h2]
  · rw [if_neg h]
theorem cnt_le (pw : Option Int) (n : Nat) : cntM pw n ≤ n := by
  cases pw with
  | none => exact Nat.le_refl _
  | some m => exact Nat.min_le_left _ _
theorem setF_self {α : Type} (g : Nat → α) (f : Nat) : setF g f (g f) = g := by
  funext j
  unfold setF
  by_cases e : j = f
  · rw [if_pos e, e]
  · rw [if_neg e]
theorem MAt.pair_chg {H0 H H' : Hp} {m F c s : Addr} {ta ca sa : Nat → Addr} {M : Mdl} {f : Nat} (d : MAt H m F ta ca sa M) (hf : f < 2) (sm : Same H0 H) (k : ∀ b, b ≠ F → H' b = H b) (c0 : c = ca f ∨ H0 c = none) (s0 : s = sa f ∨ H0 s = none) :
    Chg (mdlP m F ca sa) (mdlP m F (setF ca f c) (setF sa f s)) H0 H' := by
  have base : Chg (mdlP m F ca sa) (mdlP m F ca sa) H0 H' := (Chg.same sm).trans (but_chg k d.ff (by simp))
  refine ⟨base.kp, fun b hb => ?_, base.gro⟩
  match f, hf with
  | 0, _ =>
    have hb : b ∈ [m, F, c, ca 1, s, sa 1] := hb
    simp only [List.mem_cons, List.not_mem_nil, or_false] at hb
    rcases hb with rfl | rfl | rfl | rfl | rfl | rfl
    · exact .inl (by simp)
    · exact .inl (by simp)
    · rcases c0 with z | z
      · exact .inl (by rw [z]; simp)
      · exact .inr z
    · exact .inl (by simp)
    · rcases s0 with z | z
      · exact .inl (by rw [z]; simp)
      · exact .inr z
    · exact .inl (by simp)
  | 1, _ =>
    have hb : b ∈ [m, F, ca 0, c, sa 0, s] := hb
    simp only [List.mem_cons, List.not_mem_nil, or_false] at hb
    rcases hb with rfl | rfl | rfl | rfl | rfl | rfl
    · exact .inl (by simp)
    · exact .inl (by simp)
    · exact .inl (by simp)
    · rcases c0 with z | z
      · exact .inl (by rw [z]; simp)
      · exact .inr z
    · exact .inl (by simp)
    · rcases s0 with z | z
      · exact .inl (by rw [z]; simp)
      · exact .inr z
/-- the disk is as the model says -/
structure RelM (D : Dsk) (M : Mdl) : Prop where
  c : ∀ i, i < 2 → D.c i = M.c i
  s : ∀ i, i < 2 → D.s i = (M.s i).map codeO
  cb : ∀ i, i < 2 → ∀ n ∈ M.c i, 0 ≤ n ∧ n ≤ 255
  sb : ∀ i, i < 2 → ∀ n, some n ∈ M.s i → 0 ≤ n ∧ n ≤ 255
  pw : D.pw = M.pw
theorem after_bytes {xs : List Int} : ∀ {os : List (Option Int)}, (∀ n ∈ xs, 0 ≤ n ∧ n ≤ 255) → (∀ n, some n ∈ os → 0 ≤ n ∧ n ≤ 255) → ∀ n ∈ afterM xs os, 0 ≤ n ∧ n ≤ 255 := by
  intro os
  unfold afterM
  induction os generalizing xs with
  | nil => exact fun h _ => h
  | cons o r ih =>
    intro h1 h2
    rw [List.foldl_cons]
    refine ih (fun n hn => ?_) fun n hn => h2 n (List.mem_cons_of_mem _ hn)
    cases o with
    | none => exact absurd hn List.not_mem_nil
    | some x =>
      have hn : n ∈ xs ++ [x] := hn
      rcases List.mem_append.mp hn with hn | hn
      · exact h1 n hn
      · rw [List.mem_singleton.mp hn]
        exact h2 x List.mem_cons_self
theorem RelM.at_ {D : Dsk} {M : Mdl} (r : RelM D M) {i : Nat} (hi : i < 2) : appliedM (D.c i) (D.s i) = afterM (M.c i) (M.s i) := by
  rw [r.c i hi, r.s i hi, after_applied _ _ fun n hn => (r.sb i hi n hn).1]
/-- lists of ints are compared -/
theorem lay_ints : ∀ ns : List Int, PyData.canLayAll0 (ns.map PyData.int) = true
  | [] => by simp [PyData.canLayAll0]
  | n :: ns => by
    rw [List.map_cons, PyData.canLayAll0, lay_ints ns]
    simp [PyData.canLay0]
theorem depth_ints : ∀ ns : List Int, PyData.depthAll (ns.map PyData.int) = 0
  | [] => by simp [PyData.depthAll]
  | n :: ns => by
    rw [List.map_cons, PyData.depthAll, depth_ints ns, PyData.depth] <;> rfl
theorem dp_ints {K : PySem.W.Frag} {H : Hp} : ∀ ns : List Int, DpAll K H (ns.map V.int) (ns.map PyData.int)
  | [] => .nil
  | n :: ns => .cons (.int n) (dp_ints ns)
theorem r_neInts {K : PySem.W.Frag} {H : Hp} {Q : VK} {a b : Addr} {ns : List Int} (ha : H a = some (.lst (ns.map V.int))) (hb : H b = some (.lst (ns.map V.int))) (q : Q (.bl false) H) : uNe K (.ref a) (.ref b) H Q := by
  have lay : PyData.canLay0 (.list (ns.map PyData.int)) = true := by rw [PyData.canLay0]; exact lay_ints ns
  have sh : SeqAt.shaped (.list (ns.map PyData.int)) = true := by
    unfold SeqAt.shaped
    rw [lay, PyData.depth, depth_ints] <;> rfl
  refine .inr ⟨.list (ns.map PyData.int), .list (ns.map PyData.int), .lst (SqL.of ha) (dp_ints ns), .lst (SqL.of hb) (dp_ints ns), sh, sh, ?_⟩
  rw [SeqAt.eqv_refl _ lay]
  exact q
/-! acts: the disk stays as the model says -/
theorem map_sub0 (o : Option Int) : o.map (· - ((0 : Nat) : Int)) = o := by
  cases o with
  | none => rfl
  | some n => show some (n - 0) = some n; rw [Int.sub_zero]
theorem cnt_one (pw : Option Int) : cntM pw 1 = 0 ∨ cntM pw 1 = 1 := by
  have := cnt_le pw 1
  omega
theorem steps_codes {bs : List Int} {n : Nat} : (((bs.map some).take n).map codeO) = bs.take n := by
  rw [← List.map_take, List.map_map]
  exact List.map_id _
theorem rel_add {D : Dsk} {M : Mdl} {f : Nat} {ys : List Int} {os : List (Option Int)} {n : Int} (r : RelM D M) (hs : os.map codeO = ys) (hb : ∀ n, some n ∈ os → 0 ≤ n ∧ n ≤ 255) : RelM ((D.add f ys).use n) { M with s := setF M.s f (M.s f ++ os), pw := M.pw.map (· - n) } := by
  refine ⟨r.c, fun i hi => ?_, r.cb, fun i hi x hx => ?_, by show D.pw.map _ = M.pw.map _; rw [r.pw]⟩
  · show setF D.s f (D.s f ++ ys) i = (setF M.s f (M.s f ++ os) i).map codeO
    by_cases e : i = f
    · subst e
      rw [setF_at, setF_at, List.map_append, r.s i hi, hs]
    · rw [setF_ne _ _ e, setF_ne _ _ e]
      exact r.s i hi
  · have hx : some x ∈ setF M.s f (M.s f ++ os) i := hx
    by_cases e : i = f
    · subst e
      rw [setF_at] at hx
      exact (List.mem_append.mp hx).elim (r.sb i hi x) (hb x)
    · rw [setF_ne _ _ e] at hx
      exact r.sb i hi x hx
theorem rel_pow {D : Dsk} {M : Mdl} (r : RelM D M) : RelM D { M with pw := M.pw.map (· - ((0 : Nat) : Int)) } := ⟨r.c, r.s, r.cb, r.sb, by show D.pw = M.pw.map _; rw [map_sub0]; exact r.pw⟩
theorem RelM.act {D : Dsk} {M : Mdl} {k f : Nat} {bs : List Int} (r : RelM D M) (hk : k < 3) (hf : f < 2) (hb : ∀ n ∈ bs, 0 ≤ n ∧ n ≤ 255) : RelM (doM D k f bs) (mdoM M k f bs) := by
  unfold doM mdoM mfileM lenM stepsM
  by_cases h0 : k = 0
  · subst h0
    rw [if_pos rfl, if_pos rfl, if_neg (by decide), if_pos rfl, r.pw]
    refine rel_add (n := (cntM M.pw bs.length : Int)) r steps_codes fun n hn => ?_
    have hn := List.mem_of_mem_take hn
    obtain ⟨x, hx, e⟩ := List.mem_map.mp hn
    cases e
    exact hb n hx
  · rw [if_neg h0, if_neg h0, if_neg h0, r.pw]
    rcases cnt_one M.pw with e | e
    · rw [e, if_pos rfl]
      by_cases h2 : k = 2
      · rw [if_pos h2, if_neg (by decide)]
        exact rel_pow r
      · rw [if_neg h2]
        have e2 : setF M.s f (M.s f ++ ([none] : List (Option Int)).take 0) = M.s := by
          show setF M.s f (M.s f ++ []) = M.s
          rw [List.append_nil, setF_self]
        rw [e2]
        exact rel_pow r
    · rw [e, if_neg (by decide)]
      by_cases h2 : k = 2
      · rw [if_pos h2, if_neg (by omega), if_pos rfl]
        refine ⟨fun i hi => ?_, fun i hi => ?_, fun i hi n hn => ?_, fun i hi n hn => ?_, ?_⟩
        · show setF D.c f (appliedM (D.c f) (D.s f)) i = setF M.c f (afterM (M.c f) (M.s f)) i
          by_cases ei : i = f
          · subst ei
            rw [setF_at, setF_at, r.at_ hi]
          · rw [setF_ne _ _ ei, setF_ne _ _ ei]
            exact r.c i hi
        · show setF D.s f [] i = (setF M.s f [] i).map codeO
          by_cases ei : i = f
          · subst ei
            rw [setF_at, setF_at] <;> rfl
          · rw [setF_ne _ _ ei, setF_ne _ _ ei]
            exact r.s i hi
        · have hn : n ∈ setF M.c f (afterM (M.c f) (M.s f)) i := hn
          by_cases ei : i = f
          · subst ei
            rw [setF_at] at hn
            exact after_bytes (r.cb i hi) (r.sb i hi) n hn
          · rw [setF_ne _ _ ei] at hn
            exact r.cb i hi n hn
        · have hn : some n ∈ setF M.s f ([] : List (Option Int)) i := hn
          by_cases ei : i = f
          · subst ei
            rw [setF_at] at hn
            exact absurd hn List.not_mem_nil
          · rw [setF_ne _ _ ei] at hn
            exact r.sb i hi n hn
        · show D.pw.map _ = M.pw.map _
          rw [r.pw] <;> rfl
      · rw [if_neg h2, if_pos (by omega)]
        refine rel_add (n := 1) r rfl fun n hn => ?_
        have hn : some n ∈ ([none] : List (Option Int)) := hn
        exact absurd (List.mem_singleton.mp hn) (fun z => nomatch z)
theorem mdo_len {M : Mdl} {k f n : Nat} {bs : List Int} (hk : k < 3) (hf : f < 2) (hb : bs.length ≤ 5) (hl : ∀ i, i < 2 → (M.c i).length + (M.s i).length ≤ n) : ∀ i, i < 2 → ((mdoM M k f bs).c i).length + ((mdoM M k f bs).s i).length ≤ n + 5 := by
  intro i hi
  have h := hl i hi
  unfold mdoM mfileM
  by_cases h2 : k = 2
  · rw [if_pos h2]
    by_cases h3 : cntM M.pw (lenM k bs) = 1
    · rw [if_pos h3]
      show (setF M.c f (afterM (M.c f) (M.s f)) i).length + (setF M.s f [] i).length ≤ n + 5
      by_cases e : i = f
      · subst e
        rw [setF_at, setF_at]
        have := after_len (M.c i) (M.s i)
        show _ + 0 ≤ _
        omega
      · rw [setF_ne _ _ e, setF_ne _ _ e]
        omega
    · rw [if_neg h3]
      show (M.c i).length + (M.s i).length ≤ n + 5
      omega
  · rw [if_neg h2]
    show (M.c i).length + (setF M.s f (M.s f ++ (stepsM k bs).take (cntM M.pw (lenM k bs))) i).length ≤ n + 5
    by_cases e : i = f
    · subst e
      rw [setF_at, List.length_append, List.length_take, stepsM_len]
      have : lenM k bs ≤ 5 := by
        unfold lenM
        split <;> omega
      omega
    · rw [setF_ne _ _ e]
      omega
theorem mdo_pw {M : Mdl} {k f : Nat} {bs : List Int} (h : ∀ x, M.pw = some x → 0 ≤ x) : ∀ x, (mdoM M k f bs).pw = some x → 0 ≤ x := by
  intro x hx
  have hx : M.pw.map (· - (cntM M.pw (lenM k bs) : Int)) = some x := hx
  cases e : M.pw with
  | none =>
    rw [e] at hx
    cases hx
  | some n =>
    rw [e] at hx
    have h0 := h n e
    have hx : some (n - ((min (lenM k bs) n.toNat : Nat) : Int)) = some x := hx
    have := Option.some.inj hx
    omega
/-- a crash -/
def Mdl.crash (M : Mdl) (a b : Nat) : Mdl := ⟨fun i => if i = 0 then afterM (M.c 0) ((M.s 0).take a) else afterM (M.c 1) ((M.s 1).take b), fun _ => [], none⟩
theorem rel_take {D : Dsk} {M : Mdl} (r : RelM D M) {i : Nat} (hi : i < 2) (n : Nat) : appliedM (D.c i) ((D.s i).take n) = afterM (M.c i) ((M.s i).take n) := by
  rw [r.c i hi, r.s i hi, ← List.map_take, after_applied _ _ fun x hx => (r.sb i hi x (List.mem_of_mem_take hx)).1]
theorem RelM.crash {D : Dsk} {M : Mdl} (r : RelM D M) (a b : Nat) : RelM (D.crash a b) (M.crash a b) := by
  refine ⟨fun i hi => ?_, fun _ _ => rfl, fun i hi n hn => ?_, fun _ _ n hn => absurd hn List.not_mem_nil, rfl⟩
  · match i, hi with
    | 0, _ => exact rel_take r (by decide) a
    | 1, _ => exact rel_take r (by decide) b
  · match i, hi with
    | 0, _ => exact after_bytes (r.cb 0 (by decide)) (fun x hx => r.sb 0 (by decide) x (List.mem_of_mem_take hx)) n hn
    | 1, _ => exact after_bytes (r.cb 1 (by decide)) (fun x hx => r.sb 1 (by decide) x (List.mem_of_mem_take hx)) n hn
theorem crash_len {M : Mdl} {a b n : Nat} (hl : ∀ i, i < 2 → (M.c i).length + (M.s i).length ≤ n) : ∀ i, i < 2 → ((M.crash a b).c i).length + ((M.crash a b).s i).length ≤ n := by
  intro i hi
  match i, hi with
  | 0, _ =>
    have h1 := after_len (M.c 0) ((M.s 0).take a)
    have h2 := hl 0 (by decide)
    have h3 : ((M.s 0).take a).length ≤ (M.s 0).length := by rw [List.length_take]; omega
    show (afterM (M.c 0) ((M.s 0).take a)).length + 0 ≤ n
    omega
  | 1, _ =>
    have h1 := after_len (M.c 1) ((M.s 1).take b)
    have h2 := hl 1 (by decide)
    have h3 : ((M.s 1).take b).length ≤ (M.s 1).length := by rw [List.length_take]; omega
    show (afterM (M.c 1) ((M.s 1).take b)).length + 0 ≤ n
    omega
theorem Dqs.all_ints {H : Hp} {P : Int → Prop} : ∀ {ds : List PyData} {ys : List V}, Dqs H ys ds → (∀ (i : Nat) d, ds[i]? = some d → ∃ n, d = PyData.int n ∧ P n) → ∃ ns : List Int, ys = ns.map V.int ∧ ns.length = ds.length ∧ ∀ n ∈ ns, P n
  | [], _, h, _ => by
    cases h
    exact ⟨[], rfl, rfl, fun _ z => nomatch z⟩
  | d :: ds, _, h, hp => by
    cases h with
    | cons h1 h2 =>
      obtain ⟨s, e, p⟩ := hp 0 d rfl
      subst e
      cases h1
      obtain ⟨ss, e1, e2, e3⟩ := Dqs.all_ints h2 fun i d q => hp (i + 1) d (by simpa using q)
      refine ⟨s :: ss, by rw [e1] <;> rfl, by simp [e2], fun z hz => ?_⟩
      rcases List.mem_cons.mp hz with e | hz
      · rw [e]
        exact p
      · exact e3 z hz
/-- one file's pair of a new model -/
structure Pt (H H' : Hp) (D t c s : Addr) (xs : List Int) : Prop where
  ht : H' t = some (.tup [.ref c, .ref s])
  hc : H' c = some (.lst (xs.map V.int))
  hs : H' s = some (.lst [])
  nc : H c = none
  ns : H s = none
  cD : c ≠ D
  sD : s ≠ D
theorem Pt.same {H H1 H2 : Hp} {D t c s : Addr} {xs : List Int} (m : Same H1 H2) (p : Pt H H1 D t c s xs) : Pt H H2 D t c s xs := ⟨m _ _ p.ht, m _ _ p.hc, m _ _ p.hs, p.nc, p.ns, p.cD, p.sD⟩
theorem Pt.but {H H1 H2 : Hp} {D t c s : Addr} {xs : List Int} {ys : List V} (h : H1 D = some (.lst ys)) (k : ∀ b, b ≠ D → H2 b = H1 b) (p : Pt H H1 D t c s xs) : Pt H H2 D t c s xs :=
  ⟨by rw [k _ (ne_of p.ht h (by intro z; cases z))]; exact p.ht, by rw [k _ p.cD]; exact p.hc, by rw [k _ p.sD]; exact p.hs, p.nc, p.ns, p.cD, p.sD⟩
theorem but_out {H H' : Hp} {a : Addr} {xs : List V} {fp : List Addr} (e : H a = some (.lst xs)) (k : ∀ b, b ≠ a → H' b = H b) : Chg [a] [a] H H' := but_chg k e (List.mem_singleton.mpr rfl)
/-- told what was to be told -/
theorem r_neCut {K : PySem.W.Frag} {H : Hp} {Q : VK} {r t : Addr} (hr : H r = some (.tup [.str "cut", .bl true])) (ht : H t = some (.tup [.str "cut", .bl true])) (q : Q (.bl false) H) : uNe K (.ref r) (.ref t) H Q := by
  have dd : ∀ x, H x = some (.tup [.str "cut", .bl true]) → Dq H (.ref x) (.tuple [.str "cut", .bool true]) := fun x hx => .tup hx (.cons (.str _) (.cons (.bl _) .nil))
  have lay : PyData.canLay0 (.tuple [.str "cut", .bool true]) = true := by decide +kernel
  have sh : SeqAt.shaped (.tuple [.str "cut", .bool true]) = true := by decide +kernel
  refine r_neD (dd r hr) (dd t ht) sh sh ?_
  rw [SeqAt.eqv_refl _ lay]
  exact q
theorem r_neNon {K : PySem.W.Frag} {H : Hp} {Q : VK} (q : Q (.bl false) H) : uNe K .non .non H Q := .inl ⟨rfl, by rw [decide_eq_true rfl]; exact q⟩
/-- the files of a new model, so far -/
def Cv (H H' : Hp) (D : Addr) (M : Mdl) (x y i : Nat) (ys : List V) : Prop := (i = 0 ∧ ys = []) ∨ (i = 1 ∧ ∃ t c s, ys = [.ref t] ∧ Pt H H' D t c s ((M.crash x y).c 0)) ∨
  (i = 2 ∧ ∃ t0 c0 s0 t1 c1 s1, ys = [.ref t0, .ref t1] ∧ Pt H H' D t0 c0 s0 ((M.crash x y).c 0) ∧ Pt H H' D t1 c1 s1 ((M.crash x y).c 1))
theorem Cv.step {H H1 H2 H3 : Hp} {D t c s : Addr} {M : Mdl} {x y i : Nat} {ys : List V} (v : Cv H H1 D M x y i ys) (hi : i < 2) (m : Same H1 H2) (h2 : H2 D = some (.lst ys)) (k : ∀ b, b ≠ D → H3 b = H2 b) (p : Pt H H3 D t c s ((M.crash x y).c i)) : Cv H H3 D M x y (i + 1) (ys ++ [.ref t]) := by
  rcases v with ⟨rfl, rfl⟩ | ⟨rfl, t', c', s', rfl, q⟩ | ⟨rfl, _⟩
  · exact .inr (.inl ⟨rfl, t, c, s, rfl, p⟩)
  · exact .inr (.inr ⟨rfl, t', c', s', t, c, s, rfl, (q.same m).but h2 k, p⟩)
  · omega
theorem Cv.mat {H H' H2 : Hp} {D m : Addr} {M : Mdl} {x y : Nat} {ys : List V} (v : Cv H H' D M x y 2 ys) (hd : H' D = some (.lst ys)) (sm : Same H' H2) (hm : H2 m = some (.lst [.ref D, .non])) :
    ∃ ta ca sa, MAt H2 m D ta ca sa (M.crash x y) ∧ ∀ b ∈ mdlP m D ca sa, b = m ∨ b = D ∨ H b = none := by
  rcases v with ⟨z, _⟩ | ⟨z, _⟩ | ⟨_, t0, c0, s0, t1, c1, s1, rfl, q0, q1⟩
  · omega
  · omega
  · have p0 := q0.same sm
    have p1 := q1.same sm
    refine ⟨fun i => if i = 0 then t0 else t1, fun i => if i = 0 then c0 else c1, fun i => if i = 0 then s0 else s1, ⟨hm, sm _ _ hd, fun i hi => ?_, fun i hi => ?_, fun i hi => ?_⟩, fun b hb => ?_⟩
    · match i, hi with
      | 0, _ => exact p0.ht
      | 1, _ => exact p1.ht
    · match i, hi with
      | 0, _ => exact p0.hc
      | 1, _ => exact p1.hc
    · match i, hi with
      | 0, _ => exact p0.hs
      | 1, _ => exact p1.hs
    · have hb : b ∈ [m, D, c0, c1, s0, s1] := hb
      simp only [List.mem_cons, List.not_mem_nil, or_false] at hb
      rcases hb with rfl | rfl | rfl | rfl | rfl | rfl
      · exact .inl rfl
      · exact .inr (.inl rfl)
      · exact .inr (.inr p0.nc)
      · exact .inr (.inr p1.nc)
      · exact .inr (.inr p0.ns)
      · exact .inr (.inr p1.ns)
theorem crash_c (M : Mdl) (x y : Nat) {i : Nat} (hi : i < 2) : (M.crash x y).c i = afterM (M.c i) ((M.s i).take (if i = 0 then x else y)) := by
  match i, hi with
  | 0, _ => rfl
  | 1, _ => rfl
theorem at2i (x y : Nat) {i : Nat} (hi : i < 2) : atI [V.int x, V.int y] (i : Int) = some (.int ((if i = 0 then x else y : Nat) : Int)) := by
  match i, hi with
  | 0, _ => rfl
  | 1, _ => rfl
end Dk

/-! Sets of texts made of a tuple, and sorted. -/
namespace Dk
open PySem PySem.Spec PyProof.Rows L2 PySem.Froz
/-- laying a text keeps the places rising -/
theorem addTx_keeps (n : Int) (v : Value) (rows : Array (Int × Value)) (c : Nat) (tb : SetTable) (up : Ris tb.place.toList) : Ris (addTx n v (rows, c, tb)).2.2.place.toList ∧ (addTx n v (rows, c, tb)).2.2.led = tb.led := by
  have a1 := layNew_ris tb rows n v up
  have a2 := layNew_led tb rows n v
  show Ris (tailTx c (layNew tb rows n v).1 (if (layNew tb rows n v).2.1.plain = true then { (layNew tb rows n v).2.1 with plain := false } else (layNew tb rows n v).2.1) (layNew tb rows n v).2.2.1).2.2.place.toList ∧
    (tailTx c (layNew tb rows n v).1 (if (layNew tb rows n v).2.1.plain = true then { (layNew tb rows n v).2.1 with plain := false } else (layNew tb rows n v).2.1) (layNew tb rows n v).2.2.1).2.2.led = tb.led
  generalize layNew tb rows n v = Z at a1 a2 ⊢
  obtain ⟨r1, tb1, wd, gv⟩ := Z
  dsimp only at a1 a2 ⊢
  have b1 : Ris (if tb1.plain = true then { tb1 with plain := false } else tb1).place.toList := by split <;> exact a1
  have b2 : (if tb1.plain = true then { tb1 with plain := false } else tb1).led = tb.led := by split <;> exact a2
  generalize (if tb1.plain = true then { tb1 with plain := false } else tb1) = tb2 at b1 b2 ⊢
  unfold tailTx
  split
  · exact ⟨relayAll_ris tb2 r1 _, (relayAll_led tb2 r1 _).trans b2⟩
  · exact ⟨b1, b2⟩
/-- the set of texts at p: those of l, each once -/
def TxAt (P : Program) (w : World) (h : Heap) (p : Addr) (l : List Str) : Prop := ∃ rows c tb, h.get? p = some (sObj "set" (rows, c, tb)) ∧ TxOk P w (rows, c, tb) l ∧ Ris tb.place.toList ∧ (w.params.followText "set-order" = true ∨ tb.led = true) ∧ l.Nodup
theorem TxAt.at_ {P : Program} {w : World} {h h' : Heap} {p : Addr} {l : List Str} (x : TxAt P w h p l) (k : ∀ o, h.get? p = some o → h'.get? p = some o) : TxAt P w h' p l := by
  obtain ⟨rows, c, tb, e, r⟩ := x
  exact ⟨rows, c, tb, k _ e, r⟩
abbrev frO (w : World) : Obj := { cls := .type "set", dict := none, data := .set #[] 0 (.fresh 0 0 (!w.params.followText "set-order")) }
theorem txAt_new {P : Program} {w : World} {h : Heap} {p : Addr} (e : h.get? p = some (frO w)) : TxAt P w h p [] := by
  refine ⟨#[], 0, _, e, TxOk.nil (by rfl), List.Pairwise.nil, ?_, List.nodup_nil⟩
  show _ ∨ (!w.params.followText "set-order") = true
  cases w.params.followText "set-order" with
  | false => exact .inr rfl
  | true => exact .inl rfl
section
variable {P : Program} {w : World} {A : Around} {E : Value → Shared → Prop} {s : Shared}
/-- one text more, or the same again -/
theorem tx_add {p : Addr} {l : List Str} {k : Str} {u : Tok} {Q : Bool → Shared → Prop} (x : TxAt P w s.heap p l) (room : l.length + 1 < scanBound)
    (q : ∀ b h' l', Heap.SameBut p s.heap h' → TxAt P w h' p l' → (∀ z, z ∈ l' ↔ z ∈ l ∨ z = k) → l'.length ≤ l.length + 1 → Q b { s with heap := h' }) : wpAny (model P w) A (setAddHashed p (.str k u) (hashStr w k)) Q E s := by
  obtain ⟨rows, c, tb, e, T, up, ld, nd⟩ := x
  by_cases hk : k ∈ l
  · have fit : tb.fits rows.size = true := T.fit
    have els : ElemsOf (strKind P w) rows.toList := T.el
    have sz : rows.size = l.length := T.sz
    have few : rows.size < scanBound := by omega
    have same : (PySem.strKind P w).is k (.str k u) = true := is_str k u
    unfold setAddHashed setAddHashedIn
    refine wpAny_holding (wpAny_bind (wpAny_setState_of e rfl fit ?_))
    dsimp only
    rw [byScan_of (knd := PySem.strKind P w) rfl few els]
    simp only [↓reduceIte]
    unfold setAddByScan
    refine wpAny_bind (wpAny_bind (wpAny_rule (wpAny_bind (wpAny_setScan_of (knd := PySem.strKind P w) (k := k) same e rfl fit els ?_))))
    have found : ∃ j, List.findIdx? (fun r => (PySem.strKind P w).is k r.2) rows.toList = some j := by
      obtain ⟨r, hr, hi⟩ := (T.mem k).mp hk
      cases z : List.findIdx? (fun r => (PySem.strKind P w).is k r.2) rows.toList with
      | some j => exact ⟨j, rfl⟩
      | none =>
        have := List.findIdx?_eq_none_iff.mp z r hr
        rw [hi] at this
        cases this
    obtain ⟨j, ej⟩ := found
    rw [ej]
    dsimp only
    exact wpAny_pure (wpAny_pure (q false s.heap l (Heap.SameBut.refl p s.heap) ⟨rows, c, tb, e, T, up, ld, nd⟩ (fun z => ⟨.inl, fun h => h.elim id fun h => h ▸ hk⟩) (Nat.le_succ _)))
  · refine add_x e T hk room ?_
    obtain ⟨u1, u2⟩ := addTx_keeps (hashStr w k) (.str k u) rows c tb up
    have T1 := add_ok (k := k) u T
    generalize addTx (hashStr w k) (.str k u) (rows, c, tb) = Z at u1 u2 T1 ⊢
    obtain ⟨r1, c1, tb1⟩ := Z
    refine q true _ (k :: l) ⟨Heap.size_update .., fun b hb => Heap.get?_update_other _ _ (Ne.symm hb)⟩ ⟨r1, c1, tb1, get_upd _ e rfl, T1, u1, ld.imp id fun z => Eq.trans u2 z, List.nodup_cons.mpr ⟨hk, nd⟩⟩ (fun z => by rw [List.mem_cons]; exact Or.comm) (Nat.le_refl _)
/-- the loop of set(..) over the items -/
theorem tx_loop {I : Addr} {fp wr : List Addr} {G : Array GenState → Array GenState → Prop} {n : Nat} {Pv : Nat → Value → Prop} {St : Nat → Shared → Prop} {R : Result → Shared → Prop} (W : WalksS P w A.in1 I fp wr G n Pv St) (p : Addr) (out : p ∉ fp) (ss : List Str) (hn : n = ss.length) (room : ss.length + 1 < scanBound)
    (item : ∀ i v, Pv i v → ∃ k u, ss[i]? = some k ∧ v = .str k u) : ∀ (m i : Nat) (s : Shared), n - i = m → i ≤ n → St i s → (∃ l, TxAt P w s.heap p l ∧ (∀ z, z ∈ l ↔ z ∈ ss.take i) ∧ l.length ≤ i) →
      (∀ s' l, Moved (p :: wr) G s s' → TxAt P w s'.heap p l → (∀ z, z ∈ l ↔ z ∈ ss) → l.length ≤ n → R (.ok (.ret .none)) s') → codeAny (model P w) A (.builtin "set.update.loop" ⟨[.ref p, .ref I], []⟩) R s := by
  have pw : p ∉ wr := fun z => out (W.sub _ z)
  have more : ∀ b ∈ wr, b ∈ p :: wr := fun b z => List.mem_cons_of_mem _ z
  intro m
  induction m with
  | zero =>
    intro i s hm hi st ⟨l, x, mem, few⟩ fin
    have ei : i = n := by omega
    subst ei
    refine codeAny_builtin F.entry_set_update_loop ?_
    rw [Around.under_plainId F.plain_set_update_loop _]
    show wpAny _ A.in1 (pyNext (.ref I) >>= _) _ _ s
    refine wpAny_bind (W.done s _ _ st fun s1 mv => ?_)
    show wpAny _ A.in1 (ret Value.none) _ _ s1
    exact wpAny_pure (fin s1 l (mv.mono more) (x.at_ fun o z => mv.heap p o pw z) (fun z => by rw [mem z, List.take_of_length_le (by omega)]) few)
  | succ m ih =>
    intro i s hm hi st ⟨l, x, mem, few⟩ fin
    have lt : i < n := by omega
    refine codeAny_builtin F.entry_set_update_loop ?_
    rw [Around.under_plainId F.plain_set_update_loop _]
    show wpAny _ A.in1 (pyNext (.ref I) >>= _) _ _ s
    refine wpAny_bind (W.item i s _ _ lt st fun v s1 hv st1 mv => ?_)
    obtain ⟨k, u, hk, rfl⟩ := item i v hv
    have x1 : TxAt P w s1.heap p l := x.at_ fun o z => mv.heap p o pw z
    show wpAny _ A.in1 (holding [Value.str k u] (setAdd p (.str k u)) >>= _) _ _ s1
    unfold setAdd
    refine wpAny_bind (wpAny_holding (wpAny_holding (wpAny_bind ((PySem.strKind P w).pyHash (k := k) (is_str k u) ?_))))
    refine tx_add (s := { s1 with toks := s1.toks + 1 }) x1 (by omega) fun b h2 l2 sb x2 mem2 few2 => ?_
    have mem3 : ∀ z, z ∈ l2 ↔ z ∈ ss.take (i + 1) := fun z => by
      rw [mem2 z, mem z, List.take_add_one, hk]
      simp [List.mem_append]
    refine wpAny_pure ⟨plainId_quiet F.plain_set_update_loop _, ih (i + 1) _ (by omega) lt (W.frame _ s1 _ _ st1 (Nat.le_succ _) fun b hb o z => ?_) ⟨l2, x2, mem3, by omega⟩ fun s3 l3 mv3 x3 mem4 few4 => ?_⟩
    · rw [sb.2 b (fun q : b = p => out (by rw [← q]; exact hb))]
      exact z
    · refine fin s3 l3 (Moved.trans W.gtrans ((mv.mono more).then_heap (Nat.le_succ _) fun b o hb z => ?_) mv3) x3 mem4 few4
      rw [sb.2 b (fun q : b = p => hb (by rw [q]; exact List.mem_cons_self))]
      exact z
set_option maxHeartbeats 3200000 in
/-- set(a tuple of texts) -/
theorem tx_set {a : Addr} {its : Array Value} (ss : List Str) {Q : Value → Shared → Prop} (calm : A.handled = none) (ha : s.heap.IsTuple a its) (hi : StrsAre its.toList ss) (room : ss.length + 1 < scanBound)
    (q : ∀ (h' : Heap) (n : Nat) (l : List Str), TxAt P w h' s.heap.objs.size l → (∀ z, z ∈ l ↔ z ∈ ss) → l.length ≤ ss.length → (∀ b o, s.heap.get? b = some o → h'.get? b = some o) → Q (.ref s.heap.objs.size) { s with heap := h', toks := n }) :
    wpAny (model P w) A (call (.type "set") [.ref a]) Q E s := by
  have il : its.size = ss.length := by rw [← StrsAre.length hi, Array.length_toList]
  obtain ⟨mr0, mr1, mr2⟩ := F.called_set.mro
  have m0 := F.called_set.made
  have m1 := F.called_set.sub
  refine wpAny_call (codeAny_of_tree (show wpAny _ _ (callAny (.type "set") _) _ _ _ from ?_))
  refine wpAny_pure ⟨Code.quiet_builtin _ (by decide +kernel), codeAny_builtin F.entry_type_call (show _ from ?_)⟩
  rw [Around.under_plain (weight_type_call_type "set" [.ref a] []) rfl]
  have m2 := F.called_set.notType
  have m3 := F.called_set.canCreate
  have m4 := F.typeCall_set_1 (.ref a)
  repeat (any_goals (first | assumption | wp_step))
  refine codeAny_mono (code_set_led1 (.ref a) (E := E) (Q₁ := fun ob s1 => ob = .ref s.heap.objs.size ∧ s1 = { s with heap := s.heap.push (frO w) }) ⟨rfl, rfl⟩) fun r s1 hr => ?_
  cases r with
  | error x => exact hr
  | ok fl =>
    cases fl with
    | ret ob =>
      obtain ⟨rfl, rfl⟩ := hr
      have z0 : (s.heap.push (frO w)).get? s.heap.objs.size = some (frO w) := Heap.get?_push_size _ rfl
      have zT : Shared.TypeIs { s with heap := s.heap.push (frO w) } (.ref s.heap.objs.size) "set" := ⟨_, z0, rfl⟩
      have m5 := F.called_set.init.lookup
      have m6 := F.called_set.init.bind (.ref s.heap.objs.size)
      repeat (any_goals (first | assumption | wp_step))
      refine codeAny_mono (codeAny_call_builtin (R := wants (fun r s2 => r = .none ∧ ∃ h' n l, s2 = { s with heap := h', toks := n } ∧ TxAt P w h' s.heap.objs.size l ∧ (∀ z, z ∈ l ↔ z ∈ ss) ∧ l.length ≤ ss.length ∧
          (∀ b o, s.heap.get? b = some o → h'.get? b = some o)) E) F.called_set.init.plain F.entry_set_init (check_set_init_1 zT ?_)) fun r2 s2 hr2 => ?_
      · obtain ⟨oa, hoa, hca, na, hda⟩ := ha
        obtain ⟨ocl, odi, oda, osl⟩ := oa
        simp only at hca hda
        subst hca hda
        have hoa2 : (s.heap.push (frO w)).get? a = some { cls := .type "tuple", dict := odi, data := .seq its na, slots := osl } := Heap.get?_push_of_some _ hoa
        have n1 := F.sub_tuple_set
        have n2 := F.sub_tuple_frozenset
        have n3 : (Value.type "tuple" == Value.type "dict") = false := by decide
        have ia : (s.heap.push (frO w)).IsTuple a its := ⟨_, hoa2, rfl, na, rfl⟩
        unfold Builtin.«set.__init__» noKeywords Builtin.Frozenset.updateFrom
        generalize hPI : pyIter = PI
        wp_walk
        subst hPI
        refine wpAny_pyIter_tuple ia (wpAny_bind (wpAny_runValue ?_))
        have lt := Heap.lt_size hoa
        have calm3 : A.in1.in1.in1.handled = none := by simp [calm]
        have z1 : (s.heap.push (frO w)).objs.size = s.heap.objs.size + 1 := Heap.size_push ..
        have aI : a ≠ (s.heap.push (frO w)).objs.size := by
          rw [z1]
          exact Nat.ne_of_lt (Nat.lt_succ_of_lt lt)
        have out : s.heap.objs.size ∉ [(s.heap.push (frO w)).objs.size, a] := by
          rw [z1]
          simp only [List.mem_cons, List.not_mem_nil, or_false, not_or]
          exact ⟨Nat.ne_of_lt (Nat.lt_succ_self _), Nat.ne_of_gt lt⟩
        have item : ∀ (i : Nat) (v : Value), its[i]? = some v → ∃ k u, ss[i]? = some k ∧ v = .str k u := fun i v hv => by
          obtain ⟨y, t, e1, e2⟩ := StrsAre.item hi i v (by rw [Array.getElem?_toList]; exact hv)
          exact ⟨y, t, e2, e1⟩
        refine tx_loop ((Walks.tuple calm3 _ a aI its).toS) s.heap.objs.size out ss il room item (its.size - 0) 0 _ (by omega) (Nat.zero_le _) ⟨⟨_, Heap.get?_push_size _ rfl, rfl, rfl⟩, (ia.push _)⟩ ⟨[], txAt_new (Heap.get?_push_of_some _ z0), (fun z => by simp), Nat.le_refl _⟩ ?_
        intro s3 l mv x mem few
        obtain ⟨h3, g3, d3, t3, o3⟩ := s3
        obtain rfl : g3 = s.gens := mv.gens
        obtain rfl : d3 = s.drawn := mv.drawn
        obtain rfl : o3 = s.os := mv.os
        show wpAny _ _ _ _ _ _
        refine wpAny_pure (show wpAny _ _ (ret Value.none) _ _ _ from ?_)
        refine wpAny_pure ⟨rfl, h3, t3, l, rfl, x, mem, by rw [← il]; exact few, fun b o z => ?_⟩
        have b0 := Heap.lt_size z
        refine mv.heap b o ?_ (Heap.get?_push_of_some _ (Heap.get?_push_of_some _ z))
        rw [z1]
        simp only [List.mem_cons, List.not_mem_nil, or_false, not_or]
        exact ⟨Nat.ne_of_lt b0, Nat.ne_of_lt (Nat.lt_succ_of_lt b0)⟩
      · cases r2 with
        | error x => exact hr2
        | ok fl2 =>
          cases fl2 with
          | ret r =>
            obtain ⟨rfl, h3, n3, l, rfl, x, mem, few, kp⟩ := hr2
            repeat (any_goals (first | assumption | wp_step))
            exact q h3 n3 l x mem few kp
          | _ => exact hr2.elim
    | _ => exact hr.elim
theorem perm_sub {α : Type} [DecidableEq α] : ∀ {l m : List α}, l.Nodup → (∀ x ∈ l, x ∈ m) → m.length ≤ l.length → l.Perm m
  | [], m, _, _, h => by
    have e : m = [] := List.eq_nil_of_length_eq_zero (Nat.le_zero.mp h)
    rw [e]
  | x :: l, m, nd, sub, h => by
    obtain ⟨nx, nl⟩ := List.nodup_cons.mp nd
    have hx := sub x List.mem_cons_self
    have hl : (m.erase x).length ≤ l.length := by
      rw [List.length_erase_of_mem hx]
      rw [List.length_cons] at h
      omega
    have ih := perm_sub nl (fun y hy => (List.mem_erase_of_ne (fun (e : y = x) => nx (by rw [← e]; exact hy))).2 (sub y (List.mem_cons_of_mem _ hy))) hl
    exact (ih.cons x).trans (List.perm_cons_erase hx).symm
/-- sorted(a set of texts) -/
theorem tx_sorted {p : Addr} {l : List Str} {Q : Value → Shared → Prop} (x : TxAt P w s.heap p l) (calm : A.handled = none) (few : l.length < 64)
    (q : ∀ s1 r (res : Array Value) (n : Nat) (ys : List Str), (∀ b o, s.heap.get? b = some o → s1.heap.get? b = some o) → s1.gens = s.gens → s1.os = s.os → s.heap.objs.size ≤ r → s1.heap.get? r = some (seqObj "list" res n) → StrsAre res.toList ys → ys.Perm l → sortedS ys = true → Q (.ref r) s1) :
    wpAny (model P w) A (call (.builtin "sorted") [.ref p]) Q E s := by
  obtain ⟨rows, c, tb, e, T, up, ld, nd⟩ := x
  have sz : rows.size = l.length := T.sz
  refine Calls.call_function_entry kind_sorted plain_sorted entry_sorted (args_sorted1 _) (show _ from ?_)
  unfold Builtin.«sorted»
  refine wpAny_bind (m := checkCount "sorted" 1 1 _) (wpAny_pure (wpAny_bind (collect_set (A := A.in1) calm ⟨_, e, rfl, rfl⟩ T.fit (show rows.size < scanBound by unfold scanBound; omega) up ld fun s1 vs k1 hz g1 o1 pm => ?_)))
  have el : ∀ v ∈ rows.toList.map (·.2), ∃ k u, v = Value.str k u := fun v hv => by
    obtain ⟨r, hr, rfl⟩ := List.mem_map.mp hv
    obtain ⟨⟨k, hk, _⟩, _⟩ := T.el r hr
    have hk : Value.isStrOf k r.2 = true := hk
    cases ev : r.2 <;> rw [ev] at hk <;> first
      | exact ⟨_, _, rfl⟩
      | cases hk
  have S0 := strsAre_map (rows.toList.map (·.2)) el
  have SV := strsAre_map vs fun v hv => el v (pm.mem_iff.mp hv)
  have pk : (vs.map strOf).Perm l := by
    have p1 : (vs.map strOf).Perm ((rows.toList.map (·.2)).map strOf) := pm.map strOf
    refine p1.trans ?_
    have len : ((rows.toList.map (·.2)).map strOf).length = l.length := by rw [List.length_map, List.length_map, Array.length_toList, sz]
    have sub : ∀ k ∈ l, k ∈ (rows.toList.map (·.2)).map strOf := fun k hk => by
      obtain ⟨r, hr, is⟩ := (T.mem k).mp hk
      obtain ⟨k2, u, ev⟩ := el r.2 (List.mem_map_of_mem hr)
      have is : Value.isStrOf k r.2 = true := is
      rw [ev] at is
      have ek : k2 = k := by simpa [Value.isStrOf] using is
      refine List.mem_map.mpr ⟨r.2, List.mem_map_of_mem hr, ?_⟩
      rw [ev, ← ek] <;> rfl
    exact (perm_sub nd sub (Nat.le_of_eq len)).symm
  have vl : vs.length < 64 := by
    have := pk.length_eq
    rw [List.length_map] at this
    omega
  refine wpAny_bind (wpAny_newList ?_ (by rw [sizeLine_eq]; omega))
  have o2 : (s1.heap.push (seqObj "list" vs.toArray 0)).get? s1.heap.objs.size = some (seqObj "list" vs.toArray 0) := Heap.get?_push_size _ rfl
  refine wpAny_bind (wpAny_holding (wpAny_call_entry slot_list_sort ⟨_, o2, rfl⟩ entry_list_sort (list_sort_treeK strKind_oneLt o2 SV.keysOf (fun v1 v2 rest z => keyKind_strs (by rw [← z]; exact SV)) vl fun st hp hs => ⟨_, rfl, ?_⟩) (args_list_sort _)))
  obtain ⟨ys, y1, y2, y3⟩ := sorted_out_str SV hp hs
  obtain ⟨n, hn⟩ := sortedHeap_at (vs := vs) (out := (arrOf st).map (·.2)) o2
  refine wpAny_pure ⟨_, rfl, q _ s1.heap.objs.size _ n ys (fun b o z => ?_) g1 o1 hz hn y1 (y2.trans pk) y3⟩
  have z1 := k1 b o z
  have lt := Heap.lt_size z1
  show (sortedHeap (s1.heap.push (seqObj "list" vs.toArray 0)) s1.heap.objs.size vs _).get? b = some o
  rw [sortedHeap_old (Nat.ne_of_lt lt) (by rw [size_push']; exact Nat.lt_succ_of_lt lt)]
  exact Heap.get?_push_of_some _ z1
end
/-- a set of texts in the heap of the proof -/
def TxO (P : Program) (w : World) (p : Addr) (l : List Str) : HO := .ext fun h => TxAt P w h p l
theorem txO_ok {P : Program} {w : World} {H : Hp} {h : Heap} {p : Addr} {l : List Str} (x : TxAt P w h p l) : ObjOk P w H h p (TxO P w p l) := by
  have ⟨rows, c, tb, z, r⟩ := x
  exact ⟨x, ⟨_, z⟩, fun h1 h2 y k => TxAt.at_ y k⟩
section
variable {X : Cx} {K : PySem.W.Frag}
/-- set(x), sorted(x) -/
def uSetT (K : PySem.W.Frag) (P : Program) (w : World) : List V → Hp → VK → Prop := fun xs H Q => ∃ (t : Addr) (ss : List Str), xs = [V.ref t] ∧ SqT K H t (ss.map V.str) ∧ ss.length < 64 ∧ ∀ p l, H p = none → (∀ z, z ∈ l ↔ z ∈ ss) → l.Nodup → l.length ≤ ss.length → Q (.ref p) (upd H p (TxO P w p l))
def uSortT (P : Program) (w : World) : List V → Hp → VK → Prop := fun xs H Q => ∃ (p : Addr) (l : List Str), xs = [V.ref p] ∧ H p = some (TxO P w p l) ∧ l.length < 64 ∧ ∀ r ys, H r = none → ys.Perm l → sortedS ys = true → Q (.ref r) (upd H r (.lst (ys.map V.str)))
theorem call_setT (hc : X.calm = true) (hK : X.K = K := by rfl) : CallR X (.type "set") (uSetT K X.prog X.w) := by
  subst hK
  intro pins s σ H xs us Q I r h
  obtain ⟨t, ss, rfl, ht, few, q⟩ := h
  rw [Vals.ref1 r]
  obtain ⟨its, rv, pt, _⟩ := I.tuple ht
  refine tx_set (P := X.prog) (w := X.w) ss (I.ok.hd hc) pt (by simpa using rv.strs) (by unfold scanBound; omega) fun h' n l x mem le kp => ?_
  have nd : l.Nodup := by
    obtain ⟨_, _, _, _, _, _, _, nd⟩ := x
    exact nd
  exact ⟨.ref s.heap.objs.size, _, I.laid (t' := n) kp (Nat.le_refl _) (txO_ok x), rfl, q _ l (I.hok.fresh (Nat.le_refl _)) mem nd le⟩
theorem call_sortT (hc : X.calm = true) : CallR X (.builtin "sorted") (uSortT X.prog X.w) := by
  intro pins s σ H vs us Q I r h
  obtain ⟨p, l, rfl, hp, few, q⟩ := h
  have x : TxAt X.prog X.w s.heap p l := (I.hok p _ hp).1
  rw [Vals.ref1 r]
  refine tx_sorted x (I.ok.hd hc) few fun s1 b res n ys kp g o hb hr sa pm so => ?_
  have len : (ys.map V.str).length ≤ sizeLine := by
    rw [List.length_map, pm.length_eq, sizeLine_eq]
    omega
  have nb : H b = none := I.hok.fresh hb
  have J : Inv X pins σ (upd H b (.lst (ys.map V.str))) { s with heap := s1.heap, gens := s1.gens, drawn := s1.drawn, toks := s1.toks } :=
    I.call (ch := []) (Un.laid kp hb nb) (I.hok.laid kp hb ⟨len, res.toList, n, vals_of_strs sa, hr⟩) (by rw [g]; exact I.bare) (fun _ z => nomatch z)
  have e : s1 = { s with heap := s1.heap, gens := s1.gens, drawn := s1.drawn, toks := s1.toks } := by
    cases s1
    cases s
    cases o
    rfl
  rw [e]
  exact ⟨.ref b, _, J, rfl, q b ys nb pm so⟩
end
section
variable {K : PySem.W.Frag} {P : Program} {w : World} {H : Hp} {Q : VK} {p t : Addr} {l ss : List Str}
theorem r_setT (h : H t = some (.tup (ss.map V.str))) (few : ss.length < 64) (k : ∀ p l H', H p = none → (∀ z, z ∈ l ↔ z ∈ ss) → l.Nodup → l.length ≤ ss.length → Same H H' → H' p = some (TxO P w p l) → Q (.ref p) H') : uSetT K P w [.ref t] H Q :=
  ⟨t, ss, rfl, SqT.of h, few, fun p l np mem nd le => k p l _ np mem nd le (same_new np) upd_same⟩
theorem r_sortT (h : H p = some (TxO P w p l)) (few : l.length < 64) (k : ∀ r ys H', H r = none → ys.Perm l → sortedS ys = true → Same H H' → H' r = some (.lst (ys.map V.str)) → Q (.ref r) H') : uSortT P w [.ref p] H Q :=
  ⟨p, l, rfl, h, few, fun r ys nr pm so => k r ys _ nr pm so (same_new nr) upd_same⟩
end
end Dk

/-! The head's facts with tests of one's own beside the kit's. -/
namespace Dk
open PySem PySem.Spec PyProof.Rows L2
abbrev Prd : Type := PySem.W.Frag → Bool
def obsB (fa : List He.Fa) (fb : List Prd) (fn : List He.DefD) (K : PySem.W.Frag) : He.AlD := ((He.obsD fa fn K).1 && fb.all (fun p => p K), (He.obsD fa fn K).2)
def SaysB (fa : List He.Fa) (fb : List Prd) (fn : List He.DefD) (K : PySem.W.Frag) : Prop := obsB fa fb fn K = He.valD fn
def obsBG (n : Nat) (fa : List He.Fa) (fb : List Prd) (fn : List He.DefD) (g : Addr → Option Obj) : He.AlD := obsB fa fb fn (He.frG g (He.asD g n))
def hookB (n : Nat) (fa : List He.Fa) (fb : List Prd) (fn : List He.DefD) : PySem.W.Hook where
  α := He.AlD
  obs := fun s => obsBG n fa fb fn s.heap.get?
  val := fun _ => He.valD fn
  says := fun _ h => ∃ K : PySem.W.Frag, K.In h ∧ SaysB fa fb fn K
  of := fun _ _ q => ⟨_, He.frG_in, q⟩
  keeps := fun _ _ _ ⟨K, i, c⟩ k => ⟨K, PySem.W.Frag.In.keeps i k, c⟩
theorem obsBG_eq {n : Nat} {fa : List He.Fa} {fb : List Prd} {fn : List He.DefD} {g : Addr → Option Obj} {s : Shared} (h : ∀ a, g a = s.heap.get? a) : obsBG n fa fb fn g = (hookB n fa fb fn).obs s := by
  have q : g = s.heap.get? := funext h
  rw [q] <;> rfl
theorem SaysB.d {fa : List He.Fa} {fb : List Prd} {fn : List He.DefD} {K : PySem.W.Frag} (c : SaysB fa fb fn K) : He.SaysD fa fn K ∧ ∀ (i : Nat) (p : Prd), fb[i]? = some p → p K = true := by
  have h1 : ((He.obsD fa fn K).1 && fb.all (fun p => p K)) = true := congrArg (fun z : He.AlD => z.1) c
  have h2 : (He.obsD fa fn K).2 = fn.map He.DefD.val := congrArg (fun z : He.AlD => z.2) c
  obtain ⟨k1, k2⟩ := He.ba h1
  exact ⟨Prod.ext k1 h2, fun i p q => List.all_eq_true.mp k2 p (List.mem_of_getElem? q)⟩
/-! ### what is asked of exception classes -/
def pExcC (x : Str) : Prd := fun K => He.eqO (PySem.W.findIn K (.ref (He.ga K x)) "__getattribute__") (some (some (.builtin "BaseException.__getattribute__"))) && (He.eqO (PySem.W.findIn K (.ref (He.ga K x)) "__getattr__") (some none) &&
  (decide (PySem.W.subIn K (.ref (He.ga K x)) (.type "BaseException") = some true) && (PySem.W.hasDictIn K (He.ga K x) && (He.eqO (PySem.W.findIn K (.ref (He.ga K x)) "__class__") (some (some (.builtin "object.__class__"))) &&
  (He.eqO (PySem.W.specialIn K (.builtin "object.__class__") "__get__") (some (some (.builtin "getset_descriptor.__get__"))) && (decide (PySem.W.takesIn K (.builtin "object.__class__") = some true) && decide (PySem.W.mroIn K (He.ga K x) (.type "object") = some true)))))))
theorem pExcC_ok {K : PySem.W.Frag} {x : Str} (h : pExcC x K = true) : ExcC K (He.ga K x) := by
  obtain ⟨a1, h⟩ := He.ba h
  obtain ⟨a2, h⟩ := He.ba h
  obtain ⟨a3, h⟩ := He.ba h
  obtain ⟨a4, h⟩ := He.ba h
  obtain ⟨a5, h⟩ := He.ba h
  obtain ⟨a6, h⟩ := He.ba h
  obtain ⟨a7, a8⟩ := He.ba h
  exact ⟨He.eqO_ok a1, He.eqO_ok a2, of_decide_eq_true a3, a4, He.eqO_ok a5, He.eqO_ok a6, of_decide_eq_true a7, of_decide_eq_true a8⟩
def pKit (x : Str) (v : PySem.W.Frag → Value) (b : Bool) : Prd := fun K => decide (PySem.W.kitOne K (.ref (He.ga K x)) (v K) = some b)
theorem pKit_ok {K : PySem.W.Frag} {x : Str} {v : PySem.W.Frag → Value} {b : Bool} (h : pKit x v b K = true) : PySem.W.kitOne K (.ref (He.ga K x)) (v K) = some b := of_decide_eq_true h
end Dk

/-! Attributes as targets, del, enumerate, comprehensions with any target, sorted ints; data with lists. -/
namespace Dk
open PySem PySem.Spec PyProof.Rows L2
theorem bt_set : bootBuiltins "set" = some (.type "set") := by decide +kernel
section
variable {X : Cx} {K : PySem.W.Frag} {o i e : Expr} {to ti : TE} {f : Str} {pos tpos : Pos} {ta : TA}
/-- o.f as a target -/
def gFld (K : PySem.W.Frag) (to : TE) (f : Str) : TG := fun v σ H Q => to σ H fun x H1 => ∃ a C dx fs, x = .ref a ∧ H1 a = some (.ins C dx fs) ∧ Cls K C ∧ NoAttr K C f ∧ fs.length < 1000 ∧ Q σ (upd H1 a (.ins C dx (putF f v fs)))
theorem pg_fldU (ho : PE X o to) (hK : X.K = K := by rfl)
    (ha : ∀ v, assign (.Attribute o f pos) X.env v = (do let ov ← holding [v] (eval o X.env); standAt pos.atName; holding [v, ov] (setAttr ov f v); release [v, ov] []) := by intro _; rfl) : PG X (.Attribute o f pos) (gFld K to f) := by
  subst hK
  refine ⟨fun pins s σ H v u Q I r h => ?_⟩
  rw [ha]
  refine wpAny_bind (wpAny_holding (thn (ho.run pins s σ H _ I h) fun ov s1 ⟨x, H1, I1, r1, a, C, dx, fs, ex, ea, c, n, l, q1⟩ => ?_))
  subst ex
  obtain rfl : ov = Value.ref a := r1
  exact wpAny_bind (wpAny_standAt (wpAny_bind (wpAny_holding (setattr_ok I1 ea c n l r fun s3 I3 => wpAny_release ⟨σ, _, I3, q1⟩))))
/-- sorted(xs), ints -/
def uSortI (K : PySem.W.Frag) : List V → Hp → VK → Prop := fun xs H Q => match xs with
  | [.ref a] => ∃ ns : List Int, SqL K H a (ns.map V.int) ∧ ∀ (ns' : List Int) (p : Addr), ns'.Perm ns → ns'.Pairwise (· ≤ ·) → H p = none → Q (.ref p) (upd H p (.lst (ns'.map V.int)))
  | _ => False
theorem call_sortIU (hK : X.K = K := by rfl) : CallR X (.builtin "sorted") (uSortI K) := by
  subst hK
  refine callw cr_sortedI fun xs H Q h => ?_
  match xs, h with
  | [.ref a], h => exact ⟨a, h.choose, rfl, h.choose_spec.1, h.choose_spec.2⟩
end
section
variable {K : PySem.W.Frag} {σ : L2.St} {H : Hp} {Q : VK} {D : Ends} {to ti te tl' : TE} {tA : TA} {tt : TT} {vs : List Nat} {f : Str} {x v : V} {a C p : Addr} {fs fs' : List (Str × V)} {g : TG} {tb : TS} {QG : L2.St → Hp → Prop} {S : Hp → Hp → Prop}
theorem r_gfld (q : to σ H fun x H1 => sfldq K f v x σ { nx := QG, rt := fun _ _ => False } H1) : gFld K to f v σ H QG := q
def delq (x y : V) (σ : L2.St) (D : Ends) (H2 : Hp) : Prop := ∃ (l : Addr) (xs : List V) (i : Int) (k : Nat), x = .ref l ∧ y = .int i ∧ H2 l = some (.lst xs) ∧ -(2 ^ 63) ≤ i ∧ i < 2 ^ 63 ∧ seqIndex? i xs.length = some k ∧ D.nx σ (upd H2 l (.lst (xs.eraseIdx k)))
theorem r_delL (q : to σ H fun x H1 => ti σ H1 fun y H2 => delq x y σ D H2) : tDelL to ti D σ H := q
theorem seq_nat {k n : Nat} (h : k < n) : seqIndex? (k : Int) n = some k := by
  unfold seqIndex?
  have h1 : ¬ ((k : Int) < 0) := by omega
  have h2 : (k : Int) < (n : Int) := by omega
  have h3 : (0 : Int) ≤ (k : Int) := by omega
  simp [h1, h2, h3]
theorem r_delv {xs : List V} {k : Nat} (h : H a = some (.lst xs)) (hk : k < xs.length) (hl : xs.length ≤ 1000000) (q : ∀ H', H' a = some (.lst (xs.eraseIdx k)) → (∀ b, b ≠ a → H' b = H b) → D.nx σ H') : delq (.ref a) (.int k) σ D H :=
  ⟨a, xs, k, k, rfl, rfl, h, by omega, by omega, seq_nat hk, q _ upd_same fun b hb => upd_ne hb⟩
theorem r_sortI {ns : List Int} (h : H a = some (.lst (ns.map V.int))) (k : ∀ p (ns' : List Int) H', H p = none → ns'.Perm ns → ns'.Pairwise (· ≤ ·) → Same H H' → H' p = some (.lst (ns'.map V.int)) → Q (.ref p) H') : uSortI K [.ref a] H Q :=
  ⟨ns, SqL.of h, fun ns' p pm pw np => k p ns' _ np pm pw (same_new np) upd_same⟩
/-- for j, x in enumerate(a list that stands) -/
def feq (K : PySem.W.Frag) (xs : List V) (g : TG) (tb : TS) (D : Ends) (σ : L2.St) (H : Hp) : Prop := tFor (iEnum K fun _ H1 QA => QA xs H1) g tb D σ H
theorem r_fore (q : tA σ H fun xs H1 => feq K xs g tb D σ H1) : tFor (iEnum K tA) g tb D σ H := q
theorem for_E {xs : List V} {j k : Nat} (Pv : Nat → L2.St → Hp → Prop) (h : H a = some (.lst xs)) (h0 : Pv 0 σ H) (hl : ∀ i σ' H', i ≤ xs.length → Pv i σ' H' → SqL K H' a xs)
    (hs : ∀ (i : Nat) x σ' H1 H2, xs[i]? = some x → Pv i σ' H1 → Same H1 H2 → tb (Ends.mk (Pv (i + 1)) D.rt D.nx (Pv (i + 1))) ((σ'.set j (some (.int i))).set k (some x)) H2) (hd : ∀ σ' H', Pv xs.length σ' H' → D.nx σ' H') :
    feq K [.ref a] (gTup K 2 (gCons (gName j) (gCons (gName k) gNil))) tb D σ H := by
  refine ⟨a, xs, rfl, SqL.of h, for_it (walk_enum (K := K) (a := a) (xs := xs)) Pv h0 hl (fun i v σ' H1 H2 hi hp hy => ?_) hd⟩
  obtain ⟨T, y, z, rfl, nT, rfl, ey, ez⟩ := hy
  cases ey
  exact ⟨T, [.int i, z], rfl, SqT.of upd_same, rfl, _, _, rfl, _, _, rfl, rfl, hs i z σ' H1 _ ez hp (same_new nT)⟩
/-- [.. for target in a list that stands if ..] -/
theorem lc_LG {xs : List V} (h : H p = some (.lst xs)) (hk : ∀ H', S H H' → H' p = some (.lst xs)) (sr : Sr H S) (Rv : Nat → List PyData → Prop) (hn : xs.length < 10000000) (h0 : Rv 0 [])
    (el : ∀ (i : Nat) x (H1 : Hp) (ds : List PyData) (Q1 : VK) (Qn : Hp → Prop), xs[i]? = some x → S H H1 → Rv i ds →
      (∀ y d H2, S H1 H2 → Dq H2 y d → Rv (i + 1) (ds ++ [d]) → Q1 y H2) → (∀ H2, S H1 H2 → Rv (i + 1) ds → Qn H2) → g x (wipe σ vs) H1 fun σ2 H2 => wipe σ2 vs = wipe σ vs ∧ tt σ2 H2 fun b H3 => if b = true then te σ2 H3 Q1 else Qn H3)
    (k : ∀ D H' ys ds, H D = none → S H H' → H' D = some (.lst ys) → Dqs H' ys ds → Rv xs.length ds → Q (.ref D) H') : luq K (.ref p) g tt te vs σ H Q :=
  .inl ⟨⟨xs, SqL.of h⟩, lc_gen (walk_list (xs := xs)) sr Rv (fun H' s => SqL.of (hk H' s)) hn h0 (fun i x H1 H1' ds Q1 Qn hi s1 hy rv k1 k2 => by
    obtain ⟨rfl, hy⟩ := hy
    exact el i x H1' ds Q1 Qn hy s1 rv k1 k2) k⟩
end
/-! data that may hold lists, truth values: equal to themselves -/
structure Lay (n : Nat) (d : PyData) : Prop where
  ok : d.canLay0 = true
  dp : d.depth ≤ n
theorem Lay.le {n m : Nat} {d : PyData} (h : Lay n d) (k : n ≤ m) : Lay m d := ⟨h.ok, Nat.le_trans h.dp k⟩
theorem Okd.lay {n : Nat} {d : PyData} (h : Okd n d) : Lay n d := ⟨nb_lay d h.nb, h.dp⟩
theorem lay_all {n : Nat} : ∀ {ds : List PyData}, (∀ d ∈ ds, Lay n d) → PyData.canLayAll0 ds = true ∧ PyData.depthAll ds ≤ n
  | [], _ => ⟨by simp [PyData.canLayAll0], by simp [PyData.depthAll]⟩
  | d :: ds, h => by
    have h1 := h d List.mem_cons_self
    have h2 := lay_all fun e he => h e (List.mem_cons_of_mem _ he)
    refine ⟨by rw [PyData.canLayAll0, h1.ok, h2.1] <;> rfl, ?_⟩
    rw [PyData.depthAll]
    have := h1.dp
    omega
theorem Lay.lst {n : Nat} {ds : List PyData} (h : ∀ d ∈ ds, Lay n d) : Lay (n + 1) (.list ds) := by
  have q := lay_all h
  refine ⟨by rw [PyData.canLay0]; exact q.1, ?_⟩
  rw [PyData.depth]
  omega
theorem Lay.tup {n : Nat} {ds : List PyData} (h : ∀ d ∈ ds, Lay n d) : Lay (n + 1) (.tuple ds) := by
  have q := lay_all h
  refine ⟨by rw [PyData.canLay0]; exact q.1, ?_⟩
  rw [PyData.depth]
  omega
theorem Lay.int {n : Nat} (i : Int) : Lay n (.int i) := (Okd.int i).lay
theorem Lay.bool {n : Nat} (b : Bool) : Lay n (.bool b) := ⟨by simp [PyData.canLay0], by simp [PyData.depth]⟩
theorem Lay.shaped {n : Nat} {d : PyData} (h : Lay n d) (k : n ≤ 64) : SeqAt.shaped d = true := by
  unfold SeqAt.shaped
  rw [h.ok, Bool.true_and, decide_eq_true_eq]
  exact Nat.le_trans h.dp k
section
variable {K : PySem.W.Frag} {H : Hp} {Q : VK} {p : Addr} {y : V} {d : PyData} {n : Nat}
theorem r_neLay (hx : Dp K H (.ref p) d) (hy : Dp K H y d) (ok : Lay n d) (hn : n ≤ 64) (q : Q (.bl false) H) : uNe K (.ref p) y H Q := by
  have z : rNeD K (.ref p) y H Q := ⟨d, d, hx, hy, ok.shaped hn, ok.shaped hn, by rw [SeqAt.eqv_refl _ ok.ok]; exact q⟩
  cases y <;> exact .inr z
theorem r_eqLay (hx : Dp K H (.ref p) d) (hy : Dp K H y d) (ok : Lay n d) (hn : n ≤ 64) (q : Q (.bl true) H) : uEq K (.ref p) y H Q := by
  have z : rEqD K (.ref p) y H Q := ⟨d, d, hx, hy, ok.shaped hn, ok.shaped hn, by rw [SeqAt.eqv_refl _ ok.ok]; exact q⟩
  cases y <;> exact .inr z
end
theorem ixN_nat {n i : Nat} (h : i < n) : ixN n (i : Int) = some i := by
  unfold ixN
  rw [if_pos (by omega), if_pos (by omega)]
  simp
theorem dqs_ints {H : Hp} : ∀ {ns : List Int} {ys : List V}, Dqs H ys (ns.map PyData.int) → ys = ns.map V.int
  | [], _, h => by
    cases h
    rfl
  | n :: ns, _, h => by
    cases h with
    | cons h1 h2 =>
      cases h1
      rw [dqs_ints h2] <;> rfl
theorem dqs_ints_mk {H : Hp} : ∀ ns : List Int, Dqs H (ns.map V.int) (ns.map PyData.int)
  | [] => .nil
  | n :: ns => .cons (.int n) (dqs_ints_mk ns)
theorem take_one {α : Type} {xs : List α} {i : Nat} {x : α} (h : xs[i]? = some x) : xs.take (i + 1) = xs.take i ++ [x] := by
  rw [List.take_add_one, h] <;> rfl
/-- the variable of a comprehension -/
theorem hw1 {σ : L2.St} {vs : List Nat} {j : Nat} (h : vs = [j]) : ∀ x : V, wipe ((wipe σ vs).set j (some x)) vs = wipe σ vs := fun x => by
  subst h
  show ((σ.set j none).set j (some x)).set j none = σ.set j none
  rw [List.set_set, List.set_set]
end Dk

/-! Own exceptions under ValueError whose __init__ calls super().__init__ and stores. -/
namespace Dk
open PySem PySem.Spec PyProof.Rows L2
/-- ValueError.__init__ bound to the object at x -/
abbrev veW (x : Addr) : Obj := { cls := .type "method-wrapper", dict := none, data := .fields #[.builtin "ValueError.__init__", .ref x], slots := #[] }
theorem ve_ty : typeOf (.builtin "ValueError.__init__") = pure (.type "wrapper_descriptor") := by
  show builtinType _ = _
  rw [builtinType_eq_fast]
  kernel_rfl
theorem ve_nac : (kfb_private% "nameAndClass") (Value.builtin "ValueError.__init__") = (pure (("__init__" : Str), Value.type "ValueError") : Sem (Str × Value)) := by kernel_rfl
section
open PySem.W
variable {P : Program} {w : World} {M : Model} {A : Around} {E : Value → Shared → Prop} {hp : Heap} {g : Array GenState} {d : Drawn} {t : Nat} {os : OsState}
theorem ve_bind {x C : Addr} {R : Fin → Shared → Prop} (is : W.Looks M hp (isInstance (.ref x) (.type "ValueError")) true) (q : R (.done (.ret (.ref hp.objs.size))) ⟨hp.push (veW x), g, d, t, os⟩) :
    wpAny M A (Builtin.«wrapper_descriptor.__get__» ⟨[.builtin "ValueError.__init__", .ref x, .ref C], []⟩) R E ⟨hp, g, d, t, os⟩ := by
  unfold Builtin.«wrapper_descriptor.__get__»
  refine wpAny_bind (wpAny_of_eq (a := (.builtin "ValueError.__init__", some (.ref x), some (.ref C))) (by first | rfl | kernel_rfl) ?_)
  show wpAny M A ((kfb_private% "checkInstance") (.builtin "ValueError.__init__") (.ref x) >>= fun _ => newFields "method-wrapper" [.builtin "ValueError.__init__", .ref x] >>= fun r => ret r) R E _
  refine wpAny_bind (show wpAny M A ((kfb_private% "nameAndClass") (.builtin "ValueError.__init__") >>= _) _ E _ from ?_)
  refine wpAny_bind (wpAny_of_eq ve_nac (show wpAny M A (isInstance (.ref x) (.type "ValueError") >>= _) _ E _ from ?_))
  exact wpAny_bind (is.at (KFB.if_not rfl (wpAny_pure (wpAny_bind (wpAny_newObj_type (wpAny_pure q))))))
theorem ve_super {so D x C : Addr} {l0 l : List Value} {K : Frag} {name : Str} {tk : Tok} {R : Fin → Shared → Prop}
    (at_ : hp.get? so = some (ks_superObj D x C)) (no : W.Looks (model P w) hp (opaqueClassAbove (.ref C)) none) (mro : W.Looks (model P w) hp (mroOf (.ref C)) l0) (hl : (l0.dropWhile (· != .ref D)).drop 1 = l) (X : K.In hp)
    (al : alongIn K name l = some (some (.builtin "ValueError.__init__"))) (xC : x ≠ C) (hn : (name == ("__class__" : Str)) = false) (is : W.Looks (model P w) hp (isInstance (.ref x) (.type "ValueError")) true)
    (q : R (.done (.ret (.ref hp.objs.size))) ⟨hp.push (veW x), g, d, t, os⟩) : wpAny (model P w) A (Builtin.«super.__getattribute__» ⟨[.ref so, .str name tk], []⟩) R E ⟨hp, g, d, t, os⟩ := by
  have z1 := PySem.ESX.slot_wd.lookup
  have z2 : (Value.ref x == Value.ref C) = false := by simp [xC]
  have z3 := ve_ty
  have z4 : Shared.TypeIs ⟨hp, g, d, t, os⟩ (.builtin "ValueError.__init__") "wrapper_descriptor" := ve_ty
  have z5 : (ks_superObj D x C).data = .fields #[.ref D, .ref x, .ref C] := rfl
  have y0 : (#[.ref D, .ref x, .ref C] : Array Value)[0]? = some (.ref D) := rfl
  have y1 : (#[.ref D, .ref x, .ref C] : Array Value)[1]? = some (.ref x) := rfl
  have y2 : (#[.ref D, .ref x, .ref C] : Array Value)[2]? = some (.ref C) := rfl
  unfold Builtin.«super.__getattribute__»
  repeat (first
    | (with_reducible refine wpAny_field at_ z5 y0 ?_) | (with_reducible refine wpAny_field at_ z5 y1 ?_) | (with_reducible refine wpAny_field at_ z5 y2 ?_)
    | (with_reducible refine ks_wpAny_notOpaque no ?_)
    | (with_reducible refine Looks.at mro ?_; rw [hl])
    | (refine ks_forIn_along X (fun _ _ => rfl) rfl ?_ al)
    | (with_reducible refine wpAny_call_entry PySem.ESX.slot_wd z4 PySem.ESX.entry_wd ?_ (PySem.ESX.args_wd _ _ _))
    | (with_reducible refine ve_bind is ?_)
    | (with_reducible refine ⟨_, rfl, ?_⟩)
    | (simp only [hn, z2, Bool.or_false, Bool.false_eq_true, if_false])
    | wp_step
    | dsimp only)
  all_goals exact q
theorem ve_method {so D x C : Addr} {l0 l : List Value} {K : Frag} {name : Str} {pl : Sem Bool} {R : Value × List Value → Shared → Prop}
    (at_ : hp.get? so = some (ks_superObj D x C)) (no : W.Looks (model P w) hp (opaqueClassAbove (.ref C)) none) (mro : W.Looks (model P w) hp (mroOf (.ref C)) l0) (hl : (l0.dropWhile (· != .ref D)).drop 1 = l) (X : K.In hp)
    (al : alongIn K name l = some (some (.builtin "ValueError.__init__"))) (xC : x ≠ C) (hn : (name == ("__class__" : Str)) = false) (is : W.Looks (model P w) hp (isInstance (.ref x) (.type "ValueError")) true)
    (q : R (.ref hp.objs.size, []) ⟨hp.push (veW x), g, d, t + 1, os⟩) : wpAny (model P w) A (getMethod (.ref so) name pl) R E ⟨hp, g, d, t, os⟩ := by
  have z1 := F.ks_slot_super_ga.lookup
  have z2 : ∀ n, (⟨hp, g, d, n, os⟩ : Shared).TypeIs (.ref so) "super" := fun _ => ⟨_, at_, rfl⟩
  unfold getMethod
  refine wpAny_bind (wpAny_specialOf (z2 _) z1 (show wpAny _ _ (if (Manifest.canonical "super.__getattribute__" != "object.__getattribute__") = true then _ else _) _ _ _ from ?_))
  rw [if_pos F.ks_canon_super_ga]
  unfold getAttr getAttrBy
  refine wpAny_bind (wpAny_bind (wpAny_mkText (wpAny_holding (wpAny_bind (wpAny_typeOf (z2 _) (wpAny_bind (wpAny_of_eq z1 (show wpAny _ _ (getAttrByItsOwn (.ref so) (.str name t) (.type "super") (.builtin "super.__getattribute__") true false) _ _ _ from ?_))))))))
  unfold getAttrByItsOwn hookBefore callGetattribute boundAndCalled
  refine wpAny_bind (wpAny_of_eq (show (if onTheHeap (.type "super") then typeLookup (.type "super") "__getattr__" else pure none) = pure none from rfl) (wpAny_bind (wpAny_attempt (wpAny_holding ?_))))
  refine wpAny_bind (wpAny_of_eq (F.ks_slot_super_ga.bind _) (wpAny_mono (Q := fun v s1 => v = .ref hp.objs.size ∧ s1 = ⟨hp.push (veW x), g, d, t + 1, os⟩) (E := fun _ _ => False)
    (wpAny_call_entry F.ks_slot_super_ga (z2 _) F.ks_entry_super_ga (ve_super at_ no mro hl X al xC hn is ⟨_, rfl, rfl, rfl⟩) (F.ks_gaArgs_super _ _)) (fun v s1 hv => ?_) fun _ _ z => z.elim))
  obtain ⟨rfl, rfl⟩ := hv
  exact wpAny_pure (wpAny_pure q)
end
section
open PySem.W PySem.Calls
variable {P : Program} {w : World} {M : Model} {A : Around} {E : Value → Shared → Prop} {s : Shared}
theorem ve_callArgs {pos : Pos} {u x : Addr} {first : List Value} {args : List (Bool × Sem Value)} {Q : Value → Shared → Prop} (np : args.any (·.1) = false)
    (h : wpAny M A (evalArgs (.ref u) true args []) (fun a s1 => s1.heap.get? u = some (veW x) ∧ wpAny M A (call (.ref u) (first ++ a.pos) a.kw) Q E s1) E s) : wpAny M A (callWith pos (.ref u) first args []) Q E s := by
  unfold callWith
  refine wpAny_bind (wpAny_holding (wpAny_mono h (fun a s1 h1 => wpAny_bind (wpAny_standAt ?_)) fun _ _ z => z))
  obtain ⟨ho, hc⟩ := h1
  simp only [np, List.any_nil, Bool.or_false]
  refine wpAny_bind (m := keeperOf (.ref u)) ?_
  unfold keeperOf
  refine wpAny_bind (wpAny_load ho ?_)
  simp only [veW, show (Value.type "method-wrapper" != Value.type "method") = true by decide, show (Value.type "method-wrapper" == Value.type "builtin_function_or_method" || Value.type "method-wrapper" == Value.type "method-wrapper") = true by decide, if_true]
  exact wpAny_pure (wpAny_bind (wpAny_mono hc (fun r s2 hr => wpAny_bind (wpAny_holding (wpAny_point (wpAny_pure hr)))) fun _ _ z => z))
theorem ve_callWith {pos : Pos} {u x : Addr} {first : List Value} {env : Env} {e : Expr} {rest : List Expr} {Q : Value → Shared → Prop}
    (h : wpAny M A (spliced (backTo pos (starEach (e :: rest) env))) (fun vs s1 => s1.heap.get? u = some (veW x) ∧ wpAny M A (call (.ref u) (first ++ vs)) Q E s1) E s)
    (he : starEach (e :: rest) env = (false, eval e env) :: starEach rest env := by rfl) (hpl : (backTo pos (starEach rest env)).any (·.1) = false := by rfl) :
    wpAny M A (callWith pos (.ref u) first (backTo pos (starEach (e :: rest) env)) []) Q E s := by
  rw [he] at h ⊢
  refine ve_callArgs (x := x) (show (false || (backTo pos (starEach rest env)).any (·.1)) = false by rw [hpl] <;> rfl) ?_
  exact evalArgs_plain h
end
section
variable {P : Program} {w : World} {A : Around} {E : Value → Shared → Prop} {hp : Heap} {g : Array GenState} {d : Drawn} {t : Nat} {os : OsState}
variable {nm q : Str} {C N : Addr} {bs bm : List Value} {hdct : Bool} {sn : List Str} {sub : List Value} {ab : Bool} {col : Option Bool} {dd : Option Addr} {k0 k1 k2 k3 k5 : Option Value}
theorem ve_call {u e t0 : Addr} {rest : List Value} {Q : Value → Shared → Prop} (hC : hp.get? C = some (excClassObj nm q C N bs bm hdct sn sub ab col dd k0 k1 k2 k3 k5 "ValueError.__new__")) (he : hp.get? e = some (PySem.HandSPX.excO C t0)) (hu : hp.get? u = some (veW e)) (few : rest.length ≤ sizeLine)
    (hq : ∀ h' t1, (∀ b o, b ≠ e → hp.get? b = some o → h'.get? b = some o) → h'.get? e = some (PySem.HandSPX.excO C t1) → Q .none ⟨h', g, d, t, os⟩) : wpAny (model P w) A (call (.ref u) rest) Q E ⟨hp, g, d, t, os⟩ := by
  refine wpAny_call (codeAny_of_tree (show wpAny _ A.in1 (callAny (.ref u) ⟨rest, []⟩) _ _ _ from ?_))
  simp only [callAny]
  refine wpAny_bind (wpAny_load hu ?_)
  simp only [veW, show (Value.type "method-wrapper" == Value.type "method" || Value.type "method-wrapper" == Value.type "builtin_function_or_method" || Value.type "method-wrapper" == Value.type "method-wrapper") = true by decide, if_true]
  refine W.KFB.if_so (by decide) (wpAny_bind (PySem.ESX.check_bound F.excBase_ValueError hC he rfl (wpAny_bind (wpAny_pure (wpAny_pure ?_)))))
  refine ⟨Code.quiet_builtin _ (by decide +kernel), codeAny_builtin F.excBase_ValueError.initEntry ?_⟩
  rw [Around.under_plainId F.excBase_ValueError.init.plain _]
  wp_walk
  refine hq _ hp.objs.size (fun b o hb ho => ?_) ?_
  · rw [Heap.get?_update_other _ _ (Ne.symm hb)]
    exact Heap.get?_push_of_some _ ho
  · rw [Heap.get?_update_self _ (Heap.get?_push_of_some _ he) rfl] <;> rfl
end
/-- what __init__(self, place) does: the argument is kept, place stands in the exception's dict -/
def spXi (C : Addr) : Sp := fun vs H Q _ => ∃ (a : Addr) (n : Int), vs = [.ref a, .int n] ∧ H a = some (exo a C none) ∧ ∀ dx, H dx = none → dx ≠ a → Q .non (upd (upd H dx (exd dx [("place", .int n)])) a (exo a C (some dx)))
abbrev scI : Scope := { kind := .function, names := [("self", .local), ("place", .local), ("__class__", .free), ("super", .globalImplicit)], isGenerator := false, isCoroutine := false, more := [] }
abbrev scD : Scope := { kind := .function, names := [("self", .local), ("place", .local)], isGenerator := false, isCoroutine := false, more := [] }
theorem scD_ok : FnScope ["self", "place"] ["self", "place"] scD := ⟨rfl, rfl, rfl, by decide +kernel, rfl, by decide +kernel, by decide +kernel⟩
section
open PySem.W PySem.Calls
variable {P : Program} {w : World} {K : PySem.W.Frag} {mg : Str → Option Value} {base : Heap} {CX : CXT}
theorem lk_hd' (y : Str) (v : Value) (r : List (Str × Value)) : List.lookup y ((y, v) :: r) = some v := by
  have e : (y == y) = true := beq_self_eq_true y
  simp only [List.lookup, e]
theorem lk_ne' {y z : Str} {v : Value} {r : List (Str × Value)} (h : y ≠ z) : List.lookup y ((z, v) :: r) = List.lookup y r := by
  have e : (y == z) = false := beq_eq_false_iff_ne.mpr h
  simp only [List.lookup, e]
theorem xinit_ok {k : Nat} {C f cc cda : Addr} {qual : Str} {params : Arguments} {dV kV doc pm ct oc ccl cl : Value} {an od cdd cld : Option Addr} {osl ccs csl : Array (Option Value)} {vs : Array Value} {file : Str} {tf : Tok} {ar : Arg} {p0 p1 p2 p3 p4 p5 p6 p7 p8 p9 : Pos} {body : List Stmt}
    (lk : K.lookup f = some ⟨oc, od, .func (ksFn "__init__" qual params body scI dV kV doc pm an (.ref cda) ct cc), osl⟩) (hcd : codeIn K (.ref cda) qual = true)
    (hbd : body = [.Expr (.Call (.Attribute (.Call (.Name "super" p0) [] [] p1) "__init__" p2) [.Name "place" p3] [] p4) p5, .Assign [.Attribute (.Name "self" p6) "place" p7] (.Name "place" p8) p9])
    {pl : Sem Bool} (hev : ∀ (Lc fa : Addr) (cd : Value) (ce : Addr), eval (.Call (.Attribute (.Call (.Name "super" p0) [] [] p1) "__init__" p2) [.Name "place" p3] [] p4) (ksEnv qual scI Lc fa cd ce) = (do
      let ov ← attributeBase (.Call (.Name "super" p0) [] [] p1) "__init__" (ksEnv qual scI Lc fa cd ce) (eval (.Call (.Name "super" p0) [] [] p1) (ksEnv qual scI Lc fa cd ce))
      standAt p2.atName
      let (f, first) ← holding [ov] (getMethod ov "__init__" pl)
      callWith p4 f first (backTo p4 (starEach [.Name "place" p3] (ksEnv qual scI Lc fa cd ce))) [])) (hps : (params.posonlyargs ++ params.args).head? = some ar) (har : ar.arg = "self")
    (hcode : K.lookup cda = some ⟨ccl, cdd, .fields vs, ccs⟩) (hvs : vs[2]? = some (.str file tf)) (hfile : ((P.main.file : Str) == file) = true) (htop : (P.main.scope.names.lookup ("super" : Str)).isSome = false)
    (hcc : K.lookup cc = some ⟨cl, cld, .cell (some (.ref C)), csl⟩) (T : OexC K C) (hsub : mroIn K C (.ref C) = some true) (hal : ks_superIn K C C "__init__" = some (some (.builtin "ValueError.__init__"))) (hst : nsIn K cStatics "thirdparty.any" = some none)
    (hve : mroIn K C (.type "ValueError") = some true) (hno : findIn K (.ref C) "place" = some none) (hms : mg "super" = none) :
    FnOk P w K mg base CX (k + 1) f (ksFn "__init__" qual params body scI dV kV doc pm an (.ref cda) ct cc) ["self", "place"] (spXi C) := by
  refine ⟨fun vs H Q E h => ?_, fun A outer s H args us vs' Q E hr e0 hb r hsp => ?_⟩
  · obtain ⟨a, n, rfl, _⟩ := h
    rfl
  obtain ⟨a, n, rfl, ha, q⟩ := hsp
  obtain ⟨tk, rfl⟩ : ∃ t, us = [.ref a, .int n t] := by
    cases r with
    | cons r1 r2 =>
      cases r2 with
      | cons r2 r3 =>
        cases r3
        cases r1
        obtain ⟨t, rfl⟩ := r2
        exact ⟨t, rfl⟩
  have KX : K.In s.heap := e0.mod.kin.keeps fun b o e => (e0.bs b o e).1
  have lim : s.heap.NoLimit := e0.mod.nolimit.keeps fun b o e => (e0.bs b o e).1
  have hloc : ∀ x ∈ (["self", "place"] : List Str).zip [Value.ref a, Value.int n tk], scI.names.lookup x.1 = some .local := fun x hx => by
    have hx : x ∈ [(("self" : Str), Value.ref a), (("place" : Str), Value.int n tk)] := hx
    simp only [List.mem_cons, List.not_mem_nil, or_false] at hx
    rcases hx with rfl | rfl
    · exact show List.lookup ("self" : Str) scI.names = some .local by decide +kernel
    · exact show List.lookup ("place" : Str) scI.names = some .local by decide +kernel
  refine ks_codeAny_call_defAt (fd := ksFn "__init__" qual params body scI dV kV doc pm an (.ref cda) ct cc) (body := body) hr.depth (KX _ _ lk) rfl lim (codeRec_of KX hcd) rfl hb (show ∀ x ∈ scI.names, x.2 ≠ .cell by decide +kernel) hloc (fun h0 hns hk0 => ?_)
  have env_eq : callEnv (ksFn "__init__" qual params body scI dV kV doc pm an (.ref cda) ct cc) s.heap.objs.size f = ksEnv qual scI s.heap.objs.size f (.ref cda) cc := rfl
  rw [env_eq]
  obtain ⟨L, eL⟩ : ∃ L, L = s.heap.objs.size := ⟨_, rfl⟩
  have ns1 : h0.Ns s.heap.objs.size (bindL (envOfC qual scD s.heap.objs.size f (.ref cda)).kindOf ((["self", "place"] : List Str).zip [Value.ref a, Value.int n tk]) fun _ => none) := by
    have e1 : (bindL (envOfC qual scD s.heap.objs.size f (.ref cda)).kindOf ((["self", "place"] : List Str).zip [Value.ref a, Value.int n tk]) fun _ => none) = fun y => ((["self", "place"] : List Str).zip [Value.ref a, Value.int n tk]).reverse.lookup y := by
      funext y
      show (if y = ("place" : Str) then some (Value.int n tk) else if y = ("self" : Str) then some (Value.ref a) else none) = List.lookup y [(("place" : Str), Value.int n tk), (("self" : Str), Value.ref a)]
      by_cases y1 : y = ("place" : Str)
      · rw [if_pos y1, y1]
        exact (lk_hd' _ _ _).symm
      · rw [if_neg y1, lk_ne' y1]
        by_cases y2 : y = ("self" : Str)
        · rw [if_pos y2, y2]
          exact (lk_hd' _ _ _).symm
        · rw [if_neg y2, lk_ne' y2] <;> rfl
    rw [e1]
    exact hns
  have x : InCallC s s.heap.objs.size (bindL (envOfC qual scD s.heap.objs.size f (.ref cda)).kindOf ((["self", "place"] : List Str).zip [Value.ref a, Value.int n tk]) fun _ => none) (cellsFrom (s.heap.objs.size + 1) scD.names []) (bindC (envOfC qual scD s.heap.objs.size f (.ref cda)).kindOf ((["self", "place"] : List Str).zip [Value.ref a, Value.int n tk]) fun _ => none)
      { s with heap := h0, toks := s.toks + ((["self", "place"] : List Str).zip [Value.ref a, Value.int n tk]).length } := ⟨⟨⟨h0, _, rfl⟩, ns1, hk0, Nat.le_refl _⟩, (fun n c h => by cases h), List.Pairwise.nil, fun n c h => by cases h⟩
  have J := inv_start (CX := CX) (E := E) scD_ok hr.hd e0 (vs := [.ref a, .int n]) rfl (.cons rfl (.cons ⟨tk, rfl⟩ .nil)) x
  obtain ⟨nm, qn, N, bs, bm, sn, sub, ab, col, dd, k0, k1, k2, k3, k5, hC, hbm⟩ := T.cls
  have hcls : clsIn K C = some { name := nm, bases := bs, mro := .ref C :: bm, ns := N, qualname := qn, hasDict := true, slotNames := sn, subclasses := sub, abstract := ab, collection := col, hasDel := false } := by
    unfold clsIn
    rw [hC] <;> rfl
  have KJ := J.kIn
  have gl : h0.Ns mainGlobals mg := e0.mod.glob.keeps fun b o e => hk0 b o (e0.bs b o e).1
  obtain ⟨mb, nb, hmb⟩ := e0.mod.blt
  have bl : h0.Ns builtinsNs mb := nb.keeps fun b o e => hk0 b o (e0.bs b o e).1
  obtain ⟨t1, ho⟩ := exo_at J.hok ha
  have IA : InstAt h0 a { cls := .ref C, dict := none, data := .fields #[.ref t1, .none, .none, .none, .bool false, .none] } C none := ⟨ho, rfl, rfl, trivial⟩
  subst hbd
  refine ks_wpAt_execs_cons (ks_wpAt_Expr_any (ks_wpAt_MethodCall (ks_wpAt_super_base rfl rfl (by decide) rfl (KJ _ _ lk) rfl hps rfl (KJ _ _ hcode) rfl hvs hfile htop ?_) (hev _ _ _ _)))
  have bsup : bootBuiltins "super" = some (.type "super") := by decide +kernel
  refine ks_loadName_global rfl rfl (loadGlobal_builtin (env := ksEnv qual scI s.heap.objs.size f (.ref cda) cc) gl hms bl ((hmb _ (by decide)).trans bsup) ⟨rfl, ?_⟩)
  refine wpAny_loadName_free rfl rfl rfl ⟨_, KJ _ _ hcc, rfl⟩ ?_
  rw [har]
  refine wpAny_loadName_local rfl rfl hns (v := .ref a) rfl ?_
  refine ks_wpAny_isType_cls (KJ _ _ hC) rfl ⟨rfl, ?_⟩
  refine ks_wpAny_call_super (KJ _ _ hC) rfl ho rfl (fun c z => by cases z) (looks_mroIn KJ hsub) (fun h2 e2 k2 => ?_)
  have J2 := J.kept (t' := s.toks + ((["self", "place"] : List Str).zip [Value.ref a, Value.int n tk]).length) k2
  have KJ2 := J2.kIn
  have al : alongIn K "__init__" (((Value.ref C :: bm).dropWhile (· != .ref C)).drop 1) = some (some (.builtin "ValueError.__init__")) := by
    unfold ks_superIn at hal
    rw [hcls] at hal
    exact hal
  have IA2 : InstAt h2 a { cls := .ref C, dict := none, data := .fields #[.ref t1, .none, .none, .none, .bool false, .none] } C none := ⟨k2 _ _ ho, rfl, rfl, trivial⟩
  refine ve_method (l0 := .ref C :: bm) e2 (looks_opaque KJ2 hst) ((looks_clsIn KJ2 hcls).andThen .now) rfl KJ2 al (ks_ne KJ IA hcls) (by decide) (IA2.type.andThen (looks_mroIn KJ2 hve)) ?_
  have k3 : ∀ b o, h2.get? b = some o → (h2.push (veW a)).get? b = some o := fun b o z => Heap.get?_push_of_some _ z
  have J3 := J2.kept (t' := s.toks + ((["self", "place"] : List Str).zip [Value.ref a, Value.int n tk]).length + 1) k3
  obtain ⟨m3, ns3, lk3⟩ := J3.loc
  obtain ⟨u3, ru3, lu3⟩ := lk3 1 "place" (.int n) rfl rfl (.inl rfl)
  have v3 : m3 "place" = some u3 := by
    rcases lu3 with ⟨_, z⟩ | ⟨z, _⟩
    · exact z
    · rcases z with z | z <;> cases z
  refine ve_callWith (x := a) ?_
  show wpAny _ _ (spliced ((false, eval (.Name "place" p3) (ksEnv qual scI s.heap.objs.size f (.ref cda) cc)) :: backTo p4 [])) _ _ _
  refine Calls.spliced_cons (PySem.ESX.ldL (env := ksEnv qual scI s.heap.objs.size f (.ref cda) cc) ns3 v3 (Calls.spliced_nil ⟨Heap.get?_push_size _ rfl, ?_⟩))
  refine ve_call (k3 _ _ (KJ2 _ _ hC)) (k3 _ _ (k2 _ _ ho)) (Heap.get?_push_size _ rfl) (show 1 ≤ sizeLine by rw [sizeLine_eq]; decide) (fun h4 t2 k4 e4 => ?_)
  have J4 := J3.write (t' := s.toks + ((["self", "place"] : List Str).zip [Value.ref a, Value.int n tk]).length + 1) (x := a) (e := a) (o := exo a C none) (by rw [ha]; exact True.intro) (.inl rfl) k4 ⟨_, e4⟩ (exo_ok e4)
  have eu : upd H a (exo a C none) = H := by
    funext b
    by_cases hb : b = a
    · rw [hb, upd_same, ha]
    · rw [upd_ne hb]
  rw [eu] at J4
  obtain ⟨m4, ns4, lk4⟩ := J4.loc
  obtain ⟨u4, ru4, lu4⟩ := lk4 1 "place" (.int n) rfl rfl (.inl rfl)
  have v4 : m4 "place" = some u4 := by
    rcases lu4 with ⟨_, z⟩ | ⟨z, _⟩
    · exact z
    · rcases z with z | z <;> cases z
  obtain ⟨w4, rw4, lw4⟩ := lk4 0 "self" (.ref a) rfl rfl (.inl rfl)
  have x4 : m4 "self" = some w4 := by
    rcases lw4 with ⟨_, z⟩ | ⟨z, _⟩
    · exact z
    · rcases z with z | z <;> cases z
  obtain rfl : w4 = Value.ref a := rw4
  show PySem.wpAt _ _ _ (execs [_] _) _ _ _
  refine ks_wpAt_execs_cons (ks_wpAt_Assign_Attr (wpAt_of_wpAny (PySem.ESX.ldL (env := ksEnv qual scI s.heap.objs.size f (.ref cda) cc) ns4 v4 (PySem.ESX.ldL (env := ksEnv qual scI s.heap.objs.size f (.ref cda) cc) ns4 x4 (ost_new T J4 ha hno ru4 (fun dx s5 nd ne J5 => ?_))))))
  exact wpAt_of_wpAny (wpAny_execs_nil ⟨.non, _, J5.os, J5.bare, J5.base, J5.hok, rfl, q dx nd ne⟩)
end
end Dk

/-! sorted(xs, key=lambda x: x[0]): the lambda's code object in the running def's table. -/
namespace Dk
open PySem PySem.Spec PyProof.Rows L2
/-- the table at P may have grown, all else stands -/
structure TStp (P : Addr) (q : Str) (H H' : Hp) : Prop where
  kp : ∀ b o, b ≠ P → H b = some o → H' b = some o
  tab : LamX.TabS H' P q
theorem TStp.refl {P : Addr} {q : Str} {H : Hp} (t : LamX.TabS H P q) : TStp P q H H := ⟨fun _ _ _ h => h, t⟩
theorem TStp.snd {P : Addr} {q : Str} {H H1 H2 : Hp} (a : TStp P q H H1) (s : Same H1 H2) : TStp P q H H2 := ⟨fun b o n h => s b o (a.kp b o n h), a.tab.ext s⟩
theorem tab_ne {P b : Addr} {q : Str} {H : Hp} {o : HO} (t : LamX.TabS H P q) (h : H b = some o) (n : ∀ ps, o ≠ .tbl ps) : b ≠ P := fun e => by
  obtain ⟨ps, h1, _⟩ := t
  rw [e, h1] at h
  exact n ps (Option.some.inj h).symm
theorem TStp.gro {P : Addr} {q : Str} {H H' : Hp} (a : TStp P q H H') (t : LamX.TabS H P q) : Gro H H' :=
  ⟨(fun b xs e => a.kp b _ (tab_ne t e fun _ z => by cases z) e), (fun b o u e => a.kp b _ (tab_ne t e fun _ z => by cases z) e)⟩
section
variable {X : Cx} {pins : List (Addr × Obj)} {σ : L2.St} {H : Hp} {s : Shared}
/-- a lambda is made -/
theorem lam_mk {c P : Addr} {q : Str} {params : Arguments} {body : Expr} {scope : Scope} {lp : Pos} {E Q : Value → Shared → Prop} (I : Inv X pins σ H s) (tb : LamX.TabB X.base X.mg c P) (cd : X.env.code = .ref c) (eq : X.env.qual ++ "<lambda>" = q)
    (tab : LamX.TabS H P q) (nod : defaultsOf params X.env = ([], [])) (cl0 : ∀ y ∈ scope.names, y.2 = .free → ∃ c, X.env.cells.lookup y.1 = some c)
    (k : ∀ (f c1 : Addr) (pm ctv : Value) (H1 : Hp) (s1 : Shared), Inv X pins σ H1 s1 → TStp P q H H1 → s1.heap.CodeRec (.ref c1) q →
      s1.heap.get? f = some (PySem.W.kla_obj "<lambda>" q params body scope (cloFrom X.env.cells scope.names []) pm c1 ctv) → Q (.ref f) s1) :
    wpAny (model X.prog X.w) X.A (eval (.Lambda params body scope lp) X.env) Q E s := by
  subst eq
  have ⟨ps, pt, tr, am⟩ := tab
  have hp : s.heap.get? P = some { cls := .none, data := .fields ps } := I.hok P _ pt
  have ge := I.ok.glob
  have gn := I.mod.glob.keeps I.bk
  have ch := tb.code.keeps I.bk
  have bp : s.heap.BuiltinsAt X.mg P := tb.bm.keeps I.bk
  refine PySem.W.kla_eval nod ?_
  cases am1 : codeAmong lp ps.toList with
  | some u =>
    obtain ⟨c1, rfl, hc⟩ := am lp u am1
    obtain ⟨⟨oc, us, t, e1, e2, e3⟩, _, _⟩ := I.hok c1 _ hc
    refine PySem.W.kla_makeFunctionHit (ps := ps) (closure_ok cl0) ge gn cd ch hp tr am1 bp (fun ctv g tk kk sz => ?_)
    have kq : ∀ b o, s.heap.get? b = some o → (g.push (PySem.W.kla_obj "<lambda>" (X.env.qual ++ "<lambda>") params body scope (cloFrom X.env.cells scope.names []) ((X.mg "__name__").getD .none) c1 ctv)).get? b = some o :=
      fun b o z => Heap.get?_push_of_some _ (kk b o z)
    exact k _ c1 _ ctv H _ (I.kept (t' := tk) kq) (TStp.refl tab) ⟨c1, oc, us, t, rfl, kq _ _ e1, e2, e3⟩ (Heap.get?_push_size _ rfl)
  | none =>
    refine PySem.W.kla_makeFunction (ps := ps) (closure_ok cl0) ge gn cd ch hp tr am1 tb.gP bp (fun c1 ctv g tk kx lo up cr gp => ?_)
    have ⟨c2, oc, us, t, e0, e1, e2, e3⟩ := cr
    obtain rfl : c1 = c2 := by
      cases e0
      rfl
    have nc : H c1 = none := I.hok.fresh lo
    have nP : P ≠ c1 := fun z => by
      rw [← z, pt] at nc
      cases nc
    have J := LamX.inv_table (t' := tk) (q := X.env.qual ++ "<lambda>") (more := #[rawInt lp.line, rawInt lp.col, .ref c1])
      (h' := g.push (PySem.W.kla_obj "<lambda>" (X.env.qual ++ "<lambda>") params body scope (cloFrom X.env.cells scope.names []) ((X.mg "__name__").getD .none) c1 ctv)) I pt
      (fun b o n z => Heap.get?_push_of_some _ (kx b o n z)) (Heap.get?_push_of_some _ gp) lo ⟨oc, us, t, Heap.get?_push_of_some _ e1, e2, e3⟩
    have kp : ∀ b o, b ≠ P → H b = some o → (upd (upd H P (.tbl (ps ++ #[rawInt lp.line, rawInt lp.col, .ref c1]))) c1 (LamX.CodeO c1 (X.env.qual ++ "<lambda>"))) b = some o := fun b o n z => by
      have n1 : b ≠ c1 := fun y => by
        rw [y, nc] at z
        cases z
      rw [upd_ne n1, upd_ne n]
      exact z
    have tl : (ps ++ #[rawInt lp.line, rawInt lp.col, .ref c1]).toList = ps.toList ++ [rawInt lp.line, rawInt lp.col, .ref c1] := by simp
    refine k _ c1 _ ctv _ _ J ⟨kp, ⟨_, by rw [upd_ne nP, upd_same], by rw [tl]; exact PySem.TriplesOk_snoc _ _ _ _ tr, fun pos cv z => ?_⟩⟩ ⟨c1, oc, us, t, rfl, Heap.get?_push_of_some _ e1, e2, e3⟩ (Heap.get?_push_size _ rfl)
    rw [tl] at z
    rcases LamX.among_app _ tr z with y | y
    · obtain ⟨c3, y1, y2⟩ := am pos cv y
      refine ⟨c3, y1, kp c3 _ (fun w => ?_) y2⟩
      rw [w, pt] at y2
      cases y2
    · exact ⟨c1, y, upd_same⟩
end
section
open PySem.W
variable {prog : Program} {w : World} {A : Around} {s : Shared}
/-- the call of lambda x: x[0] with a tuple that begins with a whole number -/
theorem key0_call {f t c1 : Addr} {q x : Str} {params : Arguments} {scope : Scope} {cl : List (Str × Addr)} {pm ctv : Value} {j : Nat} {p1 p2 p3 : Pos} {its : Array Value} {n : Int} {tk : Tok} {E : Value → Shared → Prop}
    (ho : s.heap.get? f = some (kla_obj "<lambda>" q params (.Subscript (.Name x p1) (.Constant (.int 0) j p2) p3) scope cl pm c1 ctv)) (cr : s.heap.CodeRec (.ref c1) q) (lim : s.heap.NoLimit) (room : A.depth < recursionLimit)
    (kd : scope.kind = .function) (co : scope.isCoroutine = false) (ge : scope.isGenerator = false) (lo : scope.names.lookup x = some .local) (nc : ∀ y ∈ scope.names, y.2 ≠ .cell)
    (bi : bindArgs (kla_fn "<lambda>" q params (.Subscript (.Name x p1) (.Constant (.int 0) j p2) p3) scope cl pm (.ref c1) ctv) ⟨[.ref t], []⟩ = pure [(x, .ref t)]) (db : (x == ("__debug__" : Str)) = false)
    (ht : IsTup s.heap t its) (h0 : its[0]? = some (.int n tk)) : wpAny (model prog w) A (call (.ref f) [.ref t]) (KeyPure (.int n) s) E s := by
  refine wpAny_call (kla_callFunE room ho rfl co ge rfl cr ?_)
  rw [bi]
  refine wpAny_pure (wpAny_newFunctionEnv nc (fun y hy => ?_) (fun g hns sb => ⟨lim.fresh _ sb, ?_⟩) kd)
  · obtain rfl := List.mem_singleton.mp hy
    exact lo
  have kq : ∀ b o, s.heap.get? b = some o → g.get? b = some o := fun b o z => sb.extBut b o (Nat.ne_of_lt (Heap.lt_size z)) (Heap.get?_push_of_some _ z)
  refine kla_codeExpr (Subscript_Constant (wpAny_Name (wpAny_loadName_local (v := .ref t) kd lo hns ?_ ?_) db))
  · show List.lookup x [(x, Value.ref t)] = _
    have e : (x == x) = true := beq_self_eq_true x
    simp only [List.lookup, e]
  refine wpAny_Constant_int ?_
  have sz : 0 < its.size := (Array.getElem?_eq_some_iff.mp h0).1
  have si : seqIndex? 0 its.size = some 0 := seq_nat (k := 0) sz
  have ht2 : IsTup g t its := ht.keeps kq
  refine ⟨"tuple", _, slot_tuple_getitem.lookup, ht2.typeIs, PyProof.Rows.getItem_tuple ht2 (by decide) (by decide) si h0 ?_⟩
  exact ⟨g, _, rfl, kq, .int n tk⟩
end
/-- sorted(xs, key=lambda x: x[0]) of tuples that begin with whole numbers -/
def tSortK (K : PySem.W.Frag) (P : Addr) (q : Str) (t : TA) : TE := fun σ H Q => t σ H fun vs H1 => ∃ (α : Type) (ky : α → Int) (l : Addr) (es : List (V × α)), vs = [.ref l] ∧ SqL K H1 l (es.map (·.1)) ∧ (∀ x ∈ es, ∃ a r, x.1 = .ref a ∧ H1 a = some (.tup (.int (ky x.2) :: r))) ∧ LamX.TabS H1 P q ∧
  ∀ H2 p (es' : List (V × α)), TStp P q H1 H2 → H2 p = none → es'.Perm es → es'.Pairwise (fun a b => ky a.2 ≤ ky b.2) → Q (.ref p) (upd H2 p (.lst (es'.map (·.1))))
theorem sqL_tstp {K : PySem.W.Frag} {P l : Addr} {q : Str} {H H' : Hp} {xs : List V} (t : TStp P q H H') (tb : LamX.TabS H P q) (h : SqL K H l xs) : SqL K H' l xs := by
  rcases h with (h | ⟨o, h⟩) | h
  · exact .inl (.inl (t.kp l _ (tab_ne tb h fun _ z => by cases z) h))
  · exact .inl (.inr ⟨o, t.kp l _ (tab_ne tb h fun _ z => by cases z) h⟩)
  · exact .inr h
theorem each_of {α : Type} {ky : α → Int} {H : Hp} : ∀ {es : List (V × α)} {us : List Value}, Vals (es.map (·.1)) us → (∀ x ∈ es, ∃ a r, x.1 = .ref a ∧ H a = some (.tup (.int (ky x.2) :: r))) →
    PySem.W.EachIs (fun (v : Value) (x : V × α) => ∃ a r, v = .ref a ∧ x.1 = .ref a ∧ H a = some (.tup (.int (ky x.2) :: r))) us es
  | [], us, r, _ => by
    cases r
    exact .nil
  | x :: es, us, r, h => by
    cases r with
    | cons r1 r2 =>
      refine .cons ?_ (each_of r2 fun y hy => h y (List.mem_cons_of_mem _ hy))
      obtain ⟨a, r, e1, e2⟩ := h x List.mem_cons_self
      have r1 : L2.RelV x.1 _ := r1
      rw [e1] at r1
      exact ⟨a, r, r1, e1, e2⟩
theorem of_each {α : Type} {ky : α → Int} {H : Hp} : ∀ {es : List (V × α)} {us : List Value}, PySem.W.EachIs (fun (v : Value) (x : V × α) => ∃ a r, v = .ref a ∧ x.1 = .ref a ∧ H a = some (.tup (.int (ky x.2) :: r))) us es → Vals (es.map (·.1)) us
  | _, _, .nil => .nil
  | _, _, .cons h r => by
    obtain ⟨a, _, e1, e2, _⟩ := h
    refine .cons ?_ (of_each r)
    show L2.RelV (Prod.fst _) _
    rw [e1, e2]
    exact rfl
open PySem.W in
theorem pe_sortK0 {X : Cx} {K : PySem.W.Frag} {c P : Addr} {k j : Nat} {q x : Str} {params : Arguments} {scope : Scope} {lp p p1 p2 p3 pos kp : Pos} {e : Expr} {t : TA} (hr : Room k X.A) (hm : X.mg "sorted" = none) (tb : LamX.TabB X.base X.mg c P) (cd : X.env.code = .ref c) (ha : PA X [e] t)
    (eq : X.env.qual ++ "<lambda>" = q := by rfl) (hK : X.K = K := by rfl) (hg : Gl X "sorted" := by rfl) (nod : defaultsOf params X.env = ([], []) := by rfl) (kd : scope.kind = .function := by rfl) (co : scope.isCoroutine = false := by rfl) (ge : scope.isGenerator = false := by rfl)
    (lo : scope.names.lookup x = some .local := by decide +kernel) (nc : ∀ y ∈ scope.names, y.2 ≠ .cell := by decide +kernel) (nf : ∀ y ∈ scope.names, y.2 ≠ .free := by decide +kernel)
    (bi : ∀ (cl : List (Str × Addr)) (pm cv ctv v : Value), bindArgs (kla_fn "<lambda>" q params (.Subscript (.Name x p1) (.Constant (.int 0) j p2) p3) scope cl pm cv ctv) ⟨[v], []⟩ = pure [(x, v)] := by intros; rfl) (db : (x == ("__debug__" : Str)) = false := by decide)
    (he : backTo pos (starEach [e] X.env) = (false, eval e X.env) :: backTo pos (starEach [] X.env) := by rfl) (hpl : (backTo pos (starEach [e] X.env)).any (·.1) = false := by rfl) :
    PE X (.Call (.Name "sorted" p) [e] [⟨some "key", .Lambda params (.Subscript (.Name x p1) (.Constant (.int 0) j p2) p3) scope lp, kp⟩] pos) (tSortK K P q t) := by
  subst hK
  refine ⟨fun pins s σ H Q I h => ?_⟩
  refine wpAny_Call_Name_kw (ld_blt I hg hm bt_sorted ?_ (by decide) (by decide))
  refine PyProof.Rows.callWith_kw (thn (ha.run pos pins s σ H _ I h) fun us s1 ⟨vs, H1, I1, r1, α, ky, l, es, ev, hl, hes, tab, q1⟩ => ?_) he hpl rfl rfl
  subst ev
  rw [Vals.ref1 r1]
  refine PyProof.Rows.kws_cons (lam_mk I1 tb cd eq tab nod (fun y hy z => absurd z (nf y hy)) (fun f c1 pm ctv H2 s2 I2 ts cr ho => ?_))
  refine PyProof.Rows.kws_nil ?_
  have hl2 := sqL_tstp ts tab hl
  obtain ⟨its, rv, pl, hz⟩ := I2.list hl2
  have E0 := each_of (H := H2) rv fun y hy => by
    obtain ⟨a, r, e1, e2⟩ := hes y hy
    exact ⟨a, r, e1, ts.kp a _ (tab_ne tab e2 fun _ z => by cases z) e2⟩
  have le : es.length ≤ sizeLine := by simpa using hz
  have un := hr.un
  have dp := hr.dp
  refine sorted_key_data (b := false) (fun y : V × α => .int (ky y.2)) pl.isList E0 (AllAlike.of fun _ _ => by simp [alike]) (Sortable.others fun _ => ⟨by simp, by simp⟩) le (fun y _ => ?_) (ksk_s1 _ _) (fun _ => ksk_l1 _ _) (fun _ => ksk_t1 _ _) (fun v y hy _ g tk kk => ?_) (fun out n g tk kk fr ho2 len eo => ?_)
  · show X.A.units + 2 + 0 < cLine
    omega
  · obtain ⟨a, r, rfl, _, e2⟩ := hy
    obtain ⟨its2, rv2, pt, _⟩ := I2.tuple (SqT.of e2)
    cases rv2 with
    | cons w1 w2 =>
      obtain ⟨tk2, rfl⟩ := w1
      obtain ⟨c3, oc, us3, t3, z0, z1, z2, z3⟩ := cr
      exact key0_call (s := { s2 with heap := g, toks := tk }) (kk _ _ ho) ⟨c3, oc, us3, t3, z0, kk _ _ z1, z2, z3⟩ (I2.nolimit.keeps kk) (by show X.A.depth < recursionLimit; omega) kd co ge lo nc (bi _ _ _ _ _) db (pt.keeps kk) (tk := tk2) rfl
  · rw [dataLe_int (fun y : V × α => ky y.2)] at eo
    have pm : (es.mergeSort fun a b => decide (ky a.2 ≤ ky b.2)).Perm es := List.mergeSort_perm es _
    have pw : (es.mergeSort fun a b => decide (ky a.2 ≤ ky b.2)).Pairwise fun a b => ky a.2 ≤ ky b.2 := by
      have z := List.pairwise_mergeSort (le := fun (a b : V × α) => decide (ky a.2 ≤ ky b.2)) (fun a b c h1 h2 => by simp at h1 h2 ⊢; omega) (fun a b => by simp; omega) es
      exact z.imp fun h => by simpa using h
    have fr2 : H2 (s2.heap.objs.size + 1) = none := I2.hok.fresh (Nat.le_succ _)
    have len2 : ((es.mergeSort fun a b => decide (ky a.2 ≤ ky b.2)).map (·.1)).length ≤ sizeLine := by
      rw [List.length_map, pm.length_eq]
      exact le
    exact ⟨.ref _, _, I2.laid (o := .lst ((es.mergeSort fun a b => decide (ky a.2 ≤ ky b.2)).map (·.1))) (t' := tk) kk (Nat.le_succ _) ⟨len2, out, n, of_each eo, ho2⟩, rfl, q1 H2 _ _ ts fr2 pm pw⟩
theorem r_sortK {K : PySem.W.Frag} {P : Addr} {q : Str} {t : TA} {σ : L2.St} {H : Hp} {Q : VK} (h : t σ H fun vs H1 => ∃ (α : Type) (ky : α → Int) (l : Addr) (es : List (V × α)), vs = [.ref l] ∧ SqL K H1 l (es.map (·.1)) ∧ (∀ x ∈ es, ∃ a r, x.1 = .ref a ∧ H1 a = some (.tup (.int (ky x.2) :: r))) ∧ LamX.TabS H1 P q ∧
  ∀ H2 p (es' : List (V × α)), TStp P q H1 H2 → H2 p = none → es'.Perm es → es'.Pairwise (fun a b => ky a.2 ≤ ky b.2) → Q (.ref p) (upd H2 p (.lst (es'.map (·.1))))) : tSortK K P q t σ H Q := h
/-! the def of a method whose code object's table is known -/
def MethAtL (e : Wd) (C : Addr) (m qual : Str) (st : Stmt) (c P : Addr) : Prop := ∃ f fd, FunD e.K m qual (defArgs st) (defBody st) (defScope st) [] [] f fd ∧ Meth e.K C m f ∧ Cls e.K C ∧ fd.code = .ref c ∧ LamX.TabB e.base e.mg c P
def DefAtL (e : Wd) (x : Str) (st : Stmt) (c P : Addr) : Prop := ∃ f fd, FunD e.K x x (defArgs st) (defBody st) (defScope st) [] [] f fd ∧ e.mg x = some (.ref f) ∧ fd.code = .ref c ∧ LamX.TabB e.base e.mg c P
section
variable {e : Wd} {C c P : Addr} {m x qual : Str} {st : Stmt} {N ps : List Str} {k : Nat} {sp : Sp}
theorem fnokL {f : Addr} {fd : FuncData} (F : FunD e.K x qual (defArgs st) (defBody st) (defScope st) [] [] f fd) (cd : fd.code = .ref c) (S : FnScope N ps (defScope st)) (len : ∀ vs H Q E, sp vs H Q E → vs.length = ps.length)
    (hbody : ∀ (f : Addr) (A : Around) (outer : List Env) (s : Shared) (H : Hp) (vs : List V) (Q : VK) (E : XK), Room k (A.deeper (envOfC qual (defScope st) s.heap.objs.size f (.ref c))) → sp vs H Q E →
      ∃ t, PSs (cxOf (L2.CX e.P e.w) e.P e.w e.K e.mg e.base N qual (defScope st) f (.ref c) A outer s H E).nox (defBody st) t ∧ t { nx := fun _ H' => Q .non H', rt := Q } (start N vs) H) : FnOk e.P e.w e.K e.mg e.base (L2.CX e.P e.w) (k + 1) f fd ps sp := by
  obtain ⟨oc, od, dV, kV, doc, pm, an, cdv, ct, osl, rfl, lk, hcd, _, _⟩ := F.ex
  have cd : cdv = .ref c := cd
  subst cd
  exact fn_of lk hcd S len fun A outer s H vs Q E hr hsp => by
    obtain ⟨t, h1, h2⟩ := hbody f A outer s H vs Q E hr hsp
    exact ⟨t, h1.nox, h2⟩
theorem canML_of (D : MethAtL e C m qual st c P) (S : FnScope N ps (defScope st)) (B : BindQ m qual st ps) (len : ∀ vs H Q E, sp vs H Q E → vs.length = ps.length)
    (hbody : ∀ (tb : LamX.TabB e.base e.mg c P) (f : Addr) (A : Around) (outer : List Env) (s : Shared) (H : Hp) (vs : List V) (Q : VK) (E : XK), Room k (A.deeper (envOfC qual (defScope st) s.heap.objs.size f (.ref c))) → sp vs H Q E →
      ∃ t, PSs (cxOf (L2.CX e.P e.w) e.P e.w e.K e.mg e.base N qual (defScope st) f (.ref c) A outer s H E).nox (defBody st) t ∧ t { nx := fun _ H' => Q .non H', rt := Q } (start N vs) H) : CanM e (k + 1) C m ps sp := by
  obtain ⟨f, fd, F, M, cl, cd, tb⟩ := D
  exact ⟨f, fd, fnokL F cd S len (hbody tb), cl, M, F.bindsN B⟩
theorem canL_of (D : DefAtL e x st c P) (S : FnScope N ps (defScope st)) (B : BindOk x st ps) (len : ∀ vs H Q E, sp vs H Q E → vs.length = ps.length)
    (hbody : ∀ (tb : LamX.TabB e.base e.mg c P) (f : Addr) (A : Around) (outer : List Env) (s : Shared) (H : Hp) (vs : List V) (Q : VK) (E : XK), Room k (A.deeper (envOfC x (defScope st) s.heap.objs.size f (.ref c))) → sp vs H Q E →
      ∃ t, PSs (cxOf (L2.CX e.P e.w) e.P e.w e.K e.mg e.base N x (defScope st) f (.ref c) A outer s H E).nox (defBody st) t ∧ t { nx := fun _ H' => Q .non H', rt := Q } (start N vs) H) : Can e (k + 1) x ps sp := by
  obtain ⟨f, fd, F, g, cd, tb⟩ := D
  exact ⟨f, fd, fnokL F cd S len (hbody tb), g, F.kp, F.bindsN B⟩
end
theorem code_of {K : PySem.W.Frag} {p : Str × Option Str} {x qual : Str} {a : Arguments} {b : List Stmt} {sc : Scope} {fd : FuncData} (F : FunD K x qual a b sc [] [] (He.fAd K p) fd) : fd.code = .ref (He.cT K p).1 := by
  obtain ⟨oc, od, dV, kV, doc, pm, an, cdv, ct, osl, rfl, lk, hcd, _, _⟩ := F.ex
  obtain ⟨c, rfl⟩ := He.codeIn_ref hcd
  show Value.ref c = .ref (He.codeOf K p)
  rw [He.codeOf_eq lk rfl]
end Dk

/-! The end of a law whose defs have tables of code objects. -/
namespace Dk
open PySem PySem.Spec PyProof.Rows L2
/-- the promise, the list that is handed in locked or not yet -/
def spZ (sp : Sp) : Sp := fun vs H Q E => sp vs H Q E ∨ ∃ a xs, vs = [.ref a] ∧ H a = some (.lst xs) ∧ ∀ o, sp vs (upd H a (.frz o (.lst xs))) Q E
theorem fn_frz {P : Program} {w : World} {K : PySem.W.Frag} {mg : Str → Option Value} {base : Heap} {k : Nat} {f : Addr} {fd : FuncData} {ps : List Str} {sp : Sp} (F : FnOk P w K mg base L2.CX0 k f fd ps sp) : FnOk P w K mg base L2.CX0 k f fd ps (spZ sp) := by
  refine ⟨fun vs H Q E h => ?_, fun A outer s H args us vs Q E hr e0 hb rv h => ?_⟩
  · rcases h with h | ⟨a, xs, _, _, h⟩
    · exact F.len _ _ _ _ h
    · exact F.len _ _ _ _ (h { cls := .none, data := .plain })
  · rcases h with h | ⟨a, xs, _, ha, h⟩
    · exact F.run A outer s H args us vs Q E hr e0 hb rv h
    · obtain ⟨z, its, n, ri, ho⟩ := e0.hok a _ ha
      have up : ∀ b, H b = none → (upd H a (.frz { cls := .type "list", data := .seq its.toArray n } (.lst xs))) b = none := fun b e => by
        rw [upd_ne (fun q => by rw [q, ha] at e; cases e)]
        exact e
      have ot : ∀ b u, H b = some u → (∀ ys, u ≠ .lst ys) → (upd H a (.frz { cls := .type "list", data := .seq its.toArray n } (.lst xs))) b = some u := fun b u e g => by
        rw [upd_ne (fun q => by rw [q, ha] at e; cases e; exact g xs rfl)]
        exact e
      have e2 : Env0 P w K mg base A outer s (upd H a (.frz { cls := .type "list", data := .seq its.toArray n } (.lst xs))) := by
        refine ⟨e0.frames, e0.mod, fun b o q => ⟨(e0.bs b o q).1, up b (e0.bs b o q).2⟩, e0.bsz, e0.funs, fun b q => up b (e0.frf b q), fun b u q => ?_, e0.bare⟩
        by_cases eb : b = a
        · rw [eb, upd_same] at q
          cases q
          rw [eb]
          exact ⟨ho, z, its, n, ri, ho⟩
        · rw [upd_ne eb] at q
          exact (e0.hok b u q).stay (fun d v _ q => q) (fun d q => ot d _ q fun _ z => by cases z) fun d ys q => ot d _ q fun _ z => by cases z
      refine codeAny_mono (F.run A outer s _ args us vs Q E hr e2 hb rv (h _)) fun r s' hq => ?_
      cases r with
      | error e => exact (show False from hq).elim
      | ok fl =>
        cases fl with
        | ret u =>
          obtain ⟨v, H', q1, q2, un, q3, q4, q5⟩ := hq
          exact ⟨v, H', q1, q2, ⟨fun b o g1 g2 => un.keep b o g1 (up b g2), fun b o g1 g2 => un.slot b o g1 (up b g2), fun b o g1 g2 => un.free b o g1 (up b g2), un.there, fun b ys g => un.tups b ys (ot b _ g fun _ z => by cases z),
            fun b o u g => un.frzs b o u (ot b _ g fun _ z => by cases z), fun b ps g => un.tbls b ps (ot b _ g fun _ z => by cases z)⟩, q3, q4, q5⟩
        | next => exact False.elim hq
        | brk => exact False.elim hq
        | cont => exact False.elim hq
theorem Scr.frz {K : PySem.W.Frag} {H : Hp} {a : Addr} {ns : List Int} {o : Obj} (hl : ns.length ≤ 63) : Scr K (upd H a (.frz o (.lst (ns.map V.int)))) a := ⟨ns, hl, .inl ⟨o, upd_same⟩⟩
/-- the law's promise when it holds of every list that is locked -/
theorem spZ_of {K : PySem.W.Frag} {sp : Sp} {H : Hp} {a : Addr} {ns : List Int} {Q : VK} {E : XK} (hl : ns.length ≤ 63) (h : SqL K H a (ns.map V.int)) (k : ∀ H' : Hp, Scr K H' a → (∀ b ps, H b = some (.tbl ps) → H' b = some (.tbl ps)) → sp [.ref a] H' Q E) : spZ sp [.ref a] H Q E := by
  rcases h with (h | ⟨o, h⟩) | h
  · refine .inr ⟨a, _, rfl, h, fun o => k _ (Scr.frz hl) fun b ps e => ?_⟩
    rw [upd_ne (fun q => by rw [q, h] at e; cases e)]
    exact e
  · exact .inl (k H ⟨ns, hl, .inl ⟨o, h⟩⟩ fun _ _ e => e)
  · exact .inl (k H ⟨ns, hl, .inr h⟩ fun _ _ e => e)
/-! what the head tells -/
theorem SaysX_b {fa : List He.Fa} {fb : List Prd} {fn : List He.DefD} {tf : List He.Defn} {w : World} {h : Heap} {K : PySem.W.Frag} (c : He.SaysX fa fn [] tf (fun K => fb.all fun p => p K) w h K) : ∀ (i : Nat) (p : Prd), fb[i]? = some p → p K = true :=
  fun i p q => List.all_eq_true.mp c.more p (List.mem_of_getElem? q)
end Dk

/-! Exceptions that carry a place: made, raised, caught by several clauses, looked at. -/
namespace Dk
open PySem PySem.Spec PyProof.Rows L2
abbrev CXN : CXT := fun _ _ _ _ _ _ => False
/-- the exception class C of the name x, whose __init__(self, place) calls super().__init__ and stores -/
structure XpC (e : Wd) (x : Str) (C : Addr) : Prop where
  oex : OexC e.K C
  ini : ∃ fI fd, PySem.W.findIn e.K (.ref C) "__init__" = some (some (.ref fI)) ∧ PySem.W.typeIn e.K (.ref fI) = some (.type "function") ∧ Binds e.K fd ["self", "place"] [] ∧ ∀ k, FnOk e.P e.w e.K e.mg e.base CXN (k + 1) fI fd ["self", "place"] (spXi C)
  g : e.mg x = some (.ref C)
  no : PySem.W.findIn e.K (.ref C) "place" = some none
section
variable {X : Cx} {W : WX} {K : PySem.W.Frag} {C : Addr} {x : Str} {e : Expr} {p pos : Pos} {ta te : TE} {σ : L2.St} {H : Hp} {cls : Value} {d : Option Addr} {D : Ends}
def mkPq (C : Addr) (x : V) (H1 : Hp) (Q : XK) : Prop := [x].length ≤ 1000 ∧ ∀ a, H1 a = none → spXi C (.ref a :: ([x] ++ [])) (upd H1 a (exo a C none)) (fun v H2 => v = .non ∧ ∃ (d : Addr) (fs : List (Str × V)), H2 a = some (exo a C (some d)) ∧ H2 d = some (exd d fs) ∧ H1 d = none ∧ Q (.ref C) (some d) (upd (del H2 a) d (.xd fs))) (fun _ _ _ => False)
def tMkP (C : Addr) (ta : TE) : L2.St → Hp → XK → Prop := fun σ H Q => ta σ H fun x H1 => mkPq C x H1 Q
theorem mkP {k : Nat} (T : XpC (wdOf X) x C) (hr : Room (k + 2) X.A) (he : PE X e ta) (hg : Gl X x := by rfl) (hs : starEach [e] X.env = (false, eval e X.env) :: starEach [] X.env := by rfl) (hdb : (x == ("__debug__" : Str)) = false := by decide)
    (hpl : (backTo pos (starEach [] X.env)).any (·.1) = false := by rfl) : PMk X (.Call (.Name x p) [e] [] pos) (tMkP C ta) := by
  obtain ⟨fI, fd, f1, f2, b, F⟩ := T.ini
  intro pins s σ H Q I h
  exact pmk_oex (dvs := []) (ds := []) T.oex f1 f2 (F k) hr b .nil (fun _ _ _ _ _ _ _ z => z.elim) hg T.g (pa_cons he pa_nil hs) hdb hs hpl pins s σ H Q I h
theorem r_mkP {n : Int} {Q : XK} (k : ∀ dx, H dx = none → Same H (upd H dx (.xd [("place", .int n)])) → Q (.ref C) (some dx) (upd H dx (.xd [("place", .int n)]))) : mkPq C (.int n) H Q := by
  refine ⟨by simp only [List.length_cons, List.length_nil]; decide, fun a na => ⟨a, n, rfl, upd_same, fun dx nd ne => ⟨rfl, dx, [("place", .int n)], upd_same, ?_, ?_, ?_⟩⟩⟩
  · rw [upd_ne ne, upd_same]
  · rw [upd_ne ne] at nd
    exact nd
  · rw [upd_ne ne] at nd
    have q := k dx nd (same_new nd)
    have eq : upd (del (upd (upd (upd H a (exo a C none)) dx (exd dx [("place", .int n)])) a (exo a C (some dx))) a) dx (.xd [("place", .int n)]) = upd H dx (.xd [("place", .int n)]) := by
      funext b
      by_cases h1 : b = dx
      · rw [h1, upd_same, upd_same]
      · rw [upd_ne h1, upd_ne h1]
        by_cases h2 : b = a
        · rw [h2, del_same, na]
        · rw [del_ne h2, upd_ne h2, upd_ne h1, upd_ne h2]
    rw [eq]
    exact q
theorem r_raiseP (q : ta σ H fun x H1 => mkPq C x H1 fun cls d H' => W cls d σ H') : tRaise (tMkP C ta) W D σ H := q
end
/-! ### the attribute place of a caught exception -/
section
variable {X : Cx} {K : PySem.W.Frag} {C a : Addr} {e : Expr} {pos : Pos} {te : TE} {σ : L2.St} {H : Hp} {cls : Value} {d : Option Addr} {Q : VK} {f : Str}
def xfq (a : Addr) (cls : Value) (d : Option Addr) (C : Addr) (f : Str) (x : V) (H1 : Hp) (Q : VK) : Prop := x = .ref a ∧ cls = .ref C ∧ ∃ (dd : Addr) (fs : List (Str × V)) (v : V), d = some dd ∧ H1 dd = some (.xd fs) ∧ fs.lookup f = some v ∧ Q v H1
theorem r_xf (q : te σ H fun x H1 => xfq a cls d C f x H1 Q) : tXf a cls d C f te σ H Q := q
theorem r_xfv {dd : Addr} {v : V} (h : H dd = some (.xd [(f, v)])) (q : Q v H) : xfq a (.ref C) (some dd) C f (.ref a) H Q := ⟨rfl, rfl, dd, _, v, rfl, h, lk_hd, q⟩
theorem pe_xfU {oe : Obj} {pn : List (Addr × Obj)} {n : Str} (T : XfC K C) (hno : PySem.W.findIn K (.ref C) n = some none) (hz : Zc cls d oe) (hf : ∃ vs, oe.data = .fields vs) (he : PE (X.suite a ((a, oe) :: pn)) e te) (hK : X.K = K := by rfl)
    (hb : attributeBase e n X.env (eval e X.env) = eval e X.env := by rfl) : PE (X.suite a ((a, oe) :: pn)) (.Attribute e n pos) (tXf a cls d C n te) := by
  subst hK
  exact pe_xf T hno hz hf he hb
end
/-! ### isinstance of a caught exception, with its dict or without -/
section
open PySem.W PySem.Calls
variable {prog : Program} {w : World} {A : Around} {E : Value → Shared → Prop} {s : Shared} {K : Frag} {x D : Addr} {ox : Obj} {od : Option Obj}
theorem find_cls {g a : Value} {name : Str} (hc : (clsIn K D).isSome = true) (ha : findIn K (.ref D) name = some (some a)) (hg : specialIn K a "__get__" = some (some g)) (ht : takesIn K a = some true) : findObj K D od name = some (.bind g a) := by
  obtain ⟨cd, hc⟩ := Option.isSome_iff_exists.mp hc
  unfold findObj
  rw [hc, Option.bind_some, ha, Option.bind_some]
  simp [hg, ht]
theorem kin_cls2 (T : ExcC K D) (X : K.In s.heap) (I : PySem.W.InstAt s.heap x ox D od) {Q : Option Value → Shared → Prop} (h : Q (some (.ref D)) { s with toks := s.toks + 1 }) : wpAny (model prog w) A (getAttr? (.ref x) "__class__") Q E s := by
  have hf : findObj K D od "__class__" = some (.bind (.builtin "getset_descriptor.__get__") (.builtin "object.__class__")) := find_cls (by obtain ⟨cd, hc, _⟩ := any_some T.hd; rw [hc]; rfl) T.ha T.hn T.ht
  obtain ⟨hp, g, d, t, os⟩ := s
  have J0 := I.type (M := model prog w)
  have J1 := looks_findIn (M := model prog w) X T.hg
  have J2 := looks_findIn (M := model prog w) X T.hk
  have J3 := looks_find (M := model prog w) X I hf
  have sb : Looks (model prog w) hp (isInstance (.ref x) (.type "BaseException")) true := J0.andThen (looks_subIn X T.hs)
  have y0 : (false && onTheHeap (Value.builtin "BaseException.__getattribute__")) = false := rfl
  have y2 : (Value.builtin "BaseException.__getattribute__" == Value.builtin "object.__getattribute__") = false := by decide +kernel
  have y1 : (onTheHeap (Value.ref D) && Value.builtin "BaseException.__getattribute__" == Value.builtin "object.__getattribute__") = false := by rw [y2] <;> rfl
  unfold getAttr? getAttrBy? getAttrBy
  refine wpAny_bind (wpAny_mkText (wpAny_bind (wpAny_attempt (wpAny_holding (wpAny_bind (J0.at (wpAny_bind (J1.at ?_))))))))
  change wpAny _ _ (if (onTheHeap (Value.ref D) && Value.builtin "BaseException.__getattribute__" == Value.builtin "object.__getattribute__") = true then _ else _) _ _ _
  rw [y1, if_neg Bool.false_ne_true]
  unfold getAttrByItsOwn hookBefore
  refine wpAny_bind ?_
  rw [if_pos (by rfl : onTheHeap (Value.ref D) = true)]
  refine J2.at ?_
  refine wpAny_bind (wpAny_attempt (wpAny_holding ?_))
  unfold callGetattribute
  rw [y0, if_neg Bool.false_ne_true]
  unfold boundAndCalled
  rw [PySem.F.excAttr_ValueError.ga.bind (.ref x)]
  refine wpAny_bind (wpAny_pure ?_)
  change wpAny _ _ (call (.builtin "BaseException.__getattribute__") [.ref x, .str "__class__" t]) _ _ _
  refine wpAny_call (codeAny_call_builtin PySem.F.excAttr_ValueError.ga.plain PySem.F.entry_bexc_ga ?_)
  refine @check_slot (model prog w) _ _ ⟨hp, g, d, t + 1, os⟩ "BaseException.__getattribute__" "BaseException" "__getattribute__" (.ref x) [.str "__class__" t] [] _ (by decide +kernel) (by decide +kernel) sb (PySem.F.args_bexc_ga (.ref x) (.str "__class__" t)) ?_
  unfold Builtin.«object.__getattribute__»
  refine wpAny_bind (wpAny_of_eq (a := ((Value.ref x : Value), [Value.str "__class__" t])) (by first | rfl | (simp only [slotArgs]; rfl)) ?_)
  refine wpAny_bind (wpAny_pure (wpAny_bind (J0.at (wpAny_bind (J3.at ?_)))))
  change wpAny _ _ (holding [Value.builtin "object.__class__"] (call (.builtin "getset_descriptor.__get__") [.builtin "object.__class__", .ref x, .ref D]) >>= ret) _ _ _
  refine wpAny_bind (wpAny_holding (wpAny_call (class_get (s := ⟨hp, g, d, t + 1, os⟩) (ox := ox) (od := od) X I T.hm ?_)))
  refine wpAny_pure ?_
  change wpAny _ _ (handedOut (.ref D)) _ _ _
  rw [handedOut_of (v := .ref D) rfl]
  first
    | exact wpAny_pure (wpAny_pure h)
    | exact wpAny_pure h
    | exact wpAny_pure (wpAny_bind (wpAny_pure (wpAny_pure h)))
theorem cls_obj (T : ExcC K D) : ∃ cd c' d' sl', K.lookup D = some (⟨c', d', .cls cd, sl'⟩ : Obj) := by
  obtain ⟨cdD, hcD, _⟩ := any_some T.hd
  unfold clsIn at hcD
  split at hcD
  · rename_i c' d' cd' sl' ho
    exact ⟨cd', c', d', sl', ho⟩
  · cases hcD
theorem kitx_exc2 (T : ExcC K D) : KitX K (.ref x) (.ref D) (fun h => PySem.W.InstAt h x ox D od) where
  ty := fun _ _ _ I => I.type
  it := fun _ _ X _ => by
    obtain ⟨cd, c', d', sl', ho⟩ := cls_obj T
    intro A' Q' E' s' k q
    unfold isType loadHead
    exact wpAny_bind (wpAny_loadPart (k _ _ (X _ _ ho)) (wpAny_pure q))
  ne := fun h tp dd its n sl X htp => by
    obtain ⟨cd, c', d', sl', ho⟩ := cls_obj T
    refine Bool.eq_false_iff.mpr fun q => ?_
    have e : D = tp := Value.ref.inj (beq_iff_eq.mp q)
    rw [← e, X _ _ ho] at htp
    cases htp
  ca := fun X I k => kin_cls2 T X I k
end
section
variable {X : Cx} {K : PySem.W.Frag} {cls : Value} {d : Option Addr} {H : Hp} {C : Addr}
def rIsY (K : PySem.W.Frag) (cls : Value) (d : Option Addr) (a : Addr) : List V → Hp → VK → Prop := fun xs H Q => ∃ D, cls = .ref D ∧ (d = none ∨ ∃ dd fs, d = some dd ∧ H dd = some (.xd fs)) ∧ ExcC K D ∧ rIsE K D a xs H Q
theorem call_isY {a : Addr} {oe : Obj} {pn : List (Addr × Obj)} (hz : Zc cls d oe) (hf : ∃ vs, oe.data = .fields vs) (hK : X.K = K := by rfl) : CallR (X.suite a ((a, oe) :: pn)) (.builtin "isinstance") (rIsY K cls d a) := by
  subst hK
  intro pins s σ H xs us Q I r ⟨D, e1, ed, T, c, cv, b, ex, hcv, e, q⟩
  subst e1
  subst ex
  cases r with
  | cons rx rr =>
    cases rr with
    | cons rt rr =>
      cases rr
      cases rx
      have ec := hcv _ rt
      subst ec
      obtain ⟨hget, _⟩ := I.pin (a, oe) (List.mem_append_left _ List.mem_cons_self)
      obtain ⟨vs, hv⟩ := hf
      have J : ∃ od, PySem.W.InstAt s.heap a oe D od := by
        rcases ed with e0 | ⟨dd, fs, e0, hx⟩
        · subst e0
          refine ⟨none, hget, hz.1, by unfold PySem.W.notCls; rw [hv] <;> rfl, ?_⟩
          rw [hz.2]
          trivial
        · subst e0
          have ho : ObjOk X.prog X.w H s.heap dd (.xd fs) := I.hok dd _ hx
          obtain ⟨mA, hns, hr⟩ := ho
          obtain ⟨od, ho, hl⟩ := lookIn_ns hns
          refine ⟨some od, hget, hz.1, by unfold PySem.W.notCls; rw [hv] <;> rfl, ?_⟩
          rw [hz.2]
          exact ho
      obtain ⟨od, J⟩ := J
      exact PySem.W.kia_one (kitx_exc2 T) I.kIn J e (fun z => nomatch z) fun tk => ⟨.bl b, H, I.kept (t' := tk) fun _ _ z => z, rfl, q⟩
theorem r_isY {a D2 dd : Addr} {fs : List (Str × V)} {b : Bool} {Q : VK} (h : ExcC K C) (hx : H dd = some (.xd fs)) (hk : PySem.W.kitOne K (.ref C) (.ref D2) = some b) (q : Q (.bl b) H) : rIsY K (.ref C) (some dd) a [.ref a, .ref D2] H Q :=
  ⟨C, rfl, .inr ⟨dd, fs, rfl, hx⟩, h, .ref D2, .ref D2, b, rfl, fun u r => r, hk, q⟩
end
/-! ### several clauses with a name -/
def wManyA (K : PySem.W.Frag) (i : Nat) (Wout : WX) (D : Ends) : List (Value × (Addr → Value → Option Addr → TS)) → WX
  | [] => Wout
  | (c, ts) :: r => fun cls d σ H => ∃ b, PySem.W.exmOne K cls c = some b ∧ (b = true → ∀ a, H a = none → ts a cls d { nx := fun σ' H' => D.nx (σ'.set i none) H', rt := D.rt, bk := fun σ' H' => D.bk (σ'.set i none) H', ct := fun σ' H' => D.ct (σ'.set i none) H' } (σ.set i (some (.ref a))) H) ∧
    (b = false → wManyA K i Wout D r cls d σ H)
inductive HdsA (X : Cx) (n : Str) : List ExceptHandler → List (Value × (Addr → Value → Option Addr → TS)) → Prop
  | nil : HdsA X n [] []
  | cons {x : Str} {c : Value} {ts : Addr → Value → Option Addr → TS} {b₀ : Stmt} {suite : List Stmt} {np pos' : Pos} {hds : List ExceptHandler} {l : List (Value × (Addr → Value → Option Addr → TS))} (hc : Names X x c)
      (hsu : ∀ (a : Addr) (oe : Obj) (cls : Value) (d : Option Addr) (pn : List (Addr × Obj)), Zc cls d oe → (∃ vs, oe.data = .fields vs) → PSs (X.suite a ((a, oe) :: pn)) (b₀ :: suite) (ts a cls d)) (r : HdsA X n hds l) :
      HdsA X n (.ExceptHandler (some (.Name x np)) (some n) (b₀ :: suite) pos' :: hds) ((c, ts) :: l)
section
variable {X : Cx} {body : List Stmt} {h₀ : ExceptHandler} {hds : List ExceptHandler} {l : List (Value × (Addr → Value → Option Addr → TS))} {pos : Pos} {tb : WX → TS} {Wout : WX} {n : Str} {i : Nat}
theorem ps_tryMA (hs : X.stack = X.env :: X.outer) (hf : X.env.frame = some X.env.locals) (hN : X.N.Nodup) (hi : X.N[i]? = some n) (hln : X.env.kindOf n = some .local) (tk : Takes X Wout)
    (hb : ∀ (W : WX) (pn : List (Addr × Obj)) (xe : Value → Shared → Prop), Takes (X.tr pn xe) W → PassesOwn (model X.prog X.w) X.A X.env xe → PSs (X.tr pn xe) body (tb W))
    (hh : HdsA X n (h₀ :: hds) l) : PS X (.Try body (h₀ :: hds) [] [] pos) (fun D σ H => tb (wManyA X.K i Wout D l) D σ H) := by
  refine ⟨fun pins s σ H D I h => ?_⟩
  have ok := I.ok
  have hfr : X.A.frames = some (X.env :: X.outer) := by rw [ok.frames, hs]
  have hloc : Loc X.env.scope n := .inl hln
  refine wpAny_Try_except ?_
  refine wpAny_mono ((hb (wManyA X.K i Wout D l) (X.pn ++ pins) (fun e s₁ => wpAny (model X.prog X.w) X.A (noteFrame e X.env) (fun _ s₂ => wpAny (model X.prog X.w) X.A (setFlight e none) (fun _ s₃ =>
    wpAny (model X.prog X.w) X.A (handleBy e X.env (h₀ :: hds)) (SP X pins D) X.xe s₃) X.xe s₂) X.xe s₁) (fun u s' xx => ?_) PassesOwn.looking).run [] s σ H D (I.toTry _) h) (fun f s1 hsp => ?_) (fun e s1 he => he)
  · obtain ⟨a, B, sI, pins', σ', H', cls, d, rfl, J', nb, up, sky, na, os, ag, w⟩ := xx
    have J : Inv X pins σ' H' sI := J'.ofTry ok
    have sky' : Sky B (X.env :: X.outer) a (Zc cls d) X.env.locals s'.heap := by rw [← hs]; exact sky
    change wpAny (model X.prog X.w) X.A (noteFrame (.ref a) X.env) _ _ _
    refine Sky.land Zc.steady hfr hf sky' fun h3 fl3 up3 => ?_
    have J3 : Inv X pins σ' H' { s' with heap := h3 } := J.landed nb fl3.1 (up.trans up3) os ag
    obtain ⟨oe3, vs3, he3, hz3, hd3⟩ := fl3.there
    have notFr : ∀ {h : Heap} {o : Obj} {vs : Array Value}, h.FunFrames B (X.env :: X.outer) → h.get? a = some o → o.data = .fields vs → a ∉ frs (X.env :: X.outer) := fun {h o vs} ff e dd hm => by
      obtain ⟨_, o', e', hnf⟩ := ff.mem hm
      rw [e] at e'
      cases e'
      exact hnf _ dd
    have nfr := notFr fl3.2.2.1 he3 hd3
    have nL : a ≠ X.env.locals := fun z => nfr (List.mem_filterMap.mpr ⟨X.env, List.mem_cons_self, by rw [hf, z]⟩)
    have nF : a ∉ X.fs := fun hm => by
      obtain ⟨e, he, q⟩ := List.mem_filterMap.mp hm
      exact nfr (List.mem_filterMap.mpr ⟨e, List.mem_cons_of_mem _ he, q⟩)
    have S3 := J3.suite he3 hd3 na nL nF
    have go : ∀ {hds' : List ExceptHandler} {l' : List (Value × (Addr → Value → Option Addr → TS))}, HdsA X n hds' l' → wManyA X.K i Wout D l' cls d σ' H' →
        wpAny (model X.prog X.w) X.A (handleBy (.ref a) X.env hds') (SP X pins D) X.xe { s' with heap := h3 } := by
      intro hds' l' hk
      induction hk with
      | nil =>
        intro w
        refine wpAny_handleBy_nil ?_
        obtain ⟨k1, k2, k3, oe, vs, T, oT, ts', he, hz, hd, h1, hr⟩ := id fl3
        unfold PySem.passOn
        refine wpAny_bind (wpAny_field he hd h1 ?_)
        rw [if_neg (show ¬ ((Value.ref T == Value.none) = true) from by simp)]
        have fin : wpAny (model X.prog X.w) X.A (setFlight (.ref a) X.env.frame) (fun _ s4 => wpAny (model X.prog X.w) X.A (throw (.ref a) : Sem Flow) (SP X pins D) X.xe s4) X.xe { s' with heap := h3 } := by
          rw [hf]
          refine HandSPX.setFlight_upZ fl3 fun h4 hh4 up4 => wpAny_throw (tk _ _ ?_)
          exact ⟨a, B, sI, pins, σ', H', cls, d, rfl, J, nb, (up.trans up3).trans up4, .inr (.inr (by rw [hs]; exact hh4)), na, os, ag, w⟩
        first
          | exact wpAny_bind (wpAny_pure (wpAny_bind fin))
          | exact wpAny_bind fin
      | @cons x c ts b₀ suite np pos' hds2 l2 hc hsu r ih =>
        intro w
        obtain ⟨b, hb1, hyes, hno⟩ := w
        refine wpAny_handleBy_cons (codeAny_handlers_test ?_) (by intro q; cases q)
        have LT : PySem.W.Looks (model X.prog X.w) h3 (typeOf (.ref a)) cls := fun A Q E s k q => wpAny_typeOf_ref (k _ _ he3) (by rw [hz3.1]; exact q)
        have LM := PySem.W.exm_one (M := model X.prog X.w) (J3.kIn) LT hb1
        have test : ∀ {Q : Value → Shared → Prop} {E : Value → Shared → Prop}, Q c { s' with heap := h3 } → wpAny (model X.prog X.w) (X.A.mark (some (.ref a))) (eval (.Name x np) X.env) Q E { s' with heap := h3 } := fun {Q E} q => by
          obtain ⟨hg, hdbg, hm | ⟨hm, hv, hnn⟩⟩ := hc
          · exact ld_glob (X := X.suite a ((a, oe3) :: (X.pn ++ pins))) S3 hg hm q hdbg
          · exact ld_blt (X := X.suite a ((a, oe3) :: (X.pn ++ pins))) S3 hg hm hv q hnn hdbg
        refine test (LM.here ?_)
        cases b with
        | true =>
          refine codeAny_handlers_suite_as ?_
          refine HandSPX.lands_againZ fl3 fun h4 fl4 up4 => ?_
          have J4 : Inv X pins σ' H' { s' with heap := h4 } := J.landed nb fl4.1 ((up.trans up3).trans up4) os ag
          obtain ⟨oe4, vs4, he4, hz4, hd4⟩ := fl4.there
          have S4 := J4.suite he4 hd4 na nL nF
          refine store_ok (X := X.suite a ((a, oe4) :: (X.pn ++ pins))) (v := .ref a) S4 hN hi hloc rfl (fun s5 S5 => ?_) (.inr hln)
          refine wpAny_mono ((hsu a oe4 cls d (X.pn ++ pins) hz4 ⟨_, hd4⟩).run [] s5 _ H' _ S5 (hyes rfl a na)) (fun f s6 hsp => ?_) (fun _ _ z => False.elim z)
          have end_ : ∀ {σ6 : L2.St} {H6 : Hp} {Q : Shared → Prop}, Inv (X.suite a ((a, oe4) :: (X.pn ++ pins))) [] σ6 H6 s6 → (∀ s7, Inv X pins (σ6.set i none) H6 s7 → Q s7) →
              wpAny (model X.prog X.w) X.A (do bindName X.env n .none; unbindBehindTheSuite X.env n pos') (fun _ s7 => Q s7) X.xe s6 := fun {σ6 H6 Q} S6 hq => gone_ok (S6.unsuite ok) hN hi hln hq
          cases f with
          | next =>
            obtain ⟨σ6, H6, S6, q6⟩ := hsp
            exact end_ S6 fun s7 J7 => ⟨_, _, J7, q6⟩
          | brk =>
            obtain ⟨σ6, H6, S6, q6⟩ := hsp
            exact end_ S6 fun s7 J7 => ⟨_, _, J7, q6⟩
          | cont =>
            obtain ⟨σ6, H6, S6, q6⟩ := hsp
            exact end_ S6 fun s7 J7 => ⟨_, _, J7, q6⟩
          | ret u =>
            obtain ⟨v6, σ6, H6, S6, r6, q6⟩ := hsp
            exact end_ S6 fun s7 J7 => ⟨_, _, _, J7, r6, q6⟩
        | false =>
          change wpAny _ X.A (handleBy (.ref a) X.env hds2) _ _ _
          exact ih (hno rfl)
    exact go hh w
  · cases f with
    | next =>
      obtain ⟨σ', H', J', q⟩ := hsp
      exact wpAny_execs_nil ⟨σ', H', J'.ofTry ok, q⟩
    | brk =>
      obtain ⟨σ', H', J', q⟩ := hsp
      exact ⟨σ', H', J'.ofTry ok, q⟩
    | cont =>
      obtain ⟨σ', H', J', q⟩ := hsp
      exact ⟨σ', H', J'.ofTry ok, q⟩
    | ret u =>
      obtain ⟨v, σ', H', J', r, q⟩ := hsp
      exact ⟨v, σ', H', J'.ofTry ok, r, q⟩
end
section
variable {X : Cx} {K : PySem.W.Frag} {body : List Stmt} {h₀ : ExceptHandler} {hds : List ExceptHandler} {l r : List (Value × (Addr → Value → Option Addr → TS))} {pos : Pos} {tb : WX → TS} {Wout : WX} {n : Str} {i : Nat} {c cls : Value} {d : Option Addr} {D : Ends} {σ : L2.St} {H : Hp}
  {ts : Addr → Value → Option Addr → TS}
def tTryMA (K : PySem.W.Frag) (i : Nat) (l : List (Value × (Addr → Value → Option Addr → TS))) (Wout : WX) (tb : WX → TS) : TS := fun D σ H => tb (wManyA K i Wout D l) D σ H
def tTryMO (K : PySem.W.Frag) (l : List (Value × (Addr → Value → Option Addr → TS))) (Wout : WX) (tb : WX → TS) : TS := fun D σ H => tb (wMany K Wout D l) D σ H
theorem ps_tryManyA (hs : X.stack = X.env :: X.outer) (hf : X.env.frame = some X.env.locals) (hN : X.N.Nodup) (hi : X.N[i]? = some n) (hln : X.env.kindOf n = some .local) (tk : Takes X Wout)
    (hb : ∀ (W : WX) (pn : List (Addr × Obj)) (xe : Value → Shared → Prop), Takes (X.tr pn xe) W → PassesOwn (model X.prog X.w) X.A X.env xe → PSs (X.tr pn xe) body (tb W))
    (hh : HdsA X n (h₀ :: hds) l) (hK : X.K = K := by rfl) : PS X (.Try body (h₀ :: hds) [] [] pos) (tTryMA K i l Wout tb) := by
  subst hK
  exact ps_tryMA hs hf hN hi hln tk hb hh
theorem ps_tryManyO (hs : X.stack = X.env :: X.outer) (hf : X.env.frame = some X.env.locals) (tk : Takes X Wout)
    (hb : ∀ (W : WX) (pn : List (Addr × Obj)) (xe : Value → Shared → Prop), Takes (X.tr pn xe) W → PassesOwn (model X.prog X.w) X.A X.env xe → PSs (X.tr pn xe) body (tb W))
    (hh : HdsOk X (h₀ :: hds) l) (hK : X.K = K := by rfl) : PS X (.Try body (h₀ :: hds) [] [] pos) (tTryMO K l Wout tb) := by
  subst hK
  exact ps_try_many hs hf tk hb hh
theorem r_tryMA {tb : WX → TS} (q : tb (wManyA K i Wout D l) D σ H) : tTryMA K i l Wout tb D σ H := q
theorem r_tryMO {tb : WX → TS} (q : tb (wMany K Wout D l) D σ H) : tTryMO K l Wout tb D σ H := q
theorem r_wMAT (h : PySem.W.exmOne K cls c = some true) (k : ∀ a, H a = none → ts a cls d { nx := fun σ' H' => D.nx (σ'.set i none) H', rt := D.rt, bk := fun σ' H' => D.bk (σ'.set i none) H', ct := fun σ' H' => D.ct (σ'.set i none) H' } (σ.set i (some (.ref a))) H) : wManyA K i Wout D ((c, ts) :: r) cls d σ H :=
  ⟨true, h, fun _ => k, (fun z => absurd z.symm Bool.false_ne_true)⟩
theorem r_wMAF (h : PySem.W.exmOne K cls c = some false) (k : wManyA K i Wout D r cls d σ H) : wManyA K i Wout D ((c, ts) :: r) cls d σ H := ⟨false, h, (fun z => absurd z Bool.false_ne_true), fun _ => k⟩
theorem r_wMOT (h : PySem.W.exmOne K cls c = some true) (k : ∀ a, H a = none → ts a cls d D σ H) : wMany K Wout D ((c, ts) :: r) cls d σ H := ⟨true, h, fun _ => k, (fun z => absurd z.symm Bool.false_ne_true)⟩
theorem r_wMOF (h : PySem.W.exmOne K cls c = some false) (k : wMany K Wout D r cls d σ H) : wMany K Wout D ((c, ts) :: r) cls d σ H := ⟨false, h, (fun z => absurd z Bool.false_ne_true), fun _ => k⟩
end
end Dk

/-! What the head tells: defs, tables of code objects, exception classes with an __init__ that calls super(). -/
namespace Dk
open PySem PySem.Spec PyProof.Rows L2
abbrev FnC : Type := Option (Str × Str × Arguments × FuncBody × Scope × Addr × Addr)
/-- an exception class and its __init__ -/
structure XiD where
  x : Str
  qual : Str
  params : Arguments
  body : List Stmt
  scope : Scope
def fiA (K : PySem.W.Frag) (x : Str) : Addr := He.ma K (He.ga K x) "__init__"
def fnC (K : PySem.W.Frag) (x : Str) : FnC := match K.lookup (fiA K x) with
  | some ⟨_, _, .func fd, _⟩ => some (fd.name, fd.qualname, fd.params, fd.body, fd.scope, fd.globals, fd.builtins)
  | _ => none
def XiD.val (d : XiD) : FnC := some ("__init__", d.qual, d.params, .stmts d.body, d.scope, mainGlobals, builtinsNs)
def oexB (K : PySem.W.Frag) (C : Addr) : Bool := match K.lookup C with
  | some ⟨.type t, _, .cls cd, sl⟩ => decide (t = "type") && (cd.hasDict && (!cd.hasDel && (match cd.mro, sl.toList with
    | .ref C' :: bm, [_, _, _, _, some (.builtin n), _] => decide (C' = C) && (decide (n = "ValueError.__new__") && PySem.HandSPX.refsVE bm)
    | _, _ => false)))
  | _ => false
theorem oexB_ok {K : PySem.W.Frag} {C : Addr} (h : oexB K C = true) : ∃ nm q N bs bm sn sub ab col dd k0 k1 k2 k3 k5, K.lookup C = some (excClassObj nm q C N bs bm true sn sub ab col dd k0 k1 k2 k3 k5 "ValueError.__new__") ∧ PySem.HandSPX.refsVE bm = true := by
  unfold oexB at h
  split at h
  · rename_i t dd cd sl ho
    obtain ⟨h1, h⟩ := He.ba h
    obtain ⟨h2, h⟩ := He.ba h
    obtain ⟨h3, h⟩ := He.ba h
    split at h
    · rename_i C' bm k0 k1 k2 k3 n k5 hm hs
      obtain ⟨h4, h⟩ := He.ba h
      obtain ⟨h5, h6⟩ := He.ba h
      obtain ⟨nm, bs, mro, ns, qn, hd, sn, sub, ab, col, del⟩ := cd
      dsimp only at hm h2 h3
      have e3 : del = false := by
        cases del with
        | false => rfl
        | true => cases h3
      have e1 := of_decide_eq_true h1
      have e4 := of_decide_eq_true h4
      have e5 := of_decide_eq_true h5
      subst hm e3 h2 e1 e4 e5
      have hsl : sl = #[k0, k1, k2, k3, some (.builtin "ValueError.__new__"), k5] := by
        obtain ⟨l⟩ := sl
        simp only at hs
        rw [hs]
      subst hsl
      exact ⟨nm, qn, ns, bs, bm, sn, sub, ab, col, dd, k0, k1, k2, k3, k5, ho, h6⟩
    · cases h
  · cases h
/-- the function, its code, its closure -/
def cellB (K : PySem.W.Frag) (x : Str) (cc : Addr) : Bool := match K.lookup cc with
  | some ⟨_, _, .cell (some (.ref C)), _⟩ => decide (C = He.ga K x)
  | _ => false
theorem cellB_ok {K : PySem.W.Frag} {x : Str} {cc : Addr} (h : cellB K x cc = true) : ∃ cl cld csl, K.lookup cc = some ⟨cl, cld, .cell (some (.ref (He.ga K x))), csl⟩ := by
  unfold cellB at h
  split at h
  · rename_i cl cld C csl ho
    rw [← of_decide_eq_true h]
    exact ⟨cl, cld, csl, ho⟩
  · cases h
def cloB (K : PySem.W.Frag) (x : Str) (l : List (Str × Addr)) : Bool := match l with
  | [(n, cc)] => decide (n = ("__class__" : Str)) && cellB K x cc
  | _ => false
theorem cloB_ok {K : PySem.W.Frag} {x : Str} {l : List (Str × Addr)} (h : cloB K x l = true) : ∃ cc, l = [(("__class__" : Str), cc)] ∧ cellB K x cc = true := by
  unfold cloB at h
  split at h
  · rename_i n cc
    obtain ⟨h1, h2⟩ := He.ba h
    rw [of_decide_eq_true h1]
    exact ⟨cc, rfl, h2⟩
  · cases h
def strIs (file : Str) (v : Option Value) : Bool := match v with
  | some (.str f _) => decide (f = file)
  | _ => false
theorem strIs_ok {file : Str} {v : Option Value} (h : strIs file v = true) : ∃ t, v = some (.str file t) := by
  unfold strIs at h
  split at h
  · rename_i f t
    rw [of_decide_eq_true h]
    exact ⟨t, rfl⟩
  · cases h
def filB (K : PySem.W.Frag) (file : Str) (cda : Addr) : Bool := match K.lookup cda with
  | some ⟨_, _, .fields vs, _⟩ => strIs file vs[2]?
  | _ => false
theorem filB_ok {K : PySem.W.Frag} {file : Str} {cda : Addr} (h : filB K file cda = true) : ∃ ccl cdd vs ccs tf, K.lookup cda = some ⟨ccl, cdd, .fields vs, ccs⟩ ∧ vs[2]? = some (.str file tf) := by
  unfold filB at h
  split at h
  · rename_i a b vs c ho
    obtain ⟨t, e⟩ := strIs_ok h
    exact ⟨a, b, vs, c, t, ho, e⟩
  · cases h
def codB (K : PySem.W.Frag) (file : Str) (v : Value) : Bool := match v with
  | .ref c => filB K file c
  | _ => false
theorem codB_ok {K : PySem.W.Frag} {file : Str} {v : Value} (h : codB K file v = true) : ∃ c, v = .ref c ∧ filB K file c = true := by
  unfold codB at h
  split at h
  · exact ⟨_, rfl, h⟩
  · cases h
def nonB (v : Value) : Bool := match v with
  | .none => true
  | _ => false
theorem nonB_ok {v : Value} (h : nonB v = true) : v = .none := by
  unfold nonB at h
  split at h
  · rfl
  · cases h
def xfB2 (file : Str) (K : PySem.W.Frag) (d : XiD) : Bool := match K.lookup (fiA K d.x) with
  | some ⟨_, _, .func fd, _⟩ => PySem.W.codeIn K fd.code d.qual && (nonB fd.defaults && (codB K file fd.code && cloB K d.x fd.closure))
  | _ => false
def xiB (file : Str) (K : PySem.W.Frag) (d : XiD) : Bool := xfB2 file K d && (oexB K (He.ga K d.x) && (He.eqO (PySem.W.findIn K (.ref (He.ga K d.x)) "__init__") (some (some (.ref (fiA K d.x)))) && (decide (PySem.W.typeIn K (.ref (fiA K d.x)) = some (.type "function")) &&
  (He.eqO (PySem.W.findIn K (.ref (He.ga K d.x)) "__setattr__") (some (some (.builtin "object.__setattr__"))) && (decide (PySem.W.subIn K (.ref (He.ga K d.x)) (.type "BaseException") = some true) && (decide (PySem.W.typeIn K (.ref (He.ga K d.x)) = some (.type "type")) && (PySem.W.keepIn K (.ref (He.ga K d.x)) &&
  (decide (PySem.W.mroIn K (He.ga K d.x) (.ref (He.ga K d.x)) = some true) && (He.eqO (PySem.W.ks_superIn K (He.ga K d.x) (He.ga K d.x) "__init__") (some (some (.builtin "ValueError.__init__"))) && (He.eqO (PySem.W.nsIn K cStatics "thirdparty.any") (some none) &&
  (decide (PySem.W.mroIn K (He.ga K d.x) (.type "ValueError") = some true) && He.eqO (PySem.W.findIn K (.ref (He.ga K d.x)) "place") (some none))))))))))))
theorem xfB2_ok {file : Str} {K : PySem.W.Frag} {d : XiD} (hv : fnC K d.x = d.val) (h : xfB2 file K d = true) : ∃ oc od osl kV doc pm an cda ct cc ccl cdd vs ccs tf cl cld csl,
    K.lookup (fiA K d.x) = some ⟨oc, od, .func (PySem.W.ksFn "__init__" d.qual d.params d.body d.scope .none kV doc pm an (.ref cda) ct cc), osl⟩ ∧ PySem.W.codeIn K (.ref cda) d.qual = true ∧ K.lookup cda = some ⟨ccl, cdd, .fields vs, ccs⟩ ∧ vs[2]? = some (.str file tf) ∧
    K.lookup cc = some ⟨cl, cld, .cell (some (.ref (He.ga K d.x))), csl⟩ := by
  unfold xfB2 at h
  unfold fnC at hv
  split at h
  · rename_i oc od fd osl q
    rw [q] at hv
    obtain ⟨n1, n2, n3, n4, n5, n6, n7, n8, n9, n10, n11, n12, n13, n14, n15⟩ := fd
    have e2 : (some (n1, n2, n3, n4, n5, n6, n15) : FnC) = some (("__init__" : Str), d.qual, d.params, FuncBody.stmts d.body, d.scope, mainGlobals, builtinsNs) := hv
    simp only [Option.some.injEq, Prod.mk.injEq] at e2
    obtain ⟨h1, h2, h3, h4, h5, h6, h8⟩ := e2
    subst h1 h2 h3 h4 h5 h6 h8
    obtain ⟨k1, h⟩ := He.ba h
    obtain ⟨k2, h⟩ := He.ba h
    obtain ⟨k3, k4⟩ := He.ba h
    have k2 := nonB_ok k2
    obtain ⟨cda, e3, k5⟩ := codB_ok k3
    obtain ⟨cc, e4, k6⟩ := cloB_ok k4
    obtain ⟨ccl, cdd, vs, ccs, tf, q2, q3⟩ := filB_ok k5
    obtain ⟨cl, cld, csl, q4⟩ := cellB_ok k6
    dsimp only at k2 e3 e4 k1
    subst k2 e3 e4
    exact ⟨oc, od, osl, n9, n10, n11, n12, cda, n14, cc, ccl, cdd, vs, ccs, tf, cl, cld, csl, q, k1, q2, q3, q4⟩
  · cases h
theorem xpc_of {e : Wd} {d : XiD} {file : Str} (hv : fnC e.K d.x = d.val) (hb : xiB file e.K d = true) (hfile : ((e.P.main.file : Str) == file) = true) (htop : (e.P.main.scope.names.lookup ("super" : Str)).isSome = false) (hms : e.mg "super" = none) (g : e.mg d.x = some (.ref (He.ga e.K d.x)))
    {p0 p1 p2 p3 p4 p5 p6 p7 p8 p9 : Pos} {ar : Arg} {pl : Sem Bool} (hsc : d.scope = scI)
    (hbd : d.body = [.Expr (.Call (.Attribute (.Call (.Name "super" p0) [] [] p1) "__init__" p2) [.Name "place" p3] [] p4) p5, .Assign [.Attribute (.Name "self" p6) "place" p7] (.Name "place" p8) p9])
    (hev : ∀ (Lc fa : Addr) (cd : Value) (ce : Addr), eval (.Call (.Attribute (.Call (.Name "super" p0) [] [] p1) "__init__" p2) [.Name "place" p3] [] p4) (PySem.W.ksEnv d.qual scI Lc fa cd ce) = (do
      let ov ← attributeBase (.Call (.Name "super" p0) [] [] p1) "__init__" (PySem.W.ksEnv d.qual scI Lc fa cd ce) (eval (.Call (.Name "super" p0) [] [] p1) (PySem.W.ksEnv d.qual scI Lc fa cd ce))
      standAt p2.atName
      let (f, first) ← holding [ov] (getMethod ov "__init__" pl)
      callWith p4 f first (backTo p4 (starEach [.Name "place" p3] (PySem.W.ksEnv d.qual scI Lc fa cd ce))) []))
    (hps : (d.params.posonlyargs ++ d.params.args).head? = some ar) (har : ar.arg = "self")
    (hbi : ∀ (kV doc pm : Value) (an : Option Addr) (cdv ct : Value) (cc : Addr) (us : List Value), us.length = 2 → bindArgs (PySem.W.ksFn "__init__" d.qual d.params d.body scI .none kV doc pm an cdv ct cc) ⟨us, []⟩ = pure ((["self", "place"] : List Str).zip us)) :
    XpC e d.x (He.ga e.K d.x) := by
  obtain ⟨b0, hb⟩ := He.ba hb
  obtain ⟨b1, hb⟩ := He.ba hb
  obtain ⟨b2, hb⟩ := He.ba hb
  obtain ⟨b3, hb⟩ := He.ba hb
  obtain ⟨b4, hb⟩ := He.ba hb
  obtain ⟨b5, hb⟩ := He.ba hb
  obtain ⟨b6, hb⟩ := He.ba hb
  obtain ⟨b7, hb⟩ := He.ba hb
  obtain ⟨b8, hb⟩ := He.ba hb
  obtain ⟨b9, hb⟩ := He.ba hb
  obtain ⟨b10, hb⟩ := He.ba hb
  obtain ⟨b11, b12⟩ := He.ba hb
  obtain ⟨oc, od, osl, kV, doc, pm, an, cda, ct, cc, ccl, cdd, vs, ccs, tf, cl, cld, csl, l1, l2, l3, l4, l5⟩ := xfB2_ok hv b0
  rw [hsc] at l1
  have T : OexC e.K (He.ga e.K d.x) := ⟨oexB_ok b1, He.eqO_ok b4, of_decide_eq_true b5, of_decide_eq_true b6, b7⟩
  refine ⟨T, ⟨_, _, He.eqO_ok b2, of_decide_eq_true b3, .all (hbi kV doc pm an (.ref cda) ct cc), fun k => ?_⟩, g, He.eqO_ok b12⟩
  exact xinit_ok l1 l2 hbd hev hps har l3 l4 hfile htop l5 T (of_decide_eq_true b8) (He.eqO_ok b9) (He.eqO_ok b10) (of_decide_eq_true b11) (He.eqO_ok b12) hms
/-! ### the Hook -/
structure SaysY (file : Str) (fa : List He.Fa) (fn : List He.DefD) (tf : List He.Defn) (fx : List XiD) (ex : PySem.W.Frag → Bool) (w : World) (h : Heap) (K : PySem.W.Frag) : Prop where
  x : He.SaysX fa fn [] tf ex w h K
  xv : fx.map (fun d => fnC K d.x) = fx.map XiD.val
  xb : (fx.all fun d => xiB file K d) = true
abbrev frY (n : Nat) (g : Addr → Option Obj) : PySem.W.Frag := He.frT g (He.asD g n ++ [cStatics])
abbrev AlY : Type := (He.AlT × Bool) × List FnC
def obsY (n : Nat) (file : Str) (fa : List He.Fa) (fn : List He.DefD) (tf : List He.Defn) (fx : List XiD) (ex : PySem.W.Frag → Bool) (g : Addr → Option Obj) : AlY :=
  ((He.obsT fa fn [] (frY n g), (ex (frY n g) && He.tabsB g tf (frY n g)) && fx.all fun d => xiB file (frY n g) d), fx.map fun d => fnC (frY n g) d.x)
def valY (fn : List He.DefD) (fx : List XiD) (w : World) : AlY := ((He.valT fn [] w, true), fx.map XiD.val)
theorem saysY_of {n : Nat} {file : Str} {fa : List He.Fa} {fn : List He.DefD} {tf : List He.Defn} {fx : List XiD} {ex : PySem.W.Frag → Bool} {w : World} {h : Heap} (e : obsY n file fa fn tf fx ex h.get? = valY fn fx w) : SaysY file fa fn tf fx ex w h (frY n h.get?) := by
  have e1 : He.obsT fa fn [] (frY n h.get?) = He.valT fn [] w := congrArg (fun z : AlY => z.1.1) e
  have e2 : ((ex (frY n h.get?) && He.tabsB h.get? tf (frY n h.get?)) && fx.all fun d => xiB file (frY n h.get?) d) = true := congrArg (fun z : AlY => z.1.2) e
  have e3 : (fx.map fun d => fnC (frY n h.get?) d.x) = fx.map XiD.val := congrArg (fun z : AlY => z.2) e
  obtain ⟨h0, h3⟩ := He.ba e2
  obtain ⟨h1, h2⟩ := He.ba h0
  have key : ∀ p ∈ tf, PySem.W.codeHdIn (frY n h.get?) (He.cT (frY n h.get?) p).1 (He.cT (frY n h.get?) p).2 = true ∧ ∃ o, h.get? (He.cT (frY n h.get?) p).2 = some o ∧ He.emptyTab o = true := fun p hp => by
    obtain ⟨h4, h5⟩ := He.ba (List.all_eq_true.mp h2 p hp)
    refine ⟨h4, ?_⟩
    cases q : h.get? (He.cT (frY n h.get?) p).2 with
    | none =>
      rw [q] at h5
      cases h5
    | some o =>
      rw [q] at h5
      exact ⟨o, rfl, h5⟩
  refine ⟨⟨e1, h1, fun p hp => (key p hp).1, fun p hp => ?_, fun p hp => ?_⟩, e3, h3⟩
  · obtain ⟨_, o, q, z⟩ := key p hp
    exact He.frT_none q z
  · obtain ⟨_, o, q, z⟩ := key p hp
    rw [q, He.emptyTab_eq z]
def hookY (n : Nat) (file : Str) (fa : List He.Fa) (fn : List He.DefD) (tf : List He.Defn) (fx : List XiD) (ex : PySem.W.Frag → Bool) : PySem.W.Hook where
  α := AlY
  obs := fun s => obsY n file fa fn tf fx ex s.heap.get?
  val := fun w => valY fn fx w
  says := fun w h => ∃ K : PySem.W.Frag, K.In h ∧ SaysY file fa fn tf fx ex w h K
  of := fun _ _ e => ⟨_, He.frT_in, saysY_of e⟩
  keeps := fun _ _ _ ⟨K, hK, c⟩ k => ⟨K, PySem.W.Frag.In.keeps hK k, ⟨⟨c.x.t, c.x.more, c.x.hd, c.x.out, fun p hp => k _ _ (c.x.empty p hp)⟩, c.xv, c.xb⟩⟩
theorem obsY_eq {n : Nat} {file : Str} {fa : List He.Fa} {fn : List He.DefD} {tf : List He.Defn} {fx : List XiD} {ex : PySem.W.Frag → Bool} {g : Addr → Option Obj} {s : Shared} (h : ∀ a, g a = s.heap.get? a) : obsY n file fa fn tf fx ex g = (hookY n file fa fn tf fx ex).obs s := by
  have e : g = s.heap.get? := funext h
  rw [e] <;> rfl
theorem SaysY.xi {file : Str} {fa : List He.Fa} {fn : List He.DefD} {tf : List He.Defn} {fx : List XiD} {ex : PySem.W.Frag → Bool} {w : World} {h : Heap} {K : PySem.W.Frag} (c : SaysY file fa fn tf fx ex w h K) (i : Nat) {d : XiD} (e : fx[i]? = some d := by rfl) : fnC K d.x = d.val ∧ xiB file K d = true := by
  refine ⟨?_, List.all_eq_true.mp c.xb d (List.mem_of_getElem? e)⟩
  have q : (fx.map fun d => fnC K d.x)[i]? = (fx.map XiD.val)[i]? := by rw [c.xv]
  rw [List.getElem?_map, List.getElem?_map, e] at q
  exact Option.some.inj q
theorem xf_of_exc {K : PySem.W.Frag} {C : Addr} (h : ExcC K C) : XfC K C := ⟨h.hg, h.hk, h.hs, h.hd⟩
end Dk

/-! Further rules: while, range from a to b, texts many times, wide division, defaults, defs that call themselves. -/
namespace Dk
open PySem PySem.Spec PyProof.Rows L2
/-! ### while -/
section
variable {c : TT} {tb : TS} {D : Ends} {σ : L2.St} {H : Hp}
def wlq (W : Nat → L2.St → Hp → Prop) (tb : TS) (D : Ends) (m : Nat) (σ : L2.St) (b : Bool) (H1 : Hp) : Prop := if b = true then ∃ N : L2.St → Hp → Prop, (∀ σ' H', N σ' H' → ∃ m', m' < m ∧ W m' σ' H') ∧ tb { D with nx := N, ct := N, bk := D.nx } σ H1 else D.nx σ H1
theorem r_while (W : Nat → L2.St → Hp → Prop) (n : Nat) (h0 : W n σ H) (turn : ∀ m σ' H', W m σ' H' → c σ' H' fun b H1 => wlq W tb D m σ' b H1) : tWhile c tb D σ H := ⟨W, ⟨n, h0⟩, turn⟩
theorem r_wlq {W : Nat → L2.St → Hp → Prop} {m : Nat} {p : Prop} [Decidable p] (h1 : p → tb (Ends.mk (fun s h => ∃ m', m' < m ∧ W m' s h) D.rt D.nx (fun s h => ∃ m', m' < m ∧ W m' s h)) σ H) (h2 : ¬ p → D.nx σ H) : wlq W tb D m σ (decide p) H := by
  unfold wlq
  by_cases h : p
  · rw [if_pos (decide_eq_true h)]
    exact ⟨_, fun _ _ z => z, h1 h⟩
  · rw [if_neg (by rw [decide_eq_false h]; exact Bool.false_ne_true)]
    exact h2 h
theorem r_wlqn {W : Nat → L2.St → Hp → Prop} {m : Nat} {p : Prop} [Decidable p] (h1 : ¬ p → tb (Ends.mk (fun s h => ∃ m', m' < m ∧ W m' s h) D.rt D.nx (fun s h => ∃ m', m' < m ∧ W m' s h)) σ H) (h2 : p → D.nx σ H) : wlq W tb D m σ (!decide p) H := by
  unfold wlq
  by_cases h : p
  · rw [if_neg (by rw [decide_eq_true h]; exact Bool.false_ne_true)]
    exact h2 h
  · rw [if_pos (by rw [decide_eq_false h] <;> rfl)]
    exact ⟨_, fun _ _ z => z, h1 h⟩
end
section
variable {p A B : Prop} [Decidable p]
theorem r_decT (h : p) (q : A) : if decide p = true then A else B := by
  rw [if_pos (decide_eq_true h)]
  exact q
theorem r_decF (h : ¬ p) (q : B) : if decide p = true then A else B := by
  rw [if_neg (by rw [decide_eq_false h]; exact Bool.false_ne_true)]
  exact q
theorem r_decnT (h : ¬ p) (q : A) : if (!decide p) = true then A else B := by
  rw [if_pos (by rw [decide_eq_false h] <;> rfl)]
  exact q
theorem r_decnF (h : p) (q : B) : if (!decide p) = true then A else B := by
  rw [if_neg (by rw [decide_eq_true h]; exact Bool.false_ne_true)]
  exact q
end
/-! ### for j in range(a, b) -/
section
variable {tA : TA} {g : TG} {tb : TS} {D : Ends} {σ : L2.St} {H : Hp} {j : Nat}
def rfq2 (xs : List V) (g : TG) (tb : TS) (D : Ends) (σ : L2.St) (H : Hp) : Prop := tFor (iRng2 fun _ H1 QA => QA xs H1) g tb D σ H
theorem r_forr2 (q : tA σ H fun xs H1 => rfq2 xs g tb D σ H1) : tFor (iRng2 tA) g tb D σ H := q
theorem for_rng2 {a b : Int} (Pv : Nat → L2.St → Hp → Prop) (h1 : -(2 ^ 62) ≤ a) (h2 : a < 2 ^ 62) (h3 : -(2 ^ 62) ≤ b) (h4 : b < 2 ^ 62) (h0 : Pv 0 σ H)
    (hs : ∀ (i : Nat) σ' H', a + (i : Int) < b → Pv i σ' H' → tb (Ends.mk (Pv (i + 1)) D.rt D.nx (Pv (i + 1))) (σ'.set j (some (.int (a + (i : Int))))) H') (hd : ∀ σ' H', Pv (b - a).toNat σ' H' → D.nx σ' H') : rfq2 [.int a, .int b] (gName j) tb D σ H := by
  refine ⟨a, b, rfl, ⟨h1, h2, h3, h4⟩, for_range (lo := a) (n := (b - a).toNat) Pv h0 (fun i σ' H' hi hp => hs i σ' H' (by omega) hp) hd⟩
end
/-! ### a text some times; a list, an int -/
section
variable {X : Cx} {K : PySem.W.Frag} {H : Hp} {Q : VK}
theorem op_mul_str : OpR X (binaryOp .Mult) (fun x y H Q => ∃ (z : Str) (n : Int), x = .str z ∧ y = .int n ∧ 0 < n ∧ n ≤ 1000 ∧ 0 < z.length ∧ z.length ≤ 1000 ∧ Q (.str (Txt.mul z n)) H) := by
  intro pins s σ H x y v u Q I rx ry ⟨z, n, ex, ey, n0, n1, z0, z1, q⟩
  subst ex ey
  obtain ⟨tz, rfl⟩ := rx
  obtain ⟨tn, rfl⟩ := ry
  refine SB.mul ⟨?_, fun h1 h2 => ?_, fun h1 h2 => ?_⟩ fun t' k => ⟨.str (Txt.mul z n), H, I.kept (t' := k) fun _ _ e => e, ⟨t', rfl⟩, q⟩
  · have a1 : ¬ n < -(2 ^ 63 : Int) := by omega
    have a2 : ¬ n ≥ 2 ^ 63 := by omega
    simp only [a1, a2, decide_false, Bool.or_false]
  · have a3 : (1000 : Int) ≤ (2 ^ 63 - 1) / n := by
      refine Int.le_ediv_of_mul_le n0 ?_
      omega
    omega
  · have a4 : z.length * n.toNat ≤ 1000 * 1000 := Nat.mul_le_mul z1 (by omega)
    unfold Builtin.Str.tooLong
    have := sizeLine_eq
    simp only [decide_eq_false_iff_not]
    omega
/-- a * b, texts too -/
def uMulS : R2 := fun x y H Q => match x, y with
  | .int i, .int j => CMul i j ∧ Q (.int (i * j)) H
  | .ref a, .int j => rRep (.ref a) (.int j) H Q
  | .str z, .int n => (0 < n ∧ n ≤ 1000) ∧ (0 < z.length ∧ z.length ≤ 1000) ∧ Q (.str (Txt.mul z n)) H
  | _, _ => False
theorem op_mulS : OpR X (binaryOp .Mult) uMulS := by
  refine opw (op_mulU.or op_mul_str) fun x y H Q h => ?_
  cases x <;> cases y <;> first
    | exact .inl h
    | exact .inr ⟨_, _, rfl, rfl, h.1.1, h.1.2, h.2.1.1, h.2.1.2, h.2.2⟩
    | exact False.elim h
theorem r_mulSI {n m : Int} (h : CMul n m) (q : Q (.int (n * m)) H) : uMulS (.int n) (.int m) H Q := ⟨h, q⟩
theorem r_mulSS {z : Str} {n : Int} (h : 0 < n ∧ n ≤ 1000) (h2 : 0 < z.length ∧ z.length ≤ 1000) (q : Q (.str (Txt.mul z n)) H) : uMulS (.str z) (.int n) H Q := ⟨h, h2, q⟩
theorem r_mulSL {a : Addr} {n : Int} {xs : List V} (ha : H a = some (.lst xs)) (h0 : -(2 ^ 63) ≤ n) (h1 : n < 2 ^ 63) (hl : xs.length * n.toNat ≤ sizeLine) (k : ∀ p H', H p = none → Same H H' → H' p = some (.lst (List.replicate n.toNat xs).flatten) → Q (.ref p) H') : uMulS (.ref a) (.int n) H Q :=
  r_mulL ha h0 h1 hl k
/-! a // b, wide -/
abbrev uDivW : R2 := uI CDivW fun i j => .int (i / j)
theorem op_divW : OpR X (binaryOp .FloorDiv) uDivW := uI_w op_fdivW
theorem cdivW {i j : Int} (h0 : 0 < j) (h1 : j < 2 ^ 80) : CDivW i j := by
  refine ⟨h0, ?_⟩
  have h2 : j.natAbs < 2 ^ 80 := by omega
  have h3 := (Nat.log2_lt (by omega)).mpr h2
  omega
theorem r_neB {n m : Bool} (q : Q (.bl (!decide (n = m))) H) : uNe K (.bl n) (.bl m) H Q := .inl ⟨rfl, by
  have e : decide (V.bl n = V.bl m) = decide (n = m) := by cases n <;> cases m <;> decide
  rw [e]
  exact q⟩
theorem r_eqBB {n m : Bool} (q : Q (.bl (decide (n = m))) H) : uEq K (.bl n) (.bl m) H Q := .inl ⟨rfl, by
  have e : decide (V.bl n = V.bl m) = decide (n = m) := by cases n <;> cases m <;> decide
  rw [e]
  exact q⟩
theorem r_ext {l b : Addr} {xs zs : List V} (h : H l = some (.lst xs)) (h2 : H b = some (.lst zs)) (hl : xs.length + zs.length ≤ sizeLine) (k : ∀ H', H' l = some (.lst (xs ++ zs)) → (∀ c, c ≠ l → H' c = H c) → Q .non H') : rExtend (.ref l) [.ref b] H Q :=
  ⟨l, b, xs, zs, rfl, rfl, h, h2, hl, k _ upd_same fun b hb => upd_ne hb⟩
/-- x >>= 7 -/
def ipShr : V → V → Hp → VK → Prop := fun x y H Q => ∃ i j : Int, x = .int i ∧ y = .int j ∧ 0 ≤ j ∧ Q (.int (i / 2 ^ j.toNat)) H
theorem ip_shrU : PIp X .RShift ipShr := by
  intro pins s σ H x y v u Q I r1 r2 h
  obtain ⟨i, j, e1, e2, h0, q⟩ := h
  exact iop_shr pins s σ H x y v u Q I r1 r2 ⟨i, j, e1, e2, h0, q⟩
theorem r_augShr {σ : L2.St} {D : Ends} {te : TE} {i : Nat} {n : Int} (h : σ[i]? = some (some (.int n))) (q : te σ H fun y H1 => iq y fun m => 0 ≤ m ∧ D.nx (σ.set i (some (.int (n / 2 ^ m.toNat)))) H1) : tAug i te ipShr D σ H := by
  refine ⟨_, h, ?_⟩
  have e : (fun y H1 => iq y fun m => 0 ≤ m ∧ D.nx (σ.set i (some (.int (n / 2 ^ m.toNat)))) H1) = fun y H1 => ipShr (.int n) y H1 fun z H2 => D.nx (σ.set i (some z)) H2 := by
    funext y H1
    refine propext ⟨fun ⟨m, e, h0, q⟩ => ⟨n, m, rfl, e, h0, q⟩, fun ⟨a, b, e1, e2, h0, q⟩ => ⟨b, e2, h0, ?_⟩⟩
    cases e1
    exact q
  rw [← e]
  exact q
def ordq (xs : List V) (H : Hp) (Q : VK) : Prop := ∃ x, xs = [.str x] ∧ x.length = 1 ∧ Q (.int (x.cps.getD 0 0 : Nat)) H
theorem call_ordU : CallR X (.builtin "ord") ordq := call_ord
theorem r_ord {c : Nat} (q : Q (.int (c : Nat)) H) : ordq [.str ⟨#[c]⟩] H Q := ⟨_, rfl, rfl, q⟩
/-! tuple(range(n)) -/
def rgq (b : Int) (H1 : Hp) (Q : VK) : Prop := RgOk 0 b ∧ ∀ q, H1 q = none → Q (.ref q) (upd H1 q (.tup (rgV 0 b)))
theorem r_tupRg {ta : TE} {σ : L2.St} (q : ta σ H fun x H1 => iq x fun n => rgq n H1 Q) : tTupRg (tRg1 ta) σ H Q := q
theorem r_rgq {n : Int} (h0 : 0 ≤ n) (h1 : n ≤ 1000000) (k : ∀ p H', H p = none → Same H H' → H' p = some (.tup (rgV 0 n)) → Q (.ref p) H') : rgq n H Q := ⟨RgOk.of_le (by decide) (by omega) (by decide) h0, r_new0 k⟩
end
/-! ### a def with defaults -/
structure CanD (e : Wd) (k : Nat) (x : Str) (ps : List Str) (dvs : List V) (sp : Sp) : Prop where
  can : Can e k x ps sp
  dfl : ∃ f fd, FnOk e.P e.w e.K e.mg e.base (L2.CX e.P e.w) k f fd ps sp ∧ e.mg x = some (.ref f) ∧ PySem.W.keepIn e.K (.ref f) = true ∧ ∃ ds, Vals dvs ds ∧ Binds e.K fd ps ds
def DefAtD (e : Wd) (x : Str) (st : Stmt) (dvs : List V) : Prop := ∃ f fd, FunD e.K x x (defArgs st) (defBody st) (defScope st) dvs [] f fd ∧ e.mg x = some (.ref f)
section
variable {e : Wd} {x : Str} {st : Stmt} {N ps : List Str} {k : Nat} {sp : Sp} {dvs : List V}
/-- all given; those with a default lacking -/
abbrev BindOkA (x : Str) (st : Stmt) (ps : List Str) (m : Nat) : Prop := ∀ (T : Addr) (kV doc pm : Value) (an : Option Addr) (cdv ct : Value) (us its : List Value), us.length = ps.length → its.length = m →
  ∃ k, bindArgs (PySem.W.fnOf x x (defArgs st) (defBody st) (defScope st) (.ref T) kV doc pm an cdv ct) ⟨us, []⟩ = seqItems? (.ref T) >>= k ∧ k (some its.toArray) = pure (ps.zip us)
abbrev BindOkD (x : Str) (st : Stmt) (ps : List Str) (n m : Nat) : Prop := ∀ (T : Addr) (kV doc pm : Value) (an : Option Addr) (cdv ct : Value) (us its : List Value), us.length = n → its.length = m →
  ∃ k, bindArgs (PySem.W.fnOf x x (defArgs st) (defBody st) (defScope st) (.ref T) kV doc pm an cdv ct) ⟨us, []⟩ = seqItems? (.ref T) >>= k ∧ k (some its.toArray) = pure (ps.zip (us ++ its))
theorem fnokD {f : Addr} {fd : FuncData} (F : FunD e.K x x (defArgs st) (defBody st) (defScope st) dvs [] f fd) (S : FnScope N ps (defScope st)) (len : ∀ vs H Q E, sp vs H Q E → vs.length = ps.length) (hb : BodyX e x st N k sp) : FnOk e.P e.w e.K e.mg e.base (L2.CX e.P e.w) (k + 1) f fd ps sp := by
  obtain ⟨oc, od, dV, kV, doc, pm, an, cdv, ct, osl, rfl, lk, hcd, _, _⟩ := F.ex
  exact fn_of lk hcd S len fun A outer s H vs Q E hr h => hb cdv f A outer s H vs Q E hr h (takes_of rfl rfl rfl rfl) (passes_of rfl)
theorem canXD_of {n : Nat} (D : DefAtD e x st dvs) (S : FnScope N ps (defScope st)) (B1 : BindOkA x st ps dvs.length) (B2 : BindOkD x st ps n dvs.length) (hd : dvs ≠ []) (hn : n + dvs.length = ps.length) (len : ∀ vs H Q E, sp vs H Q E → vs.length = ps.length) (hb : BodyX e x st N k sp) : CanD e (k + 1) x ps dvs sp := by
  obtain ⟨f, fd, F, m⟩ := D
  have ok := fnokD F S len hb
  obtain ⟨ds, hv, bd⟩ := F.binds1 (ps := ps) n 0 hd (by omega) (fun T kV doc pm an cdv ct us its h1 h2 => by
    obtain ⟨k, e1, e2⟩ := B2 T kV doc pm an cdv ct us its h1 h2
    exact ⟨k, e1, by rw [List.drop_zero]; exact e2⟩)
  rw [List.drop_zero] at hv
  obtain ⟨es, hv2, bd2⟩ := F.binds1 (ps := ps) ps.length dvs.length hd (by omega) (fun T kV doc pm an cdv ct us its h1 h2 => by
    obtain ⟨k, e1, e2⟩ := B1 T kV doc pm an cdv ct us its h1 h2
    refine ⟨k, e1, ?_⟩
    rw [List.drop_eq_nil_of_le (by omega), List.append_nil]
    exact e2)
  rw [List.drop_eq_nil_of_le (Nat.le_refl _)] at hv2
  cases hv2
  exact ⟨⟨f, fd, ok, m, F.kp, bd2⟩, f, fd, ok, m, F.kp, ds, hv, bd⟩
end
def tCallD (sp : Sp) (dvs : List V) (E : XK) (t : TA) : TE := fun σ H Q => t σ H fun vs H1 => sp (vs ++ dvs) H1 Q E
theorem pe_canD {X : Cx} {k : Nat} {x : Str} {ps : List Str} {dvs : List V} {sp : Sp} {E : XK} {p pos : Pos} {e : Expr} {es : List Expr} {t : TA} (c : CanD (wdOf X) k x ps dvs sp) (hr : Room k X.A) (hx : Passes (L2.CX X.prog X.w) X E) (ha : PA X (e :: es) t) (hg : Gl X x := by rfl)
    (hdb : (x == ("__debug__" : Str)) = false := by decide) (he : starEach (e :: es) X.env = (false, eval e X.env) :: starEach es X.env := by rfl) (hpl : (backTo pos (starEach es X.env)).any (·.1) = false := by rfl) : PE X (.Call (.Name x p) (e :: es) [] pos) (tCallD sp dvs E t) := by
  obtain ⟨_, f, fd, F, m, kp, ds, hv, b⟩ := c
  exact pe_call F hr hg m kp b hv hx ha hdb he hpl
/-- one argument given, one lacking -/
theorem r_callD1 {sp : Sp} {d : V} {E : XK} {ta : TE} {σ : L2.St} {H : Hp} {Q : VK} (q : ta σ H fun x H1 => sp [x, d] H1 Q E) : tCallD sp [d] E (tCons ta tNil) σ H Q := q
/-! ### a def that calls itself: a start -/
def spNo : Sp := fun _ _ _ _ => False
theorem can_no {e : Wd} {x : Str} {st : Stmt} {ps : List Str} {k : Nat} {sp : Sp} (D : DefAt e x st) (B : BindOk x st ps) (h : ∀ vs H Q E, ¬ sp vs H Q E) : Can e k x ps sp := by
  obtain ⟨f, fd, F, m⟩ := D
  exact ⟨f, fd, ⟨fun vs H Q E z => (h vs H Q E z).elim, fun A outer s H args us vs Q E hr e0 hb r z => (h vs H Q E z).elim⟩, m, F.kp, F.bindsN B⟩
end Dk

/-! Addresses: what the program's tests tell, on lists of codes. -/
namespace Dk
open PySem PySem.Spec PyProof.Rows L2 TL
theorem occ_one (c : Nat) (s : Str) : occ ⟨#[c]⟩ s = decide (c ∈ tl s) := StrLaws.found_one s c
theorem tl_inj {a b : Str} (h : tl a = tl b) : a = b := by
  obtain ⟨x⟩ := a
  obtain ⟨y⟩ := b
  have h : x.toList = y.toList := h
  rw [Array.toList_inj.mp h]
/-! ### case -/
def lowC (c : Nat) : Nat := if 65 ≤ c ∧ c ≤ 90 then c + 32 else c
def upC (c : Nat) : Nat := if 97 ≤ c ∧ c ≤ 122 then c - 32 else c
theorem low_ascii : ∀ c < 128, Unicode.lowerOf c = [lowC c] := by decide +kernel
theorem up_ascii : ∀ c < 128, Unicode.upperOf c = [upC c] := by decide +kernel
theorem low_up : ∀ c < 128, lowC (upC c) = lowC c := by decide +kernel
theorem placed_map {x : Str} {f : Nat → Nat → List Nat} {g : Nat → Nat} (h : ∀ i c, (tl x)[i]? = some c → f i c = [g c]) : (placed x f).toList = (tl x).map g := by
  unfold placed
  rw [Array.toList_flatten, Array.toList_mapIdx]
  have key : ∀ (l : List Nat) (k : Nat), (∀ i c, l[i]? = some c → f (k + i) c = [g c]) → ((l.mapIdx fun i c => (f (k + i) c).toArray).map Array.toList).flatten = l.map g := by
    intro l
    induction l with
    | nil => intro k _; rfl
    | cons c r ih =>
      intro k h
      have h0 := h 0 c rfl
      have hr := ih (k + 1) fun i d e => by
        have := h (i + 1) d (by simpa using e)
        rw [show k + 1 + i = k + (i + 1) by omega]
        exact this
      rw [List.mapIdx_cons, List.map_cons, List.flatten_cons, List.map_cons]
      have e : (fun i c => (f (k + (i + 1)) c).toArray) = fun i c => (f (k + 1 + i) c).toArray := by
        funext i c
        rw [show k + 1 + i = k + (i + 1) by omega]
      rw [e, hr, Nat.add_zero] at *
      rw [h0]
      rfl
  have k0 := key (tl x) 0 fun i c e => by
    rw [Nat.zero_add]
    exact h i c e
  simp only [Nat.zero_add] at k0
  exact k0
theorem tl_lower {x : Str} (h : ∀ c ∈ tl x, c < 128) : tl (Txt.lower x) = (tl x).map lowC := by
  refine placed_map fun i c e => ?_
  have hc := h c (List.mem_of_getElem? e)
  show Unicode.lowerAt x.cps i = _
  unfold Unicode.lowerAt
  have e2 : x.cps[i]? = some c := by rw [← Array.getElem?_toList]; exact e
  rw [e2]
  have n : (c == 0x3A3) = false := by
    rw [beq_eq_false_iff_ne]
    omega
  show (if (c == 0x3A3 && _) = true then _ else _) = _
  rw [n, Bool.false_and, if_neg Bool.false_ne_true]
  exact low_ascii c hc
theorem upper_one {c : Nat} (h : c < 128) : Txt.upper ⟨#[c]⟩ = ⟨#[upC c]⟩ := by
  have e := placed_map (x := ⟨#[c]⟩) (f := fun _ c => Unicode.upperOf c) (g := upC) fun i d e => by
    have : d = c := by
      have := List.mem_of_getElem? e
      simpa [tl] using this
    rw [this]
    exact up_ascii c h
  exact tl_inj e
theorem join_chars (zs : List Nat) : tl (Txt.join (Str.ofString "") (zs.map fun c => (⟨#[c]⟩ : Str))) = zs := by
  rw [tl_join0, List.map_map]
  induction zs with
  | nil => rfl
  | cons c r ih => rw [List.map_cons, List.flatten_cons, ih] <;> rfl
/-! ### first, last sign -/
theorem starts_one (s : Str) (c : Nat) : Txt.startswith s ⟨#[c]⟩ = decide ((tl s).head? = some c) := by
  rw [starts_iff]
  have e : tl (⟨#[c]⟩ : Str) = [c] := rfl
  rw [e]
  cases h : tl s with
  | nil => simp
  | cons d r =>
    by_cases q : d = c
    · simp [q]
    · have : ¬ (d :: r).head? = some c := by simpa using q
      rw [decide_eq_false this]
      simpa using q
theorem ends_one (s : Str) (c : Nat) : Txt.endswith s ⟨#[c]⟩ = decide ((tl s).getLast? = some c) := by
  unfold Txt.endswith
  have e1 : (⟨#[c]⟩ : Str).length = 1 := rfl
  have hl := len_tl s
  rw [e1, StrLaws.subAt_eq, e1]
  have e2 : (⟨#[c]⟩ : Str).cps.toList = [c] := rfl
  rw [e2]
  show (decide (1 ≤ s.length) && ((tl s).drop (s.length - 1)).take 1 == [c]) = _
  rw [List.getLast?_eq_getElem?, Bool.eq_iff_iff, Bool.and_eq_true, decide_eq_true_iff, decide_eq_true_iff, StrLaws.take1_drop, hl]
  constructor
  · exact fun h => h.2
  · intro h
    exact ⟨by have := (List.getElem?_eq_some_iff.mp h).1; omega, h⟩
/-! ### two dots -/
def dd : List Nat → Bool
  | [] => false
  | c :: r => (decide (c = 46) && decide (r.head? = some 46)) || dd r
theorem dd_iff : ∀ l : List Nat, dd l = true ↔ ∃ i : Nat, l[i]? = some 46 ∧ l[i + 1]? = some 46
  | [] => by simp [dd]
  | c :: r => by
    unfold dd
    rw [Bool.or_eq_true, Bool.and_eq_true, decide_eq_true_iff, decide_eq_true_iff, dd_iff r]
    constructor
    · rintro (⟨h1, h2⟩ | ⟨i, h1, h2⟩)
      · refine ⟨0, by simp [h1], ?_⟩
        rw [List.head?_eq_getElem?] at h2
        simpa using h2
      · exact ⟨i + 1, by simpa using h1, by simpa using h2⟩
    · rintro ⟨i, h1, h2⟩
      cases i with
      | zero =>
        left
        refine ⟨by simpa using h1, ?_⟩
        rw [List.head?_eq_getElem?]
        simpa using h2
      | succ i => exact .inr ⟨i, by simpa using h1, by simpa using h2⟩
theorem take2_drop {l : List Nat} {i : Nat} : ((l.drop i).take 2 == [46, 46]) = true ↔ l[i]? = some 46 ∧ l[i + 1]? = some 46 := by
  have e0 : (l.drop i)[0]? = l[i]? := by rw [List.getElem?_drop, Nat.add_zero]
  have e1 : (l.drop i)[1]? = l[i + 1]? := by rw [List.getElem?_drop]
  rw [← e0, ← e1, beq_iff_eq]
  cases l.drop i with
  | nil => simp
  | cons a r =>
    cases r with
    | nil => simp
    | cons b r => simp
theorem ddS_eq : Str.ofString ".." = ⟨#[46, 46]⟩ := by decide +kernel
theorem occ_dd (t : Str) : occ (Str.ofString "..") t = dd (tl t) := by
  rw [ddS_eq, Bool.eq_iff_iff, dd_iff]
  unfold occ
  rw [StrLaws.found_iff]
  have hl := len_tl t
  have e : (⟨#[46, 46]⟩ : Str).length = 2 := rfl
  constructor
  · rintro ⟨i, h1, h2⟩
    rw [StrLaws.subAt_eq, e] at h2
    exact ⟨i, take2_drop.mp h2⟩
  · rintro ⟨i, h⟩
    have hi := (List.getElem?_eq_some_iff.mp h.2).1
    refine ⟨i, by rw [e]; omega, ?_⟩
    rw [StrLaws.subAt_eq, e]
    exact take2_drop.mpr h
theorem okL_eq {S : List Nat} (hS : 46 ∉ S) : ∀ (l : List Nat) (p : Bool), okL S p l = (l.all (fun c => decide (c ∈ 46 :: S)) && (!(p && decide (l.head? = some 46)) && !dd l))
  | [], p => by cases p <;> rfl
  | c :: r, p => by
    unfold okL dd
    rw [List.all_cons, List.head?_cons]
    by_cases e : c = 46
    · subst e
      rw [if_pos rfl, okL_eq hS r true]
      have e1 : decide (46 ∈ 46 :: S) = true := decide_eq_true List.mem_cons_self
      have e2 : decide (some (46 : Nat) = some 46) = true := decide_eq_true rfl
      have e3 : decide ((46 : Nat) = 46) = true := decide_eq_true rfl
      rw [e1, e2, e3]
      cases p <;> cases (r.all fun c => decide (c ∈ 46 :: S)) <;> cases decide (r.head? = some 46) <;> cases dd r <;> rfl
    · rw [if_neg e, okL_eq hS r false]
      have e1 : decide (c ∈ 46 :: S) = decide (c ∈ S) := by
        rw [Bool.eq_iff_iff, decide_eq_true_iff, decide_eq_true_iff, List.mem_cons]
        exact ⟨fun h => h.resolve_left e, .inr⟩
      have e2 : decide (some c = some 46) = false := decide_eq_false fun h => e (Option.some.inj h)
      rw [e1, e2, decide_eq_false e]
      cases p <;> cases decide (c ∈ S) <;> cases (r.all fun c => decide (c ∈ 46 :: S)) <;> cases decide (r.head? = some 46) <;> cases dd r <;> rfl
/-! ### local parts, labels, domains -/
abbrev locS : Str := Str.ofString "abcdefghijklmnopqrstuvwxyz0123456789.-_+"
abbrev labS : Str := Str.ofString "abcdefghijklmnopqrstuvwxyz0123456789-"
theorem locS_mem (c : Nat) : c ∈ tl locS ↔ c ∈ 46 :: tl lEnds := by
  have h1 : ∀ c ∈ tl locS, c ∈ 46 :: tl lEnds := by decide +kernel
  have h2 : ∀ c ∈ 46 :: tl lEnds, c ∈ tl locS := by decide +kernel
  exact ⟨h1 c, h2 c⟩
theorem labS_mem (c : Nat) : c ∈ tl labS ↔ c ∈ 45 :: tl dEnds := by
  have h1 : ∀ c ∈ tl labS, c ∈ 45 :: tl dEnds := by decide +kernel
  have h2 : ∀ c ∈ 45 :: tl dEnds, c ∈ tl labS := by decide +kernel
  exact ⟨h1 c, h2 c⟩
def locB (l : List Nat) : Bool := decide (1 ≤ l.length) && decide (l.length ≤ 40) && l.all (fun c => decide (c ∈ tl locS)) && !decide (l.head? = some 46) && !decide (l.getLast? = some 46) && !dd l
def labB (l : List Nat) : Bool := decide (1 ≤ l.length) && decide (l.length ≤ 20) && l.all (fun c => decide (c ∈ tl labS)) && !decide (l.head? = some 45) && !decide (l.getLast? = some 45)
def domB (t : Str) : Bool := decide (t.length ≤ 80) && (Txt.split t (Str.ofString ".")).all fun p => labB (tl p)
theorem Loc1.b {l : List Nat} (h : Loc1 (tl lEnds) l) : locB l = true := by
  have ok := h.ok
  rw [okL_eq lEnds_dot, Bool.and_eq_true, Bool.and_eq_true, Bool.true_and] at ok
  obtain ⟨h1, h2, h3⟩ := ok
  unfold locB
  have e : l.all (fun c => decide (c ∈ tl locS)) = true := by
    rw [List.all_eq_true] at h1 ⊢
    exact fun c hc => decide_eq_true ((locS_mem c).mpr (of_decide_eq_true (h1 c hc)))
  rw [decide_eq_true h.lo, decide_eq_true h.hi, e, h2, decide_eq_false h.last, h3] <;> rfl
theorem Lab.b {l : List Nat} (h : Lab l) : labB l = true := by
  unfold labB
  have e : l.all (fun c => decide (c ∈ tl labS)) = true := by
    rw [List.all_eq_true]
    exact fun c hc => decide_eq_true ((labS_mem c).mpr (h.sg c hc))
  rw [decide_eq_true (Nat.le_trans (by decide) h.lo), decide_eq_true (Nat.le_trans h.hi (by decide)), e, decide_eq_false h.fst, decide_eq_false h.lst] <;> rfl
theorem hy_eq : Str.ofString "-" = ⟨#[45]⟩ := by decide +kernel
theorem lt_eq : Str.ofString "<" = ⟨#[60]⟩ := by decide +kernel
theorem gt_eq : Str.ofString ">" = ⟨#[62]⟩ := by decide +kernel
theorem starts_dotA (s : Str) : Txt.startswith s (Str.ofString ".") = decide ((tl s).head? = some 46) := by rw [dot_eq, starts_one]
theorem ends_dotA (s : Str) : Txt.endswith s (Str.ofString ".") = decide ((tl s).getLast? = some 46) := by rw [dot_eq, ends_one]
theorem starts_hyA (s : Str) : Txt.startswith s (Str.ofString "-") = decide ((tl s).head? = some 45) := by rw [hy_eq, starts_one]
theorem ends_hyA (s : Str) : Txt.endswith s (Str.ofString "-") = decide ((tl s).getLast? = some 45) := by rw [hy_eq, ends_one]
theorem starts_lt (s : Str) : Txt.startswith s (Str.ofString "<") = decide ((tl s).head? = some 60) := by rw [lt_eq, starts_one]
theorem ends_gt (s : Str) : Txt.endswith s (Str.ofString ">") = decide ((tl s).getLast? = some 62) := by rw [gt_eq, ends_one]
theorem e_iff (t : Str) : t = Str.ofString "" ↔ t.length = 0 := by
  constructor
  · intro h
    rw [h]
    decide +kernel
  · intro h
    refine tl_inj ?_
    have e : tl (Str.ofString "") = [] := by decide +kernel
    rw [e]
    rw [len_tl] at h
    exact List.length_eq_zero_iff.mp h
/-! ### splits at one sign -/
theorem split_one (t : Str) (c : Nat) (hc : c < 128) : (Txt.split t ⟨#[c]⟩).map tl = spl [c] 0 [] (tl t) := by
  refine split_spl t ⟨#[c]⟩ (by show [c] ≠ []; simp) ?_
  have e : Builtin.Str.strKind (⟨#[c]⟩ : Str) = 1 := by
    unfold Builtin.Str.strKind
    have : (⟨#[c]⟩ : Str).cps.all (· < 256) = true := by
      show (#[c] : Array Nat).all (· < 256) = true
      simp
      omega
    rw [if_pos this]
  rw [e]
  have : 1 ≤ Builtin.Str.strKind t := by
    unfold Builtin.Str.strKind
    repeat' split
    all_goals decide
  omega
theorem spl_free {c : Nat} : ∀ {l acc : List Nat}, c ∉ l → spl [c] 0 acc l = [acc ++ l]
  | [], acc, _ => by simp [spl]
  | d :: r, acc, h => by
    have hd : ¬ d = c := fun e => h (e ▸ List.mem_cons_self)
    have hp : ¬ pre [c] (d :: r) = true := by
      unfold pre
      simp [hd]
    rw [spl, if_neg hp, spl_free (fun z => h (List.mem_cons_of_mem _ z))]
    simp
theorem spl_cons {c : Nat} {r : List Nat} : ∀ {l acc : List Nat}, c ∉ l → spl [c] 0 acc (l ++ c :: r) = (acc ++ l) :: spl [c] 0 [] r
  | [], acc, _ => by
    have hp : pre [c] (c :: r) = true := by
      unfold pre
      simp
    rw [List.nil_append, spl, if_pos hp, List.append_nil] <;> rfl
  | d :: l, acc, h => by
    have hd : ¬ d = c := fun e => h (e ▸ List.mem_cons_self)
    have hp : ¬ pre [c] (d :: (l ++ c :: r)) = true := by
      unfold pre
      simp [hd]
    rw [List.cons_append, spl, if_neg hp, spl_cons (fun z => h (List.mem_cons_of_mem _ z))]
    simp
theorem spl_join {c : Nat} : ∀ {ls : List (List Nat)}, ls ≠ [] → (∀ w ∈ ls, c ∉ w) → spl [c] 0 [] (joinL [c] ls) = ls
  | [], h, _ => absurd rfl h
  | [w], _, h => by
    show spl [c] 0 [] w = [w]
    rw [spl_free (h w List.mem_cons_self), List.nil_append]
  | w :: v :: r, _, h => by
    show spl [c] 0 [] (w ++ ([c] ++ joinL [c] (v :: r))) = w :: v :: r
    rw [List.singleton_append, spl_cons (h w List.mem_cons_self), List.nil_append, spl_join (by simp) fun w hw => h w (List.mem_cons_of_mem _ hw)]
theorem Dom.split {t : Str} (h : Dom (tl t)) : ∃ ls : List (List Nat), (Txt.split t (Str.ofString ".")).map tl = ls ∧ ∀ w ∈ ls, Lab w := by
  obtain ⟨ls, e, h1, h2, h3⟩ := h.ex
  refine ⟨ls, ?_, h3⟩
  rw [dot_eq, split_one t 46 (by decide), e]
  refine spl_join (by intro z; rw [z] at h1; simp at h1) fun w hw z => ?_
  have : ¬ (46 : Nat) ∈ 45 :: tl dEnds := by decide +kernel
  exact this ((h3 w hw).sg 46 z)
theorem all_tl {ss : List Str} {p : List Nat → Bool} : (ss.all fun s => p (tl s)) = (ss.map tl).all p := by
  rw [List.all_map]
  rfl
theorem Dom.b {t : Str} (h : Dom (tl t)) : domB t = true := by
  obtain ⟨ls, e, hl⟩ := h.split
  unfold domB
  rw [all_tl, e, decide_eq_true (Nat.le_trans h.len (by decide)), Bool.true_and, List.all_eq_true]
  exact fun w hw => (hl w hw).b
/-- a dot at the end -/
theorem dom_dot (t : Str) : domB (t ++ Str.ofString ".") = false := by
  have key : ∀ l acc : List Nat, [] ∈ spl [46] 0 acc (l ++ [46]) := by
    intro l
    induction l with
    | nil =>
      intro acc
      show [] ∈ spl [46] 0 acc ([] ++ 46 :: [])
      rw [spl_cons (by simp)]
      simp [spl]
    | cons d r ih =>
      intro acc
      rw [List.cons_append, spl]
      split
      · rename_i hp
        exact List.mem_cons_of_mem _ (ih _)
      · exact ih _
  unfold domB
  rw [Bool.and_eq_false_iff]
  right
  rw [all_tl, dot_eq, split_one _ 46 (by decide), tl_append, List.all_eq_false]
  exact ⟨[], key _ _, by decide⟩
/-! ### addresses -/
def addrP : List Str → Option (Str × Str)
  | [a, b] => if (locB (tl a) && domB b) = true then some (a, b) else none
  | _ => none
def addrM (t : Str) : Option (Str × Str) := addrP (Txt.split (Txt.lower t) (Str.ofString "@"))
theorem addrP_ne {ps : List Str} (h : ps.length ≠ 2) : addrP ps = none := by
  match ps, h with
  | [], _ => rfl
  | [_], _ => rfl
  | [_, _], h => exact absurd rfl h
  | _ :: _ :: _ :: _, _ => rfl
theorem two_of {ps : List Str} (h : ps.length = 2) : ∃ a b, ps = [a, b] := by
  match ps, h with
  | [a, b], _ => exact ⟨a, b, rfl⟩
theorem lowC_id {l : List Nat} (h : ∀ c ∈ l, ¬ (65 ≤ c ∧ c ≤ 90)) : l.map lowC = l := by
  induction l with
  | nil => rfl
  | cons c r ih =>
    rw [List.map_cons, ih fun c hc => h c (List.mem_cons_of_mem _ hc)]
    unfold lowC
    rw [if_neg (h c List.mem_cons_self)]
theorem at_eq : Str.ofString "@" = ⟨#[64]⟩ := by decide +kernel
theorem Loc1.sg {l : List Nat} (h : Loc1 (tl lEnds) l) : ∀ c ∈ l, c ∈ tl locS := fun c hc => by
  have ok := h.ok
  rw [okL_eq lEnds_dot, Bool.and_eq_true] at ok
  exact (locS_mem c).mpr (of_decide_eq_true (List.all_eq_true.mp ok.1 c hc))
theorem joinL_memA {S : List Nat} {c : Nat} : ∀ {ls : List (List Nat)}, c ∈ joinL S ls → c ∈ S ∨ ∃ w ∈ ls, c ∈ w
  | [], h => by simp [joinL] at h
  | [w], h => .inr ⟨w, List.mem_cons_self, h⟩
  | w :: v :: r, h => by
    have h : c ∈ w ++ (S ++ joinL S (v :: r)) := h
    rcases List.mem_append.mp h with h | h
    · exact .inr ⟨w, List.mem_cons_self, h⟩
    · rcases List.mem_append.mp h with h | h
      · exact .inl h
      · rcases joinL_memA h with h | ⟨u, hu, h⟩
        · exact .inl h
        · exact .inr ⟨u, List.mem_cons_of_mem _ hu, h⟩
theorem Dom.sg {l : List Nat} (h : Dom l) : ∀ c ∈ l, c ∈ 46 :: tl labS := fun c hc => by
  obtain ⟨ls, e, _, _, h3⟩ := h.ex
  rw [e] at hc
  rcases joinL_memA hc with h | ⟨w, hw, h⟩
  · rw [List.mem_singleton.mp h]
    exact List.mem_cons_self
  · exact List.mem_cons_of_mem _ ((labS_mem c).mpr ((h3 w hw).sg c h))
/-- written: the local part, at, the domain -/
abbrev wrA (a b : Str) : Str := (a ++ Str.ofString "@") ++ b
theorem tl_wrA (a b : Str) : tl (wrA a b) = tl a ++ 64 :: tl b := by
  show tl ((a ++ Str.ofString "@") ++ b) = _
  rw [tl_append, tl_append, at_eq, List.append_assoc] <;> rfl
theorem wrA_ascii {a b : Str} (ha : Loc1 (tl lEnds) (tl a)) (hb : Dom (tl b)) : ∀ c ∈ tl (wrA a b), c < 128 ∧ ¬ (65 ≤ c ∧ c ≤ 90) := fun c hc => by
  have k1 : ∀ c ∈ tl locS, c < 128 ∧ ¬ (65 ≤ c ∧ c ≤ 90) := by decide +kernel
  have k2 : ∀ c ∈ 46 :: tl labS, c < 128 ∧ ¬ (65 ≤ c ∧ c ≤ 90) := by decide +kernel
  rw [tl_wrA] at hc
  rcases List.mem_append.mp hc with h | h
  · exact k1 c (ha.sg c h)
  · rcases List.mem_cons.mp h with h | h
    · rw [h]
      decide
    · exact k2 c (hb.sg c h)
theorem addr_of {a b z : Str} (ha : Loc1 (tl lEnds) (tl a)) (hb : Dom (tl b)) (hz : ∀ c ∈ tl z, c < 128) (e : (tl z).map lowC = tl (wrA a b)) : addrM z = some (a, b) := by
  have n1 : (64 : Nat) ∉ tl a := fun h => by
    have k : (64 : Nat) ∉ tl locS := by decide +kernel
    exact k (ha.sg 64 h)
  have n2 : (64 : Nat) ∉ tl b := fun h => by
    have k : (64 : Nat) ∉ 46 :: tl labS := by decide +kernel
    exact k (hb.sg 64 h)
  have s : (Txt.split (Txt.lower z) (Str.ofString "@")).map tl = [tl a, tl b] := by
    rw [at_eq, split_one _ 64 (by decide), tl_lower hz, e, tl_wrA, spl_cons n1, List.nil_append, spl_free n2, List.nil_append]
  unfold addrM
  generalize Txt.split (Txt.lower z) (Str.ofString "@") = ps at s
  have key : ∃ p q, ps = [p, q] ∧ tl p = tl a ∧ tl q = tl b := by
    cases ps with
    | nil => cases s
    | cons p r =>
      cases r with
      | nil => simp at s
      | cons q r =>
        cases r with
        | nil =>
          simp only [List.map_cons, List.map_nil, List.cons.injEq, and_true] at s
          exact ⟨p, q, rfl, s.1, s.2⟩
        | cons u r => simp at s
  obtain ⟨p, q, rfl, e1, e2⟩ := key
  have e1 : p = a := tl_inj e1
  have e2 : q = b := tl_inj e2
  subst e1 e2
  show (if (locB (tl p) && domB q) = true then some (p, q) else none) = _
  rw [ha.b, hb.b] <;> rfl
/-! ### paths -/
def pathM (t : Str) : Option (Option (Str × Str)) :=
  if (tl t).head? = some 60 ∧ (tl t).getLast? = some 62 ∧ 2 ≤ t.length then (if t = Str.ofString "<>" then some none else (addrM (cutS t (some 1) (some ((t.length : Int) - 1)))).map some) else none
/-! ### s.index(t) where t is in s -/
def uIndex : V → List V → Hp → VK → Prop := fun x xs H Q => match x, xs with
  | .str a, [.str b] => ∃ k, Txt.index0 a b = some k ∧ Q (.int (k : Nat)) H
  | _, _ => False
theorem mt_indexU {X : Cx} : MtR X "str.index" uIndex := by
  intro pins s σ H x xs v us Q I rx rs h
  match x, xs, h with
  | .str a, [.str b], ⟨k, hk, hq⟩ =>
    obtain ⟨t, rfl⟩ := rx
    cases rs with
    | cons r1 rs =>
      cases rs
      obtain ⟨u, rfl⟩ := r1
      cases q : Builtin.Str.occurrences a b 0 a.length 1 with
      | nil =>
        unfold Txt.index0 at hk
        rw [q] at hk
        cases hk
      | cons j rest =>
        unfold Txt.index0 at hk
        rw [q] at hk
        have e : j = k := Option.some.inj hk
        subst e
        exact PySem.SC.index q ⟨.int (j : Nat), H, I.tok _, ⟨_, rfl⟩, hq⟩
theorem r_index {H : Hp} {Q : VK} {a b : Str} {k : Nat} (h : Txt.index0 a b = some k) (q : Q (.int (k : Nat)) H) : uIndex (.str a) [.str b] H Q := ⟨k, h, q⟩
abbrev upS : Str := Str.ofString "ABCDEFGHIJKLMNOPQRSTUVWXYZ"
abbrev loS : Str := Str.ofString "abcdefghijklmnopqrstuvwxyz"
theorem idx_up : ∀ c ∈ tl upS, Txt.index0 upS ⟨#[c]⟩ = some (c - 65) ∧ atI loS.cps.toList ((c - 65 : Nat) : Int) = some (lowC c) := by decide +kernel
theorem up_mem : ∀ c < 128, c ∉ tl upS → lowC c = c := by decide +kernel
theorem idx_lt : ∀ c ∈ tl upS, c - 65 < 26 := by decide +kernel
/-! ### the first, the last sign of a text -/
theorem one_eq {c d : Nat} : ((⟨#[c]⟩ : Str) = ⟨#[d]⟩) ↔ c = d := by
  constructor
  · intro h
    have := congrArg tl h
    simpa [tl] using this
  · intro h
    rw [h]
theorem at_one {t : Str} {i : Nat} (h : i < t.length) : ∃ c, atI t.cps.toList (i : Int) = some c ∧ (tl t)[i]? = some c := by
  have hl := len_tl t
  have hi : i < (tl t).length := by omega
  exact ⟨(tl t)[i], atI_nn (List.getElem?_eq_getElem hi), List.getElem?_eq_getElem hi⟩
theorem r_ixA {K : PySem.W.Frag} {z : Str} {i : Int} {c : Nat} {H : Hp} {Q : VK} (hl : z.length ≤ sizeLine) (h : atI z.cps.toList i = some c) (q : Q (.str ⟨#[c]⟩) H) : uIx K (.str z) (.int i) H Q := ⟨c, hl, h, q⟩
theorem Dqs.bools_of {H : Hp} : ∀ {bs : List Bool} {vs : List V}, Dqs H vs (bs.map PyData.bool) → vs = bs.map V.bl
  | [], _, h => by cases h; rfl
  | b :: bs, _, h => by
    cases h with
    | cons h1 h2 =>
      cases h1
      rw [Dqs.bools_of h2] <;> rfl
theorem fold_appA : ∀ (xs : List (Array Nat)) (i : Array Nat), (xs.foldl (· ++ ·) i).toList = i.toList ++ (xs.map Array.toList).flatten
  | [], i => by simp
  | x :: xs, i => by
    rw [List.foldl_cons, fold_appA xs]
    simp
theorem flat_repA (n : Nat) (l : List Nat) : (List.replicate n l).flatten.length = n * l.length ∧ ∀ c ∈ (List.replicate n l).flatten, c ∈ l := by
  refine ⟨by simp, fun c hc => ?_⟩
  obtain ⟨m, hm, hc⟩ := List.mem_flatten.mp hc
  rw [(List.mem_replicate.mp hm).2] at hc
  exact hc
theorem mul_factsA {z : Str} {n : Int} (h0 : 0 < n) : (Txt.mul z n).length ≤ n.toNat * z.length ∧ ∀ c ∈ tl (Txt.mul z n), c ∈ tl z := by
  unfold Txt.mul
  rw [if_neg (by omega)]
  split
  · refine ⟨?_, fun c hc => hc⟩
    have : 1 * z.length ≤ n.toNat * z.length := Nat.mul_le_mul_right _ (by omega)
    omega
  · have e : tl (⟨(List.replicate n.toNat z.cps).foldl (· ++ ·) #[]⟩ : Str) = (List.replicate n.toNat (tl z)).flatten := by
      show ((List.replicate n.toNat z.cps).foldl (· ++ ·) #[]).toList = _
      rw [fold_appA]
      simp
    have f := flat_repA n.toNat (tl z)
    rw [e]
    refine ⟨?_, f.2⟩
    rw [len_tl, e, f.1, len_tl]
    exact Nat.le_refl _
end Dk

/-! all(e for x in it), any(e for x in it): the element an expression of any kind, with captured names and own calls. -/
namespace Dk
open PySem PySem.Spec PyProof.Rows L2 GenW
/-- the generator's own scope: its name x (slot i), the walked thing at «.0», captured names -/
structure GenB (N : List Str) (sc scope : Scope) (x : Str) (i : Nat) : Prop where
  kind : scope.kind = .function
  co : scope.isCoroutine = false
  cell : ∀ y ∈ scope.names, y.2 ≠ .cell
  dot : scope.names.lookup (".0" : Str) = some NameKind.local
  loc : scope.names.lookup x = some .local
  uniq : ∀ y ∈ scope.names, scope.names.lookup y.1 = some y.2
  ix : N[i]? = some x
  free : ∀ y ∈ scope.names, y.2 = .free → sc.names.lookup y.1 = some .cell ∨ sc.names.lookup y.1 = some .free
  own : ∀ y ∈ scope.names, y.2 = .local → y.1 = x ∨ y.1 ∉ N
/-- the context of the generator's frame -/
abbrev gnb (X : Cx) (A : Around) (s : Shared) (H : Hp) (cenv : Env) (fp : List Addr) : Cx := { X with A := A, s_0 := s, H_0 := H, env := cenv, outer := X.stack, stack := cenv :: X.stack, ex := fp, fn := fun _ => false, calm := true, pn := [], xe := fun _ _ => False }
abbrev gnObj (g : Nat) (nm qn : Str) (t u : Tok) : Obj := { cls := .type "generator", data := .fields #[.int g 0, .str nm t, .str qn u] }
section
variable {X : Cx} {pins : List (Addr × Obj)} {σ : L2.St} {H : Hp} {s : Shared}
theorem inv_gens {g' : Array GenState} (I : Inv X pins σ H s) (hg : AllBare g') : Inv X pins σ H { s with gens := g' } := ⟨I.ok, I.os, hg, I.base, I.loc, I.cell, I.free, I.freeC, I.pin, I.hok, I.len⟩
theorem gen_start {scope : Scope} {x : Str} {i : Nat} {fp : List Addr} {A : Around} {code it : Value} {h' : Heap} {gs : GenState} {tk g : Nat} {nm qn : Str} {t u : Tok} (I : Inv X pins σ H s) (ok : GenB X.N X.env.scope scope x i) (hN : X.N.Nodup) (hfp : ∀ b ∈ fp, FpOk X pins H b ∧ b < s.heap.objs.size)
    (hA : A.frames = some (genEnv scope (cloFrom X.env.cells scope.names []) s.heap.objs.size code builtinsNs X.env :: X.stack)) (hh : A.handled = none) (hgs : gs.bare = true)
    (hn : h'.Ns s.heap.objs.size (fun y => if y = ".0" then some it else none)) (hs : Heap.SameBut s.heap.objs.size (s.heap.push { cls := .type "frame", data := .dict #[] }) h') :
    Inv (gnb X A s H (genEnv scope (cloFrom X.env.cells scope.names []) s.heap.objs.size code builtinsNs X.env) fp) [(h'.objs.size, gnObj g nm qn t u)] (wipe σ [i]) H { s with gens := s.gens.push gs, toks := tk, heap := h'.push (gnObj g nm qn t u) } := by
  have hfree : ∀ y ∈ scope.names, y.2 = .free → ∃ c, X.env.cells.lookup y.1 = some c := fun y hy e => by
    rcases ok.free y hy e with k | k
    · exact I.ok.has _ (.inl k)
    · exact I.ok.has _ (.inr k)
  have keep' : ∀ b o, s.heap.get? b = some o → h'.get? b = some o := fun b o e => hs.extBut b o (Nat.ne_of_lt (Heap.lt_size e)) (Heap.get?_push_of_some _ e)
  have kp : ∀ b o, s.heap.get? b = some o → (h'.push (gnObj g nm qn t u)).get? b = some o := fun b o e => Heap.get?_push_of_some _ (keep' b o e)
  have hsz : h'.objs.size = s.heap.objs.size + 1 := by rw [hs.1, Heap.size_push]
  have cm : ∀ {y c}, (cloFrom X.env.cells scope.names []).lookup y = some c → X.env.cells.lookup y = some c ∧ c < s.heap.objs.size := fun {y c} hm => by
    rcases cloFrom_mem (PySem.mem_of_lookup hm) with hm | ⟨h1, rfl⟩
    · cases hm
    · obtain ⟨c, hc⟩ := hfree _ h1 rfl
      rw [hc]
      obtain ⟨w, z⟩ := I.cell _ _ hc
      exact ⟨rfl, z.lt⟩
  have look : ∀ {y}, scope.names.lookup y = some .free → ∃ c, (cloFrom X.env.cells scope.names []).lookup y = some c := fun {y} hl => mem_lookup (cloFrom_has (cells := X.env.cells) (acc := []) (PySem.mem_of_lookup hl))
  have okB : (gnb X A s H (genEnv scope (cloFrom X.env.cells scope.names []) s.heap.objs.size code builtinsNs X.env) fp).Ok := by
    refine ⟨I.ok.mod, ok.kind, I.ok.glob, rfl, Nat.le_refl _, fun y z c e1 e2 => I.ok.inj y z c (cm e1).1 (cm e2).1, fun y hy => ?_, fun y c z e => absurd (show false = true from z) Bool.false_ne_true, fun _ => hh, hA, .inr ⟨rfl, rfl⟩, fun b hb => ⟨?_, fun y c e z => ?_⟩, I.bs, Nat.le_trans I.ok.bsz I.sz, fun b o e hb => ?_, fun b hb z => ?_, I.stack, I.stkFree⟩
    · rcases hy with hy | hy
      · exact absurd rfl (ok.cell _ (PySem.mem_of_lookup hy))
      · exact look hy
    · exact Nat.ne_of_lt (hfp b hb).2
    · exact (hfp b hb).1.2.2.2.2.1 y c (cm e).1 z
    · rcases (hfp b hb).1.2.2.2.1 with z | z
      · exact I.ok.noex b o e z
      · exact absurd (Nat.lt_of_lt_of_le (Heap.lt_size e) (Nat.le_trans I.ok.bsz z)) (Nat.lt_irrefl _)
    · rcases List.mem_cons.mp (I.stkSub b z) with z | z
      · exact (hfp b hb).1.2.1 z
      · exact (hfp b hb).1.2.2.1 z
  refine ⟨okB, rfl, I.bare.push hgs, Un.kept kp, ⟨_, hn.push _, fun j y v e1 e2 e3 => ?_⟩, fun y c e => ?_, ?_, fun y c e => ?_, fun p hp => ?_, I.hok.kept kp, by rw [wipe_length]; exact I.len⟩
  · obtain ⟨e2, hne⟩ := wipe_some e2
    have hne : j ≠ i := fun z => hne (z ▸ List.mem_cons_self)
    rcases e3 with e3 | e3 | e3
    · have e3 : scope.names.lookup y = some .local := e3
      rcases ok.own _ (PySem.mem_of_lookup e3) rfl with z | z
      · have z : y = x := z
        exact absurd (nodup_ix hN e1 (by rw [z]; exact ok.ix)) hne
      · exact absurd (List.mem_of_getElem? e1) z
    · exact absurd rfl (ok.cell _ (PySem.mem_of_lookup (show scope.names.lookup y = some .cell from e3)))
    · have e3 : scope.names.lookup y = some .free := e3
      obtain ⟨m, hm, hl⟩ := I.loc
      have hvis : Vis X.env.scope y := (ok.free _ (PySem.mem_of_lookup e3) rfl).elim (fun k => .inr (.inl k)) (fun k => .inr (.inr k))
      obtain ⟨w, r, q⟩ := hl j y v e1 e2 hvis
      obtain ⟨c, h1⟩ := look e3
      refine ⟨w, r, .inr ⟨.inr e3, c, h1, ?_⟩⟩
      rcases q with ⟨k, _⟩ | ⟨_, c', e', z⟩
      · have k : X.env.scope.names.lookup y = some .local := k
        rcases ok.free _ (PySem.mem_of_lookup e3) rfl with k' | k' <;> rw [show X.env.scope.names.lookup y = _ from k'] at k <;> cases k
      · rw [(cm h1).1] at e'
        cases e'
        exact z.keeps kp
  · obtain ⟨w, z⟩ := I.cell y c (cm e).1
    exact ⟨w, z.keeps kp⟩
  · exact I.hok.fresh (Nat.le_refl _)
  · exact I.freeC y c (cm e).1
  · obtain rfl : p = (h'.objs.size, gnObj g nm qn t u) := by
      have hp : p ∈ [(h'.objs.size, gnObj g nm qn t u)] := hp
      simpa using hp
    refine ⟨Heap.get?_push_size _ rfl, I.hok.fresh (by rw [hsz]; exact Nat.le_succ _), ?_, fun hb => ?_, fun v z => by cases z⟩
    · show h'.objs.size ≠ s.heap.objs.size
      rw [hsz]
      exact Nat.succ_ne_self _
    · obtain ⟨_, o, ho, _⟩ := I.stack.mem hb
      have hl := Heap.lt_size ho
      have hl : h'.objs.size < s.heap.objs.size := hl
      omega
end
/-- a turn's end: the element told b -/
def GxY (X' : Cx) (pn : List (Addr × Obj)) (σ : L2.St) (fp : List Addr) (tn : Nat → Heap → Prop) (c : Bool) (n : Nat) (R : Nat → Hp → Prop) (Qs : Hp → Prop) : Protocol := fun m s₀ v s kap =>
  ∃ j H b, j + m + 1 = n ∧ v = .bool b ∧ Inv X' pn σ H s ∧ tn (j + 1) s.heap ∧ (∀ a ∈ fp, H a = none) ∧ (b = c → R (j + 1) H) ∧ (b = !c → Qs H) ∧
    ∀ s'' : Shared, s''.heap = s.heap → s''.os = s.os → AllBare s''.gens → R (j + 1) H → kap (.send .none) s''
def GxP (X' : Cx) (pn : List (Addr × Obj)) (σ : L2.St) (Qe : Hp → Prop) : Nat → Shared → Shared → Prop := fun n s₀ s₁ => n = 0 ∧ ∃ H, Inv X' pn σ H s₁ ∧ Qe H
section
variable {X' : Cx} {Aw : Around} {elt iter : Expr} {x : Str} {px gpos : Pos} {scope : Scope} {i n : Nat} {J : It} {fp : List Addr} {it : Addr} {tn : Nat → Heap → Prop} {pn : List (Addr × Obj)} {σ : L2.St} {c : Bool} {R : Nat → Hp → Prop} {Qs Qe : Hp → Prop} {tel : TE} {C : Addr} {cl : List (Str × Addr)} {code : Value} {bi : Addr} {env0 : Env}
theorem seg_gx (hA : X'.A = Aw.over (.compLoop (.GeneratorExp elt [⟨.Name x px, iter, [], 0⟩] scope gpos) 0 (.ref it) .none X'.env) []) (hc : X'.calm = true) (hpn0 : X'.pn = [])
    (T : Turn X'.prog X'.w X'.K (.Name x px) J fp it tn) (hst : ∀ b ∈ fp, b ≠ X'.env.locals ∧ b ∉ X'.fs ∧ (b ∈ X'.ex ∨ X'.s_0.heap.objs.size ≤ b) ∧ (∀ x c, X'.env.cells.lookup x = some c → c ≠ b) ∧ ∀ p ∈ pn, p.1 ≠ b)
    (pg : PG X' (.Name x px) (gName i)) (pe : PE X' elt tel) (hco : X'.env.scope.isCoroutine = false) (hw : ∀ v, wipe ((wipe σ [i]).set i (some v)) [i] = wipe σ [i])
    (hstep : ∀ j H, j < n → R j H → J.go j H ∧ ∀ x H', J.yld j H x H' → tel ((wipe σ [i]).set i (some x)) H' fun y H3 => ∃ b, y = .bl b ∧ (b = c → R (j + 1) H3) ∧ (b = !c → Qs H3))
    (hend : ∀ H, R n H → J.stop n H ∧ Qe H) (hxe : ∀ e s, ¬ X'.xe e s) :
    ∀ (k j : Nat) (s₀ s : Shared) (H : Hp), n - j = k → j ≤ n → Inv X' pn (wipe σ [i]) H s → tn j s.heap → (∀ b ∈ fp, H b = none) → R j H →
      Seg (model X'.prog X'.w) Aw (fun n s₀ r s₁ => r = .ok .next ∧ GxP X' pn (wipe σ [i]) Qe n s₀ s₁) (GxY X' pn (wipe σ [i]) fp tn c n R Qs) (n - j) s₀
        (.compLoop (.GeneratorExp elt [⟨.Name x px, iter, [], 0⟩] scope gpos) 0 (.ref it) .none X'.env)
        ((model X'.prog X'.w).den (.compLoop (.GeneratorExp elt [⟨.Name x px, iter, [], 0⟩] scope gpos) 0 (.ref it) .none X'.env)) [] s := by
  have stat : ∀ {H' : Hp}, (∀ b ∈ fp, H' b = none) → ∀ b ∈ fp, FpOk X' pn H' b := fun {H'} hn b hb => by
    obtain ⟨h1, h2, h3, h4, h5⟩ := hst b hb
    exact ⟨hn b hb, h1, h2, h3, h4, fun p hp => h5 p (by rw [hpn0] at hp; exact hp)⟩
  intro k
  induction k with
  | zero =>
    intro j s₀ s H hk hj I hs hn hR
    obtain rfl : j = n := by omega
    obtain ⟨stop, qe⟩ := hend H hR
    show Seg _ Aw _ _ _ s₀ _ ((compTurn (.GeneratorExp elt [⟨.Name x px, iter, [], 0⟩] scope gpos) 0 (.ref it) .none X'.env).onRaise (leaving X'.env)) [] s
    rw [compTurn_gen, Sem.onRaise_eq_wrap]
    refine seg_bind_wrap (wpAny_standAt ?_)
    refine seg_bind_wrap ?_
    rw [← hA]
    refine wpAny_mono (T.done X' rfl rfl rfl hc j pn s _ H (fun _ _ => False) I (stat hn) hs stop) (fun r s1 ⟨hr, I1⟩ => ?_) fun _ _ z => z.elim
    subst hr
    exact seg_end (.ok .next) ⟨rfl, by omega, H, I1, qe⟩
  | succ k ih =>
    intro j s₀ s H hk hj I hs hn hR
    have hlt : j < n := by omega
    obtain ⟨m, hm⟩ : ∃ m, n - j = m + 1 := ⟨n - j - 1, by omega⟩
    obtain ⟨go, step⟩ := hstep j H hlt hR
    show Seg _ Aw _ _ _ s₀ _ ((compTurn (.GeneratorExp elt [⟨.Name x px, iter, [], 0⟩] scope gpos) 0 (.ref it) .none X'.env).onRaise (leaving X'.env)) [] s
    rw [compTurn_gen, Sem.onRaise_eq_wrap]
    refine seg_bind_wrap (wpAny_standAt ?_)
    refine seg_bind_wrap ?_
    rw [← hA]
    refine wpAny_mono (T.item X' rfl rfl rfl hc j pn s _ H (fun _ _ => False) I (stat hn) hs go) (fun r s1 ⟨u, hr, h6⟩ => ?_) fun _ _ z => z.elim
    subst hr
    refine seg_bind_wrap ?_
    rw [← hA]
    refine wpAny_mono h6 (fun _ s7 ⟨y, H7, I7, r7, y7, st7, n7⟩ => ?_) fun _ _ z => z.elim
    have I7' := I7.pinned (stat n7) (T.obj _ _ st7)
    refine seg_bind_wrap ?_
    rw [← hA]
    refine wpAny_mono (pg.run _ s7 _ H7 y u _ I7' r7 (show gName i y (wipe σ [i]) H7 (fun σ' H' => σ' = (wipe σ [i]).set i (some y) ∧ H' = H7) from ⟨rfl, rfl⟩)) (fun _ s8 ⟨σ8, H8, I8, e1, e2⟩ => ?_) fun e s z => (hxe e s z).elim
    subst e1 e2
    refine seg_bind_wrap (wpAny_tests_nil ?_)
    simp only [if_true]
    have hy : ∀ v, yieldOut X'.env v = yieldValue v := fun v => by simp only [yieldOut, hco, Bool.false_eq_true, if_false]
    simp only [hy]
    rw [Sem.bind_eq_wrap', Sem.bind_eq_wrap', Sem.wrap_wrap, Sem.wrap_wrap]
    refine seg_wrap ?_
    rw [← hA]
    refine wpAny_mono (pe.run _ s8 _ _ _ I8 (step y _ y7)) (fun v s9 ⟨z, H9, I9, r9, b, hb, q1, q2⟩ => ?_) fun e s z => (hxe e s z).elim
    subst hb
    have r9 : v = .bool b := r9
    subst r9
    have pin' : ∀ b ∈ fp, ∀ o, s7.heap.get? b = some o → s9.heap.get? b = some o ∧ H9 b = none := fun b hb o e =>
      let z := I9.pin (b, o) (List.mem_append_right _ (List.mem_append_right _ (mem_pinsAt hb e)))
      ⟨z.1, z.2.1⟩
    have st9 : tn (j + 1) s9.heap := T.keep _ _ _ st7 fun b hb o e => (pin' b hb o e).1
    have n9 : ∀ b ∈ fp, H9 b = none := fun b hb => by
      obtain ⟨o, e, _⟩ := T.obj _ _ st7 b hb
      exact (pin' b hb o e).2
    have I10 : Inv X' pn (wipe σ [i]) H9 s9 := (I9.unpinned (pins := pn)).weak (by rw [wipe_length, List.length_set, wipe_length]) fun a v e => by
      rw [← hw y] at e
      exact (wipe_some e).1
    rw [hm]
    refine seg_at (seg_yield rfl rfl rfl ⟨j, H9, b, by omega, rfl, I10, st9, n9, q1, q2, fun s'' e1 e2 hb2 hR2 => ?_⟩)
    have I11 : Inv X' pn (wipe σ [i]) H9 s'' := by
      have hok : HOk X'.prog X'.w H9 s''.heap := by rw [e1]; exact I10.hok
      exact ⟨I10.ok, e2.trans I10.os, hb2, by rw [e1]; exact I10.base, by rw [e1]; exact I10.loc, by rw [e1]; exact I10.cell, I10.free, I10.freeC, by rw [e1]; exact I10.pin, hok, I10.len⟩
    have hm2 : m = n - (j + 1) := by omega
    rw [hm2]
    exact seg_again rfl (ih (j + 1) s'' s'' H9 (by omega) hlt I11 (by rw [e1]; exact st9) n9 hR2)
theorem seg_gxS (hA : X'.A = Aw.over (.compLoop (.GeneratorExp elt [⟨.Name x px, iter, [], 0⟩] scope gpos) 0 (.ref it) .none X'.env) [])
    (T : Turn X'.prog X'.w X'.K (.Name x px) J fp it tn) {Y : Protocol} {Re : GenEnd} {m : Nat} {s₀ s : Shared} (hs : tn 0 s.heap)
    (loop : Seg (model X'.prog X'.w) Aw Re Y m s₀ (.compLoop (.GeneratorExp elt [⟨.Name x px, iter, [], 0⟩] scope gpos) 0 (.ref it) .none X'.env)
        ((model X'.prog X'.w).den (.compLoop (.GeneratorExp elt [⟨.Name x px, iter, [], 0⟩] scope gpos) 0 (.ref it) .none X'.env)) [] s) :
    Seg (model X'.prog X'.w) Aw Re Y m s₀ (.compStart (.GeneratorExp elt [⟨.Name x px, iter, [], 0⟩] scope gpos) 0 (.ref it) .none X'.env)
        ((model X'.prog X'.w).den (.compStart (.GeneratorExp elt [⟨.Name x px, iter, [], 0⟩] scope gpos) 0 (.ref it) .none X'.env)) [] s := by
  show Seg _ Aw _ _ _ s₀ _ ((compStart (.GeneratorExp elt [⟨.Name x px, iter, [], 0⟩] scope gpos) 0 (.ref it) .none X'.env).onRaise (leaving X'.env)) [] s
  unfold compStart
  rw [Sem.onRaise_eq_wrap]
  show Seg _ Aw _ _ _ s₀ _ ((ask >>= _).wrap _ _ _ _) [] s
  refine seg_bind_wrap (wpAny_askSetting ?_)
  split
  · exact seg_again rfl loop
  · first
      | exact seg_bind_wrap (wpAny_rule (seg_bind_wrap (wpAny_standAt (seg_bind_wrap (T.self _ 0 s _ _ hs (seg_again rfl loop))))))
      | (refine seg_bind_wrap (wpAny_rule ?_); show Seg _ Aw _ _ _ s₀ _ ((standAt iter.pos >>= _).wrap _ _ _ _) [] s; exact seg_bind_wrap (wpAny_standAt (seg_bind_wrap (T.self _ 0 s _ _ hs (seg_again rfl loop)))))
end
section
variable {X' : Cx} {n : Nat} {fp : List Addr} {tn : Nat → Heap → Prop} {pn : List (Addr × Obj)} {σ : L2.St} {R : Nat → Hp → Prop} {Qs Qe : Hp → Prop}

theorem loop_all {A : Around} {a : Addr} {g : Nat} {nm qn : Str} {t u : Tok} {Rr : Result → Shared → Prop} (hh : A.handled = none) (hd : A.depth < recursionLimit) (hp : (a, gnObj g nm qn t u) ∈ X'.pn ++ pn)
    (h1 : ∀ H s', Inv X' pn σ H s' → Qe H → Rr (.ok (.ret (.bool true))) s') (h2 : ∀ H s', Inv X' pn σ H s' → Qs H → Rr (.ok (.ret (.bool (!true)))) s') :
    ∀ (k j : Nat) (s : Shared) (H : Hp) (gs : GenState), n - j = k → j ≤ n → Inv X' pn σ H s → s.gens[g]? = some gs →
      gs.Goes (model X'.prog X'.w) A.in1.in1 (fun n s₀ r s₁ => r = .ok .next ∧ GxP X' pn σ Qe n s₀ s₁) (GxY X' pn σ fp tn true n R Qs) (n - j) (.send .none) (s.setGen g .running) →
      codeAny (model X'.prog X'.w) A (.builtin "all.loop" ⟨[.ref a], []⟩) Rr s := by
  intro k
  induction k with
  | zero =>
    intro j s H gs hk hj I hgs hgo
    refine codeAny_builtin F.entry_all_loop ?_
    rw [Around.under_plainId F.plain_all_loop _]
    show wpAny _ A.in1 (pyNext (.ref a) >>= _) _ _ s
    have hg : s.heap.IsGen a g := ⟨_, _, _, (I.pin _ hp).1, rfl, rfl, rfl⟩
    have hgl : g < s.gens.size := (Array.getElem?_eq_some_iff.mp hgs).1
    refine wpAny_bind (wpAny_pyNext_genexpQ (A := A.in1) (P := GxP X' pn σ Qe) hh I.nolimit hd hg hgs hgo (fun v s₁ gs' hb hv => ?_) (fun s₁ hp h' hk => ?_))
    · obtain ⟨j', H1, b, hj', rfl, I1, st1, n1, q1, q2, kap⟩ := hv
      have I2 : Inv X' pn σ H1 (s₁.setGen g gs') := inv_gens I1 (allBare_setGen I1.bare hb)
      refine wpAny_bind (wpAny_holding (wpAny_truthy_bool ?_))
      refine wpAny_bind (wpAny_letGo ?_)
      by_cases eb : b = true
      · rw [hk] at kap
        exact (kap { s₁ with gens := s₁.gens } rfl rfl I1.bare (q1 eb)).elim
      · have eb : b = !true := by cases b <;> simp_all
        subst eb
        simp only [Bool.not_true, Bool.not_false, Bool.false_eq_true, if_false, if_true]
        exact wpAny_bind (wpAny_rule (wpAny_pure (h2 H1 _ I2 (q2 rfl))))
    · obtain ⟨_, H1, I1, qe⟩ := hp
      have I2 : Inv X' pn σ H1 { s₁ with heap := h' } := I1.kept (t' := s₁.toks) hk
      have I3 : Inv X' pn σ H1 { s₁.setGen g .finished with heap := h' } := inv_gens I2 (allBare_setGen I1.bare rfl)
      exact wpAny_bind (wpAny_rule (wpAny_pure (h1 H1 _ I3 qe)))
  | succ k ih =>
    intro j s H gs hk hj I hgs hgo
    refine codeAny_builtin F.entry_all_loop ?_
    rw [Around.under_plainId F.plain_all_loop _]
    show wpAny _ A.in1 (pyNext (.ref a) >>= _) _ _ s
    have hg : s.heap.IsGen a g := ⟨_, _, _, (I.pin _ hp).1, rfl, rfl, rfl⟩
    have hgl : g < s.gens.size := (Array.getElem?_eq_some_iff.mp hgs).1
    refine wpAny_bind (wpAny_gsz (n := g + 1) hgl (wpAny_pyNext_genexpQ (A := A.in1) (P := GxP X' pn σ Qe) hh I.nolimit hd hg hgs hgo (fun v s₁ gs' hb hv => ?_) (fun s₁ hp h' hk => ?_)))
    · intro hsz
      obtain ⟨j', H1, b, hj', rfl, I1, st1, n1, q1, q2, kap⟩ := hv
      obtain rfl : j' = j := by omega
      have I2 : Inv X' pn σ H1 (s₁.setGen g gs') := inv_gens I1 (allBare_setGen I1.bare hb)
      have hsz1 : g < s₁.gens.size := by
        have q : (s₁.setGen g gs').gens.size = s₁.gens.size := setGen_size _ _ _
        have hsz' : g + 1 ≤ (s₁.setGen g gs').gens.size := hsz
        omega
      refine wpAny_bind (wpAny_holding (wpAny_truthy_bool ?_))
      refine wpAny_bind (wpAny_letGo ?_)
      by_cases eb : b = true
      · have r1 := q1 eb
        subst eb
        simp only [Bool.false_eq_true, if_true, if_false]
        refine wpAny_pure ⟨plainId_quiet F.plain_all_loop _, ih (j' + 1) _ H1 gs' (by omega) (by omega) I2 (setGen_at hsz1) ?_⟩
        have e1 : n - j' = (n - (j' + 1)) + 1 := by omega
        rw [e1] at kap
        exact kap _ rfl rfl (allBare_setGen (s := s₁.setGen g gs') (allBare_setGen I1.bare hb) rfl) r1
      · have eb : b = !true := by cases b <;> simp_all
        subst eb
        simp only [Bool.not_true, Bool.not_false, Bool.false_eq_true, if_false, if_true]
        exact wpAny_bind (wpAny_rule (wpAny_pure (h2 H1 _ I2 (q2 rfl))))
    · intro hsz
      obtain ⟨_, H1, I1, qe⟩ := hp
      have I2 : Inv X' pn σ H1 { s₁ with heap := h' } := I1.kept (t' := s₁.toks) hk
      have I3 : Inv X' pn σ H1 { s₁.setGen g .finished with heap := h' } := inv_gens I2 (allBare_setGen I1.bare rfl)
      exact wpAny_bind (wpAny_rule (wpAny_pure (h1 H1 _ I3 qe)))

theorem loop_any {A : Around} {a : Addr} {g : Nat} {nm qn : Str} {t u : Tok} {Rr : Result → Shared → Prop} (hh : A.handled = none) (hd : A.depth < recursionLimit) (hp : (a, gnObj g nm qn t u) ∈ X'.pn ++ pn)
    (h1 : ∀ H s', Inv X' pn σ H s' → Qe H → Rr (.ok (.ret (.bool false))) s') (h2 : ∀ H s', Inv X' pn σ H s' → Qs H → Rr (.ok (.ret (.bool (!false)))) s') :
    ∀ (k j : Nat) (s : Shared) (H : Hp) (gs : GenState), n - j = k → j ≤ n → Inv X' pn σ H s → s.gens[g]? = some gs →
      gs.Goes (model X'.prog X'.w) A.in1.in1 (fun n s₀ r s₁ => r = .ok .next ∧ GxP X' pn σ Qe n s₀ s₁) (GxY X' pn σ fp tn false n R Qs) (n - j) (.send .none) (s.setGen g .running) →
      codeAny (model X'.prog X'.w) A (.builtin "any.loop" ⟨[.ref a], []⟩) Rr s := by
  intro k
  induction k with
  | zero =>
    intro j s H gs hk hj I hgs hgo
    refine codeAny_builtin F.entry_any_loop ?_
    rw [Around.under_plainId F.plain_any_loop _]
    show wpAny _ A.in1 (pyNext (.ref a) >>= _) _ _ s
    have hg : s.heap.IsGen a g := ⟨_, _, _, (I.pin _ hp).1, rfl, rfl, rfl⟩
    have hgl : g < s.gens.size := (Array.getElem?_eq_some_iff.mp hgs).1
    refine wpAny_bind (wpAny_pyNext_genexpQ (A := A.in1) (P := GxP X' pn σ Qe) hh I.nolimit hd hg hgs hgo (fun v s₁ gs' hb hv => ?_) (fun s₁ hp h' hk => ?_))
    · obtain ⟨j', H1, b, hj', rfl, I1, st1, n1, q1, q2, kap⟩ := hv
      have I2 : Inv X' pn σ H1 (s₁.setGen g gs') := inv_gens I1 (allBare_setGen I1.bare hb)
      refine wpAny_bind (wpAny_holding (wpAny_truthy_bool ?_))
      refine wpAny_bind (wpAny_letGo ?_)
      by_cases eb : b = false
      · rw [hk] at kap
        exact (kap { s₁ with gens := s₁.gens } rfl rfl I1.bare (q1 eb)).elim
      · have eb : b = !false := by cases b <;> simp_all
        subst eb
        simp only [Bool.not_true, Bool.not_false, Bool.false_eq_true, if_false, if_true]
        exact wpAny_bind (wpAny_rule (wpAny_pure (h2 H1 _ I2 (q2 rfl))))
    · obtain ⟨_, H1, I1, qe⟩ := hp
      have I2 : Inv X' pn σ H1 { s₁ with heap := h' } := I1.kept (t' := s₁.toks) hk
      have I3 : Inv X' pn σ H1 { s₁.setGen g .finished with heap := h' } := inv_gens I2 (allBare_setGen I1.bare rfl)
      exact wpAny_bind (wpAny_rule (wpAny_pure (h1 H1 _ I3 qe)))
  | succ k ih =>
    intro j s H gs hk hj I hgs hgo
    refine codeAny_builtin F.entry_any_loop ?_
    rw [Around.under_plainId F.plain_any_loop _]
    show wpAny _ A.in1 (pyNext (.ref a) >>= _) _ _ s
    have hg : s.heap.IsGen a g := ⟨_, _, _, (I.pin _ hp).1, rfl, rfl, rfl⟩
    have hgl : g < s.gens.size := (Array.getElem?_eq_some_iff.mp hgs).1
    refine wpAny_bind (wpAny_gsz (n := g + 1) hgl (wpAny_pyNext_genexpQ (A := A.in1) (P := GxP X' pn σ Qe) hh I.nolimit hd hg hgs hgo (fun v s₁ gs' hb hv => ?_) (fun s₁ hp h' hk => ?_)))
    · intro hsz
      obtain ⟨j', H1, b, hj', rfl, I1, st1, n1, q1, q2, kap⟩ := hv
      obtain rfl : j' = j := by omega
      have I2 : Inv X' pn σ H1 (s₁.setGen g gs') := inv_gens I1 (allBare_setGen I1.bare hb)
      have hsz1 : g < s₁.gens.size := by
        have q : (s₁.setGen g gs').gens.size = s₁.gens.size := setGen_size _ _ _
        have hsz' : g + 1 ≤ (s₁.setGen g gs').gens.size := hsz
        omega
      refine wpAny_bind (wpAny_holding (wpAny_truthy_bool ?_))
      refine wpAny_bind (wpAny_letGo ?_)
      by_cases eb : b = false
      · have r1 := q1 eb
        subst eb
        simp only [Bool.false_eq_true, if_true, if_false]
        refine wpAny_pure ⟨plainId_quiet F.plain_any_loop _, ih (j' + 1) _ H1 gs' (by omega) (by omega) I2 (setGen_at hsz1) ?_⟩
        have e1 : n - j' = (n - (j' + 1)) + 1 := by omega
        rw [e1] at kap
        exact kap _ rfl rfl (allBare_setGen (s := s₁.setGen g gs') (allBare_setGen I1.bare hb) rfl) r1
      · have eb : b = !false := by cases b <;> simp_all
        subst eb
        simp only [Bool.not_true, Bool.not_false, Bool.false_eq_true, if_false, if_true]
        exact wpAny_bind (wpAny_rule (wpAny_pure (h2 H1 _ I2 (q2 rfl))))
    · intro hsz
      obtain ⟨_, H1, I1, qe⟩ := hp
      have I2 : Inv X' pn σ H1 { s₁ with heap := h' } := I1.kept (t' := s₁.toks) hk
      have I3 : Inv X' pn σ H1 { s₁.setGen g .finished with heap := h' } := inv_gens I2 (allBare_setGen I1.bare rfl)
      exact wpAny_bind (wpAny_rule (wpAny_pure (h1 H1 _ I3 qe)))
end

/-- all(e for x in it), any(..): c: what lets it go on; R by the turn -/
def tGx (P : Addr) (c : Bool) (i : Nat) (w : TI) (tel : TE) : TE := fun σ H Q => w σ H fun J H1 => GxR.TabG H1 P ∧ ∀ H2, GxR.Tabbed P H1 H2 → ∃ (n : Nat) (R : Nat → Hp → Prop), R 0 H2 ∧
  (∀ j H, j < n → R j H → J.go j H ∧ ∀ x H', J.yld j H x H' → tel ((wipe σ [i]).set i (some x)) H' fun y H3 => ∃ b, y = .bl b ∧ (b = c → R (j + 1) H3) ∧ (b = !c → Q (.bl (!c)) H3)) ∧
  ∀ H, R n H → J.stop n H ∧ Q (.bl c) H
section
variable {X : Cx} {pins : List (Addr × Obj)} {σ : L2.St} {H : Hp} {s : Shared}
theorem gen_make {c P : Addr} {elt iter : Expr} {x : Str} {px gpos : Pos} {scope : Scope} {i k : Nat} {w : TI} {R : It → Hp → Prop} {Q' : Value → Shared → Prop}
    (hr : Room k X.A) (TB : LamX.TabB X.base X.mg c P) (hcode : X.env.code = .ref c) (S : GenB X.N X.env.scope scope x i) (hi : PI X (.Name x px) iter w) (hs : ∀ v, genFold iter X.env v = pure v) (I : Inv X pins σ H s) (h : w σ H fun J H1 => GxR.TabG H1 P ∧ R J H1)
    (hQ : ∀ (H1 H4 : Hp) (s4 : Shared) (fp : List Addr) (it : Addr) (J : It) (tn : Nat → Heap → Prop) (code : Value) (h' : Heap) (tk : Nat) (t u : Tok), R J H1 → GxR.Tabbed P H1 H4 → Inv X pins σ H4 s4 → (∀ b ∈ fp, FpOk X pins H4 b ∧ b < s4.heap.objs.size) → Turn X.prog X.w X.K (.Name x px) J fp it tn → tn 0 s4.heap →
      h'.Ns s4.heap.objs.size (fun y => if y = ".0" then some (.ref it) else none) → Heap.SameBut s4.heap.objs.size (s4.heap.push { cls := .type "frame", data := .dict #[] }) h' →
      Q' (.ref h'.objs.size) { s4 with gens := s4.gens.push (.fresh (.compStart (.GeneratorExp elt [⟨.Name x px, iter, [], 0⟩] scope gpos) 0 (.ref it) .none (genEnv scope (cloFrom X.env.cells scope.names []) s4.heap.objs.size code builtinsNs X.env))), toks := tk, heap := h'.push (gnObj s4.gens.size "<genexpr>" (X.env.qual ++ "<genexpr>") t u) }) :
    wpAny (model X.prog X.w) X.A (eval (.GeneratorExp elt [⟨.Name x px, iter, [], 0⟩] scope gpos) X.env) Q' X.xe s := by
  have hfree : ∀ y ∈ scope.names, y.2 = .free → ∃ c, X.env.cells.lookup y.1 = some c := fun y hy e => by
    rcases S.free y hy e with k | k
    · exact I.ok.has _ (.inl k)
    · exact I.ok.has _ (.inr k)
  refine wpAny_GeneratorExp_make S.co (closure_ok hfree) S.cell S.dot S.kind hr.depth ?_ hs
  refine thn (hi.run pins s σ H _ I h) fun xv s1 hx => thn hx fun itv s2 h2 => ?_
  obtain ⟨it, fp, tn, J, H2, e, I2, T, st2, f2, ⟨ps, hP, ht⟩, q⟩ := h2
  subst e
  refine ⟨I2.nolimit, ?_⟩
  have hPs : s2.heap.get? P = some { cls := .none, data := .fields ps } := I2.hok P _ hP
  have cd : PySem.W.CodeHd s2.heap c P := TB.code.keeps fun b u e => I2.bk b u e
  have cont : ∀ (code : Value) (h3 : Heap) (tk : Nat) (ps' : Array Value), Heap.ExtBut P s2.heap h3 → s2.heap.objs.size ≤ h3.objs.size → h3.get? P = some { cls := .none, data := .fields ps' } → (∃ more, ps' = ps ++ more) → TriplesOk ps'.toList →
      wpAny (model X.prog X.w) X.A (builtinsFor X.env.globals X.env.builtins) (fun bi s₄ =>
        ∀ h', h'.Ns s₄.heap.objs.size (fun y => if y = ".0" then some (.ref it) else none) → Heap.SameBut s₄.heap.objs.size (s₄.heap.push { cls := .type "frame", data := .dict #[] }) h' →
          Q' (.ref h'.objs.size) { s₄ with
            gens := s₄.gens.push (.fresh (.compStart (.GeneratorExp elt [⟨.Name x px, iter, [], 0⟩] scope gpos) 0 (.ref it) .none (genEnv scope (cloFrom X.env.cells scope.names []) s₄.heap.objs.size code bi X.env))),
            toks := s₄.toks + 1 + 1 + 1,
            heap := h'.push { cls := .type "generator", data := .fields #[.int s₄.gens.size 0, .str "<genexpr>" (s₄.toks + 1), .str (X.env.qual ++ "<genexpr>") (s₄.toks + 1 + 1)] } }) X.xe { s2 with heap := h3, toks := tk } := by
    intro code h3 tk ps' hx hsz hP3 hmore ht3
    obtain ⟨bm, ob, e1, e2, e3, e4, e5, e6, e7, e8⟩ := TB.bm
    have keep3 : ∀ b u, b ≠ P → s2.heap.get? b = some u → h3.get? b = some u := fun b u hb e => hx b u hb e
    refine wpAny_builtinsFor (m := X.mg) (by rw [I2.ok.glob]; exact (I2.mod.glob.keeps I2.bk).extBut hx TB.gP) e1 e2 (keep3 _ _ e4 (I2.bk _ _ e5)) e6 e7 e8 ?_
    intro h' hns hsb
    obtain ⟨more, em⟩ := hmore
    have J4 := GxR.inv_tab (more := more) (h' := h3) (g' := s2.gens) (d' := s2.drawn) (t' := tk) I2 hP (fun b u hb e => keep3 b u hb e) (by rw [← em]; exact hP3) I2.bare
    have fp4 : ∀ b ∈ fp, b ≠ P := fun b hb z => by
      have := (f2 b hb).1
      rw [z, hP] at this
      cases this
    refine hQ H2 (upd H2 P (.tbl (ps ++ more))) { s2 with heap := h3, toks := tk } fp it J tn code h' _ _ _ q ⟨⟨ps ++ more, upd_same, by rw [← em]; exact ht3⟩, fun b hb => upd_ne hb⟩ J4 (fun b hb => ⟨⟨?_, (f2 b hb).2⟩, ?_⟩) T ?_ hns hsb
    · rw [upd_ne (fp4 b hb)]
      exact (f2 b hb).1
    · obtain ⟨o, e, _⟩ := T.obj _ _ st2 b hb
      exact Nat.lt_of_lt_of_le (Heap.lt_size e) hsz
    · exact T.keep _ _ _ st2 fun b hb o e => keep3 b o (fp4 b hb) e
  cases hf : codeAmong gpos ps.toList with
  | none =>
    refine wpAny_genexprCodeX hcode (cd.code hPs ht) (cd.tab hPs) hf fun c' h' tk hx hge hlt hco' _ htab' _ => ?_
    obtain ⟨o1, vs, f1, tf, fl, tg, inF, tx, tt, op, _, _, _, _, _, _, _, _, _, htr, _⟩ := hco'
    exact cont _ h' tk _ hx (Nat.le_trans hge (Nat.le_of_lt hlt)) htab'.2 ⟨_, rfl⟩ htr
  | some cv =>
    refine wpAny_genexprCode_hit hcode (cd.code hPs ht) hf ?_
    exact cont cv s2.heap s2.toks ps (Heap.ExtBut.refl _ _) (Nat.le_refl _) hPs ⟨#[], by simp⟩ ht
theorem gx_frames {A : Around} {l : List Env} {elt : Expr} {gs : List Comprehension} {sc : Scope} {gp : Pos} {it : Value} {cenv : Env} (h : A.frames = some l) : (A.in1.in1.over (.compLoop (.GeneratorExp elt gs sc gp) 0 it .none cenv) []).frames = some (cenv :: l) := by
  show pushEnvs (Code.compLoop (.GeneratorExp elt gs sc gp) 0 it .none cenv).envs (pushEnvs (envsOf []) A.frames) = _
  rw [h]
  rfl
theorem gx_room {A : Around} {elt : Expr} {gs : List Comprehension} {sc : Scope} {gp : Pos} {it : Value} {cenv : Env} {k : Nat} (h : Room (k + 1) A) : Room k (A.in1.in1.over (.compLoop (.GeneratorExp elt gs sc gp) 0 it .none cenv) []) := by
  have hdep : (A.in1.in1.over (.compLoop (.GeneratorExp elt gs sc gp) 0 it .none cenv) []).depth ≤ A.depth + 1 := Nat.le_of_eq rfl
  have huni : (A.in1.in1.over (.compLoop (.GeneratorExp elt gs sc gp) 0 it .none cenv) []).units ≤ A.units + 5 := Nat.le_of_eq rfl
  exact ⟨h.hd, by have := h.dp; omega, by have := h.un; omega⟩

theorem pe_allg {cc P : Addr} {elt iter : Expr} {x : Str} {px p pos gpos : Pos} {scope : Scope} {i k : Nat} {w : TI} {tel : TE}
    (hr : Room (k + 1) X.A) (hm : X.mg "all" = none) (TB : LamX.TabB X.base X.mg cc P) (hcode : X.env.code = .ref cc) (S : GenB X.N X.env.scope scope x i) (hN : X.N.Nodup) (hi : PI X (.Name x px) iter w)
    (hel : ∀ (A : Around) (s : Shared) (H : Hp) (C : Addr) (cl : List (Str × Addr)) (code : Value) (fp : List Addr), Room k A → PE (gnb X A s H (genEnv scope cl C code builtinsNs X.env) fp) elt tel)
    (hw : ∀ (σ : L2.St) v, wipe ((wipe σ [i]).set i (some v)) [i] = wipe σ [i])
    (hg : Gl X "all" := by rfl) (hs : ∀ v, genFold iter X.env v = pure v := by intro _; rfl)
    (he : starEach [.GeneratorExp elt [⟨.Name x px, iter, [], 0⟩] scope gpos] X.env = (false, eval (.GeneratorExp elt [⟨.Name x px, iter, [], 0⟩] scope gpos) X.env) :: starEach [] X.env := by rfl) :
    PE X (.Call (.Name "all" p) [.GeneratorExp elt [⟨.Name x px, iter, [], 0⟩] scope gpos] [] pos) (tGx P true i w tel) := by
  refine ⟨fun pins s σ H Q I h => ?_⟩
  refine wpAny_Call_Name_kw (ld_blt I hg hm bt_all ?_)
  refine PyProof.Rows.callWith_builtin1 ?_ he (by rfl)
  rw [he]
  show wpAny _ _ (spliced ((false, eval (.GeneratorExp elt [⟨.Name x px, iter, [], 0⟩] scope gpos) X.env) :: backTo pos (starEach [] X.env))) _ _ s
  refine Calls.spliced_cons (gen_make hr TB hcode S hi hs I h fun H1 H4 s4 fp it J tn code h' tk t u hQ htb I4 hfp T hst ns sb => ?_)
  refine Calls.spliced_nil ?_
  obtain ⟨n, R, h0, hstep, hend⟩ := hQ H4 htb
  have hh : (X.A.in1.in1.over (.compLoop (.GeneratorExp elt [⟨.Name x px, iter, [], 0⟩] scope gpos) 0 (.ref it) .none (genEnv scope (cloFrom X.env.cells scope.names []) s4.heap.objs.size code builtinsNs X.env)) []).handled = none := hr.hd
  have hX := gen_start (tk := tk) (g := s4.gens.size) (nm := "<genexpr>") (qn := X.env.qual ++ "<genexpr>") (t := t) (u := u) I4 S hN hfp (gx_frames I4.ok.frames) hh (gs := .fresh (.compStart (.GeneratorExp elt [⟨.Name x px, iter, [], 0⟩] scope gpos) 0 (.ref it) .none (genEnv scope (cloFrom X.env.cells scope.names []) s4.heap.objs.size code builtinsNs X.env))) rfl ns sb
  have keep' : ∀ b o, s4.heap.get? b = some o → h'.get? b = some o := fun b o e => sb.extBut b o (Nat.ne_of_lt (Heap.lt_size e)) (Heap.get?_push_of_some _ e)
  have hsz : h'.objs.size = s4.heap.objs.size + 1 := by rw [sb.1, Heap.size_push]
  have hel2 := hel _ s4 H4 s4.heap.objs.size (cloFrom X.env.cells scope.names []) code fp (gx_room (elt := elt) (gs := [⟨.Name x px, iter, [], 0⟩]) (sc := scope) (gp := gpos) (it := .ref it) (cenv := genEnv scope (cloFrom X.env.cells scope.names []) s4.heap.objs.size code builtinsNs X.env) hr)
  have hsco : (genEnv scope (cloFrom X.env.cells scope.names []) s4.heap.objs.size code builtinsNs X.env).scope = scope := rfl
  generalize genEnv scope (cloFrom X.env.cells scope.names []) s4.heap.objs.size code builtinsNs X.env = cenv at *
  have back : ∀ {H1 : Hp} {s' : Shared}, Inv (gnb X (X.A.in1.in1.over (.compLoop (.GeneratorExp elt [⟨.Name x px, iter, [], 0⟩] scope gpos) 0 (.ref it) .none cenv) []) s4 H4 cenv fp) [(h'.objs.size, gnObj s4.gens.size "<genexpr>" (X.env.qual ++ "<genexpr>") t u)] (wipe σ [i]) H1 s' → Inv X pins σ H1 s' := fun {H1 s'} I1 =>
    I4.call' (ch := fp) I1.os I1.base I1.hok I1.bare fun b hb => ⟨(hfp b hb).1.2.2.2.1, (hfp b hb).1.2.1, (hfp b hb).1.2.2.2.2.1, (hfp b hb).1.2.2.2.2.2⟩
  have nf : ∀ b ∈ fp, b ≠ h'.objs.size := fun b hb z => by
    have := (hfp b hb).2
    rw [z, hsz] at this
    have this : (s4.heap.objs.size + 1 : Nat) < s4.heap.objs.size := this
    omega
  have st5 : tn 0 (h'.push (gnObj s4.gens.size "<genexpr>" (X.env.qual ++ "<genexpr>") t u)) := T.keep _ _ _ hst fun b _ o e => Heap.get?_push_of_some _ (keep' b o e)
  have hgs : (s4.gens.push (GenState.fresh (.compStart (.GeneratorExp elt [⟨.Name x px, iter, [], 0⟩] scope gpos) 0 (.ref it) .none cenv)))[s4.gens.size]? = some (.fresh (.compStart (.GeneratorExp elt [⟨.Name x px, iter, [], 0⟩] scope gpos) 0 (.ref it) .none cenv)) := Array.getElem?_push_size ..
  have loop := fun (s6 : Shared) (I6 : Inv (gnb X (X.A.in1.in1.over (.compLoop (.GeneratorExp elt [⟨.Name x px, iter, [], 0⟩] scope gpos) 0 (.ref it) .none cenv) []) s4 H4 cenv fp) [(h'.objs.size, gnObj s4.gens.size "<genexpr>" (X.env.qual ++ "<genexpr>") t u)] (wipe σ [i]) H4 s6) (st6 : tn 0 s6.heap) =>
    seg_gx (X' := gnb X (X.A.in1.in1.over (.compLoop (.GeneratorExp elt [⟨.Name x px, iter, [], 0⟩] scope gpos) 0 (.ref it) .none cenv) []) s4 H4 cenv fp) (Aw := X.A.in1.in1) (c := true) (n := n) (R := R) (σ := σ) (pn := [(h'.objs.size, gnObj s4.gens.size "<genexpr>" (X.env.qual ++ "<genexpr>") t u)]) (Qs := fun H1 => Q (.bl (!true)) H1) (Qe := fun H1 => Q (.bl true) H1) (iter := iter) (gpos := gpos) (scope := scope) (i := i) (J := J) (it := it) (tn := tn) (fp := fp) (px := px) (x := x) (elt := elt) (tel := tel)
      rfl rfl rfl T (fun b hb => ⟨(hX.ok.exf b hb).1, hX.ok.exfs b hb, .inl hb, fun x c e => (hX.ok.exf b hb).2 x c e, fun p hp => by
        obtain rfl : p = (h'.objs.size, gnObj s4.gens.size "<genexpr>" (X.env.qual ++ "<genexpr>") t u) := by simpa using hp
        exact (nf b hb).symm⟩)
      (pg_name (X := gnb X (X.A.in1.in1.over (.compLoop (.GeneratorExp elt [⟨.Name x px, iter, [], 0⟩] scope gpos) 0 (.ref it) .none cenv) []) s4 H4 cenv fp) hN S.ix (by show Loc cenv.scope x; rw [hsco]; exact .inl S.loc) (by right; show cenv.scope.names.lookup x = _; rw [hsco]; exact S.loc)) hel2 (by show cenv.scope.isCoroutine = false; rw [hsco]; exact S.co) (hw σ) hstep hend (fun _ _ z => z) n 0 s6 s6 H4 (Nat.sub_zero _) (Nat.zero_le _) I6 st6 (fun b hb => (hfp b hb).1.1) h0
  have I6 := inv_gens hX (g' := (({ s4 with gens := s4.gens.push (.fresh (.compStart (.GeneratorExp elt [⟨.Name x px, iter, [], 0⟩] scope gpos) 0 (.ref it) .none cenv)), toks := tk, heap := h'.push (gnObj s4.gens.size "<genexpr>" (X.env.qual ++ "<genexpr>") t u) } : Shared).setGen s4.gens.size .running).gens) (allBare_setGen hX.bare rfl)
  refine call_function_tree F.kind_all F.plain_all F.entry_all (F.args_all1 _) ?_
  unfold Builtin.«all»
  refine wpAny_bind (m := oneArg "all" _) (wpAny_pure ?_)
  refine wpAny_bind (wpAny_pyIter_gen (a := h'.objs.size) (g := s4.gens.size) ⟨_, _, _, Heap.get?_push_size _ rfl, rfl, rfl, rfl⟩ ?_)
  refine wpAny_pure ⟨plainId_quiet F.plain_all_loop _, loop_all (X' := gnb X (X.A.in1.in1.over (.compLoop (.GeneratorExp elt [⟨.Name x px, iter, [], 0⟩] scope gpos) 0 (.ref it) .none cenv) []) s4 H4 cenv fp) (A := X.A) hr.hd hr.depth (List.mem_cons_self) (fun H1 s' I1 q => ?_) (fun H1 s' I1 q => ?_) n 0 _ H4 _ (Nat.sub_zero _) (Nat.zero_le _) hX hgs ⟨rfl, seg_gxS (X' := gnb X (X.A.in1.in1.over (.compLoop (.GeneratorExp elt [⟨.Name x px, iter, [], 0⟩] scope gpos) 0 (.ref it) .none cenv) []) s4 H4 cenv fp) rfl T st5 (loop _ I6 st5)⟩⟩
  · exact ⟨.bl _, H1, back I1, rfl, q⟩
  · exact ⟨.bl _, H1, back I1, rfl, q⟩

theorem pe_anyg {cc P : Addr} {elt iter : Expr} {x : Str} {px p pos gpos : Pos} {scope : Scope} {i k : Nat} {w : TI} {tel : TE}
    (hr : Room (k + 1) X.A) (hm : X.mg "any" = none) (TB : LamX.TabB X.base X.mg cc P) (hcode : X.env.code = .ref cc) (S : GenB X.N X.env.scope scope x i) (hN : X.N.Nodup) (hi : PI X (.Name x px) iter w)
    (hel : ∀ (A : Around) (s : Shared) (H : Hp) (C : Addr) (cl : List (Str × Addr)) (code : Value) (fp : List Addr), Room k A → PE (gnb X A s H (genEnv scope cl C code builtinsNs X.env) fp) elt tel)
    (hw : ∀ (σ : L2.St) v, wipe ((wipe σ [i]).set i (some v)) [i] = wipe σ [i])
    (hg : Gl X "any" := by rfl) (hs : ∀ v, genFold iter X.env v = pure v := by intro _; rfl)
    (he : starEach [.GeneratorExp elt [⟨.Name x px, iter, [], 0⟩] scope gpos] X.env = (false, eval (.GeneratorExp elt [⟨.Name x px, iter, [], 0⟩] scope gpos) X.env) :: starEach [] X.env := by rfl) :
    PE X (.Call (.Name "any" p) [.GeneratorExp elt [⟨.Name x px, iter, [], 0⟩] scope gpos] [] pos) (tGx P false i w tel) := by
  refine ⟨fun pins s σ H Q I h => ?_⟩
  refine wpAny_Call_Name_kw (ld_blt I hg hm bt_any ?_)
  refine PyProof.Rows.callWith_builtin1 ?_ he (by rfl)
  rw [he]
  show wpAny _ _ (spliced ((false, eval (.GeneratorExp elt [⟨.Name x px, iter, [], 0⟩] scope gpos) X.env) :: backTo pos (starEach [] X.env))) _ _ s
  refine Calls.spliced_cons (gen_make hr TB hcode S hi hs I h fun H1 H4 s4 fp it J tn code h' tk t u hQ htb I4 hfp T hst ns sb => ?_)
  refine Calls.spliced_nil ?_
  obtain ⟨n, R, h0, hstep, hend⟩ := hQ H4 htb
  have hh : (X.A.in1.in1.over (.compLoop (.GeneratorExp elt [⟨.Name x px, iter, [], 0⟩] scope gpos) 0 (.ref it) .none (genEnv scope (cloFrom X.env.cells scope.names []) s4.heap.objs.size code builtinsNs X.env)) []).handled = none := hr.hd
  have hX := gen_start (tk := tk) (g := s4.gens.size) (nm := "<genexpr>") (qn := X.env.qual ++ "<genexpr>") (t := t) (u := u) I4 S hN hfp (gx_frames I4.ok.frames) hh (gs := .fresh (.compStart (.GeneratorExp elt [⟨.Name x px, iter, [], 0⟩] scope gpos) 0 (.ref it) .none (genEnv scope (cloFrom X.env.cells scope.names []) s4.heap.objs.size code builtinsNs X.env))) rfl ns sb
  have keep' : ∀ b o, s4.heap.get? b = some o → h'.get? b = some o := fun b o e => sb.extBut b o (Nat.ne_of_lt (Heap.lt_size e)) (Heap.get?_push_of_some _ e)
  have hsz : h'.objs.size = s4.heap.objs.size + 1 := by rw [sb.1, Heap.size_push]
  have hel2 := hel _ s4 H4 s4.heap.objs.size (cloFrom X.env.cells scope.names []) code fp (gx_room (elt := elt) (gs := [⟨.Name x px, iter, [], 0⟩]) (sc := scope) (gp := gpos) (it := .ref it) (cenv := genEnv scope (cloFrom X.env.cells scope.names []) s4.heap.objs.size code builtinsNs X.env) hr)
  have hsco : (genEnv scope (cloFrom X.env.cells scope.names []) s4.heap.objs.size code builtinsNs X.env).scope = scope := rfl
  generalize genEnv scope (cloFrom X.env.cells scope.names []) s4.heap.objs.size code builtinsNs X.env = cenv at *
  have back : ∀ {H1 : Hp} {s' : Shared}, Inv (gnb X (X.A.in1.in1.over (.compLoop (.GeneratorExp elt [⟨.Name x px, iter, [], 0⟩] scope gpos) 0 (.ref it) .none cenv) []) s4 H4 cenv fp) [(h'.objs.size, gnObj s4.gens.size "<genexpr>" (X.env.qual ++ "<genexpr>") t u)] (wipe σ [i]) H1 s' → Inv X pins σ H1 s' := fun {H1 s'} I1 =>
    I4.call' (ch := fp) I1.os I1.base I1.hok I1.bare fun b hb => ⟨(hfp b hb).1.2.2.2.1, (hfp b hb).1.2.1, (hfp b hb).1.2.2.2.2.1, (hfp b hb).1.2.2.2.2.2⟩
  have nf : ∀ b ∈ fp, b ≠ h'.objs.size := fun b hb z => by
    have := (hfp b hb).2
    rw [z, hsz] at this
    have this : (s4.heap.objs.size + 1 : Nat) < s4.heap.objs.size := this
    omega
  have st5 : tn 0 (h'.push (gnObj s4.gens.size "<genexpr>" (X.env.qual ++ "<genexpr>") t u)) := T.keep _ _ _ hst fun b _ o e => Heap.get?_push_of_some _ (keep' b o e)
  have hgs : (s4.gens.push (GenState.fresh (.compStart (.GeneratorExp elt [⟨.Name x px, iter, [], 0⟩] scope gpos) 0 (.ref it) .none cenv)))[s4.gens.size]? = some (.fresh (.compStart (.GeneratorExp elt [⟨.Name x px, iter, [], 0⟩] scope gpos) 0 (.ref it) .none cenv)) := Array.getElem?_push_size ..
  have loop := fun (s6 : Shared) (I6 : Inv (gnb X (X.A.in1.in1.over (.compLoop (.GeneratorExp elt [⟨.Name x px, iter, [], 0⟩] scope gpos) 0 (.ref it) .none cenv) []) s4 H4 cenv fp) [(h'.objs.size, gnObj s4.gens.size "<genexpr>" (X.env.qual ++ "<genexpr>") t u)] (wipe σ [i]) H4 s6) (st6 : tn 0 s6.heap) =>
    seg_gx (X' := gnb X (X.A.in1.in1.over (.compLoop (.GeneratorExp elt [⟨.Name x px, iter, [], 0⟩] scope gpos) 0 (.ref it) .none cenv) []) s4 H4 cenv fp) (Aw := X.A.in1.in1) (c := false) (n := n) (R := R) (σ := σ) (pn := [(h'.objs.size, gnObj s4.gens.size "<genexpr>" (X.env.qual ++ "<genexpr>") t u)]) (Qs := fun H1 => Q (.bl (!false)) H1) (Qe := fun H1 => Q (.bl false) H1) (iter := iter) (gpos := gpos) (scope := scope) (i := i) (J := J) (it := it) (tn := tn) (fp := fp) (px := px) (x := x) (elt := elt) (tel := tel)
      rfl rfl rfl T (fun b hb => ⟨(hX.ok.exf b hb).1, hX.ok.exfs b hb, .inl hb, fun x c e => (hX.ok.exf b hb).2 x c e, fun p hp => by
        obtain rfl : p = (h'.objs.size, gnObj s4.gens.size "<genexpr>" (X.env.qual ++ "<genexpr>") t u) := by simpa using hp
        exact (nf b hb).symm⟩)
      (pg_name (X := gnb X (X.A.in1.in1.over (.compLoop (.GeneratorExp elt [⟨.Name x px, iter, [], 0⟩] scope gpos) 0 (.ref it) .none cenv) []) s4 H4 cenv fp) hN S.ix (by show Loc cenv.scope x; rw [hsco]; exact .inl S.loc) (by right; show cenv.scope.names.lookup x = _; rw [hsco]; exact S.loc)) hel2 (by show cenv.scope.isCoroutine = false; rw [hsco]; exact S.co) (hw σ) hstep hend (fun _ _ z => z) n 0 s6 s6 H4 (Nat.sub_zero _) (Nat.zero_le _) I6 st6 (fun b hb => (hfp b hb).1.1) h0
  have I6 := inv_gens hX (g' := (({ s4 with gens := s4.gens.push (.fresh (.compStart (.GeneratorExp elt [⟨.Name x px, iter, [], 0⟩] scope gpos) 0 (.ref it) .none cenv)), toks := tk, heap := h'.push (gnObj s4.gens.size "<genexpr>" (X.env.qual ++ "<genexpr>") t u) } : Shared).setGen s4.gens.size .running).gens) (allBare_setGen hX.bare rfl)
  refine call_function_tree F.kind_any F.plain_any F.entry_any (F.args_any1 _) ?_
  unfold Builtin.«any»
  refine wpAny_bind (m := oneArg "any" _) (wpAny_pure ?_)
  refine wpAny_bind (wpAny_pyIter_gen (a := h'.objs.size) (g := s4.gens.size) ⟨_, _, _, Heap.get?_push_size _ rfl, rfl, rfl, rfl⟩ ?_)
  refine wpAny_pure ⟨plainId_quiet F.plain_any_loop _, loop_any (X' := gnb X (X.A.in1.in1.over (.compLoop (.GeneratorExp elt [⟨.Name x px, iter, [], 0⟩] scope gpos) 0 (.ref it) .none cenv) []) s4 H4 cenv fp) (A := X.A) hr.hd hr.depth (List.mem_cons_self) (fun H1 s' I1 q => ?_) (fun H1 s' I1 q => ?_) n 0 _ H4 _ (Nat.sub_zero _) (Nat.zero_le _) hX hgs ⟨rfl, seg_gxS (X' := gnb X (X.A.in1.in1.over (.compLoop (.GeneratorExp elt [⟨.Name x px, iter, [], 0⟩] scope gpos) 0 (.ref it) .none cenv) []) s4 H4 cenv fp) rfl T st5 (loop _ I6 st5)⟩⟩
  · exact ⟨.bl _, H1, back I1, rfl, q⟩
  · exact ⟨.bl _, H1, back I1, rfl, q⟩
end
end Dk

/-! Readings of all, any over generator expressions; steps that may only grow the tables of code objects. -/
namespace Dk
open PySem PySem.Spec PyProof.Rows L2 TL
abbrev TabG (H : Hp) (P : Addr) : Prop := GxR.TabG H P
theorem TabG.nil {H : Hp} {P : Addr} (h : H P = some (.tbl #[])) : GxR.TabG H P := ⟨#[], h, True.intro⟩
/-- no table -/
def NT (o : HO) : Prop := ∀ ps, o ≠ .tbl ps
/-- all stands, tables may have grown -/
structure Sam (H H' : Hp) : Prop where
  kp : ∀ b o, NT o → H b = some o → H' b = some o
  tb : ∀ b ps, H b = some (.tbl ps) → ∃ qs, H' b = some (.tbl qs) ∧ (TriplesOk ps.toList → TriplesOk qs.toList)
theorem Sam.refl (H : Hp) : Sam H H := ⟨fun _ _ _ h => h, fun _ ps h => ⟨ps, h, id⟩⟩
theorem Sam.trans {H H1 H2 : Hp} (a : Sam H H1) (b : Sam H1 H2) : Sam H H2 :=
  ⟨fun p o n h => b.kp p o n (a.kp p o n h), fun p ps h => by
    obtain ⟨qs, h1, t1⟩ := a.tb p ps h
    obtain ⟨rs, h2, t2⟩ := b.tb p qs h1
    exact ⟨rs, h2, fun t => t2 (t1 t)⟩⟩
theorem Sam.same {H H' : Hp} (s : Same H H') : Sam H H' := ⟨fun b o _ h => s b o h, fun b ps h => ⟨ps, s b _ h, id⟩⟩
theorem Sam.snd {H H1 H2 : Hp} (a : Sam H H1) (s : Same H1 H2) : Sam H H2 := a.trans (Sam.same s)
theorem Sam.fst {H H1 H2 : Hp} (s : Same H H1) (a : Sam H1 H2) : Sam H H2 := (Sam.same s).trans a
theorem Sam.lst {H H' : Hp} {b : Addr} {xs : List V} (s : Sam H H') (h : H b = some (.lst xs)) : H' b = some (.lst xs) := s.kp b _ (fun _ z => by cases z) h
theorem Sam.tup {H H' : Hp} {b : Addr} {xs : List V} (s : Sam H H') (h : H b = some (.tup xs)) : H' b = some (.tup xs) := s.kp b _ (fun _ z => by cases z) h
theorem Sam.frz {H H' : Hp} {b : Addr} {o : Obj} {u : HO} (s : Sam H H') (h : H b = some (.frz o u)) : H' b = some (.frz o u) := s.kp b _ (fun _ z => by cases z) h
theorem Sam.insO {H H' : Hp} {b C dx : Addr} {fs : List (Str × V)} (s : Sam H H') (h : H b = some (.ins C dx fs)) : H' b = some (.ins C dx fs) := s.kp b _ (fun _ z => by cases z) h
theorem Sam.gro {H H' : Hp} (s : Sam H H') : Gro H H' := ⟨fun _ _ h => s.tup h, fun _ _ _ h => s.frz h⟩
theorem Sam.tabG {H H' : Hp} {P : Addr} (s : Sam H H') (h : GxR.TabG H P) : GxR.TabG H' P := by
  obtain ⟨ps, h1, h2⟩ := h
  obtain ⟨qs, h3, h4⟩ := s.tb P ps h1
  exact ⟨qs, h3, h4 h2⟩
theorem tabG_same {H H' : Hp} {P : Addr} (s : Same H H') (h : GxR.TabG H P) : GxR.TabG H' P := (Sam.same s).tabG h
theorem tabG_stp {H H' : Hp} {a P : Addr} (d : Drw H a) (s : Stp a H H') (h : GxR.TabG H P) : GxR.TabG H' P := by
  obtain ⟨ps, h1, h2⟩ := h
  refine ⟨ps, s.at_ h1 fun e => ?_, h2⟩
  obtain ⟨x, y, q⟩ := d
  rw [e, q] at h1
  cases h1
theorem Sam.before {H H' : Hp} {r : Addr} (s : Sam H H') (h : H' r = none) : H r = none := by
  cases q : H r with
  | none => rfl
  | some o =>
    by_cases n : NT o
    · rw [s.kp r o n q] at h
      cases h
    · have ⟨ps, e⟩ : ∃ ps, o = .tbl ps := Classical.byContradiction fun z => n fun ps e => z ⟨ps, e⟩
      subst e
      obtain ⟨qs, h1, _⟩ := s.tb r ps q
      rw [h1] at h
      cases h
theorem Sam.drw {H H' : Hp} {a : Addr} (s : Sam H H') (h : Drw H a) : Drw H' a := let ⟨x, y, e⟩ := h; ⟨x, y, s.lst e⟩
theorem Sam.scr {K : PySem.W.Frag} {H H' : Hp} {a : Addr} (s : Sam H H') (h : Scr K H a) : Scr K H' a := h.mono s.gro
theorem Sam.dq {H H' : Hp} {v : V} {d : PyData} (s : Sam H H') (h : Dq H v d) : Dq H' v d := h.mono s.gro
theorem Sam.sqL {K : PySem.W.Frag} {H H' : Hp} {p : Addr} {xs : List V} (s : Sam H H') (h : SqL K H p xs) : SqL K H' p xs := by
  rcases h with (h | ⟨o, h⟩) | h
  · exact .inl (.inl (s.lst h))
  · exact .inl (.inr ⟨o, s.frz h⟩)
  · exact .inr h
theorem Sam.ins {H H' : Hp} {a C : Addr} {fs : List (Str × V)} (s : Sam H H') (h : Ins H a C fs) : Ins H' a C fs := let ⟨dx, e⟩ := h; ⟨dx, s.insO e⟩
theorem Mt.nt {o : HO} (h : Mt (some o)) (n : NT o) : True := trivial
theorem Own.sam {H H' : Hp} {v : V} {t : Tr} {fp : List Addr} (s : Sam H H') (h : Own H v t fp) (nt : ∀ b ∈ fp, ∀ o, H b = some o → NT o) : Own H' v t fp := h.frame s.gro fun b hb => by
  obtain ⟨u, e, _⟩ := h.there b hb
  rw [e]
  exact s.kp b u (nt b hb u e) e
/-- the table at P has grown -/
theorem Sam.tabbed {H H' : Hp} {P : Addr} (t : GxR.TabG H P) (h : GxR.Tabbed P H H') : Sam H H' := by
  obtain ⟨⟨qs, h1, h2⟩, h3⟩ := h
  obtain ⟨ps, h4, h5⟩ := t
  refine ⟨fun b o n e => ?_, fun b rs e => ?_⟩
  · rw [h3 b fun z => by
      rw [z, h4] at e
      cases e
      exact n ps rfl]
    exact e
  · by_cases z : b = P
    · subst z
      exact ⟨qs, h1, fun _ => h2⟩
    · exact ⟨rs, by rw [h3 b z]; exact e, id⟩
/-! ### the generator's scope, by a look -/
def genC (N : List Str) (sc scope : Scope) (x : Str) (i : Nat) : Bool :=
  decide (scope.kind = .function) && decide (scope.isCoroutine = false) && scope.names.all (fun y => decide (y.2 ≠ .cell)) && decide (scope.names.lookup (".0" : Str) = some NameKind.local) && decide (scope.names.lookup x = some .local) &&
  scope.names.all (fun y => decide (scope.names.lookup y.1 = some y.2)) && decide (N[i]? = some x) && scope.names.all (fun y => decide (y.2 = .free → sc.names.lookup y.1 = some .cell ∨ sc.names.lookup y.1 = some .free)) &&
  scope.names.all (fun y => decide (y.2 = .local → y.1 = x ∨ y.1 ∉ N))
theorem genB_by {N : List Str} {sc scope : Scope} {x : Str} {i : Nat} (h : genC N sc scope x i = true) : GenB N sc scope x i := by
  unfold genC at h
  simp only [Bool.and_eq_true, List.all_eq_true, decide_eq_true_eq] at h
  obtain ⟨⟨⟨⟨⟨⟨⟨⟨h1, h2⟩, h3⟩, h4⟩, h5⟩, h6⟩, h7⟩, h8⟩, h9⟩ := h
  exact ⟨h1, h2, h3, h4, h5, h6, h7, h8, h9⟩
theorem wipe1 {σ : L2.St} {i : Nat} (v : V) : wipe ((wipe σ [i]).set i (some v)) [i] = wipe σ [i] := by
  simp only [wipe, List.set_set]
section
variable {X : Cx} {K : PySem.W.Frag} {cc P : Addr} {elt iter : Expr} {x : Str} {px p pos gpos : Pos} {scope : Scope} {i k : Nat} {te tel : TE}
theorem pe_allU (hr : Room (k + 1) X.A) (hm : X.mg "all" = none) (TB : LamX.TabB X.base X.mg cc P) (S : GenB X.N X.env.scope scope x i) (hN : X.N.Nodup) (hi : PE X iter te)
    (hel : ∀ (A : Around) (s : Shared) (H : Hp) (C : Addr) (cl : List (Str × Addr)) (code : Value) (fp : List Addr), Room k A → PE (gnb X A s H (genEnv scope cl C code builtinsNs X.env) fp) elt tel)
    (hcode : X.env.code = .ref cc := by rfl) (hK : X.K = K := by rfl) (hg : Gl X "all" := by rfl) (hs : ∀ v, genFold iter X.env v = pure v := by intro _; rfl)
    (he : starEach [.GeneratorExp elt [⟨.Name x px, iter, [], 0⟩] scope gpos] X.env = (false, eval (.GeneratorExp elt [⟨.Name x px, iter, [], 0⟩] scope gpos) X.env) :: starEach [] X.env := by rfl) :
    PE X (.Call (.Name "all" p) [.GeneratorExp elt [⟨.Name x px, iter, [], 0⟩] scope gpos] [] pos) (tGx P true i (iU K te) tel) :=
  pe_allg hr hm TB hcode S hN (pi_U hi hK) hel (fun _ v => wipe1 v) hg hs he
theorem pe_anyU (hr : Room (k + 1) X.A) (hm : X.mg "any" = none) (TB : LamX.TabB X.base X.mg cc P) (S : GenB X.N X.env.scope scope x i) (hN : X.N.Nodup) (hi : PE X iter te)
    (hel : ∀ (A : Around) (s : Shared) (H : Hp) (C : Addr) (cl : List (Str × Addr)) (code : Value) (fp : List Addr), Room k A → PE (gnb X A s H (genEnv scope cl C code builtinsNs X.env) fp) elt tel)
    (hcode : X.env.code = .ref cc := by rfl) (hK : X.K = K := by rfl) (hg : Gl X "any" := by rfl) (hs : ∀ v, genFold iter X.env v = pure v := by intro _; rfl)
    (he : starEach [.GeneratorExp elt [⟨.Name x px, iter, [], 0⟩] scope gpos] X.env = (false, eval (.GeneratorExp elt [⟨.Name x px, iter, [], 0⟩] scope gpos) X.env) :: starEach [] X.env := by rfl) :
    PE X (.Call (.Name "any" p) [.GeneratorExp elt [⟨.Name x px, iter, [], 0⟩] scope gpos] [] pos) (tGx P false i (iU K te) tel) :=
  pe_anyg hr hm TB hcode S hN (pi_U hi hK) hel (fun _ v => wipe1 v) hg hs he
end
/-! ### readings -/
def gxq (K : PySem.W.Frag) (P : Addr) (c : Bool) (i : Nat) (x : V) (tel : TE) (σ : L2.St) (H : Hp) (Q : VK) : Prop := tGx P c i (iU K (tC x)) tel σ H Q
section
variable {K : PySem.W.Frag} {σ : L2.St} {H : Hp} {Q : VK} {te tel : TE} {i : Nat} {P : Addr} {c : Bool}
theorem r_gx (q : te σ H fun x H1 => gxq K P c i x tel σ H1 Q) : tGx P c i (iU K te) tel σ H Q := q
/-- what all, any tell -/
def gxB (c : Bool) (bs : List Bool) : Bool := if c = true then bs.all id else bs.any id
theorem gxB_stop {c : Bool} {bs : List Bool} (h : (!c) ∈ bs) : gxB c bs = !c := by
  cases c with
  | true =>
    show bs.all id = false
    rw [List.all_eq_false]
    exact ⟨false, h, by simp⟩
  | false =>
    show bs.any id = true
    rw [List.any_eq_true]
    exact ⟨true, h, rfl⟩
theorem gxB_end {c : Bool} {bs : List Bool} (h : ∀ b ∈ bs, b = c) : gxB c bs = c := by
  cases c with
  | true =>
    show bs.all id = true
    rw [List.all_eq_true]
    exact fun b hb => h b hb
  | false =>
    show bs.any id = false
    rw [List.any_eq_false]
    exact fun b hb => by simp [h b hb]
theorem gx_core {α : Type} (xs : List α) (iv : α → V) (pb : α → Bool) (J : It) (ht : GxR.TabG H P) (hJ : ∀ j H', j < xs.length → Sam H H' → J.go j H' ∧ ∀ x H2, J.yld j H' x H2 → ∃ a, xs[j]? = some a ∧ x = iv a ∧ H2 = H')
    (hs : ∀ H', Sam H H' → J.stop xs.length H')
    (el : ∀ (a : α) (H1 : Hp) (Q1 : VK), a ∈ xs → Sam H H1 → (∀ H2, Sam H1 H2 → Q1 (.bl (pb a)) H2) → tel ((wipe σ [i]).set i (some (iv a))) H1 Q1)
    (k : ∀ H', Sam H H' → Q (.bl (gxB c (xs.map pb))) H') : GxR.TabG H P ∧ ∀ H2, GxR.Tabbed P H H2 → ∃ (n : Nat) (R : Nat → Hp → Prop), R 0 H2 ∧
  (∀ j H, j < n → R j H → J.go j H ∧ ∀ x H', J.yld j H x H' → tel ((wipe σ [i]).set i (some x)) H' fun y H3 => ∃ b, y = .bl b ∧ (b = c → R (j + 1) H3) ∧ (b = !c → Q (.bl (!c)) H3)) ∧
  ∀ H, R n H → J.stop n H ∧ Q (.bl c) H := by
  refine ⟨ht, fun H2 htb => ⟨xs.length, fun j H' => Sam H H' ∧ ∀ l a, l < j → xs[l]? = some a → pb a = c, ⟨Sam.tabbed ht htb, fun _ _ z => absurd z (Nat.not_lt_zero _)⟩, fun j H' hj ⟨s1, r1⟩ => ?_, fun H' ⟨s1, r1⟩ => ⟨hs H' s1, ?_⟩⟩⟩
  · obtain ⟨h1, h2⟩ := hJ j H' hj s1
    refine ⟨h1, fun x H3 hy => ?_⟩
    obtain ⟨a, ha, rfl, rfl⟩ := h2 x H3 hy
    refine el a _ _ (List.mem_of_getElem? ha) s1 fun H4 s4 => ⟨pb a, rfl, fun e => ⟨s1.trans s4, fun l a' hl ha' => ?_⟩, fun e => ?_⟩
    · by_cases q : l = j
      · rw [q, ha] at ha'
        cases ha'
        exact e
      · exact r1 l a' (by omega) ha'
    · have q := k H4 (s1.trans s4)
      rw [gxB_stop (List.mem_map.mpr ⟨a, List.mem_of_getElem? ha, e⟩)] at q
      exact q
  · have q := k H' s1
    rw [gxB_end fun b hb => ?_] at q
    · exact q
    · obtain ⟨a, ha, rfl⟩ := List.mem_map.mp hb
      obtain ⟨l, hl⟩ := List.getElem?_of_mem ha
      exact r1 l a (List.getElem?_eq_some_iff.mp hl).1 hl
/-- over a text -/
theorem gx_S {z : Str} (pb : Nat → Bool) (ht : GxR.TabG H P)
    (el : ∀ (a : Nat) (H1 : Hp) (Q1 : VK), a ∈ tl z → Sam H H1 → (∀ H2, Sam H1 H2 → Q1 (.bl (pb a)) H2) → tel ((wipe σ [i]).set i (some (.str ⟨#[a]⟩))) H1 Q1)
    (k : ∀ H', Sam H H' → Q (.bl (gxB c ((tl z).map pb))) H') : gxq K P c i (.str z) tel σ H Q :=
  gx_core (tl z) (fun a => .str ⟨#[a]⟩) pb (Its z) ht (fun j H' hj s1 => ⟨by rw [← len_tl] at hj; exact hj, fun x H2 hy => by
    obtain ⟨rfl, cc, hc, rfl⟩ := hy
    exact ⟨cc, by rw [← hc, ← Array.getElem?_toList], rfl, rfl⟩⟩) (fun H' s1 => by show z.cps.size ≤ (tl z).length; rw [← len_tl]; exact Nat.le_refl _) el k
/-- over a list, a tuple -/
theorem gx_L {p : Addr} {xs : List V} (h : SqL K H p xs) (pb : V → Bool) (ht : GxR.TabG H P)
    (el : ∀ (a : V) (H1 : Hp) (Q1 : VK), a ∈ xs → Sam H H1 → (∀ H2, Sam H1 H2 → Q1 (.bl (pb a)) H2) → tel ((wipe σ [i]).set i (some a)) H1 Q1)
    (k : ∀ H', Sam H H' → Q (.bl (gxB c (xs.map pb))) H') : gxq K P c i (.ref p) tel σ H Q :=
  .inl ⟨⟨xs, h⟩, gx_core xs id pb (Itl K p) ht (fun j H' hj s1 => ⟨⟨xs, xs[j], s1.sqL h, List.getElem?_eq_getElem hj⟩, fun x H2 hy => by
    obtain ⟨rfl, hy⟩ := hy
    exact ⟨x, hy xs (s1.sqL h), rfl, rfl⟩⟩) (fun H' s1 => ⟨xs, s1.sqL h, Nat.le_refl _⟩) el k⟩
theorem gx_T {p : Addr} {xs : List V} (h : H p = some (.tup xs)) (pb : V → Bool) (ht : GxR.TabG H P)
    (el : ∀ (a : V) (H1 : Hp) (Q1 : VK), a ∈ xs → Sam H H1 → (∀ H2, Sam H1 H2 → Q1 (.bl (pb a)) H2) → tel ((wipe σ [i]).set i (some a)) H1 Q1)
    (k : ∀ H', Sam H H' → Q (.bl (gxB c (xs.map pb))) H') : gxq K P c i (.ref p) tel σ H Q :=
  .inr ⟨⟨xs, SqT.of h⟩, gx_core xs id pb (Itt K p) ht (fun j H' hj s1 => ⟨⟨xs, xs[j], SqT.of (s1.tup h), List.getElem?_eq_getElem hj⟩, fun x H2 hy => by
    obtain ⟨rfl, hy⟩ := hy
    exact ⟨x, hy xs (SqT.of (s1.tup h)), rfl, rfl⟩⟩) (fun H' s1 => ⟨xs, SqT.of (s1.tup h), Nat.le_refl _⟩) el k⟩
end
end Dk

namespace Dk
open PySem PySem.Spec PyProof.Rows L2
/-! steps of the walk -/
local macro_rules | `(tactic| walk_at "sz") => `(tactic| first | assumption | (rw [sizeLine_eq]; (try simp only [PySem.Str.length_append, trS_len, atS_len, eS_len, dotS_len, List.length_append, List.length_cons, List.length_nil, List.length_map]); omega) | ((try simp only [PySem.Str.length_append, trS_len, atS_len, eS_len, dotS_len, List.length_append, List.length_cons, List.length_nil, List.length_map]); omega))
local macro_rules | `(tactic| walk_at "gr") => `(tactic| first
  | assumption
  | ((with_reducible refine' Stp.gro ?f1); (case f1 => assumption))
  | ((with_reducible refine' Gro.same ?f1); (case f1 => assumption)))
local macro_rules | `(tactic| walk_at "grs") => `(tactic| first | with_reducible exact Gro.refl _ | ((with_reducible refine' Gro.trans ?_ ?g2); (case g2 => walk_at "gr")))
local macro_rules | `(tactic| walk_at "grc") => `(tactic| repeat (walk_at "grs"))
local macro_rules | `(tactic| walk_at "chs") => `(tactic| first
  | assumption
  | ((with_reducible refine' same_at ?e1 ?_); (case e1 => assumption))
  | ((with_reducible refine' Stp.at_ ?e1 ?_ ?e3); (case e1 => assumption); (case e3 => walk_at "hp")))
local macro_rules | `(tactic| walk_at "ch") => `(tactic| repeat (walk_at "chs"))
local macro_rules | `(tactic| walk_at "hp") => `(tactic| first
  | assumption
  | ((with_reducible refine' Stp.drw ?e1); (case e1 => assumption))
  | ((with_reducible refine' SqL.of ?e1); (case e1 => walk_at "hp"))
  | ((with_reducible refine' Drw.mono ?e1 ?e2); (case e1 => assumption); (case e2 => walk_at "hp"))
  | ((with_reducible refine' Scr.mono ?e1 ?e2); (case e2 => assumption); (case e1 => walk_at "grc"))
  | ((with_reducible refine' Dq.mono ?e1 ?e2); (case e2 => assumption); (case e1 => walk_at "grc"))
  | ((with_reducible refine' Dqs.mono ?e1 ?e2); (case e2 => assumption); (case e1 => walk_at "grc"))
  | ((with_reducible refine' Gro.tup ?e1 _ _ ?e2); (case e2 => assumption); (case e1 => walk_at "grc"))
  | ((with_reducible refine' ne_drw' ?e1 ?e2); (case e1 => assumption); (case e2 => walk_at "hp"))
  | ((with_reducible refine' from_ ?e1 ?e2); (case e1 => assumption); (case e2 => (intro hh; walk_at "ch"))))
local macro_rules | `(tactic| walk_at "st") => `(tactic| first
  | with_reducible refine' r_seq ?_
  | with_reducible refine' r_set ?_
  | with_reducible refine' r_if ?_
  | with_reducible refine' r_ret ?_
  | with_reducible refine' r_drop ?_
  | with_reducible refine' r_next ?_
  | with_reducible refine' r_asg ?_
  | with_reducible refine' r_break ?_
  | with_reducible refine' r_cont ?_
  | with_reducible refine' r_retN ?_
  | with_reducible refine' r_par ?_
  | with_reducible refine' r_par2 ?_
  | ((with_reducible refine' r_augI ?h ?_); (case h => rfl)))
local macro_rules | `(tactic| walk_at "ex") => `(tactic| first
  | ((with_reducible refine' r_var ?h ?_); (case h => rfl))
  | with_reducible refine' r_c ?_
  | with_reducible refine' r_op ?_
  | with_reducible refine' r_test ?_
  | with_reducible refine' r_tru ?_
  | with_reducible refine' r_cons ?_
  | with_reducible refine' r_nil ?_
  | with_reducible refine' r_cb ?_
  | with_reducible refine' r_call ?_
  | with_reducible refine' r_bm ?_
  | with_reducible refine' r_bm0 ?_
  | with_reducible refine' r_sl ?_
  | with_reducible refine' r_part ?_
  | with_reducible refine' r_nopart ?_
  | with_reducible refine' r_tup ?_
  | with_reducible refine' r_lst ?_
  | with_reducible refine' r_and ?_
  | with_reducible refine' r_or ?_
  | with_reducible refine' r_not ?_
  | with_reducible refine' r_andT ?_
  | with_reducible refine' r_orT ?_
  | with_reducible refine' r_notT ?_
  | with_reducible refine' r_ifx ?_
  | with_reducible refine' r_un ?_
  | with_reducible refine' r_chain ?_
  | with_reducible refine' r_tB ?_
  | with_reducible refine' r_gname ?_
  | with_reducible refine' r_gsub ?_)
local macro_rules | `(tactic| walk_at "va") => `(tactic| first
  | with_reducible refine' r_bl ?_
  | with_reducible refine' r_trub ?_
  | with_reducible refine' r_trui ?_
  | with_reducible refine' r_trun ?_
  | with_reducible refine' r_ex1 ?_
  | with_reducible refine' r_tys ?_
  | with_reducible refine' r_addI ?_
  | ((with_reducible refine' r_addS ?h ?_); (case h => walk_at "sz"))
  | with_reducible refine' r_eqI ?_
  | with_reducible refine' r_eqS ?_
  | with_reducible refine' r_neI ?_
  | with_reducible refine' r_neS ?_
  | with_reducible refine' r_I0 ?_
  | ((with_reducible refine' r_I ?h ?_); (case h => first | assumption | omega | (refine ⟨?_, ?_⟩ <;> omega) | exact ⟨by omega, by omega, by decide⟩))
  | ((with_reducible refine' r_mulI ?h ?_); (case h => first | exact .inl ⟨by decide, by decide⟩ | exact .inr ⟨by decide, by decide⟩ | exact .inl ⟨by omega, by omega⟩ | exact .inr ⟨by omega, by omega⟩))
  | with_reducible refine' r_intI ?_
  | with_reducible refine' r_intB ?_
  | with_reducible refine' r_S1 ?_
  | ((with_reducible refine' r_S1l ?h ?_); (case h => walk_at "sz"))
  | ((with_reducible refine' r_S0 ?h ?_); (case h => walk_at "sz"))
  | ((with_reducible refine' r_slS ?h ?_); (case h => walk_at "sz"))
  | ((with_reducible refine' r_lenS ?h ?_); (case h => walk_at "sz"))
  | with_reducible refine' r_isN ?_
  | with_reducible refine' r_isB ?_
  | with_reducible refine' r_isnotN ?_
  | with_reducible refine' r_isnotB ?_
  | with_reducible refine' r_inS ?_
  | with_reducible refine' r_notinS ?_
  | with_reducible refine' r_neg ?_
  | ((with_reducible refine' r_isi ?h ?h2 ?_); (case h => first | rfl | exact tyN_t (by walk_at "hp") | exact tyN_l (by walk_at "hp")); (case h2 => first | exact kit_NoneType_int | exact kit_NoneType_bool | exact kit_NoneType_tuple | exact kit_NoneType_str | exact kit_NoneType_list | exact kit_bool_int | exact kit_bool_bool | exact kit_bool_tuple | exact kit_bool_str | exact kit_bool_list | exact kit_int_int | exact kit_int_bool | exact kit_int_tuple | exact kit_int_str | exact kit_int_list | exact kit_str_int | exact kit_str_bool | exact kit_str_tuple | exact kit_str_str | exact kit_str_list | exact kit_list_int | exact kit_list_bool | exact kit_list_tuple | exact kit_list_str | exact kit_list_list | exact kit_tuple_int | exact kit_tuple_bool | exact kit_tuple_tuple | exact kit_tuple_str | exact kit_tuple_list))
  | with_reducible refine' r_iteT ?_
  | with_reducible refine' r_iteF ?_
  | with_reducible refine' r_itnT ?_
  | with_reducible refine' r_itnF ?_
  | ((with_reducible refine' r_new ?h ?_); (case h => walk_at "sz"); intro p H' np sm hp))
local macro_rules | `(tactic| walk_at "hv") => `(tactic| first
  | ((with_reducible refine' r_ixT ?h ?h2 ?_); (case h => walk_at "hp"); (case h2 => first | assumption | rfl | exact atI_nat (j := 0) rfl | exact atI_nat (j := 1) rfl | exact atI_nat (j := 2) rfl | exact atI_nat (j := 3) rfl | exact atI_nat (j := 4) rfl))
  | ((with_reducible refine' r_ixL ?h ?h2 ?_); (case h => walk_at "hp"); (case h2 => first | assumption | rfl | exact atI_nat (j := 0) rfl | exact atI_nat (j := 1) rfl | exact atI_nat (j := 2) rfl | exact atI_nat (j := 3) rfl | exact atI_nat (j := 4) rfl))
  | ((with_reducible refine' r_lenT ?h ?_); (case h => walk_at "hp"))
  | ((with_reducible refine' r_lenL ?h ?_); (case h => walk_at "hp"))
  | ((with_reducible refine' r_tyl ?h ?_); (case h => walk_at "hp"))
  | ((with_reducible refine' r_trul ?h ?_); (case h => walk_at "hp"))
  | ((with_reducible refine' r_trut ?h ?_); (case h => exact SqT.of (by walk_at "hp")))
  | ((with_reducible refine' r_setL ?h ?h2 ?_); (case h => walk_at "hp"); (case h2 => rfl); intro H' hp kp)
  | ((with_reducible refine' r_app ?h ?h2 ?_); (case h => walk_at "hp"); (case h2 => walk_at "sz"); intro H' hp kp)
  | ((with_reducible refine' r_addT ?h ?h1 ?h2 ?_); (case h => walk_at "hp"); (case h1 => walk_at "hp"); (case h2 => walk_at "sz"); intro p H' sm hp)
  | ((with_reducible refine' r_addL ?h ?h1 ?h2 ?_); (case h => walk_at "hp"); (case h1 => walk_at "hp"); (case h2 => walk_at "sz"); intro p H' np sm hp)
  | ((with_reducible refine' r_tupleL ?h ?_); (case h => walk_at "hp"); intro p H' np sm hp)
  | ((with_reducible refine' r_tupleT ?h ?_); (case h => walk_at "hp"))
  | ((with_reducible refine' r_listT ?h ?_); (case h => walk_at "hp"); intro p H' np sm hp)
  | ((with_reducible refine' r_listL ?h ?_); (case h => walk_at "hp"); intro p H' np sm hp)
  | ((with_reducible refine' r_gtup ?h ?h2 ?_); (case h => walk_at "hp"); (case h2 => rfl))
  | with_reducible refine' r_gcons ?_
  | with_reducible refine' r_gnil ?_)
local macro_rules | `(tactic| walk_at "call") => `(tactic| fail "no call")
local macro_rules | `(tactic| walk_at "s") => `(tactic| first | walk_at "st" | walk_at "ex" | walk_at "va" | walk_at "hv" | walk_at "call")
local macro_rules | `(tactic| walk_at "go") => `(tactic| repeat (walk_at "s"))
local macro_rules | `(tactic| walk_at "br") => `(tactic| first
  | ((with_reducible refine' r_ite ?_ ?_) <;> intro hc)
  | ((with_reducible refine' r_iten ?_ ?_) <;> intro hc)
  | ((with_reducible refine' r_itb ?_ ?_) <;> intro hc))
local macro_rules | `(tactic| walk_at "all") => `(tactic| repeat' (first | walk_at "s" | walk_at "br"))
local macro_rules | `(tactic| walk_at "nat") => `(tactic| first | omega | ((try simp only [List.length_map, List.length_cons, List.length_nil]); omega) | assumption | decide)
local macro_rules | `(tactic| walk_at "ex") => `(tactic| first | with_reducible refine' r_lcr ?_ | with_reducible refine' r_lcu ?_ | with_reducible refine' r_forr ?_ | with_reducible refine' r_foru ?_)
/-! own classes -/
local macro_rules | `(tactic| walk_at "lk") => `(tactic| first | with_reducible exact lk_hd | ((with_reducible refine' lk_tl ?h1 ?h2); (case h1 => decide +kernel); (case h2 => walk_at "lk")) | with_reducible exact lk_nil)
local macro_rules | `(tactic| walk_at "pf") => `(tactic| first | with_reducible exact pf_nil | with_reducible exact pf_hd | ((with_reducible refine' pf_tl ?h1 ?h2); (case h1 => decide +kernel); (case h2 => walk_at "pf")))
local macro_rules | `(tactic| walk_at "hp") => `(tactic| first
  | ((with_reducible refine' Ins.same ?e1 ?e2); (case e1 => assumption); (case e2 => walk_at "hp"))
  | ((with_reducible refine' Ins.stp ?e1 ?e2 ?e3); (case e1 => assumption); (case e2 => walk_at "hp"); (case e3 => walk_at "hp")))
local macro_rules | `(tactic| walk_at "ex") => `(tactic| first
  | with_reducible refine' r_fld ?_
  | with_reducible refine' r_sfld ?_
  | with_reducible refine' r_meth ?_
  | with_reducible refine' r_make ?_
  | with_reducible refine' r_strS ?_
  | ((with_reducible refine' r_strI ?h ?_); (case h => walk_at "nat")))
local macro_rules | `(tactic| walk_at "hv") => `(tactic| first
  | ((with_reducible refine' r_fldv ?h ?h2 ?h3 ?h4 ?_); (case h => walk_at "hp"); (case h2 => assumption); (case h3 => assumption); (case h4 => walk_at "lk"))
  | ((with_reducible refine' r_methv ?h ?h2 ?_); (case h => walk_at "hp"); (case h2 => walk_at "lk"))
  | ((with_reducible refine' r_sfldv ?h ?h2 ?h3 ?h4 ?h5 ?_); (case h => walk_at "hp"); (case h2 => assumption); (case h3 => assumption); (case h4 => first | decide | (simp only [List.length_cons, List.length_nil]; decide)); (case h5 => walk_at "pf"); intro H' hi hk))
local macro_rules | `(tactic| walk_at "hv") => `(tactic| first
  | ((with_reducible refine' r_inTs ?h ?_); (case h => walk_at "hp"))
  | ((with_reducible refine' r_inLs ?h ?_); (case h => walk_at "hp")))
local macro_rules | `(tactic| walk_at "va") => `(tactic| first
  | with_reducible refine' r_isNN ?_
  | with_reducible refine' r_isNS ?_
  | with_reducible refine' r_isNI ?_
  | with_reducible refine' r_isNR ?_
  | with_reducible refine' r_isNB ?_
  | with_reducible refine' r_isnotNN ?_
  | with_reducible refine' r_isnotNS ?_
  | with_reducible refine' r_isnotNI ?_
  | with_reducible refine' r_isnotNR ?_
  | with_reducible refine' r_isnotNB ?_)
local macro_rules | `(tactic| walk_at "ex") => `(tactic| first
  | with_reducible refine' r_fldaug ?_
  | with_reducible refine' r_inAdd ?_
  | with_reducible refine' r_inSub ?_
  | with_reducible refine' r_callS ?_
  | with_reducible refine' r_methX ?_
  | with_reducible refine' r_raise0 ?_
  | with_reducible refine' r_raise1 ?_
  | with_reducible refine' r_tryA ?_
  | with_reducible refine' r_tryO ?_)
local macro_rules | `(tactic| walk_at "hv") => `(tactic| first
  | ((with_reducible refine' r_augq ?h ?h2 ?h3 ?h4 ?_); (case h => walk_at "hp"); (case h2 => assumption); (case h3 => assumption); (case h4 => walk_at "lk"))
  | ((with_reducible refine' r_putq ?h ?h4 ?h5 ?_); (case h => walk_at "hp"); (case h4 => first | decide | (simp only [List.length_cons, List.length_nil]; decide)); (case h5 => walk_at "pf"); intro H' hi hk))
local macro_rules | `(tactic| walk_at "chs") => `(tactic| first
  | ((with_reducible refine' Fput.lst ?e1 ?_); (case e1 => assumption))
  | ((with_reducible refine' Fput.tup ?e1 ?_); (case e1 => assumption))
  | ((with_reducible refine' but_at ?e1 ?_ ?e3); (case e1 => assumption); (case e3 => first | assumption | exact Ne.symm (by assumption))))
local macro_rules | `(tactic| walk_at "gr") => `(tactic| ((with_reducible refine' Fput.gro ?f1); (case f1 => assumption)))
local macro_rules | `(tactic| walk_at "hp") => `(tactic| first
  | ((with_reducible refine' Ins.fput ?e1 ?e2 ?e3); (case e1 => assumption); (case e2 => first | assumption | exact Ne.symm (by assumption)); (case e3 => walk_at "hp"))
  | ((with_reducible refine' Fput.drw ?e1 ?e2); (case e1 => assumption); (case e2 => walk_at "hp")))
local macro_rules | `(tactic| walk_at "hv") => `(tactic| ((with_reducible refine' r_slL ?h ?_); (case h => walk_at "hp"); intro p H' np sm hp))
local macro_rules | `(tactic| walk_at "va") => `(tactic| first
  | ((with_reducible refine' r_isX ?h ?h2 ?_); (case h => assumption); (case h2 => assumption))
  | ((with_reducible refine' r_isXt ?h ?h2 ?_); (case h => assumption); (case h2 => assumption)))
local macro_rules | `(tactic| walk_at "va") => `(tactic| with_reducible refine' r_min2 ?_)
local macro_rules | `(tactic| walk_at "hv") => `(tactic| ((with_reducible refine' r_slT ?h ?_); (case h => walk_at "hp"); intro p H' sm hp))
/-! boxes: attributes as targets, del, sorted, enumerate -/
local macro_rules | `(tactic| walk_at "ex") => `(tactic| first
  | with_reducible refine' r_gfld ?_
  | with_reducible refine' r_delL ?_
  | with_reducible refine' r_fore ?_)
local macro_rules | `(tactic| walk_at "hv") => `(tactic| first
  | ((with_reducible refine' r_sortI ?h ?_); (case h => walk_at "hp"); intro p ns' H' np pm pw sm hp)
  | ((with_reducible refine' r_setT ?h ?h2 ?_); (case h => walk_at "hp"); (case h2 => walk_at "nat"); intro p l H' np mem nd le sm hp)
  | ((with_reducible refine' r_sortT ?h ?h2 ?_); (case h => walk_at "hp"); (case h2 => walk_at "nat"); intro r ys H' nr pm so sm hp))
/-! copies -/
local macro_rules | `(tactic| walk_at "ex") => `(tactic| with_reducible refine' r_sortK ?_)
local macro_rules | `(tactic| walk_at "hv") => `(tactic| first
  | ((with_reducible refine' r_ninTi ?h ?_); (case h => walk_at "hp"))
  | ((with_reducible refine' r_ninLi ?h ?_); (case h => walk_at "hp")))

/-! records -/
local macro_rules | `(tactic| walk_at "st") => `(tactic| first | ((with_reducible refine' r_augShr ?h ?_); (case h => rfl)) | with_reducible refine' r_raiseP ?_)
local macro_rules | `(tactic| walk_at "ex") => `(tactic| first | with_reducible refine' r_forr2 ?_ | with_reducible refine' r_xf ?_ | with_reducible refine' r_tryMA ?_ | with_reducible refine' r_tryMO ?_)
local macro_rules | `(tactic| walk_at "va") => `(tactic| first | with_reducible refine' r_neB ?_ | with_reducible refine' r_ord ?_ | ((with_reducible refine' r_mkP ?_); intro dx nd sm))
local macro_rules | `(tactic| walk_at "hv") => `(tactic| ((with_reducible refine' r_ext ?h ?h2 ?h3 ?_); (case h => walk_at "hp"); (case h2 => walk_at "hp"); (case h3 => walk_at "sz"); intro H' hp kp))
local macro_rules | `(tactic| walk_at "dec") => `(tactic| first
  | ((with_reducible refine' r_decT ?h ?_); (case h => with_reducible rfl))
  | ((with_reducible refine' r_decnF ?h ?_); (case h => with_reducible rfl))
  | ((with_reducible refine' r_decT ?h ?_); (case h => first | omega | (simp only [List.length_cons, List.length_nil]; omega)))
  | ((with_reducible refine' r_decF ?h ?_); (case h => first | omega | (simp only [List.length_cons, List.length_nil]; omega)))
  | ((with_reducible refine' r_decnT ?h ?_); (case h => first | omega | (simp only [List.length_cons, List.length_nil]; omega)))
  | ((with_reducible refine' r_decnF ?h ?_); (case h => first | omega | (simp only [List.length_cons, List.length_nil]; omega))))
local macro_rules | `(tactic| walk_at "decS") => `(tactic| first
  | ((with_reducible refine' r_decT ?h ?_); (case h => decide +kernel))
  | ((with_reducible refine' r_decF ?h ?_); (case h => decide +kernel))
  | ((with_reducible refine' r_decnT ?h ?_); (case h => decide +kernel))
  | ((with_reducible refine' r_decnF ?h ?_); (case h => decide +kernel)))
local macro_rules | `(tactic| walk_at "god") => `(tactic| repeat (first | walk_at "s" | walk_at "dec" | walk_at "decS"))
local macro_rules | `(tactic| walk_at "va") => `(tactic| first
  | ((with_reducible refine' r_I ?h ?_); (case h => exact cdivW (by omega) (by omega)))
  | ((with_reducible refine' r_mulSI ?h ?_); (case h => first | exact .inl ⟨by decide, by decide⟩ | exact .inr ⟨by decide, by decide⟩ | exact .inl ⟨by omega, by omega⟩ | exact .inr ⟨by omega, by omega⟩))
  | ((with_reducible refine' r_mulSS ?h ?h2 ?_); (case h => exact ⟨by omega, by omega⟩); (case h2 => first | exact ⟨by omega, by omega⟩ | exact ⟨by decide +kernel, by decide +kernel⟩)))
local macro_rules | `(tactic| walk_at "hv") => `(tactic| first
  | ((with_reducible refine' r_xfv ?h ?_); (case h => walk_at "hp"))
  | ((with_reducible refine' r_isY ?h ?hx ?hk ?_); (case h => assumption); (case hx => walk_at "hp"); (case hk => assumption)))
local macro_rules | `(tactic| walk_at "ex") => `(tactic| with_reducible refine' r_tupRg ?_)
local macro_rules | `(tactic| walk_at "va") => `(tactic| ((with_reducible refine' r_rgq ?h ?h2 ?_); (case h => omega); (case h2 => omega); intro p H' np sm hp))

/-! steps that may grow tables -/
local macro_rules | `(tactic| walk_at "ex") => `(tactic| with_reducible refine' r_gx ?_)
local macro_rules | `(tactic| walk_at "gr") => `(tactic| ((with_reducible refine' Sam.gro ?f1); (case f1 => assumption)))
local macro_rules | `(tactic| walk_at "chs") => `(tactic| first
  | ((with_reducible refine' Sam.lst ?e1 ?_); (case e1 => assumption))
  | ((with_reducible refine' Sam.tup ?e1 ?_); (case e1 => assumption)))
local macro_rules | `(tactic| walk_at "hp") => `(tactic| first
  | ((with_reducible refine' Sam.drw ?e1 ?e2); (case e1 => assumption); (case e2 => walk_at "hp"))
  | ((with_reducible refine' Sam.ins ?e1 ?e2); (case e1 => assumption); (case e2 => walk_at "hp"))
  | ((with_reducible refine' Sam.tabG ?e1 ?e2); (case e1 => assumption); (case e2 => walk_at "hp"))
  | ((with_reducible refine' tabG_same ?e1 ?e2); (case e1 => assumption); (case e2 => walk_at "hp")))

def top (i : Nat) : Stmt := PySem.Challenge.pw_dawkline_k02_strings_that_are_no_address.main.body.getD i (.Pass ⟨0, 0, 0, 0⟩)

/-! ### consists_of -/
abbrev s_consists_of : Stmt := top 11
abbrev N_consists_of : List Str := ["text", "signs", "sign"]
theorem sc_consists_of : FnScope N_consists_of ["text", "signs"] (defScope s_consists_of) := ⟨rfl, rfl, rfl, by decide +kernel, rfl, by decide +kernel, by decide +kernel⟩
theorem bi_consists_of : BindOk "consists_of" s_consists_of ["text", "signs"] := fun _ _ _ _ _ _ us hl => match us, hl with | [_, _], _ => rfl
def sp_consists_of (K : PySem.W.Frag) : Sp := sp2 fun x y H Q _ => ∃ t u : Str, x = .str t ∧ y = .str u ∧ GxR.TabG H (He.cT K ("consists_of", none)).2 ∧ ∀ H', Sam H H' → Q (.bl ((TL.tl t).all fun c => decide (c ∈ TL.tl u))) H'
theorem use_consists_of {K : PySem.W.Frag} {t u : Str} {H : Hp} {Q : VK} {E : XK} (h1 : GxR.TabG H (He.cT K ("consists_of", none)).2) (k : ∀ H', Sam H H' → Q (.bl ((TL.tl t).all fun c => decide (c ∈ TL.tl u))) H') : sp_consists_of K [.str t, .str u] H Q E := ⟨t, u, rfl, rfl, h1, k⟩
theorem ok_consists_of {e : Wd} (D : DefAtL e "consists_of" s_consists_of (He.cT e.K (("consists_of", none) : Str × Option Str)).1 (He.cT e.K (("consists_of", none) : Str × Option Str)).2) (B : Bl e.mg) : Can e 3 "consists_of" ["text", "signs"] (sp_consists_of e.K) := by
  refine canL_of D sc_consists_of bi_consists_of (fun _ _ _ _ h => sp2_len h) (fun tb f A outer s H vs Q E hr h => ?_)
  obtain ⟨v0, v1, rfl, h⟩ := sp2_ex h
  have nd := sc_consists_of.nd
  obtain ⟨t, u, rfl, rfl, tg, k⟩ := h
  refine ⟨_, (pss_one (ps_ret (pe_allU (K := e.K) (k := 1) (i := 2) hr B.b_all tb (genB_by (N := N_consists_of) (sc := defScope s_consists_of) (by decide +kernel)) nd (pv 0) (fun _ _ _ _ _ _ _ hr => (pe_cmpR (op_inU (K := e.K) hr) (pv 2) (pv 1) rfl))))), ?_⟩
  walk_at "go"
  refine gx_S (fun c => decide (c ∈ TL.tl u)) tg (fun a H1 Q1 ha s1 k1 => ?_) (fun H1 s1 => ?_)
  · walk_at "go"
    rw [occ_one]
    exact k1 _ (Sam.refl _)
  · have e : gxB true ((TL.tl t).map fun c => decide (c ∈ TL.tl u)) = (TL.tl t).all fun c => decide (c ∈ TL.tl u) := by
      show ((TL.tl t).map _).all id = _
      rw [List.all_map]
      rfl
    rw [e]
    exact k _ s1

/-! ### is_local -/
abbrev s_is_local : Stmt := top 12
abbrev N_is_local : List Str := ["text"]
theorem sc_is_local : FnScope N_is_local ["text"] (defScope s_is_local) := ⟨rfl, rfl, rfl, by decide +kernel, rfl, by decide +kernel, by decide +kernel⟩
theorem bi_is_local : BindOk "is_local" s_is_local ["text"] := fun _ _ _ _ _ _ us hl => match us, hl with | [_], _ => rfl
def sp_is_local (K : PySem.W.Frag) : Sp := sp1 fun x H Q _ => ∃ t : Str, x = .str t ∧ t.length ≤ 1000000 ∧ GxR.TabG H (He.cT K ("consists_of", none)).2 ∧ ∀ H', Sam H H' → Q (.bl (locB (TL.tl t))) H'
theorem use_is_local {K : PySem.W.Frag} {t : Str} {H : Hp} {Q : VK} {E : XK} (h0 : t.length ≤ 1000000) (h1 : GxR.TabG H (He.cT K ("consists_of", none)).2) (k : ∀ H', Sam H H' → Q (.bl (locB (TL.tl t))) H') : sp_is_local K [.str t] H Q E := ⟨t, rfl, h0, h1, k⟩
theorem ok_is_local {e : Wd} (D : DefAt e "is_local" s_is_local) (B : Bl e.mg) (g_MOST_LOCAL : ∃ t, e.mg "MOST_LOCAL" = some (.int (40) t)) (g_LOCAL_SIGNS : ∃ t, e.mg "LOCAL_SIGNS" = some (.str ("abcdefghijklmnopqrstuvwxyz0123456789.-_+" : Str) t)) (c_consists_of : Can e 3 "consists_of" ["text", "signs"] (sp_consists_of e.K)) : Can e 4 "is_local" ["text"] (sp_is_local e.K) := by
  refine can_of D sc_is_local bi_is_local (fun _ _ _ _ h => sp1_len h) (fun cdv f A outer s H vs Q E hr h => ?_)
  obtain ⟨v0, rfl, h⟩ := sp1_ex h
  have nd := sc_is_local.nd
  obtain ⟨t, rfl, hl, tg, k⟩ := h
  refine ⟨_, (pss_cons (ps_if (PW.pt (pw_or (pt_cmpR (op_eqU (K := e.K) hr) (pv 0) pe_str (nomark _)) (pw_or (pt_cmpR op_gtU (pe_callB (call_lenU (K := e.K)) (by rfl) B.b_len bt_len (pa_cons (pv 0) pa_nil)) (pe_gi g_MOST_LOCAL) (nomark _)) (pw_or1 (pt_not (pt_tru (K := e.K) (pe_can c_consists_of (hr.mono (by first | decide | omega)) passL (pa_cons (pv 0) (pa_cons (pe_gs g_LOCAL_SIGNS) pa_nil))))))))) (pss_one (ps_ret pe_bl)) pss_nil)
    (pss_one (ps_ret (pe_andU (K := e.K) (pe_notU (K := e.K) (pe_bmU (K := e.K) PySem.F.plainAttrs_str PySem.F.slot_str_startswith PySem.F.type_str_startswith mt_startsU (pv 0) (pa_cons pe_str pa_nil))) (pe_andU (K := e.K) (pe_notU (K := e.K) (pe_bmU (K := e.K) PySem.F.plainAttrs_str PySem.F.slot_str_endswith PySem.F.type_str_endswith mt_endsU (pv 0) (pa_cons pe_str pa_nil))) (pe_one (pe_cmpR (op_notInU (K := e.K) hr) pe_str (pv 0) rfl))))))), ?_⟩
  have ln := TL.len_tl t
  walk_at "go"
  refine r_ite (fun c0 => ?_) (fun c0 => ?_)
  · walk_at "god"
    have z := (e_iff t).mp c0
    have e : locB (TL.tl t) = false := by
      unfold locB
      rw [decide_eq_false (show ¬ 1 ≤ (TL.tl t).length by omega)] <;> rfl
    rw [e] at k
    exact k _ (Sam.refl _)
  · have z : t.length ≠ 0 := fun z => c0 ((e_iff t).mpr z)
    walk_at "go"
    refine r_ite (fun c1 => ?_) (fun c1 => ?_)
    · walk_at "god"
      have e : locB (TL.tl t) = false := by
        unfold locB
        rw [decide_eq_false (show ¬ (TL.tl t).length ≤ 40 by omega), Bool.and_false] <;> rfl
      rw [e] at k
      exact k _ (Sam.refl _)
    · walk_at "go"
      refine use_consists_of tg (fun H1 s1 => ?_)
      have e : locB (TL.tl t) = ((TL.tl t).all (fun c => decide (c ∈ TL.tl locS)) && !Txt.startswith t (Str.ofString ".") && !Txt.endswith t (Str.ofString ".") && !occ (Str.ofString "..") t) := by
        unfold locB
        rw [decide_eq_true (show 1 ≤ (TL.tl t).length by omega), decide_eq_true (show (TL.tl t).length ≤ 40 by omega), starts_dotA, ends_dotA, occ_dd] <;> rfl
      rw [e] at k
      generalize (TL.tl t).all (fun c => decide (c ∈ TL.tl locS)) = b0 at k ⊢
      walk_at "go"
      generalize hb1 : Txt.startswith t (Str.ofString ".") = b1 at k
      generalize hb2 : Txt.endswith t (Str.ofString ".") = b2 at k
      generalize hb3 : occ (Str.ofString "..") t = b3 at k
      cases b0 with
      | false =>
        walk_at "god"
        exact k _ s1
      | true =>
        walk_at "go"
        rw [hb1]
        cases b1 with
        | true =>
          walk_at "god"
          exact k _ s1
        | false =>
          walk_at "go"
          rw [hb2]
          cases b2 with
          | true =>
            walk_at "god"
            exact k _ s1
          | false =>
            walk_at "go"
            rw [hb3]
            exact k _ s1

/-! ### is_label -/
abbrev s_is_label : Stmt := top 13
abbrev N_is_label : List Str := ["text"]
theorem sc_is_label : FnScope N_is_label ["text"] (defScope s_is_label) := ⟨rfl, rfl, rfl, by decide +kernel, rfl, by decide +kernel, by decide +kernel⟩
theorem bi_is_label : BindOk "is_label" s_is_label ["text"] := fun _ _ _ _ _ _ us hl => match us, hl with | [_], _ => rfl
def sp_is_label (K : PySem.W.Frag) : Sp := sp1 fun x H Q _ => ∃ t : Str, x = .str t ∧ t.length ≤ 1000000 ∧ GxR.TabG H (He.cT K ("consists_of", none)).2 ∧ ∀ H', Sam H H' → Q (.bl (labB (TL.tl t))) H'
theorem use_is_label {K : PySem.W.Frag} {t : Str} {H : Hp} {Q : VK} {E : XK} (h0 : t.length ≤ 1000000) (h1 : GxR.TabG H (He.cT K ("consists_of", none)).2) (k : ∀ H', Sam H H' → Q (.bl (labB (TL.tl t))) H') : sp_is_label K [.str t] H Q E := ⟨t, rfl, h0, h1, k⟩
theorem ok_is_label {e : Wd} (D : DefAt e "is_label" s_is_label) (B : Bl e.mg) (g_MOST_LABEL : ∃ t, e.mg "MOST_LABEL" = some (.int (20) t)) (g_LABEL_SIGNS : ∃ t, e.mg "LABEL_SIGNS" = some (.str ("abcdefghijklmnopqrstuvwxyz0123456789-" : Str) t)) (c_consists_of : Can e 3 "consists_of" ["text", "signs"] (sp_consists_of e.K)) : Can e 4 "is_label" ["text"] (sp_is_label e.K) := by
  refine can_of D sc_is_label bi_is_label (fun _ _ _ _ h => sp1_len h) (fun cdv f A outer s H vs Q E hr h => ?_)
  obtain ⟨v0, rfl, h⟩ := sp1_ex h
  have nd := sc_is_label.nd
  obtain ⟨t, rfl, hl, tg, k⟩ := h
  refine ⟨_, (pss_cons (ps_if (PW.pt (pw_or (pt_cmpR (op_eqU (K := e.K) hr) (pv 0) pe_str (nomark _)) (pw_or (pt_cmpR op_gtU (pe_callB (call_lenU (K := e.K)) (by rfl) B.b_len bt_len (pa_cons (pv 0) pa_nil)) (pe_gi g_MOST_LABEL) (nomark _)) (pw_or1 (pt_not (pt_tru (K := e.K) (pe_can c_consists_of (hr.mono (by first | decide | omega)) passL (pa_cons (pv 0) (pa_cons (pe_gs g_LABEL_SIGNS) pa_nil))))))))) (pss_one (ps_ret pe_bl)) pss_nil)
    (pss_one (ps_ret (pe_andU (K := e.K) (pe_notU (K := e.K) (pe_bmU (K := e.K) PySem.F.plainAttrs_str PySem.F.slot_str_startswith PySem.F.type_str_startswith mt_startsU (pv 0) (pa_cons pe_str pa_nil))) (pe_one (pe_notU (K := e.K) (pe_bmU (K := e.K) PySem.F.plainAttrs_str PySem.F.slot_str_endswith PySem.F.type_str_endswith mt_endsU (pv 0) (pa_cons pe_str pa_nil)))))))), ?_⟩
  have ln := TL.len_tl t
  walk_at "go"
  refine r_ite (fun c0 => ?_) (fun c0 => ?_)
  · walk_at "god"
    have z := (e_iff t).mp c0
    have e : labB (TL.tl t) = false := by
      unfold labB
      rw [decide_eq_false (show ¬ 1 ≤ (TL.tl t).length by omega)] <;> rfl
    rw [e] at k
    exact k _ (Sam.refl _)
  · have z : t.length ≠ 0 := fun z => c0 ((e_iff t).mpr z)
    walk_at "go"
    refine r_ite (fun c1 => ?_) (fun c1 => ?_)
    · walk_at "god"
      have e : labB (TL.tl t) = false := by
        unfold labB
        rw [decide_eq_false (show ¬ (TL.tl t).length ≤ 20 by omega), Bool.and_false] <;> rfl
      rw [e] at k
      exact k _ (Sam.refl _)
    · walk_at "go"
      refine use_consists_of tg (fun H1 s1 => ?_)
      have e : labB (TL.tl t) = ((TL.tl t).all (fun c => decide (c ∈ TL.tl labS)) && !Txt.startswith t (Str.ofString "-") && !Txt.endswith t (Str.ofString "-")) := by
        unfold labB
        rw [decide_eq_true (show 1 ≤ (TL.tl t).length by omega), decide_eq_true (show (TL.tl t).length ≤ 20 by omega), starts_hyA, ends_hyA] <;> rfl
      rw [e] at k
      generalize (TL.tl t).all (fun c => decide (c ∈ TL.tl labS)) = b0 at k ⊢
      walk_at "go"
      generalize hb1 : Txt.startswith t (Str.ofString "-") = b1 at k
      generalize hb2 : Txt.endswith t (Str.ofString "-") = b2 at k
      cases b0 with
      | false =>
        walk_at "god"
        exact k _ s1
      | true =>
        walk_at "go"
        rw [hb1]
        cases b1 with
        | true =>
          walk_at "god"
          exact k _ s1
        | false =>
          walk_at "go"
          rw [hb2]
          exact k _ s1

/-! ### is_domain -/
abbrev s_is_domain : Stmt := top 14
abbrev N_is_domain : List Str := ["text", "label"]
theorem sc_is_domain : FnScope N_is_domain ["text"] (defScope s_is_domain) := ⟨rfl, rfl, rfl, by decide +kernel, rfl, by decide +kernel, by decide +kernel⟩
theorem bi_is_domain : BindOk "is_domain" s_is_domain ["text"] := fun _ _ _ _ _ _ us hl => match us, hl with | [_], _ => rfl
def TabA (K : PySem.W.Frag) (H : Hp) : Prop := GxR.TabG H (He.cT K ("consists_of", none)).2 ∧ GxR.TabG H (He.cT K ("is_domain", none)).2
theorem Sam.tabA {K : PySem.W.Frag} {H H' : Hp} (s : Sam H H') (h : TabA K H) : TabA K H' := ⟨s.tabG h.1, s.tabG h.2⟩
theorem tabA_same {K : PySem.W.Frag} {H H' : Hp} (s : Same H H') (h : TabA K H) : TabA K H' := (Sam.same s).tabA h
def sp_is_domain (K : PySem.W.Frag) : Sp := sp1 fun x H Q _ => ∃ t : Str, x = .str t ∧ t.length ≤ 1000000 ∧ TabA K H ∧ ∀ H', Sam H H' → Q (.bl (domB t)) H'
theorem use_is_domain {K : PySem.W.Frag} {t : Str} {H : Hp} {Q : VK} {E : XK} (h0 : t.length ≤ 1000000) (h1 : TabA K H) (k : ∀ H', Sam H H' → Q (.bl (domB t)) H') : sp_is_domain K [.str t] H Q E := ⟨t, rfl, h0, h1, k⟩
theorem ok_is_domain {e : Wd} (D : DefAtL e "is_domain" s_is_domain (He.cT e.K (("is_domain", none) : Str × Option Str)).1 (He.cT e.K (("is_domain", none) : Str × Option Str)).2) (B : Bl e.mg) (g_MOST_DOMAIN : ∃ t, e.mg "MOST_DOMAIN" = some (.int (80) t)) (c_is_label : Can e 4 "is_label" ["text"] (sp_is_label e.K)) : Can e 6 "is_domain" ["text"] (sp_is_domain e.K) := by
  refine canL_of D sc_is_domain bi_is_domain (fun _ _ _ _ h => sp1_len h) (fun tb f A outer s H vs Q E hr h => ?_)
  obtain ⟨v0, rfl, h⟩ := sp1_ex h
  have nd := sc_is_domain.nd
  obtain ⟨t, rfl, hl, tg, k⟩ := h
  refine ⟨_, (pss_one (ps_ret (pe_andU (K := e.K) (pe_cmpR op_leU (pe_callB (call_lenU (K := e.K)) (by rfl) B.b_len bt_len (pa_cons (pv 0) pa_nil)) (pe_gi g_MOST_DOMAIN) (nomark _)) (pe_one (pe_allU (K := e.K) (k := 4) (i := 1) hr B.b_all tb (genB_by (N := N_is_domain) (sc := defScope s_is_domain) (by decide +kernel)) nd (pe_bmU (K := e.K) PySem.F.plainAttrs_str PySem.F.slot_str_split PySem.F.type_str_split mt_splitU (pv 0) (pa_cons pe_str pa_nil)) (fun _ _ _ _ _ _ _ hr => (pe_can c_is_label (hr.mono (by first | decide | omega)) passL (pa_cons (pv 1) pa_nil)))))))), ?_⟩
  have nd1 : ((Str.ofString ".").length == 0) = false := by decide +kernel
  walk_at "go"
  refine r_ite (fun c0 => ?_) (fun c0 => ?_)
  · walk_at "go"
    refine r_split nd1 (by rw [sizeLine_eq]; omega) (fun p H1 n1 m1 h1 => ?_)
    walk_at "go"
    refine gx_L (SqL.of h1) (fun v => match v with | .str z => labB (TL.tl z) | _ => false) (tabG_same m1 tg.2) (fun a H2 Q1 ha s2 k1 => ?_) (fun H2 s2 => ?_)
    · obtain ⟨z, hz, rfl⟩ := List.mem_map.mp ha
      have lz := part_short hz
      have tg2 := s2.tabG (tabG_same m1 tg.1)
      walk_at "go"
      exact use_is_label (by omega) tg2 k1
    · have e : gxB true (((Txt.split t (Str.ofString ".")).map V.str).map fun v => match v with | .str z => labB (TL.tl z) | _ => false) = domB t := by
        unfold domB
        rw [decide_eq_true (show t.length ≤ 80 by omega), Bool.true_and, List.map_map]
        show ((Txt.split t (Str.ofString ".")).map _).all id = _
        rw [List.all_map]
        rfl
      rw [e]
      exact k _ ((Sam.same m1).trans s2)
  · have e : domB t = false := by
      unfold domB
      rw [decide_eq_false (show ¬ t.length ≤ 80 by omega)] <;> rfl
    rw [e] at k
    rw [decide_eq_false c0]
    exact k _ (Sam.refl _)

/-! ### parse_address -/
abbrev s_parse_address : Stmt := top 15
abbrev N_parse_address : List Str := ["text", "parts"]
theorem sc_parse_address : FnScope N_parse_address ["text"] (defScope s_parse_address) := ⟨rfl, rfl, rfl, by decide +kernel, rfl, by decide +kernel, by decide +kernel⟩
theorem bi_parse_address : BindOk "parse_address" s_parse_address ["text"] := fun _ _ _ _ _ _ us hl => match us, hl with | [_], _ => rfl
def sp_parse_address (K : PySem.W.Frag) : Sp := sp1 fun x H Q E => ∃ t : Str, x = .str t ∧ t.length ≤ 10000 ∧ TabA K H ∧ (∀ a b, addrM t = some (a, b) → ∀ p H', H p = none → Sam H H' → H' p = some (.tup [.str a, .str b]) → Q (.ref p) H') ∧ (addrM t = none → ∀ H', Sam H H' → E (.ref (He.ga K "InvalidAddress")) none H')
theorem use_parse_address {K : PySem.W.Frag} {t : Str} {H : Hp} {Q : VK} {E : XK} (h0 : t.length ≤ 10000) (h1 : TabA K H) (k1 : ∀ a b, addrM t = some (a, b) → ∀ p H', H p = none → Sam H H' → H' p = some (.tup [.str a, .str b]) → Q (.ref p) H') (k2 : addrM t = none → ∀ H', Sam H H' → E (.ref (He.ga K "InvalidAddress")) none H') : sp_parse_address K [.str t] H Q E := ⟨t, rfl, h0, h1, k1, k2⟩
theorem ok_parse_address {e : Wd} (D : DefAt e "parse_address" s_parse_address) (B : Bl e.mg) (gm_InvalidAddress : e.mg "InvalidAddress" = some (.ref (He.ga e.K "InvalidAddress"))) (xo_InvalidAddress : Xco e.K (He.ga e.K "InvalidAddress")) (c_is_local : Can e 4 "is_local" ["text"] (sp_is_local e.K)) (c_is_domain : Can e 6 "is_domain" ["text"] (sp_is_domain e.K)) : Can e 7 "parse_address" ["text"] (sp_parse_address e.K) := by
  refine canX_of D sc_parse_address bi_parse_address (fun _ _ _ _ h => sp1_len h) (fun cdv f A outer s H vs Q E hr h tk po => ?_)
  obtain ⟨v0, rfl, h⟩ := sp1_ex h
  have nd := sc_parse_address.nd
  obtain ⟨t, rfl, hl, tg, k1, k2⟩ := h
  have nd1 : ((Str.ofString "@").length == 0) = false := by decide +kernel
  have ll := PyProof.Rows.len_lower t
  refine ⟨_, (pss_cons (ps_set (i := 1) nd rfl (by first | exact Or.inl rfl | exact Or.inr rfl) (pe_bmU (K := e.K) PySem.F.plainAttrs_str PySem.F.slot_str_split PySem.F.type_str_split mt_splitU (pe_bm0U (K := e.K) PySem.F.plainAttrs_str PySem.F.slot_str_lower PySem.F.type_str_lower mt_lowerU (pv 0)) (pa_cons pe_str pa_nil)))
    (pss_cons (ps_if (PW.pt (pw_or (pt_cmpR (op_neU (K := e.K) hr) (pe_callB (call_lenU (K := e.K)) (by rfl) B.b_len bt_len (pa_cons (pv 1) pa_nil)) pe_int (nomark _)) (pw_or (pt_not (pt_tru (K := e.K) (pe_canX tk c_is_local (hr.mono (by first | decide | omega)) (pa_cons (pe_ix (ix_U (K := e.K)) (pv 1) pe_int (fun _ _ => rfl)) pa_nil)))) (pw_or1 (pt_not (pt_tru (K := e.K) (pe_canX tk c_is_domain (hr.mono (by first | decide | omega)) (pa_cons (pe_ix (ix_U (K := e.K)) (pv 1) pe_int (fun _ _ => rfl)) pa_nil)))))))) (pss_one (ps_raiseU rfl tk (mk1 xo_InvalidAddress gm_InvalidAddress (pv 0)))) pss_nil)
    (pss_one (ps_ret (pe_tup (pa_cons (pe_ix (ix_U (K := e.K)) (pv 1) pe_int (fun _ _ => rfl)) (pa_cons (pe_ix (ix_U (K := e.K)) (pv 1) pe_int (fun _ _ => rfl)) pa_nil))))))), ?_⟩
  walk_at "go"
  refine r_split nd1 (by rw [sizeLine_eq]; omega) (fun p H1 n1 m1 h1 => ?_)
  unfold addrM at k1 k2
  generalize hps : Txt.split (Txt.lower t) (Str.ofString "@") = ps at k1 k2 h1
  have tg1 := tabA_same m1 tg
  have hp : ∀ a ∈ ps, a.length ≤ 30000 := fun a ha => by
    have := part_short (hps ▸ ha)
    omega
  walk_at "go"
  refine r_iten (fun c0 => ?_) (fun c0 => ?_)
  · rw [List.length_map] at c0
    walk_at "god"
    exact k2 (addrP_ne (by omega)) _ (Sam.same m1)
  · rw [List.length_map] at c0
    obtain ⟨a, b, rfl⟩ := two_of (ps := ps) (by omega)
    have la := hp a (by simp)
    have lb := hp b (by simp)
    have h1 : H1 p = some (.lst [.str a, .str b]) := h1
    have e : addrP [a, b] = if (locB (TL.tl a) && domB b) = true then some (a, b) else none := rfl
    rw [e] at k1 k2
    walk_at "go"
    refine use_is_local (by omega) tg1.1 (fun H2 s2 => ?_)
    have h2 := s2.lst h1
    have tg2 := s2.tabA tg1
    generalize locB (TL.tl a) = b0 at k1 k2 ⊢
    cases b0 with
    | false =>
      walk_at "god"
      exact k2 rfl _ (Sam.fst m1 s2)
    | true =>
      walk_at "go"
      refine use_is_domain (by omega) tg2 (fun H3 s3 => ?_)
      have h3 := s3.lst h2
      generalize domB b = b1 at k1 k2 ⊢
      cases b1 with
      | false =>
        walk_at "god"
        exact k2 rfl _ ((Sam.fst m1 s2).trans s3)
      | true =>
        clear h2 h1
        walk_at "god"
        rename_i q H4 n4 m4 h4
        have s13 := (Sam.fst m1 s2).trans s3
        exact k1 a b rfl q H4 (s13.before n4) (s13.snd m4) h4

/-! ### parse_path -/
abbrev s_parse_path : Stmt := top 16
abbrev N_parse_path : List Str := ["text"]
theorem sc_parse_path : FnScope N_parse_path ["text"] (defScope s_parse_path) := ⟨rfl, rfl, rfl, by decide +kernel, rfl, by decide +kernel, by decide +kernel⟩
theorem bi_parse_path : BindOk "parse_path" s_parse_path ["text"] := fun _ _ _ _ _ _ us hl => match us, hl with | [_], _ => rfl
def sp_parse_path (K : PySem.W.Frag) : Sp := sp1 fun x H Q E => ∃ t : Str, x = .str t ∧ t.length ≤ 10000 ∧ TabA K H ∧ (∀ a b, pathM t = some (some (a, b)) → ∀ p H', H p = none → Sam H H' → H' p = some (.tup [.str a, .str b]) → Q (.ref p) H') ∧ (pathM t = some none → ∀ H', Sam H H' → Q .non H') ∧ (pathM t = none → ∀ H', Sam H H' → E (.ref (He.ga K "InvalidAddress")) none H')
theorem use_parse_path {K : PySem.W.Frag} {t : Str} {H : Hp} {Q : VK} {E : XK} (h0 : t.length ≤ 10000) (h1 : TabA K H) (k1 : ∀ a b, pathM t = some (some (a, b)) → ∀ p H', H p = none → Sam H H' → H' p = some (.tup [.str a, .str b]) → Q (.ref p) H') (k3 : pathM t = some none → ∀ H', Sam H H' → Q .non H') (k2 : pathM t = none → ∀ H', Sam H H' → E (.ref (He.ga K "InvalidAddress")) none H') : sp_parse_path K [.str t] H Q E := ⟨t, rfl, h0, h1, k1, k3, k2⟩
theorem ok_parse_path {e : Wd} (D : DefAt e "parse_path" s_parse_path) (B : Bl e.mg) (gm_InvalidAddress : e.mg "InvalidAddress" = some (.ref (He.ga e.K "InvalidAddress"))) (xo_InvalidAddress : Xco e.K (He.ga e.K "InvalidAddress")) (c_parse_address : Can e 7 "parse_address" ["text"] (sp_parse_address e.K)) : Can e 8 "parse_path" ["text"] (sp_parse_path e.K) := by
  refine canX_of D sc_parse_path bi_parse_path (fun _ _ _ _ h => sp1_len h) (fun cdv f A outer s H vs Q E hr h tk po => ?_)
  obtain ⟨v0, rfl, h⟩ := sp1_ex h
  have nd := sc_parse_path.nd
  obtain ⟨t, rfl, hl, tg, k1, k3, k2⟩ := h
  refine ⟨_, (pss_cons (ps_if (PW.pt (pw_or (pt_not (pt_tru (K := e.K) (pe_bmU (K := e.K) PySem.F.plainAttrs_str PySem.F.slot_str_startswith PySem.F.type_str_startswith mt_startsU (pv 0) (pa_cons pe_str pa_nil)))) (pw_or (pt_not (pt_tru (K := e.K) (pe_bmU (K := e.K) PySem.F.plainAttrs_str PySem.F.slot_str_endswith PySem.F.type_str_endswith mt_endsU (pv 0) (pa_cons pe_str pa_nil)))) (pw_or1 (pt_cmpR op_ltU (pe_callB (call_lenU (K := e.K)) (by rfl) B.b_len bt_len (pa_cons (pv 0) pa_nil)) pe_int (nomark _)))))) (pss_one (ps_raiseU rfl tk (mk1 xo_InvalidAddress gm_InvalidAddress (pv 0)))) pss_nil)
    (pss_cons (ps_if (pt_cmpR (op_eqU (K := e.K) hr) (pv 0) pe_str (nomark _)) (pss_one (ps_ret pe_non)) pss_nil)
    (pss_one (ps_ret (pe_canX tk c_parse_address (hr.mono (by first | decide | omega)) (pa_cons (pe_slice (sl_U (K := e.K)) (pv 0) (po_some pe_int) (po_some (pe_op op_subU (pe_callB (call_lenU (K := e.K)) (by rfl) B.b_len bt_len (pa_cons (pv 0) pa_nil)) pe_int))) pa_nil)))))), ?_⟩
  have e1 := starts_lt t
  have e2 := ends_gt t
  unfold pathM at k1 k2 k3
  walk_at "go"
  rw [e1]
  by_cases c1 : (TL.tl t).head? = some 60
  · rw [decide_eq_true c1]
    walk_at "go"
    rw [e2]
    by_cases c2 : (TL.tl t).getLast? = some 62
    · rw [decide_eq_true c2]
      walk_at "go"
      by_cases c3 : 2 ≤ t.length
      · rw [if_pos ⟨c1, c2, c3⟩] at k1 k2 k3
        walk_at "god"
        by_cases c4 : t = Str.ofString "<>"
        · rw [if_pos c4] at k1 k2 k3
          rw [decide_eq_true c4]
          walk_at "god"
          exact k3 rfl _ (Sam.refl _)
        · rw [if_neg c4] at k1 k2 k3
          rw [decide_eq_false c4]
          walk_at "god"
          have lc := cutS_length t (some 1) (some ((t.length : Int) - 1))
          refine use_parse_address (by omega) tg (fun a b q => ?_) (fun q => ?_)
          · rw [q] at k1
            exact k1 a b rfl
          · rw [q] at k2
            exact k2 rfl
      · rw [if_neg (fun z => c3 z.2.2)] at k2
        walk_at "god"
        exact k2 rfl _ (Sam.refl _)
    · rw [if_neg (fun z => c2 z.2.1)] at k2
      rw [decide_eq_false c2]
      walk_at "god"
      exact k2 rfl _ (Sam.refl _)
  · rw [if_neg (fun z => c1 z.1)] at k2
    rw [decide_eq_false c1]
    walk_at "god"
    exact k2 rfl _ (Sam.refl _)

/-! ### _law_refill -/
abbrev s_l_refill : Stmt := top 19
abbrev N_l_refill : List Str := ["_law_script", "_law_k", "_law_cell"]
theorem sc_l_refill : FnScope N_l_refill ["_law_script", "_law_k"] (defScope s_l_refill) := ⟨rfl, rfl, rfl, by decide +kernel, rfl, by decide +kernel, by decide +kernel⟩
theorem bi_l_refill : BindOk "_law_refill" s_l_refill ["_law_script", "_law_k"] := fun _ _ _ _ _ _ us hl => match us, hl with | [_, _], _ => rfl
def sp_l_refill (K : PySem.W.Frag) : Sp := sp2 fun sc k H Q _ => ∃ b n, sc = .ref b ∧ k = .int n ∧ Scr K H b ∧ ∀ d, Q (.int d) H
theorem ok_l_refill {e : Wd} (D : DefAt e "_law_refill" s_l_refill) (B : Bl e.mg) : Can e 1 "_law_refill" ["_law_script", "_law_k"] (sp_l_refill e.K) := by
  refine can_of D sc_l_refill bi_l_refill (fun _ _ _ _ h => sp2_len h) (fun cdv f A outer s H vs Q E hr h => ?_)
  obtain ⟨v0, v1, rfl, h⟩ := sp2_ex h
  have nd := sc_l_refill.nd
  obtain ⟨b, n, rfl, rfl, hs, k⟩ := h
  obtain ⟨ns, hl, hq⟩ := hs.seq
  refine ⟨_, (pss_cons (ps_set (i := 2) nd rfl (by first | exact Or.inl rfl | exact Or.inr rfl) pe_int)
    (Evl.pss_cut (ps_if (pt_tru (K := e.K) (pv 0)) (pss_one (ps_set (i := 2) nd rfl (by first | exact Or.inl rfl | exact Or.inr rfl) (pe_ix (ix_U (K := e.K)) (pv 0) (pe_op op_modU (pv 1) (pe_callB (call_lenU (K := e.K)) (by rfl) B.b_len bt_len (pa_cons (pv 0) pa_nil))) (fun _ _ => rfl)))) pss_nil)
    (Evl.pss_cut (ps_if (pt_cmpR op_ltU (pv 2) pe_int (nomark _)) (pss_one (ps_set (i := 2) nd rfl (by first | exact Or.inl rfl | exact Or.inr rfl) (pe_op op_subU pe_int (pe_op op_mulS pe_int (pv 2))))) pss_nil)
    (pss_cons (ps_if (PW.pt (pw_and (pt_cmpR op_geU (pv 2) (pe_op op_powU pe_int pe_int) (nomark _)) (pw_and1 (pt_cmpR op_ltU (pv 1) (pe_callB (call_lenU (K := e.K)) (by rfl) B.b_len bt_len (pa_cons (pv 0) pa_nil)) (nomark _))))) (pss_one (ps_ret (pv 2))) pss_nil)
    (pss_one (ps_ret (pe_op op_modU (pe_callTy call_intU (by rfl) B.b_int bt_int (pa_cons (pe_op (op_addU (K := e.K)) (pe_op op_mulS (pe_callTy call_intU (by rfl) B.b_int bt_int (pa_cons (pe_op (op_addU (K := e.K)) (pe_op (op_addU (K := e.K)) (pe_op op_mulS (pv 2) pe_int) (pe_op op_mulS (pv 1) pe_int)) pe_int) pa_nil)) pe_int) pe_int) pa_nil)) pe_int))))))), ?_⟩
  walk_at "go"
  refine r_cut (fun σ' H' => ∃ c : Int, σ' = [some (.ref b), some (.int n), some (.int c)] ∧ H = H') ?_ ?_
  · walk_at "go"
    refine r_itb (fun c => ?_) (fun _ => ?_)
    · have h0 : 0 < ns.length := by
        cases ns with
        | nil => cases c
        | cons x r => exact Nat.succ_pos _
      walk_at "go"
      refine r_I (by simp only [List.length_map]; omega) ?_
      obtain ⟨v, hv⟩ := atI_mod h0 n
      refine r_ixL hq (by simp only [List.length_map]; exact hv) ?_
      exact ⟨_, rfl, rfl⟩
    · walk_at "go"
      exact ⟨_, rfl, rfl⟩
  · rintro σ' H' ⟨c, rfl, rfl⟩
    refine r_cut (fun σ' H' => ∃ c : Int, σ' = [some (.ref b), some (.int n), some (.int c)] ∧ H = H') ?_ ?_
    · walk_at "all"
      all_goals exact ⟨_, rfl, rfl⟩
    · rintro σ' H' ⟨c, rfl, rfl⟩
      walk_at "all"
      all_goals exact k _

/-! ### _law_draw -/
abbrev s_l_draw : Stmt := top 20
abbrev N_l_draw : List Str := ["_law_state", "_law_script", "_law_size", "_law_digit"]
theorem sc_l_draw : FnScope N_l_draw ["_law_state", "_law_script", "_law_size"] (defScope s_l_draw) := ⟨rfl, rfl, rfl, by decide +kernel, rfl, by decide +kernel, by decide +kernel⟩
theorem bi_l_draw : BindOk "_law_draw" s_l_draw ["_law_state", "_law_script", "_law_size"] := fun _ _ _ _ _ _ us hl => match us, hl with | [_, _, _], _ => rfl
def sp_l_draw (K : PySem.W.Frag) : Sp := sp3 fun st sc n H Q _ => ∃ a b m, st = .ref a ∧ sc = .ref b ∧ n = .int m ∧ Drw H a ∧ Scr K H b ∧ (0 < m ∧ m < 1208925819614629174706176) ∧ ∀ d H', 0 ≤ d → d < m → Stp a H H' → Q (.int d) H'
theorem ok_l_draw {e : Wd} (D : DefAt e "_law_draw" s_l_draw) (B : Bl e.mg) (c_l_refill : Can e 1 "_law_refill" ["_law_script", "_law_k"] (sp_l_refill e.K)) : Can e 2 "_law_draw" ["_law_state", "_law_script", "_law_size"] (sp_l_draw e.K) := by
  refine can_of D sc_l_draw bi_l_draw (fun _ _ _ _ h => sp3_len h) (fun cdv f A outer s H vs Q E hr h => ?_)
  obtain ⟨v0, v1, v2, rfl, h⟩ := sp3_ex h
  have nd := sc_l_draw.nd
  obtain ⟨a, b, m, rfl, rfl, rfl, ⟨x, y, ha⟩, hs, hm, k⟩ := h
  have dr : Drw H a := ⟨x, y, ha⟩
  refine ⟨_, (Evl.pss_cut (ps_if (pt_cmpR (op_eqU (K := e.K) hr) (pe_ix (ix_U (K := e.K)) (pv 0) pe_int (fun _ _ => rfl)) pe_int (nomark _)) (pss_cons (ps_asg (pe_can c_l_refill (hr.mono (by first | decide | omega)) passL (pa_cons (pv 1) (pa_cons (pe_ix (ix_U (K := e.K)) (pv 0) pe_int (fun _ _ => rfl)) pa_nil))) (pg_sub (pv 0) pe_int set_list))
    (pss_one (ps_asg (pe_op (op_addU (K := e.K)) (pe_ix (ix_U (K := e.K)) (pv 0) pe_int (fun _ _ => rfl)) pe_int) (pg_sub (pv 0) pe_int set_list)))) pss_nil)
    (pss_cons (ps_set (i := 3) nd rfl (by first | exact Or.inl rfl | exact Or.inr rfl) (pe_op op_modU (pe_callTy call_intU (by rfl) B.b_int bt_int (pa_cons (pe_ix (ix_U (K := e.K)) (pv 0) pe_int (fun _ _ => rfl)) pa_nil)) (pv 2)))
    (pss_cons (ps_asg (pe_op op_divW (pe_ix (ix_U (K := e.K)) (pv 0) pe_int (fun _ _ => rfl)) (pv 2)) (pg_sub (pv 0) pe_int set_list))
    (pss_one (ps_ret (pv 3)))))), ?_⟩
  walk_at "go"
  refine r_cut (fun σ' H' => ∃ x y : Int, σ' = [some (.ref a), some (.ref b), some (.int m), none] ∧ Stp a H H' ∧ H' a = some (.lst [.int x, .int y])) ?_ ?_
  · walk_at "go"
    refine r_ite (fun _ => ?_) (fun _ => ?_)
    · walk_at "go"
      refine ⟨b, x, rfl, rfl, hs, fun d => ?_⟩
      walk_at "go"
      rename_i H1 hp1 kp1 H2 hp2 kp2
      exact ⟨x + 1, d, rfl, ((Stp.refl dr).but hp1 kp1).but hp2 kp2, hp2⟩
    · walk_at "go"
      exact ⟨x, y, rfl, Stp.refl dr, ha⟩
  · rintro σ' H' ⟨x, y, rfl, s1, h1⟩
    walk_at "go"
    rename_i H2 hp2 kp2
    exact k _ _ (Int.emod_nonneg _ (by omega)) (Int.emod_lt_of_pos _ hm.1) (s1.but hp2 kp2)
theorem use_draw {K : PySem.W.Frag} {a b : Addr} {m : Int} {H : Hp} {Q : VK} {E : XK} (h1 : Drw H a) (h2 : Scr K H b) (h3 : 0 < m) (h4 : m < 1208925819614629174706176) (k : ∀ d H', 0 ≤ d → d < m → Stp a H H' → Q (.int d) H') : sp_l_draw K [.ref a, .ref b, .int m] H Q E :=
  ⟨a, b, m, rfl, rfl, rfl, h1, h2, ⟨h3, h4⟩, k⟩
local macro_rules | `(tactic| walk_at "call") => `(tactic| ((with_reducible refine' use_draw ?h1 ?h2 ?h3 ?h4 ?_); (case h1 => walk_at "hp"); (case h2 => walk_at "hp"); (case h3 => walk_at "nat"); (case h4 => walk_at "nat"); intro d H' d0 d1 st))

/-! ### _law_pick -/
abbrev s_l_pick : Stmt := top 23
abbrev N_l_pick : List Str := ["_law_state", "_law_script", "_law_signs", "_law_k"]
theorem sc_l_pick : FnScope N_l_pick ["_law_state", "_law_script", "_law_signs"] (defScope s_l_pick) := ⟨rfl, rfl, rfl, by decide +kernel, rfl, by decide +kernel, by decide +kernel⟩
theorem bi_l_pick : BindOk "_law_pick" s_l_pick ["_law_state", "_law_script", "_law_signs"] := fun _ _ _ _ _ _ us hl => match us, hl with | [_, _, _], _ => rfl
def sp_l_pick (K : PySem.W.Frag) : Sp := sp3 fun st sc n H Q _ => ∃ a b z, st = .ref a ∧ sc = .ref b ∧ n = .str z ∧ Drw H a ∧ Scr K H b ∧ (0 < z.length ∧ z.length ≤ 1000) ∧ ∀ s H', (∃ c, c ∈ TL.tl z ∧ s = ⟨#[c]⟩) → Stp a H H' → Q (.str s) H'
theorem ok_l_pick {e : Wd} (D : DefAt e "_law_pick" s_l_pick) (B : Bl e.mg) (c_l_draw : Can e 2 "_law_draw" ["_law_state", "_law_script", "_law_size"] (sp_l_draw e.K)) : Can e 3 "_law_pick" ["_law_state", "_law_script", "_law_signs"] (sp_l_pick e.K) := by
  refine can_of D sc_l_pick bi_l_pick (fun _ _ _ _ h => sp3_len h) (fun cdv f A outer s H vs Q E hr h => ?_)
  obtain ⟨v0, v1, v2, rfl, h⟩ := sp3_ex h
  have nd := sc_l_pick.nd
  obtain ⟨a, b, z, rfl, rfl, rfl, dr, hs, ⟨hz1, hz2⟩, k⟩ := h
  refine ⟨_, (pss_cons (ps_set (i := 3) nd rfl (by first | exact Or.inl rfl | exact Or.inr rfl) (pe_can c_l_draw (hr.mono (by first | decide | omega)) passL (pa_cons (pv 0) (pa_cons (pv 1) (pa_cons (pe_callB (call_lenU (K := e.K)) (by rfl) B.b_len bt_len (pa_cons (pv 2) pa_nil)) pa_nil)))))
    (pss_one (ps_ret (pe_slice (sl_U (K := e.K)) (pv 2) (po_some (pv 3)) (po_some (pe_op (op_addU (K := e.K)) (pv 3) pe_int)))))), ?_⟩
  walk_at "go"
  rename_i d H' d0 d1 st
  obtain ⟨c, h1, h2⟩ := cut_one d0 d1
  exact k _ _ ⟨c, h1, h2⟩ st
theorem use_pick {K : PySem.W.Frag} {a b : Addr} {z : Str} {H : Hp} {Q : VK} {E : XK} (h1 : Drw H a) (h2 : Scr K H b) (h3 : 0 < z.length) (h4 : z.length ≤ 1000) (k : ∀ s H', (∃ c, c ∈ TL.tl z ∧ s = ⟨#[c]⟩) → Stp a H H' → Q (.str s) H') : sp_l_pick K [.ref a, .ref b, .str z] H Q E :=
  ⟨a, b, z, rfl, rfl, rfl, h1, h2, ⟨h3, h4⟩, k⟩
local macro_rules | `(tactic| walk_at "call") => `(tactic| ((with_reducible refine' use_pick ?h1 ?h2 ?h3 ?h4 ?_); (case h1 => walk_at "hp"); (case h2 => walk_at "hp"); (case h3 => walk_at "nat"); (case h4 => walk_at "nat"); intro s H' hs st))

/-! ### _law_word -/
abbrev s_l_word : Stmt := top 24
abbrev N_l_word : List Str := ["_law_state", "_law_script", "_law_signs", "_law_most", "_law_k"]
theorem sc_l_word : FnScope N_l_word ["_law_state", "_law_script", "_law_signs", "_law_most"] (defScope s_l_word) := ⟨rfl, rfl, rfl, by decide +kernel, rfl, by decide +kernel, by decide +kernel⟩
theorem bi_l_word : BindOk "_law_word" s_l_word ["_law_state", "_law_script", "_law_signs", "_law_most"] := fun _ _ _ _ _ _ us hl => match us, hl with | [_, _, _, _], _ => rfl
def sp_l_word (K : PySem.W.Frag) : Sp := sp4 fun st sc n m H Q _ => ∃ a b z i, st = .ref a ∧ sc = .ref b ∧ n = .str z ∧ m = .int i ∧ Drw H a ∧ Scr K H b ∧ (0 < z.length ∧ z.length ≤ 1000) ∧ (0 < i ∧ i ≤ 1000) ∧ ∀ s H', Wrd (TL.tl z) 1 i.toNat s → Stp a H H' → Q (.str s) H'
theorem ok_l_word {e : Wd} (D : DefAt e "_law_word" s_l_word) (B : Bl e.mg) (c_l_pick : Can e 3 "_law_pick" ["_law_state", "_law_script", "_law_signs"] (sp_l_pick e.K)) (c_l_draw : Can e 2 "_law_draw" ["_law_state", "_law_script", "_law_size"] (sp_l_draw e.K)) : Can e 4 "_law_word" ["_law_state", "_law_script", "_law_signs", "_law_most"] (sp_l_word e.K) := by
  refine can_of D sc_l_word bi_l_word (fun _ _ _ _ h => sp4_len h) (fun cdv f A outer s H vs Q E hr h => ?_)
  obtain ⟨v0, v1, v2, v3, rfl, h⟩ := sp4_ex h
  have nd := sc_l_word.nd
  obtain ⟨a, b, z, i, rfl, rfl, rfl, rfl, dr, hs, ⟨hz1, hz2⟩, ⟨hi1, hi2⟩, k⟩ := h
  refine ⟨_, (pss_one (ps_ret (pe_bmU (K := e.K) PySem.F.plainAttrs_str PySem.F.slot_str_join PySem.F.type_str_join (mt_joinU (K := e.K)) pe_str (pa_cons (pe_lc (own := [("_law_k", 4)]) (tt := tYes) rfl nd (pi_range1 rfl B.b_range (pa_cons (pe_op (op_addU (K := e.K)) pe_int (pe_can c_l_draw (hr.mono (by first | decide | omega)) passL (pa_cons (pv 0) (pa_cons (pv 1) (pa_cons (pv 3) pa_nil))))) pa_nil)) (blkOk_by (N := N_l_word) (sc := defScope s_l_word) (by decide +kernel)) (fun _ _ _ _ _ => (pg_name (i := 4) nd rfl (by first | exact Or.inl rfl | exact Or.inr rfl))) (fun _ _ _ _ _ => pts_nil) (fun _ _ _ _ _ => (pe_can c_l_pick (hr.mono (by first | decide | omega)) passL (pa_cons (pv 0) (pa_cons (pv 1) (pa_cons (pv 2) pa_nil)))))) pa_nil)))), ?_⟩
  walk_at "go"
  rename_i d H1 d0 d1 s1
  refine lcr_draw (a := a) (fun _ q => ∃ s, q = PyData.str s ∧ ∃ c, c ∈ TL.tl z ∧ s = ⟨#[c]⟩) s1.drw (by omega) (by omega) (fun _ => rfl) (fun j H2 Q1 _ s2 k1 => ?_) fun D H2 ys ds hD s2 hl dq el pp => ?_
  · walk_at "go"
    exact k1 _ _ _ (by assumption) (.str _) ⟨_, rfl, by assumption⟩
  · obtain ⟨ss, e1, e2, e3⟩ := dq.all_strs pp
    subst e1
    have hn : ss.length = (1 + d).toNat := by omega
    walk_at "go"
    refine r_join hl ?_ ?_
    · rw [sum_ones e3]
      have : (Str.ofString "").length = 0 := by decide +kernel
      rw [this]
      omega
    · have w := wrd_join e3 rfl
      exact k _ _ ⟨by have := w.lo; omega, by have := w.hi; omega, w.sg⟩ (s1.trans s2)
theorem use_word {K : PySem.W.Frag} {a b : Addr} {z : Str} {i : Int} {H : Hp} {Q : VK} {E : XK} (h1 : Drw H a) (h2 : Scr K H b) (h3 : 0 < z.length) (h4 : z.length ≤ 1000) (h5 : 0 < i) (h6 : i ≤ 1000) (k : ∀ s H', Wrd (TL.tl z) 1 i.toNat s → Stp a H H' → Q (.str s) H') : sp_l_word K [.ref a, .ref b, .str z, .int i] H Q E :=
  ⟨a, b, z, i, rfl, rfl, rfl, rfl, h1, h2, ⟨h3, h4⟩, ⟨h5, h6⟩, k⟩
local macro_rules | `(tactic| walk_at "call") => `(tactic| ((with_reducible refine' use_word ?h1 ?h2 ?h3 ?h4 ?h5 ?h6 ?_); (case h1 => walk_at "hp"); (case h2 => walk_at "hp"); (case h3 => walk_at "nat"); (case h4 => walk_at "nat"); (case h5 => walk_at "nat"); (case h6 => walk_at "nat"); intro s H' hs st))

/-! ### _law_local -/
abbrev s_l_local : Stmt := top 25
abbrev N_l_local : List Str := ["_law_state", "_law_script", "_law_ends", "_law_parts", "_law_k"]
theorem sc_l_local : FnScope N_l_local ["_law_state", "_law_script"] (defScope s_l_local) := ⟨rfl, rfl, rfl, by decide +kernel, rfl, by decide +kernel, by decide +kernel⟩
theorem bi_l_local : BindOk "_law_local" s_l_local ["_law_state", "_law_script"] := fun _ _ _ _ _ _ us hl => match us, hl with | [_, _], _ => rfl
def sp_l_local (K : PySem.W.Frag) : Sp := sp2 fun st sc H Q _ => ∃ a b, st = .ref a ∧ sc = .ref b ∧ Drw H a ∧ Scr K H b ∧ ∀ s H', Loc1 (TL.tl lEnds) (TL.tl s) → Stp a H H' → Q (.str s) H'
theorem ok_l_local {e : Wd} (D : DefAt e "_law_local" s_l_local) (B : Bl e.mg) (c_l_word : Can e 4 "_law_word" ["_law_state", "_law_script", "_law_signs", "_law_most"] (sp_l_word e.K)) (c_l_draw : Can e 2 "_law_draw" ["_law_state", "_law_script", "_law_size"] (sp_l_draw e.K)) (c_l_pick : Can e 3 "_law_pick" ["_law_state", "_law_script", "_law_signs"] (sp_l_pick e.K)) : Can e 5 "_law_local" ["_law_state", "_law_script"] (sp_l_local e.K) := by
  refine can_of D sc_l_local bi_l_local (fun _ _ _ _ h => sp2_len h) (fun cdv f A outer s H vs Q E hr h => ?_)
  obtain ⟨v0, v1, rfl, h⟩ := sp2_ex h
  have nd := sc_l_local.nd
  obtain ⟨a, b, rfl, rfl, dr, hs, k⟩ := h
  have n0 : (Str.ofString "").length = 0 := by decide +kernel
  have n1 : (Str.ofString ".").length = 1 := by decide +kernel
  have z1 : 0 < lEnds.length := by decide +kernel
  have z2 : lEnds.length ≤ 1000 := by decide +kernel
  refine ⟨_, (pss_cons (ps_set (i := 2) nd rfl (by first | exact Or.inl rfl | exact Or.inr rfl) pe_str)
    (pss_cons (ps_setLc (i := 3) (own := [("_law_k", 4)]) (tt := tYes) rfl nd rfl rfl (sw_true rfl rfl rfl (by decide +kernel)) (pi_range1 rfl B.b_range (pa_cons (pe_op (op_addU (K := e.K)) pe_int (pe_can c_l_draw (hr.mono (by first | decide | omega)) passL (pa_cons (pv 0) (pa_cons (pv 1) (pa_cons pe_int pa_nil))))) pa_nil)) (blkOk_by (N := N_l_local) (sc := defScope s_l_local) (by decide +kernel)) (fun _ _ _ _ _ => (pg_name (i := 4) nd rfl (by first | exact Or.inl rfl | exact Or.inr rfl))) (fun _ _ _ _ _ => pts_nil) (fun _ _ _ _ _ => (pe_can c_l_word (hr.mono (by first | decide | omega)) passL (pa_cons (pv 0) (pa_cons (pv 1) (pa_cons (pv 2) (pa_cons pe_int pa_nil)))))))
    (Evl.pss_cut (ps_if (pt_cmpR (op_eqU (K := e.K) hr) (pe_can c_l_draw (hr.mono (by first | decide | omega)) passL (pa_cons (pv 0) (pa_cons (pv 1) (pa_cons pe_int pa_nil)))) pe_int (nomark _)) (pss_one (ps_set (i := 3) nd rfl (by first | exact Or.inl rfl | exact Or.inr rfl) (pe_lst (pa_cons (pe_bmU (K := e.K) PySem.F.plainAttrs_str PySem.F.slot_str_join PySem.F.type_str_join (mt_joinU (K := e.K)) pe_str (pa_cons (pe_op op_mulS (pe_lst (pa_cons (pe_can c_l_pick (hr.mono (by first | decide | omega)) passL (pa_cons (pv 0) (pa_cons (pv 1) (pa_cons (pv 2) pa_nil)))) pa_nil)) (pe_op (op_addU (K := e.K)) pe_int (pe_can c_l_draw (hr.mono (by first | decide | omega)) passL (pa_cons (pv 0) (pa_cons (pv 1) (pa_cons pe_int pa_nil)))))) pa_nil)) (pa_cons (pe_ix (ix_U (K := e.K)) (pv 3) pe_int (fun _ _ => rfl)) pa_nil))))) pss_nil)
    (pss_one (ps_ret (pe_bmU (K := e.K) PySem.F.plainAttrs_str PySem.F.slot_str_rstrip PySem.F.type_str_rstrip mt_rstripU (pe_slice (sl_U (K := e.K)) (pe_bmU (K := e.K) PySem.F.plainAttrs_str PySem.F.slot_str_join PySem.F.type_str_join (mt_joinU (K := e.K)) pe_str (pa_cons (pv 3) pa_nil)) po_none (po_some pe_int)) (pa_cons pe_str pa_nil))))))), ?_⟩
  walk_at "go"
  rename_i d H1 d0 d1 s1
  refine lcr_draw (a := a) (fun _ q => ∃ s, q = PyData.str s ∧ Wrd (TL.tl lEnds) 1 5 s) s1.drw (by omega) (by omega) (fun _ => rfl) (fun j H2 Q1 _ s2 k1 => ?_) fun D H2 ys ds hD s2 hl dq el pp => ?_
  · walk_at "go"
    exact k1 _ _ _ (by assumption) (.str _) ⟨_, rfl, by assumption⟩
  · obtain ⟨ss, e1, e2, e3⟩ := dq.all_strs pp
    subst e1
    have hn : ss.length ≤ 3 := by omega
    have hp : 0 < ss.length := by omega
    walk_at "go"
    refine r_cut (fun σ' H' => ∃ (p : Addr) (ss : List Str), σ' = [some (.ref a), some (.ref b), some (.str lEnds), some (.ref p), none] ∧ Stp a H H' ∧ H' p = some (.lst (ss.map V.str)) ∧ ss ≠ [] ∧ ss.length ≤ 3 ∧ ∀ s ∈ ss, Wrd (TL.tl lEnds) 1 20 s) ?_ ?_
    · walk_at "go"
      rename_i d3 H3 d30 d31 s3
      refine r_ite (fun _ => ?_) (fun _ => ?_)
      · walk_at "go"
        rename_i s H4 hs4 s4 p4 H5 np5 sm5 hp5 d6 H6 d60 d61 s6
        obtain ⟨c, hc, rfl⟩ := hs4
        have h6 : H6 p4 = some (.lst [V.str ⟨#[c]⟩]) := s6.at_ hp5 (by
          obtain ⟨u, v, q⟩ := s4.drw
          intro e
          rw [e, q] at np5
          cases np5)
        refine r_mulL h6 (by omega) (by omega) (by rw [sizeLine_eq]; simp only [List.length_cons, List.length_nil]; omega) fun p7 H7 np7 sm7 hp7 => ?_
        rw [rep_strs] at hp7
        walk_at "go"
        refine r_join hp7 ?_ ?_
        · rw [sum_ones (S := TL.tl lEnds) fun s hs => ⟨c, hc, (List.mem_replicate.mp hs).2⟩, n0, List.length_replicate]
          omega
        · have w := rep_wrd (n := (18 + d6).toNat) hc
          walk_at "go"
          have hL : H7 D = some (.lst (ss.map V.str)) := by
            have na : D ≠ a := by
              obtain ⟨u, v, q⟩ := s1.drw
              intro e
              rw [e, q] at hD
              cases hD
            exact sm7 _ _ (s6.at_ (sm5 _ _ (s4.at_ (s3.at_ hl na) na)) na)
          obtain ⟨s0, r0, rfl⟩ : ∃ s0 r0, ss = s0 :: r0 := by
            cases ss with
            | nil => cases hp
            | cons s r => exact ⟨s, r, rfl⟩
          refine r_ixL (v := V.str s0) (SqL.of hL) (atI_nat (j := 0) rfl) ?_
          walk_at "go"
          rename_i p8 H8 np8 sm8 hp8
          have s8 : Stp a H H8 := ((((((s1.trans s2).trans s3).trans s4).snd sm5).trans s6).snd sm7).snd sm8
          refine ⟨p8, [Txt.join (Str.ofString "") (List.replicate (18 + d6).toNat ⟨#[c]⟩), s0], rfl, s8, hp8, by simp, by simp, fun s hs => ?_⟩
          rcases List.mem_cons.mp hs with e | hs
          · rw [e]
            exact ⟨by have := w.lo; omega, by have := w.hi; omega, w.sg⟩
          · rw [List.mem_singleton.mp hs]
            have w0 := e3 s0 List.mem_cons_self
            exact ⟨w0.lo, by have := w0.hi; omega, w0.sg⟩
      · walk_at "go"
        refine ⟨D, ss, rfl, (s1.trans s2).trans s3, s3.at_ hl ?_, (fun e => by rw [e] at hp; cases hp), hn, fun s hs => ⟨(e3 s hs).lo, by have := (e3 s hs).hi; omega, (e3 s hs).sg⟩⟩
        obtain ⟨u, v, q⟩ := s1.drw
        intro e
        rw [e, q] at hD
        cases hD
    · rintro σ' H' ⟨p, ss, rfl, s4, hl, hne, hle, hw⟩
      walk_at "go"
      have hsum : (ss.map (·.length)).sum ≤ 20 * ss.length := sum_le fun s hs => (hw s hs).len
      refine r_join hl ?_ ?_
      · rw [n1]
        omega
      · have hj : (Txt.join (Str.ofString ".") ss).length ≤ 100 := by
          have := joinDot_len ss
          omega
        have hc : (cutS (Txt.join (Str.ofString ".") ss) none (some 40)).length ≤ 100 := Nat.le_trans (cutS_length _ _ _) hj
        walk_at "go"
        refine k _ _ (loc_of lEnds_dot (fun s hs => ⟨fun e => ?_, (hw s hs).sg⟩) hne) s4
        have := (hw s hs).lo
        rw [e] at this
        cases this
theorem use_local {K : PySem.W.Frag} {a b : Addr} {H : Hp} {Q : VK} {E : XK} (h1 : Drw H a) (h2 : Scr K H b) (k : ∀ s H', Loc1 (TL.tl lEnds) (TL.tl s) → Stp a H H' → Q (.str s) H') : sp_l_local K [.ref a, .ref b] H Q E :=
  ⟨a, b, rfl, rfl, h1, h2, k⟩
local macro_rules | `(tactic| walk_at "call") => `(tactic| ((with_reducible refine' use_local ?h1 ?h2 ?_); (case h1 => walk_at "hp"); (case h2 => walk_at "hp"); intro s H' hs st))

/-! ### _law_domain -/
abbrev s_l_domain : Stmt := top 26
abbrev N_l_domain : List Str := ["_law_state", "_law_script", "_law_ends", "_law_labels", "_law_k", "_law_middle"]
theorem sc_l_domain : FnScope N_l_domain ["_law_state", "_law_script"] (defScope s_l_domain) := ⟨rfl, rfl, rfl, by decide +kernel, rfl, by decide +kernel, by decide +kernel⟩
theorem bi_l_domain : BindOk "_law_domain" s_l_domain ["_law_state", "_law_script"] := fun _ _ _ _ _ _ us hl => match us, hl with | [_, _], _ => rfl
def sp_l_domain (K : PySem.W.Frag) : Sp := sp2 fun st sc H Q _ => ∃ a b, st = .ref a ∧ sc = .ref b ∧ Drw H a ∧ Scr K H b ∧ ∀ s H', Dom (TL.tl s) → Stp a H H' → Q (.str s) H'
theorem ok_l_domain {e : Wd} (D : DefAt e "_law_domain" s_l_domain) (B : Bl e.mg) (c_l_draw : Can e 2 "_law_draw" ["_law_state", "_law_script", "_law_size"] (sp_l_draw e.K)) (c_l_pick : Can e 3 "_law_pick" ["_law_state", "_law_script", "_law_signs"] (sp_l_pick e.K)) : Can e 4 "_law_domain" ["_law_state", "_law_script"] (sp_l_domain e.K) := by
  refine can_of D sc_l_domain bi_l_domain (fun _ _ _ _ h => sp2_len h) (fun cdv f A outer s H vs Q E hr h => ?_)
  obtain ⟨v0, v1, rfl, h⟩ := sp2_ex h
  have nd := sc_l_domain.nd
  obtain ⟨a, b, rfl, rfl, dr, hs, k⟩ := h
  have n1 : (Str.ofString ".").length = 1 := by decide +kernel
  have z1 : 0 < dEnds.length := by decide +kernel
  have z2 : dEnds.length ≤ 1000 := by decide +kernel
  refine ⟨_, (pss_cons (ps_set (i := 2) nd rfl (by first | exact Or.inl rfl | exact Or.inr rfl) pe_str)
    (pss_cons (ps_set (i := 3) nd rfl (by first | exact Or.inl rfl | exact Or.inr rfl) (pe_lst pa_nil))
    (pss_cons (ps_for PassesOwn.never rfl (pi_range1 rfl B.b_range (pa_cons (pe_op (op_addU (K := e.K)) pe_int (pe_can c_l_draw (hr.mono (by first | decide | omega)) passL (pa_cons (pv 0) (pa_cons (pv 1) (pa_cons pe_int pa_nil))))) pa_nil)) (pg_name (i := 4) nd rfl (by first | exact Or.inl rfl | exact Or.inr rfl)) (pss_cons (ps_set (i := 5) nd rfl (by first | exact Or.inl rfl | exact Or.inr rfl) (pe_ix (ix_U (K := e.K)) (pe_lst (pa_cons pe_str (pa_cons pe_str (pa_cons pe_str (pa_cons pe_str (pa_cons pe_str pa_nil)))))) (pe_can c_l_draw (hr.mono (by first | decide | omega)) passL (pa_cons (pv 0) (pa_cons (pv 1) (pa_cons pe_int pa_nil)))) (fun _ _ => rfl)))
    (pss_one (ps_expr (pe_bmU (K := e.K) PySem.F.plainAttrs_list PySem.F.slot_list_append PySem.F.type_list_append mt_append (pv 3) (pa_cons (pe_op (op_addU (K := e.K)) (pe_op (op_addU (K := e.K)) (pe_can c_l_pick (hr.mono (by first | decide | omega)) passL (pa_cons (pv 0) (pa_cons (pv 1) (pa_cons (pv 2) pa_nil)))) (pv 5)) (pe_can c_l_pick (hr.mono (by first | decide | omega)) passL (pa_cons (pv 0) (pa_cons (pv 1) (pa_cons (pv 2) pa_nil))))) pa_nil))))))
    (pss_one (ps_ret (pe_bmU (K := e.K) PySem.F.plainAttrs_str PySem.F.slot_str_join PySem.F.type_str_join (mt_joinU (K := e.K)) pe_str (pa_cons (pv 3) pa_nil))))))), ?_⟩
  walk_at "go"
  rename_i D H0 np0 sm0 hp0 d H1 d0 d1 s1
  have s01 : Stp a H H1 := (Stp.same dr sm0).trans s1
  refine for_rng (fun i σ' H' => ∃ (ss : List Str) (x y : Option V), σ' = [some (.ref a), some (.ref b), some (.str dEnds), some (.ref D), x, y] ∧ Stp a H H' ∧ H' D = some (.lst (ss.map V.str)) ∧ ss.length = i ∧ ∀ s ∈ ss, Lab (TL.tl s)) (by omega) (by omega) ?_ ?_ ?_
  · exact ⟨[], none, none, rfl, s01, s1.at_ hp0 (ne_drw dr np0), rfl, fun s hs => nomatch hs⟩
  · rintro i σ' H' hi ⟨ss, x, y, rfl, s2, hD, hl, hw⟩
    have hs' : Scr e.K H' b := hs.mono s2.gro
    have na : D ≠ a := ne_drw dr np0
    have dr' : Drw H' a := s2.drw
    walk_at "go"
    rename_i p3 H3 np3 sm3 hp3 d4 H4 d40 d41 s4
    have h4 := s4.at_ hp3 (ne_drw' np3 dr')
    obtain ⟨v, hv, hm0⟩ := atI_get (xs := [V.str "", V.str "-", V.str "--", V.str "x-y", V.str "z9"]) d40 (by simpa using d41)
    obtain ⟨m, rfl, hm⟩ : ∃ m, v = V.str m ∧ m ∈ ["", "-", "--", "x-y", "z9"].map Str.ofString := by
      simp only [List.mem_cons, List.not_mem_nil, or_false] at hm0
      rcases hm0 with h | h | h | h | h <;> exact ⟨_, h, by simp⟩
    refine r_ixL (SqL.of h4) hv ?_
    have ml : m.length ≤ 3 := by
      have key : ∀ z ∈ ["", "-", "--", "x-y", "z9"].map Str.ofString, z.length ≤ 3 := by decide +kernel
      exact key m hm
    have hD4 : H4 D = some (.lst (ss.map V.str)) := s4.at_ (sm3 _ _ hD) na
    walk_at "go"
    rename_i s5 H5 hs5 st5
    obtain ⟨c5, hc5, rfl⟩ := hs5
    have o1 : ∀ c : Nat, (⟨#[c]⟩ : Str).length = 1 := fun _ => rfl
    have oc := o1 c5
    walk_at "go"
    rename_i s6 H6 hs6 st6
    obtain ⟨c6, hc6, rfl⟩ := hs6
    have oc6 := o1 c6
    have hD6 : H6 D = some (.lst (ss.map V.str)) := st6.at_ (st5.at_ hD4 na) na
    have hl3 : ss.length ≤ 3 := by omega
    walk_at "go"
    rename_i H7 hp7 kp7
    refine ⟨ss ++ [((⟨#[c5]⟩ : Str) ++ m) ++ (⟨#[c6]⟩ : Str)], _, _, rfl, ?_, by rw [hp7, List.map_append] <;> rfl, by simp [hl], fun s hs => ?_⟩
    · have s6 : Stp a H H6 := ((((s2.snd sm3).trans s4).trans st5).trans st6)
      refine ⟨fun q o h n => ?_, ⟨fun q xs h => ?_, fun q o u h => ?_⟩, ?_⟩
      · have nq : q ≠ D := fun e => by
          rw [e, np0] at h
          cases h
        rw [kp7 q nq]
        exact s6.fr q o h n
      · rw [kp7 q (ne_of (s6.gro.tup q xs h) hD6 (by intro z; cases z))]
        exact s6.gro.tup q xs h
      · rw [kp7 q (ne_of (s6.gro.frz q o u h) hD6 (by intro z; cases z))]
        exact s6.gro.frz q o u h
      · obtain ⟨u, v, q⟩ := s6.drw
        exact ⟨u, v, by rw [kp7 a (Ne.symm na)]; exact q⟩
    · rcases List.mem_append.mp hs with hs | hs
      · exact hw s hs
      · rw [List.mem_singleton.mp hs]
        exact lab_of hc5 hc6 hm
  · rintro σ' H' ⟨ss, x, y, rfl, s2, hD, hl, hw⟩
    walk_at "go"
    have hsum : (ss.map (·.length)).sum ≤ 5 * ss.length := sum_le fun s hs => by
      rw [TL.len_tl]
      exact (hw s hs).hi
    refine r_join hD (by rw [n1]; omega) ?_
    refine k _ _ ⟨⟨ss.map TL.tl, tl_joinDot ss, by simp; omega, by simp; omega, fun w h => ?_⟩⟩ s2
    obtain ⟨s, hs, rfl⟩ := List.mem_map.mp h
    exact hw s hs
theorem use_domain {K : PySem.W.Frag} {a b : Addr} {H : Hp} {Q : VK} {E : XK} (h1 : Drw H a) (h2 : Scr K H b) (k : ∀ s H', Dom (TL.tl s) → Stp a H H' → Q (.str s) H') : sp_l_domain K [.ref a, .ref b] H Q E :=
  ⟨a, b, rfl, rfl, h1, h2, k⟩
local macro_rules | `(tactic| walk_at "call") => `(tactic| ((with_reducible refine' use_domain ?h1 ?h2 ?_); (case h1 => walk_at "hp"); (case h2 => walk_at "hp"); intro s H' hs st))

/-! ### _law_lower -/
abbrev s_l_lower : Stmt := top 27
abbrev N_l_lower : List Str := ["_law_text", "_law_upper", "_law_lower_here", "_law_sign"]
theorem sc_l_lower : FnScope N_l_lower ["_law_text"] (defScope s_l_lower) := ⟨rfl, rfl, rfl, by decide +kernel, rfl, by decide +kernel, by decide +kernel⟩
theorem bi_l_lower : BindOk "_law_lower" s_l_lower ["_law_text"] := fun _ _ _ _ _ _ us hl => match us, hl with | [_], _ => rfl
def sp_l_lower (K : PySem.W.Frag) : Sp := sp1 fun x H Q _ => ∃ t : Str, x = .str t ∧ t.length ≤ 1000 ∧ Asc t ∧ ∀ H', Same H H' → Q (.str (Txt.lower t)) H'
theorem use_lower {K : PySem.W.Frag} {t : Str} {H : Hp} {Q : VK} {E : XK} (h1 : t.length ≤ 1000) (h2 : Asc t) (k : ∀ H', Same H H' → Q (.str (Txt.lower t)) H') : sp_l_lower K [.str t] H Q E := ⟨t, rfl, h1, h2, k⟩
theorem ok_l_lower {e : Wd} (D : DefAt e "_law_lower" s_l_lower) (B : Bl e.mg) : Can e 2 "_law_lower" ["_law_text"] (sp_l_lower e.K) := by
  refine can_of D sc_l_lower bi_l_lower (fun _ _ _ _ h => sp1_len h) (fun cdv f A outer s H vs Q E hr h => ?_)
  obtain ⟨v0, rfl, h⟩ := sp1_ex h
  have nd := sc_l_lower.nd
  obtain ⟨t, rfl, hl, ha, k⟩ := h
  refine ⟨_, (pss_cons (ps_set (i := 1) nd rfl (by first | exact Or.inl rfl | exact Or.inr rfl) pe_str)
    (pss_cons (ps_set (i := 2) nd rfl (by first | exact Or.inl rfl | exact Or.inr rfl) pe_str)
    (pss_one (ps_ret (pe_bmU (K := e.K) PySem.F.plainAttrs_str PySem.F.slot_str_join PySem.F.type_str_join (mt_joinU (K := e.K)) pe_str (pa_cons (pe_lc (own := [("_law_sign", 3)]) (tt := tYes) rfl nd (pi_U (K := e.K) (pv 0)) (blkOk_by (N := N_l_lower) (sc := defScope s_l_lower) (by decide +kernel)) (fun _ _ _ _ _ => (pg_name (i := 3) nd rfl (by first | exact Or.inl rfl | exact Or.inr rfl))) (fun _ _ _ _ _ => pts_nil) (fun _ _ _ _ _ => (pe_ifExp (pt_cmpR (op_inU (K := e.K) hr) (pv 3) (pv 1) rfl) (pe_ix (ix_U (K := e.K)) (pv 2) (pe_bmU (K := e.K) PySem.F.plainAttrs_str PySem.F.slot_str_index PySem.F.type_str_index mt_indexU (pv 1) (pa_cons (pv 3) pa_nil)) (fun _ _ => rfl)) (pv 3)))) pa_nil)))))), ?_⟩
  have lt := TL.len_tl t
  walk_at "go"
  refine lc_S (sr_same H) (fun i ds => ds = (((TL.tl t).take i).map lowC).map (fun c => PyData.str ⟨#[c]⟩)) (by omega) rfl (fun _ => rfl) ?_ ?_
  · rintro i c H1 ds Q1 Qn hc s1 rfl k1 k2
    have c128 := ha c (List.mem_of_getElem? hc)
    have tk : (TL.tl t).take (i + 1) = (TL.tl t).take i ++ [c] := by rw [List.take_add_one, hc] <;> rfl
    have fin : Q1 (.str ⟨#[lowC c]⟩) H1 := k1 _ (.str ⟨#[lowC c]⟩) H1 (Same.refl _) (.str _) (by rw [tk, List.map_append, List.map_append] <;> rfl)
    clear k1 k2
    refine r_tyes (r_iteT ?_)
    walk_at "go"
    rw [occ_one]
    by_cases q : c ∈ TL.tl upS
    · rw [decide_eq_true q]
      obtain ⟨e1, e2⟩ := idx_up c q
      walk_at "go"
      refine r_index e1 ?_
      walk_at "go"
      refine r_ixA (by decide +kernel) e2 ?_
      exact fin
    · rw [decide_eq_false q]
      walk_at "go"
      rw [up_mem c c128 q] at fin
      exact fin
  · rintro D H1 ys ds hD s1 hl1 dq rfl
    rw [List.take_of_length_le (by omega)] at dq
    have hy : ys = (((TL.tl t).map lowC).map fun c => (⟨#[c]⟩ : Str)).map V.str := by
      rw [show (((TL.tl t).map lowC).map fun c => PyData.str ⟨#[c]⟩) = (((TL.tl t).map lowC).map fun c => (⟨#[c]⟩ : Str)).map PyData.str from by rw [List.map_map, List.map_map, List.map_map] <;> rfl] at dq
      exact dq.strs_of
    subst hy
    have e := join_chars ((TL.tl t).map lowC)
    have n0 : (Str.ofString "").length = 0 := by decide +kernel
    have one : ∀ zs : List Nat, ((zs.map fun c => (⟨#[c]⟩ : Str)).map (·.length)).sum = zs.length := by
      intro zs
      induction zs with
      | nil => rfl
      | cons c r ih => rw [List.map_cons, List.map_cons, List.sum_cons, ih, List.length_cons]; show 1 + _ = _; omega
    refine r_join hl1 ?_ ?_
    · rw [one, n0, Nat.mul_zero, Nat.add_zero, List.length_map]
      omega
    · rw [tl_inj (e.trans (tl_lower ha).symm)]
      exact k _ s1

/-! ### _law_all -/
abbrev s_l_all : Stmt := top 28
abbrev N_l_all : List Str := ["_law_text", "_law_signs", "_law_sign"]
theorem sc_l_all : FnScope N_l_all ["_law_text", "_law_signs"] (defScope s_l_all) := ⟨rfl, rfl, rfl, by decide +kernel, rfl, by decide +kernel, by decide +kernel⟩
theorem bi_l_all : BindOk "_law_all" s_l_all ["_law_text", "_law_signs"] := fun _ _ _ _ _ _ us hl => match us, hl with | [_, _], _ => rfl
def sp_l_all (K : PySem.W.Frag) : Sp := sp2 fun x y H Q _ => ∃ t u : Str, x = .str t ∧ y = .str u ∧ t.length ≤ 1000000 ∧ ∀ H', Same H H' → Q (.bl ((TL.tl t).all fun c => decide (c ∈ TL.tl u))) H'
theorem use_all {K : PySem.W.Frag} {t u : Str} {H : Hp} {Q : VK} {E : XK} (h1 : t.length ≤ 1000000) (k : ∀ H', Same H H' → Q (.bl ((TL.tl t).all fun c => decide (c ∈ TL.tl u))) H') : sp_l_all K [.str t, .str u] H Q E := ⟨t, u, rfl, rfl, h1, k⟩
theorem ok_l_all {e : Wd} (D : DefAt e "_law_all" s_l_all) (B : Bl e.mg) : Can e 2 "_law_all" ["_law_text", "_law_signs"] (sp_l_all e.K) := by
  refine can_of D sc_l_all bi_l_all (fun _ _ _ _ h => sp2_len h) (fun cdv f A outer s H vs Q E hr h => ?_)
  obtain ⟨v0, v1, rfl, h⟩ := sp2_ex h
  have nd := sc_l_all.nd
  obtain ⟨t, u, rfl, rfl, hl, k⟩ := h
  refine ⟨_, (pss_one (ps_ret (pe_callB (call_allU (K := e.K) rfl) (by rfl) B.b_all bt_all (pa_cons (pe_lc (own := [("_law_sign", 2)]) (tt := tYes) rfl nd (pi_U (K := e.K) (pv 0)) (blkOk_by (N := N_l_all) (sc := defScope s_l_all) (by decide +kernel)) (fun _ _ _ _ _ => (pg_name (i := 2) nd rfl (by first | exact Or.inl rfl | exact Or.inr rfl))) (fun _ _ _ _ _ => pts_nil) (fun _ _ _ _ _ => (pe_cmpR (op_inU (K := e.K) hr) (pv 2) (pv 1) rfl))) pa_nil)))), ?_⟩
  have lt := TL.len_tl t
  walk_at "go"
  refine lc_S (sr_same H) (fun i ds => ds = (((TL.tl t).take i).map fun c => decide (c ∈ TL.tl u)).map PyData.bool) (by omega) rfl (fun _ => rfl) ?_ ?_
  · rintro i c H1 ds Q1 Qn hc s1 rfl k1 k2
    have tk : (TL.tl t).take (i + 1) = (TL.tl t).take i ++ [c] := by rw [List.take_add_one, hc] <;> rfl
    refine r_tyes (r_iteT ?_)
    walk_at "go"
    rw [occ_one]
    exact k1 _ (.bool (decide (c ∈ TL.tl u))) H1 (Same.refl _) (.bl _) (by rw [tk, List.map_append, List.map_append] <;> rfl)
  · rintro D H1 ys ds hD s1 hl1 dq rfl
    rw [List.take_of_length_le (by omega)] at dq
    have hy := Dqs.bools_of dq
    subst hy
    refine r_all hl1 ?_
    have e : (((TL.tl t).map fun c => decide (c ∈ TL.tl u)).all id) = (TL.tl t).all fun c => decide (c ∈ TL.tl u) := by
      rw [List.all_map]
      rfl
    rw [e]
    exact k _ s1

/-! ### _law_is_local -/
abbrev s_l_is_local : Stmt := top 29
abbrev N_l_is_local : List Str := ["_law_text", "_law_signs", "_law_k"]
theorem sc_l_is_local : FnScope N_l_is_local ["_law_text"] (defScope s_l_is_local) := ⟨rfl, rfl, rfl, by decide +kernel, rfl, by decide +kernel, by decide +kernel⟩
theorem bi_l_is_local : BindOk "_law_is_local" s_l_is_local ["_law_text"] := fun _ _ _ _ _ _ us hl => match us, hl with | [_], _ => rfl
def sp_l_is_local (K : PySem.W.Frag) : Sp := sp1 fun x H Q _ => ∃ t : Str, x = .str t ∧ t.length ≤ 100000 ∧ ∀ H', Same H H' → Q (.bl (locB (TL.tl t))) H'
theorem use_l_is_local {K : PySem.W.Frag} {t : Str} {H : Hp} {Q : VK} {E : XK} (h1 : t.length ≤ 100000) (k : ∀ H', Same H H' → Q (.bl (locB (TL.tl t))) H') : sp_l_is_local K [.str t] H Q E := ⟨t, rfl, h1, k⟩
theorem dd_any (l : List Nat) : dd l = ((List.range (l.length - 1)).any fun i => decide (l[i]? = some 46) && decide (l[i + 1]? = some 46)) := by
  rw [Bool.eq_iff_iff, dd_iff, List.any_eq_true]
  constructor
  · rintro ⟨i, h1, h2⟩
    have := (List.getElem?_eq_some_iff.mp h2).1
    exact ⟨i, List.mem_range.mpr (by omega), by rw [decide_eq_true h1, decide_eq_true h2] <;> rfl⟩
  · rintro ⟨i, _, h⟩
    rw [Bool.and_eq_true] at h
    exact ⟨i, of_decide_eq_true h.1, of_decide_eq_true h.2⟩
theorem ok_l_is_local {e : Wd} (D : DefAt e "_law_is_local" s_l_is_local) (B : Bl e.mg) (c_l_all : Can e 2 "_law_all" ["_law_text", "_law_signs"] (sp_l_all e.K)) : Can e 3 "_law_is_local" ["_law_text"] (sp_l_is_local e.K) := by
  refine can_of D sc_l_is_local bi_l_is_local (fun _ _ _ _ h => sp1_len h) (fun cdv f A outer s H vs Q E hr h => ?_)
  obtain ⟨v0, rfl, h⟩ := sp1_ex h
  have nd := sc_l_is_local.nd
  obtain ⟨t, rfl, hl, k⟩ := h
  refine ⟨_, (pss_cons (ps_set (i := 1) nd rfl (by first | exact Or.inl rfl | exact Or.inr rfl) pe_str)
    (pss_cons (ps_if (PW.pt (pw_or (pt_cmpR op_ltU (pe_callB (call_lenU (K := e.K)) (by rfl) B.b_len bt_len (pa_cons (pv 0) pa_nil)) pe_int (nomark _)) (pw_or (pt_cmpR op_gtU (pe_callB (call_lenU (K := e.K)) (by rfl) B.b_len bt_len (pa_cons (pv 0) pa_nil)) pe_int (nomark _)) (pw_or1 (pt_not (pt_tru (K := e.K) (pe_can c_l_all (hr.mono (by first | decide | omega)) passL (pa_cons (pv 0) (pa_cons (pv 1) pa_nil))))))))) (pss_one (ps_ret pe_bl)) pss_nil)
    (pss_cons (ps_if (PW.pt (pw_or (pt_cmpR (op_eqU (K := e.K) hr) (pe_ix (ix_U (K := e.K)) (pv 0) pe_int (fun _ _ => rfl)) pe_str (nomark _)) (pw_or1 (pt_cmpR (op_eqU (K := e.K) hr) (pe_ix (ix_U (K := e.K)) (pv 0) (pe_op op_subU (pe_callB (call_lenU (K := e.K)) (by rfl) B.b_len bt_len (pa_cons (pv 0) pa_nil)) pe_int) (fun _ _ => rfl)) pe_str (nomark _))))) (pss_one (ps_ret pe_bl)) pss_nil)
    (pss_one (ps_ret (pe_notU (K := e.K) (pe_callB (call_anyU (K := e.K) rfl) (by rfl) B.b_any bt_any (pa_cons (pe_lc (own := [("_law_k", 2)]) (tt := tYes) rfl nd (pi_range1 rfl B.b_range (pa_cons (pe_op op_subU (pe_callB (call_lenU (K := e.K)) (by rfl) B.b_len bt_len (pa_cons (pv 0) pa_nil)) pe_int) pa_nil)) (blkOk_by (N := N_l_is_local) (sc := defScope s_l_is_local) (by decide +kernel)) (fun _ _ _ _ _ => (pg_name (i := 2) nd rfl (by first | exact Or.inl rfl | exact Or.inr rfl))) (fun _ _ _ _ _ => pts_nil) (fun _ _ _ _ _ => (pe_andU (K := e.K) (pe_cmpR (op_eqU (K := e.K) hr) (pe_ix (ix_U (K := e.K)) (pv 0) (pv 2) (fun _ _ => rfl)) pe_str (nomark _)) (pe_one (pe_cmpR (op_eqU (K := e.K) hr) (pe_ix (ix_U (K := e.K)) (pv 0) (pe_op (op_addU (K := e.K)) (pv 2) pe_int) (fun _ _ => rfl)) pe_str (nomark _)))))) pa_nil)))))))), ?_⟩
  have ln := TL.len_tl t
  have no : ∀ {H' : Hp}, Same H H' → locB (TL.tl t) = false → Q (.bl false) H' := fun {H'} s e => by
    have := k H' s
    rw [e] at this
    exact this
  walk_at "go"
  refine r_ite (fun c0 => ?_) (fun c0 => ?_)
  · walk_at "god"
    exact no (Same.refl _) (by unfold locB; rw [decide_eq_false (show ¬ 1 ≤ (TL.tl t).length by omega)] <;> rfl)
  · walk_at "go"
    refine r_ite (fun c1 => ?_) (fun c1 => ?_)
    · walk_at "god"
      exact no (Same.refl _) (by unfold locB; rw [decide_eq_false (show ¬ (TL.tl t).length ≤ 40 by omega), Bool.and_false] <;> rfl)
    · walk_at "go"
      refine use_all (by omega) (fun H1 s1 => ?_)
      have e : locB (TL.tl t) = ((TL.tl t).all (fun c => decide (c ∈ TL.tl locS)) && !decide ((TL.tl t).head? = some 46) && !decide ((TL.tl t).getLast? = some 46) && !dd (TL.tl t)) := by
        unfold locB
        rw [decide_eq_true (show 1 ≤ (TL.tl t).length by omega), decide_eq_true (show (TL.tl t).length ≤ 40 by omega)] <;> rfl
      cases hb0 : (TL.tl t).all (fun c => decide (c ∈ TL.tl locS)) with
      | false =>
        walk_at "god"
        exact no s1 (by rw [e, hb0] <;> rfl)
      | true =>
        rw [hb0] at e
        obtain ⟨f, f1, f2⟩ := at_one (t := t) (i := 0) (by omega)
        obtain ⟨g, g1, g2⟩ := at_one (t := t) (i := t.length - 1) (by omega)
        have f3 : (TL.tl t).head? = some f := by rw [List.head?_eq_getElem?]; exact f2
        have g3 : (TL.tl t).getLast? = some g := by rw [List.getLast?_eq_getElem?, ← ln]; exact g2
        rw [f3, g3] at e
        have df : decide ((⟨#[f]⟩ : Str) = Str.ofString ".") = decide (some f = some 46) := by
          rw [dot_eq, Bool.eq_iff_iff, decide_eq_true_iff, decide_eq_true_iff, one_eq, Option.some.injEq]
        have dg : decide ((⟨#[g]⟩ : Str) = Str.ofString ".") = decide (some g = some 46) := by
          rw [dot_eq, Bool.eq_iff_iff, decide_eq_true_iff, decide_eq_true_iff, one_eq, Option.some.injEq]
        walk_at "god"
        refine r_ixA (by rw [sizeLine_eq]; omega) f1 ?_
        walk_at "go"
        rw [df]
        cases hf : decide (some f = some 46) with
        | true =>
          walk_at "god"
          exact no s1 (by rw [e, hf] <;> rfl)
        | false =>
          rw [hf] at e
          walk_at "god"
          rw [show ((t.length : Int) - 1) = ((t.length - 1 : Nat) : Int) by omega]
          refine r_ixA (by rw [sizeLine_eq]; omega) g1 ?_
          walk_at "go"
          rw [dg]
          cases hg : decide (some g = some 46) with
          | true =>
            walk_at "god"
            exact no s1 (by rw [e, hg] <;> rfl)
          | false =>
            rw [hg] at e
            walk_at "god"
            refine lc_R (sr_same H1) (fun i ds => ds = ((List.range i).map fun i => decide ((TL.tl t)[i]? = some 46) && decide ((TL.tl t)[i + 1]? = some 46)).map PyData.bool) (by omega) (by omega) rfl (fun _ => rfl) ?_ ?_
            · rintro i H2 ds Q1 Qn hi s2 rfl k1 k2
              obtain ⟨x, x1, x2⟩ := at_one (t := t) (i := i) (by omega)
              obtain ⟨y, y1, y2⟩ := at_one (t := t) (i := i + 1) (by omega)
              have dx : decide ((⟨#[x]⟩ : Str) = Str.ofString ".") = decide ((TL.tl t)[i]? = some 46) := by
                rw [x2, dot_eq, Bool.eq_iff_iff, decide_eq_true_iff, decide_eq_true_iff, one_eq, Option.some.injEq]
              have dy : decide ((⟨#[y]⟩ : Str) = Str.ofString ".") = decide ((TL.tl t)[i + 1]? = some 46) := by
                rw [y2, dot_eq, Bool.eq_iff_iff, decide_eq_true_iff, decide_eq_true_iff, one_eq, Option.some.injEq]
              have fin := k1 (.bl (decide ((TL.tl t)[i]? = some 46) && decide ((TL.tl t)[i + 1]? = some 46))) (.bool (decide ((TL.tl t)[i]? = some 46) && decide ((TL.tl t)[i + 1]? = some 46))) H2 (Same.refl _) (.bl _) (by rw [List.range_succ, List.map_append, List.map_append] <;> rfl)
              refine r_tyes (r_iteT ?_)
              walk_at "go"
              refine r_ixA (by rw [sizeLine_eq]; omega) x1 ?_
              walk_at "go"
              rw [dx]
              cases hx : decide ((TL.tl t)[i]? = some 46) with
              | false =>
                rw [hx] at fin
                walk_at "go"
                exact fin
              | true =>
                rw [hx] at fin
                walk_at "go"
                rw [show ((i : Int) + 1) = ((i + 1 : Nat) : Int) by omega]
                refine r_ixA (by rw [sizeLine_eq]; omega) y1 ?_
                walk_at "go"
                rw [dy]
                exact fin
            · rintro D H2 ys ds hD s2 hl2 dq rfl
              have hy := Dqs.bools_of dq
              subst hy
              walk_at "go"
              refine r_any hl2 ?_
              have e5 : (((List.range (((t.length : Int) - 1).toNat)).map fun i => decide ((TL.tl t)[i]? = some 46) && decide ((TL.tl t)[i + 1]? = some 46)).any id) = dd (TL.tl t) := by
                rw [dd_any, List.any_map, show ((t.length : Int) - 1).toNat = (TL.tl t).length - 1 by omega]
                rfl
              rw [e5]
              have q := k H2 (s1.trans s2)
              rw [e] at q
              walk_at "god"
              exact q

/-! ### _law_is_domain -/
abbrev s_l_is_domain : Stmt := top 30
abbrev N_l_is_domain : List Str := ["_law_text", "_law_signs", "_law_label"]
theorem sc_l_is_domain : FnScope N_l_is_domain ["_law_text"] (defScope s_l_is_domain) := ⟨rfl, rfl, rfl, by decide +kernel, rfl, by decide +kernel, by decide +kernel⟩
theorem bi_l_is_domain : BindOk "_law_is_domain" s_l_is_domain ["_law_text"] := fun _ _ _ _ _ _ us hl => match us, hl with | [_], _ => rfl
def sp_l_is_domain (K : PySem.W.Frag) : Sp := sp1 fun x H Q _ => ∃ t : Str, x = .str t ∧ t.length ≤ 100000 ∧ ∀ H', Same H H' → Q (.bl (domB t)) H'
theorem use_l_is_domain {K : PySem.W.Frag} {t : Str} {H : Hp} {Q : VK} {E : XK} (h1 : t.length ≤ 100000) (k : ∀ H', Same H H' → Q (.bl (domB t)) H') : sp_l_is_domain K [.str t] H Q E := ⟨t, rfl, h1, k⟩
theorem ok_l_is_domain {e : Wd} (D : DefAt e "_law_is_domain" s_l_is_domain) (B : Bl e.mg) (c_l_all : Can e 2 "_law_all" ["_law_text", "_law_signs"] (sp_l_all e.K)) : Can e 3 "_law_is_domain" ["_law_text"] (sp_l_is_domain e.K) := by
  refine can_of D sc_l_is_domain bi_l_is_domain (fun _ _ _ _ h => sp1_len h) (fun cdv f A outer s H vs Q E hr h => ?_)
  obtain ⟨v0, rfl, h⟩ := sp1_ex h
  have nd := sc_l_is_domain.nd
  obtain ⟨t, rfl, hl, k⟩ := h
  refine ⟨_, (pss_cons (ps_set (i := 1) nd rfl (by first | exact Or.inl rfl | exact Or.inr rfl) pe_str)
    (pss_cons (ps_if (pt_cmpR op_gtU (pe_callB (call_lenU (K := e.K)) (by rfl) B.b_len bt_len (pa_cons (pv 0) pa_nil)) pe_int (nomark _)) (pss_one (ps_ret pe_bl)) pss_nil)
    (pss_cons (ps_for PassesOwn.never rfl (pi_U (K := e.K) (pe_bmU (K := e.K) PySem.F.plainAttrs_str PySem.F.slot_str_split PySem.F.type_str_split mt_splitU (pv 0) (pa_cons pe_str pa_nil))) (pg_name (i := 2) nd rfl (by first | exact Or.inl rfl | exact Or.inr rfl)) (pss_cons (ps_if (PW.pt (pw_or (pt_cmpR op_ltU (pe_callB (call_lenU (K := e.K)) (by rfl) B.b_len bt_len (pa_cons (pv 2) pa_nil)) pe_int (nomark _)) (pw_or (pt_cmpR op_gtU (pe_callB (call_lenU (K := e.K)) (by rfl) B.b_len bt_len (pa_cons (pv 2) pa_nil)) pe_int (nomark _)) (pw_or1 (pt_not (pt_tru (K := e.K) (pe_can c_l_all (hr.mono (by first | decide | omega)) passL (pa_cons (pv 2) (pa_cons (pv 1) pa_nil))))))))) (pss_one (ps_ret pe_bl)) pss_nil)
    (pss_one (ps_if (PW.pt (pw_or (pt_cmpR (op_eqU (K := e.K) hr) (pe_ix (ix_U (K := e.K)) (pv 2) pe_int (fun _ _ => rfl)) pe_str (nomark _)) (pw_or1 (pt_cmpR (op_eqU (K := e.K) hr) (pe_ix (ix_U (K := e.K)) (pv 2) (pe_op op_subU (pe_callB (call_lenU (K := e.K)) (by rfl) B.b_len bt_len (pa_cons (pv 2) pa_nil)) pe_int) (fun _ _ => rfl)) pe_str (nomark _))))) (pss_one (ps_ret pe_bl)) pss_nil))))
    (pss_one (ps_ret pe_bl))))), ?_⟩
  have nd1 : ((Str.ofString ".").length == 0) = false := by decide +kernel
  have no : ∀ {H' : Hp}, Same H H' → domB t = false → Q (.bl false) H' := fun {H'} s e => by
    have := k H' s
    rw [e] at this
    exact this
  walk_at "go"
  refine r_ite (fun c0 => ?_) (fun c0 => ?_)
  · walk_at "god"
    exact no (Same.refl _) (by unfold domB; rw [decide_eq_false (show ¬ t.length ≤ 80 by omega)] <;> rfl)
  · walk_at "go"
    refine r_split nd1 (by rw [sizeLine_eq]; omega) (fun p H1 n1 m1 h1 => ?_)
    walk_at "go"
    have e : domB t = (Txt.split t (Str.ofString ".")).all fun p => labB (TL.tl p) := by
      unfold domB
      rw [decide_eq_true (show t.length ≤ 80 by omega), Bool.true_and]
    have pl : ∀ z ∈ Txt.split t (Str.ofString "."), z.length ≤ 80 := fun z hz => by
      have := part_short hz
      omega
    generalize Txt.split t (Str.ofString ".") = ps at e pl h1
    refine for_L (fun i σ' H' => ∃ x, σ' = [some (.str t), some (.str labS), x] ∧ Same H1 H' ∧ ∀ (j : Nat) (z : Str), j < i → ps[j]? = some z → labB (TL.tl z) = true) (SqL.of h1) ?_ ?_ ?_ ?_
    · exact ⟨_, rfl, Same.refl _, fun _ _ z => absurd z (Nat.not_lt_zero _)⟩
    · rintro i σ' H' _ ⟨x, rfl, s1, _⟩
      exact SqL.of (s1 _ _ h1)
    · rintro i v σ' H2 hv ⟨x, rfl, s2, hj⟩
      obtain ⟨z, hz, rfl⟩ := get_map hv
      have lz := pl z (mem_of_get hz)
      have ln := TL.len_tl z
      have bad : labB (TL.tl z) = false → ∀ H3, Same H2 H3 → Q (.bl false) H3 := fun w H3 s3 => no ((m1.trans s2).trans s3) (by
        rw [e, List.all_eq_false]
        exact ⟨z, mem_of_get hz, by rw [w]; exact Bool.false_ne_true⟩)
      have good : labB (TL.tl z) = true → ∀ (j : Nat) (z : Str), j < i + 1 → ps[j]? = some z → labB (TL.tl z) = true := fun w j z' hj' hz' => by
        rcases Nat.lt_succ_iff_lt_or_eq.mp hj' with hj' | rfl
        · exact hj j z' hj' hz'
        · rw [hz] at hz'
          cases hz'
          exact w
      walk_at "go"
      refine r_ite (fun c1 => ?_) (fun c1 => ?_)
      · walk_at "god"
        exact bad (by unfold labB; rw [decide_eq_false (show ¬ 1 ≤ (TL.tl z).length by omega)] <;> rfl) _ (Same.refl _)
      · walk_at "go"
        refine r_ite (fun c2 => ?_) (fun c2 => ?_)
        · walk_at "god"
          exact bad (by unfold labB; rw [decide_eq_false (show ¬ (TL.tl z).length ≤ 20 by omega), Bool.and_false] <;> rfl) _ (Same.refl _)
        · walk_at "go"
          refine use_all (by omega) (fun H3 s3 => ?_)
          have e2 : labB (TL.tl z) = ((TL.tl z).all (fun c => decide (c ∈ TL.tl labS)) && !decide ((TL.tl z).head? = some 45) && !decide ((TL.tl z).getLast? = some 45)) := by
            unfold labB
            rw [decide_eq_true (show 1 ≤ (TL.tl z).length by omega), decide_eq_true (show (TL.tl z).length ≤ 20 by omega)] <;> rfl
          cases hb0 : (TL.tl z).all (fun c => decide (c ∈ TL.tl labS)) with
          | false =>
            walk_at "god"
            exact bad (by rw [e2, hb0] <;> rfl) _ s3
          | true =>
            rw [hb0] at e2
            obtain ⟨f, f1, f2⟩ := at_one (t := z) (i := 0) (by omega)
            obtain ⟨g, g1, g2⟩ := at_one (t := z) (i := z.length - 1) (by omega)
            have f3 : (TL.tl z).head? = some f := by rw [List.head?_eq_getElem?]; exact f2
            have g3 : (TL.tl z).getLast? = some g := by rw [List.getLast?_eq_getElem?, ← ln]; exact g2
            rw [f3, g3] at e2
            have df : decide ((⟨#[f]⟩ : Str) = Str.ofString "-") = decide (some f = some 45) := by
              rw [hy_eq, Bool.eq_iff_iff, decide_eq_true_iff, decide_eq_true_iff, one_eq, Option.some.injEq]
            have dg : decide ((⟨#[g]⟩ : Str) = Str.ofString "-") = decide (some g = some 45) := by
              rw [hy_eq, Bool.eq_iff_iff, decide_eq_true_iff, decide_eq_true_iff, one_eq, Option.some.injEq]
            walk_at "god"
            refine r_ixA (by rw [sizeLine_eq]; omega) f1 ?_
            walk_at "go"
            rw [df]
            cases hf : decide (some f = some 45) with
            | true =>
              walk_at "god"
              exact bad (by rw [e2, hf] <;> rfl) _ s3
            | false =>
              rw [hf] at e2
              walk_at "god"
              rw [show ((z.length : Int) - 1) = ((z.length - 1 : Nat) : Int) by omega]
              refine r_ixA (by rw [sizeLine_eq]; omega) g1 ?_
              walk_at "go"
              rw [dg]
              cases hg : decide (some g = some 45) with
              | true =>
                walk_at "god"
                exact bad (by rw [e2, hg] <;> rfl) _ s3
              | false =>
                rw [hg] at e2
                walk_at "god"
                exact ⟨_, rfl, s2.trans s3, good e2⟩
    · rintro σ' H2 ⟨x, rfl, s2, hj⟩
      walk_at "god"
      have q := k H2 (m1.trans s2)
      have e3 : domB t = true := by
        rw [e, List.all_eq_true]
        intro z hz
        obtain ⟨j, hj2⟩ := List.getElem?_of_mem hz
        exact hj j z (by rw [List.length_map]; exact (List.getElem?_eq_some_iff.mp hj2).1) hj2
      rw [e3] at q
      exact q

/-! ### _law_expected -/
abbrev s_l_expected : Stmt := top 31
abbrev N_l_expected : List Str := ["_law_text", "_law_parts"]
theorem sc_l_expected : FnScope N_l_expected ["_law_text"] (defScope s_l_expected) := ⟨rfl, rfl, rfl, by decide +kernel, rfl, by decide +kernel, by decide +kernel⟩
theorem bi_l_expected : BindOk "_law_expected" s_l_expected ["_law_text"] := fun _ _ _ _ _ _ us hl => match us, hl with | [_], _ => rfl
/-- an address or nothing, as a value -/
def AddrV (H : Hp) (v : V) : Option (Str × Str) → Prop
  | some (a, b) => ∃ p, v = .ref p ∧ H p = some (.tup [.str a, .str b])
  | none => v = .non
theorem AddrV.mono {H H' : Hp} {v : V} {o : Option (Str × Str)} (g : Gro H H') (h : AddrV H v o) : AddrV H' v o := by
  match o, h with
  | some (a, b), ⟨p, e, hp⟩ => exact ⟨p, e, g.tup _ _ hp⟩
  | none, h => exact h
def sp_l_expected (K : PySem.W.Frag) : Sp := sp1 fun x H Q _ => ∃ t : Str, x = .str t ∧ t.length ≤ 1000 ∧ Asc t ∧ ∀ v H', Same H H' → AddrV H' v (addrM t) → Q v H'
theorem use_expected {K : PySem.W.Frag} {t : Str} {H : Hp} {Q : VK} {E : XK} (h1 : t.length ≤ 1000) (h2 : Asc t) (k : ∀ v H', Same H H' → AddrV H' v (addrM t) → Q v H') : sp_l_expected K [.str t] H Q E := ⟨t, rfl, h1, h2, k⟩
theorem ok_l_expected {e : Wd} (D : DefAt e "_law_expected" s_l_expected) (B : Bl e.mg) (c_l_lower : Can e 2 "_law_lower" ["_law_text"] (sp_l_lower e.K)) (c_l_is_local : Can e 3 "_law_is_local" ["_law_text"] (sp_l_is_local e.K)) (c_l_is_domain : Can e 3 "_law_is_domain" ["_law_text"] (sp_l_is_domain e.K)) : Can e 4 "_law_expected" ["_law_text"] (sp_l_expected e.K) := by
  refine can_of D sc_l_expected bi_l_expected (fun _ _ _ _ h => sp1_len h) (fun cdv f A outer s H vs Q E hr h => ?_)
  obtain ⟨v0, rfl, h⟩ := sp1_ex h
  have nd := sc_l_expected.nd
  obtain ⟨t, rfl, hl, ha, k⟩ := h
  have nd1 : ((Str.ofString "@").length == 0) = false := by decide +kernel
  have ll := PyProof.Rows.len_lower t
  refine ⟨_, (pss_cons (ps_set (i := 1) nd rfl (by first | exact Or.inl rfl | exact Or.inr rfl) (pe_bmU (K := e.K) PySem.F.plainAttrs_str PySem.F.slot_str_split PySem.F.type_str_split mt_splitU (pe_can c_l_lower (hr.mono (by first | decide | omega)) passL (pa_cons (pv 0) pa_nil)) (pa_cons pe_str pa_nil)))
    (pss_cons (ps_if (PW.pt (pw_or (pt_cmpR (op_neU (K := e.K) hr) (pe_callB (call_lenU (K := e.K)) (by rfl) B.b_len bt_len (pa_cons (pv 1) pa_nil)) pe_int (nomark _)) (pw_or (pt_not (pt_tru (K := e.K) (pe_can c_l_is_local (hr.mono (by first | decide | omega)) passL (pa_cons (pe_ix (ix_U (K := e.K)) (pv 1) pe_int (fun _ _ => rfl)) pa_nil)))) (pw_or1 (pt_not (pt_tru (K := e.K) (pe_can c_l_is_domain (hr.mono (by first | decide | omega)) passL (pa_cons (pe_ix (ix_U (K := e.K)) (pv 1) pe_int (fun _ _ => rfl)) pa_nil)))))))) (pss_one (ps_ret pe_non)) pss_nil)
    (pss_one (ps_ret (pe_tup (pa_cons (pe_ix (ix_U (K := e.K)) (pv 1) pe_int (fun _ _ => rfl)) (pa_cons (pe_ix (ix_U (K := e.K)) (pv 1) pe_int (fun _ _ => rfl)) pa_nil))))))), ?_⟩
  walk_at "go"
  refine use_lower hl ha (fun H0 m0 => ?_)
  walk_at "go"
  refine r_split nd1 (by rw [sizeLine_eq]; omega) (fun p H1 n1 m1 h1 => ?_)
  unfold addrM at k
  generalize hps : Txt.split (Txt.lower t) (Str.ofString "@") = ps at k h1
  have hp : ∀ a ∈ ps, a.length ≤ 30000 := fun a ha => by
    have := part_short (hps ▸ ha)
    omega
  have m01 := m0.trans m1
  walk_at "go"
  refine r_iten (fun c0 => ?_) (fun c0 => ?_)
  · rw [List.length_map] at c0
    walk_at "god"
    rw [addrP_ne (by omega)] at k
    exact k _ _ m01 rfl
  · rw [List.length_map] at c0
    obtain ⟨a, b, rfl⟩ := two_of (ps := ps) (by omega)
    have la := hp a (by simp)
    have lb := hp b (by simp)
    have h1 : H1 p = some (.lst [.str a, .str b]) := h1
    have e : addrP [a, b] = if (locB (TL.tl a) && domB b) = true then some (a, b) else none := rfl
    rw [e] at k
    walk_at "go"
    refine use_l_is_local (by omega) (fun H2 s2 => ?_)
    have h2 := s2 _ _ h1
    generalize locB (TL.tl a) = b0 at k ⊢
    cases b0 with
    | false =>
      walk_at "god"
      exact k _ _ (m01.trans s2) rfl
    | true =>
      walk_at "go"
      refine use_l_is_domain (by omega) (fun H3 s3 => ?_)
      have h3 := s3 _ _ h2
      generalize domB b = b1 at k ⊢
      cases b1 with
      | false =>
        walk_at "god"
        exact k _ _ ((m01.trans s2).trans s3) rfl
      | true =>
        clear h2 h1
        walk_at "god"
        rename_i q H4 n4 m4 h4
        exact k _ _ (((m01.trans s2).trans s3).trans m4) ⟨q, rfl, h4⟩

/-! ### _law_parsed -/
abbrev s_l_parsed : Stmt := top 32
abbrev N_l_parsed : List Str := ["_law_text", "e"]
theorem sc_l_parsed : FnScope N_l_parsed ["_law_text"] (defScope s_l_parsed) := ⟨rfl, rfl, rfl, by decide +kernel, rfl, by decide +kernel, by decide +kernel⟩
theorem bi_l_parsed : BindOk "_law_parsed" s_l_parsed ["_law_text"] := fun _ _ _ _ _ _ us hl => match us, hl with | [_], _ => rfl
def sp_l_parsed (K : PySem.W.Frag) : Sp := sp1 fun x H Q _ => ∃ t : Str, x = .str t ∧ t.length ≤ 1000 ∧ TabA K H ∧ ∀ v H', Sam H H' → AddrV H' v (addrM t) → Q v H'
theorem use_parsed {K : PySem.W.Frag} {t : Str} {H : Hp} {Q : VK} {E : XK} (h1 : t.length ≤ 1000) (h2 : TabA K H) (k : ∀ v H', Sam H H' → AddrV H' v (addrM t) → Q v H') : sp_l_parsed K [.str t] H Q E := ⟨t, rfl, h1, h2, k⟩
theorem ok_l_parsed {e : Wd} (D : DefAt e "_law_parsed" s_l_parsed) (B : Bl e.mg) (gm_InvalidAddress : e.mg "InvalidAddress" = some (.ref (He.ga e.K "InvalidAddress"))) (gm_MailError : e.mg "MailError" = some (.ref (He.ga e.K "MailError"))) (em_InvalidAddress_InvalidAddress : PySem.W.exmOne e.K (.ref (He.ga e.K "InvalidAddress")) (.ref (He.ga e.K "InvalidAddress")) = some true) (ki_InvalidAddress_MailError : PySem.W.kitOne e.K (.ref (He.ga e.K "InvalidAddress")) (.ref (He.ga e.K "MailError")) = some true) (ki_InvalidAddress_ValueError : PySem.W.kitOne e.K (.ref (He.ga e.K "InvalidAddress")) (.type "ValueError") = some true) (ec_InvalidAddress : ExcC e.K (He.ga e.K "InvalidAddress")) (c_parse_address : Can e 7 "parse_address" ["text"] (sp_parse_address e.K)) : Can e 8 "_law_parsed" ["_law_text"] (sp_l_parsed e.K) := by
  refine can_of D sc_l_parsed bi_l_parsed (fun _ _ _ _ h => sp1_len h) (fun cdv f A outer s H vs Q E hr h => ?_)
  obtain ⟨v0, rfl, h⟩ := sp1_ex h
  have nd := sc_l_parsed.nd
  obtain ⟨t, rfl, hl, tg, k⟩ := h
  refine ⟨_, (pss_one (ps_tryA (K := e.K) (i := 1) rfl rfl nd rfl rfl ⟨rfl, by decide, .inl gm_InvalidAddress⟩ takes0 (fun W1 pn1 xe1 tk1 po1 => (pss_one (ps_ret (pe_canX tk1 c_parse_address (hr.mono (by first | decide | omega)) (pa_cons (pv 0) pa_nil)))))
    (fun a1 oe1 cls1 d1 pn1 hz1 hf1 => (pss_cons (ps_if (PW.pt (pw_or (pt_not (pt_tru (K := e.K) (pe_callB (call_isX (K := e.K) hz1 hf1) (by rfl) B.b_isinstance bt_isinstance (pa_cons (pv 1) (pa_cons (pe_gc gm_MailError) pa_nil))))) (pw_or1 (pt_not (pt_tru (K := e.K) (pe_callB (call_isX (K := e.K) hz1 hf1) (by rfl) B.b_isinstance bt_isinstance (pa_cons (pv 1) (pa_cons (pe_bltn (v := .ty "ValueError") (by rfl) B.b_ValueError bt_ValueError rfl) pa_nil)))))))) (pss_one (ps_ret (pe_tup (pa_cons pe_str pa_nil)))) pss_nil)
    (pss_one (ps_ret pe_non)))))), ?_⟩
  walk_at "go"
  refine use_parse_address (by omega) tg (fun a b q p H1 n1 s1 h1 => ?_) (fun q H1 s1 => ?_)
  · walk_at "go"
    rw [q] at k
    exact k _ _ s1 ⟨p, rfl, h1⟩
  · refine r_wAsT em_InvalidAddress_InvalidAddress (fun a na => ?_)
    walk_at "god"
    rw [q] at k
    exact k _ _ s1 rfl

/-! ### _law_path -/
abbrev s_l_path : Stmt := top 33
abbrev N_l_path : List Str := ["_law_text"]
theorem sc_l_path : FnScope N_l_path ["_law_text"] (defScope s_l_path) := ⟨rfl, rfl, rfl, by decide +kernel, rfl, by decide +kernel, by decide +kernel⟩
theorem bi_l_path : BindOk "_law_path" s_l_path ["_law_text"] := fun _ _ _ _ _ _ us hl => match us, hl with | [_], _ => rfl
/-- a path or nothing, as a value -/
def PathV (H : Hp) (v : V) : Option (Option (Str × Str)) → Prop
  | some o => ∃ p w, v = .ref p ∧ H p = some (.tup [.str "path", w]) ∧ AddrV H w o
  | none => v = .non
theorem PathV.mono {H H' : Hp} {v : V} {o : Option (Option (Str × Str))} (g : Gro H H') (h : PathV H v o) : PathV H' v o := by
  match o, h with
  | some o, ⟨p, w, e, hp, hw⟩ => exact ⟨p, w, e, g.tup _ _ hp, hw.mono g⟩
  | none, h => exact h
def sp_l_path (K : PySem.W.Frag) : Sp := sp1 fun x H Q _ => ∃ t : Str, x = .str t ∧ t.length ≤ 1000 ∧ TabA K H ∧ ∀ v H', Sam H H' → PathV H' v (pathM t) → Q v H'
theorem use_path {K : PySem.W.Frag} {t : Str} {H : Hp} {Q : VK} {E : XK} (h1 : t.length ≤ 1000) (h2 : TabA K H) (k : ∀ v H', Sam H H' → PathV H' v (pathM t) → Q v H') : sp_l_path K [.str t] H Q E := ⟨t, rfl, h1, h2, k⟩
theorem ok_l_path {e : Wd} (D : DefAt e "_law_path" s_l_path) (B : Bl e.mg) (gm_InvalidAddress : e.mg "InvalidAddress" = some (.ref (He.ga e.K "InvalidAddress"))) (em_InvalidAddress_InvalidAddress : PySem.W.exmOne e.K (.ref (He.ga e.K "InvalidAddress")) (.ref (He.ga e.K "InvalidAddress")) = some true) (c_parse_path : Can e 8 "parse_path" ["text"] (sp_parse_path e.K)) : Can e 9 "_law_path" ["_law_text"] (sp_l_path e.K) := by
  refine can_of D sc_l_path bi_l_path (fun _ _ _ _ h => sp1_len h) (fun cdv f A outer s H vs Q E hr h => ?_)
  obtain ⟨v0, rfl, h⟩ := sp1_ex h
  have nd := sc_l_path.nd
  obtain ⟨t, rfl, hl, tg, k⟩ := h
  refine ⟨_, (pss_one (ps_tryO (K := e.K) rfl rfl ⟨rfl, by decide, .inl gm_InvalidAddress⟩ takes0 (fun W1 pn1 xe1 tk1 po1 => (pss_one (ps_ret (pe_tup (pa_cons pe_str (pa_cons (pe_canX tk1 c_parse_path (hr.mono (by first | decide | omega)) (pa_cons (pv 0) pa_nil)) pa_nil))))))
    (fun a1 oe1 cls1 d1 pn1 hz1 hf1 => (pss_one (ps_ret pe_non))))), ?_⟩
  walk_at "go"
  refine use_parse_path (by omega) tg (fun a b q p H1 n1 s1 h1 => ?_) (fun q H1 s1 => ?_) (fun q H1 s1 => ?_)
  · walk_at "go"
    rename_i p2 H2 n2 m2 h2
    rw [q] at k
    exact k _ _ (s1.snd m2) ⟨p2, _, rfl, h2, p, rfl, m2 _ _ h1⟩
  · walk_at "go"
    rename_i p2 H2 n2 m2 h2
    rw [q] at k
    exact k _ _ (s1.snd m2) ⟨p2, _, rfl, h2, rfl⟩
  · refine r_wOnlyT em_InvalidAddress_InvalidAddress (fun a na => ?_)
    walk_at "god"
    rw [q] at k
    exact k _ _ s1 rfl

/-! ### _law_expected_path -/
abbrev s_l_expected_path : Stmt := top 34
abbrev N_l_expected_path : List Str := ["_law_text", "_law_inner"]
theorem sc_l_expected_path : FnScope N_l_expected_path ["_law_text"] (defScope s_l_expected_path) := ⟨rfl, rfl, rfl, by decide +kernel, rfl, by decide +kernel, by decide +kernel⟩
theorem bi_l_expected_path : BindOk "_law_expected_path" s_l_expected_path ["_law_text"] := fun _ _ _ _ _ _ us hl => match us, hl with | [_], _ => rfl
def sp_l_expected_path (K : PySem.W.Frag) : Sp := sp1 fun x H Q _ => ∃ t : Str, x = .str t ∧ t.length ≤ 1000 ∧ Asc t ∧ ∀ v H', Same H H' → PathV H' v (pathM t) → Q v H'
theorem use_expected_path {K : PySem.W.Frag} {t : Str} {H : Hp} {Q : VK} {E : XK} (h1 : t.length ≤ 1000) (h2 : Asc t) (k : ∀ v H', Same H H' → PathV H' v (pathM t) → Q v H') : sp_l_expected_path K [.str t] H Q E := ⟨t, rfl, h1, h2, k⟩
theorem tl_inner {t : Str} (h : 2 ≤ t.length) : TL.tl (cutS t (some 1) (some ((t.length : Int) - 1))) = ((TL.tl t).drop 1).take (t.length - 2) := by
  unfold cutS
  rw [show ((t.length : Int) - 1) = ((t.length - 1 : Nat) : Int) by omega, show (some (1 : Int)) = some ((1 : Nat) : Int) from rfl, HT.sIx_nat, HT.sIx_nat]
  show ((TL.tl t).drop (min 1 t.length)).take (min (t.length - 1) t.length - min 1 t.length) = _
  rw [Nat.min_eq_left (by omega), Nat.min_eq_left (by omega), show t.length - 1 - 1 = t.length - 2 by omega]
theorem inner_e {t : Str} (h1 : (TL.tl t).head? = some 60) (h2 : (TL.tl t).getLast? = some 62) (h3 : 2 ≤ t.length) : cutS t (some 1) (some ((t.length : Int) - 1)) = Str.ofString "" ↔ t = Str.ofString "<>" := by
  have ln := TL.len_tl t
  have lc : (cutS t (some 1) (some ((t.length : Int) - 1))).length = t.length - 2 := by
    rw [TL.len_tl, tl_inner h3, List.length_take, List.length_drop]
    omega
  rw [e_iff, lc]
  constructor
  · intro h
    have h2' : t.length = 2 := by omega
    refine tl_inj ?_
    have e : TL.tl (Str.ofString "<>") = [60, 62] := by decide +kernel
    rw [e]
    generalize TL.tl t = l at h1 h2 ln
    match l, ln with
    | [a, b], _ =>
      simp at h1 h2
      rw [h1, h2]
    | [], q => simp at q; omega
    | [a], q => simp at q; omega
    | a :: b :: c :: r, q => simp at q; omega
  · intro h
    rw [h]
    decide +kernel
theorem inner_asc {t : Str} (h : 2 ≤ t.length) (ha : Asc t) : Asc (cutS t (some 1) (some ((t.length : Int) - 1))) := fun c hc => by
  rw [tl_inner h] at hc
  exact ha c (List.mem_of_mem_drop (List.mem_of_mem_take hc))
theorem ok_l_expected_path {e : Wd} (D : DefAt e "_law_expected_path" s_l_expected_path) (B : Bl e.mg) (c_l_expected : Can e 4 "_law_expected" ["_law_text"] (sp_l_expected e.K)) : Can e 5 "_law_expected_path" ["_law_text"] (sp_l_expected_path e.K) := by
  refine can_of D sc_l_expected_path bi_l_expected_path (fun _ _ _ _ h => sp1_len h) (fun cdv f A outer s H vs Q E hr h => ?_)
  obtain ⟨v0, rfl, h⟩ := sp1_ex h
  have nd := sc_l_expected_path.nd
  obtain ⟨t, rfl, hl, ha, k⟩ := h
  refine ⟨_, (pss_cons (ps_if (PW.pt (pw_or (pt_cmpR op_ltU (pe_callB (call_lenU (K := e.K)) (by rfl) B.b_len bt_len (pa_cons (pv 0) pa_nil)) pe_int (nomark _)) (pw_or (pt_cmpR (op_neU (K := e.K) hr) (pe_ix (ix_U (K := e.K)) (pv 0) pe_int (fun _ _ => rfl)) pe_str (nomark _)) (pw_or1 (pt_cmpR (op_neU (K := e.K) hr) (pe_ix (ix_U (K := e.K)) (pv 0) (pe_op op_subU (pe_callB (call_lenU (K := e.K)) (by rfl) B.b_len bt_len (pa_cons (pv 0) pa_nil)) pe_int) (fun _ _ => rfl)) pe_str (nomark _)))))) (pss_one (ps_ret pe_non)) pss_nil)
    (pss_cons (ps_set (i := 1) nd rfl (by first | exact Or.inl rfl | exact Or.inr rfl) (pe_slice (sl_U (K := e.K)) (pv 0) (po_some pe_int) (po_some (pe_op op_subU (pe_callB (call_lenU (K := e.K)) (by rfl) B.b_len bt_len (pa_cons (pv 0) pa_nil)) pe_int))))
    (pss_cons (ps_if (pt_cmpR (op_eqU (K := e.K) hr) (pv 1) pe_str (nomark _)) (pss_one (ps_ret (pe_tup (pa_cons pe_str (pa_cons pe_non pa_nil))))) pss_nil)
    (pss_cons (ps_if (pt_cmpR op_isU (pe_can c_l_expected (hr.mono (by first | decide | omega)) passL (pa_cons (pv 1) pa_nil)) pe_non (nomark _)) (pss_one (ps_ret pe_non)) pss_nil)
    (pss_one (ps_ret (pe_tup (pa_cons pe_str (pa_cons (pe_can c_l_expected (hr.mono (by first | decide | omega)) passL (pa_cons (pv 1) pa_nil)) pa_nil))))))))), ?_⟩
  have ln := TL.len_tl t
  have no : ∀ {H' : Hp}, Same H H' → pathM t = none → Q .non H' := fun {H'} s e => k _ H' s (by rw [e] <;> rfl)
  walk_at "go"
  refine r_ite (fun c0 => ?_) (fun c0 => ?_)
  · walk_at "god"
    exact no (Same.refl _) (by unfold pathM; rw [if_neg fun z => by omega])
  · obtain ⟨f, f1, f2⟩ := at_one (t := t) (i := 0) (by omega)
    obtain ⟨g, g1, g2⟩ := at_one (t := t) (i := t.length - 1) (by omega)
    have f3 : (TL.tl t).head? = some f := by rw [List.head?_eq_getElem?]; exact f2
    have g3 : (TL.tl t).getLast? = some g := by rw [List.getLast?_eq_getElem?, ← ln]; exact g2
    have df : decide ((⟨#[f]⟩ : Str) = Str.ofString "<") = decide (f = 60) := by
      rw [lt_eq, Bool.eq_iff_iff, decide_eq_true_iff, decide_eq_true_iff, one_eq]
    have dg : decide ((⟨#[g]⟩ : Str) = Str.ofString ">") = decide (g = 62) := by
      rw [gt_eq, Bool.eq_iff_iff, decide_eq_true_iff, decide_eq_true_iff, one_eq]
    walk_at "god"
    refine r_ixA (by rw [sizeLine_eq]; omega) f1 ?_
    walk_at "go"
    rw [df]
    by_cases cf : f = 60
    · rw [decide_eq_true cf]
      walk_at "god"
      rw [show ((t.length : Int) - 1) = ((t.length - 1 : Nat) : Int) by omega]
      refine r_ixA (by rw [sizeLine_eq]; omega) g1 ?_
      walk_at "go"
      rw [dg]
      by_cases cg : g = 62
      · rw [decide_eq_true cg]
        have h1 : (TL.tl t).head? = some 60 := by rw [f3, cf]
        have h2 : (TL.tl t).getLast? = some 62 := by rw [g3, cg]
        have h3 : 2 ≤ t.length := by omega
        have lc := cutS_length t (some 1) (some ((t.length : Int) - 1))
        unfold pathM at k
        rw [if_pos ⟨h1, h2, h3⟩] at k
        walk_at "god"
        by_cases ce : t = Str.ofString "<>"
        · rw [decide_eq_true ((inner_e h1 h2 h3).mpr ce)]
          rw [if_pos ce] at k
          walk_at "god"
          rename_i p H1 n1 m1 hp1
          exact k _ _ m1 ⟨p, _, rfl, hp1, rfl⟩
        · rw [decide_eq_false fun z => ce ((inner_e h1 h2 h3).mp z)]
          rw [if_neg ce] at k
          walk_at "god"
          refine use_expected (by omega) (inner_asc h3 ha) (fun v H1 m1 hv => ?_)
          match q : addrM (cutS t (some 1) (some ((t.length : Int) - 1))), hv with
          | none, hv =>
            obtain rfl : v = .non := hv
            rw [q] at k
            walk_at "god"
            exact k _ _ m1 rfl
          | some (a, b), hv =>
            obtain ⟨p, rfl, hp⟩ := hv
            walk_at "god"
            refine use_expected (by omega) (inner_asc h3 ha) (fun w H2 m2 hw => ?_)
            rw [q] at k hw
            walk_at "god"
            rename_i p3 H3 n3 m3 h3
            exact k _ _ ((m1.trans m2).trans m3) ⟨p3, w, rfl, h3, hw.mono (Gro.same m3)⟩
      · rw [decide_eq_false cg]
        walk_at "god"
        exact no (Same.refl _) (by unfold pathM; rw [if_neg fun z => cg (by have := z.2.1; rw [g3] at this; exact Option.some.inj this)])
    · rw [decide_eq_false cf]
      walk_at "god"
      exact no (Same.refl _) (by unfold pathM; rw [if_neg fun z => cf (by have := z.1; rw [f3] at this; exact Option.some.inj this)])

/-! ### _law_long -/
abbrev s_l_long : Stmt := top 35
abbrev N_l_long : List Str := ["_law_state", "_law_script", "_law_label", "_law_kind"]
theorem sc_l_long : FnScope N_l_long ["_law_state", "_law_script"] (defScope s_l_long) := ⟨rfl, rfl, rfl, by decide +kernel, rfl, by decide +kernel, by decide +kernel⟩
theorem bi_l_long : BindOk "_law_long" s_l_long ["_law_state", "_law_script"] := fun _ _ _ _ _ _ us hl => match us, hl with | [_, _], _ => rfl
def sp_l_long (K : PySem.W.Frag) : Sp := sp2 fun st sc H Q _ => ∃ a b, st = .ref a ∧ sc = .ref b ∧ Drw H a ∧ Scr K H b ∧ ∀ z H', Stp a H H' → Asc z → z.length ≤ 110 → Q (.str z) H'
theorem use_long {K : PySem.W.Frag} {a b : Addr} {H : Hp} {Q : VK} {E : XK} (h1 : Drw H a) (h2 : Scr K H b) (k : ∀ z H', Stp a H H' → Asc z → z.length ≤ 110 → Q (.str z) H') : sp_l_long K [.ref a, .ref b] H Q E := ⟨a, b, rfl, rfl, h1, h2, k⟩
theorem mul_asc {z : Str} {n : Int} {k l : Nat} (h0 : 0 < n) (hk : n ≤ (k : Int)) (hl : z.length ≤ l) (ha : Asc z) : Asc (Txt.mul z n) ∧ (Txt.mul z n).length ≤ k * l := by
  obtain ⟨h1, h2⟩ := mul_factsA (z := z) h0
  exact ⟨fun c hc => ha c (h2 c hc), Nat.le_trans h1 (Nat.mul_le_mul (by omega) hl)⟩
theorem lab3 : ∀ m ∈ ["a", "b-", "7"].map Str.ofString, 0 < m.length ∧ m.length ≤ 2 ∧ ∀ c ∈ TL.tl m, c < 128 := by decide +kernel
theorem asc_joinDot {ss : List Str} (h : ∀ s ∈ ss, Asc s) : Asc (Txt.join (Str.ofString ".") ss) := fun c hc => by
  rw [tl_joinDot] at hc
  rcases joinL_memA hc with hc | ⟨w, hw, hc⟩
  · rw [List.mem_singleton.mp hc]
    decide
  · obtain ⟨z, hz, rfl⟩ := List.mem_map.mp hw
    exact h z hz c hc
theorem ok_l_long {e : Wd} (D : DefAt e "_law_long" s_l_long) (B : Bl e.mg) (c_l_draw : Can e 2 "_law_draw" ["_law_state", "_law_script", "_law_size"] (sp_l_draw e.K)) : Can e 3 "_law_long" ["_law_state", "_law_script"] (sp_l_long e.K) := by
  refine can_of D sc_l_long bi_l_long (fun _ _ _ _ h => sp2_len h) (fun cdv f A outer s H vs Q E hr h => ?_)
  obtain ⟨v0, v1, rfl, h⟩ := sp2_ex h
  have nd := sc_l_long.nd
  obtain ⟨a, b, rfl, rfl, dr, hs, k⟩ := h
  refine ⟨_, (Evl.pss_cut (ps_set (i := 2) nd rfl (by first | exact Or.inl rfl | exact Or.inr rfl) (pe_op op_mulS (pe_ix (ix_U (K := e.K)) (pe_lst (pa_cons pe_str (pa_cons pe_str (pa_cons pe_str pa_nil)))) (pe_can c_l_draw (hr.mono (by first | decide | omega)) passL (pa_cons (pv 0) (pa_cons (pv 1) (pa_cons pe_int pa_nil)))) (fun _ _ => rfl)) (pe_op (op_addU (K := e.K)) pe_int (pe_can c_l_draw (hr.mono (by first | decide | omega)) passL (pa_cons (pv 0) (pa_cons (pv 1) (pa_cons pe_int pa_nil)))))))
    (pss_cons (ps_set (i := 3) nd rfl (by first | exact Or.inl rfl | exact Or.inr rfl) (pe_can c_l_draw (hr.mono (by first | decide | omega)) passL (pa_cons (pv 0) (pa_cons (pv 1) (pa_cons pe_int pa_nil)))))
    (pss_cons (ps_if (pt_cmpR (op_eqU (K := e.K) hr) (pv 3) pe_int (nomark _)) (pss_one (ps_ret (pe_op (op_addU (K := e.K)) (pe_op op_mulS pe_str (pe_op (op_addU (K := e.K)) pe_int (pe_can c_l_draw (hr.mono (by first | decide | omega)) passL (pa_cons (pv 0) (pa_cons (pv 1) (pa_cons pe_int pa_nil)))))) pe_str))) pss_nil)
    (pss_cons (ps_if (pt_cmpR (op_eqU (K := e.K) hr) (pv 3) pe_int (nomark _)) (pss_one (ps_ret (pe_op (op_addU (K := e.K)) (pe_op (op_addU (K := e.K)) pe_str (pv 2)) pe_str))) pss_nil)
    (pss_one (ps_ret (pe_op (op_addU (K := e.K)) pe_str (pe_bmU (K := e.K) PySem.F.plainAttrs_str PySem.F.slot_str_join PySem.F.type_str_join (mt_joinU (K := e.K)) pe_str (pa_cons (pe_op (op_addU (K := e.K)) (pe_op op_mulS (pe_lst (pa_cons pe_str pa_nil)) (pe_op (op_addU (K := e.K)) pe_int (pe_can c_l_draw (hr.mono (by first | decide | omega)) passL (pa_cons (pv 0) (pa_cons (pv 1) (pa_cons pe_int pa_nil)))))) (pe_lst (pa_cons (pe_op op_mulS pe_str (pe_op (op_addU (K := e.K)) pe_int (pe_can c_l_draw (hr.mono (by first | decide | omega)) passL (pa_cons (pv 0) (pa_cons (pv 1) (pa_cons pe_int pa_nil)))))) pa_nil))) pa_nil))))))))), ?_⟩
  walk_at "go"
  refine r_cut (fun σ' H' => ∃ z : Str, σ' = [some (.ref a), some (.ref b), some (.str z), none] ∧ Stp a H H' ∧ Asc z ∧ z.length ≤ 44) ?_ ?_
  · walk_at "go"
    rename_i p1 H1 n1 m1 h1 d H2 d0 d1 s2
    obtain ⟨v, hv, hm0⟩ := atI_get (xs := [V.str "a", V.str "b-", V.str "7"]) d0 (by simpa using d1)
    obtain ⟨m, rfl, hm⟩ : ∃ m, v = V.str m ∧ m ∈ ["a", "b-", "7"].map Str.ofString := by
      simp only [List.mem_cons, List.not_mem_nil, or_false] at hm0
      rcases hm0 with h | h | h <;> exact ⟨_, h, by simp⟩
    obtain ⟨l1, l2, l3⟩ := lab3 m hm
    refine r_ixL (SqL.of (s2.at_ h1 (ne_drw' n1 dr))) hv ?_
    walk_at "go"
    rename_i d3 H3 d30 d31 s3
    obtain ⟨q1, q2⟩ := mul_asc (z := m) (n := 9 + d3) (k := 22) (l := 2) (by omega) (by omega) l2 l3
    exact ⟨_, rfl, ((Stp.same dr m1).trans s2).trans s3, q1, by omega⟩
  · rintro σ' H1 ⟨z, rfl, s1, za, zl⟩
    have dr1 := s1.drw
    have hs1 := hs.mono s1.gro
    walk_at "go"
    rename_i kd H2 k0 k1 s2
    refine r_ite (fun c0 => ?_) (fun c0 => ?_)
    · walk_at "go"
      rename_i d3 H3 d30 d31 s3
      obtain ⟨q1, q2⟩ := mul_asc (z := Str.ofString "a") (n := 39 + d3) (k := 41) (l := 1) (by omega) (by omega) (by decide +kernel) (by unfold Asc; decide +kernel)
      have e2 : (Str.ofString "@x").length = 2 := by decide +kernel
      refine r_addS (by rw [sizeLine_eq]; omega) ?_
      exact k _ _ ((s1.trans s2).trans s3) (q1.app (by unfold Asc; decide +kernel)) (by rw [PySem.Str.length_append]; omega)
    · walk_at "go"
      refine r_ite (fun c1 => ?_) (fun c1 => ?_)
      · have e2 : (Str.ofString "a@").length = 2 := by decide +kernel
        have e3 : (Str.ofString ".y").length = 2 := by decide +kernel
        walk_at "go"
        exact k _ _ (s1.trans s2) (Asc.app (Asc.app (by unfold Asc; decide +kernel) za) (by unfold Asc; decide +kernel)) (by rw [PySem.Str.length_append, PySem.Str.length_append]; omega)
      · walk_at "go"
        rename_i p3 H3 n3 m3 h3 d4 H4 d40 d41 s4
        have h4 := s4.at_ h3 (ne_drw' n3 s2.drw)
        refine r_mulSL h4 (by omega) (by omega) (by rw [sizeLine_eq]; simp only [List.length_cons, List.length_nil]; omega) (fun p5 H5 n5 m5 h5 => ?_)
        rw [rep_strs] at h5
        have dr5 := s4.drw.mono m5
        have hs5 := hs1.mono (((s2.snd m3).trans s4).snd m5).gro
        walk_at "go"
        rename_i d6 H6 d60 d61 s6 p7 H7 n7 m7 h7
        obtain ⟨q1, q2⟩ := mul_asc (z := Str.ofString "c") (n := 1 + d6) (k := 12) (l := 1) (by omega) (by omega) (by decide +kernel) (by unfold Asc; decide +kernel)
        have h65 := s6.at_ h5 (ne_drw' n5 s4.drw)
        have h75 := m7 _ _ h65
        have h7' : H7 p7 = some (.lst ([Txt.mul (Str.ofString "c") (1 + d6)].map V.str)) := h7
        refine r_addL h75 h7' (by rw [sizeLine_eq]; simp only [List.length_map, List.length_replicate, List.length_cons, List.length_nil]; omega) (fun p8 H8 n8 m8 h8 => ?_)
        rw [← List.map_append] at h8
        have all : ∀ x ∈ List.replicate (7 + d4).toNat (Str.ofString "abcdefghi") ++ [Txt.mul (Str.ofString "c") (1 + d6)], Asc x ∧ x.length ≤ 12 := fun x hx => by
          rcases List.mem_append.mp hx with hx | hx
          · rw [(List.mem_replicate.mp hx).2]
            exact ⟨by unfold Asc; decide +kernel, by decide +kernel⟩
          · rw [List.mem_singleton.mp hx]
            exact ⟨q1, q2⟩
        have sm : ((List.replicate (7 + d4).toNat (Str.ofString "abcdefghi") ++ [Txt.mul (Str.ofString "c") (1 + d6)]).map (·.length)).sum ≤ 9 * 8 + 12 := by
          rw [List.map_append, List.sum_append, List.map_replicate, List.sum_replicate_nat, List.map_singleton, List.sum_singleton]
          have e9 : (Str.ofString "abcdefghi").length = 9 := by decide +kernel
          rw [e9]
          omega
        have nl : (List.replicate (7 + d4).toNat (Str.ofString "abcdefghi") ++ [Txt.mul (Str.ofString "c") (1 + d6)]).length ≤ 9 := by
          rw [List.length_append, List.length_replicate, List.length_singleton]
          omega
        have jl := joinDot_len (List.replicate (7 + d4).toNat (Str.ofString "abcdefghi") ++ [Txt.mul (Str.ofString "c") (1 + d6)])
        have ja := asc_joinDot fun x hx => (all x hx).1
        generalize List.replicate (7 + d4).toNat (Str.ofString "abcdefghi") ++ [Txt.mul (Str.ofString "c") (1 + d6)] = ss at h8 sm nl jl ja
        have e1 : (Str.ofString ".").length = 1 := by decide +kernel
        have e2 : (Str.ofString "a@").length = 2 := by decide +kernel
        walk_at "go"
        refine r_join h8 (by rw [e1]; omega) ?_
        walk_at "go"
        exact k _ _ ((((((((s1.trans s2).snd m3).trans s4).snd m5).trans s6).snd m7)).snd m8) (Asc.app (by unfold Asc; decide +kernel) ja) (by rw [PySem.Str.length_append]; omega)

/-! ### law -/
abbrev s_law : Stmt := top 36
abbrev N_law : List Str := ["_law_script", "_law_state", "_law_text", "_law_signs", "_law_k", "_law_at", "_law_sign", "_law_cut", "_law_expected_here", "_law_one", "_law_domain_here", "_law_told"]
theorem sc_law : FnScope N_law ["_law_script"] (defScope s_law) := ⟨rfl, rfl, rfl, by decide +kernel, rfl, by decide +kernel, by decide +kernel⟩
theorem bi_law : BindOk "law" s_law ["_law_script"] := fun _ _ _ _ _ _ us hl => match us, hl with | [_], _ => rfl
def sp_law (K : PySem.W.Frag) : Sp := sp1 fun x H Q _ => ∃ b, x = .ref b ∧ Scr K H b ∧ GxR.TabG H (He.cT K ("consists_of", none)).2 ∧ GxR.TabG H (He.cT K ("is_domain", none)).2 ∧ ∀ H', Q (.bl true) H'
theorem Stp.tabA {K : PySem.W.Frag} {H H' : Hp} {a : Addr} (d : Drw H a) (s : Stp a H H') (h : TabA K H) : TabA K H' := ⟨tabG_stp d s h.1, tabG_stp d s h.2⟩
/-- the state, the script, the tables -/
structure Wa (K : PySem.W.Frag) (a b : Addr) (H : Hp) : Prop where
  dr : Drw H a
  sc : Scr K H b
  tg : TabA K H
theorem Wa.stp {K : PySem.W.Frag} {a b : Addr} {H H' : Hp} (s : Stp a H H') (w : Wa K a b H) : Wa K a b H' := ⟨s.drw, w.sc.mono s.gro, s.tabA w.dr w.tg⟩
theorem Wa.sam {K : PySem.W.Frag} {a b : Addr} {H H' : Hp} (s : Sam H H') (w : Wa K a b H) : Wa K a b H' := ⟨s.drw w.dr, s.scr w.sc, s.tabA w.tg⟩
theorem Wa.same {K : PySem.W.Frag} {a b : Addr} {H H' : Hp} (s : Same H H') (w : Wa K a b H) : Wa K a b H' := w.sam (Sam.same s)
theorem tl_cutD (z : Str) (n : Nat) : TL.tl (cutS z (some (n : Int)) none) = (TL.tl z).drop n := by
  have ln := TL.len_tl z
  unfold cutS
  rw [HT.sIx_nat, HT.sIx_none]
  show ((TL.tl z).drop (min n z.length)).take (z.length - min n z.length) = _
  by_cases h : n ≤ z.length
  · rw [Nat.min_eq_left h, List.take_of_length_le (by rw [List.length_drop]; omega)]
  · rw [Nat.min_eq_right (by omega), Nat.sub_self, List.take_zero, List.drop_of_length_le (by omega)]
theorem r_neNN {K : PySem.W.Frag} {H : Hp} {Q : VK} (q : Q (.bl false) H) : uNe K .non .non H Q := .inl ⟨rfl, q⟩
theorem spl_mem {c x : Nat} : ∀ {l acc w : List Nat}, w ∈ TL.spl [c] 0 acc l → x ∈ w → x ∈ acc ∨ x ∈ l
  | [], acc, w, hw, hx => by
    rw [TL.spl] at hw
    rw [List.mem_singleton.mp hw] at hx
    exact .inl hx
  | d :: r, acc, w, hw, hx => by
    rw [TL.spl] at hw
    split at hw
    · rcases List.mem_cons.mp hw with e | hw
      · rw [e] at hx
        exact .inl hx
      · rcases spl_mem hw hx with h | h
        · exact absurd h List.not_mem_nil
        · exact .inr (List.mem_cons_of_mem _ h)
    · rcases spl_mem hw hx with h | h
      · rcases List.mem_append.mp h with h | h
        · exact .inl h
        · exact .inr (List.mem_cons.mpr (.inl (List.mem_singleton.mp h)))
      · exact .inr (List.mem_cons_of_mem _ h)
theorem addr_asc {t a b : Str} (ht : Asc t) (h : addrM t = some (a, b)) : Asc a ∧ Asc b := by
  have key : ∀ p ∈ Txt.split (Txt.lower t) (Str.ofString "@"), Asc p := fun p hp c hc => by
    have e := split_one (Txt.lower t) 64 (by decide)
    rw [← at_eq, tl_lower ht] at e
    have hp2 : TL.tl p ∈ TL.spl [64] 0 [] ((TL.tl t).map lowC) := by
      rw [← e]
      exact List.mem_map.mpr ⟨p, hp, rfl⟩
    rcases spl_mem hp2 hc with h | h
    · exact absurd h List.not_mem_nil
    · obtain ⟨d, hd, rfl⟩ := List.mem_map.mp h
      have := ht d hd
      unfold lowC
      split <;> omega
  unfold addrM at h
  generalize Txt.split (Txt.lower t) (Str.ofString "@") = ps at h key
  match ps, h with
  | [p, q], h =>
    have h : (if (locB (TL.tl p) && domB q) = true then some (p, q) else none) = some (a, b) := h
    split at h
    · cases h
      exact ⟨key a (by simp), key b (by simp)⟩
    · cases h
def addrD : Option (Str × Str) → PyData
  | some (a, b) => .tuple [.str a, .str b]
  | none => .none
theorem AddrV.dq {H : Hp} {v : V} {o : Option (Str × Str)} (h : AddrV H v o) : Dq H v (addrD o) := by
  match o, h with
  | some (a, b), ⟨p, e, hp⟩ =>
    subst e
    exact .tup hp (.cons (.str _) (.cons (.str _) .nil))
  | none, h =>
    cases h
    exact .non
theorem addrD_ok {o : Option (Str × Str)} (h : ∀ a b, o = some (a, b) → Asc a ∧ Asc b) : Okd 2 (addrD o) := by
  match o with
  | some (a, b) =>
    obtain ⟨h1, h2⟩ := h a b rfl
    refine Okd.tup fun d hd => ?_
    simp only [List.mem_cons, List.not_mem_nil, or_false] at hd
    rcases hd with rfl | rfl
    · exact Okd.str h1
    · exact Okd.str h2
  | none => exact Okd.non
theorem ne_addr {K : PySem.W.Frag} {H : Hp} {Q : VK} {v w : V} {o : Option (Str × Str)} (h1 : AddrV H v o) (h2 : AddrV H w o) (h : ∀ a b, o = some (a, b) → Asc a ∧ Asc b) (q : Q (.bl false) H) : uNe K v w H Q := by
  match o, h1, h2 with
  | some (a, b), h1, h2 =>
    have d1 := h1.dq
    obtain ⟨p, e, hp⟩ := h1
    subst e
    exact r_neOk d1 h2.dq (addrD_ok h) (by decide) q
  | none, h1, h2 =>
    cases h1
    cases h2
    exact r_neNN q
def pathD : Option (Option (Str × Str)) → PyData
  | some o => .tuple [.str "path", addrD o]
  | none => .none
theorem PathV.dq {H : Hp} {v : V} {o : Option (Option (Str × Str))} (h : PathV H v o) : Dq H v (pathD o) := by
  match o, h with
  | some o, ⟨p, w, e, hp, hw⟩ =>
    subst e
    exact .tup hp (.cons (.str _) (.cons hw.dq .nil))
  | none, h =>
    cases h
    exact .non
theorem path_asc {t : Str} (ht : Asc t) : ∀ o, pathM t = some o → ∀ a b, o = some (a, b) → Asc a ∧ Asc b := by
  intro o h a b e
  subst e
  unfold pathM at h
  split at h
  · rename_i c
    split at h
    · cases h
    · cases q : addrM (cutS t (some 1) (some ((t.length : Int) - 1))) with
      | none =>
        rw [q] at h
        cases h
      | some w =>
        rw [q] at h
        cases h
        exact addr_asc (inner_asc c.2.2 ht) q
  · cases h
theorem ne_path {K : PySem.W.Frag} {H : Hp} {Q : VK} {v w : V} {o : Option (Option (Str × Str))} (h1 : PathV H v o) (h2 : PathV H w o) (h : ∀ o', o = some o' → ∀ a b, o' = some (a, b) → Asc a ∧ Asc b) (q : Q (.bl false) H) : uNe K v w H Q := by
  match o, h1, h2 with
  | some o', h1, h2 =>
    have d1 := h1.dq
    obtain ⟨p, u, e, hp, _⟩ := h1
    subst e
    refine r_neOk d1 h2.dq (n := 3) (Okd.tup fun d hd => ?_) (by decide) q
    simp only [List.mem_cons, List.not_mem_nil, or_false] at hd
    rcases hd with rfl | rfl
    · exact Okd.str (by unfold Asc; decide +kernel)
    · exact addrD_ok (h o' rfl)
  | none, h1, h2 =>
    cases h1
    cases h2
    exact r_neNN q
theorem ok_law {e : Wd} {f0 : Addr} {fd : FuncData} (D : FunD e.K "law" "law" (defArgs s_law) (defBody s_law) (defScope s_law) [] [] f0 fd) (B : Bl e.mg) (c_l_local : Can e 5 "_law_local" ["_law_state", "_law_script"] (sp_l_local e.K)) (c_l_domain : Can e 4 "_law_domain" ["_law_state", "_law_script"] (sp_l_domain e.K)) (c_l_draw : Can e 2 "_law_draw" ["_law_state", "_law_script", "_law_size"] (sp_l_draw e.K)) (c_l_long : Can e 3 "_law_long" ["_law_state", "_law_script"] (sp_l_long e.K)) (c_l_pick : Can e 3 "_law_pick" ["_law_state", "_law_script", "_law_signs"] (sp_l_pick e.K)) (c_l_expected : Can e 4 "_law_expected" ["_law_text"] (sp_l_expected e.K)) (c_l_parsed : Can e 8 "_law_parsed" ["_law_text"] (sp_l_parsed e.K)) (c_l_path : Can e 9 "_law_path" ["_law_text"] (sp_l_path e.K)) (c_l_expected_path : Can e 5 "_law_expected_path" ["_law_text"] (sp_l_expected_path e.K)) (c_is_domain : Can e 6 "is_domain" ["text"] (sp_is_domain e.K)) (c_l_is_domain : Can e 3 "_law_is_domain" ["_law_text"] (sp_l_is_domain e.K)) : FnOk e.P e.w e.K e.mg e.base (L2.CX e.P e.w) 10 f0 fd ["_law_script"] (sp_law e.K) := by
  refine fnok_of D sc_law (fun _ _ _ _ h => sp1_len h) (fun cdv f A outer s H vs Q E hr h => ?_)
  obtain ⟨v0, rfl, h⟩ := sp1_ex h
  have nd := sc_law.nd
  obtain ⟨b, rfl, hs, tg1, tg2, k⟩ := h
  refine ⟨_, (pss_cons (ps_set (i := 1) nd rfl (by first | exact Or.inl rfl | exact Or.inr rfl) (pe_lst (pa_cons pe_int (pa_cons pe_int pa_nil))))
    (pss_cons (ps_set (i := 2) nd rfl (by first | exact Or.inl rfl | exact Or.inr rfl) (pe_op (op_addU (K := e.K)) (pe_op (op_addU (K := e.K)) (pe_can c_l_local (hr.mono (by first | decide | omega)) passL (pa_cons (pv 1) (pa_cons (pv 0) pa_nil))) pe_str) (pe_can c_l_domain (hr.mono (by first | decide | omega)) passL (pa_cons (pv 1) (pa_cons (pv 0) pa_nil)))))
    (Evl.pss_cut (ps_if (pt_cmpR (op_eqU (K := e.K) hr) (pe_can c_l_draw (hr.mono (by first | decide | omega)) passL (pa_cons (pv 1) (pa_cons (pv 0) (pa_cons pe_int pa_nil)))) pe_int (nomark _)) (pss_one (ps_set (i := 2) nd rfl (by first | exact Or.inl rfl | exact Or.inr rfl) (pe_can c_l_long (hr.mono (by first | decide | omega)) passL (pa_cons (pv 1) (pa_cons (pv 0) pa_nil))))) pss_nil)
    (pss_cons (ps_set (i := 3) nd rfl (by first | exact Or.inl rfl | exact Or.inr rfl) pe_str)
    (pss_cons (ps_for PassesOwn.never rfl (pi_range1 rfl B.b_range (pa_cons (pe_can c_l_draw (hr.mono (by first | decide | omega)) passL (pa_cons (pv 1) (pa_cons (pv 0) (pa_cons pe_int pa_nil)))) pa_nil)) (pg_name (i := 4) nd rfl (by first | exact Or.inl rfl | exact Or.inr rfl)) (pss_cons (ps_set (i := 5) nd rfl (by first | exact Or.inl rfl | exact Or.inr rfl) (pe_can c_l_draw (hr.mono (by first | decide | omega)) passL (pa_cons (pv 1) (pa_cons (pv 0) (pa_cons (pe_op (op_addU (K := e.K)) (pe_callB (call_lenU (K := e.K)) (by rfl) B.b_len bt_len (pa_cons (pv 2) pa_nil)) pe_int) pa_nil)))))
    (pss_cons (ps_set (i := 6) nd rfl (by first | exact Or.inl rfl | exact Or.inr rfl) (pe_can c_l_pick (hr.mono (by first | decide | omega)) passL (pa_cons (pv 1) (pa_cons (pv 0) (pa_cons (pv 3) pa_nil)))))
    (pss_cons (ps_set (i := 7) nd rfl (by first | exact Or.inl rfl | exact Or.inr rfl) (pe_can c_l_draw (hr.mono (by first | decide | omega)) passL (pa_cons (pv 1) (pa_cons (pv 0) (pa_cons pe_int pa_nil)))))
    (pss_one (ps_set (i := 2) nd rfl (by first | exact Or.inl rfl | exact Or.inr rfl) (pe_op (op_addU (K := e.K)) (pe_op (op_addU (K := e.K)) (pe_slice (sl_U (K := e.K)) (pv 2) po_none (po_some (pv 5))) (pe_ix (ix_U (K := e.K)) (pe_lst (pa_cons (pv 6) (pa_cons pe_str (pa_cons (pe_op (op_addU (K := e.K)) (pv 6) (pv 6)) pa_nil)))) (pe_can c_l_draw (hr.mono (by first | decide | omega)) passL (pa_cons (pv 1) (pa_cons (pv 0) (pa_cons pe_int pa_nil)))) (fun _ _ => rfl))) (pe_slice (sl_U (K := e.K)) (pv 2) (po_some (pe_op (op_addU (K := e.K)) (pv 5) (pv 7))) po_none))))))))
    (pss_cons (ps_set (i := 8) nd rfl (by first | exact Or.inl rfl | exact Or.inr rfl) (pe_can c_l_expected (hr.mono (by first | decide | omega)) passL (pa_cons (pv 2) pa_nil)))
    (pss_cons (ps_if (pt_cmpR (op_neU (K := e.K) hr) (pe_can c_l_parsed (hr.mono (by first | decide | omega)) passL (pa_cons (pv 2) pa_nil)) (pv 8) (nomark _)) (pss_one (ps_ret pe_bl)) pss_nil)
    (pss_cons (ps_for PassesOwn.never rfl (pi_U (K := e.K) (pe_lst (pa_cons (pe_op (op_addU (K := e.K)) (pe_op (op_addU (K := e.K)) pe_str (pv 2)) pe_str) (pa_cons (pv 2) (pa_cons (pe_op (op_addU (K := e.K)) pe_str (pv 2)) (pa_cons (pe_op (op_addU (K := e.K)) (pv 2) pe_str) pa_nil)))))) (pg_name (i := 9) nd rfl (by first | exact Or.inl rfl | exact Or.inr rfl)) (pss_one (ps_if (pt_cmpR (op_neU (K := e.K) hr) (pe_can c_l_path (hr.mono (by first | decide | omega)) passL (pa_cons (pv 9) pa_nil)) (pe_can c_l_expected_path (hr.mono (by first | decide | omega)) passL (pa_cons (pv 9) pa_nil)) (nomark _)) (pss_one (ps_ret pe_bl)) pss_nil)))
    (pss_cons (ps_set (i := 10) nd rfl (by first | exact Or.inl rfl | exact Or.inr rfl) (pe_ix (ix_U (K := e.K)) (pe_bmU (K := e.K) PySem.F.plainAttrs_str PySem.F.slot_str_split PySem.F.type_str_split mt_splitU (pv 2) (pa_cons pe_str pa_nil)) pe_int (fun _ _ => rfl)))
    (pss_cons (ps_set (i := 11) nd rfl (by first | exact Or.inl rfl | exact Or.inr rfl) (pe_can c_is_domain (hr.mono (by first | decide | omega)) passL (pa_cons (pv 10) pa_nil)))
    (pss_one (ps_ret (pe_andU (K := e.K) (pe_callB (call_isiU (K := e.K)) (by rfl) B.b_isinstance bt_isinstance (pa_cons (pv 11) (pa_cons (pe_bltn (v := .ty "bool") (by rfl) B.b_bool bt_bool rfl) pa_nil))) (pe_one (pe_cmpR (op_eqU (K := e.K) hr) (pv 11) (pe_can c_l_is_domain (hr.mono (by first | decide | omega)) passL (pa_cons (pv 10) pa_nil)) (nomark _)))))))))))))))), ?_⟩
  have n1 := atS_len
  have tg : TabA e.K H := ⟨tg1, tg2⟩
  walk_at "go"
  rename_i a H1 np1 sm1 hp1
  have dr : Drw H1 a := ⟨0, 0, hp1⟩
  walk_at "go"
  rename_i l H2 hl s2
  have ll := hl.len
  walk_at "go"
  rename_i d H3 hd s3
  have ld := hd.len
  walk_at "go"
  have e1 : (wrA l d).length ≤ 60 := by
    show ((l ++ Str.ofString "@") ++ d).length ≤ 60
    rw [PySem.Str.length_append, PySem.Str.length_append]
    have : (Str.ofString "@").length = 1 := n1
    omega
  have wa : Wa e.K a b H3 := ((⟨dr, hs.mono (Gro.same sm1), tabA_same sm1 tg⟩ : Wa e.K a b H1).stp s2).stp s3
  have as : Asc (wrA l d) := fun c hc => (wrA_ascii hl hd c hc).1
  refine r_cut (fun σ' H' => ∃ t : Str, σ' = [some (.ref b), some (.ref a), some (.str t), none, none, none, none, none, none, none, none, none] ∧ Wa e.K a b H' ∧ Asc t ∧ t.length ≤ 110) ?_ ?_
  · have dr3 := wa.dr
    have hs3 := wa.sc
    walk_at "go"
    rename_i d4 H4 d40 d41 s4
    refine r_ite (fun c => ?_) (fun c => ?_)
    · walk_at "go"
      refine use_long s4.drw (hs3.mono s4.gro) (fun z H5 s5 za zl => ?_)
      walk_at "go"
      exact ⟨z, rfl, (wa.stp s4).stp s5, za, zl⟩
    · walk_at "go"
      exact ⟨_, rfl, wa.stp s4, as, by show (wrA l d).length ≤ 110; omega⟩
  · clear wa as e1 ll ld hl hd s2 s3 dr hp1 np1 sm1 hs tg tg1 tg2
    rintro σ' H4 ⟨t, rfl, w4, ta, tl⟩
    have dr4 := w4.dr
    have hs4 := w4.sc
    walk_at "go"
    rename_i dn H5 dn0 dn1 s5
    have w5 := w4.stp s5
    clear w4 dr4 hs4 s5
    refine for_rng (fun i σ' H' => ∃ (t : Str) (x4 x5 x6 x7 : Option V), σ' = [some (.ref b), some (.ref a), some (.str t), some (.str (Str.ofString "..--@@<> ABCZabcz019_+!~,;:\"()")), x4, x5, x6, x7, none, none, none, none] ∧ Wa e.K a b H' ∧ Asc t ∧ t.length ≤ 110 + 2 * i) (by omega) (by omega) ⟨t, none, none, none, none, rfl, w5, ta, by omega⟩ ?_ ?_
    · clear w5 ta tl
      rintro i σ' H6 hi ⟨t, x4, x5, x6, x7, rfl, w6, ta, tl⟩
      have ln := TL.len_tl t
      have dr6 := w6.dr
      have hs6 := w6.sc
      walk_at "go"
      rename_i dA H7 a0 a1 s7 sg H8 hsg s8 dC H9 c0 c1 s9
      obtain ⟨c, hc, rfl⟩ := hsg
      have c128 : c < 128 := by
        have key : ∀ c ∈ TL.tl (Str.ofString "..--@@<> ABCZabcz019_+!~,;:\"()"), c < 128 := by decide +kernel
        exact key c hc
      have sa : Asc (⟨#[c]⟩ : Str) := fun d hd => by
        have : d = c := by simpa [TL.tl] using hd
        rw [this]
        exact c128
      have sl : (⟨#[c]⟩ : Str).length = 1 := rfl
      obtain ⟨nA, rfl⟩ : ∃ n : Nat, dA = n := ⟨dA.toNat, by omega⟩
      obtain ⟨nC, rfl⟩ : ∃ n : Nat, dC = n := ⟨dC.toNat, by omega⟩
      have w9 := ((w6.stp s7).stp s8).stp s9
      have dr9 := w9.dr
      have hs9 := w9.sc
      clear w6 s7 s8 s9 dr6 hs6
      refine r_addS (by rw [sizeLine_eq, sl]; omega) ?_
      walk_at "go"
      rename_i p10 H10 n10 m10 h10 dE H11 f0 f1 s11
      obtain ⟨v, hv, hm0⟩ := atI_get (xs := [V.str ⟨#[c]⟩, V.str (Str.ofString ""), V.str (⟨#[c]⟩ ++ ⟨#[c]⟩)]) f0 (by simpa using f1)
      obtain ⟨m, rfl, ml, ma⟩ : ∃ m, v = V.str m ∧ m.length ≤ 2 ∧ Asc m := by
        simp only [List.mem_cons, List.not_mem_nil, or_false] at hm0
        rcases hm0 with rfl | rfl | rfl
        · exact ⟨_, rfl, by rw [sl]; decide, sa⟩
        · exact ⟨_, rfl, by decide +kernel, by unfold Asc; decide +kernel⟩
        · exact ⟨_, rfl, by rw [PySem.Str.length_append, sl]; decide, sa.app sa⟩
      have w11 := (w9.same m10).stp s11
      refine r_ixL (SqL.of (s11.at_ h10 (ne_drw' n10 w9.dr))) hv ?_
      have c1 := tl_cut0 t nA
      have c2 := tl_cutD t (nA + nC)
      have l1 : (cutS t none (some (nA : Int))).length ≤ nA := by
        rw [TL.len_tl, c1, List.length_take]
        omega
      have l2 : (cutS t (some ((nA + nC : Nat) : Int)) none).length ≤ t.length - nA := by
        rw [TL.len_tl, c2, List.length_drop]
        omega
      have q1 : Asc (cutS t none (some (nA : Int))) := fun d hd => by
        rw [c1] at hd
        exact ta d (List.mem_of_mem_take hd)
      have q2 : Asc (cutS t (some ((nA + nC : Nat) : Int)) none) := fun d hd => by
        rw [c2] at hd
        exact ta d (List.mem_of_mem_drop hd)
      rw [show ((nA + nC : Nat) : Int) = (nA : Int) + (nC : Int) by omega] at l2 q2
      walk_at "go"
      exact ⟨_, _, _, _, _, rfl, w11, (q1.app ma).app q2, by rw [PySem.Str.length_append, PySem.Str.length_append]; omega⟩
    · clear w5 ta tl
      rintro σ' H6 ⟨t, x4, x5, x6, x7, rfl, w6, ta, tl⟩
      have tl : t.length ≤ 120 := by omega
      walk_at "go"
      refine use_expected (by omega) ta (fun v1 H7 s7 hv1 => ?_)
      have w7 := w6.same s7
      clear w6 s7
      walk_at "go"
      refine use_parsed (by omega) w7.tg (fun v2 H8 s8 hv2 => ?_)
      have w8 := w7.sam s8
      walk_at "go"
      refine ne_addr hv2 (hv1.mono s8.gro) (fun a b q => addr_asc ta q) ?_
      clear w7 s8 hv1 hv2
      walk_at "god"
      have e1 : (Str.ofString "<").length = 1 := by decide +kernel
      have e2 : (Str.ofString ">").length = 1 := by decide +kernel
      have a1 : Asc (Str.ofString "<") := by unfold Asc; decide +kernel
      have a2 : Asc (Str.ofString ">") := by unfold Asc; decide +kernel
      walk_at "go"
      rename_i p9 H9 n9 m9 h9
      have w9 := w8.same m9
      have inn : ∀ one ∈ [(Str.ofString "<" ++ t) ++ Str.ofString ">", t, Str.ofString "<" ++ t, t ++ Str.ofString ">"], Asc one ∧ one.length ≤ 122 := by
        intro one ho
        simp only [List.mem_cons, List.not_mem_nil, or_false] at ho
        rcases ho with rfl | rfl | rfl | rfl
        · exact ⟨(a1.app ta).app a2, by rw [PySem.Str.length_append, PySem.Str.length_append]; omega⟩
        · exact ⟨ta, by omega⟩
        · exact ⟨a1.app ta, by rw [PySem.Str.length_append]; omega⟩
        · exact ⟨ta.app a2, by rw [PySem.Str.length_append]; omega⟩
      have h9 : H9 p9 = some (.lst (([(Str.ofString "<" ++ t) ++ Str.ofString ">", t, Str.ofString "<" ++ t, t ++ Str.ofString ">"] : List Str).map V.str)) := h9
      generalize ([(Str.ofString "<" ++ t) ++ Str.ofString ">", t, Str.ofString "<" ++ t, t ++ Str.ofString ">"] : List Str) = ones at inn h9
      clear w8 m9 n9
      refine for_L (fun i σ' H' => ∃ y8 y9 : Option V, σ' = [some (.ref b), some (.ref a), some (.str t), some (.str (Str.ofString "..--@@<> ABCZabcz019_+!~,;:\"()")), x4, x5, x6, x7, y8, y9, none, none] ∧ Wa e.K a b H' ∧ Sam H9 H') (SqL.of h9) ⟨_, _, rfl, w9, Sam.refl _⟩ ?_ ?_ ?_
      · rintro i σ' H' _ ⟨y8, y9, rfl, w, sm⟩
        exact SqL.of (sm.lst h9)
      · rintro i v σ' H10 hv ⟨y8, y9, rfl, w10, sm⟩
        obtain ⟨one, hone, rfl⟩ := get_map hv
        obtain ⟨oa, ol⟩ := inn one (mem_of_get hone)
        walk_at "go"
        refine use_path (by omega) w10.tg (fun v1 H11 s11 hv1 => ?_)
        have w11 := w10.sam s11
        walk_at "go"
        refine use_expected_path (by omega) oa (fun v2 H12 s12 hv2 => ?_)
        have w12 := w11.same s12
        walk_at "go"
        refine ne_path (hv1.mono (Gro.same s12)) hv2 (path_asc oa) ?_
        walk_at "god"
        exact ⟨_, _, rfl, w12, (sm.trans s11).snd s12⟩
      · rintro σ' H10 ⟨y8, y9, rfl, w10, sm⟩
        have nd1 : ((Str.ofString "@").length == 0) = false := by decide +kernel
        walk_at "go"
        refine r_split nd1 (by rw [sizeLine_eq]; omega) (fun p11 H11 n11 m11 h11 => ?_)
        walk_at "go"
        have hl2 : ∀ z ∈ Txt.split t (Str.ofString "@"), z.length ≤ 120 := fun z hz => by
          have := part_short hz
          omega
        have hp1 := PyProof.Rows.split_pos t (Str.ofString "@")
        generalize Txt.split t (Str.ofString "@") = ps at h11 hl2 hp1
        obtain ⟨z, r, rfl⟩ : ∃ z r, ps = z :: r := by
          cases ps with
          | nil => simp at hp1
          | cons z r => exact ⟨z, r, rfl⟩
        have zl := hl2 z List.mem_cons_self
        refine r_ixL (SqL.of h11) (v := .str z) (atI_nn (j := 0) rfl) ?_
        have w11 := w10.same m11
        walk_at "go"
        refine use_is_domain (by omega) w11.tg (fun H12 s12 => ?_)
        walk_at "god"
        refine use_l_is_domain (by omega) (fun H13 s13 => ?_)
        walk_at "god"
        refine r_eqBB ?_
        rw [decide_eq_true rfl]
        exact k _

def d_consists_of : He.DefD := ⟨("consists_of", none), "consists_of", "consists_of", defArgs s_consists_of, defBody s_consists_of, defScope s_consists_of, [], []⟩
def d_is_local : He.DefD := ⟨("is_local", none), "is_local", "is_local", defArgs s_is_local, defBody s_is_local, defScope s_is_local, [], []⟩
def d_is_label : He.DefD := ⟨("is_label", none), "is_label", "is_label", defArgs s_is_label, defBody s_is_label, defScope s_is_label, [], []⟩
def d_is_domain : He.DefD := ⟨("is_domain", none), "is_domain", "is_domain", defArgs s_is_domain, defBody s_is_domain, defScope s_is_domain, [], []⟩
def d_parse_address : He.DefD := ⟨("parse_address", none), "parse_address", "parse_address", defArgs s_parse_address, defBody s_parse_address, defScope s_parse_address, [], []⟩
def d_parse_path : He.DefD := ⟨("parse_path", none), "parse_path", "parse_path", defArgs s_parse_path, defBody s_parse_path, defScope s_parse_path, [], []⟩
def d_l_refill : He.DefD := ⟨("_law_refill", none), "_law_refill", "_law_refill", defArgs s_l_refill, defBody s_l_refill, defScope s_l_refill, [], []⟩
def d_l_draw : He.DefD := ⟨("_law_draw", none), "_law_draw", "_law_draw", defArgs s_l_draw, defBody s_l_draw, defScope s_l_draw, [], []⟩
def d_l_pick : He.DefD := ⟨("_law_pick", none), "_law_pick", "_law_pick", defArgs s_l_pick, defBody s_l_pick, defScope s_l_pick, [], []⟩
def d_l_word : He.DefD := ⟨("_law_word", none), "_law_word", "_law_word", defArgs s_l_word, defBody s_l_word, defScope s_l_word, [], []⟩
def d_l_local : He.DefD := ⟨("_law_local", none), "_law_local", "_law_local", defArgs s_l_local, defBody s_l_local, defScope s_l_local, [], []⟩
def d_l_domain : He.DefD := ⟨("_law_domain", none), "_law_domain", "_law_domain", defArgs s_l_domain, defBody s_l_domain, defScope s_l_domain, [], []⟩
def d_l_lower : He.DefD := ⟨("_law_lower", none), "_law_lower", "_law_lower", defArgs s_l_lower, defBody s_l_lower, defScope s_l_lower, [], []⟩
def d_l_all : He.DefD := ⟨("_law_all", none), "_law_all", "_law_all", defArgs s_l_all, defBody s_l_all, defScope s_l_all, [], []⟩
def d_l_is_local : He.DefD := ⟨("_law_is_local", none), "_law_is_local", "_law_is_local", defArgs s_l_is_local, defBody s_l_is_local, defScope s_l_is_local, [], []⟩
def d_l_is_domain : He.DefD := ⟨("_law_is_domain", none), "_law_is_domain", "_law_is_domain", defArgs s_l_is_domain, defBody s_l_is_domain, defScope s_l_is_domain, [], []⟩
def d_l_expected : He.DefD := ⟨("_law_expected", none), "_law_expected", "_law_expected", defArgs s_l_expected, defBody s_l_expected, defScope s_l_expected, [], []⟩
def d_l_parsed : He.DefD := ⟨("_law_parsed", none), "_law_parsed", "_law_parsed", defArgs s_l_parsed, defBody s_l_parsed, defScope s_l_parsed, [], []⟩
def d_l_path : He.DefD := ⟨("_law_path", none), "_law_path", "_law_path", defArgs s_l_path, defBody s_l_path, defScope s_l_path, [], []⟩
def d_l_expected_path : He.DefD := ⟨("_law_expected_path", none), "_law_expected_path", "_law_expected_path", defArgs s_l_expected_path, defBody s_l_expected_path, defScope s_l_expected_path, [], []⟩
def d_l_long : He.DefD := ⟨("_law_long", none), "_law_long", "_law_long", defArgs s_l_long, defBody s_l_long, defScope s_l_long, [], []⟩
def d_law : He.DefD := ⟨("law", none), "law", "law", defArgs s_law, defBody s_law, defScope s_law, [], []⟩
def fnL : List He.DefD := [d_consists_of, d_is_local, d_is_label, d_is_domain, d_parse_address, d_parse_path, d_l_refill, d_l_draw, d_l_pick, d_l_word, d_l_local, d_l_domain, d_l_lower, d_l_all, d_l_is_local, d_l_is_domain, d_l_expected, d_l_parsed, d_l_path, d_l_expected_path, d_l_long, d_law]
def faL0 : List He.Fa := [.glo "consists_of", .glo "is_local", .glo "is_label", .glo "is_domain", .glo "parse_address", .glo "parse_path", .glo "_law_refill", .glo "_law_draw", .glo "_law_pick", .glo "_law_word", .glo "_law_local", .glo "_law_domain", .glo "_law_lower", .glo "_law_all", .glo "_law_is_local", .glo "_law_is_domain", .glo "_law_expected", .glo "_law_parsed", .glo "_law_path", .glo "_law_expected_path"]
def faL1 : List He.Fa := [.glo "_law_long", .glo "law", .free "len", .free "int", .free "str", .free "bool", .free "tuple", .free "list", .free "isinstance", .free "range", .free "ord", .free "sorted", .free "min", .free "max", .free "sum", .free "all", .free "any", .free "enumerate", .free "set", .free "zip"]
def faL2 : List He.Fa := [.free "dict", .free "reversed", .free "ValueError", .glo "InvalidAddress", .exc "InvalidAddress", .glo "MailError", .exm "InvalidAddress" "InvalidAddress" true, .str "LETTERS" ("abcdefghijklmnopqrstuvwxyz" : Str), .str "DIGITS" ("0123456789" : Str), .str "LOCAL_SIGNS" ("abcdefghijklmnopqrstuvwxyz0123456789.-_+" : Str), .str "LABEL_SIGNS" ("abcdefghijklmnopqrstuvwxyz0123456789-" : Str), .int "MOST_LOCAL" (40), .int "MOST_LABEL" (20), .int "MOST_DOMAIN" (80)]
def faL : List He.Fa := faL0 ++ faL1 ++ faL2
def tfL : List He.Defn := [(("consists_of", none) : Str × Option Str), (("is_domain", none) : Str × Option Str)]
def fbL : List Prd := [pKit "InvalidAddress" (fun K => (.ref (He.ga K "MailError"))) true, pKit "InvalidAddress" (fun K => (.type "ValueError")) true, pExcC "InvalidAddress"]
abbrev Rr : PySem.W.OpenRow := PySem.W.OpenLaw.row PySem.Challenge.rw_dawkline_k02_strings_that_are_no_address
abbrev exL : PySem.W.Frag → Bool := fun K => fbL.all fun p => p K
abbrev hkL : PySem.W.Hook := He.hookX 4 faL fnL [] tfL exL
def obL (s : PySem.W.SharedT) : He.AlX := He.obsX 4 faL fnL [] tfL exL (HandSHeadRun.getT s)
theorem obL_eq (s : PySem.W.SharedT) : obL s = hkL.obs s.abs := He.obsX_eq (HandSHeadRun.getT_eq s)
def looseL0 : List Str := ["consists_of", "is_local", "is_label", "is_domain", "parse_address", "parse_path", "_law_is_integer", "_law_refill", "_law_draw", "_law_wide", "_law_junk", "_law_pick", "_law_word", "_law_local", "_law_domain", "_law_lower", "_law_all", "_law_is_local", "_law_is_domain", "_law_expected"]
def looseL1 : List Str := ["_law_parsed", "_law_path", "_law_expected_path", "_law_long", "LETTERS", "DIGITS", "LOCAL_SIGNS", "LABEL_SIGNS", "MOST_LOCAL", "MOST_LABEL", "MOST_DOMAIN", "MailError", "InvalidAddress"]
def looseL : List Str := looseL0 ++ looseL1
theorem runL (w : World) : HandSHeadRun.RunEq Rr (PySem.W.view Rr.prog [36]) hkL obL 8000 looseL w := by
  intro os
  kernel_rfl
theorem factsL {P : Program} {w : World} {K : PySem.W.Frag} {h : Heap} {mg : Str → Option Value} {f : Addr} (X : K.In h) (G : h.Ns mainGlobals mg) (hfa : mg ("law" : Str) = some (.ref f)) (c : He.SaysX faL fnL [] tfL exL w h K) :
    ∃ fd : FuncData, (∀ (s : Shared) (v : Value), BindsTo s fd ⟨[v], []⟩ [("_law_script", v)]) ∧ ∀ base : Heap, K.In base → base.Ns mainGlobals mg → (∀ p ∈ tfL.map (He.cT K), LamX.TabB base mg p.1 p.2) → FnOk P w K mg base CX0 10 f fd ["_law_script"] (spZ (sp_law K)) := by
  have cb := SaysX_b c
  replace c : He.SaysD faL fnL K := c.t.d
  have B : Bl mg := ⟨He.free_ok X G (c.fact 22 (f := .free "len") rfl), He.free_ok X G (c.fact 23 (f := .free "int") rfl), He.free_ok X G (c.fact 24 (f := .free "str") rfl), He.free_ok X G (c.fact 25 (f := .free "bool") rfl), He.free_ok X G (c.fact 26 (f := .free "tuple") rfl), He.free_ok X G (c.fact 27 (f := .free "list") rfl), He.free_ok X G (c.fact 28 (f := .free "isinstance") rfl), He.free_ok X G (c.fact 29 (f := .free "range") rfl), He.free_ok X G (c.fact 30 (f := .free "ord") rfl), He.free_ok X G (c.fact 31 (f := .free "sorted") rfl), He.free_ok X G (c.fact 32 (f := .free "min") rfl), He.free_ok X G (c.fact 33 (f := .free "max") rfl), He.free_ok X G (c.fact 34 (f := .free "sum") rfl), He.free_ok X G (c.fact 35 (f := .free "all") rfl), He.free_ok X G (c.fact 36 (f := .free "any") rfl), He.free_ok X G (c.fact 37 (f := .free "enumerate") rfl), He.free_ok X G (c.fact 38 (f := .free "set") rfl), He.free_ok X G (c.fact 39 (f := .free "zip") rfl), He.free_ok X G (c.fact 40 (f := .free "dict") rfl), He.free_ok X G (c.fact 41 (f := .free "reversed") rfl), He.free_ok X G (c.fact 42 (f := .free "ValueError") rfl)⟩
  have g_LETTERS := He.str_ok X G (c.fact 47 (f := .str "LETTERS" ("abcdefghijklmnopqrstuvwxyz" : Str)) rfl)
  have g_DIGITS := He.str_ok X G (c.fact 48 (f := .str "DIGITS" ("0123456789" : Str)) rfl)
  have g_LOCAL_SIGNS := He.str_ok X G (c.fact 49 (f := .str "LOCAL_SIGNS" ("abcdefghijklmnopqrstuvwxyz0123456789.-_+" : Str)) rfl)
  have g_LABEL_SIGNS := He.str_ok X G (c.fact 50 (f := .str "LABEL_SIGNS" ("abcdefghijklmnopqrstuvwxyz0123456789-" : Str)) rfl)
  have g_MOST_LOCAL := He.int_ok X G (c.fact 51 (f := .int "MOST_LOCAL" (40)) rfl)
  have g_MOST_LABEL := He.int_ok X G (c.fact 52 (f := .int "MOST_LABEL" (20)) rfl)
  have g_MOST_DOMAIN := He.int_ok X G (c.fact 53 (f := .int "MOST_DOMAIN" (80)) rfl)
  have gm_InvalidAddress := He.glo_ok X G (c.fact 43 (f := .glo "InvalidAddress") rfl)
  have xo_InvalidAddress : Xco K (He.ga K "InvalidAddress") := He.exc_ok (c.fact 44 (f := .exc "InvalidAddress") rfl)
  have gm_MailError := He.glo_ok X G (c.fact 45 (f := .glo "MailError") rfl)
  have em_InvalidAddress_InvalidAddress := He.exm_ok (c.fact 46 (f := .exm "InvalidAddress" "InvalidAddress" true) rfl)
  have ki_InvalidAddress_MailError := pKit_ok (cb 0 _ rfl)
  have ki_InvalidAddress_ValueError := pKit_ok (cb 1 _ rfl)
  have ec_InvalidAddress := pExcC_ok (cb 2 _ rfl)
  obtain ⟨fd_consists_of, F_consists_of⟩ := c.def_ 0 (d := d_consists_of) rfl
  have m_consists_of : mg "consists_of" = some (.ref _) := He.glo_ok X G (c.fact 0 (f := .glo "consists_of") rfl)
  obtain ⟨fd_is_local, F_is_local⟩ := c.def_ 1 (d := d_is_local) rfl
  have m_is_local : mg "is_local" = some (.ref _) := He.glo_ok X G (c.fact 1 (f := .glo "is_local") rfl)
  obtain ⟨fd_is_label, F_is_label⟩ := c.def_ 2 (d := d_is_label) rfl
  have m_is_label : mg "is_label" = some (.ref _) := He.glo_ok X G (c.fact 2 (f := .glo "is_label") rfl)
  obtain ⟨fd_is_domain, F_is_domain⟩ := c.def_ 3 (d := d_is_domain) rfl
  have m_is_domain : mg "is_domain" = some (.ref _) := He.glo_ok X G (c.fact 3 (f := .glo "is_domain") rfl)
  obtain ⟨fd_parse_address, F_parse_address⟩ := c.def_ 4 (d := d_parse_address) rfl
  have m_parse_address : mg "parse_address" = some (.ref _) := He.glo_ok X G (c.fact 4 (f := .glo "parse_address") rfl)
  obtain ⟨fd_parse_path, F_parse_path⟩ := c.def_ 5 (d := d_parse_path) rfl
  have m_parse_path : mg "parse_path" = some (.ref _) := He.glo_ok X G (c.fact 5 (f := .glo "parse_path") rfl)
  obtain ⟨fd_l_refill, F_l_refill⟩ := c.def_ 6 (d := d_l_refill) rfl
  have m_l_refill : mg "_law_refill" = some (.ref _) := He.glo_ok X G (c.fact 6 (f := .glo "_law_refill") rfl)
  obtain ⟨fd_l_draw, F_l_draw⟩ := c.def_ 7 (d := d_l_draw) rfl
  have m_l_draw : mg "_law_draw" = some (.ref _) := He.glo_ok X G (c.fact 7 (f := .glo "_law_draw") rfl)
  obtain ⟨fd_l_pick, F_l_pick⟩ := c.def_ 8 (d := d_l_pick) rfl
  have m_l_pick : mg "_law_pick" = some (.ref _) := He.glo_ok X G (c.fact 8 (f := .glo "_law_pick") rfl)
  obtain ⟨fd_l_word, F_l_word⟩ := c.def_ 9 (d := d_l_word) rfl
  have m_l_word : mg "_law_word" = some (.ref _) := He.glo_ok X G (c.fact 9 (f := .glo "_law_word") rfl)
  obtain ⟨fd_l_local, F_l_local⟩ := c.def_ 10 (d := d_l_local) rfl
  have m_l_local : mg "_law_local" = some (.ref _) := He.glo_ok X G (c.fact 10 (f := .glo "_law_local") rfl)
  obtain ⟨fd_l_domain, F_l_domain⟩ := c.def_ 11 (d := d_l_domain) rfl
  have m_l_domain : mg "_law_domain" = some (.ref _) := He.glo_ok X G (c.fact 11 (f := .glo "_law_domain") rfl)
  obtain ⟨fd_l_lower, F_l_lower⟩ := c.def_ 12 (d := d_l_lower) rfl
  have m_l_lower : mg "_law_lower" = some (.ref _) := He.glo_ok X G (c.fact 12 (f := .glo "_law_lower") rfl)
  obtain ⟨fd_l_all, F_l_all⟩ := c.def_ 13 (d := d_l_all) rfl
  have m_l_all : mg "_law_all" = some (.ref _) := He.glo_ok X G (c.fact 13 (f := .glo "_law_all") rfl)
  obtain ⟨fd_l_is_local, F_l_is_local⟩ := c.def_ 14 (d := d_l_is_local) rfl
  have m_l_is_local : mg "_law_is_local" = some (.ref _) := He.glo_ok X G (c.fact 14 (f := .glo "_law_is_local") rfl)
  obtain ⟨fd_l_is_domain, F_l_is_domain⟩ := c.def_ 15 (d := d_l_is_domain) rfl
  have m_l_is_domain : mg "_law_is_domain" = some (.ref _) := He.glo_ok X G (c.fact 15 (f := .glo "_law_is_domain") rfl)
  obtain ⟨fd_l_expected, F_l_expected⟩ := c.def_ 16 (d := d_l_expected) rfl
  have m_l_expected : mg "_law_expected" = some (.ref _) := He.glo_ok X G (c.fact 16 (f := .glo "_law_expected") rfl)
  obtain ⟨fd_l_parsed, F_l_parsed⟩ := c.def_ 17 (d := d_l_parsed) rfl
  have m_l_parsed : mg "_law_parsed" = some (.ref _) := He.glo_ok X G (c.fact 17 (f := .glo "_law_parsed") rfl)
  obtain ⟨fd_l_path, F_l_path⟩ := c.def_ 18 (d := d_l_path) rfl
  have m_l_path : mg "_law_path" = some (.ref _) := He.glo_ok X G (c.fact 18 (f := .glo "_law_path") rfl)
  obtain ⟨fd_l_expected_path, F_l_expected_path⟩ := c.def_ 19 (d := d_l_expected_path) rfl
  have m_l_expected_path : mg "_law_expected_path" = some (.ref _) := He.glo_ok X G (c.fact 19 (f := .glo "_law_expected_path") rfl)
  obtain ⟨fd_l_long, F_l_long⟩ := c.def_ 20 (d := d_l_long) rfl
  have m_l_long : mg "_law_long" = some (.ref _) := He.glo_ok X G (c.fact 20 (f := .glo "_law_long") rfl)
  obtain ⟨fd_law, F_law⟩ := c.def_ 21 (d := d_law) rfl
  have m_law : mg "law" = some (.ref _) := He.glo_ok X G (c.fact 21 (f := .glo "law") rfl)
  have e := hfa.symm.trans m_law
  cases e
  have b := FunD.bindsA (ps := ["_law_script"]) F_law fun _ _ _ _ _ _ us hl => match us, hl with | [_], _ => rfl
  refine ⟨fd_law, fun s v => b s [v] rfl, fun base KB GB TBL => ?_⟩
  let e : Wd := ⟨P, w, K, mg, base⟩
  have c_l_refill : Can e 1 "_law_refill" ["_law_script", "_law_k"] (sp_l_refill e.K) := ok_l_refill (e := e) ⟨_, _, F_l_refill, m_l_refill⟩ B
  have c_l_draw : Can e 2 "_law_draw" ["_law_state", "_law_script", "_law_size"] (sp_l_draw e.K) := ok_l_draw (e := e) ⟨_, _, F_l_draw, m_l_draw⟩ B c_l_refill
  have c_l_lower : Can e 2 "_law_lower" ["_law_text"] (sp_l_lower e.K) := ok_l_lower (e := e) ⟨_, _, F_l_lower, m_l_lower⟩ B
  have c_l_all : Can e 2 "_law_all" ["_law_text", "_law_signs"] (sp_l_all e.K) := ok_l_all (e := e) ⟨_, _, F_l_all, m_l_all⟩ B
  have c_consists_of : Can e 3 "consists_of" ["text", "signs"] (sp_consists_of e.K) := ok_consists_of (e := e) ⟨_, _, F_consists_of, m_consists_of, code_of (p := (("consists_of", none) : Str × Option Str)) F_consists_of, TBL (He.cT K (("consists_of", none) : Str × Option Str)) (List.mem_map_of_mem (by unfold tfL; simp))⟩ B
  have c_l_pick : Can e 3 "_law_pick" ["_law_state", "_law_script", "_law_signs"] (sp_l_pick e.K) := ok_l_pick (e := e) ⟨_, _, F_l_pick, m_l_pick⟩ B c_l_draw
  have c_l_is_local : Can e 3 "_law_is_local" ["_law_text"] (sp_l_is_local e.K) := ok_l_is_local (e := e) ⟨_, _, F_l_is_local, m_l_is_local⟩ B c_l_all
  have c_l_is_domain : Can e 3 "_law_is_domain" ["_law_text"] (sp_l_is_domain e.K) := ok_l_is_domain (e := e) ⟨_, _, F_l_is_domain, m_l_is_domain⟩ B c_l_all
  have c_l_long : Can e 3 "_law_long" ["_law_state", "_law_script"] (sp_l_long e.K) := ok_l_long (e := e) ⟨_, _, F_l_long, m_l_long⟩ B c_l_draw
  have c_is_local : Can e 4 "is_local" ["text"] (sp_is_local e.K) := ok_is_local (e := e) ⟨_, _, F_is_local, m_is_local⟩ B g_MOST_LOCAL g_LOCAL_SIGNS c_consists_of
  have c_is_label : Can e 4 "is_label" ["text"] (sp_is_label e.K) := ok_is_label (e := e) ⟨_, _, F_is_label, m_is_label⟩ B g_MOST_LABEL g_LABEL_SIGNS c_consists_of
  have c_l_word : Can e 4 "_law_word" ["_law_state", "_law_script", "_law_signs", "_law_most"] (sp_l_word e.K) := ok_l_word (e := e) ⟨_, _, F_l_word, m_l_word⟩ B c_l_pick c_l_draw
  have c_l_domain : Can e 4 "_law_domain" ["_law_state", "_law_script"] (sp_l_domain e.K) := ok_l_domain (e := e) ⟨_, _, F_l_domain, m_l_domain⟩ B c_l_draw c_l_pick
  have c_l_expected : Can e 4 "_law_expected" ["_law_text"] (sp_l_expected e.K) := ok_l_expected (e := e) ⟨_, _, F_l_expected, m_l_expected⟩ B c_l_lower c_l_is_local c_l_is_domain
  have c_l_local : Can e 5 "_law_local" ["_law_state", "_law_script"] (sp_l_local e.K) := ok_l_local (e := e) ⟨_, _, F_l_local, m_l_local⟩ B c_l_word c_l_draw c_l_pick
  have c_l_expected_path : Can e 5 "_law_expected_path" ["_law_text"] (sp_l_expected_path e.K) := ok_l_expected_path (e := e) ⟨_, _, F_l_expected_path, m_l_expected_path⟩ B c_l_expected
  have c_is_domain : Can e 6 "is_domain" ["text"] (sp_is_domain e.K) := ok_is_domain (e := e) ⟨_, _, F_is_domain, m_is_domain, code_of (p := (("is_domain", none) : Str × Option Str)) F_is_domain, TBL (He.cT K (("is_domain", none) : Str × Option Str)) (List.mem_map_of_mem (by unfold tfL; simp))⟩ B g_MOST_DOMAIN c_is_label
  have c_parse_address : Can e 7 "parse_address" ["text"] (sp_parse_address e.K) := ok_parse_address (e := e) ⟨_, _, F_parse_address, m_parse_address⟩ B gm_InvalidAddress xo_InvalidAddress c_is_local c_is_domain
  have c_parse_path : Can e 8 "parse_path" ["text"] (sp_parse_path e.K) := ok_parse_path (e := e) ⟨_, _, F_parse_path, m_parse_path⟩ B gm_InvalidAddress xo_InvalidAddress c_parse_address
  have c_l_parsed : Can e 8 "_law_parsed" ["_law_text"] (sp_l_parsed e.K) := ok_l_parsed (e := e) ⟨_, _, F_l_parsed, m_l_parsed⟩ B gm_InvalidAddress gm_MailError em_InvalidAddress_InvalidAddress ki_InvalidAddress_MailError ki_InvalidAddress_ValueError ec_InvalidAddress c_parse_address
  have c_l_path : Can e 9 "_law_path" ["_law_text"] (sp_l_path e.K) := ok_l_path (e := e) ⟨_, _, F_l_path, m_l_path⟩ B gm_InvalidAddress em_InvalidAddress_InvalidAddress c_parse_path
  exact fn_frz (fnok_0 (ok_law (e := e) F_law B c_l_local c_l_domain c_l_draw c_l_long c_l_pick c_l_expected c_l_parsed c_l_path c_l_expected_path c_is_domain c_l_is_domain) (fun vs H Q E h => by
    obtain ⟨v0, rfl, h⟩ := sp1_ex h
    exact h))
end Dk
open PySem PySem.W PySem.Calls PyProof.Rows
set_option maxRecDepth 100000 in
set_option maxHeartbeats 0 in
theorem PySem.Challenge.cw_dawkline_k02_strings_that_are_no_address_holds : PySem.Challenge.rw_dawkline_k02_strings_that_are_no_address.Holds := by
  w_on; o_law
  refine HandSHeadRun.head_any (r := OpenLaw.row PySem.Challenge.rw_dawkline_k02_strings_that_are_no_address) (q := view (OpenLaw.row PySem.Challenge.rw_dawkline_k02_strings_that_are_no_address).prog [36]) (H := Dk.hkL) (ob := Dk.obL) (M := 8000) (loose := Dk.looseL) (d := HandSHeadRun.topDef (OpenLaw.row PySem.Challenge.rw_dawkline_k02_strings_that_are_no_address).prog 36) (kwd := []) Dk.obL_eq
    (by kernel_rfl) (fun s => by kernel_rfl) Dk.runL (by kernel_rfl) (by kernel_rfl) (by kernel_rfl) (by rfl) (by first | assumption | decide +kernel) (by decide +kernel) ⟨rfl, rfl, rfl, rfl, rfl, by decide +kernel⟩ ?hw ?hc
  case hw => w_witness2
  case hc =>
    refine LamX.walk_ofTsE (l := PySem.Challenge.rw_dawkline_k02_strings_that_are_no_address) (n := 63) (k := 10) (x := "_law_script") (CX := fun _ => L2.CX0) rfl (by decide) (by kernel_rfl) ⟨rfl, by decide, by decide⟩ ?F (fun _ _ _ _ _ z => z)
    case F =>
      intro w mg fa h Y G hmg0
      obtain ⟨K, KX, c⟩ := Y
      have hmg : mg ("law" : PySem.Str) = some (.ref fa) := by
        have e : (HandSHeadRun.topDef (OpenLaw.row PySem.Challenge.rw_dawkline_k02_strings_that_are_no_address).prog 36).name = ("law" : PySem.Str) := by kernel_rfl
        rw [← e]
        exact hmg0
      obtain ⟨fd, hb, hF⟩ := Dk.factsL (P := (PySem.Challenge.rw_dawkline_k02_strings_that_are_no_address).prog) (w := w) KX G hmg c
      refine ⟨K, KX, fd, Dk.tfL.map (He.cT K), Dk.spZ (Dk.sp_law K), fun p hp => ?_, fun p hp => ?_, fun p hp => ?_, hb, fun H a ns hl _ hT hS => ?_, hF⟩
      · obtain ⟨d, hd, rfl⟩ := List.mem_map.mp hp
        exact c.empty d hd
      · obtain ⟨d, hd, rfl⟩ := List.mem_map.mp hp
        exact c.out d hd
      · obtain ⟨d, hd, rfl⟩ := List.mem_map.mp hp
        exact PySem.W.codeHd_of_K KX (c.hd d hd)
      · refine Dk.spZ_of hl hS fun H1 sc kt => ⟨a, rfl, sc, Dk.TabG.nil (kt _ _ (hT (He.cT K (("consists_of", none) : PySem.Str × Option PySem.Str)) (List.mem_map_of_mem (by unfold Dk.tfL; simp)))), Dk.TabG.nil (kt _ _ (hT (He.cT K (("is_domain", none) : PySem.Str × Option PySem.Str)) (List.mem_map_of_mem (by unfold Dk.tfL; simp)))), fun _ => rfl⟩
