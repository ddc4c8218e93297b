import PyProof.Rows.All
import Wide.All
import OpenK.AllK
import Wide.FinOn
import KE.KStateDown
import HandS.ForMost
import HandS.ForSpec
import HandS.IsInst
import HandS.StrMore
import HandS.TupAny
import HandS.Deep
import HandS.TupLe
import HandS.Defaults
import HandS.More
import HandS.Conv
import HandS.Walk
import HandS.Flow
import HandS.Iter
import HandS.Evl
import HandS.Text
import HandS.HeadHook1
import HandS.HeadHook2
import HandS.RaiseMore
import HandS.ExcOwn
import HandS.ExcIs
import HandS.TryOnly
import HandS.WordsExc
import HandS.SetTxt0
import HandS.SetFor
import PyProof.Rows.SortStr
import HandS.SortInts
import HandS.ExcInit
import HandS.ExcSuper
import HandS.ExcField
import KE.KSuper
import HandS.EndTab
import HandS.HeadWalk
import HandS.HeadHook4
import KE.SortKeyHeap
import KE.KSortKey
import HandS.TryMany
import HandS.Wide
import PyProof.StrBlock2
import Lean
import HandS.Head0
import HandS.Head1
import HandS.Head2
import HandS.HeadEnd
import PySem.Challenge.RW_dawkline_k08_whole_journals_survive_cras
set_option Elab.async false
set_option linter.all false
set_option maxRecDepth 100000
set_option maxHeartbeats 4000000

/-! Own layer over HandS: data that never change, steps of the heap, rules that take any kind of value, a walk of readings. -/
namespace Dk
open PySem PySem.Spec PyProof.Rows L2

/-! ### data that never change -/
mutual
inductive Dq (H : Hp) : V → PyData → Prop
  | non : Dq H .non .none
  | bl (b : Bool) : Dq H (.bl b) (.bool b)
  | int (i : Int) : Dq H (.int i) (.int i)
  | str (x : Str) : Dq H (.str x) (.str x)
  | tup {a : Addr} {xs : List V} {ds : List PyData} : H a = some (.tup xs) → Dqs H xs ds → Dq H (.ref a) (.tuple ds)
inductive Dqs (H : Hp) : List V → List PyData → Prop
  | nil : Dqs H [] []
  | cons {v : V} {vs : List V} {d : PyData} {ds : List PyData} : Dq H v d → Dqs H vs ds → Dqs H (v :: vs) (d :: ds)
end

/-- tuples and what is locked stand as they were -/
structure Gro (H H' : Hp) : Prop where
  tup : ∀ a xs, H a = some (.tup xs) → H' a = some (.tup xs)
  frz : ∀ a o u, H a = some (.frz o u) → H' a = some (.frz o u)
theorem Gro.refl (H : Hp) : Gro H H := ⟨fun _ _ h => h, fun _ _ _ h => h⟩
theorem Gro.trans {H H1 H2 : Hp} (a : Gro H H1) (b : Gro H1 H2) : Gro H H2 := ⟨fun p xs h => b.tup p xs (a.tup p xs h), fun p o u h => b.frz p o u (a.frz p o u h)⟩
theorem Gro.same {H H' : Hp} (s : Same H H') : Gro H H' := ⟨fun p _ h => s p _ h, fun p _ _ h => s p _ h⟩

mutual
theorem Dq.mono {H H' : Hp} (g : Gro H H') : ∀ {d : PyData} {v : V}, Dq H v d → Dq H' v d
  | .none, _, h => by cases h; exact .non
  | .bool b, _, h => by cases h; exact .bl b
  | .int i, _, h => by cases h; exact .int i
  | .str x, _, h => by cases h; exact .str x
  | .tuple ds, _, h => by
    cases h with
    | tup ha hs => exact .tup (g.tup _ _ ha) (Dqs.mono g hs)
  | .list _, _, h => by cases h
  | .dict _, _, h => by cases h
theorem Dqs.mono {H H' : Hp} (g : Gro H H') : ∀ {ds : List PyData} {vs : List V}, Dqs H vs ds → Dqs H' vs ds
  | [], _, h => by cases h; exact .nil
  | d :: ds, _, h => by
    cases h with
    | cons h1 h2 => exact .cons (Dq.mono g h1) (Dqs.mono g h2)
end
mutual
theorem Dq.dp {K : PySem.W.Frag} {H : Hp} : ∀ {d : PyData} {v : V}, Dq H v d → Dp K H v d
  | .none, _, h => by cases h; exact .non
  | .bool b, _, h => by cases h; exact .bl b
  | .int i, _, h => by cases h; exact .int i
  | .str x, _, h => by cases h; exact .str x
  | .tuple ds, _, h => by
    cases h with
    | tup ha hs => exact .tup (SqT.of ha) (Dqs.dp hs)
  | .list _, _, h => by cases h
  | .dict _, _, h => by cases h
theorem Dqs.dp {K : PySem.W.Frag} {H : Hp} : ∀ {ds : List PyData} {vs : List V}, Dqs H vs ds → DpAll K H vs ds
  | [], _, h => by cases h; exact .nil
  | d :: ds, _, h => by
    cases h with
    | cons h1 h2 => exact .cons (Dq.dp h1) (Dqs.dp h2)
end
theorem Dqs.length {H : Hp} : ∀ {ds : List PyData} {vs : List V}, Dqs H vs ds → vs.length = ds.length
  | [], _, h => by cases h; rfl
  | d :: ds, _, h => by
    cases h with
    | cons h1 h2 => rw [List.length_cons, List.length_cons, Dqs.length h2]
theorem Dqs.get {H : Hp} : ∀ {ds : List PyData} {vs : List V} {i : Nat} {v : V}, Dqs H vs ds → vs[i]? = some v → ∃ d, ds[i]? = some d ∧ Dq H v d
  | [], _, i, v, h, e => by
    cases h
    simp at e
  | d :: ds, _, 0, v, h, e => by
    cases h with
    | cons h1 h2 =>
      simp only [List.getElem?_cons_zero, Option.some.injEq] at e
      subst e
      exact ⟨d, rfl, h1⟩
  | d :: ds, _, i + 1, v, h, e => by
    cases h with
    | cons h1 h2 =>
      simp only [List.getElem?_cons_succ] at e
      obtain ⟨d', e1, e2⟩ := Dqs.get h2 e
      exact ⟨d', by simpa using e1, e2⟩
theorem Dqs.snoc {H : Hp} {d : PyData} {v : V} (hv : Dq H v d) : ∀ {ds : List PyData} {vs : List V}, Dqs H vs ds → Dqs H (vs ++ [v]) (ds ++ [d])
  | [], _, h => by
    cases h
    exact .cons hv .nil
  | d :: ds, _, h => by
    cases h with
    | cons h1 h2 => exact .cons h1 (Dqs.snoc hv h2)
/-- texts -/
theorem Dqs.strs {H : Hp} : ∀ (ss : List Str), Dqs H (ss.map V.str) (ss.map PyData.str)
  | [] => .nil
  | s :: ss => .cons (.str s) (Dqs.strs ss)
theorem Dqs.strs_of {H : Hp} : ∀ {ss : List Str} {vs : List V}, Dqs H vs (ss.map PyData.str) → vs = ss.map V.str
  | [], _, h => by cases h; rfl
  | s :: ss, _, h => by
    cases h with
    | cons h1 h2 =>
      cases h1
      rw [Dqs.strs_of h2] <;> rfl

/-! ### steps of the heap -/
/-- all but what stands at the places of F is as it was -/
def Fr (F : Addr → Prop) (H H' : Hp) : Prop := ∀ b o, H b = some o → ¬ F b → H' b = some o
theorem Fr.refl (F : Addr → Prop) (H : Hp) : Fr F H H := fun _ _ h _ => h
theorem Fr.trans {F : Addr → Prop} {H H1 H2 : Hp} (a : Fr F H H1) (b : Fr F H1 H2) : Fr F H H2 := fun p o h n => b p o (a p o h n) n
theorem Fr.same {F : Addr → Prop} {H H' : Hp} (s : Same H H') : Fr F H H' := fun b o h _ => s b o h
/-- the law's own state: a list of two ints -/
def Drw (H : Hp) (a : Addr) : Prop := ∃ x y : Int, H a = some (.lst [.int x, .int y])
/-- a step that changes the list at a alone, which stays such a list -/
structure Stp (a : Addr) (H H' : Hp) : Prop where
  fr : ∀ b o, H b = some o → b ≠ a → H' b = some o
  gro : Gro H H'
  drw : Drw H' a
theorem Stp.refl {a : Addr} {H : Hp} (h : Drw H a) : Stp a H H := ⟨fun _ _ h _ => h, Gro.refl H, h⟩
theorem Stp.trans {a : Addr} {H H1 H2 : Hp} (x : Stp a H H1) (y : Stp a H1 H2) : Stp a H H2 := ⟨fun b o h n => y.fr b o (x.fr b o h n) n, x.gro.trans y.gro, y.drw⟩
theorem Stp.same {a : Addr} {H H' : Hp} (h : Drw H a) (s : Same H H') : Stp a H H' := ⟨fun b o e _ => s b o e, Gro.same s, let ⟨x, y, e⟩ := h; ⟨x, y, s _ _ e⟩⟩
theorem Stp.snd {a : Addr} {H H1 H2 : Hp} (x : Stp a H H1) (s : Same H1 H2) : Stp a H H2 := x.trans (Stp.same x.drw s)
theorem Stp.free {a : Addr} {H H' : Hp} (x : Stp a H H') {p : Addr} (hp : H' p = none) (ha : ∃ o, H a = some o) : H p = none := by
  by_cases e : p = a
  · obtain ⟨u, v, q⟩ := x.drw
    rw [e, q] at hp
    cases hp
  · cases q : H p with
    | none => rfl
    | some o =>
      rw [x.fr p o q e] at hp
      cases hp
theorem Stp.new {a : Addr} {H H' : Hp} (x : Stp a H H') {p : Addr} {o : HO} (hp : H p = none) (hd : Drw H a) : Stp a H (upd H' p o) := by
  have pa : a ≠ p := by
    intro e
    obtain ⟨u, v, q⟩ := hd
    rw [e, hp] at q
    cases q
  refine ⟨fun b u h n => ?_, ⟨fun b xs h => ?_, fun b u z h => ?_⟩, ?_⟩
  · rw [upd_ne (ne_of_none h hp)]
    exact x.fr b u h n
  · rw [upd_ne (ne_of_none h hp)]
    exact x.gro.tup b xs h
  · rw [upd_ne (ne_of_none h hp)]
    exact x.gro.frz b u z h
  · obtain ⟨u, v, q⟩ := x.drw
    exact ⟨u, v, by rw [upd_ne pa]; exact q⟩
theorem same_new {H : Hp} {p : Addr} {o : HO} (h : H p = none) : Same H (upd H p o) := fun a u e => by
  rw [upd_ne (ne_of_none e h)]
  exact e
/-- the script -/
def Scr (K : PySem.W.Frag) (H : Hp) (a : Addr) : Prop := ∃ ns : List Int, ns.length ≤ 63 ∧ ((∃ o, H a = some (.frz o (.lst (ns.map V.int)))) ∨
  ∃ (o : Obj) (its : Array Value) (n : Nat), K.lookup a = some o ∧ o.cls = .type "list" ∧ o.dict = none ∧ o.data = .seq its n ∧ its.size ≤ sizeLine ∧ Vals (ns.map V.int) its.toList)
theorem Scr.mono {K : PySem.W.Frag} {H H' : Hp} {a : Addr} (g : Gro H H') (h : Scr K H a) : Scr K H' a := by
  obtain ⟨ns, l, h⟩ := h
  refine ⟨ns, l, ?_⟩
  rcases h with ⟨o, h⟩ | h
  · exact .inl ⟨o, g.frz _ _ _ h⟩
  · exact .inr h
theorem Scr.seq {K : PySem.W.Frag} {H : Hp} {a : Addr} (h : Scr K H a) : ∃ ns : List Int, ns.length ≤ 63 ∧ SqL K H a (ns.map V.int) := by
  obtain ⟨ns, l, h⟩ := h
  refine ⟨ns, l, ?_⟩
  rcases h with ⟨o, h⟩ | h
  · exact .inl (.inr ⟨o, h⟩)
  · exact .inr h
theorem Scr.of {K : PySem.W.Frag} {H : Hp} {a : Addr} {ns : List Int} (hl : ns.length ≤ 63) (O : Only H) (h : SqL K H a (ns.map V.int)) : Scr K H a := by
  refine ⟨ns, hl, ?_⟩
  rcases h with (h | ⟨o, h⟩) | h
  · rcases O a with e | ⟨o, xs, e⟩
    · rw [e] at h
      cases h
    · rw [e] at h
      cases h
  · exact .inl ⟨o, h⟩
  · exact .inr h
end Dk

/-! Rules that take any kind of value: a match on the values says what is asked. -/
namespace Dk
open PySem PySem.Spec PyProof.Rows L2
section
variable {X : Cx} {K : PySem.W.Frag}
theorem opw {f : Value → Value → Sem Value} {r r' : R2} (h : OpR X f r) (w : ∀ x y H Q, r' x y H Q → r x y H Q) : OpR X f r' :=
  fun pins s σ H x y v u Q I rx ry q => h pins s σ H x y v u Q I rx ry (w _ _ _ _ q)
theorem callw {f : Value} {r r' : List V → Hp → VK → Prop} (h : CallR X f r) (w : ∀ xs H Q, r' xs H Q → r xs H Q) : CallR X f r' :=
  fun pins s σ H xs us Q I r q => h pins s σ H xs us Q I r (w _ _ _ q)
theorem mtw {id : String} {r r' : V → List V → Hp → VK → Prop} (h : MtR X id r) (w : ∀ x xs H Q, r' x xs H Q → r x xs H Q) : MtR X id r' :=
  fun pins s σ H x xs v us Q I rx r q => h pins s σ H x xs v us Q I rx r (w _ _ _ _ q)
/-- a + b -/
def uAdd (K : PySem.W.Frag) : R2 := fun x y H Q => match x, y with
  | .int i, .int j => Q (.int (i + j)) H
  | .str a, .str b => a.length + b.length ≤ sizeLine ∧ Q (.str (a ++ b)) H
  | .ref a, .ref b => rCat (.ref a) (.ref b) H Q ∨ rCatA K (.ref a) (.ref b) H Q
  | _, _ => False
theorem op_addU (hK : X.K = K := by rfl) : OpR X (binaryOp .Add) (uAdd K) := by
  subst hK
  refine opw ((op_add).or (op_add_str.or (op_cat.or op_catA))) fun x y H Q h => ?_
  cases x <;> cases y <;> first
    | exact .inl ⟨_, _, rfl, rfl, h⟩
    | exact .inr (.inl ⟨_, _, rfl, rfl, h.1, h.2⟩)
    | exact .inr (.inr h)
    | exact False.elim h
def uI (C : Int → Int → Prop) (g : Int → Int → V) : R2 := fun x y H Q => match x, y with
  | .int i, .int j => C i j ∧ Q (g i j) H
  | _, _ => False
def uI0 (g : Int → Int → V) : R2 := fun x y H Q => match x, y with
  | .int i, .int j => Q (g i j) H
  | _, _ => False
theorem uI_w {C : Int → Int → Prop} {g : Int → Int → V} {f : Value → Value → Sem Value} (h : OpR X f (rI C g)) : OpR X f (uI C g) := by
  refine opw h fun x y H Q h => ?_
  cases x <;> cases y <;> first
    | exact ⟨_, _, rfl, rfl, h.1, h.2⟩
    | exact False.elim h
theorem uI0_w {g : Int → Int → V} {f : Value → Value → Sem Value} (h : OpR X f (rI0 g)) : OpR X f (uI0 g) := by
  refine opw h fun x y H Q h => ?_
  cases x <;> cases y <;> first
    | exact ⟨_, _, rfl, rfl, h⟩
    | exact False.elim h
abbrev uSub : R2 := uI0 fun i j => .int (i - j)
theorem op_subU : OpR X (binaryOp .Sub) uSub := uI0_w op_sub
/-- a * b: ints, one of them small; a list some times -/
def uMul : R2 := fun x y H Q => match x, y with
  | .int i, .int j => CMul i j ∧ Q (.int (i * j)) H
  | .ref a, .int j => rRep (.ref a) (.int j) H Q
  | _, _ => False
theorem op_mulU : OpR X (binaryOp .Mult) uMul := by
  refine opw (op_mul.or op_rep) fun x y H Q h => ?_
  cases x <;> cases y <;> first
    | exact .inl ⟨_, _, rfl, rfl, h.1, h.2⟩
    | exact .inr h
    | exact False.elim h
abbrev uMod : R2 := uI (fun _ j => 0 < j) fun i j => .int (i % j)
theorem op_modU : OpR X (binaryOp .Mod) uMod := uI_w op_mod
abbrev uDiv : R2 := uI CDiv fun i j => .int (i / j)
theorem op_divU : OpR X (binaryOp .FloorDiv) uDiv := uI_w op_fdiv
abbrev uPow : R2 := uI CPow fun i j => .int (i ^ j.toNat)
theorem op_powU : OpR X (binaryOp .Pow) uPow := uI_w op_pow
abbrev uShl : R2 := uI CPow fun i j => .int (i * 2 ^ j.toNat)
theorem op_shlU : OpR X (binaryOp .LShift) uShl := uI_w op_shl
abbrev uShr : R2 := uI (fun _ j => 0 ≤ j) fun i j => .int (i / 2 ^ j.toNat)
theorem op_shrU : OpR X (binaryOp .RShift) uShr := uI_w op_shr
abbrev uAnd : R2 := uI0 fun i j => .int (Builtin.bitAnd i j)
theorem op_andU : OpR X (binaryOp .BitAnd) uAnd := uI0_w op_and
abbrev uLt : R2 := uI0 fun i j => .bl (decide (i < j))
theorem op_ltU : OpR X (compareOp .Lt) uLt := uI0_w op_lt
abbrev uLe : R2 := uI0 fun i j => .bl (decide (i ≤ j))
theorem op_leU : OpR X (compareOp .LtE) uLe := uI0_w op_le
abbrev uGt : R2 := uI0 fun i j => .bl (decide (j < i))
theorem op_gtU : OpR X (compareOp .Gt) uGt := uI0_w op_gt
abbrev uGe : R2 := uI0 fun i j => .bl (decide (j ≤ i))
theorem op_geU : OpR X (compareOp .GtE) uGe := uI0_w op_ge
theorem dec_i {i j : Int} : decide (V.int i = V.int j) = decide (i = j) := by
  by_cases h : i = j
  · rw [h, decide_eq_true rfl, decide_eq_true rfl]
  · rw [decide_eq_false h, decide_eq_false fun e => h (V.int.inj e)]
theorem dec_s {i j : Str} : decide (V.str i = V.str j) = decide (i = j) := by
  by_cases h : i = j
  · rw [h, decide_eq_true rfl, decide_eq_true rfl]
  · rw [decide_eq_false h, decide_eq_false fun e => h (V.str.inj e)]
/-- a == b -/
def uEq (K : PySem.W.Frag) : R2 := fun x y H Q => match x, y with
  | .int i, .int j => Q (.bl (decide (i = j))) H
  | .str i, .str j => Q (.bl (decide (i = j))) H
  | x, y => rEq x y H Q ∨ rEqD K x y H Q
def uNe (K : PySem.W.Frag) : R2 := fun x y H Q => match x, y with
  | .int i, .int j => Q (.bl (!decide (i = j))) H
  | .str i, .str j => Q (.bl (!decide (i = j))) H
  | x, y => rNe x y H Q ∨ rNeD K x y H Q
theorem op_eqU {k : Nat} (hr : Room k X.A) (hK : X.K = K := by rfl) : OpR X (compareOp .Eq) (uEq K) := by
  subst hK
  refine opw (op_eq.or (op_eqD hr.units)) fun x y H Q h => ?_
  cases x <;> cases y <;> first
    | exact .inl ⟨rfl, by rw [dec_i]; exact h⟩
    | exact .inl ⟨rfl, by rw [dec_s]; exact h⟩
    | exact h
theorem op_neU {k : Nat} (hr : Room k X.A) (hK : X.K = K := by rfl) : OpR X (compareOp .NotEq) (uNe K) := by
  subst hK
  refine opw (op_ne.or (op_neD hr.units)) fun x y H Q h => ?_
  cases x <;> cases y <;> first
    | exact .inl ⟨rfl, by rw [dec_i]; exact h⟩
    | exact .inl ⟨rfl, by rw [dec_s]; exact h⟩
    | exact h
/-- a is None, a is True -/
def uIs : R2 := fun x y H Q => match y with
  | .non => Q (.bl (decide (x = .non))) H
  | .bl b => (match x with
    | .bl a => Q (.bl (decide (a = b))) H
    | _ => False)
  | _ => False
def uIsNot : R2 := fun x y H Q => match y with
  | .non => Q (.bl (!decide (x = .non))) H
  | .bl b => (match x with
    | .bl a => Q (.bl (!decide (a = b))) H
    | _ => False)
  | _ => False
theorem op_isU : OpR X (compareOp .Is) uIs := by
  refine opw (op_isN.or op_is_bl) fun x y H Q h => ?_
  cases y with
  | non => exact .inl ⟨rfl, h⟩
  | bl b => cases x <;> first
    | exact .inr ⟨_, _, rfl, rfl, h⟩
    | exact False.elim h
  | _ => exact False.elim h
theorem op_isNotU : OpR X (compareOp .IsNot) uIsNot := by
  refine opw (op_notN.or op_isnot_bl) fun x y H Q h => ?_
  cases y with
  | non => exact .inl ⟨rfl, h⟩
  | bl b => cases x <;> first
    | exact .inr ⟨_, _, rfl, rfl, h⟩
    | exact False.elim h
  | _ => exact False.elim h
/-- a in b -/
def occ (i j : Str) : Bool := !(Builtin.Str.occurrences j i 0 j.length 1).isEmpty
def uIn (K : PySem.W.Frag) : R2 := fun x y H Q => match y with
  | .str j => (match x with
    | .str i => Q (.bl (occ i j)) H
    | _ => False)
  | y => rIn K false x y H Q ∨ rInD K x y H Q
def uNotIn (K : PySem.W.Frag) : R2 := fun x y H Q => match y with
  | .str j => (match x with
    | .str i => Q (.bl (!occ i j)) H
    | _ => False)
  | y => rIn K true x y H Q ∨ rNotInD K x y H Q
theorem op_inU {k : Nat} (hr : Room (k + 1) X.A) (hK : X.K = K := by rfl) : OpR X (compareOp .In) (uIn K) := by
  subst hK
  refine opw (op_in_str.or (op_in_seq.or (op_inD (by have := hr.un; omega)))) fun x y H Q h => ?_
  cases y with
  | str j => cases x <;> first
    | exact .inl ⟨_, _, rfl, rfl, h⟩
    | exact False.elim h
  | _ => exact .inr h
theorem op_notInU {k : Nat} (hr : Room (k + 1) X.A) (hK : X.K = K := by rfl) : OpR X (compareOp .NotIn) (uNotIn K) := by
  subst hK
  refine opw (op_notin_str.or (op_notIn_seq.or (op_notInD (by have := hr.un; omega)))) fun x y H Q h => ?_
  cases y with
  | str j => cases x <;> first
    | exact .inl ⟨_, _, rfl, rfl, h⟩
    | exact False.elim h
  | _ => exact .inr h
end
end Dk

namespace Dk
open PySem PySem.Spec PyProof.Rows L2
/-! ### built-in names -/
theorem bt_len : bootBuiltins "len" = some (.builtin "len") := by decide +kernel
theorem bt_int : bootBuiltins "int" = some (.type "int") := by decide +kernel
theorem bt_str : bootBuiltins "str" = some (.type "str") := by decide +kernel
theorem bt_bool : bootBuiltins "bool" = some (.type "bool") := by decide +kernel
theorem bt_tuple : bootBuiltins "tuple" = some (.type "tuple") := by decide +kernel
theorem bt_list : bootBuiltins "list" = some (.type "list") := by decide +kernel
theorem bt_isinstance : bootBuiltins "isinstance" = some (.builtin "isinstance") := by decide +kernel
theorem bt_ord : bootBuiltins "ord" = some (.builtin "ord") := by decide +kernel
theorem bt_sorted : bootBuiltins "sorted" = some (.builtin "sorted") := by decide +kernel
theorem bt_min : bootBuiltins "min" = some (.builtin "min") := by decide +kernel
theorem bt_max : bootBuiltins "max" = some (.builtin "max") := by decide +kernel
theorem bt_sum : bootBuiltins "sum" = some (.builtin "sum") := by decide +kernel
theorem bt_all : bootBuiltins "all" = some (.builtin "all") := by decide +kernel
theorem bt_any : bootBuiltins "any" = some (.builtin "any") := by decide +kernel
section
variable {X : Cx} {K : PySem.W.Frag}
/-- len(x) -/
def uLen (K : PySem.W.Frag) : List V → Hp → VK → Prop := fun xs H Q => match xs with
  | [.str z] => z.length ≤ sizeLine ∧ Q (.int z.length) H
  | [x] => ∃ n, LenV K x H n ∧ Q (.int n) H
  | _ => False
theorem call_lenU (hK : X.K = K := by rfl) : CallR X (.builtin "len") (uLen K) := by
  subst hK
  refine callw call_len fun xs H Q h => ?_
  match xs, h with
  | [.str z], h => exact ⟨_, z.length, rfl, ⟨h.1, rfl⟩, h.2⟩
  | [.non], h => exact ⟨_, h.choose, rfl, h.choose_spec.1, h.choose_spec.2⟩
  | [.bl _], h => exact ⟨_, h.choose, rfl, h.choose_spec.1, h.choose_spec.2⟩
  | [.int _], h => exact ⟨_, h.choose, rfl, h.choose_spec.1, h.choose_spec.2⟩
  | [.byt _], h => exact ⟨_, h.choose, rfl, h.choose_spec.1, h.choose_spec.2⟩
  | [.flt _], h => exact ⟨_, h.choose, rfl, h.choose_spec.1, h.choose_spec.2⟩
  | [.ref _], h => exact ⟨_, h.choose, rfl, h.choose_spec.1, h.choose_spec.2⟩
  | [.ty _], h => exact ⟨_, h.choose, rfl, h.choose_spec.1, h.choose_spec.2⟩
/-- int(x) -/
def uInt : List V → Hp → VK → Prop := fun xs H Q => match xs with
  | [.int i] => Q (.int i) H
  | [.bl b] => Q (.int (if b then 1 else 0)) H
  | [.str a] => ∃ n, PySem.intText? a = some n ∧ a.length ≤ 640 ∧ Q (.int n) H
  | _ => False
theorem call_intU : CallR X (.type "int") uInt := by
  refine callw (call_int1.or call_int_str) fun xs H Q h => ?_
  match xs, h with
  | [.int i], h => exact .inl (.inl ⟨_, rfl, h⟩)
  | [.bl i], h => exact .inl (.inr ⟨_, rfl, h⟩)
  | [.str a], h => exact .inr ⟨_, _, rfl, h.choose_spec.1, h.choose_spec.2.1, h.choose_spec.2.2⟩
/-- tuple(x) -/
def uTuple (K : PySem.W.Frag) : List V → Hp → VK → Prop := fun xs H Q => match xs with
  | [.ref p] => ∃ ys, (SqL K H p ys ∧ ∀ l, H l = none → Q (.ref l) (upd H l (.tup ys))) ∨ (SqT K H p ys ∧ Q (.ref p) H)
  | _ => False
theorem call_tupleU (hK : X.K = K := by rfl) : CallR X (.type "tuple") (uTuple K) := by
  subst hK
  refine callw call_tuple_of fun xs H Q h => ?_
  match xs, h with
  | [.ref p], h => exact ⟨p, h.choose, rfl, h.choose_spec⟩
/-- list(x) -/
def uList (K : PySem.W.Frag) : List V → Hp → VK → Prop := fun xs H Q => match xs with
  | [.ref p] => ∃ ys, (SqL K H p ys ∨ SqT K H p ys) ∧ ∀ l, H l = none → Q (.ref l) (upd H l (.lst ys))
  | _ => False
theorem call_listU (hK : X.K = K := by rfl) : CallR X (.type "list") (uList K) := by
  subst hK
  refine callw call_list_of fun xs H Q h => ?_
  match xs, h with
  | [.ref p], h => exact ⟨p, h.choose, rfl, h.choose_spec⟩
/-- isinstance(x, a built-in class) -/
def tyO : Option HO → Option String
  | some (.lst _) => some "list"
  | some (.tup _) => some "tuple"
  | some (.dK _) => some "dict"
  | some (.dT _) => some "dict"
  | _ => none
def tyN (H : Hp) : V → Option String
  | .non => some "NoneType"
  | .bl _ => some "bool"
  | .int _ => some "int"
  | .str _ => some "str"
  | .ref a => tyO (H a)
  | _ => none
theorem tyN_ok {K : PySem.W.Frag} {H : Hp} {x : V} {n : String} (h : tyN H x = some n) : TyX K H x (.type n) := by
  cases x with
  | non => cases h; exact .base .non
  | bl b => cases h; exact .base (.bl b)
  | int b => cases h; exact .base (.int b)
  | str b => cases h; exact .base (.str b)
  | ref a =>
    have h : tyO (H a) = some n := h
    cases e : H a with
    | none =>
      rw [e] at h
      cases h
    | some o =>
      rw [e] at h
      cases o with
      | lst xs => cases h; exact .base (.lst e)
      | tup xs => cases h; exact .base (.tup e)
      | dK xs => cases h; exact .base (.dK e)
      | dT xs => cases h; exact .base (.dT e)
      | _ => cases h
  | _ => cases h
def uIsi (K : PySem.W.Frag) : List V → Hp → VK → Prop := fun xs H Q => match xs with
  | [x, .ty m] => ∃ n b, tyN H x = some n ∧ kitB n m = some b ∧ Q (.bl b) H
  | _ => False
theorem call_isiU (hK : X.K = K := by rfl) : CallR X (.builtin "isinstance") (uIsi K) := by
  subst hK
  refine callw call_isi fun xs H Q h => ?_
  match xs, h with
  | [x, .ty m], h =>
    obtain ⟨n, b, h1, h2, h3⟩ := h
    exact ⟨x, .ty m, .type n, .type m, b, rfl, .ty m, tyN_ok h1, kit_ty h2, h3⟩
/-- x[i] -/
def uIx (K : PySem.W.Frag) : R2 := fun x y H Q => match x, y with
  | .ref p, .int i => ∃ xs v, (SqL K H p xs ∨ SqT K H p xs) ∧ atI xs i = some v ∧ Q v H
  | .str z, .int i => ∃ c, z.length ≤ sizeLine ∧ atI z.cps.toList i = some c ∧ Q (.str ⟨#[c]⟩) H
  | _, _ => False
theorem ix_U (hK : X.K = K := by rfl) : IxR X (uIx K) := by
  subst hK
  intro va sl pins s σ H x y v u Q I rx ry h hs
  refine ix_seq va sl pins s σ H x y v u Q I rx ry ?_ hs
  match x, y, h with
  | .ref p, .int i, h =>
    obtain ⟨xs, w, h1, h2, h3⟩ := h
    rcases h1 with h1 | h1
    · exact .inl ⟨p, xs, i, w, rfl, rfl, h1, h2, h3⟩
    · exact .inr (.inl ⟨p, xs, i, w, rfl, rfl, h1, h2, h3⟩)
  | .str z, .int i, h =>
    obtain ⟨c, h1, h2, h3⟩ := h
    exact .inr (.inr ⟨z, i, c, rfl, rfl, h1, h2, h3⟩)
/-- x[lo:hi] -/
def uSl (K : PySem.W.Frag) : V → Option Int → Option Int → Hp → VK → Prop := fun x lo hi H Q => match x with
  | .str z => z.length ≤ sizeLine ∧ Q (.str (cutS z lo hi)) H
  | x => rSlL K x lo hi H Q ∨ rSlA K x lo hi H Q
theorem sl_U (hK : X.K = K := by rfl) : SlR X (uSl K) := by
  subst hK
  intro pins s σ H x v vl vu lo hi sl Q I rx hs pl pu h
  refine (sl_str.or (sl_list.or sl_tupA)) pins s σ H x v vl vu lo hi sl Q I rx hs pl pu ?_
  cases x with
  | str z => exact .inl ⟨z, rfl, h.1, h.2⟩
  | _ => exact .inr h
/-- methods of texts with one text -/
def uS1 (f : Str → Str → V) : V → List V → Hp → VK → Prop := fun x xs H Q => match x, xs with
  | .str a, [.str b] => Q (f a b) H
  | _, _ => False
theorem mt_startsU : MtR X "str.startswith" (uS1 fun a b => .bl (Txt.startswith a b)) := by
  refine mtw mt_startswith fun x xs H Q h => ?_
  match x, xs, h with
  | .str a, [.str b], h => exact ⟨a, b, rfl, rfl, h⟩
theorem mt_endsU : MtR X "str.endswith" (uS1 fun a b => .bl (Txt.endswith a b)) := by
  refine mtw mt_endswith fun x xs H Q h => ?_
  match x, xs, h with
  | .str a, [.str b], h => exact ⟨a, b, rfl, rfl, h⟩
theorem mt_findU : MtR X "str.find" (uS1 fun a b => .int (Txt.find a b)) := by
  refine mtw mt_find fun x xs H Q h => ?_
  match x, xs, h with
  | .str a, [.str b], h => exact ⟨a, b, rfl, rfl, h⟩
def uS1l (f : Str → Str → V) : V → List V → Hp → VK → Prop := fun x xs H Q => match x, xs with
  | .str a, [.str b] => a.length ≤ sizeLine ∧ Q (f a b) H
  | _, _ => False
theorem mt_rstripU : MtR X "str.rstrip" (uS1l fun a b => .str (Txt.rstripChars a b)) := by
  refine mtw mt_rstripChars fun x xs H Q h => ?_
  match x, xs, h with
  | .str a, [.str b], h => exact ⟨a, b, rfl, rfl, h.1, h.2⟩
def uSplit : V → List V → Hp → VK → Prop := fun x xs H Q => match x, xs with
  | .str a, [.str b] => (b.length == 0) = false ∧ a.length + 2 ≤ sizeLine ∧ rNewStrs (Txt.split a b) H Q
  | _, _ => False
theorem mt_splitU : MtR X "str.split" uSplit := by
  refine mtw mt_split fun x xs H Q h => ?_
  match x, xs, h with
  | .str a, [.str b], h => exact ⟨a, b, rfl, rfl, h.1, h.2.1, h.2.2⟩
def uJoin (K : PySem.W.Frag) : V → List V → Hp → VK → Prop := fun x xs H Q => match x, xs with
  | .str a, [.ref p] => ∃ ys : List Str, (SqL K H p (ys.map V.str) ∨ SqT K H p (ys.map V.str)) ∧ (ys.map (·.length)).sum + ys.length * a.length ≤ 16777216 ∧ Q (.str (Txt.join a ys)) H
  | _, _ => False
theorem mt_joinU (hK : X.K = K := by rfl) : MtR X "str.join" (uJoin K) := by
  subst hK
  refine mtw mt_join fun x xs H Q h => ?_
  match x, xs, h with
  | .str a, [.ref p], h => exact ⟨a, p, h.choose, rfl, rfl, h.choose_spec.1, h.choose_spec.2.1, h.choose_spec.2.2⟩
def uS0 (f : Str → V) : V → List V → Hp → VK → Prop := fun x xs H Q => match x, xs with
  | .str a, [] => a.length ≤ 5592405 ∧ Q (f a) H
  | _, _ => False
theorem mt_lowerU : MtR X "str.lower" (uS0 fun a => .str (Txt.lower a)) := by
  refine mtw mt_lower fun x xs H Q h => ?_
  match x, xs, h with
  | .str a, [], h => exact ⟨a, rfl, rfl, h.1, h.2⟩
theorem mt_upperU : MtR X "str.upper" (uS0 fun a => .str (Txt.upper a)) := by
  refine mtw mt_upper fun x xs H Q h => ?_
  match x, xs, h with
  | .str a, [], h => exact ⟨a, rfl, rfl, h.1, h.2⟩
/-- str(x) -/
def uStr : List V → Hp → VK → Prop := fun xs H Q => match xs with
  | [.int i] => i.natAbs.log2 < 1920 ∧ Q (.str (toString i)) H
  | [.str a] => Q (.str a) H
  | _ => False
/-! ### defs by their names -/
structure Wd where
  P : Program
  w : World
  K : PySem.W.Frag
  mg : Str → Option Value
  base : Heap
/-- the def that the module's name x holds keeps the promise sp -/
def Can (e : Wd) (k : Nat) (x : Str) (ps : List Str) (sp : Sp) : Prop :=
  ∃ f fd, FnOk e.P e.w e.K e.mg e.base (L2.CX e.P e.w) k f fd ps sp ∧ e.mg x = some (.ref f) ∧ PySem.W.keepIn e.K (.ref f) = true ∧ Binds e.K fd ps []
theorem Can.imp {e : Wd} {k j : Nat} {x : Str} {ps : List Str} {sp sp' : Sp} (c : Can e k x ps sp) (h : ∀ vs H Q E, sp' vs H Q E → sp vs H Q E) (hk : k ≤ j := by decide) : Can e j x ps sp' := by
  obtain ⟨f, fd, F, m, kp, b⟩ := c
  exact ⟨f, fd, (F.imp h).mono hk, m, kp, b⟩
abbrev wdOf (X : Cx) : Wd := ⟨X.prog, X.w, X.K, X.mg, X.base⟩
theorem pe_can {k : Nat} {x : Str} {ps : List Str} {sp : Sp} {E : XK} {p pos : Pos} {e : Expr} {es : List Expr} {t : TA} (c : Can (wdOf X) k x ps sp) (hr : Room k X.A) (hx : Passes (L2.CX X.prog X.w) X E) (ha : PA X (e :: es) t) (hg : Gl X x := by rfl)
    (hdb : (x == ("__debug__" : Str)) = false := by decide) (he : starEach (e :: es) X.env = (false, eval e X.env) :: starEach es X.env := by rfl) (hpl : (backTo pos (starEach es X.env)).any (·.1) = false := by rfl) : PE X (.Call (.Name x p) (e :: es) [] pos) (tCall sp [] E t) := by
  obtain ⟨f, fd, F, m, kp, b⟩ := c
  exact pe_call F hr hg m kp b .nil hx ha hdb he hpl
theorem pe_can0 {k : Nat} {x : Str} {ps : List Str} {sp : Sp} {E : XK} {p pos : Pos} (c : Can (wdOf X) k x ps sp) (hr : Room k X.A) (hx : Passes (L2.CX X.prog X.w) X E) (hg : Gl X x := by rfl)
    (hdb : (x == ("__debug__" : Str)) = false := by decide) : PE X (.Call (.Name x p) [] [] pos) (tCall sp [] E tNil) := by
  obtain ⟨f, fd, F, m, kp, b⟩ := c
  exact pe_call0 F hr hg m kp b .nil hx hdb
def DefAt (e : Wd) (x : Str) (st : Stmt) : Prop := ∃ f fd, FunD e.K x x (defArgs st) (defBody st) (defScope st) [] [] f fd ∧ e.mg x = some (.ref f)
/-- how its arguments bind -/
abbrev BindOk (x : Str) (st : Stmt) (ps : List Str) : Prop := ∀ (kV doc pm : Value) (an : Option Addr) (cdv ct : Value) (us : List Value), us.length = ps.length → bindArgs (PySem.W.fnOf x x (defArgs st) (defBody st) (defScope st) .none kV doc pm an cdv ct) ⟨us, []⟩ = pure (ps.zip us)
/-- a def that lets no error out -/
theorem fnok_of {e : Wd} {x : Str} {st : Stmt} {N ps : List Str} {k : Nat} {sp : Sp} {f : Addr} {fd : FuncData} (F : FunD e.K x x (defArgs st) (defBody st) (defScope st) [] [] f fd) (S : FnScope N ps (defScope st)) (len : ∀ vs H Q E, sp vs H Q E → vs.length = ps.length)
    (hbody : ∀ (cdv : Value) (f : Addr) (A : Around) (outer : List Env) (s : Shared) (H : Hp) (vs : List V) (Q : VK) (E : XK), Room k (A.deeper (envOfC x (defScope st) s.heap.objs.size f cdv)) → sp vs H Q E →
      ∃ t, PSs (cxOf (L2.CX e.P e.w) e.P e.w e.K e.mg e.base N x (defScope st) f cdv A outer s H E).nox (defBody st) t ∧ t { nx := fun _ H' => Q .non H', rt := Q } (start N vs) H) : FnOk e.P e.w e.K e.mg e.base (L2.CX e.P e.w) (k + 1) f fd ps sp :=
  F.ok S len fun cdv A outer s H vs Q E hr h => by
    obtain ⟨t, h1, h2⟩ := hbody cdv f A outer s H vs Q E hr h
    exact ⟨t, h1.nox, h2⟩
theorem can_of {e : Wd} {x : Str} {st : Stmt} {N ps : List Str} {k : Nat} {sp : Sp} (D : DefAt e x st) (S : FnScope N ps (defScope st)) (B : BindOk x st ps) (len : ∀ vs H Q E, sp vs H Q E → vs.length = ps.length)
    (hbody : ∀ (cdv : Value) (f : Addr) (A : Around) (outer : List Env) (s : Shared) (H : Hp) (vs : List V) (Q : VK) (E : XK), Room k (A.deeper (envOfC x (defScope st) s.heap.objs.size f cdv)) → sp vs H Q E →
      ∃ t, PSs (cxOf (L2.CX e.P e.w) e.P e.w e.K e.mg e.base N x (defScope st) f cdv A outer s H E).nox (defBody st) t ∧ t { nx := fun _ H' => Q .non H', rt := Q } (start N vs) H) : Can e (k + 1) x ps sp := by
  obtain ⟨f, fd, F, m⟩ := D
  exact ⟨f, fd, fnok_of F S len hbody, m, F.kp, F.bindsN B⟩
/-- a text, an int of the module's -/
theorem pe_gs {x z : Str} {pos : Pos} (h : ∃ t, X.mg x = some (.str z t)) (hg : Gl X x := by rfl) (hd : (x == ("__debug__" : Str)) = false := by decide) : PE X (.Name x pos) (tC (.str z)) := by
  obtain ⟨t, h⟩ := h
  exact pe_glob hg h ⟨t, rfl⟩ hd
theorem pe_gi {x : Str} {i : Int} {pos : Pos} (h : ∃ t, X.mg x = some (.int i t)) (hg : Gl X x := by rfl) (hd : (x == ("__debug__" : Str)) = false := by decide) : PE X (.Name x pos) (tC (.int i)) := by
  obtain ⟨t, h⟩ := h
  exact pe_glob hg h ⟨t, rfl⟩ hd
end
end Dk

/-! What a reading asks, word by word; a walk over readings. -/
namespace Dk
open PySem PySem.Spec PyProof.Rows L2
section
variable {X : Cx} {K : PySem.W.Frag} {σ : L2.St} {H : Hp} {Q : VK} {QB : Bool → Hp → Prop} {D : Ends} {ta tb tc te : TE} {t u c : TT} {r r' : R2} {i : Nat} {x y v : V} {tA tA' : TA} {tS uS : TS}
/-! ### rules that are lacking in the modules: a value's truth; what a for walks, of any kind -/
def tTru (K : PySem.W.Frag) (te : TE) : TT := fun σ H Q => te σ H fun x H' => ∃ k, TruV K x H' k ∧ Q k H'
theorem pt_tru {a : Expr} (ha : PE X a te) (hK : X.K = K := by rfl) (he : ∀ whole, isTrue a X.env whole = (do let v ← whole; standAt a.pos; holding [v] (truthy v)) := by intro _; rfl) : PT X a (tTru K te) := by
  subst hK
  exact pt_truth ha he
theorem pior {tg e : Expr} {w1 w2 : TI} (h1 : PI X tg e w1) (h2 : PI X tg e w2) : PI X tg e (fun σ H R => w1 σ H R ∨ w2 σ H R) :=
  ⟨fun pins s σ H R I h => h.elim (h1.run pins s σ H R I) (h2.run pins s σ H R I)⟩
theorem peor {e : Expr} {w1 w2 : TE} (h1 : PE X e w1) (h2 : PE X e w2) : PE X e (fun σ H R => w1 σ H R ∨ w2 σ H R) :=
  ⟨fun pins s σ H R I h => h.elim (h1.run pins s σ H R I) (h2.run pins s σ H R I)⟩
/-- a list, a tuple, a text -/
def iU (K : PySem.W.Frag) (te : TE) : TI := fun σ H R => te σ H fun x H1 => match x with
  | .ref a => ((∃ xs, SqL K H1 a xs) ∧ R (Itl K a) H1) ∨ ((∃ xs, SqT K H1 a xs) ∧ R (Itt K a) H1)
  | .str z => R (Its z) H1
  | _ => False
theorem pi_U {tg l : Expr} (hl : PE X l te) (hK : X.K = K := by rfl) : PI X tg l (iU K te) := by
  subst hK
  refine ⟨fun pins s σ H R I h => ?_⟩
  refine thn (hl.run pins s σ H _ I h) fun v s1 ⟨x, H1, I1, r1, q1⟩ => ?_
  cases x with
  | ref a =>
    cases r1
    rcases q1 with ⟨⟨xs, hq⟩, q⟩ | ⟨⟨xs, hq⟩, q⟩
    · obtain ⟨its, rv, p, hz⟩ := I1.list hq
      refine wpAny_pyIter_list p.isList ?_
      refine ⟨s1.heap.objs.size, [s1.heap.objs.size], _, _, H1, rfl, I1.kept (t' := s1.toks) fun b o e => Heap.get?_push_of_some _ e, turn_list a _, ⟨_, Heap.get?_push_size _ rfl, rfl, rfl⟩, fun b hb => ?_, q⟩
      have e : b = s1.heap.objs.size := by simpa using hb
      subst e
      exact I1.fpOk (Nat.le_refl _) (I1.hok.fresh (Nat.le_refl _))
    · obtain ⟨its, rv, p, hz⟩ := I1.tuple hq
      refine wpAny_pyIter_tuple (show s1.heap.IsTuple a its.toArray from p) ?_
      refine ⟨s1.heap.objs.size, [s1.heap.objs.size], _, _, H1, rfl, I1.kept (t' := s1.toks) fun b o e => Heap.get?_push_of_some _ e, turn_tuple a _, ⟨_, Heap.get?_push_size _ rfl, rfl, rfl⟩, fun b hb => ?_, q⟩
      have e : b = s1.heap.objs.size := by simpa using hb
      subst e
      exact I1.fpOk (Nat.le_refl _) (I1.hok.fresh (Nat.le_refl _))
  | str z =>
    obtain ⟨t, rfl⟩ := r1
    cases ha : z.cps.all (· < 128)
    · exact wpAny_pyIter_wide ha (pi_one (tk := s1.toks) I1 _ (turn_str _ z t "str_iterator" (.inr rfl)) ⟨_, Heap.get?_push_size _ rfl, rfl, rfl⟩ q1)
    · exact wpAny_pyIter_ascii ha (pi_one (tk := s1.toks) I1 _ (turn_str _ z t "str_ascii_iterator" (.inl rfl)) ⟨_, Heap.get?_push_size _ rfl, rfl, rfl⟩ q1)
  | _ => exact False.elim q1
theorem pe_notU {a : Expr} {pos : Pos} (ha : PE X a ta) (hK : X.K = K := by rfl) : PE X (.UnaryOp .Not a pos) (tNotT K ta) := by
  subst hK
  exact pe_notT ha
theorem pe_andU {a b : Expr} {rest : List Expr} {pos : Pos} (ha : PE X a ta) (hb : PE X (.BoolOp .And (b :: rest) pos) tb) (hK : X.K = K := by rfl) : PE X (.BoolOp .And (a :: b :: rest) pos) (tAndT K ta tb) := by
  subst hK
  exact pe_andT ha hb
theorem pe_orU {a b : Expr} {rest : List Expr} {pos : Pos} (ha : PE X a ta) (hb : PE X (.BoolOp .Or (b :: rest) pos) tb) (hK : X.K = K := by rfl) : PE X (.BoolOp .Or (a :: b :: rest) pos) (tOrT K ta tb) := by
  subst hK
  exact pe_orT ha hb
theorem pg_tupU {es : List Expr} {k : Nat} {t : TGs} {n : Nat} {pos : Pos} (hc : X.calm = true) (h : PGs X es t) (hK : X.K = K := by rfl)
    (hn : (assignEach es X.env).length = n := by rfl) (hst : (assignEach es X.env).findIdx? (·.1) = none := by rfl) : PG X (.Tuple es k pos) (gTup K n t) := by
  subst hK
  exact pg_tup hc h hn hst
theorem pe_bmU {T id : String} {name : Str} {r : V → List V → Hp → VK → Prop} {o e : Expr} {es : List Expr} {apos cpos : Pos} (pa : PlainAttrs T) (slot : Slot T name id) (hty : typeOf (.builtin id) = pure (.type "method_descriptor")) (hm : MtR X id r) (ho : PE X o te) (ha : PA X (e :: es) tA)
    (hK : X.K = K := by rfl) (hbase : attributeBase o name X.env (eval o X.env) = eval o X.env := by rfl)
    (hfew : ((backTo cpos (starEach (e :: es) X.env)).all (fun x => !x.1) && (backToKw cpos (keywordEach [] X.env)).all (fun x => x.1.isSome)
      && decide ((e :: es).length + ([] : List Keyword).length + (if ([] : List Keyword).isEmpty then 0 else 1) < 30)) = true := by rfl)
    (hline : (apos.endLine == cpos.line) = true := by rfl) (hs : starEach (e :: es) X.env = (false, eval e X.env) :: starEach es X.env := by rfl) (hplain : (backTo cpos (starEach es X.env)).any (·.1) = false := by rfl) :
    PE X (.Call (.Attribute o name apos) (e :: es) [] cpos) (tBM K T r te tA) := by
  subst hK
  exact pe_bm pa slot hty hm ho ha hbase hfew hline hs hplain
theorem pe_bm0U {T id : String} {name : Str} {r : V → List V → Hp → VK → Prop} {o : Expr} {apos cpos : Pos} (pa : PlainAttrs T) (slot : Slot T name id) (hty : typeOf (.builtin id) = pure (.type "method_descriptor")) (hm : MtR X id r) (ho : PE X o te)
    (hK : X.K = K := by rfl) (hbase : attributeBase o name X.env (eval o X.env) = eval o X.env := by rfl) (hline : (apos.endLine == cpos.line) = true := by rfl) : PE X (.Call (.Attribute o name apos) [] [] cpos) (tBM0 K T r te) := by
  subst hK
  exact pe_bm0 pa slot hty hm ho hbase hline
/-! ### readings: expressions -/
/-- a truth value is wanted, an int is wanted -/
def bq (x : V) (H : Hp) (QB : Bool → Hp → Prop) : Prop := ∃ k, x = .bl k ∧ QB k H
def trq (K : PySem.W.Frag) (x : V) (H : Hp) (QB : Bool → Hp → Prop) : Prop := ∃ k, TruV K x H k ∧ QB k H
def newq (n : Nat) (o : HO) (H : Hp) (Q : VK) : Prop := n ≤ sizeLine ∧ ∀ p, H p = none → Q (.ref p) (upd H p o)
def parq (a b : Nat) (vs : List V) (σ : L2.St) (D : Ends) (H : Hp) : Prop := ∃ v w, vs = [v, w] ∧ D.nx ((σ.set a (some v)).set b (some w)) H
def iq (x : V) (P : Int → Prop) : Prop := ∃ n, x = .int n ∧ P n
theorem r_var (h : σ[i]? = some (some v)) (q : Q v H) : tVar i σ H Q := ⟨v, h, q⟩
theorem r_c (q : Q v H) : tC v σ H Q := q
theorem r_op (q : ta σ H fun x H1 => tb σ H1 fun y H2 => r x y H2 Q) : tOp r ta tb σ H Q := q
theorem r_un {f : V → Hp → VK → Prop} (q : ta σ H fun x H1 => f x H1 Q) : tUn f ta σ H Q := q
theorem r_neg {g : Int → V} {n : Int} (q : Q (g n) H) : rU g (.int n) H Q := ⟨n, rfl, q⟩
theorem r_test (q : te σ H fun x H1 => bq x H1 QB) : tTest te σ H QB := q
theorem r_tB (q : te σ H fun x H1 => bq x H1 QB) : tB te σ H QB := q
theorem r_bl {b : Bool} {H : Hp} (q : QB b H) : bq (.bl b) H QB := ⟨b, rfl, q⟩
theorem r_tru (q : te σ H fun x H1 => trq K x H1 QB) : tTru K te σ H QB := q
theorem r_trub {b : Bool} (q : QB b H) : trq K (.bl b) H QB := ⟨b, rfl, q⟩
theorem r_trui {n : Int} (q : QB (n != 0) H) : trq K (.int n) H QB := ⟨_, rfl, q⟩
theorem r_trun (q : QB false H) : trq K .non H QB := ⟨_, rfl, q⟩
theorem r_trus {z : Str} (hz : z.length ≤ sizeLine) (q : QB ((z.length : Int) != 0) H) : trq K (.str z) H QB := ⟨_, ⟨hz, rfl⟩, q⟩
theorem r_trul {p : Addr} {xs : List V} (h : SqL K H p xs) (q : QB (!xs.isEmpty) H) : trq K (.ref p) H QB := ⟨_, .inl ⟨xs, h, rfl⟩, q⟩
theorem r_trut {p : Addr} {xs : List V} (h : SqT K H p xs) (q : QB (!xs.isEmpty) H) : trq K (.ref p) H QB := ⟨_, .inr (.inl ⟨xs, h, rfl⟩), q⟩
theorem r_and (q : t σ H fun b H1 => if b = true then u σ H1 QB else QB false H1) : tAnd t u σ H QB := q
theorem r_or (q : t σ H fun b H1 => if b = true then QB true H1 else u σ H1 QB) : tOr t u σ H QB := q
theorem r_not (q : t σ H fun b H1 => QB (!b) H1) : tNot t σ H QB := q
theorem r_andT (q : ta σ H fun x H1 => trq K x H1 fun k H2 => if k = true then tb σ H2 Q else Q x H2) : tAndT K ta tb σ H Q := q
theorem r_orT (q : ta σ H fun x H1 => trq K x H1 fun k H2 => if k = true then Q x H2 else tb σ H2 Q) : tOrT K ta tb σ H Q := q
theorem r_notT (q : ta σ H fun x H1 => trq K x H1 fun k H2 => Q (.bl (!k)) H2) : tNotT K ta σ H Q := q
theorem r_ifx (q : t σ H fun b H1 => if b = true then ta σ H1 Q else tb σ H1 Q) : tIf t ta tb σ H Q := q
theorem r_chain (q : ta σ H fun x H1 => tb σ H1 fun y H2 => r x y H2 fun z H3 => bq z H3 fun k H4 => if k = true then tc σ H4 (fun w H5 => r' y w H5 Q) else Q (.bl false) H4) : tChain r r' ta tb tc σ H Q := q
theorem r_nil {QA : List V → Hp → Prop} (q : QA [] H) : tNil σ H QA := q
theorem r_cons {QA : List V → Hp → Prop} (q : ta σ H fun x H1 => tA σ H1 fun xs H2 => QA (x :: xs) H2) : tCons ta tA σ H QA := q
theorem r_tup (q : tA σ H fun xs H1 => newq xs.length (.tup xs) H1 Q) : tTup tA σ H Q := q
theorem r_lst (q : tA σ H fun xs H1 => newq xs.length (.lst xs) H1 Q) : tLst tA σ H Q := q
/-- a new object: the heap behind it by what is known of it -/
theorem r_new {o : HO} {n : Nat} (hn : n ≤ sizeLine) (k : ∀ p H', H p = none → Same H H' → H' p = some o → Q (.ref p) H') : newq n o H Q :=
  ⟨hn, fun p np => k p _ np (same_new np) upd_same⟩
theorem r_new0 {o : HO} (k : ∀ p H', H p = none → Same H H' → H' p = some o → Q (.ref p) H') : ∀ p, H p = none → Q (.ref p) (upd H p o) :=
  fun p np => k p _ np (same_new np) upd_same
theorem r_cb {f : List V → Hp → VK → Prop} (q : tA σ H fun vs H1 => f vs H1 Q) : tCB f tA σ H Q := q
theorem r_call {sp : Sp} {E : XK} (q : tA σ H fun vs H1 => sp vs H1 Q E) : tCall sp [] E tA σ H Q := by
  show tA σ H fun vs H1 => sp (vs ++ []) H1 Q E
  have e : (fun vs H1 => sp (vs ++ []) H1 Q E) = fun (vs : List V) H1 => sp vs H1 Q E := by
    funext vs H1
    rw [List.append_nil]
  rw [e]
  exact q
theorem r_bm {T : String} {f : V → List V → Hp → VK → Prop} (q : ta σ H fun x H1 => tyV K T x H1 ∧ tA σ H1 fun xs H2 => f x xs H2 Q) : tBM K T f ta tA σ H Q := q
theorem r_bm0 {T : String} {f : V → List V → Hp → VK → Prop} (q : ta σ H fun x H1 => tyV K T x H1 ∧ f x [] H1 Q) : tBM0 K T f ta σ H Q := q
theorem r_tys {z : Str} {P : Prop} (q : P) : tyV K "str" (.str z) H ∧ P := ⟨rfl, q⟩
theorem r_tyl {p : Addr} {xs : List V} {P : Prop} (h : H p = some (.lst xs)) (q : P) : tyV K "list" (.ref p) H ∧ P := ⟨.inl ⟨rfl, xs, SqL.of h⟩, q⟩
theorem r_sl {f : V → Option Int → Option Int → Hp → VK → Prop} {tl th : TO} (q : te σ H fun x H1 => tl σ H1 fun l H2 => th σ H2 fun h H3 => f x l h H3 Q) : tSl f te tl th σ H Q := q
theorem r_part {QO : Option Int → Hp → Prop} (q : te σ H fun x H1 => iq x fun n => QO (some n) H1) : tPart te σ H QO := q
theorem r_nopart {QO : Option Int → Hp → Prop} (q : QO none H) : tNoPart σ H QO := q
/-! values -/
theorem r_addI {n m : Int} (q : Q (.int (n + m)) H) : uAdd K (.int n) (.int m) H Q := q
theorem r_addS {a b : Str} (h : a.length + b.length ≤ sizeLine) (q : Q (.str (a ++ b)) H) : uAdd K (.str a) (.str b) H Q := ⟨h, q⟩
theorem r_addT {a b : Addr} {xs ys : List V} (ha : H a = some (.tup xs)) (hb : H b = some (.tup ys)) (hl : xs.length + ys.length ≤ sizeLine) (k : ∀ p H', Same H H' → H' p = some (.tup (xs ++ ys)) → Q (.ref p) H') : uAdd K (.ref a) (.ref b) H Q := by
  refine .inr ⟨a, b, xs, ys, rfl, rfl, SqT.of ha, SqT.of hb, hl, fun e => ?_, fun _ e => ?_, fun _ _ p np => k p _ (same_new np) upd_same⟩
  · exact k b H (Same.refl H) (by rw [e, List.nil_append]; exact hb)
  · exact k a H (Same.refl H) (by rw [e, List.append_nil]; exact ha)
theorem r_addL {a b : Addr} {xs ys : List V} (ha : H a = some (.lst xs)) (hb : H b = some (.lst ys)) (hl : xs.length + ys.length ≤ sizeLine) (k : ∀ p H', H p = none → Same H H' → H' p = some (.lst (xs ++ ys)) → Q (.ref p) H') : uAdd K (.ref a) (.ref b) H Q :=
  .inl ⟨a, b, xs, ys, rfl, rfl, ha, hb, hl, fun p np => k p _ np (same_new np) upd_same⟩
theorem r_I {C : Int → Int → Prop} {g : Int → Int → V} {n m : Int} (h : C n m) (q : Q (g n m) H) : uI C g (.int n) (.int m) H Q := ⟨h, q⟩
theorem r_I0 {g : Int → Int → V} {n m : Int} (q : Q (g n m) H) : uI0 g (.int n) (.int m) H Q := q
theorem r_mulI {n m : Int} (h : CMul n m) (q : Q (.int (n * m)) H) : uMul (.int n) (.int m) H Q := ⟨h, q⟩
theorem r_mulL {a : Addr} {n : Int} {xs : List V} (ha : H a = some (.lst xs)) (h0 : -(2 ^ 63) ≤ n) (h1 : n < 2 ^ 63) (hl : xs.length * n.toNat ≤ sizeLine) (k : ∀ p H', H p = none → Same H H' → H' p = some (.lst (List.replicate n.toNat xs).flatten) → Q (.ref p) H') : uMul (.ref a) (.int n) H Q :=
  ⟨a, n, xs, rfl, rfl, ha, h0, h1, hl, fun p np => k p _ np (same_new np) upd_same⟩
theorem r_eqI {n m : Int} (q : Q (.bl (decide (n = m))) H) : uEq K (.int n) (.int m) H Q := q
theorem r_eqS {n m : Str} (q : Q (.bl (decide (n = m))) H) : uEq K (.str n) (.str m) H Q := q
theorem r_neI {n m : Int} (q : Q (.bl (!decide (n = m))) H) : uNe K (.int n) (.int m) H Q := q
theorem r_neS {n m : Str} (q : Q (.bl (!decide (n = m))) H) : uNe K (.str n) (.str m) H Q := q
theorem r_eqB {n m : Bool} (q : Q (.bl (decide (V.bl n = V.bl m))) H) : uEq K (.bl n) (.bl m) H Q := .inl ⟨rfl, q⟩
theorem r_eqD {a : Addr} {y : V} {d f : PyData} (hx : Dq H (.ref a) d) (hy : Dq H y f) (sd : SeqAt.shaped d = true) (sf : SeqAt.shaped f = true) (q : Q (.bl (PyData.eqv d f)) H) : uEq K (.ref a) y H Q := by
  have z : rEqD K (.ref a) y H Q := ⟨d, f, hx.dp, hy.dp, sd, sf, q⟩
  cases y <;> exact .inr z
theorem r_eqD2 {a : Addr} {x : V} {d f : PyData} (hx : Dq H x d) (hy : Dq H (.ref a) f) (sd : SeqAt.shaped d = true) (sf : SeqAt.shaped f = true) (q : Q (.bl (PyData.eqv d f)) H) : uEq K x (.ref a) H Q := by
  have z : rEqD K x (.ref a) H Q := ⟨d, f, hx.dp, hy.dp, sd, sf, q⟩
  cases x <;> exact .inr z
theorem r_neD {a : Addr} {y : V} {d f : PyData} (hx : Dq H (.ref a) d) (hy : Dq H y f) (sd : SeqAt.shaped d = true) (sf : SeqAt.shaped f = true) (q : Q (.bl (!PyData.eqv d f)) H) : uNe K (.ref a) y H Q := by
  have z : rNeD K (.ref a) y H Q := ⟨d, f, hx.dp, hy.dp, sd, sf, q⟩
  cases y <;> exact .inr z
theorem r_neD2 {a : Addr} {x : V} {d f : PyData} (hx : Dq H x d) (hy : Dq H (.ref a) f) (sd : SeqAt.shaped d = true) (sf : SeqAt.shaped f = true) (q : Q (.bl (!PyData.eqv d f)) H) : uNe K x (.ref a) H Q := by
  have z : rNeD K x (.ref a) H Q := ⟨d, f, hx.dp, hy.dp, sd, sf, q⟩
  cases x <;> exact .inr z
theorem r_isN (q : Q (.bl (decide (x = .non))) H) : uIs x .non H Q := q
theorem r_isB {a b : Bool} (q : Q (.bl (decide (a = b))) H) : uIs (.bl a) (.bl b) H Q := q
theorem r_isnotN (q : Q (.bl (!decide (x = .non))) H) : uIsNot x .non H Q := q
theorem r_isnotB {a b : Bool} (q : Q (.bl (!decide (a = b))) H) : uIsNot (.bl a) (.bl b) H Q := q
theorem r_inS {a b : Str} (q : Q (.bl (occ a b)) H) : uIn K (.str a) (.str b) H Q := q
theorem r_notinS {a b : Str} (q : Q (.bl (!occ a b)) H) : uNotIn K (.str a) (.str b) H Q := q
theorem r_inT {p : Addr} {xs : List V} (h : H p = some (.tup xs)) (hx : flatV x = true) (ha : xs.all flatV = true) (q : Q (.bl (inV x xs)) H) : uIn K x (.ref p) H Q := .inl ⟨p, xs, rfl, .inr (SqT.of h), hx, ha, q⟩
theorem r_inL {p : Addr} {xs : List V} (h : H p = some (.lst xs)) (hx : flatV x = true) (ha : xs.all flatV = true) (q : Q (.bl (inV x xs)) H) : uIn K x (.ref p) H Q := .inl ⟨p, xs, rfl, .inl (SqL.of h), hx, ha, q⟩
theorem r_notinT {p : Addr} {xs : List V} (h : H p = some (.tup xs)) (hx : flatV x = true) (ha : xs.all flatV = true) (q : Q (.bl (!inV x xs)) H) : uNotIn K x (.ref p) H Q := .inl ⟨p, xs, rfl, .inr (SqT.of h), hx, ha, q⟩
theorem r_lenS {z : Str} (h : z.length ≤ sizeLine) (q : Q (.int z.length) H) : uLen K [.str z] H Q := ⟨h, q⟩
theorem r_lenT {p : Addr} {xs : List V} (h : H p = some (.tup xs)) (q : Q (.int xs.length) H) : uLen K [.ref p] H Q := ⟨xs.length, .inr ⟨xs, SqT.of h, rfl⟩, q⟩
theorem r_lenL {p : Addr} {xs : List V} (h : SqL K H p xs) (q : Q (.int xs.length) H) : uLen K [.ref p] H Q := ⟨xs.length, .inl ⟨xs, h, rfl⟩, q⟩
theorem r_intI {n : Int} (q : Q (.int n) H) : uInt [.int n] H Q := q
theorem r_intB {b : Bool} (q : Q (.int (if b then 1 else 0)) H) : uInt [.bl b] H Q := q
theorem r_tupleL {p : Addr} {xs : List V} (h : H p = some (.lst xs)) (k : ∀ p H', H p = none → Same H H' → H' p = some (.tup xs) → Q (.ref p) H') : uTuple K [.ref p] H Q := ⟨xs, .inl ⟨SqL.of h, r_new0 k⟩⟩
theorem r_tupleT {p : Addr} {xs : List V} (h : H p = some (.tup xs)) (q : Q (.ref p) H) : uTuple K [.ref p] H Q := ⟨xs, .inr ⟨SqT.of h, q⟩⟩
theorem r_listT {p : Addr} {xs : List V} (h : H p = some (.tup xs)) (k : ∀ p H', H p = none → Same H H' → H' p = some (.lst xs) → Q (.ref p) H') : uList K [.ref p] H Q := ⟨xs, .inr (SqT.of h), r_new0 k⟩
theorem r_listL {p : Addr} {xs : List V} (h : H p = some (.lst xs)) (k : ∀ p H', H p = none → Same H H' → H' p = some (.lst xs) → Q (.ref p) H') : uList K [.ref p] H Q := ⟨xs, .inl (SqL.of h), r_new0 k⟩
theorem r_isi {n m : String} {b : Bool} (h : tyN H x = some n) (hk : kitB n m = some b) (q : Q (.bl b) H) : uIsi K [x, .ty m] H Q := ⟨n, b, h, hk, q⟩
theorem tyN_t {p : Addr} {xs : List V} (h : H p = some (.tup xs)) : tyN H (.ref p) = some "tuple" := by
  show tyO (H p) = some "tuple"
  rw [h] <;> rfl
theorem tyN_l {p : Addr} {xs : List V} (h : H p = some (.lst xs)) : tyN H (.ref p) = some "list" := by
  show tyO (H p) = some "list"
  rw [h] <;> rfl
theorem r_ixT {p : Addr} {xs : List V} {n : Int} (h : H p = some (.tup xs)) (ha : atI xs n = some v) (q : Q v H) : uIx K (.ref p) (.int n) H Q := ⟨xs, v, .inr (SqT.of h), ha, q⟩
theorem r_ixL {p : Addr} {xs : List V} {n : Int} (h : SqL K H p xs) (ha : atI xs n = some v) (q : Q v H) : uIx K (.ref p) (.int n) H Q := ⟨xs, v, .inl h, ha, q⟩
theorem r_slS {z : Str} {lo hi : Option Int} (h : z.length ≤ sizeLine) (q : Q (.str (cutS z lo hi)) H) : uSl K (.str z) lo hi H Q := ⟨h, q⟩
theorem r_slL {p : Addr} {xs : List V} {lo hi : Option Int} (h : H p = some (.lst xs)) (k : ∀ p H', H p = none → Same H H' → H' p = some (.lst (cutV xs lo hi)) → Q (.ref p) H') : uSl K (.ref p) lo hi H Q := .inl ⟨p, xs, rfl, SqL.of h, r_new0 k⟩
theorem r_S1 {f : Str → Str → V} {a b : Str} (q : Q (f a b) H) : uS1 f (.str a) [.str b] H Q := q
theorem r_S1l {f : Str → Str → V} {a b : Str} (h : a.length ≤ sizeLine) (q : Q (f a b) H) : uS1l f (.str a) [.str b] H Q := ⟨h, q⟩
theorem r_S0 {f : Str → V} {a : Str} (h : a.length ≤ 5592405) (q : Q (f a) H) : uS0 f (.str a) [] H Q := ⟨h, q⟩
theorem r_split {a b : Str} (hb : (b.length == 0) = false) (ha : a.length + 2 ≤ sizeLine) (k : ∀ p H', H p = none → Same H H' → H' p = some (.lst ((Txt.split a b).map V.str)) → Q (.ref p) H') : uSplit (.str a) [.str b] H Q := ⟨hb, ha, r_new0 k⟩
theorem r_join {a : Str} {p : Addr} {ys : List Str} (h : H p = some (.lst (ys.map V.str))) (hl : (ys.map (·.length)).sum + ys.length * a.length ≤ 16777216) (q : Q (.str (Txt.join a ys)) H) : uJoin K (.str a) [.ref p] H Q := ⟨ys, .inl (SqL.of h), hl, q⟩
theorem r_joinT {a : Str} {p : Addr} {ys : List Str} (h : H p = some (.tup (ys.map V.str))) (hl : (ys.map (·.length)).sum + ys.length * a.length ≤ 16777216) (q : Q (.str (Txt.join a ys)) H) : uJoin K (.str a) [.ref p] H Q := ⟨ys, .inr (SqT.of h), hl, q⟩
/-! ### statements -/
theorem r_seq (q : tS (Ends.mk (uS D) D.rt D.bk D.ct) σ H) : tSeq tS uS D σ H := q
theorem r_set (q : te σ H fun x H1 => D.nx (σ.set i (some x)) H1) : tAsg te (gName i) D σ H := q
theorem r_asg {g : TG} (q : te σ H fun x H1 => g x σ H1 D.nx) : tAsg te g D σ H := q
theorem r_gname {QG : L2.St → Hp → Prop} (q : QG (σ.set i (some v)) H) : gName i v σ H QG := q
theorem r_gsub {ts : TSet} {QG : L2.St → Hp → Prop} (q : ta σ H fun o H1 => tb σ H1 fun j H2 => ts o j v H2 fun H3 => QG σ H3) : gSub ta tb ts v σ H QG := q
theorem r_gtup {ts : TGs} {n : Nat} {QG : L2.St → Hp → Prop} {p : Addr} {xs : List V} (h : H p = some (.tup xs)) (hl : xs.length = n) (q : ts xs σ H QG) : gTup K n ts (.ref p) σ H QG := ⟨p, xs, rfl, SqT.of h, hl, q⟩
theorem r_gcons {g : TG} {ts : TGs} {xs : List V} {QG : L2.St → Hp → Prop} (q : g x σ H fun σ' H' => ts xs σ' H' QG) : gCons g ts (x :: xs) σ H QG := ⟨x, xs, rfl, q⟩
theorem r_gnil {QG : L2.St → Hp → Prop} (q : QG σ H) : gNil [] σ H QG := ⟨rfl, q⟩
/-- xs[j] = v, the place known -/
theorem r_setL {a : Addr} {n : Int} {xs : List V} {j : Nat} {Qh : Hp → Prop} (h : H a = some (.lst xs)) (hj : ixN xs.length n = some j) (k : ∀ H', H' a = some (.lst (xs.set j v)) → (∀ b, b ≠ a → H' b = H b) → Qh H') : rSetL (.ref a) (.int n) v H Qh :=
  ⟨a, xs, n, j, rfl, rfl, h, hj, k _ upd_same fun b hb => upd_ne hb⟩
theorem r_par {a b : Nat} (q : tA σ H fun vs H1 => parq a b vs σ D H1) : tPar a b tA D σ H := q
theorem r_par2 {a b : Nat} {v w : V} (q : D.nx ((σ.set a (some v)).set b (some w)) H) : parq a b [v, w] σ D H := ⟨v, w, rfl, q⟩
theorem r_drop (q : te σ H fun _ H1 => D.nx σ H1) : tDrop te D σ H := q
theorem r_ret (q : te σ H D.rt) : tRet te D σ H := q
theorem r_retN (q : D.rt .non H) : tRetN D σ H := q
theorem r_if (q : t σ H fun b H1 => if b = true then tS D σ H1 else uS D σ H1) : tIfS t tS uS D σ H := q
theorem r_next (q : D.nx σ H) : tNext D σ H := q
theorem r_break (q : D.bk σ H) : tBreak D σ H := q
theorem r_cont (q : D.ct σ H) : tCont D σ H := q
theorem r_augI {f : Int → Int → Int} {n : Int} (h : σ[i]? = some (some (.int n))) (q : te σ H fun y H1 => iq y fun m => D.nx (σ.set i (some (.int (f n m)))) H1) : tAug i te (ipI f) D σ H := by
  refine ⟨_, h, ?_⟩
  have e : (fun y H1 => iq y fun m => D.nx (σ.set i (some (.int (f n m)))) H1) = fun y H1 => (ipI f) (.int n) y H1 fun z H2 => D.nx (σ.set i (some z)) H2 := by
    funext y H1
    refine propext ⟨fun ⟨m, e, q⟩ => ⟨n, m, rfl, e, q⟩, fun ⟨a, b, e1, e2, q⟩ => ⟨b, e2, ?_⟩⟩
    cases e1
    exact q
  rw [← e]
  exact q
theorem r_ex1 {P : Int → Prop} {n : Int} (q : P n) : iq (.int n) P := ⟨n, rfl, q⟩
/-- xs.append(v) -/
theorem r_app {l : Addr} {xs : List V} (h : H l = some (.lst xs)) (hl : xs.length < sizeLine) (k : ∀ H', H' l = some (.lst (xs ++ [v])) → (∀ b, b ≠ l → H' b = H b) → Q .non H') : rAppend (.ref l) [v] H Q :=
  ⟨l, xs, v, rfl, rfl, h, hl, k _ upd_same fun b hb => upd_ne hb⟩
/-! ### ways -/
theorem r_ite {p A B : Prop} [Decidable p] (h1 : p → A) (h2 : ¬ p → B) : if decide p = true then A else B := by
  by_cases h : p
  · rw [if_pos (decide_eq_true h)]
    exact h1 h
  · rw [if_neg (by rw [decide_eq_false h]; exact Bool.false_ne_true)]
    exact h2 h
theorem r_iten {p A B : Prop} [Decidable p] (h1 : ¬ p → A) (h2 : p → B) : if (!decide p) = true then A else B := by
  by_cases h : p
  · rw [if_neg (by rw [decide_eq_true h]; exact Bool.false_ne_true)]
    exact h2 h
  · rw [if_pos (by rw [decide_eq_false h] <;> rfl)]
    exact h1 h
theorem r_itb {b : Bool} {A B : Prop} (h1 : b = true → A) (h2 : b = false → B) : if b = true then A else B := by
  cases b with
  | true => exact h1 rfl
  | false => exact h2 rfl
theorem r_iteT {A B : Prop} (h : A) : if true = true then A else B := h
theorem r_iteF {A B : Prop} (h : B) : if false = true then A else B := by
  rw [if_neg Bool.false_ne_true]
  exact h
theorem r_itnT {A B : Prop} (h : B) : if (!true) = true then A else B := by
  rw [if_neg (by decide)]
  exact h
theorem r_itnF {A B : Prop} (h : A) : if (!false) = true then A else B := h
end
end Dk

namespace Dk
open PySem PySem.Spec PyProof.Rows L2
theorem Drw.mono {H H' : Hp} {a : Addr} (s : Same H H') (h : Drw H a) : Drw H' a := let ⟨x, y, e⟩ := h; ⟨x, y, s _ _ e⟩
theorem same_at {H H' : Hp} {a : Addr} {o : HO} (s : Same H H') (h : H a = some o) : H' a = some o := s a o h
theorem Stp.at_ {a b : Addr} {H H' : Hp} {o : HO} (s : Stp a H H') (h : H b = some o) (n : b ≠ a) : H' b = some o := s.fr b o h n
theorem bt_ValueError : bootBuiltins "ValueError" = some (.type "ValueError") := by decide +kernel
/-- what the top leaves of built-in names: none is hidden -/
structure Bl (mg : Str → Option Value) : Prop where
  b_len : mg "len" = none
  b_int : mg "int" = none
  b_str : mg "str" = none
  b_bool : mg "bool" = none
  b_tuple : mg "tuple" = none
  b_list : mg "list" = none
  b_isinstance : mg "isinstance" = none
  b_range : mg "range" = none
  b_ord : mg "ord" = none
  b_sorted : mg "sorted" = none
  b_min : mg "min" = none
  b_max : mg "max" = none
  b_sum : mg "sum" = none
  b_all : mg "all" = none
  b_any : mg "any" = none
  b_enumerate : mg "enumerate" = none
  b_set : mg "set" = none
  b_zip : mg "zip" = none
  b_dict : mg "dict" = none
  b_reversed : mg "reversed" = none
  b_ValueError : mg "ValueError" = none
theorem r_cut {tS uS : TS} {D : Ends} {σ : L2.St} {H : Hp} (M : L2.St → Hp → Prop) (h1 : tS (Ends.mk M D.rt D.bk D.ct) σ H) (h2 : ∀ σ' H', M σ' H' → uS D σ' H') : Evl.tCut tS uS D σ H := ⟨M, h1, h2⟩
theorem atI_nn {α : Type} {xs : List α} {j : Nat} {x : α} (h : xs[j]? = some x) : atI xs (j : Int) = some x := by
  have hl := (List.getElem?_eq_some_iff.mp h).1
  unfold atI ixN
  rw [if_pos (by omega), if_pos (by omega)]
  simpa using h
theorem atI_mod {ns : List Int} (h : 0 < ns.length) (n : Int) : ∃ v, atI (ns.map V.int) (n % (ns.length : Int)) = some (.int v) := by
  have h1 : 0 ≤ n % (ns.length : Int) := Int.emod_nonneg _ (by omega)
  have h2 : n % (ns.length : Int) < ns.length := Int.emod_lt_of_pos _ (by omega)
  obtain ⟨j, hj⟩ : ∃ j : Nat, n % (ns.length : Int) = j := ⟨(n % (ns.length : Int)).toNat, by omega⟩
  rw [hj]
  have hl : j < ns.length := by omega
  exact ⟨ns[j], atI_nn (by rw [List.getElem?_map, List.getElem?_eq_getElem hl] <;> rfl)⟩
/-- a list is changed that is the law's own state -/
theorem Stp.but {a : Addr} {H H1 H2 : Hp} (s : Stp a H H1) {x y : Int} (h : H2 a = some (.lst [.int x, .int y])) (k : ∀ b, b ≠ a → H2 b = H1 b) : Stp a H H2 := by
  obtain ⟨u, v, e⟩ := s.drw
  have na : ∀ b o, H1 b = some o → (∀ xs, o ≠ .lst xs) → b ≠ a := fun b o q n z => by
    rw [z, e] at q
    exact n _ (Option.some.inj q).symm
  exact ⟨fun b o q n => by rw [k b n]; exact s.fr b o q n,
    ⟨fun b xs q => by rw [k b (na _ _ (s.gro.tup b xs q) fun _ z => by cases z)]; exact s.gro.tup b xs q, fun b o u q => by rw [k b (na _ _ (s.gro.frz b o u q) fun _ z => by cases z)]; exact s.gro.frz b o u q⟩, ⟨x, y, h⟩⟩
theorem from_ {H H' : Hp} {a : Addr} {o : HO} (h : H a = some o) (s : H a = some o → H' a = some o) : H' a = some o := s h
/-- a promise that no error is asked of: nothing leaves the def -/
theorem fnok_0 {P : Program} {w : World} {K : PySem.W.Frag} {mg : Str → Option Value} {base : Heap} {k : Nat} {f : Addr} {fd : FuncData} {ps : List Str} {sp : Sp} (F : FnOk P w K mg base (L2.CX P w) k f fd ps sp) (hE : ∀ vs H Q E, sp vs H Q E → sp vs H Q E0) :
    FnOk P w K mg base CX0 k f fd ps sp :=
  ⟨F.len, fun A outer s H args us vs Q E hr e0 hb r h => codeAny_mono (F.run A outer s H args us vs Q E0 hr e0 hb r (hE _ _ _ _ h)) fun r s' hq => by
    cases r with
    | error e =>
      obtain ⟨_, _, _, _, _, _, _, _, _, _, _, _, z⟩ := hq
      exact z.elim
    | ok fl => cases fl <;> exact hq⟩
/-! short texts -/
abbrev trS : Str := Str.ofString "Received: by "
abbrev atS : Str := Str.ofString "@"
abbrev eS : Str := Str.ofString ""
abbrev dotS : Str := Str.ofString "."
theorem trS_len : (Str.ofString "Received: by ").length = 13 := by decide +kernel
theorem atS_len : (Str.ofString "@").length = 1 := by decide +kernel
theorem eS_len : (Str.ofString "").length = 0 := by decide +kernel
theorem dotS_len : (Str.ofString ".").length = 1 := by decide +kernel
/-! isinstance of built-in values -/
theorem kit_NoneType_int : kitB "NoneType" "int" = some false := by decide +kernel
theorem kit_NoneType_bool : kitB "NoneType" "bool" = some false := by decide +kernel
theorem kit_NoneType_tuple : kitB "NoneType" "tuple" = some false := by decide +kernel
theorem kit_NoneType_str : kitB "NoneType" "str" = some false := by decide +kernel
theorem kit_NoneType_list : kitB "NoneType" "list" = some false := by decide +kernel
theorem kit_bool_int : kitB "bool" "int" = some true := by decide +kernel
theorem kit_bool_bool : kitB "bool" "bool" = some true := by decide +kernel
theorem kit_bool_tuple : kitB "bool" "tuple" = some false := by decide +kernel
theorem kit_bool_str : kitB "bool" "str" = some false := by decide +kernel
theorem kit_bool_list : kitB "bool" "list" = some false := by decide +kernel
theorem kit_int_int : kitB "int" "int" = some true := by decide +kernel
theorem kit_int_bool : kitB "int" "bool" = some false := by decide +kernel
theorem kit_int_tuple : kitB "int" "tuple" = some false := by decide +kernel
theorem kit_int_str : kitB "int" "str" = some false := by decide +kernel
theorem kit_int_list : kitB "int" "list" = some false := by decide +kernel
theorem kit_str_int : kitB "str" "int" = some false := by decide +kernel
theorem kit_str_bool : kitB "str" "bool" = some false := by decide +kernel
theorem kit_str_tuple : kitB "str" "tuple" = some false := by decide +kernel
theorem kit_str_str : kitB "str" "str" = some true := by decide +kernel
theorem kit_str_list : kitB "str" "list" = some false := by decide +kernel
theorem kit_list_int : kitB "list" "int" = some false := by decide +kernel
theorem kit_list_bool : kitB "list" "bool" = some false := by decide +kernel
theorem kit_list_tuple : kitB "list" "tuple" = some false := by decide +kernel
theorem kit_list_str : kitB "list" "str" = some false := by decide +kernel
theorem kit_list_list : kitB "list" "list" = some true := by decide +kernel
theorem kit_tuple_int : kitB "tuple" "int" = some false := by decide +kernel
theorem kit_tuple_bool : kitB "tuple" "bool" = some false := by decide +kernel
theorem kit_tuple_tuple : kitB "tuple" "tuple" = some true := by decide +kernel
theorem kit_tuple_str : kitB "tuple" "str" = some false := by decide +kernel
theorem kit_tuple_list : kitB "tuple" "list" = some false := by decide +kernel
/-! promises by the number of the arguments -/
def sp1 (f : V → Hp → VK → XK → Prop) : Sp := fun vs H Q E => match vs with
  | [v0] => f v0 H Q E
  | _ => False
theorem sp1_ex {f : V → Hp → VK → XK → Prop} {vs : List V} {H : Hp} {Q : VK} {E : XK} (h : sp1 f vs H Q E) : ∃ v0, vs = [v0] ∧ f v0 H Q E := by
  match vs, h with
  | [v0], h => exact ⟨_, rfl, h⟩
theorem sp1_len {f : V → Hp → VK → XK → Prop} {vs : List V} {H : Hp} {Q : VK} {E : XK} (h : sp1 f vs H Q E) : vs.length = 1 := by
  match vs, h with
  | [v0], h => rfl
def sp2 (f : V → V → Hp → VK → XK → Prop) : Sp := fun vs H Q E => match vs with
  | [v0, v1] => f v0 v1 H Q E
  | _ => False
theorem sp2_ex {f : V → V → Hp → VK → XK → Prop} {vs : List V} {H : Hp} {Q : VK} {E : XK} (h : sp2 f vs H Q E) : ∃ v0 v1, vs = [v0, v1] ∧ f v0 v1 H Q E := by
  match vs, h with
  | [v0, v1], h => exact ⟨_, _, rfl, h⟩
theorem sp2_len {f : V → V → Hp → VK → XK → Prop} {vs : List V} {H : Hp} {Q : VK} {E : XK} (h : sp2 f vs H Q E) : vs.length = 2 := by
  match vs, h with
  | [v0, v1], h => rfl
def sp3 (f : V → V → V → Hp → VK → XK → Prop) : Sp := fun vs H Q E => match vs with
  | [v0, v1, v2] => f v0 v1 v2 H Q E
  | _ => False
theorem sp3_ex {f : V → V → V → Hp → VK → XK → Prop} {vs : List V} {H : Hp} {Q : VK} {E : XK} (h : sp3 f vs H Q E) : ∃ v0 v1 v2, vs = [v0, v1, v2] ∧ f v0 v1 v2 H Q E := by
  match vs, h with
  | [v0, v1, v2], h => exact ⟨_, _, _, rfl, h⟩
theorem sp3_len {f : V → V → V → Hp → VK → XK → Prop} {vs : List V} {H : Hp} {Q : VK} {E : XK} (h : sp3 f vs H Q E) : vs.length = 3 := by
  match vs, h with
  | [v0, v1, v2], h => rfl
def sp4 (f : V → V → V → V → Hp → VK → XK → Prop) : Sp := fun vs H Q E => match vs with
  | [v0, v1, v2, v3] => f v0 v1 v2 v3 H Q E
  | _ => False
theorem sp4_ex {f : V → V → V → V → Hp → VK → XK → Prop} {vs : List V} {H : Hp} {Q : VK} {E : XK} (h : sp4 f vs H Q E) : ∃ v0 v1 v2 v3, vs = [v0, v1, v2, v3] ∧ f v0 v1 v2 v3 H Q E := by
  match vs, h with
  | [v0, v1, v2, v3], h => exact ⟨_, _, _, _, rfl, h⟩
theorem sp4_len {f : V → V → V → V → Hp → VK → XK → Prop} {vs : List V} {H : Hp} {Q : VK} {E : XK} (h : sp4 f vs H Q E) : vs.length = 4 := by
  match vs, h with
  | [v0, v1, v2, v3], h => rfl
def sp5 (f : V → V → V → V → V → Hp → VK → XK → Prop) : Sp := fun vs H Q E => match vs with
  | [v0, v1, v2, v3, v4] => f v0 v1 v2 v3 v4 H Q E
  | _ => False
theorem sp5_ex {f : V → V → V → V → V → Hp → VK → XK → Prop} {vs : List V} {H : Hp} {Q : VK} {E : XK} (h : sp5 f vs H Q E) : ∃ v0 v1 v2 v3 v4, vs = [v0, v1, v2, v3, v4] ∧ f v0 v1 v2 v3 v4 H Q E := by
  match vs, h with
  | [v0, v1, v2, v3, v4], h => exact ⟨_, _, _, _, _, rfl, h⟩
theorem sp5_len {f : V → V → V → V → V → Hp → VK → XK → Prop} {vs : List V} {H : Hp} {Q : VK} {E : XK} (h : sp5 f vs H Q E) : vs.length = 5 := by
  match vs, h with
  | [v0, v1, v2, v3, v4], h => rfl
def sp6 (f : V → V → V → V → V → V → Hp → VK → XK → Prop) : Sp := fun vs H Q E => match vs with
  | [v0, v1, v2, v3, v4, v5] => f v0 v1 v2 v3 v4 v5 H Q E
  | _ => False
theorem sp6_ex {f : V → V → V → V → V → V → Hp → VK → XK → Prop} {vs : List V} {H : Hp} {Q : VK} {E : XK} (h : sp6 f vs H Q E) : ∃ v0 v1 v2 v3 v4 v5, vs = [v0, v1, v2, v3, v4, v5] ∧ f v0 v1 v2 v3 v4 v5 H Q E := by
  match vs, h with
  | [v0, v1, v2, v3, v4, v5], h => exact ⟨_, _, _, _, _, _, rfl, h⟩
theorem sp6_len {f : V → V → V → V → V → V → Hp → VK → XK → Prop} {vs : List V} {H : Hp} {Q : VK} {E : XK} (h : sp6 f vs H Q E) : vs.length = 6 := by
  match vs, h with
  | [v0, v1, v2, v3, v4, v5], h => rfl
def sp7 (f : V → V → V → V → V → V → V → Hp → VK → XK → Prop) : Sp := fun vs H Q E => match vs with
  | [v0, v1, v2, v3, v4, v5, v6] => f v0 v1 v2 v3 v4 v5 v6 H Q E
  | _ => False
theorem sp7_ex {f : V → V → V → V → V → V → V → Hp → VK → XK → Prop} {vs : List V} {H : Hp} {Q : VK} {E : XK} (h : sp7 f vs H Q E) : ∃ v0 v1 v2 v3 v4 v5 v6, vs = [v0, v1, v2, v3, v4, v5, v6] ∧ f v0 v1 v2 v3 v4 v5 v6 H Q E := by
  match vs, h with
  | [v0, v1, v2, v3, v4, v5, v6], h => exact ⟨_, _, _, _, _, _, _, rfl, h⟩
theorem sp7_len {f : V → V → V → V → V → V → V → Hp → VK → XK → Prop} {vs : List V} {H : Hp} {Q : VK} {E : XK} (h : sp7 f vs H Q E) : vs.length = 7 := by
  match vs, h with
  | [v0, v1, v2, v3, v4, v5, v6], h => rfl
def sp8 (f : V → V → V → V → V → V → V → V → Hp → VK → XK → Prop) : Sp := fun vs H Q E => match vs with
  | [v0, v1, v2, v3, v4, v5, v6, v7] => f v0 v1 v2 v3 v4 v5 v6 v7 H Q E
  | _ => False
theorem sp8_ex {f : V → V → V → V → V → V → V → V → Hp → VK → XK → Prop} {vs : List V} {H : Hp} {Q : VK} {E : XK} (h : sp8 f vs H Q E) : ∃ v0 v1 v2 v3 v4 v5 v6 v7, vs = [v0, v1, v2, v3, v4, v5, v6, v7] ∧ f v0 v1 v2 v3 v4 v5 v6 v7 H Q E := by
  match vs, h with
  | [v0, v1, v2, v3, v4, v5, v6, v7], h => exact ⟨_, _, _, _, _, _, _, _, rfl, h⟩
theorem sp8_len {f : V → V → V → V → V → V → V → V → Hp → VK → XK → Prop} {vs : List V} {H : Hp} {Q : VK} {E : XK} (h : sp8 f vs H Q E) : vs.length = 8 := by
  match vs, h with
  | [v0, v1, v2, v3, v4, v5, v6, v7], h => rfl
def sp9 (f : V → V → V → V → V → V → V → V → V → Hp → VK → XK → Prop) : Sp := fun vs H Q E => match vs with
  | [v0, v1, v2, v3, v4, v5, v6, v7, v8] => f v0 v1 v2 v3 v4 v5 v6 v7 v8 H Q E
  | _ => False
theorem sp9_ex {f : V → V → V → V → V → V → V → V → V → Hp → VK → XK → Prop} {vs : List V} {H : Hp} {Q : VK} {E : XK} (h : sp9 f vs H Q E) : ∃ v0 v1 v2 v3 v4 v5 v6 v7 v8, vs = [v0, v1, v2, v3, v4, v5, v6, v7, v8] ∧ f v0 v1 v2 v3 v4 v5 v6 v7 v8 H Q E := by
  match vs, h with
  | [v0, v1, v2, v3, v4, v5, v6, v7, v8], h => exact ⟨_, _, _, _, _, _, _, _, _, rfl, h⟩
theorem sp9_len {f : V → V → V → V → V → V → V → V → V → Hp → VK → XK → Prop} {vs : List V} {H : Hp} {Q : VK} {E : XK} (h : sp9 f vs H Q E) : vs.length = 9 := by
  match vs, h with
  | [v0, v1, v2, v3, v4, v5, v6, v7, v8], h => rfl
def sp10 (f : V → V → V → V → V → V → V → V → V → V → Hp → VK → XK → Prop) : Sp := fun vs H Q E => match vs with
  | [v0, v1, v2, v3, v4, v5, v6, v7, v8, v9] => f v0 v1 v2 v3 v4 v5 v6 v7 v8 v9 H Q E
  | _ => False
theorem sp10_ex {f : V → V → V → V → V → V → V → V → V → V → Hp → VK → XK → Prop} {vs : List V} {H : Hp} {Q : VK} {E : XK} (h : sp10 f vs H Q E) : ∃ v0 v1 v2 v3 v4 v5 v6 v7 v8 v9, vs = [v0, v1, v2, v3, v4, v5, v6, v7, v8, v9] ∧ f v0 v1 v2 v3 v4 v5 v6 v7 v8 v9 H Q E := by
  match vs, h with
  | [v0, v1, v2, v3, v4, v5, v6, v7, v8, v9], h => exact ⟨_, _, _, _, _, _, _, _, _, _, rfl, h⟩
theorem sp10_len {f : V → V → V → V → V → V → V → V → V → V → Hp → VK → XK → Prop} {vs : List V} {H : Hp} {Q : VK} {E : XK} (h : sp10 f vs H Q E) : vs.length = 10 := by
  match vs, h with
  | [v0, v1, v2, v3, v4, v5, v6, v7, v8, v9], h => rfl
end Dk

/-! Comprehensions and loops whose turns draw; texts as lists of codes. -/
namespace Dk
open PySem PySem.Spec PyProof.Rows L2 TL
section
variable {K : PySem.W.Frag} {σ : L2.St} {H : Hp} {Q : VK} {te : TE} {tt : TT} {vs : List Nat} {j : Nat} {tA : TA} {a : Addr}
theorem r_tyes {QB : Bool → Hp → Prop} (q : QB true H) : tYes σ H QB := q
/-- [e for j in range(n)], n known -/
def rlq (xs : List V) (j : Nat) (tt : TT) (te : TE) (vs : List Nat) (σ : L2.St) (H : Hp) (Q : VK) : Prop := tLc (iRng1 fun _ H1 QA => QA xs H1) (gName j) tt te vs σ H Q
theorem r_lcr (q : tA σ H fun xs H1 => rlq xs j tt te vs σ H1 Q) : tLc (iRng1 tA) (gName j) tt te vs σ H Q := q
theorem Dqs.all_strs {H : Hp} {P : Str → Prop} : ∀ {ds : List PyData} {ys : List V}, Dqs H ys ds → (∀ (i : Nat) d, ds[i]? = some d → ∃ s, d = PyData.str s ∧ P s) → ∃ ss : List Str, ys = ss.map V.str ∧ ss.length = ds.length ∧ ∀ s ∈ ss, P s
  | [], _, h, _ => by
    cases h
    exact ⟨[], rfl, rfl, fun _ z => nomatch z⟩
  | d :: ds, _, h, hp => by
    cases h with
    | cons h1 h2 =>
      obtain ⟨s, e, p⟩ := hp 0 d rfl
      subst e
      cases h1
      obtain ⟨ss, e1, e2, e3⟩ := Dqs.all_strs h2 fun i d q => hp (i + 1) d (by simpa using q)
      refine ⟨s :: ss, by rw [e1] <;> rfl, by simp [e2], fun z hz => ?_⟩
      rcases List.mem_cons.mp hz with e | hz
      · rw [e]
        exact p
      · exact e3 z hz
/-- each turn draws and gives a datum -/
theorem lcr_draw {n : Int} (PP : Nat → PyData → Prop) (hd : Drw H a) (h1 : -(2 ^ 62) ≤ n) (h2 : n < 10000000) (hw : ∀ x, wipe ((wipe σ vs).set j (some x)) vs = wipe σ vs)
    (el : ∀ (i : Nat) (H1 : Hp) (Q1 : VK), (i : Int) < n → Stp a H H1 → (∀ y d H2, Stp a H1 H2 → Dq H2 y d → PP i d → Q1 y H2) → te ((wipe σ vs).set j (some (.int i))) H1 Q1)
    (k : ∀ D H' ys ds, H D = none → Stp a H H' → H' D = some (.lst ys) → Dqs H' ys ds → ds.length = n.toNat → (∀ (i : Nat) d, ds[i]? = some d → PP i d) → Q (.ref D) H') : rlq [.int n] j tYes te vs σ H Q := by
  refine ⟨n, rfl, h1, by omega, fun D hD => ?_⟩
  have aD : a ≠ D := by
    intro e
    obtain ⟨u, v, q⟩ := hd
    rw [e, hD] at q
    cases q
  refine lc_range (lo := 0) (n := n.toNat) (fun i H' => ∃ ys ds, Stp a H H' ∧ H' D = some (.lst ys) ∧ Dqs H' ys ds ∧ ds.length = i ∧ ∀ (i : Nat) d, ds[i]? = some d → PP i d) ?_ ?_ ?_
  · exact ⟨[], [], (Stp.refl hd).new hD hd, upd_same, .nil, rfl, fun i d e => by simp at e⟩
  · rintro i H' hi ⟨ys, ds, s1, hl, dq, el1, pp⟩
    have e0 : (0 : Int) + (i : Int) = (i : Int) := Int.zero_add _
    rw [e0]
    refine ⟨hw _, r_tyes (r_iteT ?_)⟩
    refine el i H' _ (by omega) s1 fun y d H2 s2 hy p => ?_
    have s12 := s1.trans s2
    refine ⟨ys, s2.at_ hl (Ne.symm aD), ?_, ?_⟩
    · have hlen := dq.length
      rw [sizeLine_eq]
      omega
    · have s3 : Stp a H (upd H2 D (.lst (ys ++ [y]))) := s12.new hD hd
      have g : Gro H2 (upd H2 D (.lst (ys ++ [y]))) := by
        have hD2 : H2 D = some (.lst ys) := s2.at_ hl (Ne.symm aD)
        refine ⟨fun b xs e => ?_, fun b o u e => ?_⟩
        · rw [upd_ne (ne_of e hD2 (by intro z; cases z))]
          exact e
        · rw [upd_ne (ne_of e hD2 (by intro z; cases z))]
          exact e
      refine ⟨ys ++ [y], ds ++ [d], s3, upd_same, ((dq.mono (s2.gro)).snoc hy).mono g, by simp [el1], fun i' d' e => ?_⟩
      rw [List.getElem?_append] at e
      split at e
      · exact pp i' d' e
      · rename_i hge
        have hi' : i' - ds.length = 0 := by
          cases hh : i' - ds.length with
          | zero => rfl
          | succ m =>
            rw [hh] at e
            simp at e
        rw [hi'] at e
        simp only [List.getElem?_cons_zero, Option.some.injEq] at e
        have hii : i' = i := by omega
        rw [hii, ← e]
        exact p
  · rintro H' ⟨ys, ds, s1, hl, dq, el1, pp⟩
    exact k D H' ys ds hD s1 hl dq el1 pp
end
section
variable {K : PySem.W.Frag} {σ : L2.St} {H : Hp} {Q : VK} {te tl' : TE} {tt : TT} {vs : List Nat} {j : Nat} {tA : TA} {tb : TS} {D : Ends} {g : TG} {x : V}
/-- for j in range(n) -/
def rfq (xs : List V) (g : TG) (tb : TS) (D : Ends) (σ : L2.St) (H : Hp) : Prop := tFor (iRng1 fun _ H1 QA => QA xs H1) g tb D σ H
theorem r_forr (q : tA σ H fun xs H1 => rfq xs g tb D σ H1) : tFor (iRng1 tA) g tb D σ H := q
theorem for_rng {n : Int} (Pv : Nat → L2.St → Hp → Prop) (h1 : -(2 ^ 62) ≤ n) (h2 : n < 2 ^ 62) (h0 : Pv 0 σ H)
    (hs : ∀ (i : Nat) σ' H', (i : Int) < n → Pv i σ' H' → tb (Ends.mk (Pv (i + 1)) D.rt D.nx (Pv (i + 1))) (σ'.set j (some (.int i))) H') (hd : ∀ σ' H', Pv n.toNat σ' H' → D.nx σ' H') : rfq [.int n] (gName j) tb D σ H := by
  refine ⟨n, rfl, h1, h2, for_range (lo := 0) (n := n.toNat) Pv h0 (fun i σ' H' hi hp => ?_) hd⟩
  have e0 : (0 : Int) + (i : Int) = (i : Int) := Int.zero_add _
  rw [e0]
  exact hs i σ' H' (by omega) hp
/-- for .. in a list, a tuple, a text -/
def fuq (K : PySem.W.Frag) (x : V) (g : TG) (tb : TS) (D : Ends) (σ : L2.St) (H : Hp) : Prop := tFor (iU K (tC x)) g tb D σ H
theorem r_foru (q : te σ H fun x H1 => fuq K x g tb D σ H1) : tFor (iU K te) g tb D σ H := q
theorem for_T {p : Addr} {xs : List V} (Pv : Nat → L2.St → Hp → Prop) (h : H p = some (.tup xs)) (h0 : Pv 0 σ H) (hl : ∀ i σ' H', i ≤ xs.length → Pv i σ' H' → H' p = some (.tup xs))
    (hs : ∀ (i : Nat) x σ' H', xs[i]? = some x → Pv i σ' H' → g x σ' H' fun σ2 H2 => tb (Ends.mk (Pv (i + 1)) D.rt D.nx (Pv (i + 1))) σ2 H2) (hd : ∀ σ' H', Pv xs.length σ' H' → D.nx σ' H') : fuq K (.ref p) g tb D σ H :=
  .inr ⟨⟨xs, SqT.of h⟩, for_tup (xs := xs) Pv h0 (fun i σ' H' hi q => SqT.of (hl i σ' H' hi q)) hs hd⟩
theorem for_L {p : Addr} {xs : List V} (Pv : Nat → L2.St → Hp → Prop) (h : SqL K H p xs) (h0 : Pv 0 σ H) (hl : ∀ i σ' H', i ≤ xs.length → Pv i σ' H' → SqL K H' p xs)
    (hs : ∀ (i : Nat) x σ' H', xs[i]? = some x → Pv i σ' H' → g x σ' H' fun σ2 H2 => tb (Ends.mk (Pv (i + 1)) D.rt D.nx (Pv (i + 1))) σ2 H2) (hd : ∀ σ' H', Pv xs.length σ' H' → D.nx σ' H') : fuq K (.ref p) g tb D σ H :=
  .inl ⟨⟨xs, h⟩, for_list (xs := xs) Pv h0 hl hs hd⟩
/-- [e for .. in a list, a tuple, a text] -/
def luq (K : PySem.W.Frag) (x : V) (g : TG) (tt : TT) (te : TE) (vs : List Nat) (σ : L2.St) (H : Hp) (Q : VK) : Prop := tLc (iU K (tC x)) g tt te vs σ H Q
theorem r_lcu (q : tl' σ H fun x H1 => luq K x g tt te vs σ H1 Q) : tLc (iU K tl') g tt te vs σ H Q := q
end
/-- a kind of step of the heap, from H on -/
structure Sr (H : Hp) (S : Hp → Hp → Prop) : Prop where
  refl : S H H
  trans : ∀ {H1 H2 : Hp}, S H H1 → S H1 H2 → S H H2
  gro : ∀ {H1 H2 : Hp}, S H1 H2 → Gro H1 H2
  chg : ∀ {H' : Hp} {D : Addr} {o : HO}, S H H' → H D = none → S H (upd H' D o)
  keep : ∀ {H1 H2 : Hp} {D : Addr} {o : HO}, H D = none → S H H1 → S H1 H2 → H1 D = some o → H2 D = some o
theorem sr_same (H : Hp) : Sr H Same :=
  ⟨Same.refl H, fun a b => a.trans b, fun s => Gro.same s, fun s hD b u e => by rw [upd_ne (ne_of_none e hD)]; exact s b u e, fun _ _ s h => s _ _ h⟩
theorem ne_drw {H : Hp} {a D : Addr} (hd : Drw H a) (hD : H D = none) : D ≠ a := by
  intro e
  obtain ⟨u, v, q⟩ := hd
  rw [← e, hD] at q
  cases q
theorem ne_drw' {H : Hp} {a D : Addr} (hD : H D = none) (hd : Drw H a) : D ≠ a := ne_drw hd hD
theorem sr_stp {H : Hp} {a : Addr} (hd : Drw H a) : Sr H (Stp a) :=
  ⟨Stp.refl hd, fun a b => a.trans b, fun s => s.gro, fun s hD => s.new hD hd, fun hD _ s h => s.at_ h (ne_drw hd hD)⟩
section
variable {K : PySem.W.Frag} {σ : L2.St} {H : Hp} {Q : VK} {te tl' : TE} {tt : TT} {vs : List Nat} {j : Nat} {g : TG} {J : It} {n : Nat} {G : Hp → Prop} {Y : Nat → Hp → V → Hp → Prop} {S : Hp → Hp → Prop}
theorem lc_gen (w : Walk J n G Y) (sr : Sr H S) (Rv : Nat → List PyData → Prop) (hG : ∀ H', S H H' → G H') (hn : n < 10000000) (h0 : Rv 0 [])
    (el : ∀ (i : Nat) x (H1 H1' : Hp) (ds : List PyData) (Q1 : VK) (Qn : Hp → Prop), i < n → S H H1 → Y i H1 x H1' → Rv i ds →
      (∀ y d H2, S H1 H2 → Dq H2 y d → Rv (i + 1) (ds ++ [d]) → Q1 y H2) → (∀ H2, S H1 H2 → Rv (i + 1) ds → Qn H2) →
      g x (wipe σ vs) H1' fun σ2 H2 => wipe σ2 vs = wipe σ vs ∧ tt σ2 H2 fun b H3 => if b = true then te σ2 H3 Q1 else Qn H3)
    (k : ∀ D H' ys ds, H D = none → S H H' → H' D = some (.lst ys) → Dqs H' ys ds → Rv n ds → Q (.ref D) H') :
    ∀ D, H D = none → ∃ W : Nat → Nat → Hp → Prop, (∃ m, W 0 m (upd H D (.lst []))) ∧ ∀ i m H, W i m H →
      (J.stop i H ∧ Q (.ref D) H) ∨ (J.go i H ∧ ∃ Nx : Hp → Prop, (∀ H', Nx H' → ∃ m', m' < m ∧ W (i + 1) m' H') ∧ ∀ x H', J.yld i H x H' → g x (wipe σ vs) H' fun σ2 H2 => wipe σ2 vs = wipe σ vs ∧ tt σ2 H2 fun b H3 =>
        if b = true then te σ2 H3 fun y H4 => ∃ acc, H4 D = some (.lst acc) ∧ acc.length < sizeLine ∧ Nx (upd H4 D (.lst (acc ++ [y]))) else Nx H3) := by
  intro D hD
  refine lc_it w (Qd := fun H' => Q (.ref D) H') (fun i H' => ∃ ys ds, S H H' ∧ H' D = some (.lst ys) ∧ Dqs H' ys ds ∧ ds.length ≤ i ∧ Rv i ds) ?_ (fun i H' _ ⟨_, _, s, _⟩ => hG H' s) ?_ ?_
  · exact ⟨[], [], sr.chg sr.refl hD, upd_same, .nil, Nat.le_refl _, h0⟩
  · rintro i x H1 H1' hi ⟨ys, ds, s1, hl, dq, hle, rv⟩ hy
    refine el i x H1 H1' ds _ _ hi s1 hy rv (fun y d H2 s2 hyd r2 => ?_) (fun H2 s2 r2 => ?_)
    · have hD2 := sr.keep hD s1 s2 hl
      have s12 := sr.trans s1 s2
      have gg : Gro H2 (upd H2 D (.lst (ys ++ [y]))) := by
        refine ⟨fun b xs e => ?_, fun b o u e => ?_⟩
        · rw [upd_ne (ne_of e hD2 (by intro z; cases z))]
          exact e
        · rw [upd_ne (ne_of e hD2 (by intro z; cases z))]
          exact e
      have hlen := dq.length
      refine ⟨ys, hD2, by rw [sizeLine_eq]; omega, ys ++ [y], ds ++ [d], sr.chg s12 hD, upd_same, ((dq.mono (sr.gro s2)).snoc hyd).mono gg, by simp; omega, r2⟩
    · exact ⟨ys, ds, sr.trans s1 s2, sr.keep hD s1 s2 hl, dq.mono (sr.gro s2), by omega, r2⟩
  · rintro H' ⟨ys, ds, s1, hl, dq, hle, rv⟩
    exact k D H' ys ds hD s1 hl dq rv
/-- over a tuple, a list that stands: the target a name -/
theorem lc_T {p : Addr} {xs : List V} (h : H p = some (.tup xs)) (sr : Sr H S) (Rv : Nat → List PyData → Prop) (hn : xs.length < 10000000) (h0 : Rv 0 []) (hw : ∀ x, wipe ((wipe σ vs).set j (some x)) vs = wipe σ vs)
    (el : ∀ (i : Nat) x (H1 : Hp) (ds : List PyData) (Q1 : VK) (Qn : Hp → Prop), xs[i]? = some x → S H H1 → Rv i ds →
      (∀ y d H2, S H1 H2 → Dq H2 y d → Rv (i + 1) (ds ++ [d]) → Q1 y H2) → (∀ H2, S H1 H2 → Rv (i + 1) ds → Qn H2) → tt ((wipe σ vs).set j (some x)) H1 fun b H3 => if b = true then te ((wipe σ vs).set j (some x)) H3 Q1 else Qn H3)
    (k : ∀ D H' ys ds, H D = none → S H H' → H' D = some (.lst ys) → Dqs H' ys ds → Rv xs.length ds → Q (.ref D) H') : luq K (.ref p) (gName j) tt te vs σ H Q :=
  .inr ⟨⟨xs, SqT.of h⟩, lc_gen (walk_tup (xs := xs)) sr Rv (fun H' s => SqT.of ((sr.gro s).tup _ _ h)) hn h0 (fun i x H1 H1' ds Q1 Qn hi s1 hy rv k1 k2 => by
    obtain ⟨rfl, hy⟩ := hy
    exact ⟨hw x, el i x H1' ds Q1 Qn hy s1 rv k1 k2⟩) k⟩
theorem lc_L {p : Addr} {xs : List V} (h : H p = some (.lst xs)) (hk : ∀ H', S H H' → H' p = some (.lst xs)) (sr : Sr H S) (Rv : Nat → List PyData → Prop) (hn : xs.length < 10000000) (h0 : Rv 0 []) (hw : ∀ x, wipe ((wipe σ vs).set j (some x)) vs = wipe σ vs)
    (el : ∀ (i : Nat) x (H1 : Hp) (ds : List PyData) (Q1 : VK) (Qn : Hp → Prop), xs[i]? = some x → S H H1 → Rv i ds →
      (∀ y d H2, S H1 H2 → Dq H2 y d → Rv (i + 1) (ds ++ [d]) → Q1 y H2) → (∀ H2, S H1 H2 → Rv (i + 1) ds → Qn H2) → tt ((wipe σ vs).set j (some x)) H1 fun b H3 => if b = true then te ((wipe σ vs).set j (some x)) H3 Q1 else Qn H3)
    (k : ∀ D H' ys ds, H D = none → S H H' → H' D = some (.lst ys) → Dqs H' ys ds → Rv xs.length ds → Q (.ref D) H') : luq K (.ref p) (gName j) tt te vs σ H Q :=
  .inl ⟨⟨xs, SqL.of h⟩, lc_gen (walk_list (xs := xs)) sr Rv (fun H' s => SqL.of (hk H' s)) hn h0 (fun i x H1 H1' ds Q1 Qn hi s1 hy rv k1 k2 => by
    obtain ⟨rfl, hy⟩ := hy
    exact ⟨hw x, el i x H1' ds Q1 Qn hy s1 rv k1 k2⟩) k⟩
/-- over the signs of a text -/
theorem lc_S {z : Str} (sr : Sr H S) (Rv : Nat → List PyData → Prop) (hn : z.length < 10000000) (h0 : Rv 0 []) (hw : ∀ x, wipe ((wipe σ vs).set j (some x)) vs = wipe σ vs)
    (el : ∀ (i : Nat) (c : Nat) (H1 : Hp) (ds : List PyData) (Q1 : VK) (Qn : Hp → Prop), (tl z)[i]? = some c → S H H1 → Rv i ds →
      (∀ y d H2, S H1 H2 → Dq H2 y d → Rv (i + 1) (ds ++ [d]) → Q1 y H2) → (∀ H2, S H1 H2 → Rv (i + 1) ds → Qn H2) → tt ((wipe σ vs).set j (some (.str ⟨#[c]⟩))) H1 fun b H3 => if b = true then te ((wipe σ vs).set j (some (.str ⟨#[c]⟩))) H3 Q1 else Qn H3)
    (k : ∀ D H' ys ds, H D = none → S H H' → H' D = some (.lst ys) → Dqs H' ys ds → Rv z.length ds → Q (.ref D) H') : luq K (.str z) (gName j) tt te vs σ H Q :=
  lc_gen (walk_str (z := z)) sr Rv (fun H' s => trivial) hn h0 (fun i x H1 H1' ds Q1 Qn hi s1 hy rv k1 k2 => by
    obtain ⟨rfl, c, hc, rfl⟩ := hy
    exact ⟨hw _, el i c H1' ds Q1 Qn (by rw [Array.getElem?_toList]; exact hc) s1 rv k1 k2⟩) k
/-- over range(n) -/
theorem lc_R {m : Int} (sr : Sr H S) (Rv : Nat → List PyData → Prop) (h1 : -(2 ^ 62) ≤ m) (h2 : m < 10000000) (h0 : Rv 0 []) (hw : ∀ x, wipe ((wipe σ vs).set j (some x)) vs = wipe σ vs)
    (el : ∀ (i : Nat) (H1 : Hp) (ds : List PyData) (Q1 : VK) (Qn : Hp → Prop), (i : Int) < m → S H H1 → Rv i ds →
      (∀ y d H2, S H1 H2 → Dq H2 y d → Rv (i + 1) (ds ++ [d]) → Q1 y H2) → (∀ H2, S H1 H2 → Rv (i + 1) ds → Qn H2) → tt ((wipe σ vs).set j (some (.int i))) H1 fun b H3 => if b = true then te ((wipe σ vs).set j (some (.int i))) H3 Q1 else Qn H3)
    (k : ∀ D H' ys ds, H D = none → S H H' → H' D = some (.lst ys) → Dqs H' ys ds → Rv m.toNat ds → Q (.ref D) H') : rlq [.int m] j tt te vs σ H Q :=
  ⟨m, rfl, h1, by omega, lc_gen (walk_range (lo := 0) (n := m.toNat)) sr Rv (fun H' s => trivial) (by omega) h0 (fun i x H1 H1' ds Q1 Qn hi s1 hy rv k1 k2 => by
    obtain ⟨rfl, rfl⟩ := hy
    have e0 : (0 : Int) + (i : Int) = (i : Int) := Int.zero_add _
    show gName j (V.int ((0 : Int) + (i : Int))) (wipe σ vs) H1' _
    rw [e0]
    exact ⟨hw _, el i H1' ds Q1 Qn (by omega) s1 rv k1 k2⟩) k⟩
end
theorem atI_get {α : Type} {xs : List α} {d : Int} (h0 : 0 ≤ d) (h1 : d < xs.length) : ∃ v, atI xs d = some v ∧ v ∈ xs := by
  obtain ⟨j, rfl⟩ : ∃ j : Nat, d = j := ⟨d.toNat, by omega⟩
  have hj : j < xs.length := by omega
  exact ⟨xs[j], atI_nn (List.getElem?_eq_getElem hj), List.getElem_mem hj⟩
/-! ### texts as lists of codes -/
theorem len_cut0 {z : Str} {n : Nat} : (cutS z none (some (n : Int))).length ≤ n := by
  show (((z.cps.toList.drop 0).take (HT.sIx z.length z.length (some (n : Int)) - 0)).toArray).size ≤ n
  rw [List.size_toArray, List.length_take]
  have : HT.sIx z.length z.length (some (n : Int)) ≤ n := by
    unfold HT.sIx
    simp only
    split <;> omega
  omega
theorem cut_one {z : Str} {d : Int} (h0 : 0 ≤ d) (h1 : d < z.length) : ∃ c, c ∈ tl z ∧ cutS z (some d) (some (d + 1)) = ⟨#[c]⟩ := by
  obtain ⟨n, rfl⟩ : ∃ n : Nat, d = n := ⟨d.toNat, by omega⟩
  have hn : n < (tl z).length := by rw [← len_tl]; omega
  refine ⟨(tl z)[n], List.getElem_mem hn, ?_⟩
  have e1 : HT.sIx z.length 0 (some (n : Int)) = n := by rw [HT.sIx_nat]; rw [len_tl] at *; omega
  have e2 : HT.sIx z.length z.length (some ((n : Int) + 1)) = n + 1 := by
    rw [show (n : Int) + 1 = ((n + 1 : Nat) : Int) by omega, HT.sIx_nat]
    rw [len_tl] at *
    omega
  unfold cutS
  rw [e1, e2]
  have e3 : ((tl z).drop n).take (n + 1 - n) = [(tl z)[n]] := by
    rw [show n + 1 - n = 1 by omega, List.drop_eq_getElem_cons hn]
    rfl
  show (⟨(((tl z).drop n).take (n + 1 - n)).toArray⟩ : Str) = _
  rw [e3] <;> rfl
/-- a text of signs of S, between lo and hi of them -/
structure Wrd (S : List Nat) (lo hi : Nat) (s : Str) : Prop where
  lo : lo ≤ (tl s).length
  hi : (tl s).length ≤ hi
  sg : ∀ c ∈ tl s, c ∈ S
theorem Wrd.len {S : List Nat} {lo hi : Nat} {s : Str} (h : Wrd S lo hi s) : s.length ≤ hi := by rw [len_tl]; exact h.hi
theorem joinL_nil : ∀ parts : List (List Nat), joinL [] parts = parts.flatten
  | [] => rfl
  | [p] => by simp [joinL]
  | p :: q :: r => by
    show p ++ ([] ++ joinL [] (q :: r)) = (p :: q :: r).flatten
    rw [joinL_nil (q :: r)]
    simp
theorem tl_join0 (parts : List Str) : tl (Txt.join (Str.ofString "") parts) = (parts.map tl).flatten := by
  rw [join_eq, tl_join]
  have e : tl (Str.ofString "") = [] := by decide +kernel
  rw [e, joinL_nil]
/-- signs one by one make a word -/
theorem wrd_join {S : List Nat} {n : Nat} {ss : List Str} (h : ∀ s ∈ ss, ∃ c, c ∈ S ∧ s = ⟨#[c]⟩) (hl : ss.length = n) : Wrd S n n (Txt.join (Str.ofString "") ss) := by
  subst hl
  have key : ∀ ss : List Str, (∀ s ∈ ss, ∃ c, c ∈ S ∧ s = ⟨#[c]⟩) → (ss.map tl).flatten.length = ss.length ∧ ∀ c ∈ (ss.map tl).flatten, c ∈ S := by
    intro ss
    induction ss with
    | nil => exact fun _ => ⟨rfl, fun c hc => nomatch hc⟩
    | cons s r ih =>
      intro h
      obtain ⟨c, hc, e⟩ := h s List.mem_cons_self
      obtain ⟨i1, i2⟩ := ih fun s hs => h s (List.mem_cons_of_mem _ hs)
      have et : tl s = [c] := by rw [e]
      refine ⟨by rw [List.map_cons, List.flatten_cons, List.length_append, i1, et, List.length_cons]; simp; omega, fun d hd => ?_⟩
      rw [List.map_cons, List.flatten_cons, et] at hd
      rcases List.mem_append.mp hd with hd | hd
      · rw [List.mem_singleton.mp hd]
        exact hc
      · exact i2 d hd
  obtain ⟨k1, k2⟩ := key ss h
  rw [← tl_join0] at k1 k2
  exact ⟨Nat.le_of_eq k1.symm, Nat.le_of_eq k1, k2⟩
/-- what a join of signs weighs -/
theorem sum_ones {S : List Nat} : ∀ {ss : List Str}, (∀ s ∈ ss, ∃ c, c ∈ S ∧ s = ⟨#[c]⟩) → (ss.map (·.length)).sum = ss.length
  | [], _ => rfl
  | s :: r, h => by
    obtain ⟨c, _, e⟩ := h s List.mem_cons_self
    rw [List.map_cons, List.sum_cons, sum_ones fun s hs => h s (List.mem_cons_of_mem _ hs), e, List.length_cons]
    show 1 + r.length = r.length + 1
    omega
theorem sum_le {n : Nat} : ∀ {ss : List Str}, (∀ s ∈ ss, s.length ≤ n) → (ss.map (·.length)).sum ≤ n * ss.length
  | [], _ => Nat.zero_le _
  | s :: r, h => by
    rw [List.map_cons, List.sum_cons, List.length_cons, Nat.mul_succ]
    have h1 := h s List.mem_cons_self
    have h2 := sum_le (n := n) fun s hs => h s (List.mem_cons_of_mem _ hs)
    omega
end Dk

/-! The texts that the laws draw: local parts, domains. -/
namespace Dk
open PySem PySem.Spec PyProof.Rows L2 TL
/-- what is left of a text behind rstrip of one sign -/
theorem rstrip_facts (x : Str) (c : Nat) : ∃ h, h ≤ (tl x).length ∧ tl (Txt.rstripChars x ⟨#[c]⟩) = (tl x).take h ∧ (h = 0 ∨ (tl x)[h - 1]? ≠ some c) ∧ ∀ k, h ≤ k → k < (tl x).length → (tl x)[k]? = some c := by
  have h0 : PySem.stripLo (#[c] : Array Nat).contains false x = 0 := rfl
  obtain ⟨h1, h2, h3, h4⟩ := hi_facts (#[c] : Array Nat).contains x 0 (Nat.zero_le _)
  have gc : ∀ d, (#[c] : Array Nat).contains d = true ↔ d = c := fun d => by
    rw [Array.contains_iff_mem]
    simp
  have getd : ∀ k, k < (tl x).length → (tl x)[k]? = some (x.cps.getD k 0) := fun k hk => by
    rw [← getD_list]
    rw [List.getElem?_eq_getElem hk]
    simp [List.getD, List.getElem?_eq_getElem hk]
  refine ⟨stripHi (#[c] : Array Nat).contains true x 0, by rw [← len_tl]; exact h2, ?_, ?_, fun k hk hl => ?_⟩
  · show tl (Txt.stripBy (#[c] : Array Nat).contains false true x) = _
    rw [stripBy_eq, h0, tl_strSub, List.drop_zero, Nat.sub_zero]
  · by_cases hz : stripHi (#[c] : Array Nat).contains true x 0 = 0
    · exact .inl hz
    · right
      rcases h4 with h4 | h4
      · exact absurd h4 hz
      · rw [getd _ (by rw [← len_tl]; omega)]
        intro e
        have e1 := (gc _).mpr (Option.some.inj e)
        rw [h4] at e1
        cases e1
  · rw [getd k hl]
    exact congrArg some ((gc _).mp (h3 k hk (by rw [len_tl]; exact hl)))
/-- signs of S, dots between them: none ahead (p), none behind another -/
def okL (S : List Nat) : Bool → List Nat → Bool
  | _, [] => true
  | p, c :: r => if c = 46 then !p && okL S true r else decide (c ∈ S) && okL S false r
theorem okL_take {S : List Nat} : ∀ {l : List Nat} {p : Bool} {n : Nat}, okL S p l = true → okL S p (l.take n) = true
  | [], p, n, _ => by cases n <;> rfl
  | c :: r, p, 0, _ => rfl
  | c :: r, p, n + 1, h => by
    rw [List.take_succ_cons]
    unfold okL at h ⊢
    by_cases e : c = 46
    · rw [if_pos e, Bool.and_eq_true] at h ⊢
      exact ⟨h.1, okL_take h.2⟩
    · rw [if_neg e, Bool.and_eq_true] at h ⊢
      exact ⟨h.1, okL_take h.2⟩
theorem okL_word {S : List Nat} (hS : 46 ∉ S) : ∀ {w r : List Nat} {p : Bool}, (∀ c ∈ w, c ∈ S) → w ≠ [] → okL S p (w ++ r) = okL S false r
  | [], _, _, _, h => absurd rfl h
  | c :: w, r, p, h, _ => by
    have hc := h c List.mem_cons_self
    have nc : c ≠ 46 := fun e => hS (e ▸ hc)
    have e : okL S p (c :: (w ++ r)) = okL S false (w ++ r) := by
      rw [okL, if_neg nc, decide_eq_true hc, Bool.true_and]
    show okL S p (c :: (w ++ r)) = okL S false r
    rw [e]
    cases w with
    | nil => rfl
    | cons d w => exact okL_word hS (fun c hc => h c (List.mem_cons_of_mem _ hc)) (by simp)
theorem okL_join {S : List Nat} (hS : 46 ∉ S) : ∀ {ps : List (List Nat)} {p : Bool}, (∀ w ∈ ps, w ≠ [] ∧ ∀ c ∈ w, c ∈ S) → ps ≠ [] → okL S p (joinL [46] ps) = true
  | [], _, _, h => absurd rfl h
  | [w], p, h, _ => by
    obtain ⟨h1, h2⟩ := h w List.mem_cons_self
    show okL S p w = true
    rw [← List.append_nil w, okL_word hS h2 h1] <;> rfl
  | w :: v :: r, p, h, _ => by
    obtain ⟨h1, h2⟩ := h w List.mem_cons_self
    show okL S p (w ++ ([46] ++ joinL [46] (v :: r))) = true
    rw [okL_word hS h2 h1]
    show okL S false (46 :: joinL [46] (v :: r)) = true
    unfold okL
    rw [if_pos rfl, okL_join hS (fun w hw => h w (List.mem_cons_of_mem _ hw)) (by simp)] <;> rfl
theorem okL_head {S : List Nat} {l : List Nat} (h : okL S true l = true) : l.head? ≠ some 46 := by
  cases l with
  | nil => simp
  | cons c r =>
    unfold okL at h
    intro e
    have e1 : c = 46 := by simpa using e
    rw [if_pos e1] at h
    cases h
/-- a local part -/
structure Loc1 (S : List Nat) (l : List Nat) : Prop where
  ok : okL S true l = true
  lo : 1 ≤ l.length
  hi : l.length ≤ 40
  last : l.getLast? ≠ some 46
theorem dot_eq : Str.ofString "." = ⟨#[46]⟩ := by decide +kernel
theorem tl_joinDot (parts : List Str) : tl (Txt.join (Str.ofString ".") parts) = joinL [46] (parts.map tl) := by
  rw [join_eq, tl_join]
  have e : tl (Str.ofString ".") = [46] := by decide +kernel
  rw [e]
theorem tl_cut0 (z : Str) (n : Nat) : tl (cutS z none (some (n : Int))) = (tl z).take n := by
  unfold cutS
  rw [HT.sIx_none, HT.sIx_nat, Nat.sub_zero, List.drop_zero]
  show (tl z).take (min n z.length) = (tl z).take n
  rw [len_tl, List.take_eq_take_iff]
  omega
theorem joinL_pos {S : List Nat} {ps : List (List Nat)} (h : ∀ w ∈ ps, w ≠ []) (hn : ps ≠ []) : joinL S ps ≠ [] := by
  cases ps with
  | nil => exact absurd rfl hn
  | cons w r =>
    have hw := h w List.mem_cons_self
    cases r with
    | nil => exact hw
    | cons v r =>
      show w ++ (S ++ joinL S (v :: r)) ≠ []
      simp [hw]
theorem loc_of {S : List Nat} (hS : 46 ∉ S) {parts : List Str} (h : ∀ s ∈ parts, tl s ≠ [] ∧ ∀ c ∈ tl s, c ∈ S) (hn : parts ≠ []) :
    Loc1 S (tl (Txt.rstripChars (cutS (Txt.join (Str.ofString ".") parts) none (some (40 : Int))) (Str.ofString "."))) := by
  have e40 : tl (cutS (Txt.join (Str.ofString ".") parts) none (some (40 : Int))) = (joinL [46] (parts.map tl)).take 40 := by
    rw [← tl_joinDot]
    exact tl_cut0 _ 40
  have hw : ∀ w ∈ parts.map tl, w ≠ [] ∧ ∀ c ∈ w, c ∈ S := fun w hw => by
    obtain ⟨s, hs, e⟩ := List.mem_map.mp hw
    rw [← e]
    exact h s hs
  have hne : parts.map tl ≠ [] := fun e => hn (List.map_eq_nil_iff.mp e)
  have ok : okL S true ((joinL [46] (parts.map tl)).take 40) = true := okL_take (okL_join hS hw hne)
  have pos : joinL [46] (parts.map tl) ≠ [] := joinL_pos (fun w q => (hw w q).1) hne
  generalize cutS (Txt.join (Str.ofString ".") parts) none (some (40 : Int)) = x at *
  rw [dot_eq]
  obtain ⟨k, k1, k2, k3, k4⟩ := rstrip_facts x 46
  rw [e40] at k1 k2 k3 k4
  generalize hL : (joinL [46] (parts.map tl)).take 40 = L at *
  have Lne : L ≠ [] := by
    rw [← hL]
    intro e
    rcases List.take_eq_nil_iff.mp e with e | e
    · cases e
    · exact pos e
  have L40 : L.length ≤ 40 := by
    rw [← hL, List.length_take]
    omega
  have kpos : 1 ≤ k := by
    cases k with
    | zero =>
      have h0 := k4 0 (Nat.le_refl _) (List.length_pos_iff.mpr Lne)
      exact absurd (by rw [List.head?_eq_getElem?]; exact h0) (okL_head ok)
    | succ k => exact Nat.succ_pos _
  rw [k2]
  refine ⟨okL_take ok, by rw [List.length_take]; omega, by rw [List.length_take]; omega, ?_⟩
  rw [List.getLast?_eq_getElem?, List.length_take, Nat.min_eq_left k1, List.getElem?_take_of_lt (by omega)]
  rcases k3 with k3 | k3
  · omega
  · exact k3
theorem joinL_len (S : List Nat) : ∀ ps : List (List Nat), (joinL S ps).length ≤ (ps.map List.length).sum + ps.length * S.length
  | [] => Nat.zero_le _
  | [w] => by
    show w.length ≤ _
    rw [List.map_singleton, List.sum_singleton]
    omega
  | w :: v :: r => by
    show (w ++ (S ++ joinL S (v :: r))).length ≤ _
    have ih := joinL_len S (v :: r)
    rw [List.length_append, List.length_append, List.map_cons, List.sum_cons, List.length_cons, Nat.succ_mul]
    omega
theorem joinDot_len (parts : List Str) : (Txt.join (Str.ofString ".") parts).length ≤ (parts.map (·.length)).sum + parts.length := by
  rw [len_tl, tl_joinDot]
  have h := joinL_len [46] (parts.map tl)
  have e : ((parts.map tl).map List.length) = parts.map (·.length) := by
    rw [List.map_map]
    exact List.map_congr_left fun s _ => (len_tl s).symm
  rw [e, List.length_map] at h
  simp only [List.length_cons, List.length_nil] at h
  omega
theorem rep_strs (n : Nat) (s : Str) : (List.replicate n [V.str s]).flatten = (List.replicate n s).map V.str := by
  induction n with
  | zero => rfl
  | succ n ih => rw [List.replicate_succ, List.flatten_cons, ih, List.replicate_succ, List.map_cons] <;> rfl
theorem rep_wrd {S : List Nat} {c n : Nat} (hc : c ∈ S) : Wrd S n n (Txt.join (Str.ofString "") (List.replicate n ⟨#[c]⟩)) :=
  wrd_join (fun s hs => ⟨c, hc, (List.mem_replicate.mp hs).2⟩) (List.length_replicate ..)
/-- the signs of a drawn word, a drawn label -/
abbrev lEnds : Str := Str.ofString "abcdefghijklmnopqrstuvwxyz0123456789-_+"
abbrev dEnds : Str := Str.ofString "abcdefghijklmnopqrstuvwxyz0123456789"
theorem lEnds_dot : 46 ∉ tl lEnds := by decide +kernel
/-- a label -/
structure Lab (l : List Nat) : Prop where
  lo : 2 ≤ l.length
  hi : l.length ≤ 5
  sg : ∀ c ∈ l, c ∈ 45 :: tl dEnds
  fst : l.head? ≠ some 45
  lst : l.getLast? ≠ some 45
/-- a domain -/
structure Dom (l : List Nat) : Prop where
  ex : ∃ ls : List (List Nat), l = joinL [46] ls ∧ 1 ≤ ls.length ∧ ls.length ≤ 3 ∧ ∀ w ∈ ls, Lab w
theorem Dom.len {s : Str} (h : Dom (tl s)) : s.length ≤ 18 := by
  obtain ⟨ls, e, h1, h2, h3⟩ := h.ex
  rw [len_tl, e]
  have q := joinL_len [46] ls
  have r : ∀ ps : List (List Nat), (∀ w ∈ ps, Lab w) → (ps.map List.length).sum ≤ 5 * ps.length := by
    intro ps
    induction ps with
    | nil => exact fun _ => Nat.zero_le _
    | cons w r ih =>
      intro h
      rw [List.map_cons, List.sum_cons, List.length_cons]
      have a := (h w List.mem_cons_self).hi
      have b := ih fun w hw => h w (List.mem_cons_of_mem _ hw)
      omega
  have r1 := r ls h3
  simp only [List.length_cons, List.length_nil] at q
  omega
theorem Loc1.len {S : List Nat} {s : Str} (h : Loc1 S (tl s)) : s.length ≤ 40 := by
  rw [len_tl]
  exact h.hi
theorem lab_of {c d : Nat} {m : Str} (hc : c ∈ tl dEnds) (hd : d ∈ tl dEnds) (hm : m ∈ ["", "-", "--", "x-y", "z9"].map Str.ofString) : Lab (tl (((⟨#[c]⟩ : Str) ++ m) ++ (⟨#[d]⟩ : Str))) := by
  have e : tl (((⟨#[c]⟩ : Str) ++ m) ++ (⟨#[d]⟩ : Str)) = c :: (tl m ++ [d]) := by
    rw [tl_append, tl_append] <;> rfl
  have n45 : 45 ∉ tl dEnds := by decide +kernel
  have key : ∀ z ∈ ["", "-", "--", "x-y", "z9"].map Str.ofString, (tl z).length ≤ 3 ∧ ∀ x ∈ tl z, x ∈ 45 :: tl dEnds := by decide +kernel
  obtain ⟨k1, k2⟩ := key m hm
  rw [e]
  refine ⟨by simp, by simp; omega, fun x hx => ?_, ?_, ?_⟩
  · rcases List.mem_cons.mp hx with hx | hx
    · rw [hx]
      exact List.mem_cons_of_mem _ hc
    · rcases List.mem_append.mp hx with hx | hx
      · exact k2 x hx
      · rw [List.mem_singleton.mp hx]
        exact List.mem_cons_of_mem _ hd
  · intro q
    have : c = 45 := by simpa using q
    exact n45 (this ▸ hc)
  · rw [show c :: (tl m ++ [d]) = (c :: tl m) ++ [d] from rfl, List.getLast?_concat]
    intro q
    have : d = 45 := by simpa using q
    exact n45 (this ▸ hd)
/-- a line: a short text of the signs that are allowed -/
structure Lin (s : Str) : Prop where
  len : s.length ≤ 18
  sg : ∀ c ∈ tl s, 32 ≤ c ∧ c ≤ 126 ∧ c ≠ 37
def pool : List Str := ["", ".", "..", ". x", "Received: by ", "Received: by q.r", "received: by x", " Received: by y", "To: a", "~"].map Str.ofString
abbrev signs : Str := Str.ofString " !\"#$&'()*+,-./0123456789:;<=>?@ABCDEFGHIJKLMNOPQRSTUVWXYZ[\\]^_`abcdefghijklmnopqrstuvwxyz{|}~"
theorem pool_lin : ∀ s ∈ pool, Lin s := by
  have key : ∀ s ∈ pool, s.length ≤ 18 ∧ ∀ c ∈ tl s, 32 ≤ c ∧ c ≤ 126 ∧ c ≠ 37 := by decide +kernel
  exact fun s hs => ⟨(key s hs).1, (key s hs).2⟩
theorem signs_lin : ∀ c ∈ tl signs, 32 ≤ c ∧ c ≤ 126 ∧ c ≠ 37 := by decide +kernel
end Dk

/-! Messages as lists of texts. -/
namespace Dk
open PySem PySem.Spec PyProof.Rows L2 TL
def hopsM : List Str → Nat
  | [] => 0
  | s :: r => if s = eS then 0 else (if Txt.startswith s trS = true then 1 else 0) + hopsM r
theorem hopsM_le : ∀ ss : List Str, hopsM ss ≤ ss.length
  | [] => Nat.le_refl _
  | s :: r => by
    unfold hopsM
    have := hopsM_le r
    rw [List.length_cons]
    split
    · omega
    · split <;> omega
def stuffM (s : Str) : Str := if Txt.startswith s dotS = true then dotS ++ s else s
def unstuffM (s : Str) : Str := if Txt.startswith s dotS = true then cutS s (some 1) none else s
theorem starts_iff (x y : Str) : Txt.startswith x y = ((tl x).take (tl y).length == tl y) := by
  unfold Txt.startswith
  rw [PySem.StrLaws.subAt_eq, List.drop_zero, Nat.zero_add, len_tl, len_tl]
  by_cases h : (tl y).length ≤ (tl x).length
  · rw [decide_eq_true h, Bool.true_and]
  · rw [decide_eq_false h, Bool.false_and]
    symm
    rw [beq_eq_false_iff_ne]
    intro e
    have e2 := congrArg List.length e
    rw [List.length_take] at e2
    omega
theorem tl_dot : tl dotS = [46] := by decide +kernel
theorem tl_cut1 (s : Str) : tl (cutS s (some 1) none) = (tl s).drop 1 := by
  unfold cutS
  rw [HT.sIx_none, show (1 : Int) = ((1 : Nat) : Int) from rfl, HT.sIx_nat]
  show ((tl s).drop (min 1 s.length)).take (s.length - min 1 s.length) = (tl s).drop 1
  rw [len_tl]
  by_cases h : 1 ≤ (tl s).length
  · rw [Nat.min_eq_left h, List.take_of_length_le (by rw [List.length_drop]; omega)]
  · have e : tl s = [] := List.length_eq_zero_iff.mp (by omega)
    rw [e] <;> rfl
theorem tl_cutN (s : Str) (n : Nat) : tl (cutS s none (some (n : Int))) = (tl s).take n := tl_cut0 s n
theorem starts_dot (s : Str) : Txt.startswith s dotS = decide ((tl s).head? = some 46) := by
  rw [starts_iff, tl_dot]
  cases e : tl s with
  | nil => rfl
  | cons c r =>
    show ([c] == [46]) = decide (some c = some 46)
    by_cases h : c = 46
    · subst h
      rfl
    · rw [decide_eq_false (fun q => h (Option.some.inj q)), beq_eq_false_iff_ne]
      exact fun q => h (List.cons.inj q).1
theorem unstuff_stuff (s : Str) : unstuffM (stuffM s) = s := by
  unfold stuffM
  by_cases h : Txt.startswith s dotS = true
  · rw [if_pos h]
    have e : tl (dotS ++ s) = 46 :: tl s := by rw [tl_append, tl_dot] <;> rfl
    unfold unstuffM
    rw [if_pos (by rw [starts_dot, e] <;> rfl)]
    refine ext_tl ?_
    rw [tl_cut1, e] <;> rfl
  · rw [if_neg h]
    unfold unstuffM
    rw [if_neg h]
theorem stuff_ne (s : Str) : stuffM s ≠ dotS := by
  intro e
  unfold stuffM at e
  by_cases h : Txt.startswith s dotS = true
  · rw [if_pos h] at e
    have e2 := congrArg tl e
    rw [tl_append, tl_dot] at e2
    have e3 : tl s = [] := by simpa using e2
    rw [starts_dot, e3] at h
    cases h
  · rw [if_neg h] at e
    rw [e] at h
    exact h (by decide +kernel)
theorem stuff_len (s : Str) : (stuffM s).length ≤ s.length + 1 := by
  unfold stuffM
  split
  · rw [PySem.Str.length_append, dotS_len]
    omega
  · omega
theorem drop_of_get {α : Type} {xs : List α} {i : Nat} {x : α} (h : xs[i]? = some x) : xs.drop i = x :: xs.drop (i + 1) := by
  obtain ⟨hl, e⟩ := List.getElem?_eq_some_iff.mp h
  rw [List.drop_eq_getElem_cons hl, e]
theorem get_map {xs : List Str} {i : Nat} {x : V} (h : (xs.map V.str)[i]? = some x) : ∃ s, xs[i]? = some s ∧ x = .str s := by
  rw [List.getElem?_map] at h
  cases e : xs[i]? with
  | none =>
    rw [e] at h
    cases h
  | some s =>
    rw [e] at h
    exact ⟨s, rfl, (Option.some.inj h).symm⟩
theorem mem_of_get {α : Type} {xs : List α} {i : Nat} {x : α} (h : xs[i]? = some x) : x ∈ xs := List.mem_of_getElem? h
/-- a comprehension over texts that gives texts -/
theorem Dqs.strs_eq {H : Hp} {ss : List Str} {ys : List V} (h : Dqs H ys (ss.map PyData.str)) : ys = ss.map V.str := h.strs_of
theorem take_snoc {α : Type} {xs : List α} {i : Nat} {x : α} (h : xs[i]? = some x) : xs.take (i + 1) = xs.take i ++ [x] := by
  rw [List.take_add_one, h] <;> rfl
def reportM (l d r : Str) : List Str := [Str.ofString "Subject: undelivered", eS, Str.ofString "Recipient: " ++ (l ++ atS ++ d), Str.ofString "Reason: " ++ r]
theorem cut13 (s : Str) : decide (cutS s none (some 13) = trS) = Txt.startswith s trS := by
  rw [starts_iff]
  have e13 : (tl trS).length = 13 := by decide +kernel
  have e := tl_cutN s 13
  by_cases h : cutS s none (some 13) = trS
  · rw [decide_eq_true h, e13]
    have h2 : tl (cutS s none (some ((13 : Nat) : Int))) = tl trS := congrArg tl h
    rw [← e, h2]
    exact (beq_self_eq_true _).symm
  · rw [decide_eq_false h, e13]
    symm
    rw [beq_eq_false_iff_ne]
    intro q
    rw [← e] at q
    exact h (ext_tl q)
theorem cut_dot (s : Str) : decide (cutS s none (some 1) = dotS) = Txt.startswith s dotS := by
  rw [starts_iff]
  have e1 : (tl dotS).length = 1 := by decide +kernel
  have e := tl_cutN s 1
  by_cases h : cutS s none (some 1) = dotS
  · rw [decide_eq_true h, e1]
    have h2 : tl (cutS s none (some ((1 : Nat) : Int))) = tl dotS := congrArg tl h
    rw [← e, h2]
    exact (beq_self_eq_true _).symm
  · rw [decide_eq_false h, e1]
    symm
    rw [beq_eq_false_iff_ne]
    intro q
    rw [← e] at q
    exact h (ext_tl q)
theorem str_assoc (a b c : Str) : a ++ b ++ c = a ++ (b ++ c) := ext_tl (by rw [tl_append, tl_append, tl_append, tl_append, List.append_assoc])
theorem hops_cons (d : Str) (ss : List Str) : hopsM ((trS ++ d) :: ss) = hopsM ss + 1 := by
  have h1 : trS ++ d ≠ eS := fun e => by
    have e2 := congrArg (fun z => (tl z).length) e
    simp only [tl_append, List.length_append] at e2
    have e3 : (tl trS).length = 13 := by decide +kernel
    have e4 : (tl eS).length = 0 := by decide +kernel
    omega
  have h2 : Txt.startswith (trS ++ d) trS = true := by
    rw [starts_iff, tl_append, List.take_left]
    exact beq_self_eq_true _
  rw [hopsM, if_neg h1, if_pos h2]
  omega
end Dk

/-! Data compared. -/
namespace Dk
open PySem PySem.Spec PyProof.Rows L2 TL
mutual
/-- data without truth values, lists, dicts -/
def nb : PyData → Bool
  | .none => true
  | .int _ => true
  | .str s => PyData.strOk s
  | .tuple ds => nbs ds
  | _ => false
def nbs : List PyData → Bool
  | [] => true
  | d :: ds => nb d && nbs ds
end
mutual
theorem nb_lay : ∀ d : PyData, nb d = true → d.canLay0 = true
  | .none, _ => by simp [PyData.canLay0]
  | .int i, _ => by simp [PyData.canLay0]
  | .str s, h => by
    rw [PyData.canLay0]
    rw [nb] at h
    exact h
  | .tuple ds, h => by
    rw [PyData.canLay0]
    rw [nb] at h
    exact nbs_lay ds h
  | .bool _, h => by simp [nb] at h
  | .list _, h => by simp [nb] at h
  | .dict _, h => by simp [nb] at h
theorem nbs_lay : ∀ ds : List PyData, nbs ds = true → PyData.canLayAll0 ds = true
  | [], _ => by simp [PyData.canLayAll0]
  | d :: ds, h => by
    rw [nbs, Bool.and_eq_true] at h
    rw [PyData.canLayAll0, nb_lay d h.1, nbs_lay ds h.2] <;> rfl
end
theorem nb_shaped {d : PyData} (h : nb d = true) (hd : d.depth ≤ 64) : SeqAt.shaped d = true := by
  unfold SeqAt.shaped
  rw [nb_lay d h, decide_eq_true hd] <;> rfl
mutual
theorem eqv_nb : ∀ d e : PyData, nb d = true → PyData.eqv d e = true → nb e = true → d = e
  | .none, e, _, h, he => by
    cases e <;> first
      | rfl
      | simp [PyData.eqv] at h
  | .int i, e, _, h, he => by
    cases e <;> first
      | (simp [PyData.eqv] at h; done)
      | (simp [nb] at he; done)
      | (simp [PyData.eqv] at h; rw [h])
  | .str i, e, _, h, he => by
    cases e <;> first
      | (simp [PyData.eqv] at h; done)
      | (simp [PyData.eqv] at h; rw [h])
  | .tuple ds, e, hd, h, he => by
    cases e with
    | tuple es =>
      rw [PyData.eqv] at h
      rw [nb] at hd he
      rw [eqvs_nb ds es hd h he]
    | _ => simp [PyData.eqv] at h
  | .bool _, _, h, _, _ => by simp [nb] at h
  | .list _, _, h, _, _ => by simp [nb] at h
  | .dict _, _, h, _, _ => by simp [nb] at h
theorem eqvs_nb : ∀ ds es : List PyData, nbs ds = true → PyData.eqvAll ds es = true → nbs es = true → ds = es
  | [], es, _, h, _ => by
    cases es with
    | nil => rfl
    | cons e es => simp [PyData.eqvAll] at h
  | d :: ds, es, hd, h, he => by
    cases es with
    | nil => simp [PyData.eqvAll] at h
    | cons e es =>
      rw [PyData.eqvAll, Bool.and_eq_true] at h
      rw [nbs, Bool.and_eq_true] at hd he
      rw [eqv_nb d e hd.1 h.1 he.1, eqvs_nb ds es hd.2 h.2 he.2]
end
theorem eqv_self {d : PyData} (h : nb d = true) : PyData.eqv d d = true := SeqAt.eqv_refl d (nb_lay d h)
theorem eqv_ne {d e : PyData} (h : nb d = true) (he : nb e = true) (n : d ≠ e) : PyData.eqv d e = false := by
  cases q : PyData.eqv d e with
  | false => rfl
  | true => exact absurd (eqv_nb d e h q he) n
theorem nbs_strs : ∀ {ss : List Str}, (∀ s ∈ ss, PyData.strOk s = true) → nbs (ss.map PyData.str) = true
  | [], _ => by simp [nbs]
  | s :: ss, h => by
    rw [List.map_cons, nbs, nb, h s List.mem_cons_self, nbs_strs fun s hs => h s (List.mem_cons_of_mem _ hs)] <;> rfl
theorem depth_strs : ∀ ss : List Str, PyData.depthAll (ss.map PyData.str) = 0
  | [] => by simp [PyData.depthAll]
  | s :: ss => by
    rw [List.map_cons, PyData.depthAll, depth_strs ss, PyData.depth] <;> rfl
/-- plain signs -/
def Asc (s : Str) : Prop := ∀ c ∈ tl s, c < 128
theorem Asc.ok {s : Str} (h : Asc s) : PyData.strOk s = true := by
  unfold PyData.strOk
  rw [Array.all_eq_true']
  intro c hc
  have := h c (by simpa using hc)
  simp only [decide_eq_true_eq]
  omega
theorem Asc.app {a b : Str} (ha : Asc a) (hb : Asc b) : Asc (a ++ b) := fun c hc => by
  rw [tl_append] at hc
  rcases List.mem_append.mp hc with hc | hc
  · exact ha c hc
  · exact hb c hc
theorem Lin.asc {s : Str} (h : Lin s) : Asc s := fun c hc => by
  have := h.sg c hc
  omega
theorem okL_mem {S : List Nat} : ∀ {l : List Nat} {p : Bool}, okL S p l = true → ∀ c ∈ l, c = 46 ∨ c ∈ S
  | [], _, _, c, hc => nomatch hc
  | d :: r, p, h, c, hc => by
    unfold okL at h
    by_cases e : d = 46
    · rw [if_pos e, Bool.and_eq_true] at h
      rcases List.mem_cons.mp hc with q | q
      · exact .inl (q.trans e)
      · exact okL_mem h.2 c q
    · rw [if_neg e, Bool.and_eq_true] at h
      rcases List.mem_cons.mp hc with q | q
      · exact .inr (q ▸ of_decide_eq_true h.1)
      · exact okL_mem h.2 c q
theorem ends_asc : ∀ c ∈ tl lEnds, c < 128 := by decide +kernel
theorem dends_asc : ∀ c ∈ tl dEnds, c < 128 := by decide +kernel
theorem Loc1.asc {s : Str} (h : Loc1 (tl lEnds) (tl s)) : Asc s := fun c hc => by
  rcases okL_mem h.ok c hc with e | e
  · omega
  · exact ends_asc c e
theorem joinL_mem {S : List Nat} : ∀ {ps : List (List Nat)} {c : Nat}, c ∈ joinL S ps → c ∈ S ∨ ∃ w ∈ ps, c ∈ w
  | [], c, h => nomatch h
  | [w], c, h => .inr ⟨w, List.mem_cons_self, h⟩
  | w :: v :: r, c, h => by
    have h : c ∈ w ++ (S ++ joinL S (v :: r)) := h
    rcases List.mem_append.mp h with h | h
    · exact .inr ⟨w, List.mem_cons_self, h⟩
    · rcases List.mem_append.mp h with h | h
      · exact .inl h
      · rcases joinL_mem h with h | ⟨u, hu, hc⟩
        · exact .inl h
        · exact .inr ⟨u, List.mem_cons_of_mem _ hu, hc⟩
theorem Dom.asc {s : Str} (h : Dom (tl s)) : Asc s := fun c hc => by
  obtain ⟨ls, e, _, _, h3⟩ := h.ex
  rw [e] at hc
  rcases joinL_mem hc with q | ⟨w, hw, q⟩
  · have := List.mem_singleton.mp q
    omega
  · rcases List.mem_cons.mp ((h3 w hw).sg c q) with q | q
    · omega
    · exact dends_asc c q
theorem tr_asc : Asc trS := by unfold Asc; decide +kernel
theorem at_asc : Asc atS := by unfold Asc; decide +kernel
theorem e_asc : Asc eS := by unfold Asc; decide +kernel
theorem dot_asc : Asc dotS := by unfold Asc; decide +kernel
theorem stuff_asc {s : Str} (h : Asc s) : Asc (stuffM s) := by
  unfold stuffM
  split
  · exact dot_asc.app h
  · exact h
/-- a tuple of texts as a datum -/
abbrev sD (ss : List Str) : PyData := .tuple (ss.map PyData.str)
theorem sD_nb {ss : List Str} (h : ∀ s ∈ ss, Asc s) : nb (sD ss) = true := by
  rw [nb]
  exact nbs_strs fun s hs => (h s hs).ok
theorem sD_shaped {ss : List Str} (h : ∀ s ∈ ss, Asc s) : SeqAt.shaped (sD ss) = true := by
  refine nb_shaped (sD_nb h) ?_
  rw [PyData.depth, depth_strs]
  omega
theorem Dq.strs {H : Hp} {p : Addr} {ss : List Str} (h : H p = some (.tup (ss.map V.str))) : Dq H (.ref p) (sD ss) := .tup h (Dqs.strs ss)
theorem flat_strs (ss : List Str) : (ss.map V.str).all flatV = true := by
  rw [List.all_eq_true]
  intro x hx
  obtain ⟨s, _, rfl⟩ := List.mem_map.mp hx
  rfl
theorem inV_no {ss : List Str} {z : Str} (h : ∀ s ∈ ss, s ≠ z) : inV (.str z) (ss.map V.str) = false := by
  unfold inV
  rw [List.any_eq_false]
  intro x hx
  obtain ⟨s, hs, rfl⟩ := List.mem_map.mp hx
  intro e
  exact h s hs (by simpa [eqV] using e)
end Dk

/-! Own classes: instances, attributes, methods. -/
namespace Dk
open PySem PySem.Spec PyProof.Rows L2
/-- the def of a method -/
def MethAt (e : Wd) (C : Addr) (m qual : Str) (st : Stmt) : Prop := ∃ f fd, FunD e.K m qual (defArgs st) (defBody st) (defScope st) [] [] f fd ∧ Meth e.K C m f ∧ Cls e.K C
/-- the def of __init__ -/
def InitAt (e : Wd) (C : Addr) (x qual : Str) (st : Stmt) : Prop := ∃ f fd, FunD e.K "__init__" qual (defArgs st) (defBody st) (defScope st) [] [] f fd ∧ Mk e.K C f ∧ e.mg x = some (.ref C)
def CanM (e : Wd) (k : Nat) (C : Addr) (m : Str) (ps : List Str) (sp : Sp) : Prop :=
  ∃ f fd, FnOk e.P e.w e.K e.mg e.base (L2.CX e.P e.w) k f fd ps sp ∧ Cls e.K C ∧ Meth e.K C m f ∧ Binds e.K fd ps []
def CanN (e : Wd) (k : Nat) (C : Addr) (x : Str) (ps : List Str) (sp : Sp) : Prop :=
  ∃ f fd, FnOk e.P e.w e.K e.mg e.base (L2.CX e.P e.w) k f fd ps sp ∧ Mk e.K C f ∧ e.mg x = some (.ref C) ∧ Binds e.K fd ps []
abbrev BindQ (x qual : Str) (st : Stmt) (ps : List Str) : Prop := ∀ (kV doc pm : Value) (an : Option Addr) (cdv ct : Value) (us : List Value), us.length = ps.length → bindArgs (PySem.W.fnOf x qual (defArgs st) (defBody st) (defScope st) .none kV doc pm an cdv ct) ⟨us, []⟩ = pure (ps.zip us)
section
variable {e : Wd} {C : Addr} {m x qual : Str} {st : Stmt} {N ps : List Str} {k : Nat} {sp : Sp}
theorem fnokQ {f : Addr} {fd : FuncData} (F : FunD e.K x qual (defArgs st) (defBody st) (defScope st) [] [] f fd) (S : FnScope N ps (defScope st)) (len : ∀ vs H Q E, sp vs H Q E → vs.length = ps.length)
    (hbody : ∀ (cdv : Value) (f : Addr) (A : Around) (outer : List Env) (s : Shared) (H : Hp) (vs : List V) (Q : VK) (E : XK), Room k (A.deeper (envOfC qual (defScope st) s.heap.objs.size f cdv)) → sp vs H Q E →
      ∃ t, PSs (cxOf (L2.CX e.P e.w) e.P e.w e.K e.mg e.base N qual (defScope st) f cdv A outer s H E).nox (defBody st) t ∧ t { nx := fun _ H' => Q .non H', rt := Q } (start N vs) H) : FnOk e.P e.w e.K e.mg e.base (L2.CX e.P e.w) (k + 1) f fd ps sp :=
  F.ok S len fun cdv A outer s H vs Q E hr h => by
    obtain ⟨t, h1, h2⟩ := hbody cdv f A outer s H vs Q E hr h
    exact ⟨t, h1.nox, h2⟩
theorem canM_of (D : MethAt e C m qual st) (S : FnScope N ps (defScope st)) (B : BindQ m qual st ps) (len : ∀ vs H Q E, sp vs H Q E → vs.length = ps.length)
    (hbody : ∀ (cdv : Value) (f : Addr) (A : Around) (outer : List Env) (s : Shared) (H : Hp) (vs : List V) (Q : VK) (E : XK), Room k (A.deeper (envOfC qual (defScope st) s.heap.objs.size f cdv)) → sp vs H Q E →
      ∃ t, PSs (cxOf (L2.CX e.P e.w) e.P e.w e.K e.mg e.base N qual (defScope st) f cdv A outer s H E).nox (defBody st) t ∧ t { nx := fun _ H' => Q .non H', rt := Q } (start N vs) H) : CanM e (k + 1) C m ps sp := by
  obtain ⟨f, fd, F, M, c⟩ := D
  exact ⟨f, fd, fnokQ F S len hbody, c, M, F.bindsN B⟩
theorem canN_of (D : InitAt e C x qual st) (S : FnScope N ps (defScope st)) (B : BindQ "__init__" qual st ps) (len : ∀ vs H Q E, sp vs H Q E → vs.length = ps.length)
    (hbody : ∀ (cdv : Value) (f : Addr) (A : Around) (outer : List Env) (s : Shared) (H : Hp) (vs : List V) (Q : VK) (E : XK), Room k (A.deeper (envOfC qual (defScope st) s.heap.objs.size f cdv)) → sp vs H Q E →
      ∃ t, PSs (cxOf (L2.CX e.P e.w) e.P e.w e.K e.mg e.base N qual (defScope st) f cdv A outer s H E).nox (defBody st) t ∧ t { nx := fun _ H' => Q .non H', rt := Q } (start N vs) H) : CanN e (k + 1) C x ps sp := by
  obtain ⟨f, fd, F, M, g⟩ := D
  exact ⟨f, fd, fnokQ F S len hbody, M, g, F.bindsN B⟩
end
section
variable {X : Cx} {E : XK} {k : Nat} {C : Addr} {m x : Str} {ps : List Str} {sp : Sp} {o e : Expr} {es : List Expr} {p pos apos : Pos} {ta : TE} {t : TA}
theorem pe_canM {pl : Sem Bool} (c : CanM (wdOf X) k C m ps sp) (hr : Room k X.A) (hx : Passes (L2.CX X.prog X.w) X E) (he : PE X o ta) (ha : PA X (e :: es) t)
    (hst : starEach (e :: es) X.env = (false, eval e X.env) :: starEach es X.env := by rfl) (hpl : (backTo pos (starEach es X.env)).any (·.1) = false := by rfl)
    (ht : eval (.Call (.Attribute o m apos) (e :: es) [] pos) X.env = (do
      let ov ← eval o X.env
      standAt apos.atName
      let (f, first) ← holding [ov] (getMethod ov m pl)
      callWith pos f first (backTo pos (starEach (e :: es) X.env)) (backToKw pos (keywordEach [] X.env))) := by rfl) : PE X (.Call (.Attribute o m apos) (e :: es) [] pos) (tMeth C m sp [] E ta t) := by
  obtain ⟨f, fd, F, c, M, b⟩ := c
  exact pe_meth he c M F hr b .nil hx ha hst hpl ht
theorem pe_canM0 {pl : Sem Bool} (c : CanM (wdOf X) k C m ps sp) (hr : Room k X.A) (hx : Passes (L2.CX X.prog X.w) X E) (he : PE X o ta)
    (ht : eval (.Call (.Attribute o m apos) [] [] pos) X.env = (do
      let ov ← eval o X.env
      standAt apos.atName
      let (f, first) ← holding [ov] (getMethod ov m pl)
      callWith pos f first (backTo pos (starEach [] X.env)) (backToKw pos (keywordEach [] X.env))) := by rfl) : PE X (.Call (.Attribute o m apos) [] [] pos) (tMeth C m sp [] E ta tNil) := by
  obtain ⟨f, fd, F, c, M, b⟩ := c
  exact pe_meth0 he c M F hr b .nil hx ht
theorem pe_canN (c : CanN (wdOf X) k C x ps sp) (hr : Room (k + 1) X.A) (hx : Passes (L2.CX X.prog X.w) X E) (ha : PA X (e :: es) t) (hg : Gl X x := by rfl) (hdb : (x == ("__debug__" : Str)) = false := by decide)
    (he : starEach (e :: es) X.env = (false, eval e X.env) :: starEach es X.env := by rfl) (hpl : (backTo pos (starEach es X.env)).any (·.1) = false := by rfl) : PE X (.Call (.Name x p) (e :: es) [] pos) (tMake C sp [] E t) := by
  obtain ⟨f, fd, F, M, g, b⟩ := c
  exact pe_make M F hr hg g b .nil hx ha hdb he hpl
theorem pe_canN0 (c : CanN (wdOf X) k C x ps sp) (hr : Room (k + 1) X.A) (hx : Passes (L2.CX X.prog X.w) X E) (hg : Gl X x := by rfl) (hdb : (x == ("__debug__" : Str)) = false := by decide) : PE X (.Call (.Name x p) [] [] pos) (tMake C sp [] E tNil) := by
  obtain ⟨f, fd, F, M, g, b⟩ := c
  exact pe_make0 M F hr hg g b .nil hx hdb
variable {K : PySem.W.Frag} {tv : TE} {value : Expr} {f : Str} {pos' : Pos}
theorem pe_fldU (he : PE X e ta) (hK : X.K = K := by rfl) (hb : attributeBase e f X.env (eval e X.env) = eval e X.env := by rfl) : PE X (.Attribute e f pos) (tFld K ta f) := by
  subst hK
  exact pe_fld he hb
theorem ps_fldU (ha : PE X o ta) (hv : PE X value tv) (hK : X.K = K := by rfl) (hs : swapsWith value (some (.Attribute o f pos')) pos.line X.env = pure false := by rfl) : PS X (.Assign [.Attribute o f pos'] value pos) (sFld K ta tv f) := by
  subst hK
  exact ps_fld ha hv hs
theorem ps_fldaugU {op : Operator} {rd : V → V → Hp → VK → Prop} {tpos : Pos} (ha : PE X o ta) (hv : PE X value tv) (hop : InOp X op rd) (hK : X.K = K := by rfl) : PS X (.AugAssign (.Attribute o f tpos) op value pos) (sFldAug K ta tv rd f) := by
  subst hK
  exact ps_fldaug ha hv hop
end
section
variable {K : PySem.W.Frag} {σ : L2.St} {H : Hp} {Q : VK} {D : Ends} {ta tb tv : TE} {t : TA} {C a dx : Addr} {f m : Str} {fs fs' : List (Str × V)} {v x y : V} {sp : Sp} {E : XK} {P : Prop}
/-- an instance of C with these attributes -/
def Ins (H : Hp) (a C : Addr) (fs : List (Str × V)) : Prop := ∃ dx, H a = some (.ins C dx fs)
theorem Ins.mono {H' : Hp} (h : Ins H a C fs) (k : ∀ o, H a = some o → H' a = some o) : Ins H' a C fs := let ⟨dx, e⟩ := h; ⟨dx, k _ e⟩
theorem Ins.same {H' : Hp} (s : Same H H') (h : Ins H a C fs) : Ins H' a C fs := let ⟨dx, e⟩ := h; ⟨dx, s _ _ e⟩
theorem Ins.stp {H' : Hp} {b : Addr} (s : Stp b H H') (hd : Drw H b) (h : Ins H a C fs) : Ins H' a C fs := by
  obtain ⟨dx, e⟩ := h
  refine ⟨dx, s.at_ e fun q => ?_⟩
  obtain ⟨u, w, z⟩ := hd
  rw [← q, e] at z
  cases z
/-- an attribute of the instance at a is written: all else stands -/
structure Fput (a : Addr) (H H' : Hp) : Prop where
  kp : ∀ b, b ≠ a → H' b = H b
  old : ∃ C fs, Ins H a C fs
theorem Fput.at_ {b : Addr} {o : HO} {H' : Hp} (f : Fput a H H') (h : H b = some o) (n : ∀ C dx fs, o ≠ .ins C dx fs) : H' b = some o := by
  rw [f.kp b fun e => ?_]
  · exact h
  · obtain ⟨C, fs, dx, q⟩ := f.old
    rw [e, q] at h
    exact n C dx fs (Option.some.inj h).symm
theorem Fput.gro {H' : Hp} (f : Fput a H H') : Gro H H' := ⟨(fun b xs e => f.at_ e fun _ _ _ z => by cases z), (fun b o u e => f.at_ e fun _ _ _ z => by cases z)⟩
theorem Fput.lst {b : Addr} {xs : List V} {H' : Hp} (f : Fput a H H') (h : H b = some (.lst xs)) : H' b = some (.lst xs) := f.at_ h fun _ _ _ z => by cases z
theorem Fput.tup {b : Addr} {xs : List V} {H' : Hp} (f : Fput a H H') (h : H b = some (.tup xs)) : H' b = some (.tup xs) := f.at_ h fun _ _ _ z => by cases z
theorem Fput.drw {b : Addr} {H' : Hp} (f : Fput a H H') (h : Drw H b) : Drw H' b := let ⟨x, y, e⟩ := h; ⟨x, y, f.lst e⟩
theorem Fput.fresh {b : Addr} {H' : Hp} {fs' : List (Str × V)} (f : Fput a H H') (hi : Ins H' a C fs') (h : H' b = none) : H b = none := by
  have n : b ≠ a := fun e => by
    obtain ⟨dx, q⟩ := hi
    rw [e, q] at h
    cases h
  rw [← f.kp b n]
  exact h
theorem Ins.fput {b C2 : Addr} {fs2 : List (Str × V)} {H' : Hp} (f : Fput b H H') (n : a ≠ b) (h : Ins H a C2 fs2) : Ins H' a C2 fs2 := let ⟨dx, e⟩ := h; ⟨dx, by rw [f.kp a n]; exact e⟩
def fldq (K : PySem.W.Frag) (f : Str) (x : V) (H : Hp) (Q : VK) : Prop := ∃ a C dx fs v, x = .ref a ∧ H a = some (.ins C dx fs) ∧ Cls K C ∧ NoAttr K C f ∧ fs.lookup f = some v ∧ Q v H
theorem r_fld (q : ta σ H fun x H1 => fldq K f x H1 Q) : tFld K ta f σ H Q := q
theorem r_fldv (h : Ins H a C fs) (c : Cls K C) (n : NoAttr K C f) (l : fs.lookup f = some v) (q : Q v H) : fldq K f (.ref a) H Q := let ⟨dx, e⟩ := h; ⟨a, C, dx, fs, v, rfl, e, c, n, l, q⟩
def sfldq (K : PySem.W.Frag) (f : Str) (y x : V) (σ : L2.St) (D : Ends) (H : Hp) : Prop := ∃ a C dx fs, x = .ref a ∧ H a = some (.ins C dx fs) ∧ Cls K C ∧ NoAttr K C f ∧ fs.length < 1000 ∧ D.nx σ (upd H a (.ins C dx (putF f y fs)))
theorem r_sfld (q : tv σ H fun y H1 => ta σ H1 fun x H2 => sfldq K f y x σ D H2) : sFld K ta tv f D σ H := q
theorem r_sfldv (h : Ins H a C fs) (c : Cls K C) (n : NoAttr K C f) (hl : fs.length < 1000) (e : putF f y fs = fs') (k : ∀ H', Ins H' a C fs' → Fput a H H' → D.nx σ H') : sfldq K f y (.ref a) σ D H := by
  obtain ⟨dx, he⟩ := h
  subst e
  exact ⟨a, C, dx, fs, rfl, he, c, n, hl, k _ ⟨dx, upd_same⟩ ⟨fun b hb => upd_ne hb, C, fs, dx, he⟩⟩
def methq (C : Addr) (m : Str) (x : V) (H : Hp) (P : Prop) : Prop := ∃ a dx fs, x = .ref a ∧ H a = some (.ins C dx fs) ∧ fs.lookup m = none ∧ P
theorem r_meth (q : ta σ H fun x H1 => methq C m x H1 (t σ H1 fun vs H2 => sp (x :: vs) H2 Q E)) : tMeth C m sp [] E ta t σ H Q := by
  show ta σ H fun x H1 => ∃ a dx fs, x = .ref a ∧ H1 a = some (.ins C dx fs) ∧ fs.lookup m = none ∧ t σ H1 fun vs H2 => sp (x :: (vs ++ [])) H2 Q E
  have e : (fun (x : V) H1 => ∃ a dx fs, x = .ref a ∧ H1 a = some (.ins C dx fs) ∧ fs.lookup m = none ∧ t σ H1 fun vs H2 => sp (x :: (vs ++ [])) H2 Q E) = fun (x : V) H1 => methq C m x H1 (t σ H1 fun vs H2 => sp (x :: vs) H2 Q E) := by
    funext x H1
    have e2 : (fun (vs : List V) H2 => sp (x :: (vs ++ [])) H2 Q E) = fun vs H2 => sp (x :: vs) H2 Q E := by
      funext vs H2
      rw [List.append_nil]
    rw [e2]
    rfl
  rw [e]
  exact q
theorem r_methv (h : Ins H a C fs) (l : fs.lookup m = none) (q : P) : methq C m (.ref a) H P := let ⟨dx, e⟩ := h; ⟨a, dx, fs, rfl, e, l, q⟩
/-- a new instance, then __init__ -/
def makeq (C : Addr) (sp : Sp) (E : XK) (vs : List V) (H : Hp) (Q : VK) : Prop := ∀ x dx, H x = none → H dx = none → dx ≠ x → sp (.ref x :: vs) (upd (upd H dx (.own x)) x (.ins C dx [])) (fun v H2 => v = .non ∧ Q (.ref x) H2) E
theorem r_make (q : t σ H fun vs H1 => makeq C sp E vs H1 Q) : tMake C sp [] E t σ H Q := by
  have e : (fun (vs : List V) (H1 : Hp) => ∀ x dx, H1 x = none → H1 dx = none → dx ≠ x → sp (.ref x :: (vs ++ [])) (upd (upd H1 dx (.own x)) x (.ins C dx [])) (fun v H2 => v = .non ∧ Q (.ref x) H2) E) = fun (vs : List V) (H1 : Hp) => makeq C sp E vs H1 Q := by
    funext vs H1
    rw [List.append_nil]
    rfl
  show t σ H fun (vs : List V) (H1 : Hp) => ∀ x dx, H1 x = none → H1 dx = none → dx ≠ x → sp (.ref x :: (vs ++ [])) (upd (upd H1 dx (.own x)) x (.ins C dx [])) (fun v H2 => v = .non ∧ Q (.ref x) H2) E
  rw [e]
  exact q
theorem r_makev {vs : List V} (k : ∀ x H', H x = none → Same H H' → Ins H' x C [] → sp (.ref x :: vs) H' (fun v H2 => v = .non ∧ Q (.ref x) H2) E) : makeq C sp E vs H Q := fun x dx nx nd ne =>
  k x _ nx (fun b o e => by rw [upd_ne (ne_of_none e nx), upd_ne (ne_of_none e nd)]; exact e) ⟨dx, upd_same⟩
theorem r_non (q : P) : V.non = V.non ∧ P := ⟨rfl, q⟩
end
/-! looking up in short lists of attributes -/
theorem lk_hd {f : Str} {v : V} {r : List (Str × V)} : List.lookup f ((f, v) :: r) = some v := by
  have e : (f == f) = true := beq_self_eq_true f
  simp only [List.lookup, e]
theorem lk_tl {f g : Str} {v : V} {r : List (Str × V)} {o : Option V} (h : (f == g) = false) (e : r.lookup f = o) : List.lookup f ((g, v) :: r) = o := by
  simp only [List.lookup, h]
  exact e
theorem lk_nil {f : Str} : List.lookup f ([] : List (Str × V)) = none := rfl
theorem pf_nil {f : Str} {v : V} : putF f v [] = [(f, v)] := rfl
theorem pf_hd {f : Str} {v x : V} {r : List (Str × V)} : putF f v ((f, x) :: r) = (f, v) :: r := by
  rw [putF, if_pos rfl]
theorem pf_tl {f g : Str} {v x : V} {r r' : List (Str × V)} (h : (g == f) = false) (e : putF f v r = r') : putF f v ((g, x) :: r) = (g, x) :: r' := by
  rw [putF, if_neg (beq_eq_false_iff_ne.mp h), e]
section
variable {X : Cx} {K : PySem.W.Frag} {H : Hp} {Q : VK}
theorem call_strU : CallR X (.type "str") uStr := by
  refine callw (call_str_int.or SkE.call_str_str) fun xs H Q h => ?_
  match xs, h with
  | [.int i], h => exact .inl ⟨_, rfl, h.1, h.2⟩
  | [.str a], h => exact .inr ⟨_, rfl, h⟩
theorem r_strI {n : Int} (h : n.natAbs.log2 < 1920) (q : Q (.str (toString n)) H) : uStr [.int n] H Q := ⟨h, q⟩
theorem r_strS {s : Str} (q : Q (.str s) H) : uStr [.str s] H Q := q
end
theorem inV_str (ss : List Str) (z : Str) : inV (.str z) (ss.map V.str) = decide (z ∈ ss) := by
  by_cases h : z ∈ ss
  · rw [decide_eq_true h]
    unfold inV
    rw [List.any_eq_true]
    exact ⟨.str z, List.mem_map_of_mem h, by simp [eqV]⟩
  · rw [decide_eq_false h]
    exact inV_no fun s hs e => h (e ▸ hs)
section
variable {K : PySem.W.Frag} {H : Hp} {Q : VK} {p : Addr} {ss : List Str} {z : Str}
theorem r_inTs (h : H p = some (.tup (ss.map V.str))) (q : Q (.bl (decide (z ∈ ss))) H) : uIn K (.str z) (.ref p) H Q := r_inT h rfl (flat_strs _) (by rw [inV_str]; exact q)
theorem r_inLs (h : H p = some (.lst (ss.map V.str))) (q : Q (.bl (decide (z ∈ ss))) H) : uIn K (.str z) (.ref p) H Q := r_inL h rfl (flat_strs _) (by rw [inV_str]; exact q)
end
section
variable {K : PySem.W.Frag} {H : Hp} {Q : VK} {p : Addr} {z : Str} {n : Int} {b : Bool}
theorem r_isNN (q : Q (.bl true) H) : uIs .non .non H Q := q
theorem r_isNS (q : Q (.bl false) H) : uIs (.str z) .non H Q := q
theorem r_isNI (q : Q (.bl false) H) : uIs (.int n) .non H Q := q
theorem r_isNR (q : Q (.bl false) H) : uIs (.ref p) .non H Q := q
theorem r_isNB (q : Q (.bl false) H) : uIs (.bl b) .non H Q := q
theorem r_isnotNN (q : Q (.bl false) H) : uIsNot .non .non H Q := q
theorem r_isnotNS (q : Q (.bl true) H) : uIsNot (.str z) .non H Q := q
theorem r_isnotNI (q : Q (.bl true) H) : uIsNot (.int n) .non H Q := q
theorem r_isnotNR (q : Q (.bl true) H) : uIsNot (.ref p) .non H Q := q
theorem r_isnotNB (q : Q (.bl true) H) : uIsNot (.bl b) .non H Q := q
end
/-! data that may be compared -/
structure Okd (n : Nat) (d : PyData) : Prop where
  nb : nb d = true
  dp : d.depth ≤ n
theorem Okd.le {n m : Nat} {d : PyData} (h : Okd n d) (k : n ≤ m) : Okd m d := ⟨h.nb, Nat.le_trans h.dp k⟩
theorem Okd.str {n : Nat} {s : Str} (h : Asc s) : Okd n (.str s) := ⟨by rw [Dk.nb]; exact h.ok, by simp [PyData.depth]⟩
theorem Okd.non {n : Nat} : Okd n .none := ⟨by simp [Dk.nb], by simp [PyData.depth]⟩
theorem Okd.int {n : Nat} (i : Int) : Okd n (.int i) := ⟨by simp [Dk.nb], by simp [PyData.depth]⟩
theorem okd_all {n : Nat} : ∀ {ds : List PyData}, (∀ d ∈ ds, Okd n d) → nbs ds = true ∧ PyData.depthAll ds ≤ n
  | [], _ => ⟨by simp [nbs], by simp [PyData.depthAll]⟩
  | d :: ds, h => by
    have h1 := h d List.mem_cons_self
    have h2 := okd_all fun e he => h e (List.mem_cons_of_mem _ he)
    refine ⟨by rw [nbs, h1.nb, h2.1] <;> rfl, ?_⟩
    rw [PyData.depthAll]
    have := h1.dp
    omega
theorem Okd.tup {n : Nat} {ds : List PyData} (h : ∀ d ∈ ds, Okd n d) : Okd (n + 1) (.tuple ds) := by
  have q := okd_all h
  refine ⟨by rw [Dk.nb]; exact q.1, ?_⟩
  rw [PyData.depth]
  omega
theorem Okd.shaped {n : Nat} {d : PyData} (h : Okd n d) (k : n ≤ 64) : SeqAt.shaped d = true := nb_shaped h.nb (Nat.le_trans h.dp k)
theorem Okd.sD {n : Nat} {ss : List Str} (h : ∀ s ∈ ss, Asc s) : Okd (n + 1) (sD ss) := by
  refine .tup fun d hd => ?_
  obtain ⟨s, hs, rfl⟩ := List.mem_map.mp hd
  exact .str (h s hs)
section
variable {K : PySem.W.Frag} {H : Hp} {Q : VK} {p : Addr} {y : V} {d f : PyData} {n : Nat}
theorem r_neOk (hx : Dq H (.ref p) d) (hy : Dq H y d) (ok : Okd n d) (hn : n ≤ 64) (q : Q (.bl false) H) : uNe K (.ref p) y H Q := by
  refine r_neD hx hy (ok.shaped hn) (ok.shaped hn) ?_
  rw [eqv_self ok.nb]
  exact q
theorem r_eqOk (hx : Dq H (.ref p) d) (hy : Dq H y d) (ok : Okd n d) (hn : n ≤ 64) (q : Q (.bl true) H) : uEq K (.ref p) y H Q := by
  refine r_eqD hx hy (ok.shaped hn) (ok.shaped hn) ?_
  rw [eqv_self ok.nb]
  exact q
end
theorem len_cut (z : Str) (lo hi : Option Int) : (cutS z lo hi).length ≤ z.length := by
  show (((z.cps.toList.drop _).take _).toArray).size ≤ z.cps.size
  rw [List.size_toArray, List.length_take, List.length_drop, Array.length_toList]
  omega
/-- a list alone is changed -/
theorem gro_but {H H' : Hp} {a : Addr} {xs : List V} (h : H a = some (.lst xs)) (k : ∀ b, b ≠ a → H' b = H b) : Gro H H' := by
  refine ⟨fun b ys q => ?_, fun b o u q => ?_⟩
  · rw [k b (ne_of q h (by intro z; cases z))]
    exact q
  · rw [k b (ne_of q h (by intro z; cases z))]
    exact q
/-! an attribute changed by an operator -/
section
variable {K : PySem.W.Frag} {σ : L2.St} {H : Hp} {D : Ends} {ta tv : TE} {C a : Addr} {f : Str} {fs fs' : List (Str × V)} {v x y z : V} {rd : V → V → Hp → VK → Prop}
def augq (K : PySem.W.Frag) (f : Str) (tv : TE) (rd : V → V → Hp → VK → Prop) (x : V) (σ : L2.St) (D : Ends) (H1 : Hp) : Prop := ∃ a C dx fs v, x = .ref a ∧ H1 a = some (.ins C dx fs) ∧ Cls K C ∧ NoAttr K C f ∧ fs.lookup f = some v ∧
  tv σ H1 fun y H2 => rd v y H2 fun z H3 => ∃ dx' fs', H3 a = some (.ins C dx' fs') ∧ fs'.length < 1000 ∧ D.nx σ (upd H3 a (.ins C dx' (putF f z fs')))
def putq (a C : Addr) (f : Str) (σ : L2.St) (D : Ends) : VK := fun z H3 => ∃ dx' fs', H3 a = some (.ins C dx' fs') ∧ fs'.length < 1000 ∧ D.nx σ (upd H3 a (.ins C dx' (putF f z fs')))
theorem r_fldaug (q : ta σ H fun x H1 => augq K f tv rd x σ D H1) : sFldAug K ta tv rd f D σ H := q
theorem r_augq (h : Ins H a C fs) (c : Cls K C) (n : NoAttr K C f) (l : fs.lookup f = some v) (q : tv σ H fun y H2 => rd v y H2 (putq a C f σ D)) : augq K f tv rd (.ref a) σ D H := let ⟨dx, e⟩ := h; ⟨a, C, dx, fs, v, rfl, e, c, n, l, q⟩
theorem r_inAdd {i j : Int} {Q : VK} (q : Q (.int (i + j)) H) : rAdd (.int i) (.int j) H Q := ⟨i, j, rfl, rfl, q⟩
theorem r_inSub {i j : Int} {Q : VK} (q : Q (.int (i - j)) H) : rSub (.int i) (.int j) H Q := ⟨i, j, rfl, rfl, q⟩
theorem r_putq (h : Ins H a C fs) (hl : fs.length < 1000) (e : putF f z fs = fs') (k : ∀ H', Ins H' a C fs' → Fput a H H' → D.nx σ H') : putq a C f σ D z H := by
  obtain ⟨dx, he⟩ := h
  subst e
  exact ⟨dx, fs, he, hl, k _ ⟨dx, upd_same⟩ ⟨fun b hb => upd_ne hb, C, fs, dx, he⟩⟩
end
theorem get_mapG {α β : Type} {f : α → β} {xs : List α} {i : Nat} {y : β} (h : (xs.map f)[i]? = some y) : ∃ x, xs[i]? = some x ∧ f x = y := by
  rw [List.getElem?_map] at h
  cases e : xs[i]? with
  | none =>
    rw [e] at h
    cases h
  | some x =>
    rw [e] at h
    exact ⟨x, rfl, Option.some.inj h⟩
end Dk

/-! Defs that raise, own exceptions, except clauses. -/
namespace Dk
open PySem PySem.Spec PyProof.Rows L2
/-- an exception class of the program without its own __init__ -/
def Xco (K : PySem.W.Frag) (C : Addr) : Prop := PySem.W.excIn K C He.veBase "ValueError.__new__" = true ∧ PySem.W.keepIn K (.ref C) = true ∧ PySem.W.subIn K (.ref C) (.type "BaseException") = some true ∧ PySem.W.typeIn K (.ref C) = some (.type "type")
section
variable {e : Wd} {C : Addr} {m x qual : Str} {st : Stmt} {N ps : List Str} {k : Nat} {sp : Sp}
abbrev cxX (e : Wd) (N : List Str) (qual : Str) (scope : Scope) (f : Addr) (cdv : Value) (A : Around) (outer : List Env) (s : Shared) (H : Hp) (E : XK) : Cx := cxOf (L2.CX e.P e.w) e.P e.w e.K e.mg e.base N qual scope f cdv A outer s H E
/-- what a raising body has to show -/
abbrev BodyX (e : Wd) (qual : Str) (st : Stmt) (N : List Str) (k : Nat) (sp : Sp) : Prop :=
  ∀ (cdv : Value) (f : Addr) (A : Around) (outer : List Env) (s : Shared) (H : Hp) (vs : List V) (Q : VK) (E : XK), Room k (A.deeper (envOfC qual (defScope st) s.heap.objs.size f cdv)) → sp vs H Q E →
    Takes (cxX e N qual (defScope st) f cdv A outer s H E) (fun cls d _ H' => E cls d H') → PassesOwn (model e.P e.w) (cxX e N qual (defScope st) f cdv A outer s H E).A (cxX e N qual (defScope st) f cdv A outer s H E).env (cxX e N qual (defScope st) f cdv A outer s H E).xe →
    ∃ t, PSs (cxX e N qual (defScope st) f cdv A outer s H E) (defBody st) t ∧ t { nx := fun _ H' => Q .non H', rt := Q } (start N vs) H
theorem fnokX {f : Addr} {fd : FuncData} (F : FunD e.K x qual (defArgs st) (defBody st) (defScope st) [] [] f fd) (S : FnScope N ps (defScope st)) (len : ∀ vs H Q E, sp vs H Q E → vs.length = ps.length) (hb : BodyX e qual st N k sp) : FnOk e.P e.w e.K e.mg e.base (L2.CX e.P e.w) (k + 1) f fd ps sp :=
  F.ok S len fun cdv A outer s H vs Q E hr h => hb cdv f A outer s H vs Q E hr h (takes_of rfl rfl rfl rfl) (passes_of rfl)
theorem canX_of (D : DefAt e x st) (S : FnScope N ps (defScope st)) (B : BindOk x st ps) (len : ∀ vs H Q E, sp vs H Q E → vs.length = ps.length) (hb : BodyX e x st N k sp) : Can e (k + 1) x ps sp := by
  obtain ⟨f, fd, F, m⟩ := D
  exact ⟨f, fd, fnokX F S len hb, m, F.kp, F.bindsN B⟩
theorem canMX_of (D : MethAt e C m qual st) (S : FnScope N ps (defScope st)) (B : BindQ m qual st ps) (len : ∀ vs H Q E, sp vs H Q E → vs.length = ps.length) (hb : BodyX e qual st N k sp) : CanM e (k + 1) C m ps sp := by
  obtain ⟨f, fd, F, M, c⟩ := D
  exact ⟨f, fd, fnokX F S len hb, c, M, F.bindsN B⟩
end
/-! ### calls that may raise -/
section
variable {X : Cx} {W : WX} {k : Nat} {C : Addr} {m x : Str} {ps : List Str} {sp : Sp} {o e : Expr} {es : List Expr} {p pos apos : Pos} {ta : TE} {t : TA}
theorem pe_canX (tk : Takes X W) (c : Can (wdOf X) k x ps sp) (hr : Room k X.A) (ha : PA X (e :: es) t) (hg : Gl X x := by rfl)
    (hdb : (x == ("__debug__" : Str)) = false := by decide) (he : starEach (e :: es) X.env = (false, eval e X.env) :: starEach es X.env := by rfl) (hpl : (backTo pos (starEach es X.env)).any (·.1) = false := by rfl) : PE X (.Call (.Name x p) (e :: es) [] pos) (tCallS sp (WE W) t) := by
  obtain ⟨f, fd, F, m, kp, b⟩ := c
  exact pe_callS F hr hg m kp b (fun σ => passAt tk σ) ha hdb he hpl
theorem pe_canX0 (tk : Takes X W) (c : Can (wdOf X) k x ps sp) (hr : Room k X.A) (hg : Gl X x := by rfl) (hdb : (x == ("__debug__" : Str)) = false := by decide) : PE X (.Call (.Name x p) [] [] pos) (tCallS sp (WE W) tNil) := by
  obtain ⟨f, fd, F, m, kp, b⟩ := c
  exact ⟨fun pins s σ H Q I h => wpAny_Call_Name_kw (ld_glob I hg m (PySem.W.callWith_K0 I.kIn kp (run_fnS (us := []) F hr b (passAt tk σ) I .nil h)) hdb)⟩
/-- o.m(..) that may raise -/
def tMethX (C : Addr) (m : Str) (sp : Sp) (E : L2.St → XK) (ta : TE) (t : TA) : TE := fun σ H Q => ta σ H fun x H1 => methq C m x H1 (t σ H1 fun vs H2 => sp (x :: vs) H2 Q (E σ))
theorem pe_canMX {pl : Sem Bool} (tk : Takes X W) (c : CanM (wdOf X) k C m ps sp) (hr : Room k X.A) (he : PE X o ta) (ha : PA X (e :: es) t)
    (hst : starEach (e :: es) X.env = (false, eval e X.env) :: starEach es X.env := by rfl) (hpl : (backTo pos (starEach es X.env)).any (·.1) = false := by rfl)
    (ht : eval (.Call (.Attribute o m apos) (e :: es) [] pos) X.env = (do let ov ← eval o X.env; standAt apos.atName; let (f, first) ← holding [ov] (getMethod ov m pl); callWith pos f first (backTo pos (starEach (e :: es) X.env)) (backToKw pos (keywordEach [] X.env))) := by rfl) :
    PE X (.Call (.Attribute o m apos) (e :: es) [] pos) (tMethX C m sp (WE W) ta t) := by
  obtain ⟨f, fd, F, c, M, b⟩ := c
  refine ⟨fun pins s σ H Q I h => PySem.W.methodCall_KW (pl := pl) (thn (he.run pins s σ H _ I h) fun u s1 ⟨x, H1, I1, rx, a, dx, fs, ex, ea, l, q⟩ => ?_) ht⟩
  cases ex
  cases rx
  exact getmeth_ok I1 ea c M l (PySem.W.callWith_K (first := [.ref a]) (h₀ := X.base) I.ok.mod.kin M.kp (thn (ha.run pos pins s1 σ H1 _ I1 q) fun us s2 ⟨vs, H2, I2, r, q2⟩ => ⟨I2.kIn, run_fnS (us := .ref a :: us) (vs := .ref a :: vs) F hr b (passAt tk σ) I2 (.cons rfl r) q2⟩) hst hpl)
theorem pe_canMX0 {pl : Sem Bool} (tk : Takes X W) (c : CanM (wdOf X) k C m ps sp) (hr : Room k X.A) (he : PE X o ta)
    (ht : eval (.Call (.Attribute o m apos) [] [] pos) X.env = (do let ov ← eval o X.env; standAt apos.atName; let (f, first) ← holding [ov] (getMethod ov m pl); callWith pos f first (backTo pos (starEach [] X.env)) (backToKw pos (keywordEach [] X.env))) := by rfl) :
    PE X (.Call (.Attribute o m apos) [] [] pos) (tMethX C m sp (WE W) ta tNil) := by
  obtain ⟨f, fd, F, c, M, b⟩ := c
  refine ⟨fun pins s σ H Q I h => PySem.W.methodCall_KW (pl := pl) (thn (he.run pins s σ H _ I h) fun u s1 ⟨x, H1, I1, rx, a, dx, fs, ex, ea, l, q⟩ => ?_) ht⟩
  cases ex
  cases rx
  exact getmeth_ok I1 ea c M l (PySem.W.callWith_K0 (first := [.ref a]) I1.kIn M.kp (run_fnS (us := [.ref a]) (vs := [.ref a]) F hr b (passAt tk σ) I1 (.cons rfl .nil) q))
end
/-! ### raise -/
section
variable {X : Cx} {W : WX} {K : PySem.W.Frag} {C : Addr} {x : Str} {e : Expr} {p pos : Pos} {ta : TE} {t : L2.St → Hp → XK → Prop} {D : Ends} {σ : L2.St} {H : Hp} {cls : Value} {d : Option Addr} {i : Nat} {ts : Addr → Value → Option Addr → TS} {Wout : WX}
def tMk0 (C : Addr) : L2.St → Hp → XK → Prop := fun _ H Q => Q (.ref C) none H
def tMk1 (C : Addr) (ta : TE) : L2.St → Hp → XK → Prop := fun σ H Q => ta σ H fun _ H1 => Q (.ref C) none H1
theorem mk0 (xo : Xco X.K C) (g : X.mg x = some (.ref C)) (hg : Gl X x := by rfl) (hdb : (x == ("__debug__" : Str)) = false := by decide) : PMk X (.Call (.Name x p) [] [] pos) (tMk0 C) := by
  obtain ⟨h1, h2, h3, h4⟩ := xo
  intro pins s σ H Q I h
  obtain ⟨bm, N, nm, qn, bs, hdct, sn, sub, ab, col, dd, k0, k1, k2, k3, k5, mN, hC, hN, hni, T⟩ := exc_obj I.kIn h1
  refine wpAny_Call_Name_kw (ld_glob I hg g (PySem.W.callWith_K0 I.kIn h2 ?_) hdb)
  show wpAny _ _ (call (.ref C) []) _ _ _
  exact wpAny_call_exc_subT PySem.F.excBase_ValueError T hC hN hni (fun h' e hm => mk_of I hm (raises_own h3 h4) h (I.hok.gone hm.new)) (Nat.zero_le _)
theorem mk1 (xo : Xco X.K C) (g : X.mg x = some (.ref C)) (he : PE X e ta) (hg : Gl X x := by rfl) (hs : starEach [e] X.env = (false, eval e X.env) :: starEach [] X.env := by rfl) (hdb : (x == ("__debug__" : Str)) = false := by decide) :
    PMk X (.Call (.Name x p) [e] [] pos) (tMk1 C ta) := by
  obtain ⟨h1, h2, h3, h4⟩ := xo
  exact SkE.pmk_own1 PySem.F.excBase_ValueError h1 g h2 (raises_own h3 h4) hg he hs hdb
def tRaise (t : L2.St → Hp → XK → Prop) (W : WX) : TS := fun _ σ H => t σ H fun cls d H' => W cls d σ H'
theorem ps_raiseU (hc : X.calm = true) (tk : Takes X W) (he : PMk X e t) : PS X (.Raise (some e) none pos) (tRaise t W) := ps_raise hc tk he
/-- a statement that is not reached -/
theorem ps_never {s : Stmt} : PS X s (fun _ _ _ => False) := ⟨fun _ _ _ _ _ _ h => h.elim⟩
theorem r_raise0 (q : W (.ref C) none σ H) : tRaise (tMk0 C) W D σ H := q
theorem r_raise1 (q : ta σ H fun _ H1 => W (.ref C) none σ H1) : tRaise (tMk1 C ta) W D σ H := q
/-! ### except clauses -/
/-- what an exception finds: the clause, or nothing -/
def tTryA (K : PySem.W.Frag) (c : Value) (i : Nat) (ts : Addr → Value → Option Addr → TS) (Wout : WX) (tb : WX → TS) : TS := fun D σ H => tb (wAs K c i ts Wout D) D σ H
def tTryO (K : PySem.W.Frag) (c : Value) (ts : Addr → Value → Option Addr → TS) (Wout : WX) (tb : WX → TS) : TS := fun D σ H => tb (wOnly K c ts Wout D) D σ H
theorem r_tryA {tb : WX → TS} (q : tb (wAs K (.ref C) i ts Wout D) D σ H) : tTryA K (.ref C) i ts Wout tb D σ H := q
theorem r_tryO {tb : WX → TS} (q : tb (wOnly K (.ref C) ts Wout D) D σ H) : tTryO K (.ref C) ts Wout tb D σ H := q
theorem r_wAsT {c : Value} (h : PySem.W.exmOne K cls c = some true) (k : ∀ a, H a = none → ts a cls d { nx := fun σ' H' => D.nx (σ'.set i none) H', rt := D.rt, bk := fun σ' H' => D.bk (σ'.set i none) H', ct := fun σ' H' => D.ct (σ'.set i none) H' } (σ.set i (some (.ref a))) H) : wAs K c i ts Wout D cls d σ H :=
  ⟨true, h, fun _ => k, (fun z => absurd z.symm Bool.false_ne_true)⟩
theorem r_wAsF {c : Value} (h : PySem.W.exmOne K cls c = some false) (k : Wout cls d σ H) : wAs K c i ts Wout D cls d σ H := ⟨false, h, (fun z => absurd z Bool.false_ne_true), fun _ => k⟩
theorem r_wOnlyT {c : Value} (h : PySem.W.exmOne K cls c = some true) (k : ∀ a, H a = none → ts a cls d D σ H) : wOnly K c ts Wout D cls d σ H := ⟨true, h, fun _ => k, (fun z => absurd z.symm Bool.false_ne_true)⟩
theorem r_wOnlyF {c : Value} (h : PySem.W.exmOne K cls c = some false) (k : Wout cls d σ H) : wOnly K c ts Wout D cls d σ H := ⟨false, h, (fun z => absurd z Bool.false_ne_true), fun _ => k⟩
/-- isinstance(e, a class) of the exception in hand -/
def rIsX (K : PySem.W.Frag) (cls : Value) (d : Option Addr) (a : Addr) : List V → Hp → VK → Prop := fun xs H Q => ∃ D, cls = .ref D ∧ d = none ∧ ExcC K D ∧ rIsE K D a xs H Q
theorem call_isX {a : Addr} {oe : Obj} {pn : List (Addr × Obj)} (hz : Zc cls d oe) (hf : ∃ vs, oe.data = .fields vs) (hK : X.K = K := by rfl) : CallR (X.suite a ((a, oe) :: pn)) (.builtin "isinstance") (rIsX K cls d a) := by
  subst hK
  intro pins s σ H xs us Q I r ⟨D, e1, e2, c, q⟩
  subst e1 e2
  exact call_isE c hz hf pins s σ H xs us Q I r q
theorem r_isX {a D2 : Addr} {b : Bool} {Q : VK} (h : ExcC K C) (hk : PySem.W.kitOne K (.ref C) (.ref D2) = some b) (q : Q (.bl b) H) : rIsX K (.ref C) none a [.ref a, .ref D2] H Q :=
  ⟨C, rfl, rfl, h, .ref D2, .ref D2, b, rfl, fun u r => r, hk, q⟩
theorem r_isXt {a : Addr} {n : String} {b : Bool} {Q : VK} (h : ExcC K C) (hk : PySem.W.kitOne K (.ref C) (.type n) = some b) (q : Q (.bl b) H) : rIsX K (.ref C) none a [.ref a, .ty n] H Q :=
  ⟨C, rfl, rfl, h, .ty n, .type n, b, rfl, fun u r => r, hk, q⟩
end
/-! ### readings of calls that may raise -/
section
variable {σ : L2.St} {H : Hp} {Q : VK} {ta : TE} {t : TA} {C : Addr} {m : Str} {sp : Sp} {E : L2.St → XK} {W : WX}
theorem r_callS (q : t σ H fun vs H1 => sp vs H1 Q (E σ)) : tCallS sp E t σ H Q := q
theorem r_methX (q : ta σ H fun x H1 => methq C m x H1 (t σ H1 fun vs H2 => sp (x :: vs) H2 Q (E σ))) : tMethX C m sp E ta t σ H Q := q
end
section
variable {X : Cx} {K : PySem.W.Frag} {x n : Str} {C : Addr} {i : Nat} {body suite : List Stmt} {b₀ : Stmt} {np pos pos' : Pos} {tb : WX → TS} {ts : Addr → Value → Option Addr → TS} {Wout : WX}
theorem ps_tryA (hs : X.stack = X.env :: X.outer) (hf : X.env.frame = some X.env.locals) (hN : X.N.Nodup) (hi : X.N[i]? = some n) (hln : X.env.kindOf n = some .local) (hc : Names X x (.ref C)) (tk : Takes X Wout)
    (hb : ∀ (W : WX) (pn : List (Addr × Obj)) (xe : Value → Shared → Prop), Takes (X.tr pn xe) W → PassesOwn (model X.prog X.w) X.A X.env xe → PSs (X.tr pn xe) body (tb W))
    (hsu : ∀ (a : Addr) (oe : Obj) (cls : Value) (d : Option Addr) (pn : List (Addr × Obj)), Zc cls d oe → (∃ vs, oe.data = .fields vs) → PSs (X.suite a ((a, oe) :: pn)) (b₀ :: suite) (ts a cls d)) (hK : X.K = K := by rfl) :
    PS X (.Try body [.ExceptHandler (some (.Name x np)) (some n) (b₀ :: suite) pos'] [] [] pos) (tTryA K (.ref C) i ts Wout tb) := by
  subst hK
  exact ps_try_as hs hf hN hi hln hc tk hb hsu
theorem ps_tryO (hs : X.stack = X.env :: X.outer) (hf : X.env.frame = some X.env.locals) (hc : Names X x (.ref C)) (tk : Takes X Wout)
    (hb : ∀ (W : WX) (pn : List (Addr × Obj)) (xe : Value → Shared → Prop), Takes (X.tr pn xe) W → PassesOwn (model X.prog X.w) X.A X.env xe → PSs (X.tr pn xe) body (tb W))
    (hsu : ∀ (a : Addr) (oe : Obj) (cls : Value) (d : Option Addr) (pn : List (Addr × Obj)), Zc cls d oe → (∃ vs, oe.data = .fields vs) → PSs (X.suite a ((a, oe) :: pn)) (b₀ :: suite) (ts a cls d)) (hK : X.K = K := by rfl) :
    PS X (.Try body [.ExceptHandler (some (.Name x np)) none (b₀ :: suite) pos'] [] [] pos) (tTryO K (.ref C) ts Wout tb) := by
  subst hK
  exact ps_try_only hs hf hc tk hb hsu
/-- a class of the module by its name -/
theorem pe_gc (h : X.mg x = some (.ref C)) (hg : Gl X x := by rfl) (hd : (x == ("__debug__" : Str)) = false := by decide) : PE X (.Name x pos) (tC (.ref C)) := pe_glob hg h rfl hd
def uAll (K : PySem.W.Frag) : List V → Hp → VK → Prop := fun vs H Q => ∃ (a : Addr) (bs : List Bool), vs = [V.ref a] ∧ SqL K H a (bs.map V.bl) ∧ Q (.bl (bs.all id)) H
def uAny (K : PySem.W.Frag) : List V → Hp → VK → Prop := fun vs H Q => ∃ (a : Addr) (bs : List Bool), vs = [V.ref a] ∧ SqL K H a (bs.map V.bl) ∧ Q (.bl (bs.any id)) H
theorem call_allU (hc : X.calm = true) (hK : X.K = K := by rfl) : CallR X (.builtin "all") (uAll K) := by
  subst hK
  exact cr_all hc
theorem call_anyU (hc : X.calm = true) (hK : X.K = K := by rfl) : CallR X (.builtin "any") (uAny K) := by
  subst hK
  exact cr_any hc
variable {H : Hp} {Q : VK} {a : Addr} {bs : List Bool}
theorem r_all (h : H a = some (.lst (bs.map V.bl))) (q : Q (.bl (bs.all id)) H) : uAll K [.ref a] H Q := ⟨a, bs, rfl, SqL.of h, q⟩
theorem r_any (h : H a = some (.lst (bs.map V.bl))) (q : Q (.bl (bs.any id)) H) : uAny K [.ref a] H Q := ⟨a, bs, rfl, SqL.of h, q⟩
end
end Dk

/-! Objects that change: trees of lists and instances, each object once. -/
namespace Dk
open PySem PySem.Spec PyProof.Rows L2
inductive Tr where
  | dat (d : PyData)
  | lst (ts : List Tr)
  | tup (ts : List Tr)
  | ins (C : Addr) (ns : List Str) (ts : List Tr)
mutual
/-- v is the tree t; its own objects stand at fp -/
inductive Own (H : Hp) : V → Tr → List Addr → Prop
  | dat {v : V} {d : PyData} : Dq H v d → Own H v (.dat d) []
  | lst {a : Addr} {vs : List V} {ts : List Tr} {fp : List Addr} : H a = some (.lst vs) → Owns H vs ts fp → a ∉ fp → Own H (.ref a) (.lst ts) (a :: fp)
  | tup {a : Addr} {vs : List V} {ts : List Tr} {fp : List Addr} : H a = some (.tup vs) → Owns H vs ts fp → Own H (.ref a) (.tup ts) fp
  | ins {a dx C : Addr} {fs : List (Str × V)} {ns : List Str} {ts : List Tr} {fp : List Addr} : H a = some (.ins C dx fs) → fs.map (·.1) = ns → Owns H (fs.map (·.2)) ts fp → a ∉ fp → Own H (.ref a) (.ins C ns ts) (a :: fp)
inductive Owns (H : Hp) : List V → List Tr → List Addr → Prop
  | nil : Owns H [] [] []
  | cons {v : V} {t : Tr} {fp : List Addr} {vs : List V} {ts : List Tr} {gp : List Addr} : Own H v t fp → Owns H vs ts gp → (∀ b ∈ fp, b ∉ gp) → Owns H (v :: vs) (t :: ts) (fp ++ gp)
end
/-- no place in common -/
def Dsj (fp gp : List Addr) : Prop := ∀ b ∈ fp, b ∉ gp
theorem Dsj.symm {fp gp : List Addr} (h : Dsj fp gp) : Dsj gp fp := fun b h1 h2 => h b h2 h1
/-- a step that changes what stands at F, which is F' behind it -/
structure Chg (F F' : List Addr) (H H' : Hp) : Prop where
  kp : ∀ b o, H b = some o → b ∉ F → H' b = some o
  nw : ∀ b ∈ F', b ∈ F ∨ H b = none
  gro : Gro H H'
theorem Chg.refl (F : List Addr) (H : Hp) : Chg F F H H := ⟨fun _ _ h _ => h, fun _ h => .inl h, Gro.refl H⟩
theorem Chg.trans {F F1 F2 : List Addr} {H H1 H2 : Hp} (a : Chg F F1 H H1) (b : Chg F1 F2 H1 H2) : Chg F F2 H H2 := by
  refine ⟨fun c o h n => b.kp c o (a.kp c o h n) fun m => ?_, fun c hc => ?_, a.gro.trans b.gro⟩
  · rcases a.nw c m with z | z
    · exact n z
    · rw [z] at h
      cases h
  · rcases b.nw c hc with z | z
    · exact a.nw c z
    · by_cases m : c ∈ F
      · exact .inl m
      · right
        cases q : H c with
        | none => rfl
        | some o =>
          rw [a.kp c o q m] at z
          cases z
theorem Chg.same {F : List Addr} {H H' : Hp} (s : Same H H') : Chg F F H H' := ⟨fun b o h _ => s b o h, fun _ h => .inl h, Gro.same s⟩
theorem Chg.snd {F F' : List Addr} {H H1 H2 : Hp} (a : Chg F F' H H1) (s : Same H1 H2) : Chg F F' H H2 := a.trans (Chg.same s)
theorem Chg.le {F F' G : List Addr} {H H' : Hp} (a : Chg F F' H H') (h : ∀ b ∈ G, b ∈ F') : Chg F G H H' := ⟨a.kp, fun b hb => a.nw b (h b hb), a.gro⟩
/-- more may be changed than is -/
theorem Chg.wide {F F' G : List Addr} {H H' : Hp} (a : Chg F F' H H') : Chg (F ++ G) (F' ++ G) H H' :=
  ⟨fun b o h n => a.kp b o h fun m => n (List.mem_append_left _ m), fun b hb => (List.mem_append.mp hb).elim (fun z => (a.nw b z).elim (fun y => .inl (List.mem_append_left _ y)) .inr) fun z => .inl (List.mem_append_right _ z), a.gro⟩
theorem Chg.at_ {F F' : List Addr} {H H' : Hp} {b : Addr} {o : HO} (c : Chg F F' H H') (h : H b = some o) (n : b ∉ F) : H' b = some o := c.kp b o h n
theorem Chg.drw {F F' : List Addr} {H H' : Hp} {a : Addr} (c : Chg F F' H H') (h : Drw H a) (n : a ∉ F) : Drw H' a := let ⟨x, y, e⟩ := h; ⟨x, y, c.kp a _ e n⟩
theorem Chg.out {F F' : List Addr} {H H' : Hp} {b : Addr} {o : HO} (c : Chg F F' H H') (h : H b = some o) (n : b ∉ F) : b ∉ F' := fun m => by
  rcases c.nw b m with z | z
  · exact n z
  · rw [z] at h
    cases h
theorem Stp.chg {a : Addr} {H H' : Hp} (s : Stp a H H') : Chg [a] [a] H H' := ⟨fun b o h n => s.fr b o h fun e => n (by rw [e]; exact List.mem_singleton.mpr rfl), fun b h => .inl h, s.gro⟩
theorem Chg.stp {a : Addr} {H H' : Hp} (c : Chg [a] [a] H H') (d : Drw H' a) : Stp a H H' := ⟨fun b o h n => c.kp b o h fun m => n (List.mem_singleton.mp m), c.gro, d⟩
mutual
theorem Own.frame {H H' : Hp} (g : Gro H H') : ∀ {t : Tr} {v : V} {fp : List Addr}, Own H v t fp → (∀ b ∈ fp, H' b = H b) → Own H' v t fp
  | .dat d, _, _, h, _ => by
    cases h with
    | dat h => exact .dat (h.mono g)
  | .lst ts, _, _, h, k => by
    cases h with
    | lst ha hs n => exact .lst (by rw [k _ List.mem_cons_self]; exact ha) (Owns.frame g hs fun b hb => k b (List.mem_cons_of_mem _ hb)) n
  | .tup ts, _, _, h, k => by
    cases h with
    | tup ha hs => exact .tup (g.tup _ _ ha) (Owns.frame g hs k)
  | .ins C ns ts, _, _, h, k => by
    cases h with
    | ins ha he hs n => exact .ins (by rw [k _ List.mem_cons_self]; exact ha) he (Owns.frame g hs fun b hb => k b (List.mem_cons_of_mem _ hb)) n
theorem Owns.frame {H H' : Hp} (g : Gro H H') : ∀ {ts : List Tr} {vs : List V} {fp : List Addr}, Owns H vs ts fp → (∀ b ∈ fp, H' b = H b) → Owns H' vs ts fp
  | [], _, _, h, _ => by cases h; exact .nil
  | t :: ts, _, _, h, k => by
    cases h with
    | cons h1 h2 n => exact .cons (Own.frame g h1 fun b hb => k b (List.mem_append_left _ hb)) (Owns.frame g h2 fun b hb => k b (List.mem_append_right _ hb)) n
end
/-- the objects of a tree stand, and are no tuples, nothing that is locked -/
def Mt (o : Option HO) : Prop := ∃ u, o = some u ∧ (∀ xs, u ≠ .tup xs) ∧ ∀ ob w, u ≠ .frz ob w
theorem mt_lst {o : Option HO} {xs : List V} (h : o = some (.lst xs)) : Mt o := ⟨_, h, (fun _ z => by cases z), (fun _ _ z => by cases z)⟩
theorem mt_ins {o : Option HO} {C dx : Addr} {fs : List (Str × V)} (h : o = some (.ins C dx fs)) : Mt o := ⟨_, h, (fun _ z => by cases z), (fun _ _ z => by cases z)⟩
mutual
theorem Own.there {H : Hp} : ∀ {t : Tr} {v : V} {fp : List Addr}, Own H v t fp → ∀ b ∈ fp, Mt (H b)
  | .dat d, _, _, h, b, hb => by
    cases h
    exact absurd hb List.not_mem_nil
  | .lst ts, _, _, h, b, hb => by
    cases h with
    | lst ha hs n =>
      rcases List.mem_cons.mp hb with e | hb
      · exact mt_lst (e ▸ ha)
      · exact Owns.there hs b hb
  | .tup ts, _, _, h, b, hb => by
    cases h with
    | tup ha hs => exact Owns.there hs b hb
  | .ins C ns ts, _, _, h, b, hb => by
    cases h with
    | ins ha he hs n =>
      rcases List.mem_cons.mp hb with e | hb
      · exact mt_ins (e ▸ ha)
      · exact Owns.there hs b hb
theorem Owns.there {H : Hp} : ∀ {ts : List Tr} {vs : List V} {fp : List Addr}, Owns H vs ts fp → ∀ b ∈ fp, Mt (H b)
  | [], _, _, h, b, hb => by
    cases h
    exact absurd hb List.not_mem_nil
  | t :: ts, _, _, h, b, hb => by
    cases h with
    | cons h1 h2 n => exact (List.mem_append.mp hb).elim (fun z => Own.there h1 b z) fun z => Owns.there h2 b z
end
section
variable {H H' : Hp} {v : V} {t : Tr} {F F' fp : List Addr} {vs : List V} {ts : List Tr}
theorem Own.same (s : Same H H') (h : Own H v t fp) : Own H' v t fp := h.frame (Gro.same s) fun b hb => by
  obtain ⟨u, e, _⟩ := h.there b hb
  rw [e]
  exact s b u e
theorem Owns.same (s : Same H H') (h : Owns H vs ts fp) : Owns H' vs ts fp := h.frame (Gro.same s) fun b hb => by
  obtain ⟨u, e, _⟩ := h.there b hb
  rw [e]
  exact s b u e
theorem Own.chg (c : Chg F F' H H') (n : Dsj F fp) (h : Own H v t fp) : Own H' v t fp := h.frame c.gro fun b hb => by
  obtain ⟨u, e, _⟩ := h.there b hb
  rw [e]
  exact c.kp b u e fun m => n b m hb
theorem Owns.chg (c : Chg F F' H H') (n : Dsj F fp) (h : Owns H vs ts fp) : Owns H' vs ts fp := h.frame c.gro fun b hb => by
  obtain ⟨u, e, _⟩ := h.there b hb
  rw [e]
  exact c.kp b u e fun m => n b m hb
/-- the other tree stays apart -/
theorem Own.apart (c : Chg F F' H H') (n : Dsj F fp) (h : Own H v t fp) : Dsj F' fp := fun b hb m => by
  obtain ⟨u, e, _⟩ := h.there b m
  exact c.out e (fun z => n b z m) hb
theorem Owns.apart (c : Chg F F' H H') (n : Dsj F fp) (h : Owns H vs ts fp) : Dsj F' fp := fun b hb m => by
  obtain ⟨u, e, _⟩ := h.there b m
  exact c.out e (fun z => n b z m) hb
theorem Own.stp {a : Addr} (s : Stp a H H') (n : a ∉ fp) (h : Own H v t fp) : Own H' v t fp := h.chg s.chg fun b hb m => n (List.mem_singleton.mp hb ▸ m)
theorem Own.new_out {a : Addr} (h : Own H v t fp) (n : H a = none) : a ∉ fp := fun m => by
  obtain ⟨u, e, _⟩ := h.there a m
  rw [n] at e
  cases e
theorem Owns.new_out {a : Addr} (h : Owns H vs ts fp) (n : H a = none) : a ∉ fp := fun m => by
  obtain ⟨u, e, _⟩ := h.there a m
  rw [n] at e
  cases e
theorem Own.tup_out {a : Addr} {xs : List V} (h : Own H v t fp) (n : H a = some (.tup xs)) : a ∉ fp := fun m => by
  obtain ⟨u, e, k, _⟩ := h.there a m
  rw [n] at e
  cases e
  exact k _ rfl
end
/-- what is changed at F: tuples and what is locked stand -/
theorem Chg.of {F F' : List Addr} {H H' : Hp} (k : ∀ b o, H b = some o → b ∉ F → H' b = some o) (m : ∀ b ∈ F, Mt (H b)) (n : ∀ b ∈ F', b ∈ F ∨ H b = none) : Chg F F' H H' := by
  refine ⟨k, n, ⟨fun b xs e => k b _ e fun hb => ?_, fun b o u e => k b _ e fun hb => ?_⟩⟩
  · obtain ⟨w, e1, e2, _⟩ := m b hb
    rw [e] at e1
    exact e2 xs (Option.some.inj e1).symm
  · obtain ⟨w, e1, _, e2⟩ := m b hb
    rw [e] at e1
    exact e2 o u (Option.some.inj e1).symm
/-- a list of ints -/
def intsT (ns : List Int) : Tr := .lst (ns.map fun n => .dat (.int n))
theorem ownsInts {H : Hp} : ∀ ns : List Int, Owns H (ns.map V.int) (ns.map fun n => Tr.dat (.int n)) []
  | [] => .nil
  | n :: ns => .cons (fp := []) (.dat (.int n)) (ownsInts ns) fun _ h => absurd h List.not_mem_nil
theorem ownsInts_of {H : Hp} : ∀ {ns : List Int} {vs : List V} {fp : List Addr}, Owns H vs (ns.map fun n => Tr.dat (.int n)) fp → vs = ns.map V.int ∧ fp = []
  | [], _, _, h => by cases h; exact ⟨rfl, rfl⟩
  | n :: ns, _, _, h => by
    cases h with
    | cons h1 h2 _ =>
      cases h1 with
      | dat h1 =>
        cases h1
        obtain ⟨e1, e2⟩ := ownsInts_of h2
        rw [e1, e2]
        exact ⟨rfl, rfl⟩
theorem Own.intsAt {H : Hp} {v : V} {ns : List Int} {fp : List Addr} (h : Own H v (intsT ns) fp) : ∃ a, v = .ref a ∧ fp = [a] ∧ H a = some (.lst (ns.map V.int)) := by
  cases h with
  | lst ha hs n =>
    obtain ⟨e1, e2⟩ := ownsInts_of hs
    rw [e1] at ha
    rw [e2]
    exact ⟨_, rfl, rfl, ha⟩
theorem Own.mkInts {H : Hp} {a : Addr} {ns : List Int} (h : H a = some (.lst (ns.map V.int))) : Own H (.ref a) (intsT ns) [a] := .lst h (ownsInts ns) List.not_mem_nil
theorem Same.before {H H' : Hp} {r : Addr} (s : Same H H') (h : H' r = none) : H r = none := by
  cases q : H r with
  | none => rfl
  | some o =>
    rw [s r o q] at h
    cases h
/-- what is changed was new -/
theorem Same.but {H H1 H2 : Hp} {r : Addr} (s : Same H H1) (n : H r = none) (k : ∀ b, b ≠ r → H2 b = H1 b) : Same H H2 := fun b o e => by
  rw [k b (ne_of_none e n)]
  exact s b o e
theorem Same.fput {H H1 H2 : Hp} {r : Addr} (s : Same H H1) (n : H r = none) (k : Fput r H1 H2) : Same H H2 := Same.but s n k.kp
theorem but_at {H H' : Hp} {a b : Addr} {o : HO} (k : ∀ c, c ≠ a → H' c = H c) (h : H b = some o) (n : b ≠ a) : H' b = some o := by
  rw [k b n]
  exact h
/-- [e for j in range(m)], the elements of any kind: Iv by the new list, the turn, what is in it, the heap -/
theorem lc_RG {σ : L2.St} {H : Hp} {Q : VK} {te : TE} {vs : List Nat} {j : Nat} {m : Int} (Iv : Addr → Nat → List V → Hp → Prop) (h1 : -(2 ^ 62) ≤ m) (h2 : m < 10000000) (hw : ∀ x, wipe ((wipe σ vs).set j (some x)) vs = wipe σ vs)
    (h0 : ∀ D H', H D = none → H' D = some (.lst []) → (∀ b, b ≠ D → H' b = H b) → Iv D 0 [] H')
    (el : ∀ D (i : Nat) ys H1 (Q1 : VK), (i : Int) < m → H D = none → H1 D = some (.lst ys) → Iv D i ys H1 → (∀ y H2, H2 D = some (.lst ys) → (∀ H3, H3 D = some (.lst (ys ++ [y])) → (∀ b, b ≠ D → H3 b = H2 b) → Iv D (i + 1) (ys ++ [y]) H3) → Q1 y H2) → te ((wipe σ vs).set j (some (.int i))) H1 Q1)
    (k : ∀ D H' ys, H D = none → H' D = some (.lst ys) → Iv D m.toNat ys H' → Q (.ref D) H') : rlq [.int m] j tYes te vs σ H Q := by
  refine ⟨m, rfl, h1, by omega, fun D hD => ?_⟩
  refine lc_it (walk_range (lo := 0) (n := m.toNat)) (Qd := fun H' => Q (.ref D) H') (fun i H' => ∃ ys, H' D = some (.lst ys) ∧ ys.length ≤ i ∧ Iv D i ys H') ?_ (fun _ _ _ _ => trivial) ?_ ?_
  · exact ⟨[], upd_same, Nat.le_refl _, h0 D _ hD upd_same fun b hb => upd_ne hb⟩
  · rintro i x H1 H1' hi ⟨ys, hl, hle, iv⟩ hy
    obtain ⟨rfl, rfl⟩ := hy
    have e0 : (0 : Int) + (i : Int) = (i : Int) := Int.zero_add _
    show gName j (V.int ((0 : Int) + (i : Int))) (wipe σ vs) H1' _
    rw [e0]
    refine ⟨hw _, r_tyes (r_iteT (el D i ys H1' _ (by omega) hD hl iv fun y H2 hl2 kk => ?_))⟩
    exact ⟨ys, hl2, by rw [sizeLine_eq]; omega, ys ++ [y], upd_same, by simp; omega, kk _ upd_same fun b hb => upd_ne hb⟩
  · rintro H' ⟨ys, hl, _, iv⟩
    exact k D H' ys hD hl iv
/-- part of a tuple -/
theorem r_slT {K : PySem.W.Frag} {H : Hp} {Q : VK} {p : Addr} {xs : List V} {lo hi : Option Int} (h : H p = some (.tup xs)) (k : ∀ p H', Same H H' → H' p = some (.tup (cutV xs lo hi)) → Q (.ref p) H') : uSl K (.ref p) lo hi H Q := by
  refine .inr ⟨p, xs, rfl, SqT.of h, fun ⟨e1, e2⟩ => ?_, fun _ q nq => k q _ (same_new nq) upd_same⟩
  refine k p H (Same.refl _) ?_
  rw [h]
  unfold cutV
  rw [e1, e2, List.drop_zero, Nat.sub_zero, List.take_of_length_le (Nat.le_refl _)]
/-- min, max of two ints -/
def uMin2 : List V → Hp → VK → Prop := fun xs H Q => match xs with
  | [.int i, .int j] => Q (.int (if j < i then j else i)) H
  | _ => False
def uMax2 : List V → Hp → VK → Prop := fun xs H Q => match xs with
  | [.int i, .int j] => Q (.int (if i < j then j else i)) H
  | _ => False
theorem call_min2U {X : Cx} (hc : X.calm = true) : CallR X (.builtin "min") uMin2 := by
  refine callw (call_min2 hc) fun xs H Q h => ?_
  match xs, h with
  | [.int i, .int j], h => exact ⟨i, j, rfl, h⟩
theorem r_min2 {H : Hp} {Q : VK} {i j : Int} (q : Q (.int (if j < i then j else i)) H) : uMin2 [.int i, .int j] H Q := q
theorem ins_ne {H : Hp} {a b C : Addr} {fs : List (Str × V)} {xs : List V} (h : Ins H a C fs) (k : H b = some (.lst xs)) : a ≠ b := by
  obtain ⟨dx, h⟩ := h
  intro e
  rw [e, k] at h
  cases h
theorem dsj_one {a : Addr} {fp : List Addr} (h : a ∉ fp) : Dsj [a] fp := fun b hb m => h (List.mem_singleton.mp hb ▸ m)
theorem Fput.chg {p : Addr} {fp : List Addr} {H H' : Hp} (f : Fput p H H') (h : p ∈ fp) : Chg fp fp H H' :=
  ⟨fun b o e n => by rw [f.kp b fun z => n (z ▸ h)]; exact e, fun _ h => .inl h, f.gro⟩
theorem but_chg {p : Addr} {fp : List Addr} {H H' : Hp} {xs : List V} (k : ∀ b, b ≠ p → H' b = H b) (e : H p = some (.lst xs)) (h : p ∈ fp) : Chg fp fp H H' :=
  ⟨fun b o e n => by rw [k b fun z => n (z ▸ h)]; exact e, fun _ h => .inl h, gro_but e k⟩
end Dk

/-! Disks. -/
namespace Dk
open PySem PySem.Spec PyProof.Rows L2
def pwV : Option Int → V
  | none => .non
  | some n => .int n
def pwD : Option Int → PyData
  | none => .none
  | some n => .int n
/-- a disk: two contents, their pending steps, the power -/
structure Dsk where
  c : Nat → List Int
  s : Nat → List Int
  pw : Option Int
def diskF (L S : V) (pw : Option Int) : List (Str × V) := [("durable", L), ("steps", S), ("power", pwV pw)]
def diskT (K : PySem.W.Frag) (D : Dsk) : Tr := .ins (He.ga K "Disk") ["durable", "steps", "power"] [.lst [intsT (D.c 0), intsT (D.c 1)], .lst [intsT (D.s 0), intsT (D.s 1)], .dat (pwD D.pw)]
/-- a disk as it stands -/
structure DkAt (K : PySem.W.Frag) (H : Hp) (p L S : Addr) (ca sa : Nat → Addr) (D : Dsk) : Prop where
  ins : Ins H p (He.ga K "Disk") (diskF (.ref L) (.ref S) D.pw)
  ld : H L = some (.lst [.ref (ca 0), .ref (ca 1)])
  ls : H S = some (.lst [.ref (sa 0), .ref (sa 1)])
  cs : ∀ i, i < 2 → H (ca i) = some (.lst ((D.c i).map V.int))
  ss : ∀ i, i < 2 → H (sa i) = some (.lst ((D.s i).map V.int))
  ls' : L ≠ S
  cc : ca 0 ≠ ca 1
  sss : sa 0 ≠ sa 1
  xs : ∀ i j, i < 2 → j < 2 → ca i ≠ sa j
abbrev diskP (p L S : Addr) (ca sa : Nat → Addr) : List Addr := [p, L, ca 0, ca 1, S, sa 0, sa 1]
theorem ints_ne {H : Hp} {a b x y : Addr} {ns : List Int} (h : H a = some (.lst [.ref x, .ref y])) (k : H b = some (.lst (ns.map V.int))) : a ≠ b := by
  intro e
  rw [e, k] at h
  cases ns with
  | nil => cases h
  | cons n r => cases h
theorem pw_dq {H : Hp} (o : Option Int) : Dq H (pwV o) (pwD o) := by
  cases o with
  | none => exact .non
  | some n => exact .int n
theorem pw_of {H : Hp} {v : V} {o : Option Int} (h : Dq H v (pwD o)) : v = pwV o := by
  cases o with
  | none => cases h; rfl
  | some n => cases h; rfl
theorem DkAt.nodup {K : PySem.W.Frag} {H : Hp} {p L S : Addr} {ca sa : Nat → Addr} {D : Dsk} (d : DkAt K H p L S ca sa D) : (diskP p L S ca sa).Nodup := by
  have h0 := d.cs 0 (by decide)
  have h1 := d.cs 1 (by decide)
  have g0 := d.ss 0 (by decide)
  have g1 := d.ss 1 (by decide)
  have a1 := ins_ne d.ins d.ld
  have a2 := ins_ne d.ins d.ls
  have a3 := ins_ne d.ins h0
  have a4 := ins_ne d.ins h1
  have a5 := ins_ne d.ins g0
  have a6 := ins_ne d.ins g1
  have b1 := ints_ne d.ld h0
  have b2 := ints_ne d.ld h1
  have b3 := ints_ne d.ld g0
  have b4 := ints_ne d.ld g1
  have c1 := ints_ne d.ls h0
  have c2 := ints_ne d.ls h1
  have c3 := ints_ne d.ls g0
  have c4 := ints_ne d.ls g1
  have e1 := d.xs 0 0 (by decide) (by decide)
  have e2 := d.xs 0 1 (by decide) (by decide)
  have e3 := d.xs 1 0 (by decide) (by decide)
  have e4 := d.xs 1 1 (by decide) (by decide)
  have f1 := d.ls'
  have f2 := d.cc
  have f3 := d.sss
  simp only [List.nodup_cons, List.mem_cons, List.not_mem_nil, or_false, not_or, not_false_eq_true, List.nodup_nil, and_true]
  exact ⟨⟨a1, a3, a4, a2, a5, a6⟩, ⟨b1, b2, f1, b3, b4⟩, ⟨f2, c1.symm, e1, e2⟩, ⟨c2.symm, e3, e4⟩, ⟨c3, c4⟩, f3⟩
theorem owns2 {H : Hp} {vs : List V} {xs ys : List Int} {fp : List Addr} (h : Owns H vs [intsT xs, intsT ys] fp) : ∃ a b, vs = [.ref a, .ref b] ∧ fp = [a, b] ∧ a ≠ b ∧ H a = some (.lst (xs.map V.int)) ∧ H b = some (.lst (ys.map V.int)) := by
  cases h with
  | cons h1 h2 n =>
    obtain ⟨a, rfl, rfl, ha⟩ := h1.intsAt
    cases h2 with
    | cons h2 h3 n2 =>
      obtain ⟨b, rfl, rfl, hb⟩ := h2.intsAt
      cases h3
      exact ⟨a, b, rfl, rfl, fun e => n a List.mem_cons_self (by rw [e]; exact List.mem_cons_self), ha, hb⟩
theorem owns2_mk {H : Hp} {a b : Addr} {xs ys : List Int} (ha : H a = some (.lst (xs.map V.int))) (hb : H b = some (.lst (ys.map V.int))) (n : a ≠ b) : Owns H [.ref a, .ref b] [intsT xs, intsT ys] [a, b] :=
  .cons (fp := [a]) (gp := [b]) (Own.mkInts ha) (.cons (fp := [b]) (gp := []) (Own.mkInts hb) .nil fun _ _ => List.not_mem_nil) fun x hx hy => n ((List.mem_singleton.mp hx).symm.trans (List.mem_singleton.mp hy))
theorem DkAt.own {K : PySem.W.Frag} {H : Hp} {p L S : Addr} {ca sa : Nat → Addr} {D : Dsk} (d : DkAt K H p L S ca sa D) : Own H (.ref p) (diskT K D) (diskP p L S ca sa) := by
  have nd := d.nodup
  simp only [List.nodup_cons, List.mem_cons, List.not_mem_nil, or_false, not_or, not_false_eq_true, List.nodup_nil, and_true] at nd
  obtain ⟨⟨a1, a2, a3, a4, a5, a6⟩, ⟨b1, b2, b3, b4, b5⟩, ⟨c1, c2, c3, c4⟩, ⟨d1, d2, d3⟩, ⟨e1, e2⟩, f⟩ := nd
  obtain ⟨dx, hi⟩ := d.ins
  refine .ins (fp := [L, ca 0, ca 1, S, sa 0, sa 1]) hi rfl ?_ (by simp [a1, a2, a3, a4, a5, a6])
  show Owns H [.ref L, .ref S, pwV D.pw] _ ([L, ca 0, ca 1] ++ ([S, sa 0, sa 1] ++ ([] ++ [])))
  refine .cons (.lst d.ld (owns2_mk (d.cs 0 (by decide)) (d.cs 1 (by decide)) c1) (by simp [b1, b2])) (.cons (.lst d.ls (owns2_mk (d.ss 0 (by decide)) (d.ss 1 (by decide)) f) (by simp [e1, e2])) (.cons (.dat (pw_dq _)) .nil fun _ h => absurd h List.not_mem_nil) fun _ _ => List.not_mem_nil) ?_
  intro x hx hy
  simp only [List.mem_cons, List.not_mem_nil, or_false, List.append_nil] at hx hy
  rcases hx with rfl | rfl | rfl <;> rcases hy with h | h | h <;> first
    | exact b3 h
    | exact b4 h
    | exact b5 h
    | exact c2 h
    | exact c3 h
    | exact c4 h
    | exact d1 h
    | exact d2 h
    | exact d3 h
theorem Own.disk {K : PySem.W.Frag} {H : Hp} {v : V} {D : Dsk} {fp : List Addr} (h : Own H v (diskT K D) fp) : ∃ p L S ca sa, v = .ref p ∧ fp = diskP p L S ca sa ∧ DkAt K H p L S ca sa D := by
  unfold diskT at h
  generalize hn : ([("durable" : Str), "steps", "power"] : List Str) = ns at h
  cases h with
  | @ins p dx C fs ns ts gp hi he hs n =>
    rw [← hn] at he
    match fs, he with
    | [(x1, v1), (x2, v2), (x3, v3)], he =>
      simp only [List.map_cons, List.map_nil, List.cons.injEq, and_true] at he
      obtain ⟨rfl, rfl, rfl⟩ := he
      simp only [List.map_cons, List.map_nil] at hs
      cases hs with
      | cons h1 hs n1 =>
      cases hs with
      | cons h2 hs n2 =>
      cases hs with
      | cons h3 hs n3 =>
      cases hs
      cases h1 with
      | lst hL o1 m1 =>
      cases h2 with
      | lst hS o2 m2 =>
      cases h3 with
      | dat h3 =>
      obtain ⟨c0, c1, rfl, rfl, cc, hc0, hc1⟩ := owns2 o1
      obtain ⟨s0, s1, rfl, rfl, ss, hs0, hs1⟩ := owns2 o2
      rename_i aL aS
      refine ⟨p, aL, aS, (fun i => if i = 0 then c0 else c1), (fun i => if i = 0 then s0 else s1), rfl, rfl, ⟨⟨dx, by rw [pw_of h3] at hi; exact hi⟩, hL, hS, fun i hi => ?_, fun i hi => ?_, fun e => ?_, cc, ss, fun i j hi hj => ?_⟩⟩
      · match i, hi with
        | 0, _ => exact hc0
        | 1, _ => exact hc1
      · match i, hi with
        | 0, _ => exact hs0
        | 1, _ => exact hs1
      · exact n1 aL (by simp) (by rw [e]; simp)
      · match i, j, hi, hj with
        | 0, 0, _, _ => exact fun e => n1 c0 (by simp) (by rw [show c0 = s0 from e]; simp)
        | 0, 1, _, _ => exact fun e => n1 c0 (by simp) (by rw [show c0 = s1 from e]; simp)
        | 1, 0, _, _ => exact fun e => n1 c1 (by simp) (by rw [show c1 = s0 from e]; simp)
        | 1, 1, _, _ => exact fun e => n1 c1 (by simp) (by rw [show c1 = s1 from e]; simp)
/-- after the steps -/
def appliedM (xs st : List Int) : List Int := st.foldl (fun acc x => if x = -1 then [] else acc ++ [x]) xs
theorem applied_snoc (xs st : List Int) (x : Int) : appliedM xs (st ++ [x]) = if x = -1 then [] else appliedM xs st ++ [x] := by
  unfold appliedM
  rw [List.foldl_append] <;> rfl
theorem applied_len (xs : List Int) : ∀ st : List Int, (appliedM xs st).length ≤ xs.length + st.length := by
  unfold appliedM
  intro st
  induction st generalizing xs with
  | nil => exact Nat.le_refl _
  | cons x r ih =>
    rw [List.foldl_cons, List.length_cons]
    refine Nat.le_trans (ih _) ?_
    split
    · simp; omega
    · rw [List.length_append]; simp; omega
/-- an update of one file's list -/
def setF {α : Type} (f : Nat → α) (i : Nat) (x : α) : Nat → α := fun j => if j = i then x else f j
theorem setF_at {α : Type} (f : Nat → α) (i : Nat) (x : α) : setF f i x i = x := if_pos rfl
theorem setF_ne {α : Type} (f : Nat → α) {i j : Nat} (x : α) (h : j ≠ i) : setF f i x j = f j := if_neg h
theorem at2 (g : Nat → Addr) {f : Nat} (h : f < 2) : atI [V.ref (g 0), V.ref (g 1)] (f : Int) = some (.ref (g f)) := by
  match f, h with
  | 0, _ => rfl
  | 1, _ => rfl
def Dsk.add (D : Dsk) (f : Nat) (ys : List Int) : Dsk := { D with s := setF D.s f (D.s f ++ ys) }
def Dsk.use (D : Dsk) (n : Int) : Dsk := { D with pw := D.pw.map (· - n) }
theorem Dsk.ext {D E : Dsk} (h1 : ∀ i, i < 2 → D.c i = E.c i) (h2 : ∀ i, i < 2 → D.s i = E.s i) (h3 : D.pw = E.pw) (K : PySem.W.Frag) : diskT K D = diskT K E := by
  unfold diskT
  rw [h1 0 (by decide), h1 1 (by decide), h2 0 (by decide), h2 1 (by decide), h3]
section
variable {K : PySem.W.Frag} {H H' : Hp} {p L S : Addr} {ca sa : Nat → Addr} {D : Dsk} {f : Nat} {ys : List Int}
theorem DkAt.fput (d : DkAt K H p L S ca sa D) (g : Fput p H H') {pw : Option Int} (hi : Ins H' p (He.ga K "Disk") (diskF (.ref L) (.ref S) pw)) : DkAt K H' p L S ca sa { D with pw := pw } :=
  ⟨hi, g.lst d.ld, g.lst d.ls, fun i h => g.lst (d.cs i h), fun i h => g.lst (d.ss i h), d.ls', d.cc, d.sss, d.xs⟩
theorem DkAt.sne (d : DkAt K H p L S ca sa D) {i j : Nat} (hi : i < 2) (hj : j < 2) (n : i ≠ j) : sa i ≠ sa j := by
  match i, j, hi, hj, n with
  | 0, 1, _, _, _ => exact d.sss
  | 1, 0, _, _, _ => exact Ne.symm d.sss
  | 0, 0, _, _, n => exact absurd rfl n
  | 1, 1, _, _, n => exact absurd rfl n
theorem DkAt.cne (d : DkAt K H p L S ca sa D) {i j : Nat} (hi : i < 2) (hj : j < 2) (n : i ≠ j) : ca i ≠ ca j := by
  match i, j, hi, hj, n with
  | 0, 1, _, _, _ => exact d.cc
  | 1, 0, _, _, _ => exact Ne.symm d.cc
  | 0, 0, _, _, n => exact absurd rfl n
  | 1, 1, _, _, n => exact absurd rfl n
theorem DkAt.put (d : DkAt K H p L S ca sa D) (hf : f < 2) (h : H' (sa f) = some (.lst (ys.map V.int))) (k : ∀ b, b ≠ sa f → H' b = H b) : DkAt K H' p L S ca sa { D with s := setF D.s f ys } := by
  have g := d.ss f hf
  refine ⟨?_, by rw [k _ (ints_ne d.ld g)]; exact d.ld, by rw [k _ (ints_ne d.ls g)]; exact d.ls, fun i hi => ?_, fun i hi => ?_, d.ls', d.cc, d.sss, d.xs⟩
  · obtain ⟨dx, q⟩ := d.ins
    exact ⟨dx, by rw [k _ (ins_ne d.ins g)]; exact q⟩
  · rw [k _ (d.xs i f hi hf)]
    exact d.cs i hi
  · by_cases e : i = f
    · subst e
      show H' (sa i) = some (.lst ((setF D.s i ys i).map V.int))
      rw [setF_at]
      exact h
    · show H' (sa i) = some (.lst ((setF D.s f ys i).map V.int))
      rw [setF_ne _ _ e, k _ (d.sne hi hf e)]
      exact d.ss i hi
theorem diskP_s (p L S : Addr) (ca sa : Nat → Addr) (hf : f < 2) : sa f ∈ diskP p L S ca sa := by
  match f, hf with
  | 0, _ => simp
  | 1, _ => simp
theorem DkAt.chg_s (d : DkAt K H p L S ca sa D) (hf : f < 2) (k : ∀ b, b ≠ sa f → H' b = H b) : Chg (diskP p L S ca sa) (diskP p L S ca sa) H H' := but_chg k (d.ss f hf) (diskP_s p L S ca sa hf)
theorem set2 (g : Nat → Addr) (hf : f < 2) (r : Addr) : [V.ref (g 0), V.ref (g 1)].set f (.ref r) = [.ref (setF g f r 0), .ref (setF g f r 1)] := by
  match f, hf with
  | 0, _ => rfl
  | 1, _ => rfl
theorem ix2 (hf : f < 2) : ixN 2 (f : Int) = some f := by
  match f, hf with
  | 0, _ => rfl
  | 1, _ => rfl
theorem use0 (D : Dsk) : D.use 0 = D := by
  unfold Dsk.use
  obtain ⟨c, s, pw⟩ := D
  cases pw with
  | none => rfl
  | some n => simp
end
theorem setF_setF {α : Type} (g : Nat → α) (f : Nat) (x y : α) : setF (setF g f x) f y = setF g f y := by
  funext j
  unfold setF
  by_cases e : j = f
  · rw [if_pos e, if_pos e]
  · rw [if_neg e, if_neg e, if_neg e]
theorem pw_step (o : Option Int) (i : Int) : (o.map (· - i)).map (· - 1) = o.map (· - (i + 1)) := by
  cases o with
  | none => rfl
  | some n =>
    show some (n - i - 1) = some (n - (i + 1))
    rw [Int.sub_sub]
theorem dsk_step (D : Dsk) (f : Nat) (xs ys : List Int) (i : Int) : (Dsk.mk D.c (setF (setF D.s f (D.s f ++ xs)) f (D.s f ++ ys)) ((D.pw.map (· - i)).map (· - 1))) = (D.add f ys).use (i + 1) := by
  rw [setF_setF, pw_step]
  rfl
section
variable {K : PySem.W.Frag} {H1 H2 H3 H4 H5 : Hp} {p L S r r2 : Addr} {ca sa : Nat → Addr} {D : Dsk} {f : Nat} {xs : List Int}
theorem DkAt.syn (d : DkAt K H1 p L S ca sa D) (hf : f < 2) (nr : H1 r = none) (m2 : Same H1 H2) (hr : H2 r = some (.lst (xs.map V.int))) (h3 : H3 L = some (.lst ([V.ref (ca 0), V.ref (ca 1)].set f (.ref r)))) (k3 : ∀ b, b ≠ L → H3 b = H2 b)
    (nr2 : H3 r2 = none) (m4 : Same H3 H4) (hr2 : H4 r2 = some (.lst [])) (h5 : H5 S = some (.lst ([V.ref (sa 0), V.ref (sa 1)].set f (.ref r2)))) (k5 : ∀ b, b ≠ S → H5 b = H4 b) :
    DkAt K H5 p L S (setF ca f r) (setF sa f r2) { D with c := setF D.c f xs, s := setF D.s f [] } ∧ Chg (diskP p L S ca sa) (diskP p L S (setF ca f r) (setF sa f r2)) H1 H5 := by
  have keep : ∀ b o, H1 b = some o → b ≠ L → b ≠ S → H5 b = some o := fun b o h n1 n2 => by
    rw [k5 b n2]
    refine m4 _ _ ?_
    rw [k3 b n1]
    exact m2 _ _ h
  have rL : r ≠ L := fun z => by
    have := d.ld
    rw [← z, nr] at this
    cases this
  have rS : r ≠ S := fun z => by
    have := d.ls
    rw [← z, nr] at this
    cases this
  have h3S : H3 S = some (.lst [.ref (sa 0), .ref (sa 1)]) := by
    rw [k3 S (Ne.symm d.ls')]
    exact m2 _ _ d.ls
  have r2S : r2 ≠ S := fun z => by
    rw [← z, nr2] at h3S
    cases h3S
  have r2L : r2 ≠ L := fun z => by
    rw [← z, nr2] at h3
    cases h3
  have h3r : H3 r = some (.lst (xs.map V.int)) := by
    rw [k3 r rL]
    exact hr
  have rr2 : r ≠ r2 := fun z => by
    rw [← z, h3r] at nr2
    cases nr2
  have nr2' : H1 r2 = none := by
    have e : H3 r2 = H2 r2 := k3 r2 r2L
    rw [nr2] at e
    exact Same.before m2 e.symm
  have h5L : H5 L = some (.lst [.ref (setF ca f r 0), .ref (setF ca f r 1)]) := by
    rw [k5 L d.ls', ← set2 ca hf]
    exact m4 _ _ h3
  have h5r : H5 r = some (.lst (xs.map V.int)) := by
    rw [k5 r rS]
    exact m4 _ _ h3r
  have h5r2 : H5 r2 = some (.lst []) := by
    rw [k5 r2 r2S]
    exact hr2
  refine ⟨⟨?_, h5L, by rw [← set2 sa hf]; exact h5, fun i hi => ?_, fun i hi => ?_, d.ls', ?_, ?_, fun i j hi hj => ?_⟩, Chg.of (fun b o h n => keep b o h (fun z => n (by rw [z]; simp)) (fun z => n (by rw [z]; simp))) d.own.there fun b hb => ?_⟩
  · obtain ⟨dx, q⟩ := d.ins
    exact ⟨dx, keep _ _ q (ins_ne ⟨dx, q⟩ d.ld) (ins_ne ⟨dx, q⟩ d.ls)⟩
  · by_cases ei : i = f
    · subst ei
      show H5 (setF ca i r i) = some (.lst ((setF D.c i xs i).map V.int))
      rw [setF_at, setF_at]
      exact h5r
    · show H5 (setF ca f r i) = some (.lst ((setF D.c f xs i).map V.int))
      rw [setF_ne _ _ ei, setF_ne _ _ ei]
      exact keep _ _ (d.cs i hi) (Ne.symm (ints_ne d.ld (d.cs i hi))) (Ne.symm (ints_ne d.ls (d.cs i hi)))
  · by_cases ei : i = f
    · subst ei
      show H5 (setF sa i r2 i) = some (.lst ((setF D.s i [] i).map V.int))
      rw [setF_at, setF_at]
      exact h5r2
    · show H5 (setF sa f r2 i) = some (.lst ((setF D.s f [] i).map V.int))
      rw [setF_ne _ _ ei, setF_ne _ _ ei]
      exact keep _ _ (d.ss i hi) (Ne.symm (ints_ne d.ld (d.ss i hi))) (Ne.symm (ints_ne d.ls (d.ss i hi)))
  · match f, hf with
    | 0, _ => exact Ne.symm (ne_of_none (d.cs 1 (by decide)) nr)
    | 1, _ => exact ne_of_none (d.cs 0 (by decide)) nr
  · match f, hf with
    | 0, _ => exact Ne.symm (ne_of_none (d.ss 1 (by decide)) nr2')
    | 1, _ => exact ne_of_none (d.ss 0 (by decide)) nr2'
  · by_cases ei : i = f
    · subst ei
      rw [setF_at]
      by_cases ej : j = i
      · subst ej
        rw [setF_at]
        exact rr2
      · rw [setF_ne _ _ ej]
        exact Ne.symm (ne_of_none (d.ss j hj) nr)
    · rw [setF_ne _ _ ei]
      by_cases ej : j = f
      · subst ej
        rw [setF_at]
        exact ne_of_none (d.cs i hi) nr2'
      · rw [setF_ne _ _ ej]
        exact d.xs i j hi hj
  · match f, hf with
    | 0, _ =>
      have hb : b ∈ [p, L, r, ca 1, S, r2, sa 1] := hb
      simp only [List.mem_cons, List.not_mem_nil, or_false] at hb ⊢
      rcases hb with rfl | rfl | rfl | rfl | rfl | rfl | rfl <;> first
        | exact .inr nr
        | exact .inr nr2'
        | exact .inl (by simp)
    | 1, _ =>
      have hb : b ∈ [p, L, ca 0, r, S, sa 0, r2] := hb
      simp only [List.mem_cons, List.not_mem_nil, or_false] at hb ⊢
      rcases hb with rfl | rfl | rfl | rfl | rfl | rfl | rfl <;> first
        | exact .inr nr
        | exact .inr nr2'
        | exact .inl (by simp)
end
def Dsk.syn (D : Dsk) (f : Nat) : Dsk := { D with c := setF D.c f (appliedM (D.c f) (D.s f)), s := setF D.s f [] }
def Dsk.crash (D : Dsk) (a b : Nat) : Dsk := ⟨fun i => if i = 0 then appliedM (D.c 0) ((D.s 0).take a) else appliedM (D.c 1) ((D.s 1).take b), fun _ => [], none⟩
theorem cutV_take (xs : List V) (n : Nat) : cutV xs none (some (n : Int)) = xs.take n := by
  unfold cutV
  rw [HT.sIx_none, HT.sIx_nat, List.drop_zero, Nat.sub_zero]
  by_cases h : n ≤ xs.length
  · rw [Nat.min_eq_left h]
  · rw [Nat.min_eq_right (by omega), List.take_of_length_le (Nat.le_refl _), List.take_of_length_le (by omega)]
/-! the law's own model of a disk -/
def stepO (acc : List Int) : Option Int → List Int
  | none => []
  | some x => acc ++ [x]
def afterM (xs : List Int) (os : List (Option Int)) : List Int := os.foldl stepO xs
theorem after_snoc (xs : List Int) (os : List (Option Int)) (o : Option Int) : afterM xs (os ++ [o]) = stepO (afterM xs os) o := by
  unfold afterM
  rw [List.foldl_append] <;> rfl
theorem after_len (xs : List Int) : ∀ os : List (Option Int), (afterM xs os).length ≤ xs.length + os.length := by
  unfold afterM
  intro os
  induction os generalizing xs with
  | nil => exact Nat.le_refl _
  | cons o r ih =>
    rw [List.foldl_cons, List.length_cons]
    refine Nat.le_trans (ih _) ?_
    cases o with
    | none => show 0 + r.length ≤ _; omega
    | some x => show (xs ++ [x]).length + r.length ≤ _; rw [List.length_append]; simp; omega
def codeO (o : Option Int) : Int := o.getD (-1)
theorem after_applied (xs : List Int) : ∀ os : List (Option Int), (∀ n, some n ∈ os → 0 ≤ n) → afterM xs os = appliedM xs (os.map codeO) := by
  unfold afterM appliedM
  intro os
  induction os generalizing xs with
  | nil => exact fun _ => rfl
  | cons o r ih =>
    intro h
    rw [List.foldl_cons, List.map_cons, List.foldl_cons]
    have e : (if codeO o = -1 then ([] : List Int) else xs ++ [codeO o]) = stepO xs o := by
      cases o with
      | none => rfl
      | some x =>
        have hx := h x List.mem_cons_self
        show (if x = -1 then ([] : List Int) else xs ++ [x]) = xs ++ [x]
        rw [if_neg (by omega)]
    rw [e]
    exact ih _ fun n hn => h n (List.mem_cons_of_mem _ hn)
theorem dqs_trues {H : Hp} : ∀ {n : Nat} {ys : List V}, Dqs H ys (List.replicate n (.bool true)) → ys = (List.replicate n true).map V.bl
  | 0, _, h => by cases h; rfl
  | n + 1, _, h => by
    cases h with
    | cons h1 h2 =>
      cases h1
      rw [dqs_trues h2] <;> rfl
theorem all_trues (n : Nat) : (List.replicate n true).all id = true := by
  rw [List.all_eq_true]
  intro b hb
  rw [(List.mem_replicate.mp hb).2] <;> rfl
/-! an act: 0 appends, 1 clears, 2 syncs -/
def lenM (k : Nat) (bs : List Int) : Nat := if k = 0 then bs.length else 1
/-- how many of its steps the power is enough for -/
def cntM (pw : Option Int) (n : Nat) : Nat := match pw with
  | none => n
  | some m => min n m.toNat
def doM (D : Dsk) (k f : Nat) (bs : List Int) : Dsk :=
  if k = 0 then (D.add f (bs.take (cntM D.pw bs.length))).use (cntM D.pw bs.length)
  else if cntM D.pw 1 = 0 then D
  else if k = 1 then (D.add f [-1]).use 1
  else (D.syn f).use 1
/-- what the law is told -/
def Told (H : Hp) (v : V) (ok : Bool) : Prop := (ok = true ∧ v = .non) ∨ (ok = false ∧ ∃ r, v = .ref r ∧ H r = some (.tup [.str "cut", .bl true]))
structure Mdl where
  c : Nat → List Int
  s : Nat → List (Option Int)
  pw : Option Int
/-- the law's model as it stands -/
structure MAt (H : Hp) (m F : Addr) (ta ca sa : Nat → Addr) (M : Mdl) : Prop where
  mm : H m = some (.lst [.ref F, pwV M.pw])
  ff : H F = some (.lst [.ref (ta 0), .ref (ta 1)])
  ts : ∀ i, i < 2 → H (ta i) = some (.tup [.ref (ca i), .ref (sa i)])
  cs : ∀ i, i < 2 → H (ca i) = some (.lst ((M.c i).map V.int))
  ss : ∀ i, i < 2 → H (sa i) = some (.lst ((M.s i).map pwV))
abbrev mdlP (m F : Addr) (ca sa : Nat → Addr) : List Addr := [m, F, ca 0, ca 1, sa 0, sa 1]
theorem opts_ne {H : Hp} {a b x : Addr} {r : List V} {ns : List (Option Int)} (h : H a = some (.lst (.ref x :: r))) (k : H b = some (.lst (ns.map pwV))) : a ≠ b := by
  intro e
  rw [e, k] at h
  cases ns with
  | nil => cases h
  | cons n r => cases n <;> cases h
theorem ints_ne' {H : Hp} {a b x : Addr} {r : List V} {ns : List Int} (h : H a = some (.lst (.ref x :: r))) (k : H b = some (.lst (ns.map V.int))) : a ≠ b := by
  intro e
  rw [e, k] at h
  cases ns with
  | nil => cases h
  | cons n r => cases h
theorem pw_nref (o : Option Int) (a : Addr) : pwV o ≠ .ref a := by
  cases o with
  | none => intro h; cases h
  | some n => intro h; cases h
section
variable {H H' : Hp} {m F : Addr} {ta ca sa : Nat → Addr} {M : Mdl} {f : Nat}
theorem MAt.mF (d : MAt H m F ta ca sa M) : m ≠ F := by
  intro e
  have h1 := d.mm
  rw [e, d.ff] at h1
  simp only [Option.some.injEq, HO.lst.injEq, List.cons.injEq, and_true] at h1
  exact pw_nref _ _ h1.2.symm
theorem MAt.keep (d : MAt H m F ta ca sa M) (k : ∀ b o, H b = some o → (b ∈ mdlP m F ca sa ∨ ∃ xs, o = .tup xs) → H' b = some o) : MAt H' m F ta ca sa M := by
  refine ⟨k _ _ d.mm (.inl (by simp)), k _ _ d.ff (.inl (by simp)), fun i hi => k _ _ (d.ts i hi) (.inr ⟨_, rfl⟩), fun i hi => k _ _ (d.cs i hi) (.inl ?_), fun i hi => k _ _ (d.ss i hi) (.inl ?_)⟩
  · match i, hi with
    | 0, _ => simp
    | 1, _ => simp
  · match i, hi with
    | 0, _ => simp
    | 1, _ => simp
theorem MAt.same (s : Same H H') (d : MAt H m F ta ca sa M) : MAt H' m F ta ca sa M := d.keep fun b o h _ => s b o h
theorem MAt.chg {G G' : List Addr} (c : Chg G G' H H') (n : Dsj G (mdlP m F ca sa)) (d : MAt H m F ta ca sa M) : MAt H' m F ta ca sa M := d.keep fun b o h z => by
  rcases z with z | ⟨xs, rfl⟩
  · exact c.kp b o h fun q => n b q z
  · exact c.gro.tup b xs h
theorem MAt.there (d : MAt H m F ta ca sa M) : ∀ b ∈ mdlP m F ca sa, ∃ xs, H b = some (.lst xs) := by
  intro b hb
  simp only [List.mem_cons, List.not_mem_nil, or_false] at hb
  rcases hb with rfl | rfl | rfl | rfl | rfl | rfl
  · exact ⟨_, d.mm⟩
  · exact ⟨_, d.ff⟩
  · exact ⟨_, d.cs 0 (by decide)⟩
  · exact ⟨_, d.cs 1 (by decide)⟩
  · exact ⟨_, d.ss 0 (by decide)⟩
  · exact ⟨_, d.ss 1 (by decide)⟩
theorem MAt.apart {G G' : List Addr} (c : Chg G G' H H') (n : Dsj G (mdlP m F ca sa)) (d : MAt H m F ta ca sa M) : Dsj G' (mdlP m F ca sa) := fun b hb z => by
  obtain ⟨xs, e⟩ := d.there b z
  exact c.out e (fun q => n b q z) hb
/-- the power is written -/
theorem MAt.pow (d : MAt H m F ta ca sa M) {pw : Option Int} (h : H' m = some (.lst [.ref F, pwV pw])) (k : ∀ b, b ≠ m → H' b = H b) : MAt H' m F ta ca sa { M with pw := pw } ∧ Chg (mdlP m F ca sa) (mdlP m F ca sa) H H' := by
  refine ⟨⟨h, by rw [k F d.mF.symm]; exact d.ff, fun i hi => ?_, fun i hi => ?_, fun i hi => ?_⟩, but_chg k d.mm (by simp)⟩
  · rw [k _ (ne_of (d.ts i hi) d.mm (by intro z; cases z))]
    exact d.ts i hi
  · rw [k _ (Ne.symm (ints_ne' d.mm (d.cs i hi)))]
    exact d.cs i hi
  · rw [k _ (Ne.symm (opts_ne d.mm (d.ss i hi)))]
    exact d.ss i hi
/-- one file's pair is written -/
theorem MAt.pair (d : MAt H m F ta ca sa M) (hf : f < 2) {t c s : Addr} {xs : List Int} {os : List (Option Int)} (ht : H t = some (.tup [.ref c, .ref s])) (hc : H c = some (.lst (xs.map V.int))) (hs : H s = some (.lst (os.map pwV))) (h : H' F = some (.lst ([V.ref (ta 0), V.ref (ta 1)].set f (.ref t)))) (k : ∀ b, b ≠ F → H' b = H b) :
    MAt H' m F (setF ta f t) (setF ca f c) (setF sa f s) { M with c := setF M.c f xs, s := setF M.s f os } := by
  have kt : ∀ b xs, H b = some (.tup xs) → H' b = some (.tup xs) := fun b xs e => by
    rw [k b (ne_of e d.ff (by intro z; cases z))]
    exact e
  have ki : ∀ b (ns : List Int), H b = some (.lst (ns.map V.int)) → H' b = some (.lst (ns.map V.int)) := fun b ns e => by
    rw [k b (Ne.symm (ints_ne' d.ff e))]
    exact e
  have ko : ∀ b (ns : List (Option Int)), H b = some (.lst (ns.map pwV)) → H' b = some (.lst (ns.map pwV)) := fun b ns e => by
    rw [k b (Ne.symm (opts_ne d.ff e))]
    exact e
  refine ⟨by rw [k m d.mF]; exact d.mm, by rw [← set2 ta hf]; exact h, fun i hi => ?_, fun i hi => ?_, fun i hi => ?_⟩
  · by_cases e : i = f
    · subst e
      rw [setF_at, setF_at, setF_at]
      exact kt _ _ ht
    · rw [setF_ne _ _ e, setF_ne _ _ e, setF_ne _ _ e]
      exact kt _ _ (d.ts i hi)
  · by_cases e : i = f
    · subst e
      show H' (setF ca i c i) = some (.lst ((setF M.c i xs i).map V.int))
      rw [setF_at, setF_at]
      exact ki _ _ hc
    · show H' (setF ca f c i) = some (.lst ((setF M.c f xs i).map V.int))
      rw [setF_ne _ _ e, setF_ne _ _ e]
      exact ki _ _ (d.cs i hi)
  · by_cases e : i = f
    · subst e
      show H' (setF sa i s i) = some (.lst ((setF M.s i os i).map pwV))
      rw [setF_at, setF_at]
      exact ko _ _ hs
    · show H' (setF sa f s i) = some (.lst ((setF M.s f os i).map pwV))
      rw [setF_ne _ _ e, setF_ne _ _ e]
      exact ko _ _ (d.ss i hi)
end
def stepsM (k : Nat) (bs : List Int) : List (Option Int) := if k = 0 then bs.map some else [none]
theorem stepsM_len (k : Nat) (bs : List Int) : (stepsM k bs).length = lenM k bs := by
  unfold stepsM lenM
  by_cases h : k = 0
  · rw [if_pos h, if_pos h, List.length_map]
  · rw [if_neg h, if_neg h] <;> rfl
/-- the files behind an act, n of its steps performed -/
def mfileM (M : Mdl) (k f : Nat) (bs : List Int) (n : Nat) : Mdl :=
  if k = 2 then (if n = 1 then { M with c := setF M.c f (afterM (M.c f) (M.s f)), s := setF M.s f [] } else M) else { M with s := setF M.s f (M.s f ++ (stepsM k bs).take n) }
def mdoM (M : Mdl) (k f : Nat) (bs : List Int) : Mdl :=
  { mfileM M k f bs (cntM M.pw (lenM k bs)) with pw := M.pw.map (· - (cntM M.pw (lenM k bs) : Int)) }
theorem mfile_pw (M : Mdl) (k f : Nat) (bs : List Int) (n : Nat) : (mfileM M k f bs n).pw = M.pw := by
  unfold mfileM
  by_cases h : k = 2
  · rw [if_pos h]
    by_cases h2 : n = 1
    · rw [if_pos h2]
    · rw [if_neg h2]
  · rw [if_neg h]
theorem cnt_le (pw : Option Int) (n : Nat) : cntM pw n ≤ n := by
  cases pw with
  | none => exact Nat.le_refl _
  | some m => exact Nat.min_le_left _ _
theorem setF_self {α : Type} (g : Nat → α) (f : Nat) : setF g f (g f) = g := by
  funext j
  unfold setF
  by_cases e : j = f
  · rw [if_pos e, e]
  · rw [if_neg e]
theorem MAt.pair_chg {H0 H H' : Hp} {m F c s : Addr} {ta ca sa : Nat → Addr} {M : Mdl} {f : Nat} (d : MAt H m F ta ca sa M) (hf : f < 2) (sm : Same H0 H) (k : ∀ b, b ≠ F → H' b = H b) (c0 : c = ca f ∨ H0 c = none) (s0 : s = sa f ∨ H0 s = none) :
    Chg (mdlP m F ca sa) (mdlP m F (setF ca f c) (setF sa f s)) H0 H' := by
  have base : Chg (mdlP m F ca sa) (mdlP m F ca sa) H0 H' := (Chg.same sm).trans (but_chg k d.ff (by simp))
  refine ⟨base.kp, fun b hb => ?_, base.gro⟩
  match f, hf with
  | 0, _ =>
    have hb : b ∈ [m, F, c, ca 1, s, sa 1] := hb
    simp only [List.mem_cons, List.not_mem_nil, or_false] at hb
    rcases hb with rfl | rfl | rfl | rfl | rfl | rfl
    · exact .inl (by simp)
    · exact .inl (by simp)
    · rcases c0 with z | z
      · exact .inl (by rw [z]; simp)
      · exact .inr z
    · exact .inl (by simp)
    · rcases s0 with z | z
      · exact .inl (by rw [z]; simp)
      · exact .inr z
    · exact .inl (by simp)
  | 1, _ =>
    have hb : b ∈ [m, F, ca 0, c, sa 0, s] := hb
    simp only [List.mem_cons, List.not_mem_nil, or_false] at hb
    rcases hb with rfl | rfl | rfl | rfl | rfl | rfl
    · exact .inl (by simp)
    · exact .inl (by simp)
    · exact .inl (by simp)
    · rcases c0 with z | z
      · exact .inl (by rw [z]; simp)
      · exact .inr z
    · exact .inl (by simp)
    · rcases s0 with z | z
      · exact .inl (by rw [z]; simp)
      · exact .inr z
/-- the disk is as the model says -/
structure RelM (D : Dsk) (M : Mdl) : Prop where
  c : ∀ i, i < 2 → D.c i = M.c i
  s : ∀ i, i < 2 → D.s i = (M.s i).map codeO
  cb : ∀ i, i < 2 → ∀ n ∈ M.c i, 0 ≤ n ∧ n ≤ 255
  sb : ∀ i, i < 2 → ∀ n, some n ∈ M.s i → 0 ≤ n ∧ n ≤ 255
  pw : D.pw = M.pw
theorem after_bytes {xs : List Int} : ∀ {os : List (Option Int)}, (∀ n ∈ xs, 0 ≤ n ∧ n ≤ 255) → (∀ n, some n ∈ os → 0 ≤ n ∧ n ≤ 255) → ∀ n ∈ afterM xs os, 0 ≤ n ∧ n ≤ 255 := by
  intro os
  unfold afterM
  induction os generalizing xs with
  | nil => exact fun h _ => h
  | cons o r ih =>
    intro h1 h2
    rw [List.foldl_cons]
    refine ih (fun n hn => ?_) fun n hn => h2 n (List.mem_cons_of_mem _ hn)
    cases o with
    | none => exact absurd hn List.not_mem_nil
    | some x =>
      have hn : n ∈ xs ++ [x] := hn
      rcases List.mem_append.mp hn with hn | hn
      · exact h1 n hn
      · rw [List.mem_singleton.mp hn]
        exact h2 x List.mem_cons_self
theorem RelM.at_ {D : Dsk} {M : Mdl} (r : RelM D M) {i : Nat} (hi : i < 2) : appliedM (D.c i) (D.s i) = afterM (M.c i) (M.s i) := by
  rw [r.c i hi, r.s i hi, after_applied _ _ fun n hn => (r.sb i hi n hn).1]
/-- lists of ints are compared -/
theorem lay_ints : ∀ ns : List Int, PyData.canLayAll0 (ns.map PyData.int) = true
  | [] => by simp [PyData.canLayAll0]
  | n :: ns => by
    rw [List.map_cons, PyData.canLayAll0, lay_ints ns]
    simp [PyData.canLay0]
theorem depth_ints : ∀ ns : List Int, PyData.depthAll (ns.map PyData.int) = 0
  | [] => by simp [PyData.depthAll]
  | n :: ns => by
    rw [List.map_cons, PyData.depthAll, depth_ints ns, PyData.depth] <;> rfl
theorem dp_ints {K : PySem.W.Frag} {H : Hp} : ∀ ns : List Int, DpAll K H (ns.map V.int) (ns.map PyData.int)
  | [] => .nil
  | n :: ns => .cons (.int n) (dp_ints ns)
theorem r_neInts {K : PySem.W.Frag} {H : Hp} {Q : VK} {a b : Addr} {ns : List Int} (ha : H a = some (.lst (ns.map V.int))) (hb : H b = some (.lst (ns.map V.int))) (q : Q (.bl false) H) : uNe K (.ref a) (.ref b) H Q := by
  have lay : PyData.canLay0 (.list (ns.map PyData.int)) = true := by rw [PyData.canLay0]; exact lay_ints ns
  have sh : SeqAt.shaped (.list (ns.map PyData.int)) = true := by
    unfold SeqAt.shaped
    rw [lay, PyData.depth, depth_ints] <;> rfl
  refine .inr ⟨.list (ns.map PyData.int), .list (ns.map PyData.int), .lst (SqL.of ha) (dp_ints ns), .lst (SqL.of hb) (dp_ints ns), sh, sh, ?_⟩
  rw [SeqAt.eqv_refl _ lay]
  exact q
/-! acts: the disk stays as the model says -/
theorem map_sub0 (o : Option Int) : o.map (· - ((0 : Nat) : Int)) = o := by
  cases o with
  | none => rfl
  | some n => show some (n - 0) = some n; rw [Int.sub_zero]
theorem cnt_one (pw : Option Int) : cntM pw 1 = 0 ∨ cntM pw 1 = 1 := by
  have := cnt_le pw 1
  omega
theorem steps_codes {bs : List Int} {n : Nat} : (((bs.map some).take n).map codeO) = bs.take n := by
  rw [← List.map_take, List.map_map]
  exact List.map_id _
theorem rel_add {D : Dsk} {M : Mdl} {f : Nat} {ys : List Int} {os : List (Option Int)} {n : Int} (r : RelM D M) (hs : os.map codeO = ys) (hb : ∀ n, some n ∈ os → 0 ≤ n ∧ n ≤ 255) : RelM ((D.add f ys).use n) { M with s := setF M.s f (M.s f ++ os), pw := M.pw.map (· - n) } := by
  refine ⟨r.c, fun i hi => ?_, r.cb, fun i hi x hx => ?_, by show D.pw.map _ = M.pw.map _; rw [r.pw]⟩
  · show setF D.s f (D.s f ++ ys) i = (setF M.s f (M.s f ++ os) i).map codeO
    by_cases e : i = f
    · subst e
      rw [setF_at, setF_at, List.map_append, r.s i hi, hs]
    · rw [setF_ne _ _ e, setF_ne _ _ e]
      exact r.s i hi
  · have hx : some x ∈ setF M.s f (M.s f ++ os) i := hx
    by_cases e : i = f
    · subst e
      rw [setF_at] at hx
      exact (List.mem_append.mp hx).elim (r.sb i hi x) (hb x)
    · rw [setF_ne _ _ e] at hx
      exact r.sb i hi x hx
theorem rel_pow {D : Dsk} {M : Mdl} (r : RelM D M) : RelM D { M with pw := M.pw.map (· - ((0 : Nat) : Int)) } := ⟨r.c, r.s, r.cb, r.sb, by show D.pw = M.pw.map _; rw [map_sub0]; exact r.pw⟩
theorem RelM.act {D : Dsk} {M : Mdl} {k f : Nat} {bs : List Int} (r : RelM D M) (hk : k < 3) (hf : f < 2) (hb : ∀ n ∈ bs, 0 ≤ n ∧ n ≤ 255) : RelM (doM D k f bs) (mdoM M k f bs) := by
  unfold doM mdoM mfileM lenM stepsM
  by_cases h0 : k = 0
  · subst h0
    rw [if_pos rfl, if_pos rfl, if_neg (by decide), if_pos rfl, r.pw]
    refine rel_add (n := (cntM M.pw bs.length : Int)) r steps_codes fun n hn => ?_
    have hn := List.mem_of_mem_take hn
    obtain ⟨x, hx, e⟩ := List.mem_map.mp hn
    cases e
    exact hb n hx
  · rw [if_neg h0, if_neg h0, if_neg h0, r.pw]
    rcases cnt_one M.pw with e | e
    · rw [e, if_pos rfl]
      by_cases h2 : k = 2
      · rw [if_pos h2, if_neg (by decide)]
        exact rel_pow r
      · rw [if_neg h2]
        have e2 : setF M.s f (M.s f ++ ([none] : List (Option Int)).take 0) = M.s := by
          show setF M.s f (M.s f ++ []) = M.s
          rw [List.append_nil, setF_self]
        rw [e2]
        exact rel_pow r
    · rw [e, if_neg (by decide)]
      by_cases h2 : k = 2
      · rw [if_pos h2, if_neg (by omega), if_pos rfl]
        refine ⟨fun i hi => ?_, fun i hi => ?_, fun i hi n hn => ?_, fun i hi n hn => ?_, ?_⟩
        · show setF D.c f (appliedM (D.c f) (D.s f)) i = setF M.c f (afterM (M.c f) (M.s f)) i
          by_cases ei : i = f
          · subst ei
            rw [setF_at, setF_at, r.at_ hi]
          · rw [setF_ne _ _ ei, setF_ne _ _ ei]
            exact r.c i hi
        · show setF D.s f [] i = (setF M.s f [] i).map codeO
          by_cases ei : i = f
          · subst ei
            rw [setF_at, setF_at] <;> rfl
          · rw [setF_ne _ _ ei, setF_ne _ _ ei]
            exact r.s i hi
        · have hn : n ∈ setF M.c f (afterM (M.c f) (M.s f)) i := hn
          by_cases ei : i = f
          · subst ei
            rw [setF_at] at hn
            exact after_bytes (r.cb i hi) (r.sb i hi) n hn
          · rw [setF_ne _ _ ei] at hn
            exact r.cb i hi n hn
        · have hn : some n ∈ setF M.s f ([] : List (Option Int)) i := hn
          by_cases ei : i = f
          · subst ei
            rw [setF_at] at hn
            exact absurd hn List.not_mem_nil
          · rw [setF_ne _ _ ei] at hn
            exact r.sb i hi n hn
        · show D.pw.map _ = M.pw.map _
          rw [r.pw] <;> rfl
      · rw [if_neg h2, if_pos (by omega)]
        refine rel_add (n := 1) r rfl fun n hn => ?_
        have hn : some n ∈ ([none] : List (Option Int)) := hn
        exact absurd (List.mem_singleton.mp hn) (fun z => nomatch z)
theorem mdo_len {M : Mdl} {k f n : Nat} {bs : List Int} (hk : k < 3) (hf : f < 2) (hb : bs.length ≤ 5) (hl : ∀ i, i < 2 → (M.c i).length + (M.s i).length ≤ n) : ∀ i, i < 2 → ((mdoM M k f bs).c i).length + ((mdoM M k f bs).s i).length ≤ n + 5 := by
  intro i hi
  have h := hl i hi
  unfold mdoM mfileM
  by_cases h2 : k = 2
  · rw [if_pos h2]
    by_cases h3 : cntM M.pw (lenM k bs) = 1
    · rw [if_pos h3]
      show (setF M.c f (afterM (M.c f) (M.s f)) i).length + (setF M.s f [] i).length ≤ n + 5
      by_cases e : i = f
      · subst e
        rw [setF_at, setF_at]
        have := after_len (M.c i) (M.s i)
        show _ + 0 ≤ _
        omega
      · rw [setF_ne _ _ e, setF_ne _ _ e]
        omega
    · rw [if_neg h3]
      show (M.c i).length + (M.s i).length ≤ n + 5
      omega
  · rw [if_neg h2]
    show (M.c i).length + (setF M.s f (M.s f ++ (stepsM k bs).take (cntM M.pw (lenM k bs))) i).length ≤ n + 5
    by_cases e : i = f
    · subst e
      rw [setF_at, List.length_append, List.length_take, stepsM_len]
      have : lenM k bs ≤ 5 := by
        unfold lenM
        split <;> omega
      omega
    · rw [setF_ne _ _ e]
      omega
theorem mdo_pw {M : Mdl} {k f : Nat} {bs : List Int} (h : ∀ x, M.pw = some x → 0 ≤ x) : ∀ x, (mdoM M k f bs).pw = some x → 0 ≤ x := by
  intro x hx
  have hx : M.pw.map (· - (cntM M.pw (lenM k bs) : Int)) = some x := hx
  cases e : M.pw with
  | none =>
    rw [e] at hx
    cases hx
  | some n =>
    rw [e] at hx
    have h0 := h n e
    have hx : some (n - ((min (lenM k bs) n.toNat : Nat) : Int)) = some x := hx
    have := Option.some.inj hx
    omega
/-- a crash -/
def Mdl.crash (M : Mdl) (a b : Nat) : Mdl := ⟨fun i => if i = 0 then afterM (M.c 0) ((M.s 0).take a) else afterM (M.c 1) ((M.s 1).take b), fun _ => [], none⟩
theorem rel_take {D : Dsk} {M : Mdl} (r : RelM D M) {i : Nat} (hi : i < 2) (n : Nat) : appliedM (D.c i) ((D.s i).take n) = afterM (M.c i) ((M.s i).take n) := by
  rw [r.c i hi, r.s i hi, ← List.map_take, after_applied _ _ fun x hx => (r.sb i hi x (List.mem_of_mem_take hx)).1]
theorem RelM.crash {D : Dsk} {M : Mdl} (r : RelM D M) (a b : Nat) : RelM (D.crash a b) (M.crash a b) := by
  refine ⟨fun i hi => ?_, fun _ _ => rfl, fun i hi n hn => ?_, fun _ _ n hn => absurd hn List.not_mem_nil, rfl⟩
  · match i, hi with
    | 0, _ => exact rel_take r (by decide) a
    | 1, _ => exact rel_take r (by decide) b
  · match i, hi with
    | 0, _ => exact after_bytes (r.cb 0 (by decide)) (fun x hx => r.sb 0 (by decide) x (List.mem_of_mem_take hx)) n hn
    | 1, _ => exact after_bytes (r.cb 1 (by decide)) (fun x hx => r.sb 1 (by decide) x (List.mem_of_mem_take hx)) n hn
theorem crash_len {M : Mdl} {a b n : Nat} (hl : ∀ i, i < 2 → (M.c i).length + (M.s i).length ≤ n) : ∀ i, i < 2 → ((M.crash a b).c i).length + ((M.crash a b).s i).length ≤ n := by
  intro i hi
  match i, hi with
  | 0, _ =>
    have h1 := after_len (M.c 0) ((M.s 0).take a)
    have h2 := hl 0 (by decide)
    have h3 : ((M.s 0).take a).length ≤ (M.s 0).length := by rw [List.length_take]; omega
    show (afterM (M.c 0) ((M.s 0).take a)).length + 0 ≤ n
    omega
  | 1, _ =>
    have h1 := after_len (M.c 1) ((M.s 1).take b)
    have h2 := hl 1 (by decide)
    have h3 : ((M.s 1).take b).length ≤ (M.s 1).length := by rw [List.length_take]; omega
    show (afterM (M.c 1) ((M.s 1).take b)).length + 0 ≤ n
    omega
theorem Dqs.all_ints {H : Hp} {P : Int → Prop} : ∀ {ds : List PyData} {ys : List V}, Dqs H ys ds → (∀ (i : Nat) d, ds[i]? = some d → ∃ n, d = PyData.int n ∧ P n) → ∃ ns : List Int, ys = ns.map V.int ∧ ns.length = ds.length ∧ ∀ n ∈ ns, P n
  | [], _, h, _ => by
    cases h
    exact ⟨[], rfl, rfl, fun _ z => nomatch z⟩
  | d :: ds, _, h, hp => by
    cases h with
    | cons h1 h2 =>
      obtain ⟨s, e, p⟩ := hp 0 d rfl
      subst e
      cases h1
      obtain ⟨ss, e1, e2, e3⟩ := Dqs.all_ints h2 fun i d q => hp (i + 1) d (by simpa using q)
      refine ⟨s :: ss, by rw [e1] <;> rfl, by simp [e2], fun z hz => ?_⟩
      rcases List.mem_cons.mp hz with e | hz
      · rw [e]
        exact p
      · exact e3 z hz
/-- one file's pair of a new model -/
structure Pt (H H' : Hp) (D t c s : Addr) (xs : List Int) : Prop where
  ht : H' t = some (.tup [.ref c, .ref s])
  hc : H' c = some (.lst (xs.map V.int))
  hs : H' s = some (.lst [])
  nc : H c = none
  ns : H s = none
  cD : c ≠ D
  sD : s ≠ D
theorem Pt.same {H H1 H2 : Hp} {D t c s : Addr} {xs : List Int} (m : Same H1 H2) (p : Pt H H1 D t c s xs) : Pt H H2 D t c s xs := ⟨m _ _ p.ht, m _ _ p.hc, m _ _ p.hs, p.nc, p.ns, p.cD, p.sD⟩
theorem Pt.but {H H1 H2 : Hp} {D t c s : Addr} {xs : List Int} {ys : List V} (h : H1 D = some (.lst ys)) (k : ∀ b, b ≠ D → H2 b = H1 b) (p : Pt H H1 D t c s xs) : Pt H H2 D t c s xs :=
  ⟨by rw [k _ (ne_of p.ht h (by intro z; cases z))]; exact p.ht, by rw [k _ p.cD]; exact p.hc, by rw [k _ p.sD]; exact p.hs, p.nc, p.ns, p.cD, p.sD⟩
theorem but_out {H H' : Hp} {a : Addr} {xs : List V} {fp : List Addr} (e : H a = some (.lst xs)) (k : ∀ b, b ≠ a → H' b = H b) : Chg [a] [a] H H' := but_chg k e (List.mem_singleton.mpr rfl)
/-- told what was to be told -/
theorem r_neCut {K : PySem.W.Frag} {H : Hp} {Q : VK} {r t : Addr} (hr : H r = some (.tup [.str "cut", .bl true])) (ht : H t = some (.tup [.str "cut", .bl true])) (q : Q (.bl false) H) : uNe K (.ref r) (.ref t) H Q := by
  have dd : ∀ x, H x = some (.tup [.str "cut", .bl true]) → Dq H (.ref x) (.tuple [.str "cut", .bool true]) := fun x hx => .tup hx (.cons (.str _) (.cons (.bl _) .nil))
  have lay : PyData.canLay0 (.tuple [.str "cut", .bool true]) = true := by decide +kernel
  have sh : SeqAt.shaped (.tuple [.str "cut", .bool true]) = true := by decide +kernel
  refine r_neD (dd r hr) (dd t ht) sh sh ?_
  rw [SeqAt.eqv_refl _ lay]
  exact q
theorem r_neNon {K : PySem.W.Frag} {H : Hp} {Q : VK} (q : Q (.bl false) H) : uNe K .non .non H Q := .inl ⟨rfl, by rw [decide_eq_true rfl]; exact q⟩
/-- the files of a new model, so far -/
def Cv (H H' : Hp) (D : Addr) (M : Mdl) (x y i : Nat) (ys : List V) : Prop := (i = 0 ∧ ys = []) ∨ (i = 1 ∧ ∃ t c s, ys = [.ref t] ∧ Pt H H' D t c s ((M.crash x y).c 0)) ∨
  (i = 2 ∧ ∃ t0 c0 s0 t1 c1 s1, ys = [.ref t0, .ref t1] ∧ Pt H H' D t0 c0 s0 ((M.crash x y).c 0) ∧ Pt H H' D t1 c1 s1 ((M.crash x y).c 1))
theorem Cv.step {H H1 H2 H3 : Hp} {D t c s : Addr} {M : Mdl} {x y i : Nat} {ys : List V} (v : Cv H H1 D M x y i ys) (hi : i < 2) (m : Same H1 H2) (h2 : H2 D = some (.lst ys)) (k : ∀ b, b ≠ D → H3 b = H2 b) (p : Pt H H3 D t c s ((M.crash x y).c i)) : Cv H H3 D M x y (i + 1) (ys ++ [.ref t]) := by
  rcases v with ⟨rfl, rfl⟩ | ⟨rfl, t', c', s', rfl, q⟩ | ⟨rfl, _⟩
  · exact .inr (.inl ⟨rfl, t, c, s, rfl, p⟩)
  · exact .inr (.inr ⟨rfl, t', c', s', t, c, s, rfl, (q.same m).but h2 k, p⟩)
  · omega
theorem Cv.mat {H H' H2 : Hp} {D m : Addr} {M : Mdl} {x y : Nat} {ys : List V} (v : Cv H H' D M x y 2 ys) (hd : H' D = some (.lst ys)) (sm : Same H' H2) (hm : H2 m = some (.lst [.ref D, .non])) :
    ∃ ta ca sa, MAt H2 m D ta ca sa (M.crash x y) ∧ ∀ b ∈ mdlP m D ca sa, b = m ∨ b = D ∨ H b = none := by
  rcases v with ⟨z, _⟩ | ⟨z, _⟩ | ⟨_, t0, c0, s0, t1, c1, s1, rfl, q0, q1⟩
  · omega
  · omega
  · have p0 := q0.same sm
    have p1 := q1.same sm
    refine ⟨fun i => if i = 0 then t0 else t1, fun i => if i = 0 then c0 else c1, fun i => if i = 0 then s0 else s1, ⟨hm, sm _ _ hd, fun i hi => ?_, fun i hi => ?_, fun i hi => ?_⟩, fun b hb => ?_⟩
    · match i, hi with
      | 0, _ => exact p0.ht
      | 1, _ => exact p1.ht
    · match i, hi with
      | 0, _ => exact p0.hc
      | 1, _ => exact p1.hc
    · match i, hi with
      | 0, _ => exact p0.hs
      | 1, _ => exact p1.hs
    · have hb : b ∈ [m, D, c0, c1, s0, s1] := hb
      simp only [List.mem_cons, List.not_mem_nil, or_false] at hb
      rcases hb with rfl | rfl | rfl | rfl | rfl | rfl
      · exact .inl rfl
      · exact .inr (.inl rfl)
      · exact .inr (.inr p0.nc)
      · exact .inr (.inr p1.nc)
      · exact .inr (.inr p0.ns)
      · exact .inr (.inr p1.ns)
theorem crash_c (M : Mdl) (x y : Nat) {i : Nat} (hi : i < 2) : (M.crash x y).c i = afterM (M.c i) ((M.s i).take (if i = 0 then x else y)) := by
  match i, hi with
  | 0, _ => rfl
  | 1, _ => rfl
theorem at2i (x y : Nat) {i : Nat} (hi : i < 2) : atI [V.int x, V.int y] (i : Int) = some (.int ((if i = 0 then x else y : Nat) : Int)) := by
  match i, hi with
  | 0, _ => rfl
  | 1, _ => rfl
end Dk

/-! Sets of texts made of a tuple, and sorted. -/
namespace Dk
open PySem PySem.Spec PyProof.Rows L2 PySem.Froz
/-- laying a text keeps the places rising -/
theorem addTx_keeps (n : Int) (v : Value) (rows : Array (Int × Value)) (c : Nat) (tb : SetTable) (up : Ris tb.place.toList) : Ris (addTx n v (rows, c, tb)).2.2.place.toList ∧ (addTx n v (rows, c, tb)).2.2.led = tb.led := by
  have a1 := layNew_ris tb rows n v up
  have a2 := layNew_led tb rows n v
  show Ris (tailTx c (layNew tb rows n v).1 (if (layNew tb rows n v).2.1.plain = true then { (layNew tb rows n v).2.1 with plain := false } else (layNew tb rows n v).2.1) (layNew tb rows n v).2.2.1).2.2.place.toList ∧
    (tailTx c (layNew tb rows n v).1 (if (layNew tb rows n v).2.1.plain = true then { (layNew tb rows n v).2.1 with plain := false } else (layNew tb rows n v).2.1) (layNew tb rows n v).2.2.1).2.2.led = tb.led
  generalize layNew tb rows n v = Z at a1 a2 ⊢
  obtain ⟨r1, tb1, wd, gv⟩ := Z
  dsimp only at a1 a2 ⊢
  have b1 : Ris (if tb1.plain = true then { tb1 with plain := false } else tb1).place.toList := by split <;> exact a1
  have b2 : (if tb1.plain = true then { tb1 with plain := false } else tb1).led = tb.led := by split <;> exact a2
  generalize (if tb1.plain = true then { tb1 with plain := false } else tb1) = tb2 at b1 b2 ⊢
  unfold tailTx
  split
  · exact ⟨relayAll_ris tb2 r1 _, (relayAll_led tb2 r1 _).trans b2⟩
  · exact ⟨b1, b2⟩
/-- the set of texts at p: those of l, each once -/
def TxAt (P : Program) (w : World) (h : Heap) (p : Addr) (l : List Str) : Prop := ∃ rows c tb, h.get? p = some (sObj "set" (rows, c, tb)) ∧ TxOk P w (rows, c, tb) l ∧ Ris tb.place.toList ∧ (w.params.followText "set-order" = true ∨ tb.led = true) ∧ l.Nodup
theorem TxAt.at_ {P : Program} {w : World} {h h' : Heap} {p : Addr} {l : List Str} (x : TxAt P w h p l) (k : ∀ o, h.get? p = some o → h'.get? p = some o) : TxAt P w h' p l := by
  obtain ⟨rows, c, tb, e, r⟩ := x
  exact ⟨rows, c, tb, k _ e, r⟩
abbrev frO (w : World) : Obj := { cls := .type "set", dict := none, data := .set #[] 0 (.fresh 0 0 (!w.params.followText "set-order")) }
theorem txAt_new {P : Program} {w : World} {h : Heap} {p : Addr} (e : h.get? p = some (frO w)) : TxAt P w h p [] := by
  refine ⟨#[], 0, _, e, TxOk.nil (by rfl), List.Pairwise.nil, ?_, List.nodup_nil⟩
  show _ ∨ (!w.params.followText "set-order") = true
  cases w.params.followText "set-order" with
  | false => exact .inr rfl
  | true => exact .inl rfl
section
variable {P : Program} {w : World} {A : Around} {E : Value → Shared → Prop} {s : Shared}
/-- one text more, or the same again -/
theorem tx_add {p : Addr} {l : List Str} {k : Str} {u : Tok} {Q : Bool → Shared → Prop} (x : TxAt P w s.heap p l) (room : l.length + 1 < scanBound)
    (q : ∀ b h' l', Heap.SameBut p s.heap h' → TxAt P w h' p l' → (∀ z, z ∈ l' ↔ z ∈ l ∨ z = k) → l'.length ≤ l.length + 1 → Q b { s with heap := h' }) : wpAny (model P w) A (setAddHashed p (.str k u) (hashStr w k)) Q E s := by
  obtain ⟨rows, c, tb, e, T, up, ld, nd⟩ := x
  by_cases hk : k ∈ l
  · have fit : tb.fits rows.size = true := T.fit
    have els : ElemsOf (strKind P w) rows.toList := T.el
    have sz : rows.size = l.length := T.sz
    have few : rows.size < scanBound := by omega
    have same : (PySem.strKind P w).is k (.str k u) = true := is_str k u
    unfold setAddHashed setAddHashedIn
    refine wpAny_holding (wpAny_bind (wpAny_setState_of e rfl fit ?_))
    dsimp only
    rw [byScan_of (knd := PySem.strKind P w) rfl few els]
    simp only [↓reduceIte]
    unfold setAddByScan
    refine wpAny_bind (wpAny_bind (wpAny_rule (wpAny_bind (wpAny_setScan_of (knd := PySem.strKind P w) (k := k) same e rfl fit els ?_))))
    have found : ∃ j, List.findIdx? (fun r => (PySem.strKind P w).is k r.2) rows.toList = some j := by
      obtain ⟨r, hr, hi⟩ := (T.mem k).mp hk
      cases z : List.findIdx? (fun r => (PySem.strKind P w).is k r.2) rows.toList with
      | some j => exact ⟨j, rfl⟩
      | none =>
        have := List.findIdx?_eq_none_iff.mp z r hr
        rw [hi] at this
        cases this
    obtain ⟨j, ej⟩ := found
    rw [ej]
    dsimp only
    exact wpAny_pure (wpAny_pure (q false s.heap l (Heap.SameBut.refl p s.heap) ⟨rows, c, tb, e, T, up, ld, nd⟩ (fun z => ⟨.inl, fun h => h.elim id fun h => h ▸ hk⟩) (Nat.le_succ _)))
  · refine add_x e T hk room ?_
    obtain ⟨u1, u2⟩ := addTx_keeps (hashStr w k) (.str k u) rows c tb up
    have T1 := add_ok (k := k) u T
    generalize addTx (hashStr w k) (.str k u) (rows, c, tb) = Z at u1 u2 T1 ⊢
    obtain ⟨r1, c1, tb1⟩ := Z
    refine q true _ (k :: l) ⟨Heap.size_update .., fun b hb => Heap.get?_update_other _ _ (Ne.symm hb)⟩ ⟨r1, c1, tb1, get_upd _ e rfl, T1, u1, ld.imp id fun z => Eq.trans u2 z, List.nodup_cons.mpr ⟨hk, nd⟩⟩ (fun z => by rw [List.mem_cons]; exact Or.comm) (Nat.le_refl _)
/-- the loop of set(..) over the items -/
theorem tx_loop {I : Addr} {fp wr : List Addr} {G : Array GenState → Array GenState → Prop} {n : Nat} {Pv : Nat → Value → Prop} {St : Nat → Shared → Prop} {R : Result → Shared → Prop} (W : WalksS P w A.in1 I fp wr G n Pv St) (p : Addr) (out : p ∉ fp) (ss : List Str) (hn : n = ss.length) (room : ss.length + 1 < scanBound)
    (item : ∀ i v, Pv i v → ∃ k u, ss[i]? = some k ∧ v = .str k u) : ∀ (m i : Nat) (s : Shared), n - i = m → i ≤ n → St i s → (∃ l, TxAt P w s.heap p l ∧ (∀ z, z ∈ l ↔ z ∈ ss.take i) ∧ l.length ≤ i) →
      (∀ s' l, Moved (p :: wr) G s s' → TxAt P w s'.heap p l → (∀ z, z ∈ l ↔ z ∈ ss) → l.length ≤ n → R (.ok (.ret .none)) s') → codeAny (model P w) A (.builtin "set.update.loop" ⟨[.ref p, .ref I], []⟩) R s := by
  have pw : p ∉ wr := fun z => out (W.sub _ z)
  have more : ∀ b ∈ wr, b ∈ p :: wr := fun b z => List.mem_cons_of_mem _ z
  intro m
  induction m with
  | zero =>
    intro i s hm hi st ⟨l, x, mem, few⟩ fin
    have ei : i = n := by omega
    subst ei
    refine codeAny_builtin F.entry_set_update_loop ?_
    rw [Around.under_plainId F.plain_set_update_loop _]
    show wpAny _ A.in1 (pyNext (.ref I) >>= _) _ _ s
    refine wpAny_bind (W.done s _ _ st fun s1 mv => ?_)
    show wpAny _ A.in1 (ret Value.none) _ _ s1
    exact wpAny_pure (fin s1 l (mv.mono more) (x.at_ fun o z => mv.heap p o pw z) (fun z => by rw [mem z, List.take_of_length_le (by omega)]) few)
  | succ m ih =>
    intro i s hm hi st ⟨l, x, mem, few⟩ fin
    have lt : i < n := by omega
    refine codeAny_builtin F.entry_set_update_loop ?_
    rw [Around.under_plainId F.plain_set_update_loop _]
    show wpAny _ A.in1 (pyNext (.ref I) >>= _) _ _ s
    refine wpAny_bind (W.item i s _ _ lt st fun v s1 hv st1 mv => ?_)
    obtain ⟨k, u, hk, rfl⟩ := item i v hv
    have x1 : TxAt P w s1.heap p l := x.at_ fun o z => mv.heap p o pw z
    show wpAny _ A.in1 (holding [Value.str k u] (setAdd p (.str k u)) >>= _) _ _ s1
    unfold setAdd
    refine wpAny_bind (wpAny_holding (wpAny_holding (wpAny_bind ((PySem.strKind P w).pyHash (k := k) (is_str k u) ?_))))
    refine tx_add (s := { s1 with toks := s1.toks + 1 }) x1 (by omega) fun b h2 l2 sb x2 mem2 few2 => ?_
    have mem3 : ∀ z, z ∈ l2 ↔ z ∈ ss.take (i + 1) := fun z => by
      rw [mem2 z, mem z, List.take_add_one, hk]
      simp [List.mem_append]
    refine wpAny_pure ⟨plainId_quiet F.plain_set_update_loop _, ih (i + 1) _ (by omega) lt (W.frame _ s1 _ _ st1 (Nat.le_succ _) fun b hb o z => ?_) ⟨l2, x2, mem3, by omega⟩ fun s3 l3 mv3 x3 mem4 few4 => ?_⟩
    · rw [sb.2 b (fun q : b = p => out (by rw [← q]; exact hb))]
      exact z
    · refine fin s3 l3 (Moved.trans W.gtrans ((mv.mono more).then_heap (Nat.le_succ _) fun b o hb z => ?_) mv3) x3 mem4 few4
      rw [sb.2 b (fun q : b = p => hb (by rw [q]; exact List.mem_cons_self))]
      exact z
set_option maxHeartbeats 3200000 in
/-- set(a tuple of texts) -/
theorem tx_set {a : Addr} {its : Array Value} (ss : List Str) {Q : Value → Shared → Prop} (calm : A.handled = none) (ha : s.heap.IsTuple a its) (hi : StrsAre its.toList ss) (room : ss.length + 1 < scanBound)
    (q : ∀ (h' : Heap) (n : Nat) (l : List Str), TxAt P w h' s.heap.objs.size l → (∀ z, z ∈ l ↔ z ∈ ss) → l.length ≤ ss.length → (∀ b o, s.heap.get? b = some o → h'.get? b = some o) → Q (.ref s.heap.objs.size) { s with heap := h', toks := n }) :
    wpAny (model P w) A (call (.type "set") [.ref a]) Q E s := by
  have il : its.size = ss.length := by rw [← StrsAre.length hi, Array.length_toList]
  obtain ⟨mr0, mr1, mr2⟩ := F.called_set.mro
  have m0 := F.called_set.made
  have m1 := F.called_set.sub
  refine wpAny_call (codeAny_of_tree (show wpAny _ _ (callAny (.type "set") _) _ _ _ from ?_))
  refine wpAny_pure ⟨Code.quiet_builtin _ (by decide +kernel), codeAny_builtin F.entry_type_call (show _ from ?_)⟩
  rw [Around.under_plain (weight_type_call_type "set" [.ref a] []) rfl]
  have m2 := F.called_set.notType
  have m3 := F.called_set.canCreate
  have m4 := F.typeCall_set_1 (.ref a)
  repeat (any_goals (first | assumption | wp_step))
  refine codeAny_mono (code_set_led1 (.ref a) (E := E) (Q₁ := fun ob s1 => ob = .ref s.heap.objs.size ∧ s1 = { s with heap := s.heap.push (frO w) }) ⟨rfl, rfl⟩) fun r s1 hr => ?_
  cases r with
  | error x => exact hr
  | ok fl =>
    cases fl with
    | ret ob =>
      obtain ⟨rfl, rfl⟩ := hr
      have z0 : (s.heap.push (frO w)).get? s.heap.objs.size = some (frO w) := Heap.get?_push_size _ rfl
      have zT : Shared.TypeIs { s with heap := s.heap.push (frO w) } (.ref s.heap.objs.size) "set" := ⟨_, z0, rfl⟩
      have m5 := F.called_set.init.lookup
      have m6 := F.called_set.init.bind (.ref s.heap.objs.size)
      repeat (any_goals (first | assumption | wp_step))
      refine codeAny_mono (codeAny_call_builtin (R := wants (fun r s2 => r = .none ∧ ∃ h' n l, s2 = { s with heap := h', toks := n } ∧ TxAt P w h' s.heap.objs.size l ∧ (∀ z, z ∈ l ↔ z ∈ ss) ∧ l.length ≤ ss.length ∧
          (∀ b o, s.heap.get? b = some o → h'.get? b = some o)) E) F.called_set.init.plain F.entry_set_init (check_set_init_1 zT ?_)) fun r2 s2 hr2 => ?_
      · obtain ⟨oa, hoa, hca, na, hda⟩ := ha
        obtain ⟨ocl, odi, oda, osl⟩ := oa
        simp only at hca hda
        subst hca hda
        have hoa2 : (s.heap.push (frO w)).get? a = some { cls := .type "tuple", dict := odi, data := .seq its na, slots := osl } := Heap.get?_push_of_some _ hoa
        have n1 := F.sub_tuple_set
        have n2 := F.sub_tuple_frozenset
        have n3 : (Value.type "tuple" == Value.type "dict") = false := by decide
        have ia : (s.heap.push (frO w)).IsTuple a its := ⟨_, hoa2, rfl, na, rfl⟩
        unfold Builtin.«set.__init__» noKeywords Builtin.Frozenset.updateFrom
        generalize hPI : pyIter = PI
        wp_walk
        subst hPI
        refine wpAny_pyIter_tuple ia (wpAny_bind (wpAny_runValue ?_))
        have lt := Heap.lt_size hoa
        have calm3 : A.in1.in1.in1.handled = none := by simp [calm]
        have z1 : (s.heap.push (frO w)).objs.size = s.heap.objs.size + 1 := Heap.size_push ..
        have aI : a ≠ (s.heap.push (frO w)).objs.size := by
          rw [z1]
          exact Nat.ne_of_lt (Nat.lt_succ_of_lt lt)
        have out : s.heap.objs.size ∉ [(s.heap.push (frO w)).objs.size, a] := by
          rw [z1]
          simp only [List.mem_cons, List.not_mem_nil, or_false, not_or]
          exact ⟨Nat.ne_of_lt (Nat.lt_succ_self _), Nat.ne_of_gt lt⟩
        have item : ∀ (i : Nat) (v : Value), its[i]? = some v → ∃ k u, ss[i]? = some k ∧ v = .str k u := fun i v hv => by
          obtain ⟨y, t, e1, e2⟩ := StrsAre.item hi i v (by rw [Array.getElem?_toList]; exact hv)
          exact ⟨y, t, e2, e1⟩
        refine tx_loop ((Walks.tuple calm3 _ a aI its).toS) s.heap.objs.size out ss il room item (its.size - 0) 0 _ (by omega) (Nat.zero_le _) ⟨⟨_, Heap.get?_push_size _ rfl, rfl, rfl⟩, (ia.push _)⟩ ⟨[], txAt_new (Heap.get?_push_of_some _ z0), (fun z => by simp), Nat.le_refl _⟩ ?_
        intro s3 l mv x mem few
        obtain ⟨h3, g3, d3, t3, o3⟩ := s3
        obtain rfl : g3 = s.gens := mv.gens
        obtain rfl : d3 = s.drawn := mv.drawn
        obtain rfl : o3 = s.os := mv.os
        show wpAny _ _ _ _ _ _
        refine wpAny_pure (show wpAny _ _ (ret Value.none) _ _ _ from ?_)
        refine wpAny_pure ⟨rfl, h3, t3, l, rfl, x, mem, by rw [← il]; exact few, fun b o z => ?_⟩
        have b0 := Heap.lt_size z
        refine mv.heap b o ?_ (Heap.get?_push_of_some _ (Heap.get?_push_of_some _ z))
        rw [z1]
        simp only [List.mem_cons, List.not_mem_nil, or_false, not_or]
        exact ⟨Nat.ne_of_lt b0, Nat.ne_of_lt (Nat.lt_succ_of_lt b0)⟩
      · cases r2 with
        | error x => exact hr2
        | ok fl2 =>
          cases fl2 with
          | ret r =>
            obtain ⟨rfl, h3, n3, l, rfl, x, mem, few, kp⟩ := hr2
            repeat (any_goals (first | assumption | wp_step))
            exact q h3 n3 l x mem few kp
          | _ => exact hr2.elim
    | _ => exact hr.elim
theorem perm_sub {α : Type} [DecidableEq α] : ∀ {l m : List α}, l.Nodup → (∀ x ∈ l, x ∈ m) → m.length ≤ l.length → l.Perm m
  | [], m, _, _, h => by
    have e : m = [] := List.eq_nil_of_length_eq_zero (Nat.le_zero.mp h)
    rw [e]
  | x :: l, m, nd, sub, h => by
    obtain ⟨nx, nl⟩ := List.nodup_cons.mp nd
    have hx := sub x List.mem_cons_self
    have hl : (m.erase x).length ≤ l.length := by
      rw [List.length_erase_of_mem hx]
      rw [List.length_cons] at h
      omega
    have ih := perm_sub nl (fun y hy => (List.mem_erase_of_ne (fun (e : y = x) => nx (by rw [← e]; exact hy))).2 (sub y (List.mem_cons_of_mem _ hy))) hl
    exact (ih.cons x).trans (List.perm_cons_erase hx).symm
/-- sorted(a set of texts) -/
theorem tx_sorted {p : Addr} {l : List Str} {Q : Value → Shared → Prop} (x : TxAt P w s.heap p l) (calm : A.handled = none) (few : l.length < 64)
    (q : ∀ s1 r (res : Array Value) (n : Nat) (ys : List Str), (∀ b o, s.heap.get? b = some o → s1.heap.get? b = some o) → s1.gens = s.gens → s1.os = s.os → s.heap.objs.size ≤ r → s1.heap.get? r = some (seqObj "list" res n) → StrsAre res.toList ys → ys.Perm l → sortedS ys = true → Q (.ref r) s1) :
    wpAny (model P w) A (call (.builtin "sorted") [.ref p]) Q E s := by
  obtain ⟨rows, c, tb, e, T, up, ld, nd⟩ := x
  have sz : rows.size = l.length := T.sz
  refine Calls.call_function_entry kind_sorted plain_sorted entry_sorted (args_sorted1 _) (show _ from ?_)
  unfold Builtin.«sorted»
  refine wpAny_bind (m := checkCount "sorted" 1 1 _) (wpAny_pure (wpAny_bind (collect_set (A := A.in1) calm ⟨_, e, rfl, rfl⟩ T.fit (show rows.size < scanBound by unfold scanBound; omega) up ld fun s1 vs k1 hz g1 o1 pm => ?_)))
  have el : ∀ v ∈ rows.toList.map (·.2), ∃ k u, v = Value.str k u := fun v hv => by
    obtain ⟨r, hr, rfl⟩ := List.mem_map.mp hv
    obtain ⟨⟨k, hk, _⟩, _⟩ := T.el r hr
    have hk : Value.isStrOf k r.2 = true := hk
    cases ev : r.2 <;> rw [ev] at hk <;> first
      | exact ⟨_, _, rfl⟩
      | cases hk
  have S0 := strsAre_map (rows.toList.map (·.2)) el
  have SV := strsAre_map vs fun v hv => el v (pm.mem_iff.mp hv)
  have pk : (vs.map strOf).Perm l := by
    have p1 : (vs.map strOf).Perm ((rows.toList.map (·.2)).map strOf) := pm.map strOf
    refine p1.trans ?_
    have len : ((rows.toList.map (·.2)).map strOf).length = l.length := by rw [List.length_map, List.length_map, Array.length_toList, sz]
    have sub : ∀ k ∈ l, k ∈ (rows.toList.map (·.2)).map strOf := fun k hk => by
      obtain ⟨r, hr, is⟩ := (T.mem k).mp hk
      obtain ⟨k2, u, ev⟩ := el r.2 (List.mem_map_of_mem hr)
      have is : Value.isStrOf k r.2 = true := is
      rw [ev] at is
      have ek : k2 = k := by simpa [Value.isStrOf] using is
      refine List.mem_map.mpr ⟨r.2, List.mem_map_of_mem hr, ?_⟩
      rw [ev, ← ek] <;> rfl
    exact (perm_sub nd sub (Nat.le_of_eq len)).symm
  have vl : vs.length < 64 := by
    have := pk.length_eq
    rw [List.length_map] at this
    omega
  refine wpAny_bind (wpAny_newList ?_ (by rw [sizeLine_eq]; omega))
  have o2 : (s1.heap.push (seqObj "list" vs.toArray 0)).get? s1.heap.objs.size = some (seqObj "list" vs.toArray 0) := Heap.get?_push_size _ rfl
  refine wpAny_bind (wpAny_holding (wpAny_call_entry slot_list_sort ⟨_, o2, rfl⟩ entry_list_sort (list_sort_treeK strKind_oneLt o2 SV.keysOf (fun v1 v2 rest z => keyKind_strs (by rw [← z]; exact SV)) vl fun st hp hs => ⟨_, rfl, ?_⟩) (args_list_sort _)))
  obtain ⟨ys, y1, y2, y3⟩ := sorted_out_str SV hp hs
  obtain ⟨n, hn⟩ := sortedHeap_at (vs := vs) (out := (arrOf st).map (·.2)) o2
  refine wpAny_pure ⟨_, rfl, q _ s1.heap.objs.size _ n ys (fun b o z => ?_) g1 o1 hz hn y1 (y2.trans pk) y3⟩
  have z1 := k1 b o z
  have lt := Heap.lt_size z1
  show (sortedHeap (s1.heap.push (seqObj "list" vs.toArray 0)) s1.heap.objs.size vs _).get? b = some o
  rw [sortedHeap_old (Nat.ne_of_lt lt) (by rw [size_push']; exact Nat.lt_succ_of_lt lt)]
  exact Heap.get?_push_of_some _ z1
end
/-- a set of texts in the heap of the proof -/
def TxO (P : Program) (w : World) (p : Addr) (l : List Str) : HO := .ext fun h => TxAt P w h p l
theorem txO_ok {P : Program} {w : World} {H : Hp} {h : Heap} {p : Addr} {l : List Str} (x : TxAt P w h p l) : ObjOk P w H h p (TxO P w p l) := by
  have ⟨rows, c, tb, z, r⟩ := x
  exact ⟨x, ⟨_, z⟩, fun h1 h2 y k => TxAt.at_ y k⟩
section
variable {X : Cx} {K : PySem.W.Frag}
/-- set(x), sorted(x) -/
def uSetT (K : PySem.W.Frag) (P : Program) (w : World) : List V → Hp → VK → Prop := fun xs H Q => ∃ (t : Addr) (ss : List Str), xs = [V.ref t] ∧ SqT K H t (ss.map V.str) ∧ ss.length < 64 ∧ ∀ p l, H p = none → (∀ z, z ∈ l ↔ z ∈ ss) → l.Nodup → l.length ≤ ss.length → Q (.ref p) (upd H p (TxO P w p l))
def uSortT (P : Program) (w : World) : List V → Hp → VK → Prop := fun xs H Q => ∃ (p : Addr) (l : List Str), xs = [V.ref p] ∧ H p = some (TxO P w p l) ∧ l.length < 64 ∧ ∀ r ys, H r = none → ys.Perm l → sortedS ys = true → Q (.ref r) (upd H r (.lst (ys.map V.str)))
theorem call_setT (hc : X.calm = true) (hK : X.K = K := by rfl) : CallR X (.type "set") (uSetT K X.prog X.w) := by
  subst hK
  intro pins s σ H xs us Q I r h
  obtain ⟨t, ss, rfl, ht, few, q⟩ := h
  rw [Vals.ref1 r]
  obtain ⟨its, rv, pt, _⟩ := I.tuple ht
  refine tx_set (P := X.prog) (w := X.w) ss (I.ok.hd hc) pt (by simpa using rv.strs) (by unfold scanBound; omega) fun h' n l x mem le kp => ?_
  have nd : l.Nodup := by
    obtain ⟨_, _, _, _, _, _, _, nd⟩ := x
    exact nd
  exact ⟨.ref s.heap.objs.size, _, I.laid (t' := n) kp (Nat.le_refl _) (txO_ok x), rfl, q _ l (I.hok.fresh (Nat.le_refl _)) mem nd le⟩
theorem call_sortT (hc : X.calm = true) : CallR X (.builtin "sorted") (uSortT X.prog X.w) := by
  intro pins s σ H vs us Q I r h
  obtain ⟨p, l, rfl, hp, few, q⟩ := h
  have x : TxAt X.prog X.w s.heap p l := (I.hok p _ hp).1
  rw [Vals.ref1 r]
  refine tx_sorted x (I.ok.hd hc) few fun s1 b res n ys kp g o hb hr sa pm so => ?_
  have len : (ys.map V.str).length ≤ sizeLine := by
    rw [List.length_map, pm.length_eq, sizeLine_eq]
    omega
  have nb : H b = none := I.hok.fresh hb
  have J : Inv X pins σ (upd H b (.lst (ys.map V.str))) { s with heap := s1.heap, gens := s1.gens, drawn := s1.drawn, toks := s1.toks } :=
    I.call (ch := []) (Un.laid kp hb nb) (I.hok.laid kp hb ⟨len, res.toList, n, vals_of_strs sa, hr⟩) (by rw [g]; exact I.bare) (fun _ z => nomatch z)
  have e : s1 = { s with heap := s1.heap, gens := s1.gens, drawn := s1.drawn, toks := s1.toks } := by
    cases s1
    cases s
    cases o
    rfl
  rw [e]
  exact ⟨.ref b, _, J, rfl, q b ys nb pm so⟩
end
section
variable {K : PySem.W.Frag} {P : Program} {w : World} {H : Hp} {Q : VK} {p t : Addr} {l ss : List Str}
theorem r_setT (h : H t = some (.tup (ss.map V.str))) (few : ss.length < 64) (k : ∀ p l H', H p = none → (∀ z, z ∈ l ↔ z ∈ ss) → l.Nodup → l.length ≤ ss.length → Same H H' → H' p = some (TxO P w p l) → Q (.ref p) H') : uSetT K P w [.ref t] H Q :=
  ⟨t, ss, rfl, SqT.of h, few, fun p l np mem nd le => k p l _ np mem nd le (same_new np) upd_same⟩
theorem r_sortT (h : H p = some (TxO P w p l)) (few : l.length < 64) (k : ∀ r ys H', H r = none → ys.Perm l → sortedS ys = true → Same H H' → H' r = some (.lst (ys.map V.str)) → Q (.ref r) H') : uSortT P w [.ref p] H Q :=
  ⟨p, l, rfl, h, few, fun r ys nr pm so => k r ys _ nr pm so (same_new nr) upd_same⟩
end
end Dk

/-! The head's facts with tests of one's own beside the kit's. -/
namespace Dk
open PySem PySem.Spec PyProof.Rows L2
abbrev Prd : Type := PySem.W.Frag → Bool
def obsB (fa : List He.Fa) (fb : List Prd) (fn : List He.DefD) (K : PySem.W.Frag) : He.AlD := ((He.obsD fa fn K).1 && fb.all (fun p => p K), (He.obsD fa fn K).2)
def SaysB (fa : List He.Fa) (fb : List Prd) (fn : List He.DefD) (K : PySem.W.Frag) : Prop := obsB fa fb fn K = He.valD fn
def obsBG (n : Nat) (fa : List He.Fa) (fb : List Prd) (fn : List He.DefD) (g : Addr → Option Obj) : He.AlD := obsB fa fb fn (He.frG g (He.asD g n))
def hookB (n : Nat) (fa : List He.Fa) (fb : List Prd) (fn : List He.DefD) : PySem.W.Hook where
  α := He.AlD
  obs := fun s => obsBG n fa fb fn s.heap.get?
  val := fun _ => He.valD fn
  says := fun _ h => ∃ K : PySem.W.Frag, K.In h ∧ SaysB fa fb fn K
  of := fun _ _ q => ⟨_, He.frG_in, q⟩
  keeps := fun _ _ _ ⟨K, i, c⟩ k => ⟨K, PySem.W.Frag.In.keeps i k, c⟩
theorem obsBG_eq {n : Nat} {fa : List He.Fa} {fb : List Prd} {fn : List He.DefD} {g : Addr → Option Obj} {s : Shared} (h : ∀ a, g a = s.heap.get? a) : obsBG n fa fb fn g = (hookB n fa fb fn).obs s := by
  have q : g = s.heap.get? := funext h
  rw [q] <;> rfl
theorem SaysB.d {fa : List He.Fa} {fb : List Prd} {fn : List He.DefD} {K : PySem.W.Frag} (c : SaysB fa fb fn K) : He.SaysD fa fn K ∧ ∀ (i : Nat) (p : Prd), fb[i]? = some p → p K = true := by
  have h1 : ((He.obsD fa fn K).1 && fb.all (fun p => p K)) = true := congrArg (fun z : He.AlD => z.1) c
  have h2 : (He.obsD fa fn K).2 = fn.map He.DefD.val := congrArg (fun z : He.AlD => z.2) c
  obtain ⟨k1, k2⟩ := He.ba h1
  exact ⟨Prod.ext k1 h2, fun i p q => List.all_eq_true.mp k2 p (List.mem_of_getElem? q)⟩
/-! ### what is asked of exception classes -/
def pExcC (x : Str) : Prd := fun K => He.eqO (PySem.W.findIn K (.ref (He.ga K x)) "__getattribute__") (some (some (.builtin "BaseException.__getattribute__"))) && (He.eqO (PySem.W.findIn K (.ref (He.ga K x)) "__getattr__") (some none) &&
  (decide (PySem.W.subIn K (.ref (He.ga K x)) (.type "BaseException") = some true) && (PySem.W.hasDictIn K (He.ga K x) && (He.eqO (PySem.W.findIn K (.ref (He.ga K x)) "__class__") (some (some (.builtin "object.__class__"))) &&
  (He.eqO (PySem.W.specialIn K (.builtin "object.__class__") "__get__") (some (some (.builtin "getset_descriptor.__get__"))) && (decide (PySem.W.takesIn K (.builtin "object.__class__") = some true) && decide (PySem.W.mroIn K (He.ga K x) (.type "object") = some true)))))))
theorem pExcC_ok {K : PySem.W.Frag} {x : Str} (h : pExcC x K = true) : ExcC K (He.ga K x) := by
  obtain ⟨a1, h⟩ := He.ba h
  obtain ⟨a2, h⟩ := He.ba h
  obtain ⟨a3, h⟩ := He.ba h
  obtain ⟨a4, h⟩ := He.ba h
  obtain ⟨a5, h⟩ := He.ba h
  obtain ⟨a6, h⟩ := He.ba h
  obtain ⟨a7, a8⟩ := He.ba h
  exact ⟨He.eqO_ok a1, He.eqO_ok a2, of_decide_eq_true a3, a4, He.eqO_ok a5, He.eqO_ok a6, of_decide_eq_true a7, of_decide_eq_true a8⟩
def pKit (x : Str) (v : PySem.W.Frag → Value) (b : Bool) : Prd := fun K => decide (PySem.W.kitOne K (.ref (He.ga K x)) (v K) = some b)
theorem pKit_ok {K : PySem.W.Frag} {x : Str} {v : PySem.W.Frag → Value} {b : Bool} (h : pKit x v b K = true) : PySem.W.kitOne K (.ref (He.ga K x)) (v K) = some b := of_decide_eq_true h
end Dk

/-! Attributes as targets, del, enumerate, comprehensions with any target, sorted ints; data with lists. -/
namespace Dk
open PySem PySem.Spec PyProof.Rows L2
theorem bt_set : bootBuiltins "set" = some (.type "set") := by decide +kernel
section
variable {X : Cx} {K : PySem.W.Frag} {o i e : Expr} {to ti : TE} {f : Str} {pos tpos : Pos} {ta : TA}
/-- o.f as a target -/
def gFld (K : PySem.W.Frag) (to : TE) (f : Str) : TG := fun v σ H Q => to σ H fun x H1 => ∃ a C dx fs, x = .ref a ∧ H1 a = some (.ins C dx fs) ∧ Cls K C ∧ NoAttr K C f ∧ fs.length < 1000 ∧ Q σ (upd H1 a (.ins C dx (putF f v fs)))
theorem pg_fldU (ho : PE X o to) (hK : X.K = K := by rfl)
    (ha : ∀ v, assign (.Attribute o f pos) X.env v = (do let ov ← holding [v] (eval o X.env); standAt pos.atName; holding [v, ov] (setAttr ov f v); release [v, ov] []) := by intro _; rfl) : PG X (.Attribute o f pos) (gFld K to f) := by
  subst hK
  refine ⟨fun pins s σ H v u Q I r h => ?_⟩
  rw [ha]
  refine wpAny_bind (wpAny_holding (thn (ho.run pins s σ H _ I h) fun ov s1 ⟨x, H1, I1, r1, a, C, dx, fs, ex, ea, c, n, l, q1⟩ => ?_))
  subst ex
  obtain rfl : ov = Value.ref a := r1
  exact wpAny_bind (wpAny_standAt (wpAny_bind (wpAny_holding (setattr_ok I1 ea c n l r fun s3 I3 => wpAny_release ⟨σ, _, I3, q1⟩))))
/-- sorted(xs), ints -/
def uSortI (K : PySem.W.Frag) : List V → Hp → VK → Prop := fun xs H Q => match xs with
  | [.ref a] => ∃ ns : List Int, SqL K H a (ns.map V.int) ∧ ∀ (ns' : List Int) (p : Addr), ns'.Perm ns → ns'.Pairwise (· ≤ ·) → H p = none → Q (.ref p) (upd H p (.lst (ns'.map V.int)))
  | _ => False
theorem call_sortIU (hK : X.K = K := by rfl) : CallR X (.builtin "sorted") (uSortI K) := by
  subst hK
  refine callw cr_sortedI fun xs H Q h => ?_
  match xs, h with
  | [.ref a], h => exact ⟨a, h.choose, rfl, h.choose_spec.1, h.choose_spec.2⟩
end
section
variable {K : PySem.W.Frag} {σ : L2.St} {H : Hp} {Q : VK} {D : Ends} {to ti te tl' : TE} {tA : TA} {tt : TT} {vs : List Nat} {f : Str} {x v : V} {a C p : Addr} {fs fs' : List (Str × V)} {g : TG} {tb : TS} {QG : L2.St → Hp → Prop} {S : Hp → Hp → Prop}
theorem r_gfld (q : to σ H fun x H1 => sfldq K f v x σ { nx := QG, rt := fun _ _ => False } H1) : gFld K to f v σ H QG := q
def delq (x y : V) (σ : L2.St) (D : Ends) (H2 : Hp) : Prop := ∃ (l : Addr) (xs : List V) (i : Int) (k : Nat), x = .ref l ∧ y = .int i ∧ H2 l = some (.lst xs) ∧ -(2 ^ 63) ≤ i ∧ i < 2 ^ 63 ∧ seqIndex? i xs.length = some k ∧ D.nx σ (upd H2 l (.lst (xs.eraseIdx k)))
theorem r_delL (q : to σ H fun x H1 => ti σ H1 fun y H2 => delq x y σ D H2) : tDelL to ti D σ H := q
theorem seq_nat {k n : Nat} (h : k < n) : seqIndex? (k : Int) n = some k := by
  unfold seqIndex?
  have h1 : ¬ ((k : Int) < 0) := by omega
  have h2 : (k : Int) < (n : Int) := by omega
  have h3 : (0 : Int) ≤ (k : Int) := by omega
  simp [h1, h2, h3]
theorem r_delv {xs : List V} {k : Nat} (h : H a = some (.lst xs)) (hk : k < xs.length) (hl : xs.length ≤ 1000000) (q : ∀ H', H' a = some (.lst (xs.eraseIdx k)) → (∀ b, b ≠ a → H' b = H b) → D.nx σ H') : delq (.ref a) (.int k) σ D H :=
  ⟨a, xs, k, k, rfl, rfl, h, by omega, by omega, seq_nat hk, q _ upd_same fun b hb => upd_ne hb⟩
theorem r_sortI {ns : List Int} (h : H a = some (.lst (ns.map V.int))) (k : ∀ p (ns' : List Int) H', H p = none → ns'.Perm ns → ns'.Pairwise (· ≤ ·) → Same H H' → H' p = some (.lst (ns'.map V.int)) → Q (.ref p) H') : uSortI K [.ref a] H Q :=
  ⟨ns, SqL.of h, fun ns' p pm pw np => k p ns' _ np pm pw (same_new np) upd_same⟩
/-- for j, x in enumerate(a list that stands) -/
def feq (K : PySem.W.Frag) (xs : List V) (g : TG) (tb : TS) (D : Ends) (σ : L2.St) (H : Hp) : Prop := tFor (iEnum K fun _ H1 QA => QA xs H1) g tb D σ H
theorem r_fore (q : tA σ H fun xs H1 => feq K xs g tb D σ H1) : tFor (iEnum K tA) g tb D σ H := q
theorem for_E {xs : List V} {j k : Nat} (Pv : Nat → L2.St → Hp → Prop) (h : H a = some (.lst xs)) (h0 : Pv 0 σ H) (hl : ∀ i σ' H', i ≤ xs.length → Pv i σ' H' → SqL K H' a xs)
    (hs : ∀ (i : Nat) x σ' H1 H2, xs[i]? = some x → Pv i σ' H1 → Same H1 H2 → tb (Ends.mk (Pv (i + 1)) D.rt D.nx (Pv (i + 1))) ((σ'.set j (some (.int i))).set k (some x)) H2) (hd : ∀ σ' H', Pv xs.length σ' H' → D.nx σ' H') :
    feq K [.ref a] (gTup K 2 (gCons (gName j) (gCons (gName k) gNil))) tb D σ H := by
  refine ⟨a, xs, rfl, SqL.of h, for_it (walk_enum (K := K) (a := a) (xs := xs)) Pv h0 hl (fun i v σ' H1 H2 hi hp hy => ?_) hd⟩
  obtain ⟨T, y, z, rfl, nT, rfl, ey, ez⟩ := hy
  cases ey
  exact ⟨T, [.int i, z], rfl, SqT.of upd_same, rfl, _, _, rfl, _, _, rfl, rfl, hs i z σ' H1 _ ez hp (same_new nT)⟩
/-- [.. for target in a list that stands if ..] -/
theorem lc_LG {xs : List V} (h : H p = some (.lst xs)) (hk : ∀ H', S H H' → H' p = some (.lst xs)) (sr : Sr H S) (Rv : Nat → List PyData → Prop) (hn : xs.length < 10000000) (h0 : Rv 0 [])
    (el : ∀ (i : Nat) x (H1 : Hp) (ds : List PyData) (Q1 : VK) (Qn : Hp → Prop), xs[i]? = some x → S H H1 → Rv i ds →
      (∀ y d H2, S H1 H2 → Dq H2 y d → Rv (i + 1) (ds ++ [d]) → Q1 y H2) → (∀ H2, S H1 H2 → Rv (i + 1) ds → Qn H2) → g x (wipe σ vs) H1 fun σ2 H2 => wipe σ2 vs = wipe σ vs ∧ tt σ2 H2 fun b H3 => if b = true then te σ2 H3 Q1 else Qn H3)
    (k : ∀ D H' ys ds, H D = none → S H H' → H' D = some (.lst ys) → Dqs H' ys ds → Rv xs.length ds → Q (.ref D) H') : luq K (.ref p) g tt te vs σ H Q :=
  .inl ⟨⟨xs, SqL.of h⟩, lc_gen (walk_list (xs := xs)) sr Rv (fun H' s => SqL.of (hk H' s)) hn h0 (fun i x H1 H1' ds Q1 Qn hi s1 hy rv k1 k2 => by
    obtain ⟨rfl, hy⟩ := hy
    exact el i x H1' ds Q1 Qn hy s1 rv k1 k2) k⟩
end
/-! data that may hold lists, truth values: equal to themselves -/
structure Lay (n : Nat) (d : PyData) : Prop where
  ok : d.canLay0 = true
  dp : d.depth ≤ n
theorem Lay.le {n m : Nat} {d : PyData} (h : Lay n d) (k : n ≤ m) : Lay m d := ⟨h.ok, Nat.le_trans h.dp k⟩
theorem Okd.lay {n : Nat} {d : PyData} (h : Okd n d) : Lay n d := ⟨nb_lay d h.nb, h.dp⟩
theorem lay_all {n : Nat} : ∀ {ds : List PyData}, (∀ d ∈ ds, Lay n d) → PyData.canLayAll0 ds = true ∧ PyData.depthAll ds ≤ n
  | [], _ => ⟨by simp [PyData.canLayAll0], by simp [PyData.depthAll]⟩
  | d :: ds, h => by
    have h1 := h d List.mem_cons_self
    have h2 := lay_all fun e he => h e (List.mem_cons_of_mem _ he)
    refine ⟨by rw [PyData.canLayAll0, h1.ok, h2.1] <;> rfl, ?_⟩
    rw [PyData.depthAll]
    have := h1.dp
    omega
theorem Lay.lst {n : Nat} {ds : List PyData} (h : ∀ d ∈ ds, Lay n d) : Lay (n + 1) (.list ds) := by
  have q := lay_all h
  refine ⟨by rw [PyData.canLay0]; exact q.1, ?_⟩
  rw [PyData.depth]
  omega
theorem Lay.tup {n : Nat} {ds : List PyData} (h : ∀ d ∈ ds, Lay n d) : Lay (n + 1) (.tuple ds) := by
  have q := lay_all h
  refine ⟨by rw [PyData.canLay0]; exact q.1, ?_⟩
  rw [PyData.depth]
  omega
theorem Lay.int {n : Nat} (i : Int) : Lay n (.int i) := (Okd.int i).lay
theorem Lay.bool {n : Nat} (b : Bool) : Lay n (.bool b) := ⟨by simp [PyData.canLay0], by simp [PyData.depth]⟩
theorem Lay.shaped {n : Nat} {d : PyData} (h : Lay n d) (k : n ≤ 64) : SeqAt.shaped d = true := by
  unfold SeqAt.shaped
  rw [h.ok, Bool.true_and, decide_eq_true_eq]
  exact Nat.le_trans h.dp k
section
variable {K : PySem.W.Frag} {H : Hp} {Q : VK} {p : Addr} {y : V} {d : PyData} {n : Nat}
theorem r_neLay (hx : Dp K H (.ref p) d) (hy : Dp K H y d) (ok : Lay n d) (hn : n ≤ 64) (q : Q (.bl false) H) : uNe K (.ref p) y H Q := by
  have z : rNeD K (.ref p) y H Q := ⟨d, d, hx, hy, ok.shaped hn, ok.shaped hn, by rw [SeqAt.eqv_refl _ ok.ok]; exact q⟩
  cases y <;> exact .inr z
theorem r_eqLay (hx : Dp K H (.ref p) d) (hy : Dp K H y d) (ok : Lay n d) (hn : n ≤ 64) (q : Q (.bl true) H) : uEq K (.ref p) y H Q := by
  have z : rEqD K (.ref p) y H Q := ⟨d, d, hx, hy, ok.shaped hn, ok.shaped hn, by rw [SeqAt.eqv_refl _ ok.ok]; exact q⟩
  cases y <;> exact .inr z
end
theorem ixN_nat {n i : Nat} (h : i < n) : ixN n (i : Int) = some i := by
  unfold ixN
  rw [if_pos (by omega), if_pos (by omega)]
  simp
theorem dqs_ints {H : Hp} : ∀ {ns : List Int} {ys : List V}, Dqs H ys (ns.map PyData.int) → ys = ns.map V.int
  | [], _, h => by
    cases h
    rfl
  | n :: ns, _, h => by
    cases h with
    | cons h1 h2 =>
      cases h1
      rw [dqs_ints h2] <;> rfl
theorem dqs_ints_mk {H : Hp} : ∀ ns : List Int, Dqs H (ns.map V.int) (ns.map PyData.int)
  | [] => .nil
  | n :: ns => .cons (.int n) (dqs_ints_mk ns)
theorem take_one {α : Type} {xs : List α} {i : Nat} {x : α} (h : xs[i]? = some x) : xs.take (i + 1) = xs.take i ++ [x] := by
  rw [List.take_add_one, h] <;> rfl
/-- the variable of a comprehension -/
theorem hw1 {σ : L2.St} {vs : List Nat} {j : Nat} (h : vs = [j]) : ∀ x : V, wipe ((wipe σ vs).set j (some x)) vs = wipe σ vs := fun x => by
  subst h
  show ((σ.set j none).set j (some x)).set j none = σ.set j none
  rw [List.set_set, List.set_set]
end Dk

/-! Own exceptions under ValueError whose __init__ calls super().__init__ and stores. -/
namespace Dk
open PySem PySem.Spec PyProof.Rows L2
/-- ValueError.__init__ bound to the object at x -/
abbrev veW (x : Addr) : Obj := { cls := .type "method-wrapper", dict := none, data := .fields #[.builtin "ValueError.__init__", .ref x], slots := #[] }
theorem ve_ty : typeOf (.builtin "ValueError.__init__") = pure (.type "wrapper_descriptor") := by
  show builtinType _ = _
  rw [builtinType_eq_fast]
  kernel_rfl
theorem ve_nac : (kfb_private% "nameAndClass") (Value.builtin "ValueError.__init__") = (pure (("__init__" : Str), Value.type "ValueError") : Sem (Str × Value)) := by kernel_rfl
section
open PySem.W
variable {P : Program} {w : World} {M : Model} {A : Around} {E : Value → Shared → Prop} {hp : Heap} {g : Array GenState} {d : Drawn} {t : Nat} {os : OsState}
theorem ve_bind {x C : Addr} {R : Fin → Shared → Prop} (is : W.Looks M hp (isInstance (.ref x) (.type "ValueError")) true) (q : R (.done (.ret (.ref hp.objs.size))) ⟨hp.push (veW x), g, d, t, os⟩) :
    wpAny M A (Builtin.«wrapper_descriptor.__get__» ⟨[.builtin "ValueError.__init__", .ref x, .ref C], []⟩) R E ⟨hp, g, d, t, os⟩ := by
  unfold Builtin.«wrapper_descriptor.__get__»
  refine wpAny_bind (wpAny_of_eq (a := (.builtin "ValueError.__init__", some (.ref x), some (.ref C))) (by first | rfl | kernel_rfl) ?_)
  show wpAny M A ((kfb_private% "checkInstance") (.builtin "ValueError.__init__") (.ref x) >>= fun _ => newFields "method-wrapper" [.builtin "ValueError.__init__", .ref x] >>= fun r => ret r) R E _
  refine wpAny_bind (show wpAny M A ((kfb_private% "nameAndClass") (.builtin "ValueError.__init__") >>= _) _ E _ from ?_)
  refine wpAny_bind (wpAny_of_eq ve_nac (show wpAny M A (isInstance (.ref x) (.type "ValueError") >>= _) _ E _ from ?_))
  exact wpAny_bind (is.at (KFB.if_not rfl (wpAny_pure (wpAny_bind (wpAny_newObj_type (wpAny_pure q))))))
theorem ve_super {so D x C : Addr} {l0 l : List Value} {K : Frag} {name : Str} {tk : Tok} {R : Fin → Shared → Prop}
    (at_ : hp.get? so = some (ks_superObj D x C)) (no : W.Looks (model P w) hp (opaqueClassAbove (.ref C)) none) (mro : W.Looks (model P w) hp (mroOf (.ref C)) l0) (hl : (l0.dropWhile (· != .ref D)).drop 1 = l) (X : K.In hp)
    (al : alongIn K name l = some (some (.builtin "ValueError.__init__"))) (xC : x ≠ C) (hn : (name == ("__class__" : Str)) = false) (is : W.Looks (model P w) hp (isInstance (.ref x) (.type "ValueError")) true)
    (q : R (.done (.ret (.ref hp.objs.size))) ⟨hp.push (veW x), g, d, t, os⟩) : wpAny (model P w) A (Builtin.«super.__getattribute__» ⟨[.ref so, .str name tk], []⟩) R E ⟨hp, g, d, t, os⟩ := by
  have z1 := PySem.ESX.slot_wd.lookup
  have z2 : (Value.ref x == Value.ref C) = false := by simp [xC]
  have z3 := ve_ty
  have z4 : Shared.TypeIs ⟨hp, g, d, t, os⟩ (.builtin "ValueError.__init__") "wrapper_descriptor" := ve_ty
  have z5 : (ks_superObj D x C).data = .fields #[.ref D, .ref x, .ref C] := rfl
  have y0 : (#[.ref D, .ref x, .ref C] : Array Value)[0]? = some (.ref D) := rfl
  have y1 : (#[.ref D, .ref x, .ref C] : Array Value)[1]? = some (.ref x) := rfl
  have y2 : (#[.ref D, .ref x, .ref C] : Array Value)[2]? = some (.ref C) := rfl
  unfold Builtin.«super.__getattribute__»
  repeat (first
    | (with_reducible refine wpAny_field at_ z5 y0 ?_) | (with_reducible refine wpAny_field at_ z5 y1 ?_) | (with_reducible refine wpAny_field at_ z5 y2 ?_)
    | (with_reducible refine ks_wpAny_notOpaque no ?_)
    | (with_reducible refine Looks.at mro ?_; rw [hl])
    | (refine ks_forIn_along X (fun _ _ => rfl) rfl ?_ al)
    | (with_reducible refine wpAny_call_entry PySem.ESX.slot_wd z4 PySem.ESX.entry_wd ?_ (PySem.ESX.args_wd _ _ _))
    | (with_reducible refine ve_bind is ?_)
    | (with_reducible refine ⟨_, rfl, ?_⟩)
    | (simp only [hn, z2, Bool.or_false, Bool.false_eq_true, if_false])
    | wp_step
    | dsimp only)
  all_goals exact q
theorem ve_method {so D x C : Addr} {l0 l : List Value} {K : Frag} {name : Str} {pl : Sem Bool} {R : Value × List Value → Shared → Prop}
    (at_ : hp.get? so = some (ks_superObj D x C)) (no : W.Looks (model P w) hp (opaqueClassAbove (.ref C)) none) (mro : W.Looks (model P w) hp (mroOf (.ref C)) l0) (hl : (l0.dropWhile (· != .ref D)).drop 1 = l) (X : K.In hp)
    (al : alongIn K name l = some (some (.builtin "ValueError.__init__"))) (xC : x ≠ C) (hn : (name == ("__class__" : Str)) = false) (is : W.Looks (model P w) hp (isInstance (.ref x) (.type "ValueError")) true)
    (q : R (.ref hp.objs.size, []) ⟨hp.push (veW x), g, d, t + 1, os⟩) : wpAny (model P w) A (getMethod (.ref so) name pl) R E ⟨hp, g, d, t, os⟩ := by
  have z1 := F.ks_slot_super_ga.lookup
  have z2 : ∀ n, (⟨hp, g, d, n, os⟩ : Shared).TypeIs (.ref so) "super" := fun _ => ⟨_, at_, rfl⟩
  unfold getMethod
  refine wpAny_bind (wpAny_specialOf (z2 _) z1 (show wpAny _ _ (if (Manifest.canonical "super.__getattribute__" != "object.__getattribute__") = true then _ else _) _ _ _ from ?_))
  rw [if_pos F.ks_canon_super_ga]
  unfold getAttr getAttrBy
  refine wpAny_bind (wpAny_bind (wpAny_mkText (wpAny_holding (wpAny_bind (wpAny_typeOf (z2 _) (wpAny_bind (wpAny_of_eq z1 (show wpAny _ _ (getAttrByItsOwn (.ref so) (.str name t) (.type "super") (.builtin "super.__getattribute__") true false) _ _ _ from ?_))))))))
  unfold getAttrByItsOwn hookBefore callGetattribute boundAndCalled
  refine wpAny_bind (wpAny_of_eq (show (if onTheHeap (.type "super") then typeLookup (.type "super") "__getattr__" else pure none) = pure none from rfl) (wpAny_bind (wpAny_attempt (wpAny_holding ?_))))
  refine wpAny_bind (wpAny_of_eq (F.ks_slot_super_ga.bind _) (wpAny_mono (Q := fun v s1 => v = .ref hp.objs.size ∧ s1 = ⟨hp.push (veW x), g, d, t + 1, os⟩) (E := fun _ _ => False)
    (wpAny_call_entry F.ks_slot_super_ga (z2 _) F.ks_entry_super_ga (ve_super at_ no mro hl X al xC hn is ⟨_, rfl, rfl, rfl⟩) (F.ks_gaArgs_super _ _)) (fun v s1 hv => ?_) fun _ _ z => z.elim))
  obtain ⟨rfl, rfl⟩ := hv
  exact wpAny_pure (wpAny_pure q)
end
section
open PySem.W PySem.Calls
variable {P : Program} {w : World} {M : Model} {A : Around} {E : Value → Shared → Prop} {s : Shared}
theorem ve_callArgs {pos : Pos} {u x : Addr} {first : List Value} {args : List (Bool × Sem Value)} {Q : Value → Shared → Prop} (np : args.any (·.1) = false)
    (h : wpAny M A (evalArgs (.ref u) true args []) (fun a s1 => s1.heap.get? u = some (veW x) ∧ wpAny M A (call (.ref u) (first ++ a.pos) a.kw) Q E s1) E s) : wpAny M A (callWith pos (.ref u) first args []) Q E s := by
  unfold callWith
  refine wpAny_bind (wpAny_holding (wpAny_mono h (fun a s1 h1 => wpAny_bind (wpAny_standAt ?_)) fun _ _ z => z))
  obtain ⟨ho, hc⟩ := h1
  simp only [np, List.any_nil, Bool.or_false]
  refine wpAny_bind (m := keeperOf (.ref u)) ?_
  unfold keeperOf
  refine wpAny_bind (wpAny_load ho ?_)
  simp only [veW, show (Value.type "method-wrapper" != Value.type "method") = true by decide, show (Value.type "method-wrapper" == Value.type "builtin_function_or_method" || Value.type "method-wrapper" == Value.type "method-wrapper") = true by decide, if_true]
  exact wpAny_pure (wpAny_bind (wpAny_mono hc (fun r s2 hr => wpAny_bind (wpAny_holding (wpAny_point (wpAny_pure hr)))) fun _ _ z => z))
theorem ve_callWith {pos : Pos} {u x : Addr} {first : List Value} {env : Env} {e : Expr} {rest : List Expr} {Q : Value → Shared → Prop}
    (h : wpAny M A (spliced (backTo pos (starEach (e :: rest) env))) (fun vs s1 => s1.heap.get? u = some (veW x) ∧ wpAny M A (call (.ref u) (first ++ vs)) Q E s1) E s)
    (he : starEach (e :: rest) env = (false, eval e env) :: starEach rest env := by rfl) (hpl : (backTo pos (starEach rest env)).any (·.1) = false := by rfl) :
    wpAny M A (callWith pos (.ref u) first (backTo pos (starEach (e :: rest) env)) []) Q E s := by
  rw [he] at h ⊢
  refine ve_callArgs (x := x) (show (false || (backTo pos (starEach rest env)).any (·.1)) = false by rw [hpl] <;> rfl) ?_
  exact evalArgs_plain h
end
section
variable {P : Program} {w : World} {A : Around} {E : Value → Shared → Prop} {hp : Heap} {g : Array GenState} {d : Drawn} {t : Nat} {os : OsState}
variable {nm q : Str} {C N : Addr} {bs bm : List Value} {hdct : Bool} {sn : List Str} {sub : List Value} {ab : Bool} {col : Option Bool} {dd : Option Addr} {k0 k1 k2 k3 k5 : Option Value}
theorem ve_call {u e t0 : Addr} {rest : List Value} {Q : Value → Shared → Prop} (hC : hp.get? C = some (excClassObj nm q C N bs bm hdct sn sub ab col dd k0 k1 k2 k3 k5 "ValueError.__new__")) (he : hp.get? e = some (PySem.HandSPX.excO C t0)) (hu : hp.get? u = some (veW e)) (few : rest.length ≤ sizeLine)
    (hq : ∀ h' t1, (∀ b o, b ≠ e → hp.get? b = some o → h'.get? b = some o) → h'.get? e = some (PySem.HandSPX.excO C t1) → Q .none ⟨h', g, d, t, os⟩) : wpAny (model P w) A (call (.ref u) rest) Q E ⟨hp, g, d, t, os⟩ := by
  refine wpAny_call (codeAny_of_tree (show wpAny _ A.in1 (callAny (.ref u) ⟨rest, []⟩) _ _ _ from ?_))
  simp only [callAny]
  refine wpAny_bind (wpAny_load hu ?_)
  simp only [veW, show (Value.type "method-wrapper" == Value.type "method" || Value.type "method-wrapper" == Value.type "builtin_function_or_method" || Value.type "method-wrapper" == Value.type "method-wrapper") = true by decide, if_true]
  refine W.KFB.if_so (by decide) (wpAny_bind (PySem.ESX.check_bound F.excBase_ValueError hC he rfl (wpAny_bind (wpAny_pure (wpAny_pure ?_)))))
  refine ⟨Code.quiet_builtin _ (by decide +kernel), codeAny_builtin F.excBase_ValueError.initEntry ?_⟩
  rw [Around.under_plainId F.excBase_ValueError.init.plain _]
  wp_walk
  refine hq _ hp.objs.size (fun b o hb ho => ?_) ?_
  · rw [Heap.get?_update_other _ _ (Ne.symm hb)]
    exact Heap.get?_push_of_some _ ho
  · rw [Heap.get?_update_self _ (Heap.get?_push_of_some _ he) rfl] <;> rfl
end
/-- what __init__(self, place) does: the argument is kept, place stands in the exception's dict -/
def spXi (C : Addr) : Sp := fun vs H Q _ => ∃ (a : Addr) (n : Int), vs = [.ref a, .int n] ∧ H a = some (exo a C none) ∧ ∀ dx, H dx = none → dx ≠ a → Q .non (upd (upd H dx (exd dx [("place", .int n)])) a (exo a C (some dx)))
abbrev scI : Scope := { kind := .function, names := [("self", .local), ("place", .local), ("__class__", .free), ("super", .globalImplicit)], isGenerator := false, isCoroutine := false, more := [] }
abbrev scD : Scope := { kind := .function, names := [("self", .local), ("place", .local)], isGenerator := false, isCoroutine := false, more := [] }
theorem scD_ok : FnScope ["self", "place"] ["self", "place"] scD := ⟨rfl, rfl, rfl, by decide +kernel, rfl, by decide +kernel, by decide +kernel⟩
section
open PySem.W PySem.Calls
variable {P : Program} {w : World} {K : PySem.W.Frag} {mg : Str → Option Value} {base : Heap} {CX : CXT}
theorem lk_hd' (y : Str) (v : Value) (r : List (Str × Value)) : List.lookup y ((y, v) :: r) = some v := by
  have e : (y == y) = true := beq_self_eq_true y
  simp only [List.lookup, e]
theorem lk_ne' {y z : Str} {v : Value} {r : List (Str × Value)} (h : y ≠ z) : List.lookup y ((z, v) :: r) = List.lookup y r := by
  have e : (y == z) = false := beq_eq_false_iff_ne.mpr h
  simp only [List.lookup, e]
theorem xinit_ok {k : Nat} {C f cc cda : Addr} {qual : Str} {params : Arguments} {dV kV doc pm ct oc ccl cl : Value} {an od cdd cld : Option Addr} {osl ccs csl : Array (Option Value)} {vs : Array Value} {file : Str} {tf : Tok} {ar : Arg} {p0 p1 p2 p3 p4 p5 p6 p7 p8 p9 : Pos} {body : List Stmt}
    (lk : K.lookup f = some ⟨oc, od, .func (ksFn "__init__" qual params body scI dV kV doc pm an (.ref cda) ct cc), osl⟩) (hcd : codeIn K (.ref cda) qual = true)
    (hbd : body = [.Expr (.Call (.Attribute (.Call (.Name "super" p0) [] [] p1) "__init__" p2) [.Name "place" p3] [] p4) p5, .Assign [.Attribute (.Name "self" p6) "place" p7] (.Name "place" p8) p9])
    {pl : Sem Bool} (hev : ∀ (Lc fa : Addr) (cd : Value) (ce : Addr), eval (.Call (.Attribute (.Call (.Name "super" p0) [] [] p1) "__init__" p2) [.Name "place" p3] [] p4) (ksEnv qual scI Lc fa cd ce) = (do
      let ov ← attributeBase (.Call (.Name "super" p0) [] [] p1) "__init__" (ksEnv qual scI Lc fa cd ce) (eval (.Call (.Name "super" p0) [] [] p1) (ksEnv qual scI Lc fa cd ce))
      standAt p2.atName
      let (f, first) ← holding [ov] (getMethod ov "__init__" pl)
      callWith p4 f first (backTo p4 (starEach [.Name "place" p3] (ksEnv qual scI Lc fa cd ce))) [])) (hps : (params.posonlyargs ++ params.args).head? = some ar) (har : ar.arg = "self")
    (hcode : K.lookup cda = some ⟨ccl, cdd, .fields vs, ccs⟩) (hvs : vs[2]? = some (.str file tf)) (hfile : ((P.main.file : Str) == file) = true) (htop : (P.main.scope.names.lookup ("super" : Str)).isSome = false)
    (hcc : K.lookup cc = some ⟨cl, cld, .cell (some (.ref C)), csl⟩) (T : OexC K C) (hsub : mroIn K C (.ref C) = some true) (hal : ks_superIn K C C "__init__" = some (some (.builtin "ValueError.__init__"))) (hst : nsIn K cStatics "thirdparty.any" = some none)
    (hve : mroIn K C (.type "ValueError") = some true) (hno : findIn K (.ref C) "place" = some none) (hms : mg "super" = none) :
    FnOk P w K mg base CX (k + 1) f (ksFn "__init__" qual params body scI dV kV doc pm an (.ref cda) ct cc) ["self", "place"] (spXi C) := by
  refine ⟨fun vs H Q E h => ?_, fun A outer s H args us vs' Q E hr e0 hb r hsp => ?_⟩
  · obtain ⟨a, n, rfl, _⟩ := h
    rfl
  obtain ⟨a, n, rfl, ha, q⟩ := hsp
  obtain ⟨tk, rfl⟩ : ∃ t, us = [.ref a, .int n t] := by
    cases r with
    | cons r1 r2 =>
      cases r2 with
      | cons r2 r3 =>
        cases r3
        cases r1
        obtain ⟨t, rfl⟩ := r2
        exact ⟨t, rfl⟩
  have KX : K.In s.heap := e0.mod.kin.keeps fun b o e => (e0.bs b o e).1
  have lim : s.heap.NoLimit := e0.mod.nolimit.keeps fun b o e => (e0.bs b o e).1
  have hloc : ∀ x ∈ (["self", "place"] : List Str).zip [Value.ref a, Value.int n tk], scI.names.lookup x.1 = some .local := fun x hx => by
    have hx : x ∈ [(("self" : Str), Value.ref a), (("place" : Str), Value.int n tk)] := hx
    simp only [List.mem_cons, List.not_mem_nil, or_false] at hx
    rcases hx with rfl | rfl
    · exact show List.lookup ("self" : Str) scI.names = some .local by decide +kernel
    · exact show List.lookup ("place" : Str) scI.names = some .local by decide +kernel
  refine ks_codeAny_call_defAt (fd := ksFn "__init__" qual params body scI dV kV doc pm an (.ref cda) ct cc) (body := body) hr.depth (KX _ _ lk) rfl lim (codeRec_of KX hcd) rfl hb (show ∀ x ∈ scI.names, x.2 ≠ .cell by decide +kernel) hloc (fun h0 hns hk0 => ?_)
  have env_eq : callEnv (ksFn "__init__" qual params body scI dV kV doc pm an (.ref cda) ct cc) s.heap.objs.size f = ksEnv qual scI s.heap.objs.size f (.ref cda) cc := rfl
  rw [env_eq]
  obtain ⟨L, eL⟩ : ∃ L, L = s.heap.objs.size := ⟨_, rfl⟩
  have ns1 : h0.Ns s.heap.objs.size (bindL (envOfC qual scD s.heap.objs.size f (.ref cda)).kindOf ((["self", "place"] : List Str).zip [Value.ref a, Value.int n tk]) fun _ => none) := by
    have e1 : (bindL (envOfC qual scD s.heap.objs.size f (.ref cda)).kindOf ((["self", "place"] : List Str).zip [Value.ref a, Value.int n tk]) fun _ => none) = fun y => ((["self", "place"] : List Str).zip [Value.ref a, Value.int n tk]).reverse.lookup y := by
      funext y
      show (if y = ("place" : Str) then some (Value.int n tk) else if y = ("self" : Str) then some (Value.ref a) else none) = List.lookup y [(("place" : Str), Value.int n tk), (("self" : Str), Value.ref a)]
      by_cases y1 : y = ("place" : Str)
      · rw [if_pos y1, y1]
        exact (lk_hd' _ _ _).symm
      · rw [if_neg y1, lk_ne' y1]
        by_cases y2 : y = ("self" : Str)
        · rw [if_pos y2, y2]
          exact (lk_hd' _ _ _).symm
        · rw [if_neg y2, lk_ne' y2] <;> rfl
    rw [e1]
    exact hns
  have x : InCallC s s.heap.objs.size (bindL (envOfC qual scD s.heap.objs.size f (.ref cda)).kindOf ((["self", "place"] : List Str).zip [Value.ref a, Value.int n tk]) fun _ => none) (cellsFrom (s.heap.objs.size + 1) scD.names []) (bindC (envOfC qual scD s.heap.objs.size f (.ref cda)).kindOf ((["self", "place"] : List Str).zip [Value.ref a, Value.int n tk]) fun _ => none)
      { s with heap := h0, toks := s.toks + ((["self", "place"] : List Str).zip [Value.ref a, Value.int n tk]).length } := ⟨⟨⟨h0, _, rfl⟩, ns1, hk0, Nat.le_refl _⟩, (fun n c h => by cases h), List.Pairwise.nil, fun n c h => by cases h⟩
  have J := inv_start (CX := CX) (E := E) scD_ok hr.hd e0 (vs := [.ref a, .int n]) rfl (.cons rfl (.cons ⟨tk, rfl⟩ .nil)) x
  obtain ⟨nm, qn, N, bs, bm, sn, sub, ab, col, dd, k0, k1, k2, k3, k5, hC, hbm⟩ := T.cls
  have hcls : clsIn K C = some { name := nm, bases := bs, mro := .ref C :: bm, ns := N, qualname := qn, hasDict := true, slotNames := sn, subclasses := sub, abstract := ab, collection := col, hasDel := false } := by
    unfold clsIn
    rw [hC] <;> rfl
  have KJ := J.kIn
  have gl : h0.Ns mainGlobals mg := e0.mod.glob.keeps fun b o e => hk0 b o (e0.bs b o e).1
  obtain ⟨mb, nb, hmb⟩ := e0.mod.blt
  have bl : h0.Ns builtinsNs mb := nb.keeps fun b o e => hk0 b o (e0.bs b o e).1
  obtain ⟨t1, ho⟩ := exo_at J.hok ha
  have IA : InstAt h0 a { cls := .ref C, dict := none, data := .fields #[.ref t1, .none, .none, .none, .bool false, .none] } C none := ⟨ho, rfl, rfl, trivial⟩
  subst hbd
  refine ks_wpAt_execs_cons (ks_wpAt_Expr_any (ks_wpAt_MethodCall (ks_wpAt_super_base rfl rfl (by decide) rfl (KJ _ _ lk) rfl hps rfl (KJ _ _ hcode) rfl hvs hfile htop ?_) (hev _ _ _ _)))
  have bsup : bootBuiltins "super" = some (.type "super") := by decide +kernel
  refine ks_loadName_global rfl rfl (loadGlobal_builtin (env := ksEnv qual scI s.heap.objs.size f (.ref cda) cc) gl hms bl ((hmb _ (by decide)).trans bsup) ⟨rfl, ?_⟩)
  refine wpAny_loadName_free rfl rfl rfl ⟨_, KJ _ _ hcc, rfl⟩ ?_
  rw [har]
  refine wpAny_loadName_local rfl rfl hns (v := .ref a) rfl ?_
  refine ks_wpAny_isType_cls (KJ _ _ hC) rfl ⟨rfl, ?_⟩
  refine ks_wpAny_call_super (KJ _ _ hC) rfl ho rfl (fun c z => by cases z) (looks_mroIn KJ hsub) (fun h2 e2 k2 => ?_)
  have J2 := J.kept (t' := s.toks + ((["self", "place"] : List Str).zip [Value.ref a, Value.int n tk]).length) k2
  have KJ2 := J2.kIn
  have al : alongIn K "__init__" (((Value.ref C :: bm).dropWhile (· != .ref C)).drop 1) = some (some (.builtin "ValueError.__init__")) := by
    unfold ks_superIn at hal
    rw [hcls] at hal
    exact hal
  have IA2 : InstAt h2 a { cls := .ref C, dict := none, data := .fields #[.ref t1, .none, .none, .none, .bool false, .none] } C none := ⟨k2 _ _ ho, rfl, rfl, trivial⟩
  refine ve_method (l0 := .ref C :: bm) e2 (looks_opaque KJ2 hst) ((looks_clsIn KJ2 hcls).andThen .now) rfl KJ2 al (ks_ne KJ IA hcls) (by decide) (IA2.type.andThen (looks_mroIn KJ2 hve)) ?_
  have k3 : ∀ b o, h2.get? b = some o → (h2.push (veW a)).get? b = some o := fun b o z => Heap.get?_push_of_some _ z
  have J3 := J2.kept (t' := s.toks + ((["self", "place"] : List Str).zip [Value.ref a, Value.int n tk]).length + 1) k3
  obtain ⟨m3, ns3, lk3⟩ := J3.loc
  obtain ⟨u3, ru3, lu3⟩ := lk3 1 "place" (.int n) rfl rfl (.inl rfl)
  have v3 : m3 "place" = some u3 := by
    rcases lu3 with ⟨_, z⟩ | ⟨z, _⟩
    · exact z
    · rcases z with z | z <;> cases z
  refine ve_callWith (x := a) ?_
  show wpAny _ _ (spliced ((false, eval (.Name "place" p3) (ksEnv qual scI s.heap.objs.size f (.ref cda) cc)) :: backTo p4 [])) _ _ _
  refine Calls.spliced_cons (PySem.ESX.ldL (env := ksEnv qual scI s.heap.objs.size f (.ref cda) cc) ns3 v3 (Calls.spliced_nil ⟨Heap.get?_push_size _ rfl, ?_⟩))
  refine ve_call (k3 _ _ (KJ2 _ _ hC)) (k3 _ _ (k2 _ _ ho)) (Heap.get?_push_size _ rfl) (show 1 ≤ sizeLine by rw [sizeLine_eq]; decide) (fun h4 t2 k4 e4 => ?_)
  have J4 := J3.write (t' := s.toks + ((["self", "place"] : List Str).zip [Value.ref a, Value.int n tk]).length + 1) (x := a) (e := a) (o := exo a C none) (by rw [ha]; exact True.intro) (.inl rfl) k4 ⟨_, e4⟩ (exo_ok e4)
  have eu : upd H a (exo a C none) = H := by
    funext b
    by_cases hb : b = a
    · rw [hb, upd_same, ha]
    · rw [upd_ne hb]
  rw [eu] at J4
  obtain ⟨m4, ns4, lk4⟩ := J4.loc
  obtain ⟨u4, ru4, lu4⟩ := lk4 1 "place" (.int n) rfl rfl (.inl rfl)
  have v4 : m4 "place" = some u4 := by
    rcases lu4 with ⟨_, z⟩ | ⟨z, _⟩
    · exact z
    · rcases z with z | z <;> cases z
  obtain ⟨w4, rw4, lw4⟩ := lk4 0 "self" (.ref a) rfl rfl (.inl rfl)
  have x4 : m4 "self" = some w4 := by
    rcases lw4 with ⟨_, z⟩ | ⟨z, _⟩
    · exact z
    · rcases z with z | z <;> cases z
  obtain rfl : w4 = Value.ref a := rw4
  show PySem.wpAt _ _ _ (execs [_] _) _ _ _
  refine ks_wpAt_execs_cons (ks_wpAt_Assign_Attr (wpAt_of_wpAny (PySem.ESX.ldL (env := ksEnv qual scI s.heap.objs.size f (.ref cda) cc) ns4 v4 (PySem.ESX.ldL (env := ksEnv qual scI s.heap.objs.size f (.ref cda) cc) ns4 x4 (ost_new T J4 ha hno ru4 (fun dx s5 nd ne J5 => ?_))))))
  exact wpAt_of_wpAny (wpAny_execs_nil ⟨.non, _, J5.os, J5.bare, J5.base, J5.hok, rfl, q dx nd ne⟩)
end
end Dk

/-! sorted(xs, key=lambda x: x[0]): the lambda's code object in the running def's table. -/
namespace Dk
open PySem PySem.Spec PyProof.Rows L2
/-- the table at P may have grown, all else stands -/
structure TStp (P : Addr) (q : Str) (H H' : Hp) : Prop where
  kp : ∀ b o, b ≠ P → H b = some o → H' b = some o
  tab : LamX.TabS H' P q
theorem TStp.refl {P : Addr} {q : Str} {H : Hp} (t : LamX.TabS H P q) : TStp P q H H := ⟨fun _ _ _ h => h, t⟩
theorem TStp.snd {P : Addr} {q : Str} {H H1 H2 : Hp} (a : TStp P q H H1) (s : Same H1 H2) : TStp P q H H2 := ⟨fun b o n h => s b o (a.kp b o n h), a.tab.ext s⟩
theorem tab_ne {P b : Addr} {q : Str} {H : Hp} {o : HO} (t : LamX.TabS H P q) (h : H b = some o) (n : ∀ ps, o ≠ .tbl ps) : b ≠ P := fun e => by
  obtain ⟨ps, h1, _⟩ := t
  rw [e, h1] at h
  exact n ps (Option.some.inj h).symm
theorem TStp.gro {P : Addr} {q : Str} {H H' : Hp} (a : TStp P q H H') (t : LamX.TabS H P q) : Gro H H' :=
  ⟨(fun b xs e => a.kp b _ (tab_ne t e fun _ z => by cases z) e), (fun b o u e => a.kp b _ (tab_ne t e fun _ z => by cases z) e)⟩
section
variable {X : Cx} {pins : List (Addr × Obj)} {σ : L2.St} {H : Hp} {s : Shared}
/-- a lambda is made -/
theorem lam_mk {c P : Addr} {q : Str} {params : Arguments} {body : Expr} {scope : Scope} {lp : Pos} {E Q : Value → Shared → Prop} (I : Inv X pins σ H s) (tb : LamX.TabB X.base X.mg c P) (cd : X.env.code = .ref c) (eq : X.env.qual ++ "<lambda>" = q)
    (tab : LamX.TabS H P q) (nod : defaultsOf params X.env = ([], [])) (cl0 : ∀ y ∈ scope.names, y.2 = .free → ∃ c, X.env.cells.lookup y.1 = some c)
    (k : ∀ (f c1 : Addr) (pm ctv : Value) (H1 : Hp) (s1 : Shared), Inv X pins σ H1 s1 → TStp P q H H1 → s1.heap.CodeRec (.ref c1) q →
      s1.heap.get? f = some (PySem.W.kla_obj "<lambda>" q params body scope (cloFrom X.env.cells scope.names []) pm c1 ctv) → Q (.ref f) s1) :
    wpAny (model X.prog X.w) X.A (eval (.Lambda params body scope lp) X.env) Q E s := by
  subst eq
  have ⟨ps, pt, tr, am⟩ := tab
  have hp : s.heap.get? P = some { cls := .none, data := .fields ps } := I.hok P _ pt
  have ge := I.ok.glob
  have gn := I.mod.glob.keeps I.bk
  have ch := tb.code.keeps I.bk
  have bp : s.heap.BuiltinsAt X.mg P := tb.bm.keeps I.bk
  refine PySem.W.kla_eval nod ?_
  cases am1 : codeAmong lp ps.toList with
  | some u =>
    obtain ⟨c1, rfl, hc⟩ := am lp u am1
    obtain ⟨⟨oc, us, t, e1, e2, e3⟩, _, _⟩ := I.hok c1 _ hc
    refine PySem.W.kla_makeFunctionHit (ps := ps) (closure_ok cl0) ge gn cd ch hp tr am1 bp (fun ctv g tk kk sz => ?_)
    have kq : ∀ b o, s.heap.get? b = some o → (g.push (PySem.W.kla_obj "<lambda>" (X.env.qual ++ "<lambda>") params body scope (cloFrom X.env.cells scope.names []) ((X.mg "__name__").getD .none) c1 ctv)).get? b = some o :=
      fun b o z => Heap.get?_push_of_some _ (kk b o z)
    exact k _ c1 _ ctv H _ (I.kept (t' := tk) kq) (TStp.refl tab) ⟨c1, oc, us, t, rfl, kq _ _ e1, e2, e3⟩ (Heap.get?_push_size _ rfl)
  | none =>
    refine PySem.W.kla_makeFunction (ps := ps) (closure_ok cl0) ge gn cd ch hp tr am1 tb.gP bp (fun c1 ctv g tk kx lo up cr gp => ?_)
    have ⟨c2, oc, us, t, e0, e1, e2, e3⟩ := cr
    obtain rfl : c1 = c2 := by
      cases e0
      rfl
    have nc : H c1 = none := I.hok.fresh lo
    have nP : P ≠ c1 := fun z => by
      rw [← z, pt] at nc
      cases nc
    have J := LamX.inv_table (t' := tk) (q := X.env.qual ++ "<lambda>") (more := #[rawInt lp.line, rawInt lp.col, .ref c1])
      (h' := g.push (PySem.W.kla_obj "<lambda>" (X.env.qual ++ "<lambda>") params body scope (cloFrom X.env.cells scope.names []) ((X.mg "__name__").getD .none) c1 ctv)) I pt
      (fun b o n z => Heap.get?_push_of_some _ (kx b o n z)) (Heap.get?_push_of_some _ gp) lo ⟨oc, us, t, Heap.get?_push_of_some _ e1, e2, e3⟩
    have kp : ∀ b o, b ≠ P → H b = some o → (upd (upd H P (.tbl (ps ++ #[rawInt lp.line, rawInt lp.col, .ref c1]))) c1 (LamX.CodeO c1 (X.env.qual ++ "<lambda>"))) b = some o := fun b o n z => by
      have n1 : b ≠ c1 := fun y => by
        rw [y, nc] at z
        cases z
      rw [upd_ne n1, upd_ne n]
      exact z
    have tl : (ps ++ #[rawInt lp.line, rawInt lp.col, .ref c1]).toList = ps.toList ++ [rawInt lp.line, rawInt lp.col, .ref c1] := by simp
    refine k _ c1 _ ctv _ _ J ⟨kp, ⟨_, by rw [upd_ne nP, upd_same], by rw [tl]; exact PySem.TriplesOk_snoc _ _ _ _ tr, fun pos cv z => ?_⟩⟩ ⟨c1, oc, us, t, rfl, Heap.get?_push_of_some _ e1, e2, e3⟩ (Heap.get?_push_size _ rfl)
    rw [tl] at z
    rcases LamX.among_app _ tr z with y | y
    · obtain ⟨c3, y1, y2⟩ := am pos cv y
      refine ⟨c3, y1, kp c3 _ (fun w => ?_) y2⟩
      rw [w, pt] at y2
      cases y2
    · exact ⟨c1, y, upd_same⟩
end
section
open PySem.W
variable {prog : Program} {w : World} {A : Around} {s : Shared}
/-- the call of lambda x: x[0] with a tuple that begins with a whole number -/
theorem key0_call {f t c1 : Addr} {q x : Str} {params : Arguments} {scope : Scope} {cl : List (Str × Addr)} {pm ctv : Value} {j : Nat} {p1 p2 p3 : Pos} {its : Array Value} {n : Int} {tk : Tok} {E : Value → Shared → Prop}
    (ho : s.heap.get? f = some (kla_obj "<lambda>" q params (.Subscript (.Name x p1) (.Constant (.int 0) j p2) p3) scope cl pm c1 ctv)) (cr : s.heap.CodeRec (.ref c1) q) (lim : s.heap.NoLimit) (room : A.depth < recursionLimit)
    (kd : scope.kind = .function) (co : scope.isCoroutine = false) (ge : scope.isGenerator = false) (lo : scope.names.lookup x = some .local) (nc : ∀ y ∈ scope.names, y.2 ≠ .cell)
    (bi : bindArgs (kla_fn "<lambda>" q params (.Subscript (.Name x p1) (.Constant (.int 0) j p2) p3) scope cl pm (.ref c1) ctv) ⟨[.ref t], []⟩ = pure [(x, .ref t)]) (db : (x == ("__debug__" : Str)) = false)
    (ht : IsTup s.heap t its) (h0 : its[0]? = some (.int n tk)) : wpAny (model prog w) A (call (.ref f) [.ref t]) (KeyPure (.int n) s) E s := by
  refine wpAny_call (kla_callFunE room ho rfl co ge rfl cr ?_)
  rw [bi]
  refine wpAny_pure (wpAny_newFunctionEnv nc (fun y hy => ?_) (fun g hns sb => ⟨lim.fresh _ sb, ?_⟩) kd)
  · obtain rfl := List.mem_singleton.mp hy
    exact lo
  have kq : ∀ b o, s.heap.get? b = some o → g.get? b = some o := fun b o z => sb.extBut b o (Nat.ne_of_lt (Heap.lt_size z)) (Heap.get?_push_of_some _ z)
  refine kla_codeExpr (Subscript_Constant (wpAny_Name (wpAny_loadName_local (v := .ref t) kd lo hns ?_ ?_) db))
  · show List.lookup x [(x, Value.ref t)] = _
    have e : (x == x) = true := beq_self_eq_true x
    simp only [List.lookup, e]
  refine wpAny_Constant_int ?_
  have sz : 0 < its.size := (Array.getElem?_eq_some_iff.mp h0).1
  have si : seqIndex? 0 its.size = some 0 := seq_nat (k := 0) sz
  have ht2 : IsTup g t its := ht.keeps kq
  refine ⟨"tuple", _, slot_tuple_getitem.lookup, ht2.typeIs, PyProof.Rows.getItem_tuple ht2 (by decide) (by decide) si h0 ?_⟩
  exact ⟨g, _, rfl, kq, .int n tk⟩
end
/-- sorted(xs, key=lambda x: x[0]) of tuples that begin with whole numbers -/
def tSortK (K : PySem.W.Frag) (P : Addr) (q : Str) (t : TA) : TE := fun σ H Q => t σ H fun vs H1 => ∃ (α : Type) (ky : α → Int) (l : Addr) (es : List (V × α)), vs = [.ref l] ∧ SqL K H1 l (es.map (·.1)) ∧ (∀ x ∈ es, ∃ a r, x.1 = .ref a ∧ H1 a = some (.tup (.int (ky x.2) :: r))) ∧ LamX.TabS H1 P q ∧
  ∀ H2 p (es' : List (V × α)), TStp P q H1 H2 → H2 p = none → es'.Perm es → es'.Pairwise (fun a b => ky a.2 ≤ ky b.2) → Q (.ref p) (upd H2 p (.lst (es'.map (·.1))))
theorem sqL_tstp {K : PySem.W.Frag} {P l : Addr} {q : Str} {H H' : Hp} {xs : List V} (t : TStp P q H H') (tb : LamX.TabS H P q) (h : SqL K H l xs) : SqL K H' l xs := by
  rcases h with (h | ⟨o, h⟩) | h
  · exact .inl (.inl (t.kp l _ (tab_ne tb h fun _ z => by cases z) h))
  · exact .inl (.inr ⟨o, t.kp l _ (tab_ne tb h fun _ z => by cases z) h⟩)
  · exact .inr h
theorem each_of {α : Type} {ky : α → Int} {H : Hp} : ∀ {es : List (V × α)} {us : List Value}, Vals (es.map (·.1)) us → (∀ x ∈ es, ∃ a r, x.1 = .ref a ∧ H a = some (.tup (.int (ky x.2) :: r))) →
    PySem.W.EachIs (fun (v : Value) (x : V × α) => ∃ a r, v = .ref a ∧ x.1 = .ref a ∧ H a = some (.tup (.int (ky x.2) :: r))) us es
  | [], us, r, _ => by
    cases r
    exact .nil
  | x :: es, us, r, h => by
    cases r with
    | cons r1 r2 =>
      refine .cons ?_ (each_of r2 fun y hy => h y (List.mem_cons_of_mem _ hy))
      obtain ⟨a, r, e1, e2⟩ := h x List.mem_cons_self
      have r1 : L2.RelV x.1 _ := r1
      rw [e1] at r1
      exact ⟨a, r, r1, e1, e2⟩
theorem of_each {α : Type} {ky : α → Int} {H : Hp} : ∀ {es : List (V × α)} {us : List Value}, PySem.W.EachIs (fun (v : Value) (x : V × α) => ∃ a r, v = .ref a ∧ x.1 = .ref a ∧ H a = some (.tup (.int (ky x.2) :: r))) us es → Vals (es.map (·.1)) us
  | _, _, .nil => .nil
  | _, _, .cons h r => by
    obtain ⟨a, _, e1, e2, _⟩ := h
    refine .cons ?_ (of_each r)
    show L2.RelV (Prod.fst _) _
    rw [e1, e2]
    exact rfl
open PySem.W in
theorem pe_sortK0 {X : Cx} {K : PySem.W.Frag} {c P : Addr} {k j : Nat} {q x : Str} {params : Arguments} {scope : Scope} {lp p p1 p2 p3 pos kp : Pos} {e : Expr} {t : TA} (hr : Room k X.A) (hm : X.mg "sorted" = none) (tb : LamX.TabB X.base X.mg c P) (cd : X.env.code = .ref c) (ha : PA X [e] t)
    (eq : X.env.qual ++ "<lambda>" = q := by rfl) (hK : X.K = K := by rfl) (hg : Gl X "sorted" := by rfl) (nod : defaultsOf params X.env = ([], []) := by rfl) (kd : scope.kind = .function := by rfl) (co : scope.isCoroutine = false := by rfl) (ge : scope.isGenerator = false := by rfl)
    (lo : scope.names.lookup x = some .local := by decide +kernel) (nc : ∀ y ∈ scope.names, y.2 ≠ .cell := by decide +kernel) (nf : ∀ y ∈ scope.names, y.2 ≠ .free := by decide +kernel)
    (bi : ∀ (cl : List (Str × Addr)) (pm cv ctv v : Value), bindArgs (kla_fn "<lambda>" q params (.Subscript (.Name x p1) (.Constant (.int 0) j p2) p3) scope cl pm cv ctv) ⟨[v], []⟩ = pure [(x, v)] := by intros; rfl) (db : (x == ("__debug__" : Str)) = false := by decide)
    (he : backTo pos (starEach [e] X.env) = (false, eval e X.env) :: backTo pos (starEach [] X.env) := by rfl) (hpl : (backTo pos (starEach [e] X.env)).any (·.1) = false := by rfl) :
    PE X (.Call (.Name "sorted" p) [e] [⟨some "key", .Lambda params (.Subscript (.Name x p1) (.Constant (.int 0) j p2) p3) scope lp, kp⟩] pos) (tSortK K P q t) := by
  subst hK
  refine ⟨fun pins s σ H Q I h => ?_⟩
  refine wpAny_Call_Name_kw (ld_blt I hg hm bt_sorted ?_ (by decide) (by decide))
  refine PyProof.Rows.callWith_kw (thn (ha.run pos pins s σ H _ I h) fun us s1 ⟨vs, H1, I1, r1, α, ky, l, es, ev, hl, hes, tab, q1⟩ => ?_) he hpl rfl rfl
  subst ev
  rw [Vals.ref1 r1]
  refine PyProof.Rows.kws_cons (lam_mk I1 tb cd eq tab nod (fun y hy z => absurd z (nf y hy)) (fun f c1 pm ctv H2 s2 I2 ts cr ho => ?_))
  refine PyProof.Rows.kws_nil ?_
  have hl2 := sqL_tstp ts tab hl
  obtain ⟨its, rv, pl, hz⟩ := I2.list hl2
  have E0 := each_of (H := H2) rv fun y hy => by
    obtain ⟨a, r, e1, e2⟩ := hes y hy
    exact ⟨a, r, e1, ts.kp a _ (tab_ne tab e2 fun _ z => by cases z) e2⟩
  have le : es.length ≤ sizeLine := by simpa using hz
  have un := hr.un
  have dp := hr.dp
  refine sorted_key_data (b := false) (fun y : V × α => .int (ky y.2)) pl.isList E0 (AllAlike.of fun _ _ => by simp [alike]) (Sortable.others fun _ => ⟨by simp, by simp⟩) le (fun y _ => ?_) (ksk_s1 _ _) (fun _ => ksk_l1 _ _) (fun _ => ksk_t1 _ _) (fun v y hy _ g tk kk => ?_) (fun out n g tk kk fr ho2 len eo => ?_)
  · show X.A.units + 2 + 0 < cLine
    omega
  · obtain ⟨a, r, rfl, _, e2⟩ := hy
    obtain ⟨its2, rv2, pt, _⟩ := I2.tuple (SqT.of e2)
    cases rv2 with
    | cons w1 w2 =>
      obtain ⟨tk2, rfl⟩ := w1
      obtain ⟨c3, oc, us3, t3, z0, z1, z2, z3⟩ := cr
      exact key0_call (s := { s2 with heap := g, toks := tk }) (kk _ _ ho) ⟨c3, oc, us3, t3, z0, kk _ _ z1, z2, z3⟩ (I2.nolimit.keeps kk) (by show X.A.depth < recursionLimit; omega) kd co ge lo nc (bi _ _ _ _ _) db (pt.keeps kk) (tk := tk2) rfl
  · rw [dataLe_int (fun y : V × α => ky y.2)] at eo
    have pm : (es.mergeSort fun a b => decide (ky a.2 ≤ ky b.2)).Perm es := List.mergeSort_perm es _
    have pw : (es.mergeSort fun a b => decide (ky a.2 ≤ ky b.2)).Pairwise fun a b => ky a.2 ≤ ky b.2 := by
      have z := List.pairwise_mergeSort (le := fun (a b : V × α) => decide (ky a.2 ≤ ky b.2)) (fun a b c h1 h2 => by simp at h1 h2 ⊢; omega) (fun a b => by simp; omega) es
      exact z.imp fun h => by simpa using h
    have fr2 : H2 (s2.heap.objs.size + 1) = none := I2.hok.fresh (Nat.le_succ _)
    have len2 : ((es.mergeSort fun a b => decide (ky a.2 ≤ ky b.2)).map (·.1)).length ≤ sizeLine := by
      rw [List.length_map, pm.length_eq]
      exact le
    exact ⟨.ref _, _, I2.laid (o := .lst ((es.mergeSort fun a b => decide (ky a.2 ≤ ky b.2)).map (·.1))) (t' := tk) kk (Nat.le_succ _) ⟨len2, out, n, of_each eo, ho2⟩, rfl, q1 H2 _ _ ts fr2 pm pw⟩
theorem r_sortK {K : PySem.W.Frag} {P : Addr} {q : Str} {t : TA} {σ : L2.St} {H : Hp} {Q : VK} (h : t σ H fun vs H1 => ∃ (α : Type) (ky : α → Int) (l : Addr) (es : List (V × α)), vs = [.ref l] ∧ SqL K H1 l (es.map (·.1)) ∧ (∀ x ∈ es, ∃ a r, x.1 = .ref a ∧ H1 a = some (.tup (.int (ky x.2) :: r))) ∧ LamX.TabS H1 P q ∧
  ∀ H2 p (es' : List (V × α)), TStp P q H1 H2 → H2 p = none → es'.Perm es → es'.Pairwise (fun a b => ky a.2 ≤ ky b.2) → Q (.ref p) (upd H2 p (.lst (es'.map (·.1))))) : tSortK K P q t σ H Q := h
/-! the def of a method whose code object's table is known -/
def MethAtL (e : Wd) (C : Addr) (m qual : Str) (st : Stmt) (c P : Addr) : Prop := ∃ f fd, FunD e.K m qual (defArgs st) (defBody st) (defScope st) [] [] f fd ∧ Meth e.K C m f ∧ Cls e.K C ∧ fd.code = .ref c ∧ LamX.TabB e.base e.mg c P
def DefAtL (e : Wd) (x : Str) (st : Stmt) (c P : Addr) : Prop := ∃ f fd, FunD e.K x x (defArgs st) (defBody st) (defScope st) [] [] f fd ∧ e.mg x = some (.ref f) ∧ fd.code = .ref c ∧ LamX.TabB e.base e.mg c P
section
variable {e : Wd} {C c P : Addr} {m x qual : Str} {st : Stmt} {N ps : List Str} {k : Nat} {sp : Sp}
theorem fnokL {f : Addr} {fd : FuncData} (F : FunD e.K x qual (defArgs st) (defBody st) (defScope st) [] [] f fd) (cd : fd.code = .ref c) (S : FnScope N ps (defScope st)) (len : ∀ vs H Q E, sp vs H Q E → vs.length = ps.length)
    (hbody : ∀ (f : Addr) (A : Around) (outer : List Env) (s : Shared) (H : Hp) (vs : List V) (Q : VK) (E : XK), Room k (A.deeper (envOfC qual (defScope st) s.heap.objs.size f (.ref c))) → sp vs H Q E →
      ∃ t, PSs (cxOf (L2.CX e.P e.w) e.P e.w e.K e.mg e.base N qual (defScope st) f (.ref c) A outer s H E).nox (defBody st) t ∧ t { nx := fun _ H' => Q .non H', rt := Q } (start N vs) H) : FnOk e.P e.w e.K e.mg e.base (L2.CX e.P e.w) (k + 1) f fd ps sp := by
  obtain ⟨oc, od, dV, kV, doc, pm, an, cdv, ct, osl, rfl, lk, hcd, _, _⟩ := F.ex
  have cd : cdv = .ref c := cd
  subst cd
  exact fn_of lk hcd S len fun A outer s H vs Q E hr hsp => by
    obtain ⟨t, h1, h2⟩ := hbody f A outer s H vs Q E hr hsp
    exact ⟨t, h1.nox, h2⟩
theorem canML_of (D : MethAtL e C m qual st c P) (S : FnScope N ps (defScope st)) (B : BindQ m qual st ps) (len : ∀ vs H Q E, sp vs H Q E → vs.length = ps.length)
    (hbody : ∀ (tb : LamX.TabB e.base e.mg c P) (f : Addr) (A : Around) (outer : List Env) (s : Shared) (H : Hp) (vs : List V) (Q : VK) (E : XK), Room k (A.deeper (envOfC qual (defScope st) s.heap.objs.size f (.ref c))) → sp vs H Q E →
      ∃ t, PSs (cxOf (L2.CX e.P e.w) e.P e.w e.K e.mg e.base N qual (defScope st) f (.ref c) A outer s H E).nox (defBody st) t ∧ t { nx := fun _ H' => Q .non H', rt := Q } (start N vs) H) : CanM e (k + 1) C m ps sp := by
  obtain ⟨f, fd, F, M, cl, cd, tb⟩ := D
  exact ⟨f, fd, fnokL F cd S len (hbody tb), cl, M, F.bindsN B⟩
theorem canL_of (D : DefAtL e x st c P) (S : FnScope N ps (defScope st)) (B : BindOk x st ps) (len : ∀ vs H Q E, sp vs H Q E → vs.length = ps.length)
    (hbody : ∀ (tb : LamX.TabB e.base e.mg c P) (f : Addr) (A : Around) (outer : List Env) (s : Shared) (H : Hp) (vs : List V) (Q : VK) (E : XK), Room k (A.deeper (envOfC x (defScope st) s.heap.objs.size f (.ref c))) → sp vs H Q E →
      ∃ t, PSs (cxOf (L2.CX e.P e.w) e.P e.w e.K e.mg e.base N x (defScope st) f (.ref c) A outer s H E).nox (defBody st) t ∧ t { nx := fun _ H' => Q .non H', rt := Q } (start N vs) H) : Can e (k + 1) x ps sp := by
  obtain ⟨f, fd, F, g, cd, tb⟩ := D
  exact ⟨f, fd, fnokL F cd S len (hbody tb), g, F.kp, F.bindsN B⟩
end
theorem code_of {K : PySem.W.Frag} {p : Str × Option Str} {x qual : Str} {a : Arguments} {b : List Stmt} {sc : Scope} {fd : FuncData} (F : FunD K x qual a b sc [] [] (He.fAd K p) fd) : fd.code = .ref (He.cT K p).1 := by
  obtain ⟨oc, od, dV, kV, doc, pm, an, cdv, ct, osl, rfl, lk, hcd, _, _⟩ := F.ex
  obtain ⟨c, rfl⟩ := He.codeIn_ref hcd
  show Value.ref c = .ref (He.codeOf K p)
  rw [He.codeOf_eq lk rfl]
end Dk

/-! The end of a law whose defs have tables of code objects. -/
namespace Dk
open PySem PySem.Spec PyProof.Rows L2
/-- the promise, the list that is handed in locked or not yet -/
def spZ (sp : Sp) : Sp := fun vs H Q E => sp vs H Q E ∨ ∃ a xs, vs = [.ref a] ∧ H a = some (.lst xs) ∧ ∀ o, sp vs (upd H a (.frz o (.lst xs))) Q E
theorem fn_frz {P : Program} {w : World} {K : PySem.W.Frag} {mg : Str → Option Value} {base : Heap} {k : Nat} {f : Addr} {fd : FuncData} {ps : List Str} {sp : Sp} (F : FnOk P w K mg base L2.CX0 k f fd ps sp) : FnOk P w K mg base L2.CX0 k f fd ps (spZ sp) := by
  refine ⟨fun vs H Q E h => ?_, fun A outer s H args us vs Q E hr e0 hb rv h => ?_⟩
  · rcases h with h | ⟨a, xs, _, _, h⟩
    · exact F.len _ _ _ _ h
    · exact F.len _ _ _ _ (h { cls := .none, data := .plain })
  · rcases h with h | ⟨a, xs, _, ha, h⟩
    · exact F.run A outer s H args us vs Q E hr e0 hb rv h
    · obtain ⟨z, its, n, ri, ho⟩ := e0.hok a _ ha
      have up : ∀ b, H b = none → (upd H a (.frz { cls := .type "list", data := .seq its.toArray n } (.lst xs))) b = none := fun b e => by
        rw [upd_ne (fun q => by rw [q, ha] at e; cases e)]
        exact e
      have ot : ∀ b u, H b = some u → (∀ ys, u ≠ .lst ys) → (upd H a (.frz { cls := .type "list", data := .seq its.toArray n } (.lst xs))) b = some u := fun b u e g => by
        rw [upd_ne (fun q => by rw [q, ha] at e; cases e; exact g xs rfl)]
        exact e
      have e2 : Env0 P w K mg base A outer s (upd H a (.frz { cls := .type "list", data := .seq its.toArray n } (.lst xs))) := by
        refine ⟨e0.frames, e0.mod, fun b o q => ⟨(e0.bs b o q).1, up b (e0.bs b o q).2⟩, e0.bsz, e0.funs, fun b q => up b (e0.frf b q), fun b u q => ?_, e0.bare⟩
        by_cases eb : b = a
        · rw [eb, upd_same] at q
          cases q
          rw [eb]
          exact ⟨ho, z, its, n, ri, ho⟩
        · rw [upd_ne eb] at q
          exact (e0.hok b u q).stay (fun d v _ q => q) (fun d q => ot d _ q fun _ z => by cases z) fun d ys q => ot d _ q fun _ z => by cases z
      refine codeAny_mono (F.run A outer s _ args us vs Q E hr e2 hb rv (h _)) fun r s' hq => ?_
      cases r with
      | error e => exact (show False from hq).elim
      | ok fl =>
        cases fl with
        | ret u =>
          obtain ⟨v, H', q1, q2, un, q3, q4, q5⟩ := hq
          exact ⟨v, H', q1, q2, ⟨fun b o g1 g2 => un.keep b o g1 (up b g2), fun b o g1 g2 => un.slot b o g1 (up b g2), fun b o g1 g2 => un.free b o g1 (up b g2), un.there, fun b ys g => un.tups b ys (ot b _ g fun _ z => by cases z),
            fun b o u g => un.frzs b o u (ot b _ g fun _ z => by cases z), fun b ps g => un.tbls b ps (ot b _ g fun _ z => by cases z)⟩, q3, q4, q5⟩
        | next => exact False.elim hq
        | brk => exact False.elim hq
        | cont => exact False.elim hq
theorem Scr.frz {K : PySem.W.Frag} {H : Hp} {a : Addr} {ns : List Int} {o : Obj} (hl : ns.length ≤ 63) : Scr K (upd H a (.frz o (.lst (ns.map V.int)))) a := ⟨ns, hl, .inl ⟨o, upd_same⟩⟩
/-- the law's promise when it holds of every list that is locked -/
theorem spZ_of {K : PySem.W.Frag} {sp : Sp} {H : Hp} {a : Addr} {ns : List Int} {Q : VK} {E : XK} (hl : ns.length ≤ 63) (h : SqL K H a (ns.map V.int)) (k : ∀ H' : Hp, Scr K H' a → (∀ b ps, H b = some (.tbl ps) → H' b = some (.tbl ps)) → sp [.ref a] H' Q E) : spZ sp [.ref a] H Q E := by
  rcases h with (h | ⟨o, h⟩) | h
  · refine .inr ⟨a, _, rfl, h, fun o => k _ (Scr.frz hl) fun b ps e => ?_⟩
    rw [upd_ne (fun q => by rw [q, h] at e; cases e)]
    exact e
  · exact .inl (k H ⟨ns, hl, .inl ⟨o, h⟩⟩ fun _ _ e => e)
  · exact .inl (k H ⟨ns, hl, .inr h⟩ fun _ _ e => e)
/-! what the head tells -/
theorem SaysX_b {fa : List He.Fa} {fb : List Prd} {fn : List He.DefD} {tf : List He.Defn} {w : World} {h : Heap} {K : PySem.W.Frag} (c : He.SaysX fa fn [] tf (fun K => fb.all fun p => p K) w h K) : ∀ (i : Nat) (p : Prd), fb[i]? = some p → p K = true :=
  fun i p q => List.all_eq_true.mp c.more p (List.mem_of_getElem? q)
end Dk

/-! Exceptions that carry a place: made, raised, caught by several clauses, looked at. -/
namespace Dk
open PySem PySem.Spec PyProof.Rows L2
abbrev CXN : CXT := fun _ _ _ _ _ _ => False
/-- the exception class C of the name x, whose __init__(self, place) calls super().__init__ and stores -/
structure XpC (e : Wd) (x : Str) (C : Addr) : Prop where
  oex : OexC e.K C
  ini : ∃ fI fd, PySem.W.findIn e.K (.ref C) "__init__" = some (some (.ref fI)) ∧ PySem.W.typeIn e.K (.ref fI) = some (.type "function") ∧ Binds e.K fd ["self", "place"] [] ∧ ∀ k, FnOk e.P e.w e.K e.mg e.base CXN (k + 1) fI fd ["self", "place"] (spXi C)
  g : e.mg x = some (.ref C)
  no : PySem.W.findIn e.K (.ref C) "place" = some none
section
variable {X : Cx} {W : WX} {K : PySem.W.Frag} {C : Addr} {x : Str} {e : Expr} {p pos : Pos} {ta te : TE} {σ : L2.St} {H : Hp} {cls : Value} {d : Option Addr} {D : Ends}
def mkPq (C : Addr) (x : V) (H1 : Hp) (Q : XK) : Prop := [x].length ≤ 1000 ∧ ∀ a, H1 a = none → spXi C (.ref a :: ([x] ++ [])) (upd H1 a (exo a C none)) (fun v H2 => v = .non ∧ ∃ (d : Addr) (fs : List (Str × V)), H2 a = some (exo a C (some d)) ∧ H2 d = some (exd d fs) ∧ H1 d = none ∧ Q (.ref C) (some d) (upd (del H2 a) d (.xd fs))) (fun _ _ _ => False)
def tMkP (C : Addr) (ta : TE) : L2.St → Hp → XK → Prop := fun σ H Q => ta σ H fun x H1 => mkPq C x H1 Q
theorem mkP {k : Nat} (T : XpC (wdOf X) x C) (hr : Room (k + 2) X.A) (he : PE X e ta) (hg : Gl X x := by rfl) (hs : starEach [e] X.env = (false, eval e X.env) :: starEach [] X.env := by rfl) (hdb : (x == ("__debug__" : Str)) = false := by decide)
    (hpl : (backTo pos (starEach [] X.env)).any (·.1) = false := by rfl) : PMk X (.Call (.Name x p) [e] [] pos) (tMkP C ta) := by
  obtain ⟨fI, fd, f1, f2, b, F⟩ := T.ini
  intro pins s σ H Q I h
  exact pmk_oex (dvs := []) (ds := []) T.oex f1 f2 (F k) hr b .nil (fun _ _ _ _ _ _ _ z => z.elim) hg T.g (pa_cons he pa_nil hs) hdb hs hpl pins s σ H Q I h
theorem r_mkP {n : Int} {Q : XK} (k : ∀ dx, H dx = none → Same H (upd H dx (.xd [("place", .int n)])) → Q (.ref C) (some dx) (upd H dx (.xd [("place", .int n)]))) : mkPq C (.int n) H Q := by
  refine ⟨by simp only [List.length_cons, List.length_nil]; decide, fun a na => ⟨a, n, rfl, upd_same, fun dx nd ne => ⟨rfl, dx, [("place", .int n)], upd_same, ?_, ?_, ?_⟩⟩⟩
  · rw [upd_ne ne, upd_same]
  · rw [upd_ne ne] at nd
    exact nd
  · rw [upd_ne ne] at nd
    have q := k dx nd (same_new nd)
    have eq : upd (del (upd (upd (upd H a (exo a C none)) dx (exd dx [("place", .int n)])) a (exo a C (some dx))) a) dx (.xd [("place", .int n)]) = upd H dx (.xd [("place", .int n)]) := by
      funext b
      by_cases h1 : b = dx
      · rw [h1, upd_same, upd_same]
      · rw [upd_ne h1, upd_ne h1]
        by_cases h2 : b = a
        · rw [h2, del_same, na]
        · rw [del_ne h2, upd_ne h2, upd_ne h1, upd_ne h2]
    rw [eq]
    exact q
theorem r_raiseP (q : ta σ H fun x H1 => mkPq C x H1 fun cls d H' => W cls d σ H') : tRaise (tMkP C ta) W D σ H := q
end
/-! ### the attribute place of a caught exception -/
section
variable {X : Cx} {K : PySem.W.Frag} {C a : Addr} {e : Expr} {pos : Pos} {te : TE} {σ : L2.St} {H : Hp} {cls : Value} {d : Option Addr} {Q : VK} {f : Str}
def xfq (a : Addr) (cls : Value) (d : Option Addr) (C : Addr) (f : Str) (x : V) (H1 : Hp) (Q : VK) : Prop := x = .ref a ∧ cls = .ref C ∧ ∃ (dd : Addr) (fs : List (Str × V)) (v : V), d = some dd ∧ H1 dd = some (.xd fs) ∧ fs.lookup f = some v ∧ Q v H1
theorem r_xf (q : te σ H fun x H1 => xfq a cls d C f x H1 Q) : tXf a cls d C f te σ H Q := q
theorem r_xfv {dd : Addr} {v : V} (h : H dd = some (.xd [(f, v)])) (q : Q v H) : xfq a (.ref C) (some dd) C f (.ref a) H Q := ⟨rfl, rfl, dd, _, v, rfl, h, lk_hd, q⟩
theorem pe_xfU {oe : Obj} {pn : List (Addr × Obj)} {n : Str} (T : XfC K C) (hno : PySem.W.findIn K (.ref C) n = some none) (hz : Zc cls d oe) (hf : ∃ vs, oe.data = .fields vs) (he : PE (X.suite a ((a, oe) :: pn)) e te) (hK : X.K = K := by rfl)
    (hb : attributeBase e n X.env (eval e X.env) = eval e X.env := by rfl) : PE (X.suite a ((a, oe) :: pn)) (.Attribute e n pos) (tXf a cls d C n te) := by
  subst hK
  exact pe_xf T hno hz hf he hb
end
/-! ### isinstance of a caught exception, with its dict or without -/
section
open PySem.W PySem.Calls
variable {prog : Program} {w : World} {A : Around} {E : Value → Shared → Prop} {s : Shared} {K : Frag} {x D : Addr} {ox : Obj} {od : Option Obj}
theorem find_cls {g a : Value} {name : Str} (hc : (clsIn K D).isSome = true) (ha : findIn K (.ref D) name = some (some a)) (hg : specialIn K a "__get__" = some (some g)) (ht : takesIn K a = some true) : findObj K D od name = some (.bind g a) := by
  obtain ⟨cd, hc⟩ := Option.isSome_iff_exists.mp hc
  unfold findObj
  rw [hc, Option.bind_some, ha, Option.bind_some]
  simp [hg, ht]
theorem kin_cls2 (T : ExcC K D) (X : K.In s.heap) (I : PySem.W.InstAt s.heap x ox D od) {Q : Option Value → Shared → Prop} (h : Q (some (.ref D)) { s with toks := s.toks + 1 }) : wpAny (model prog w) A (getAttr? (.ref x) "__class__") Q E s := by
  have hf : findObj K D od "__class__" = some (.bind (.builtin "getset_descriptor.__get__") (.builtin "object.__class__")) := find_cls (by obtain ⟨cd, hc, _⟩ := any_some T.hd; rw [hc]; rfl) T.ha T.hn T.ht
  obtain ⟨hp, g, d, t, os⟩ := s
  have J0 := I.type (M := model prog w)
  have J1 := looks_findIn (M := model prog w) X T.hg
  have J2 := looks_findIn (M := model prog w) X T.hk
  have J3 := looks_find (M := model prog w) X I hf
  have sb : Looks (model prog w) hp (isInstance (.ref x) (.type "BaseException")) true := J0.andThen (looks_subIn X T.hs)
  have y0 : (false && onTheHeap (Value.builtin "BaseException.__getattribute__")) = false := rfl
  have y2 : (Value.builtin "BaseException.__getattribute__" == Value.builtin "object.__getattribute__") = false := by decide +kernel
  have y1 : (onTheHeap (Value.ref D) && Value.builtin "BaseException.__getattribute__" == Value.builtin "object.__getattribute__") = false := by rw [y2] <;> rfl
  unfold getAttr? getAttrBy? getAttrBy
  refine wpAny_bind (wpAny_mkText (wpAny_bind (wpAny_attempt (wpAny_holding (wpAny_bind (J0.at (wpAny_bind (J1.at ?_))))))))
  change wpAny _ _ (if (onTheHeap (Value.ref D) && Value.builtin "BaseException.__getattribute__" == Value.builtin "object.__getattribute__") = true then _ else _) _ _ _
  rw [y1, if_neg Bool.false_ne_true]
  unfold getAttrByItsOwn hookBefore
  refine wpAny_bind ?_
  rw [if_pos (by rfl : onTheHeap (Value.ref D) = true)]
  refine J2.at ?_
  refine wpAny_bind (wpAny_attempt (wpAny_holding ?_))
  unfold callGetattribute
  rw [y0, if_neg Bool.false_ne_true]
  unfold boundAndCalled
  rw [PySem.F.excAttr_ValueError.ga.bind (.ref x)]
  refine wpAny_bind (wpAny_pure ?_)
  change wpAny _ _ (call (.builtin "BaseException.__getattribute__") [.ref x, .str "__class__" t]) _ _ _
  refine wpAny_call (codeAny_call_builtin PySem.F.excAttr_ValueError.ga.plain PySem.F.entry_bexc_ga ?_)
  refine @check_slot (model prog w) _ _ ⟨hp, g, d, t + 1, os⟩ "BaseException.__getattribute__" "BaseException" "__getattribute__" (.ref x) [.str "__class__" t] [] _ (by decide +kernel) (by decide +kernel) sb (PySem.F.args_bexc_ga (.ref x) (.str "__class__" t)) ?_
  unfold Builtin.«object.__getattribute__»
  refine wpAny_bind (wpAny_of_eq (a := ((Value.ref x : Value), [Value.str "__class__" t])) (by first | rfl | (simp only [slotArgs]; rfl)) ?_)
  refine wpAny_bind (wpAny_pure (wpAny_bind (J0.at (wpAny_bind (J3.at ?_)))))
  change wpAny _ _ (holding [Value.builtin "object.__class__"] (call (.builtin "getset_descriptor.__get__") [.builtin "object.__class__", .ref x, .ref D]) >>= ret) _ _ _
  refine wpAny_bind (wpAny_holding (wpAny_call (class_get (s := ⟨hp, g, d, t + 1, os⟩) (ox := ox) (od := od) X I T.hm ?_)))
  refine wpAny_pure ?_
  change wpAny _ _ (handedOut (.ref D)) _ _ _
  rw [handedOut_of (v := .ref D) rfl]
  first
    | exact wpAny_pure (wpAny_pure h)
    | exact wpAny_pure h
    | exact wpAny_pure (wpAny_bind (wpAny_pure (wpAny_pure h)))
theorem cls_obj (T : ExcC K D) : ∃ cd c' d' sl', K.lookup D = some (⟨c', d', .cls cd, sl'⟩ : Obj) := by
  obtain ⟨cdD, hcD, _⟩ := any_some T.hd
  unfold clsIn at hcD
  split at hcD
  · rename_i c' d' cd' sl' ho
    exact ⟨cd', c', d', sl', ho⟩
  · cases hcD
theorem kitx_exc2 (T : ExcC K D) : KitX K (.ref x) (.ref D) (fun h => PySem.W.InstAt h x ox D od) where
  ty := fun _ _ _ I => I.type
  it := fun _ _ X _ => by
    obtain ⟨cd, c', d', sl', ho⟩ := cls_obj T
    intro A' Q' E' s' k q
    unfold isType loadHead
    exact wpAny_bind (wpAny_loadPart (k _ _ (X _ _ ho)) (wpAny_pure q))
  ne := fun h tp dd its n sl X htp => by
    obtain ⟨cd, c', d', sl', ho⟩ := cls_obj T
    refine Bool.eq_false_iff.mpr fun q => ?_
    have e : D = tp := Value.ref.inj (beq_iff_eq.mp q)
    rw [← e, X _ _ ho] at htp
    cases htp
  ca := fun X I k => kin_cls2 T X I k
end
section
variable {X : Cx} {K : PySem.W.Frag} {cls : Value} {d : Option Addr} {H : Hp} {C : Addr}
def rIsY (K : PySem.W.Frag) (cls : Value) (d : Option Addr) (a : Addr) : List V → Hp → VK → Prop := fun xs H Q => ∃ D, cls = .ref D ∧ (d = none ∨ ∃ dd fs, d = some dd ∧ H dd = some (.xd fs)) ∧ ExcC K D ∧ rIsE K D a xs H Q
theorem call_isY {a : Addr} {oe : Obj} {pn : List (Addr × Obj)} (hz : Zc cls d oe) (hf : ∃ vs, oe.data = .fields vs) (hK : X.K = K := by rfl) : CallR (X.suite a ((a, oe) :: pn)) (.builtin "isinstance") (rIsY K cls d a) := by
  subst hK
  intro pins s σ H xs us Q I r ⟨D, e1, ed, T, c, cv, b, ex, hcv, e, q⟩
  subst e1
  subst ex
  cases r with
  | cons rx rr =>
    cases rr with
    | cons rt rr =>
      cases rr
      cases rx
      have ec := hcv _ rt
      subst ec
      obtain ⟨hget, _⟩ := I.pin (a, oe) (List.mem_append_left _ List.mem_cons_self)
      obtain ⟨vs, hv⟩ := hf
      have J : ∃ od, PySem.W.InstAt s.heap a oe D od := by
        rcases ed with e0 | ⟨dd, fs, e0, hx⟩
        · subst e0
          refine ⟨none, hget, hz.1, by unfold PySem.W.notCls; rw [hv] <;> rfl, ?_⟩
          rw [hz.2]
          trivial
        · subst e0
          have ho : ObjOk X.prog X.w H s.heap dd (.xd fs) := I.hok dd _ hx
          obtain ⟨mA, hns, hr⟩ := ho
          obtain ⟨od, ho, hl⟩ := lookIn_ns hns
          refine ⟨some od, hget, hz.1, by unfold PySem.W.notCls; rw [hv] <;> rfl, ?_⟩
          rw [hz.2]
          exact ho
      obtain ⟨od, J⟩ := J
      exact PySem.W.kia_one (kitx_exc2 T) I.kIn J e (fun z => nomatch z) fun tk => ⟨.bl b, H, I.kept (t' := tk) fun _ _ z => z, rfl, q⟩
theorem r_isY {a D2 dd : Addr} {fs : List (Str × V)} {b : Bool} {Q : VK} (h : ExcC K C) (hx : H dd = some (.xd fs)) (hk : PySem.W.kitOne K (.ref C) (.ref D2) = some b) (q : Q (.bl b) H) : rIsY K (.ref C) (some dd) a [.ref a, .ref D2] H Q :=
  ⟨C, rfl, .inr ⟨dd, fs, rfl, hx⟩, h, .ref D2, .ref D2, b, rfl, fun u r => r, hk, q⟩
end
/-! ### several clauses with a name -/
def wManyA (K : PySem.W.Frag) (i : Nat) (Wout : WX) (D : Ends) : List (Value × (Addr → Value → Option Addr → TS)) → WX
  | [] => Wout
  | (c, ts) :: r => fun cls d σ H => ∃ b, PySem.W.exmOne K cls c = some b ∧ (b = true → ∀ a, H a = none → ts a cls d { nx := fun σ' H' => D.nx (σ'.set i none) H', rt := D.rt, bk := fun σ' H' => D.bk (σ'.set i none) H', ct := fun σ' H' => D.ct (σ'.set i none) H' } (σ.set i (some (.ref a))) H) ∧
    (b = false → wManyA K i Wout D r cls d σ H)
inductive HdsA (X : Cx) (n : Str) : List ExceptHandler → List (Value × (Addr → Value → Option Addr → TS)) → Prop
  | nil : HdsA X n [] []
  | cons {x : Str} {c : Value} {ts : Addr → Value → Option Addr → TS} {b₀ : Stmt} {suite : List Stmt} {np pos' : Pos} {hds : List ExceptHandler} {l : List (Value × (Addr → Value → Option Addr → TS))} (hc : Names X x c)
      (hsu : ∀ (a : Addr) (oe : Obj) (cls : Value) (d : Option Addr) (pn : List (Addr × Obj)), Zc cls d oe → (∃ vs, oe.data = .fields vs) → PSs (X.suite a ((a, oe) :: pn)) (b₀ :: suite) (ts a cls d)) (r : HdsA X n hds l) :
      HdsA X n (.ExceptHandler (some (.Name x np)) (some n) (b₀ :: suite) pos' :: hds) ((c, ts) :: l)
section
variable {X : Cx} {body : List Stmt} {h₀ : ExceptHandler} {hds : List ExceptHandler} {l : List (Value × (Addr → Value → Option Addr → TS))} {pos : Pos} {tb : WX → TS} {Wout : WX} {n : Str} {i : Nat}
theorem ps_tryMA (hs : X.stack = X.env :: X.outer) (hf : X.env.frame = some X.env.locals) (hN : X.N.Nodup) (hi : X.N[i]? = some n) (hln : X.env.kindOf n = some .local) (tk : Takes X Wout)
    (hb : ∀ (W : WX) (pn : List (Addr × Obj)) (xe : Value → Shared → Prop), Takes (X.tr pn xe) W → PassesOwn (model X.prog X.w) X.A X.env xe → PSs (X.tr pn xe) body (tb W))
    (hh : HdsA X n (h₀ :: hds) l) : PS X (.Try body (h₀ :: hds) [] [] pos) (fun D σ H => tb (wManyA X.K i Wout D l) D σ H) := by
  refine ⟨fun pins s σ H D I h => ?_⟩
  have ok := I.ok
  have hfr : X.A.frames = some (X.env :: X.outer) := by rw [ok.frames, hs]
  have hloc : Loc X.env.scope n := .inl hln
  refine wpAny_Try_except ?_
  refine wpAny_mono ((hb (wManyA X.K i Wout D l) (X.pn ++ pins) (fun e s₁ => wpAny (model X.prog X.w) X.A (noteFrame e X.env) (fun _ s₂ => wpAny (model X.prog X.w) X.A (setFlight e none) (fun _ s₃ =>
    wpAny (model X.prog X.w) X.A (handleBy e X.env (h₀ :: hds)) (SP X pins D) X.xe s₃) X.xe s₂) X.xe s₁) (fun u s' xx => ?_) PassesOwn.looking).run [] s σ H D (I.toTry _) h) (fun f s1 hsp => ?_) (fun e s1 he => he)
  · obtain ⟨a, B, sI, pins', σ', H', cls, d, rfl, J', nb, up, sky, na, os, ag, w⟩ := xx
    have J : Inv X pins σ' H' sI := J'.ofTry ok
    have sky' : Sky B (X.env :: X.outer) a (Zc cls d) X.env.locals s'.heap := by rw [← hs]; exact sky
    change wpAny (model X.prog X.w) X.A (noteFrame (.ref a) X.env) _ _ _
    refine Sky.land Zc.steady hfr hf sky' fun h3 fl3 up3 => ?_
    have J3 : Inv X pins σ' H' { s' with heap := h3 } := J.landed nb fl3.1 (up.trans up3) os ag
    obtain ⟨oe3, vs3, he3, hz3, hd3⟩ := fl3.there
    have notFr : ∀ {h : Heap} {o : Obj} {vs : Array Value}, h.FunFrames B (X.env :: X.outer) → h.get? a = some o → o.data = .fields vs → a ∉ frs (X.env :: X.outer) := fun {h o vs} ff e dd hm => by
      obtain ⟨_, o', e', hnf⟩ := ff.mem hm
      rw [e] at e'
      cases e'
      exact hnf _ dd
    have nfr := notFr fl3.2.2.1 he3 hd3
    have nL : a ≠ X.env.locals := fun z => nfr (List.mem_filterMap.mpr ⟨X.env, List.mem_cons_self, by rw [hf, z]⟩)
    have nF : a ∉ X.fs := fun hm => by
      obtain ⟨e, he, q⟩ := List.mem_filterMap.mp hm
      exact nfr (List.mem_filterMap.mpr ⟨e, List.mem_cons_of_mem _ he, q⟩)
    have S3 := J3.suite he3 hd3 na nL nF
    have go : ∀ {hds' : List ExceptHandler} {l' : List (Value × (Addr → Value → Option Addr → TS))}, HdsA X n hds' l' → wManyA X.K i Wout D l' cls d σ' H' →
        wpAny (model X.prog X.w) X.A (handleBy (.ref a) X.env hds') (SP X pins D) X.xe { s' with heap := h3 } := by
      intro hds' l' hk
      induction hk with
      | nil =>
        intro w
        refine wpAny_handleBy_nil ?_
        obtain ⟨k1, k2, k3, oe, vs, T, oT, ts', he, hz, hd, h1, hr⟩ := id fl3
        unfold PySem.passOn
        refine wpAny_bind (wpAny_field he hd h1 ?_)
        rw [if_neg (show ¬ ((Value.ref T == Value.none) = true) from by simp)]
        have fin : wpAny (model X.prog X.w) X.A (setFlight (.ref a) X.env.frame) (fun _ s4 => wpAny (model X.prog X.w) X.A (throw (.ref a) : Sem Flow) (SP X pins D) X.xe s4) X.xe { s' with heap := h3 } := by
          rw [hf]
          refine HandSPX.setFlight_upZ fl3 fun h4 hh4 up4 => wpAny_throw (tk _ _ ?_)
          exact ⟨a, B, sI, pins, σ', H', cls, d, rfl, J, nb, (up.trans up3).trans up4, .inr (.inr (by rw [hs]; exact hh4)), na, os, ag, w⟩
        first
          | exact wpAny_bind (wpAny_pure (wpAny_bind fin))
          | exact wpAny_bind fin
      | @cons x c ts b₀ suite np pos' hds2 l2 hc hsu r ih =>
        intro w
        obtain ⟨b, hb1, hyes, hno⟩ := w
        refine wpAny_handleBy_cons (codeAny_handlers_test ?_) (by intro q; cases q)
        have LT : PySem.W.Looks (model X.prog X.w) h3 (typeOf (.ref a)) cls := fun A Q E s k q => wpAny_typeOf_ref (k _ _ he3) (by rw [hz3.1]; exact q)
        have LM := PySem.W.exm_one (M := model X.prog X.w) (J3.kIn) LT hb1
        have test : ∀ {Q : Value → Shared → Prop} {E : Value → Shared → Prop}, Q c { s' with heap := h3 } → wpAny (model X.prog X.w) (X.A.mark (some (.ref a))) (eval (.Name x np) X.env) Q E { s' with heap := h3 } := fun {Q E} q => by
          obtain ⟨hg, hdbg, hm | ⟨hm, hv, hnn⟩⟩ := hc
          · exact ld_glob (X := X.suite a ((a, oe3) :: (X.pn ++ pins))) S3 hg hm q hdbg
          · exact ld_blt (X := X.suite a ((a, oe3) :: (X.pn ++ pins))) S3 hg hm hv q hnn hdbg
        refine test (LM.here ?_)
        cases b with
        | true =>
          refine codeAny_handlers_suite_as ?_
          refine HandSPX.lands_againZ fl3 fun h4 fl4 up4 => ?_
          have J4 : Inv X pins σ' H' { s' with heap := h4 } := J.landed nb fl4.1 ((up.trans up3).trans up4) os ag
          obtain ⟨oe4, vs4, he4, hz4, hd4⟩ := fl4.there
          have S4 := J4.suite he4 hd4 na nL nF
          refine store_ok (X := X.suite a ((a, oe4) :: (X.pn ++ pins))) (v := .ref a) S4 hN hi hloc rfl (fun s5 S5 => ?_) (.inr hln)
          refine wpAny_mono ((hsu a oe4 cls d (X.pn ++ pins) hz4 ⟨_, hd4⟩).run [] s5 _ H' _ S5 (hyes rfl a na)) (fun f s6 hsp => ?_) (fun _ _ z => False.elim z)
          have end_ : ∀ {σ6 : L2.St} {H6 : Hp} {Q : Shared → Prop}, Inv (X.suite a ((a, oe4) :: (X.pn ++ pins))) [] σ6 H6 s6 → (∀ s7, Inv X pins (σ6.set i none) H6 s7 → Q s7) →
              wpAny (model X.prog X.w) X.A (do bindName X.env n .none; unbindBehindTheSuite X.env n pos') (fun _ s7 => Q s7) X.xe s6 := fun {σ6 H6 Q} S6 hq => gone_ok (S6.unsuite ok) hN hi hln hq
          cases f with
          | next =>
            obtain ⟨σ6, H6, S6, q6⟩ := hsp
            exact end_ S6 fun s7 J7 => ⟨_, _, J7, q6⟩
          | brk =>
            obtain ⟨σ6, H6, S6, q6⟩ := hsp
            exact end_ S6 fun s7 J7 => ⟨_, _, J7, q6⟩
          | cont =>
            obtain ⟨σ6, H6, S6, q6⟩ := hsp
            exact end_ S6 fun s7 J7 => ⟨_, _, J7, q6⟩
          | ret u =>
            obtain ⟨v6, σ6, H6, S6, r6, q6⟩ := hsp
            exact end_ S6 fun s7 J7 => ⟨_, _, _, J7, r6, q6⟩
        | false =>
          change wpAny _ X.A (handleBy (.ref a) X.env hds2) _ _ _
          exact ih (hno rfl)
    exact go hh w
  · cases f with
    | next =>
      obtain ⟨σ', H', J', q⟩ := hsp
      exact wpAny_execs_nil ⟨σ', H', J'.ofTry ok, q⟩
    | brk =>
      obtain ⟨σ', H', J', q⟩ := hsp
      exact ⟨σ', H', J'.ofTry ok, q⟩
    | cont =>
      obtain ⟨σ', H', J', q⟩ := hsp
      exact ⟨σ', H', J'.ofTry ok, q⟩
    | ret u =>
      obtain ⟨v, σ', H', J', r, q⟩ := hsp
      exact ⟨v, σ', H', J'.ofTry ok, r, q⟩
end
section
variable {X : Cx} {K : PySem.W.Frag} {body : List Stmt} {h₀ : ExceptHandler} {hds : List ExceptHandler} {l r : List (Value × (Addr → Value → Option Addr → TS))} {pos : Pos} {tb : WX → TS} {Wout : WX} {n : Str} {i : Nat} {c cls : Value} {d : Option Addr} {D : Ends} {σ : L2.St} {H : Hp}
  {ts : Addr → Value → Option Addr → TS}
def tTryMA (K : PySem.W.Frag) (i : Nat) (l : List (Value × (Addr → Value → Option Addr → TS))) (Wout : WX) (tb : WX → TS) : TS := fun D σ H => tb (wManyA K i Wout D l) D σ H
def tTryMO (K : PySem.W.Frag) (l : List (Value × (Addr → Value → Option Addr → TS))) (Wout : WX) (tb : WX → TS) : TS := fun D σ H => tb (wMany K Wout D l) D σ H
theorem ps_tryManyA (hs : X.stack = X.env :: X.outer) (hf : X.env.frame = some X.env.locals) (hN : X.N.Nodup) (hi : X.N[i]? = some n) (hln : X.env.kindOf n = some .local) (tk : Takes X Wout)
    (hb : ∀ (W : WX) (pn : List (Addr × Obj)) (xe : Value → Shared → Prop), Takes (X.tr pn xe) W → PassesOwn (model X.prog X.w) X.A X.env xe → PSs (X.tr pn xe) body (tb W))
    (hh : HdsA X n (h₀ :: hds) l) (hK : X.K = K := by rfl) : PS X (.Try body (h₀ :: hds) [] [] pos) (tTryMA K i l Wout tb) := by
  subst hK
  exact ps_tryMA hs hf hN hi hln tk hb hh
theorem ps_tryManyO (hs : X.stack = X.env :: X.outer) (hf : X.env.frame = some X.env.locals) (tk : Takes X Wout)
    (hb : ∀ (W : WX) (pn : List (Addr × Obj)) (xe : Value → Shared → Prop), Takes (X.tr pn xe) W → PassesOwn (model X.prog X.w) X.A X.env xe → PSs (X.tr pn xe) body (tb W))
    (hh : HdsOk X (h₀ :: hds) l) (hK : X.K = K := by rfl) : PS X (.Try body (h₀ :: hds) [] [] pos) (tTryMO K l Wout tb) := by
  subst hK
  exact ps_try_many hs hf tk hb hh
theorem r_tryMA {tb : WX → TS} (q : tb (wManyA K i Wout D l) D σ H) : tTryMA K i l Wout tb D σ H := q
theorem r_tryMO {tb : WX → TS} (q : tb (wMany K Wout D l) D σ H) : tTryMO K l Wout tb D σ H := q
theorem r_wMAT (h : PySem.W.exmOne K cls c = some true) (k : ∀ a, H a = none → ts a cls d { nx := fun σ' H' => D.nx (σ'.set i none) H', rt := D.rt, bk := fun σ' H' => D.bk (σ'.set i none) H', ct := fun σ' H' => D.ct (σ'.set i none) H' } (σ.set i (some (.ref a))) H) : wManyA K i Wout D ((c, ts) :: r) cls d σ H :=
  ⟨true, h, fun _ => k, (fun z => absurd z.symm Bool.false_ne_true)⟩
theorem r_wMAF (h : PySem.W.exmOne K cls c = some false) (k : wManyA K i Wout D r cls d σ H) : wManyA K i Wout D ((c, ts) :: r) cls d σ H := ⟨false, h, (fun z => absurd z Bool.false_ne_true), fun _ => k⟩
theorem r_wMOT (h : PySem.W.exmOne K cls c = some true) (k : ∀ a, H a = none → ts a cls d D σ H) : wMany K Wout D ((c, ts) :: r) cls d σ H := ⟨true, h, fun _ => k, (fun z => absurd z.symm Bool.false_ne_true)⟩
theorem r_wMOF (h : PySem.W.exmOne K cls c = some false) (k : wMany K Wout D r cls d σ H) : wMany K Wout D ((c, ts) :: r) cls d σ H := ⟨false, h, (fun z => absurd z Bool.false_ne_true), fun _ => k⟩
end
end Dk

/-! What the head tells: defs, tables of code objects, exception classes with an __init__ that calls super(). -/
namespace Dk
open PySem PySem.Spec PyProof.Rows L2
abbrev FnC : Type := Option (Str × Str × Arguments × FuncBody × Scope × Addr × Addr)
/-- an exception class and its __init__ -/
structure XiD where
  x : Str
  qual : Str
  params : Arguments
  body : List Stmt
  scope : Scope
def fiA (K : PySem.W.Frag) (x : Str) : Addr := He.ma K (He.ga K x) "__init__"
def fnC (K : PySem.W.Frag) (x : Str) : FnC := match K.lookup (fiA K x) with
  | some ⟨_, _, .func fd, _⟩ => some (fd.name, fd.qualname, fd.params, fd.body, fd.scope, fd.globals, fd.builtins)
  | _ => none
def XiD.val (d : XiD) : FnC := some ("__init__", d.qual, d.params, .stmts d.body, d.scope, mainGlobals, builtinsNs)
def oexB (K : PySem.W.Frag) (C : Addr) : Bool := match K.lookup C with
  | some ⟨.type t, _, .cls cd, sl⟩ => decide (t = "type") && (cd.hasDict && (!cd.hasDel && (match cd.mro, sl.toList with
    | .ref C' :: bm, [_, _, _, _, some (.builtin n), _] => decide (C' = C) && (decide (n = "ValueError.__new__") && PySem.HandSPX.refsVE bm)
    | _, _ => false)))
  | _ => false
theorem oexB_ok {K : PySem.W.Frag} {C : Addr} (h : oexB K C = true) : ∃ nm q N bs bm sn sub ab col dd k0 k1 k2 k3 k5, K.lookup C = some (excClassObj nm q C N bs bm true sn sub ab col dd k0 k1 k2 k3 k5 "ValueError.__new__") ∧ PySem.HandSPX.refsVE bm = true := by
  unfold oexB at h
  split at h
  · rename_i t dd cd sl ho
    obtain ⟨h1, h⟩ := He.ba h
    obtain ⟨h2, h⟩ := He.ba h
    obtain ⟨h3, h⟩ := He.ba h
    split at h
    · rename_i C' bm k0 k1 k2 k3 n k5 hm hs
      obtain ⟨h4, h⟩ := He.ba h
      obtain ⟨h5, h6⟩ := He.ba h
      obtain ⟨nm, bs, mro, ns, qn, hd, sn, sub, ab, col, del⟩ := cd
      dsimp only at hm h2 h3
      have e3 : del = false := by
        cases del with
        | false => rfl
        | true => cases h3
      have e1 := of_decide_eq_true h1
      have e4 := of_decide_eq_true h4
      have e5 := of_decide_eq_true h5
      subst hm e3 h2 e1 e4 e5
      have hsl : sl = #[k0, k1, k2, k3, some (.builtin "ValueError.__new__"), k5] := by
        obtain ⟨l⟩ := sl
        simp only at hs
        rw [hs]
      subst hsl
      exact ⟨nm, qn, ns, bs, bm, sn, sub, ab, col, dd, k0, k1, k2, k3, k5, ho, h6⟩
    · cases h
  · cases h
/-- the function, its code, its closure -/
def cellB (K : PySem.W.Frag) (x : Str) (cc : Addr) : Bool := match K.lookup cc with
  | some ⟨_, _, .cell (some (.ref C)), _⟩ => decide (C = He.ga K x)
  | _ => false
theorem cellB_ok {K : PySem.W.Frag} {x : Str} {cc : Addr} (h : cellB K x cc = true) : ∃ cl cld csl, K.lookup cc = some ⟨cl, cld, .cell (some (.ref (He.ga K x))), csl⟩ := by
  unfold cellB at h
  split at h
  · rename_i cl cld C csl ho
    rw [← of_decide_eq_true h]
    exact ⟨cl, cld, csl, ho⟩
  · cases h
def cloB (K : PySem.W.Frag) (x : Str) (l : List (Str × Addr)) : Bool := match l with
  | [(n, cc)] => decide (n = ("__class__" : Str)) && cellB K x cc
  | _ => false
theorem cloB_ok {K : PySem.W.Frag} {x : Str} {l : List (Str × Addr)} (h : cloB K x l = true) : ∃ cc, l = [(("__class__" : Str), cc)] ∧ cellB K x cc = true := by
  unfold cloB at h
  split at h
  · rename_i n cc
    obtain ⟨h1, h2⟩ := He.ba h
    rw [of_decide_eq_true h1]
    exact ⟨cc, rfl, h2⟩
  · cases h
def strIs (file : Str) (v : Option Value) : Bool := match v with
  | some (.str f _) => decide (f = file)
  | _ => false
theorem strIs_ok {file : Str} {v : Option Value} (h : strIs file v = true) : ∃ t, v = some (.str file t) := by
  unfold strIs at h
  split at h
  · rename_i f t
    rw [of_decide_eq_true h]
    exact ⟨t, rfl⟩
  · cases h
def filB (K : PySem.W.Frag) (file : Str) (cda : Addr) : Bool := match K.lookup cda with
  | some ⟨_, _, .fields vs, _⟩ => strIs file vs[2]?
  | _ => false
theorem filB_ok {K : PySem.W.Frag} {file : Str} {cda : Addr} (h : filB K file cda = true) : ∃ ccl cdd vs ccs tf, K.lookup cda = some ⟨ccl, cdd, .fields vs, ccs⟩ ∧ vs[2]? = some (.str file tf) := by
  unfold filB at h
  split at h
  · rename_i a b vs c ho
    obtain ⟨t, e⟩ := strIs_ok h
    exact ⟨a, b, vs, c, t, ho, e⟩
  · cases h
def codB (K : PySem.W.Frag) (file : Str) (v : Value) : Bool := match v with
  | .ref c => filB K file c
  | _ => false
theorem codB_ok {K : PySem.W.Frag} {file : Str} {v : Value} (h : codB K file v = true) : ∃ c, v = .ref c ∧ filB K file c = true := by
  unfold codB at h
  split at h
  · exact ⟨_, rfl, h⟩
  · cases h
def nonB (v : Value) : Bool := match v with
  | .none => true
  | _ => false
theorem nonB_ok {v : Value} (h : nonB v = true) : v = .none := by
  unfold nonB at h
  split at h
  · rfl
  · cases h
def xfB2 (file : Str) (K : PySem.W.Frag) (d : XiD) : Bool := match K.lookup (fiA K d.x) with
  | some ⟨_, _, .func fd, _⟩ => PySem.W.codeIn K fd.code d.qual && (nonB fd.defaults && (codB K file fd.code && cloB K d.x fd.closure))
  | _ => false
def xiB (file : Str) (K : PySem.W.Frag) (d : XiD) : Bool := xfB2 file K d && (oexB K (He.ga K d.x) && (He.eqO (PySem.W.findIn K (.ref (He.ga K d.x)) "__init__") (some (some (.ref (fiA K d.x)))) && (decide (PySem.W.typeIn K (.ref (fiA K d.x)) = some (.type "function")) &&
  (He.eqO (PySem.W.findIn K (.ref (He.ga K d.x)) "__setattr__") (some (some (.builtin "object.__setattr__"))) && (decide (PySem.W.subIn K (.ref (He.ga K d.x)) (.type "BaseException") = some true) && (decide (PySem.W.typeIn K (.ref (He.ga K d.x)) = some (.type "type")) && (PySem.W.keepIn K (.ref (He.ga K d.x)) &&
  (decide (PySem.W.mroIn K (He.ga K d.x) (.ref (He.ga K d.x)) = some true) && (He.eqO (PySem.W.ks_superIn K (He.ga K d.x) (He.ga K d.x) "__init__") (some (some (.builtin "ValueError.__init__"))) && (He.eqO (PySem.W.nsIn K cStatics "thirdparty.any") (some none) &&
  (decide (PySem.W.mroIn K (He.ga K d.x) (.type "ValueError") = some true) && He.eqO (PySem.W.findIn K (.ref (He.ga K d.x)) "place") (some none))))))))))))
theorem xfB2_ok {file : Str} {K : PySem.W.Frag} {d : XiD} (hv : fnC K d.x = d.val) (h : xfB2 file K d = true) : ∃ oc od osl kV doc pm an cda ct cc ccl cdd vs ccs tf cl cld csl,
    K.lookup (fiA K d.x) = some ⟨oc, od, .func (PySem.W.ksFn "__init__" d.qual d.params d.body d.scope .none kV doc pm an (.ref cda) ct cc), osl⟩ ∧ PySem.W.codeIn K (.ref cda) d.qual = true ∧ K.lookup cda = some ⟨ccl, cdd, .fields vs, ccs⟩ ∧ vs[2]? = some (.str file tf) ∧
    K.lookup cc = some ⟨cl, cld, .cell (some (.ref (He.ga K d.x))), csl⟩ := by
  unfold xfB2 at h
  unfold fnC at hv
  split at h
  · rename_i oc od fd osl q
    rw [q] at hv
    obtain ⟨n1, n2, n3, n4, n5, n6, n7, n8, n9, n10, n11, n12, n13, n14, n15⟩ := fd
    have e2 : (some (n1, n2, n3, n4, n5, n6, n15) : FnC) = some (("__init__" : Str), d.qual, d.params, FuncBody.stmts d.body, d.scope, mainGlobals, builtinsNs) := hv
    simp only [Option.some.injEq, Prod.mk.injEq] at e2
    obtain ⟨h1, h2, h3, h4, h5, h6, h8⟩ := e2
    subst h1 h2 h3 h4 h5 h6 h8
    obtain ⟨k1, h⟩ := He.ba h
    obtain ⟨k2, h⟩ := He.ba h
    obtain ⟨k3, k4⟩ := He.ba h
    have k2 := nonB_ok k2
    obtain ⟨cda, e3, k5⟩ := codB_ok k3
    obtain ⟨cc, e4, k6⟩ := cloB_ok k4
    obtain ⟨ccl, cdd, vs, ccs, tf, q2, q3⟩ := filB_ok k5
    obtain ⟨cl, cld, csl, q4⟩ := cellB_ok k6
    dsimp only at k2 e3 e4 k1
    subst k2 e3 e4
    exact ⟨oc, od, osl, n9, n10, n11, n12, cda, n14, cc, ccl, cdd, vs, ccs, tf, cl, cld, csl, q, k1, q2, q3, q4⟩
  · cases h
theorem xpc_of {e : Wd} {d : XiD} {file : Str} (hv : fnC e.K d.x = d.val) (hb : xiB file e.K d = true) (hfile : ((e.P.main.file : Str) == file) = true) (htop : (e.P.main.scope.names.lookup ("super" : Str)).isSome = false) (hms : e.mg "super" = none) (g : e.mg d.x = some (.ref (He.ga e.K d.x)))
    {p0 p1 p2 p3 p4 p5 p6 p7 p8 p9 : Pos} {ar : Arg} {pl : Sem Bool} (hsc : d.scope = scI)
    (hbd : d.body = [.Expr (.Call (.Attribute (.Call (.Name "super" p0) [] [] p1) "__init__" p2) [.Name "place" p3] [] p4) p5, .Assign [.Attribute (.Name "self" p6) "place" p7] (.Name "place" p8) p9])
    (hev : ∀ (Lc fa : Addr) (cd : Value) (ce : Addr), eval (.Call (.Attribute (.Call (.Name "super" p0) [] [] p1) "__init__" p2) [.Name "place" p3] [] p4) (PySem.W.ksEnv d.qual scI Lc fa cd ce) = (do
      let ov ← attributeBase (.Call (.Name "super" p0) [] [] p1) "__init__" (PySem.W.ksEnv d.qual scI Lc fa cd ce) (eval (.Call (.Name "super" p0) [] [] p1) (PySem.W.ksEnv d.qual scI Lc fa cd ce))
      standAt p2.atName
      let (f, first) ← holding [ov] (getMethod ov "__init__" pl)
      callWith p4 f first (backTo p4 (starEach [.Name "place" p3] (PySem.W.ksEnv d.qual scI Lc fa cd ce))) []))
    (hps : (d.params.posonlyargs ++ d.params.args).head? = some ar) (har : ar.arg = "self")
    (hbi : ∀ (kV doc pm : Value) (an : Option Addr) (cdv ct : Value) (cc : Addr) (us : List Value), us.length = 2 → bindArgs (PySem.W.ksFn "__init__" d.qual d.params d.body scI .none kV doc pm an cdv ct cc) ⟨us, []⟩ = pure ((["self", "place"] : List Str).zip us)) :
    XpC e d.x (He.ga e.K d.x) := by
  obtain ⟨b0, hb⟩ := He.ba hb
  obtain ⟨b1, hb⟩ := He.ba hb
  obtain ⟨b2, hb⟩ := He.ba hb
  obtain ⟨b3, hb⟩ := He.ba hb
  obtain ⟨b4, hb⟩ := He.ba hb
  obtain ⟨b5, hb⟩ := He.ba hb
  obtain ⟨b6, hb⟩ := He.ba hb
  obtain ⟨b7, hb⟩ := He.ba hb
  obtain ⟨b8, hb⟩ := He.ba hb
  obtain ⟨b9, hb⟩ := He.ba hb
  obtain ⟨b10, hb⟩ := He.ba hb
  obtain ⟨b11, b12⟩ := He.ba hb
  obtain ⟨oc, od, osl, kV, doc, pm, an, cda, ct, cc, ccl, cdd, vs, ccs, tf, cl, cld, csl, l1, l2, l3, l4, l5⟩ := xfB2_ok hv b0
  rw [hsc] at l1
  have T : OexC e.K (He.ga e.K d.x) := ⟨oexB_ok b1, He.eqO_ok b4, of_decide_eq_true b5, of_decide_eq_true b6, b7⟩
  refine ⟨T, ⟨_, _, He.eqO_ok b2, of_decide_eq_true b3, .all (hbi kV doc pm an (.ref cda) ct cc), fun k => ?_⟩, g, He.eqO_ok b12⟩
  exact xinit_ok l1 l2 hbd hev hps har l3 l4 hfile htop l5 T (of_decide_eq_true b8) (He.eqO_ok b9) (He.eqO_ok b10) (of_decide_eq_true b11) (He.eqO_ok b12) hms
/-! ### the Hook -/
structure SaysY (file : Str) (fa : List He.Fa) (fn : List He.DefD) (tf : List He.Defn) (fx : List XiD) (ex : PySem.W.Frag → Bool) (w : World) (h : Heap) (K : PySem.W.Frag) : Prop where
  x : He.SaysX fa fn [] tf ex w h K
  xv : fx.map (fun d => fnC K d.x) = fx.map XiD.val
  xb : (fx.all fun d => xiB file K d) = true
abbrev frY (n : Nat) (g : Addr → Option Obj) : PySem.W.Frag := He.frT g (He.asD g n ++ [cStatics])
abbrev AlY : Type := (He.AlT × Bool) × List FnC
def obsY (n : Nat) (file : Str) (fa : List He.Fa) (fn : List He.DefD) (tf : List He.Defn) (fx : List XiD) (ex : PySem.W.Frag → Bool) (g : Addr → Option Obj) : AlY :=
  ((He.obsT fa fn [] (frY n g), (ex (frY n g) && He.tabsB g tf (frY n g)) && fx.all fun d => xiB file (frY n g) d), fx.map fun d => fnC (frY n g) d.x)
def valY (fn : List He.DefD) (fx : List XiD) (w : World) : AlY := ((He.valT fn [] w, true), fx.map XiD.val)
theorem saysY_of {n : Nat} {file : Str} {fa : List He.Fa} {fn : List He.DefD} {tf : List He.Defn} {fx : List XiD} {ex : PySem.W.Frag → Bool} {w : World} {h : Heap} (e : obsY n file fa fn tf fx ex h.get? = valY fn fx w) : SaysY file fa fn tf fx ex w h (frY n h.get?) := by
  have e1 : He.obsT fa fn [] (frY n h.get?) = He.valT fn [] w := congrArg (fun z : AlY => z.1.1) e
  have e2 : ((ex (frY n h.get?) && He.tabsB h.get? tf (frY n h.get?)) && fx.all fun d => xiB file (frY n h.get?) d) = true := congrArg (fun z : AlY => z.1.2) e
  have e3 : (fx.map fun d => fnC (frY n h.get?) d.x) = fx.map XiD.val := congrArg (fun z : AlY => z.2) e
  obtain ⟨h0, h3⟩ := He.ba e2
  obtain ⟨h1, h2⟩ := He.ba h0
  have key : ∀ p ∈ tf, PySem.W.codeHdIn (frY n h.get?) (He.cT (frY n h.get?) p).1 (He.cT (frY n h.get?) p).2 = true ∧ ∃ o, h.get? (He.cT (frY n h.get?) p).2 = some o ∧ He.emptyTab o = true := fun p hp => by
    obtain ⟨h4, h5⟩ := He.ba (List.all_eq_true.mp h2 p hp)
    refine ⟨h4, ?_⟩
    cases q : h.get? (He.cT (frY n h.get?) p).2 with
    | none =>
      rw [q] at h5
      cases h5
    | some o =>
      rw [q] at h5
      exact ⟨o, rfl, h5⟩
  refine ⟨⟨e1, h1, fun p hp => (key p hp).1, fun p hp => ?_, fun p hp => ?_⟩, e3, h3⟩
  · obtain ⟨_, o, q, z⟩ := key p hp
    exact He.frT_none q z
  · obtain ⟨_, o, q, z⟩ := key p hp
    rw [q, He.emptyTab_eq z]
def hookY (n : Nat) (file : Str) (fa : List He.Fa) (fn : List He.DefD) (tf : List He.Defn) (fx : List XiD) (ex : PySem.W.Frag → Bool) : PySem.W.Hook where
  α := AlY
  obs := fun s => obsY n file fa fn tf fx ex s.heap.get?
  val := fun w => valY fn fx w
  says := fun w h => ∃ K : PySem.W.Frag, K.In h ∧ SaysY file fa fn tf fx ex w h K
  of := fun _ _ e => ⟨_, He.frT_in, saysY_of e⟩
  keeps := fun _ _ _ ⟨K, hK, c⟩ k => ⟨K, PySem.W.Frag.In.keeps hK k, ⟨⟨c.x.t, c.x.more, c.x.hd, c.x.out, fun p hp => k _ _ (c.x.empty p hp)⟩, c.xv, c.xb⟩⟩
theorem obsY_eq {n : Nat} {file : Str} {fa : List He.Fa} {fn : List He.DefD} {tf : List He.Defn} {fx : List XiD} {ex : PySem.W.Frag → Bool} {g : Addr → Option Obj} {s : Shared} (h : ∀ a, g a = s.heap.get? a) : obsY n file fa fn tf fx ex g = (hookY n file fa fn tf fx ex).obs s := by
  have e : g = s.heap.get? := funext h
  rw [e] <;> rfl
theorem SaysY.xi {file : Str} {fa : List He.Fa} {fn : List He.DefD} {tf : List He.Defn} {fx : List XiD} {ex : PySem.W.Frag → Bool} {w : World} {h : Heap} {K : PySem.W.Frag} (c : SaysY file fa fn tf fx ex w h K) (i : Nat) {d : XiD} (e : fx[i]? = some d := by rfl) : fnC K d.x = d.val ∧ xiB file K d = true := by
  refine ⟨?_, List.all_eq_true.mp c.xb d (List.mem_of_getElem? e)⟩
  have q : (fx.map fun d => fnC K d.x)[i]? = (fx.map XiD.val)[i]? := by rw [c.xv]
  rw [List.getElem?_map, List.getElem?_map, e] at q
  exact Option.some.inj q
theorem xf_of_exc {K : PySem.W.Frag} {C : Addr} (h : ExcC K C) : XfC K C := ⟨h.hg, h.hk, h.hs, h.hd⟩
end Dk

/-! Further rules: while, range from a to b, texts many times, wide division, defaults, defs that call themselves. -/
namespace Dk
open PySem PySem.Spec PyProof.Rows L2
/-! ### while -/
section
variable {c : TT} {tb : TS} {D : Ends} {σ : L2.St} {H : Hp}
def wlq (W : Nat → L2.St → Hp → Prop) (tb : TS) (D : Ends) (m : Nat) (σ : L2.St) (b : Bool) (H1 : Hp) : Prop := if b = true then ∃ N : L2.St → Hp → Prop, (∀ σ' H', N σ' H' → ∃ m', m' < m ∧ W m' σ' H') ∧ tb { D with nx := N, ct := N, bk := D.nx } σ H1 else D.nx σ H1
theorem r_while (W : Nat → L2.St → Hp → Prop) (n : Nat) (h0 : W n σ H) (turn : ∀ m σ' H', W m σ' H' → c σ' H' fun b H1 => wlq W tb D m σ' b H1) : tWhile c tb D σ H := ⟨W, ⟨n, h0⟩, turn⟩
theorem r_wlq {W : Nat → L2.St → Hp → Prop} {m : Nat} {p : Prop} [Decidable p] (h1 : p → tb (Ends.mk (fun s h => ∃ m', m' < m ∧ W m' s h) D.rt D.nx (fun s h => ∃ m', m' < m ∧ W m' s h)) σ H) (h2 : ¬ p → D.nx σ H) : wlq W tb D m σ (decide p) H := by
  unfold wlq
  by_cases h : p
  · rw [if_pos (decide_eq_true h)]
    exact ⟨_, fun _ _ z => z, h1 h⟩
  · rw [if_neg (by rw [decide_eq_false h]; exact Bool.false_ne_true)]
    exact h2 h
theorem r_wlqn {W : Nat → L2.St → Hp → Prop} {m : Nat} {p : Prop} [Decidable p] (h1 : ¬ p → tb (Ends.mk (fun s h => ∃ m', m' < m ∧ W m' s h) D.rt D.nx (fun s h => ∃ m', m' < m ∧ W m' s h)) σ H) (h2 : p → D.nx σ H) : wlq W tb D m σ (!decide p) H := by
  unfold wlq
  by_cases h : p
  · rw [if_neg (by rw [decide_eq_true h]; exact Bool.false_ne_true)]
    exact h2 h
  · rw [if_pos (by rw [decide_eq_false h] <;> rfl)]
    exact ⟨_, fun _ _ z => z, h1 h⟩
end
section
variable {p A B : Prop} [Decidable p]
theorem r_decT (h : p) (q : A) : if decide p = true then A else B := by
  rw [if_pos (decide_eq_true h)]
  exact q
theorem r_decF (h : ¬ p) (q : B) : if decide p = true then A else B := by
  rw [if_neg (by rw [decide_eq_false h]; exact Bool.false_ne_true)]
  exact q
theorem r_decnT (h : ¬ p) (q : A) : if (!decide p) = true then A else B := by
  rw [if_pos (by rw [decide_eq_false h] <;> rfl)]
  exact q
theorem r_decnF (h : p) (q : B) : if (!decide p) = true then A else B := by
  rw [if_neg (by rw [decide_eq_true h]; exact Bool.false_ne_true)]
  exact q
end
/-! ### for j in range(a, b) -/
section
variable {tA : TA} {g : TG} {tb : TS} {D : Ends} {σ : L2.St} {H : Hp} {j : Nat}
def rfq2 (xs : List V) (g : TG) (tb : TS) (D : Ends) (σ : L2.St) (H : Hp) : Prop := tFor (iRng2 fun _ H1 QA => QA xs H1) g tb D σ H
theorem r_forr2 (q : tA σ H fun xs H1 => rfq2 xs g tb D σ H1) : tFor (iRng2 tA) g tb D σ H := q
theorem for_rng2 {a b : Int} (Pv : Nat → L2.St → Hp → Prop) (h1 : -(2 ^ 62) ≤ a) (h2 : a < 2 ^ 62) (h3 : -(2 ^ 62) ≤ b) (h4 : b < 2 ^ 62) (h0 : Pv 0 σ H)
    (hs : ∀ (i : Nat) σ' H', a + (i : Int) < b → Pv i σ' H' → tb (Ends.mk (Pv (i + 1)) D.rt D.nx (Pv (i + 1))) (σ'.set j (some (.int (a + (i : Int))))) H') (hd : ∀ σ' H', Pv (b - a).toNat σ' H' → D.nx σ' H') : rfq2 [.int a, .int b] (gName j) tb D σ H := by
  refine ⟨a, b, rfl, ⟨h1, h2, h3, h4⟩, for_range (lo := a) (n := (b - a).toNat) Pv h0 (fun i σ' H' hi hp => hs i σ' H' (by omega) hp) hd⟩
end
/-! ### a text some times; a list, an int -/
section
variable {X : Cx} {K : PySem.W.Frag} {H : Hp} {Q : VK}
theorem op_mul_str : OpR X (binaryOp .Mult) (fun x y H Q => ∃ (z : Str) (n : Int), x = .str z ∧ y = .int n ∧ 0 < n ∧ n ≤ 1000 ∧ 0 < z.length ∧ z.length ≤ 1000 ∧ Q (.str (Txt.mul z n)) H) := by
  intro pins s σ H x y v u Q I rx ry ⟨z, n, ex, ey, n0, n1, z0, z1, q⟩
  subst ex ey
  obtain ⟨tz, rfl⟩ := rx
  obtain ⟨tn, rfl⟩ := ry
  refine SB.mul ⟨?_, fun h1 h2 => ?_, fun h1 h2 => ?_⟩ fun t' k => ⟨.str (Txt.mul z n), H, I.kept (t' := k) fun _ _ e => e, ⟨t', rfl⟩, q⟩
  · have a1 : ¬ n < -(2 ^ 63 : Int) := by omega
    have a2 : ¬ n ≥ 2 ^ 63 := by omega
    simp only [a1, a2, decide_false, Bool.or_false]
  · have a3 : (1000 : Int) ≤ (2 ^ 63 - 1) / n := by
      refine Int.le_ediv_of_mul_le n0 ?_
      omega
    omega
  · have a4 : z.length * n.toNat ≤ 1000 * 1000 := Nat.mul_le_mul z1 (by omega)
    unfold Builtin.Str.tooLong
    have := sizeLine_eq
    simp only [decide_eq_false_iff_not]
    omega
/-- a * b, texts too -/
def uMulS : R2 := fun x y H Q => match x, y with
  | .int i, .int j => CMul i j ∧ Q (.int (i * j)) H
  | .ref a, .int j => rRep (.ref a) (.int j) H Q
  | .str z, .int n => (0 < n ∧ n ≤ 1000) ∧ (0 < z.length ∧ z.length ≤ 1000) ∧ Q (.str (Txt.mul z n)) H
  | _, _ => False
theorem op_mulS : OpR X (binaryOp .Mult) uMulS := by
  refine opw (op_mulU.or op_mul_str) fun x y H Q h => ?_
  cases x <;> cases y <;> first
    | exact .inl h
    | exact .inr ⟨_, _, rfl, rfl, h.1.1, h.1.2, h.2.1.1, h.2.1.2, h.2.2⟩
    | exact False.elim h
theorem r_mulSI {n m : Int} (h : CMul n m) (q : Q (.int (n * m)) H) : uMulS (.int n) (.int m) H Q := ⟨h, q⟩
theorem r_mulSS {z : Str} {n : Int} (h : 0 < n ∧ n ≤ 1000) (h2 : 0 < z.length ∧ z.length ≤ 1000) (q : Q (.str (Txt.mul z n)) H) : uMulS (.str z) (.int n) H Q := ⟨h, h2, q⟩
theorem r_mulSL {a : Addr} {n : Int} {xs : List V} (ha : H a = some (.lst xs)) (h0 : -(2 ^ 63) ≤ n) (h1 : n < 2 ^ 63) (hl : xs.length * n.toNat ≤ sizeLine) (k : ∀ p H', H p = none → Same H H' → H' p = some (.lst (List.replicate n.toNat xs).flatten) → Q (.ref p) H') : uMulS (.ref a) (.int n) H Q :=
  r_mulL ha h0 h1 hl k
/-! a // b, wide -/
abbrev uDivW : R2 := uI CDivW fun i j => .int (i / j)
theorem op_divW : OpR X (binaryOp .FloorDiv) uDivW := uI_w op_fdivW
theorem cdivW {i j : Int} (h0 : 0 < j) (h1 : j < 2 ^ 80) : CDivW i j := by
  refine ⟨h0, ?_⟩
  have h2 : j.natAbs < 2 ^ 80 := by omega
  have h3 := (Nat.log2_lt (by omega)).mpr h2
  omega
theorem r_neB {n m : Bool} (q : Q (.bl (!decide (n = m))) H) : uNe K (.bl n) (.bl m) H Q := .inl ⟨rfl, by
  have e : decide (V.bl n = V.bl m) = decide (n = m) := by cases n <;> cases m <;> decide
  rw [e]
  exact q⟩
theorem r_eqBB {n m : Bool} (q : Q (.bl (decide (n = m))) H) : uEq K (.bl n) (.bl m) H Q := .inl ⟨rfl, by
  have e : decide (V.bl n = V.bl m) = decide (n = m) := by cases n <;> cases m <;> decide
  rw [e]
  exact q⟩
theorem r_ext {l b : Addr} {xs zs : List V} (h : H l = some (.lst xs)) (h2 : H b = some (.lst zs)) (hl : xs.length + zs.length ≤ sizeLine) (k : ∀ H', H' l = some (.lst (xs ++ zs)) → (∀ c, c ≠ l → H' c = H c) → Q .non H') : rExtend (.ref l) [.ref b] H Q :=
  ⟨l, b, xs, zs, rfl, rfl, h, h2, hl, k _ upd_same fun b hb => upd_ne hb⟩
/-- x >>= 7 -/
def ipShr : V → V → Hp → VK → Prop := fun x y H Q => ∃ i j : Int, x = .int i ∧ y = .int j ∧ 0 ≤ j ∧ Q (.int (i / 2 ^ j.toNat)) H
theorem ip_shrU : PIp X .RShift ipShr := by
  intro pins s σ H x y v u Q I r1 r2 h
  obtain ⟨i, j, e1, e2, h0, q⟩ := h
  exact iop_shr pins s σ H x y v u Q I r1 r2 ⟨i, j, e1, e2, h0, q⟩
theorem r_augShr {σ : L2.St} {D : Ends} {te : TE} {i : Nat} {n : Int} (h : σ[i]? = some (some (.int n))) (q : te σ H fun y H1 => iq y fun m => 0 ≤ m ∧ D.nx (σ.set i (some (.int (n / 2 ^ m.toNat)))) H1) : tAug i te ipShr D σ H := by
  refine ⟨_, h, ?_⟩
  have e : (fun y H1 => iq y fun m => 0 ≤ m ∧ D.nx (σ.set i (some (.int (n / 2 ^ m.toNat)))) H1) = fun y H1 => ipShr (.int n) y H1 fun z H2 => D.nx (σ.set i (some z)) H2 := by
    funext y H1
    refine propext ⟨fun ⟨m, e, h0, q⟩ => ⟨n, m, rfl, e, h0, q⟩, fun ⟨a, b, e1, e2, h0, q⟩ => ⟨b, e2, h0, ?_⟩⟩
    cases e1
    exact q
  rw [← e]
  exact q
def ordq (xs : List V) (H : Hp) (Q : VK) : Prop := ∃ x, xs = [.str x] ∧ x.length = 1 ∧ Q (.int (x.cps.getD 0 0 : Nat)) H
theorem call_ordU : CallR X (.builtin "ord") ordq := call_ord
theorem r_ord {c : Nat} (q : Q (.int (c : Nat)) H) : ordq [.str ⟨#[c]⟩] H Q := ⟨_, rfl, rfl, q⟩
/-! tuple(range(n)) -/
def rgq (b : Int) (H1 : Hp) (Q : VK) : Prop := RgOk 0 b ∧ ∀ q, H1 q = none → Q (.ref q) (upd H1 q (.tup (rgV 0 b)))
theorem r_tupRg {ta : TE} {σ : L2.St} (q : ta σ H fun x H1 => iq x fun n => rgq n H1 Q) : tTupRg (tRg1 ta) σ H Q := q
theorem r_rgq {n : Int} (h0 : 0 ≤ n) (h1 : n ≤ 1000000) (k : ∀ p H', H p = none → Same H H' → H' p = some (.tup (rgV 0 n)) → Q (.ref p) H') : rgq n H Q := ⟨RgOk.of_le (by decide) (by omega) (by decide) h0, r_new0 k⟩
end
/-! ### a def with defaults -/
structure CanD (e : Wd) (k : Nat) (x : Str) (ps : List Str) (dvs : List V) (sp : Sp) : Prop where
  can : Can e k x ps sp
  dfl : ∃ f fd, FnOk e.P e.w e.K e.mg e.base (L2.CX e.P e.w) k f fd ps sp ∧ e.mg x = some (.ref f) ∧ PySem.W.keepIn e.K (.ref f) = true ∧ ∃ ds, Vals dvs ds ∧ Binds e.K fd ps ds
def DefAtD (e : Wd) (x : Str) (st : Stmt) (dvs : List V) : Prop := ∃ f fd, FunD e.K x x (defArgs st) (defBody st) (defScope st) dvs [] f fd ∧ e.mg x = some (.ref f)
section
variable {e : Wd} {x : Str} {st : Stmt} {N ps : List Str} {k : Nat} {sp : Sp} {dvs : List V}
/-- all given; those with a default lacking -/
abbrev BindOkA (x : Str) (st : Stmt) (ps : List Str) (m : Nat) : Prop := ∀ (T : Addr) (kV doc pm : Value) (an : Option Addr) (cdv ct : Value) (us its : List Value), us.length = ps.length → its.length = m →
  ∃ k, bindArgs (PySem.W.fnOf x x (defArgs st) (defBody st) (defScope st) (.ref T) kV doc pm an cdv ct) ⟨us, []⟩ = seqItems? (.ref T) >>= k ∧ k (some its.toArray) = pure (ps.zip us)
abbrev BindOkD (x : Str) (st : Stmt) (ps : List Str) (n m : Nat) : Prop := ∀ (T : Addr) (kV doc pm : Value) (an : Option Addr) (cdv ct : Value) (us its : List Value), us.length = n → its.length = m →
  ∃ k, bindArgs (PySem.W.fnOf x x (defArgs st) (defBody st) (defScope st) (.ref T) kV doc pm an cdv ct) ⟨us, []⟩ = seqItems? (.ref T) >>= k ∧ k (some its.toArray) = pure (ps.zip (us ++ its))
theorem fnokD {f : Addr} {fd : FuncData} (F : FunD e.K x x (defArgs st) (defBody st) (defScope st) dvs [] f fd) (S : FnScope N ps (defScope st)) (len : ∀ vs H Q E, sp vs H Q E → vs.length = ps.length) (hb : BodyX e x st N k sp) : FnOk e.P e.w e.K e.mg e.base (L2.CX e.P e.w) (k + 1) f fd ps sp := by
  obtain ⟨oc, od, dV, kV, doc, pm, an, cdv, ct, osl, rfl, lk, hcd, _, _⟩ := F.ex
  exact fn_of lk hcd S len fun A outer s H vs Q E hr h => hb cdv f A outer s H vs Q E hr h (takes_of rfl rfl rfl rfl) (passes_of rfl)
theorem canXD_of {n : Nat} (D : DefAtD e x st dvs) (S : FnScope N ps (defScope st)) (B1 : BindOkA x st ps dvs.length) (B2 : BindOkD x st ps n dvs.length) (hd : dvs ≠ []) (hn : n + dvs.length = ps.length) (len : ∀ vs H Q E, sp vs H Q E → vs.length = ps.length) (hb : BodyX e x st N k sp) : CanD e (k + 1) x ps dvs sp := by
  obtain ⟨f, fd, F, m⟩ := D
  have ok := fnokD F S len hb
  obtain ⟨ds, hv, bd⟩ := F.binds1 (ps := ps) n 0 hd (by omega) (fun T kV doc pm an cdv ct us its h1 h2 => by
    obtain ⟨k, e1, e2⟩ := B2 T kV doc pm an cdv ct us its h1 h2
    exact ⟨k, e1, by rw [List.drop_zero]; exact e2⟩)
  rw [List.drop_zero] at hv
  obtain ⟨es, hv2, bd2⟩ := F.binds1 (ps := ps) ps.length dvs.length hd (by omega) (fun T kV doc pm an cdv ct us its h1 h2 => by
    obtain ⟨k, e1, e2⟩ := B1 T kV doc pm an cdv ct us its h1 h2
    refine ⟨k, e1, ?_⟩
    rw [List.drop_eq_nil_of_le (by omega), List.append_nil]
    exact e2)
  rw [List.drop_eq_nil_of_le (Nat.le_refl _)] at hv2
  cases hv2
  exact ⟨⟨f, fd, ok, m, F.kp, bd2⟩, f, fd, ok, m, F.kp, ds, hv, bd⟩
end
def tCallD (sp : Sp) (dvs : List V) (E : XK) (t : TA) : TE := fun σ H Q => t σ H fun vs H1 => sp (vs ++ dvs) H1 Q E
theorem pe_canD {X : Cx} {k : Nat} {x : Str} {ps : List Str} {dvs : List V} {sp : Sp} {E : XK} {p pos : Pos} {e : Expr} {es : List Expr} {t : TA} (c : CanD (wdOf X) k x ps dvs sp) (hr : Room k X.A) (hx : Passes (L2.CX X.prog X.w) X E) (ha : PA X (e :: es) t) (hg : Gl X x := by rfl)
    (hdb : (x == ("__debug__" : Str)) = false := by decide) (he : starEach (e :: es) X.env = (false, eval e X.env) :: starEach es X.env := by rfl) (hpl : (backTo pos (starEach es X.env)).any (·.1) = false := by rfl) : PE X (.Call (.Name x p) (e :: es) [] pos) (tCallD sp dvs E t) := by
  obtain ⟨_, f, fd, F, m, kp, ds, hv, b⟩ := c
  exact pe_call F hr hg m kp b hv hx ha hdb he hpl
/-- one argument given, one lacking -/
theorem r_callD1 {sp : Sp} {d : V} {E : XK} {ta : TE} {σ : L2.St} {H : Hp} {Q : VK} (q : ta σ H fun x H1 => sp [x, d] H1 Q E) : tCallD sp [d] E (tCons ta tNil) σ H Q := q
/-! ### a def that calls itself: a start -/
def spNo : Sp := fun _ _ _ _ => False
theorem can_no {e : Wd} {x : Str} {st : Stmt} {ps : List Str} {k : Nat} {sp : Sp} (D : DefAt e x st) (B : BindOk x st ps) (h : ∀ vs H Q E, ¬ sp vs H Q E) : Can e k x ps sp := by
  obtain ⟨f, fd, F, m⟩ := D
  exact ⟨f, fd, ⟨fun vs H Q E z => (h vs H Q E z).elim, fun A outer s H args us vs Q E hr e0 hb r z => (h vs H Q E z).elim⟩, m, F.kp, F.bindsN B⟩
end Dk

/-! Records: what pack writes, what unpack reads; plain Lean. -/
namespace Dk
open PySem PySem.Spec PyProof.Rows L2
/-! ### writing -/
def cntR (n : Nat) : List Int := if n < 128 then [(n : Int)] else ((128 + n % 128 : Nat) : Int) :: cntR (n / 128)
termination_by n
decreasing_by omega
theorem cntR_lt {n : Nat} (h : n < 128) : cntR n = [(n : Int)] := by
  rw [cntR, if_pos h]
theorem cntR_ge {n : Nat} (h : 128 ≤ n) : cntR n = ((128 + n % 128 : Nat) : Int) :: cntR (n / 128) := by
  rw [cntR, if_neg (by omega)]
theorem cntR_pos (n : Nat) : 0 < (cntR n).length := by
  by_cases h : n < 128
  · rw [cntR_lt h]
    exact Nat.one_pos
  · rw [cntR_ge (by omega)]
    exact Nat.succ_pos _
theorem cntR_len {k : Nat} : ∀ {n : Nat}, n < 2 ^ (7 * (k + 1)) → (cntR n).length ≤ k + 1 := by
  induction k with
  | zero =>
    intro n h
    rw [cntR_lt (by simpa using h)]
    exact Nat.le_refl 1
  | succ k ih =>
    intro n h
    by_cases h1 : n < 128
    · rw [cntR_lt h1]
      simp
    · rw [cntR_ge (by omega), List.length_cons]
      have h2 : n / 128 < 2 ^ (7 * (k + 1)) := by
        rw [Nat.div_lt_iff_lt_mul (by omega)]
        rw [show 7 * (k + 1 + 1) = 7 * (k + 1) + 7 by omega, Nat.pow_add] at h
        exact h
      have := ih h2
      omega
theorem cntR_byte (n : Nat) : ∀ g ∈ cntR n, 0 ≤ g ∧ g < 256 := by
  induction n using Nat.strongRecOn with
  | _ n ih =>
    by_cases h : n < 128
    · rw [cntR_lt h]
      intro g hg
      rw [List.mem_singleton.mp hg]
      omega
    · rw [cntR_ge (by omega)]
      intro g hg
      rcases List.mem_cons.mp hg with rfl | hg
      · omega
      · exact ih (n / 128) (by omega) g hg
/-- the codes of a text -/
def codesI (s : Str) : List Int := s.cps.toList.map fun c => ((c : Nat) : Int)
theorem codesI_len (s : Str) : (codesI s).length = s.length := by
  show (s.cps.toList.map _).length = s.cps.size
  simp
mutual
def recD : PyData → List Int
  | .none => [0]
  | .bool b => [if b then 2 else 1]
  | .int n => if 0 ≤ n then 3 :: cntR n.toNat else 4 :: cntR (-n - 1).toNat
  | .str s => 5 :: (cntR s.length ++ codesI s)
  | .tuple ds => 6 :: (cntR ds.length ++ recsD ds)
  | .list _ => []
  | .dict _ => []
def recsD : List PyData → List Int
  | [] => []
  | d :: ds => recD d ++ recsD ds
end
theorem recsD_app (xs ys : List PyData) : recsD (xs ++ ys) = recsD xs ++ recsD ys := by
  induction xs with
  | nil => simp [recsD]
  | cons x xs ih => simp [recsD, ih]
theorem recsD_snoc (xs : List PyData) (y : PyData) : recsD (xs ++ [y]) = recsD xs ++ recD y := by
  rw [recsD_app]
  simp [recsD]
theorem recsD_mem {d : PyData} : ∀ {ds : List PyData}, d ∈ ds → (recD d).length ≤ (recsD ds).length
  | [], h => by cases h
  | x :: xs, h => by
    rw [recsD, List.length_append]
    rcases List.mem_cons.mp h with rfl | h
    · omega
    · have := recsD_mem h
      omega
theorem recsD_take (ds : List PyData) (i : Nat) : (recsD (ds.take i)).length ≤ (recsD ds).length := by
  have h : recsD ds = recsD (ds.take i) ++ recsD (ds.drop i) := by rw [← recsD_app, List.take_append_drop]
  rw [h, List.length_append]
  omega
/-! ### what may be packed -/
def badC (c : Int) : Bool := decide (c < 32) || (decide (126 < c) || decide (c = 37))
mutual
def Pk : PyData → Prop
  | .none => True
  | .bool _ => True
  | .int _ => True
  | .str s => ∀ c ∈ codesI s, badC c = false
  | .tuple ds => Pks ds
  | .list _ => False
  | .dict _ => False
def Pks : List PyData → Prop
  | [] => True
  | d :: ds => Pk d ∧ Pks ds
end
theorem pks_mem {ds : List PyData} : Pks ds ↔ ∀ d ∈ ds, Pk d := by
  induction ds with
  | nil => simp [Pks]
  | cons d ds ih => simp [Pks, ih]
theorem depth_mem {d : PyData} : ∀ {ds : List PyData}, d ∈ ds → d.depth ≤ PyData.depthAll ds
  | [], h => by cases h
  | x :: xs, h => by
    rw [PyData.depthAll]
    rcases List.mem_cons.mp h with rfl | h
    · omega
    · have := depth_mem h
      omega
theorem badC_codes {c : Int} (h : badC c = false) : 32 ≤ c ∧ c ≤ 126 ∧ c ≠ 37 := by
  unfold badC at h
  simp only [Bool.or_eq_false_iff, decide_eq_false_iff_not] at h
  omega
theorem badC_mk {c : Int} (h : 32 ≤ c ∧ c ≤ 126 ∧ c ≠ 37) : badC c = false := by
  unfold badC
  simp only [Bool.or_eq_false_iff, decide_eq_false_iff_not]
  omega
mutual
theorem recD_byte : ∀ {d : PyData}, Pk d → ∀ g ∈ recD d, 0 ≤ g ∧ g < 256
  | .none, _ => by
    intro g hg
    rw [recD] at hg
    rw [List.mem_singleton.mp hg]
    omega
  | .bool b, _ => by
    intro g hg
    rw [recD] at hg
    rw [List.mem_singleton.mp hg]
    cases b <;> decide
  | .int n, _ => by
    intro g hg
    rw [recD] at hg
    split at hg
    all_goals
      rcases List.mem_cons.mp hg with rfl | hg
      · omega
      · exact cntR_byte _ g hg
  | .str s, h => by
    intro g hg
    rw [Pk] at h
    rw [recD] at hg
    rcases List.mem_cons.mp hg with rfl | hg
    · omega
    · rcases List.mem_append.mp hg with hg | hg
      · exact cntR_byte _ g hg
      · have := badC_codes (h g hg)
        omega
  | .tuple ds, h => by
    intro g hg
    rw [Pk] at h
    rw [recD] at hg
    rcases List.mem_cons.mp hg with rfl | hg
    · omega
    · rcases List.mem_append.mp hg with hg | hg
      · exact cntR_byte _ g hg
      · exact recsD_byte h g hg
  | .list _, h => by rw [Pk] at h; exact h.elim
  | .dict _, h => by rw [Pk] at h; exact h.elim
theorem recsD_byte : ∀ {ds : List PyData}, Pks ds → ∀ g ∈ recsD ds, 0 ≤ g ∧ g < 256
  | [], _ => by
    intro g hg
    rw [recsD] at hg
    cases hg
  | d :: ds, h => by
    intro g hg
    rw [Pks] at h
    rw [recsD] at hg
    rcases List.mem_append.mp hg with hg | hg
    · exact recD_byte h.1 g hg
    · exact recsD_byte h.2 g hg
end
theorem recD_pos {d : PyData} (h : Pk d) : 0 < (recD d).length := by
  cases d with
  | none => simp [recD]
  | bool b => simp [recD]
  | int n =>
    rw [recD]
    split <;> simp
  | str s => simp [recD]
  | tuple ds => simp [recD]
  | list _ => rw [Pk] at h; exact h.elim
  | dict _ => rw [Pk] at h; exact h.elim
/-! ### reading -/
inductive Rd (α : Type) where
  | ok (x : α) (q : Nat)
  | inc
  | bad (p : Nat)
def Rd.bind {α β : Type} (r : Rd α) (f : α → Nat → Rd β) : Rd β := match r with
  | .ok x q => f x q
  | .inc => .inc
  | .bad p => .bad p
def Rd.map {α β : Type} (f : α → β) (r : Rd α) : Rd β := r.bind fun x q => .ok (f x) q
def rdC : List Int → Nat → Nat → Nat → Rd Nat
  | [], _, _, _ => .inc
  | g :: r, i, sh, acc => if g < 128 then (if g = 0 ∧ 0 < sh then .bad i else .ok (acc + (g.toNat % 128) * 2 ^ sh) (i + 1)) else rdC r (i + 1) (sh + 7) (acc + (g.toNat % 128) * 2 ^ sh)
def rdCount (ns : List Int) (i : Nat) : Rd Nat := rdC (ns.drop i) i 0 0
def strOf (l : List Int) : Str := ⟨(l.map Int.toNat).toArray⟩
def rdStr (ns : List Int) (i : Nat) : Rd Str := (rdCount ns i).bind fun c p => match ((ns.drop p).take c).findIdx? badC with
  | some j => .bad (p + j)
  | none => if ns.length < p + c then .inc else .ok (strOf ((ns.drop p).take c)) (p + c)
def rdItems (f : Nat → Rd PyData) : Nat → Nat → Rd (List PyData)
  | 0, i => .ok [] i
  | c + 1, i => (f i).bind fun d p => (rdItems f c p).map (d :: ·)
def smallD (k : Int) : PyData := if k = 0 then .none else if k = 1 then .bool false else .bool true
def rdA (ns : List Int) : Nat → Nat → Rd PyData
  | 0, i => match ns[i]? with
    | none => .inc
    | some k => if 6 ≤ k then .bad i else if k = 3 then (rdCount ns (i + 1)).map fun c : Nat => .int c else if k = 4 then (rdCount ns (i + 1)).map fun c : Nat => .int (-(c : Int) - 1) else if k = 5 then (rdStr ns (i + 1)).map .str else .ok (smallD k) (i + 1)
  | d + 1, i => match ns[i]? with
    | none => .inc
    | some k => if 6 < k then .bad i else if k = 3 then (rdCount ns (i + 1)).map fun c : Nat => .int c else if k = 4 then (rdCount ns (i + 1)).map fun c : Nat => .int (-(c : Int) - 1) else if k = 5 then (rdStr ns (i + 1)).map .str else
      if k = 6 then (rdCount ns (i + 1)).bind fun c p => (rdItems (rdA ns d) c p).map .tuple else .ok (smallD k) (i + 1)
theorem Rd.map_ok {α β : Type} {f : α → β} {r : Rd α} {y : β} {q : Nat} (h : r.map f = .ok y q) : ∃ x, r = .ok x q ∧ f x = y := by
  cases r with
  | ok x q' =>
    simp only [Rd.map, Rd.bind, Rd.ok.injEq] at h
    exact ⟨x, by rw [h.2], h.1⟩
  | inc => cases h
  | bad p => cases h
theorem Rd.bind_ok {α β : Type} {f : α → Nat → Rd β} {r : Rd α} {y : β} {q : Nat} (h : r.bind f = .ok y q) : ∃ x p, r = .ok x p ∧ f x p = .ok y q := by
  cases r with
  | ok x p => exact ⟨x, p, rfl, h⟩
  | inc => cases h
  | bad p => cases h
theorem Rd.map_map {α β γ : Type} (f : α → β) (g : β → γ) (r : Rd α) : (r.map f).map g = r.map (g ∘ f) := by
  cases r <;> rfl
/-! counts -/
theorem rdC_le : ∀ {l : List Int} {i sh acc c q : Nat}, rdC l i sh acc = .ok c q → i < q ∧ q ≤ i + l.length
  | [], i, sh, acc, c, q, h => by cases h
  | g :: r, i, sh, acc, c, q, h => by
    rw [rdC] at h
    split at h
    · split at h
      · cases h
      · cases h
        rw [List.length_cons]
        omega
    · have := rdC_le h
      rw [List.length_cons]
      omega
theorem rdCount_le {ns : List Int} {i c q : Nat} (h : rdCount ns i = .ok c q) : i < q ∧ q ≤ ns.length := by
  have h1 := rdC_le h
  rw [List.length_drop] at h1
  omega
/-- a shorter beginning -/
theorem rdC_cut : ∀ {l e : List Int} {i sh acc c q : Nat}, rdC (l ++ e) i sh acc = .ok c q → rdC l i sh acc = if q ≤ i + l.length then .ok c q else .inc
  | [], e, i, sh, acc, c, q, h => by
    have h1 := (rdC_le h).1
    rw [rdC, if_neg]
    simp only [List.length_nil]
    omega
  | g :: r, e, i, sh, acc, c, q, h => by
    rw [List.cons_append, rdC] at h
    rw [rdC]
    by_cases h1 : g < 128
    · rw [if_pos h1] at h ⊢
      split at h
      · cases h
      · rename_i h2
        rw [if_neg h2]
        cases h
        rw [if_pos (by rw [List.length_cons]; omega)]
    · rw [if_neg h1] at h ⊢
      rw [rdC_cut h, List.length_cons]
      by_cases h2 : q ≤ i + 1 + r.length
      · rw [if_pos h2, if_pos (by omega)]
      · rw [if_neg h2, if_neg (by omega)]
theorem rdCount_cut {ns e : List Int} {i c q : Nat} (hi : i ≤ ns.length) (h : rdCount (ns ++ e) i = .ok c q) : rdCount ns i = if q ≤ ns.length then .ok c q else .inc := by
  unfold rdCount at h ⊢
  rw [List.drop_append_of_le_length hi] at h
  rw [rdC_cut h, List.length_drop]
  by_cases h2 : q ≤ ns.length
  · rw [if_pos h2, if_pos (by omega)]
  · rw [if_neg h2, if_neg (by omega)]
/-- what was written is read -/
theorem rdC_cnt (n : Nat) : ∀ (e : List Int) (i sh acc : Nat), (0 < sh → 0 < n) → rdC (cntR n ++ e) i sh acc = .ok (acc + n * 2 ^ sh) (i + (cntR n).length) := by
  induction n using Nat.strongRecOn with
  | _ n ih =>
    intro e i sh acc hz
    by_cases h : n < 128
    · rw [cntR_lt h]
      show rdC ((n : Int) :: e) i sh acc = _
      rw [rdC, if_pos (by omega), if_neg (by omega)]
      have e1 : (n : Int).toNat % 128 = n := by omega
      rw [e1] <;> rfl
    · rw [cntR_ge (by omega), List.cons_append, rdC, if_neg (by omega), ih (n / 128) (by omega) _ _ _ _ (by omega)]
      have e1 : (((128 + n % 128 : Nat) : Int)).toNat % 128 = n % 128 := by omega
      rw [e1, List.length_cons]
      have e2 : n % 128 * 2 ^ sh + n / 128 * 2 ^ (sh + 7) = n * 2 ^ sh := by
        rw [Nat.pow_add, Nat.mul_comm (2 ^ sh) (2 ^ 7), ← Nat.mul_assoc, ← Nat.add_mul]
        congr 1
        omega
      rw [Nat.add_assoc, e2]
      congr 1
      omega
theorem rdCount_cnt {pre e : List Int} {n : Nat} : rdCount (pre ++ (cntR n ++ e)) pre.length = .ok n (pre.length + (cntR n).length) := by
  unfold rdCount
  rw [List.drop_left, rdC_cnt n e pre.length 0 0 (by omega)]
  simp
/-- what was read is what is written -/
theorem rdC_back : ∀ {l : List Int} {i sh acc c q : Nat}, (∀ g ∈ l, 0 ≤ g ∧ g < 256) → rdC l i sh acc = .ok c q → ∃ m, c = acc + m * 2 ^ sh ∧ (0 < sh → 0 < m) ∧ l.take (q - i) = cntR m ∧ q = i + (cntR m).length
  | [], i, sh, acc, c, q, _, h => by cases h
  | g :: r, i, sh, acc, c, q, hb, h => by
    have hg := hb g List.mem_cons_self
    rw [rdC] at h
    split at h
    · rename_i h1
      split at h
      · cases h
      · rename_i h2
        cases h
        refine ⟨g.toNat, ?_, by omega, ?_, ?_⟩
        · rw [Nat.mod_eq_of_lt (by omega)]
        · rw [cntR_lt (by omega), show i + 1 - i = 1 by omega]
          simp only [List.take_succ_cons, List.take_zero]
          congr 1
          omega
        · rw [cntR_lt (by omega)] <;> rfl
    · rename_i h1
      obtain ⟨m, e1, e2, e3, e4⟩ := rdC_back (fun x hx => hb x (List.mem_cons_of_mem _ hx)) h
      have mp := e2 (by omega)
      refine ⟨g.toNat % 128 + m * 128, ?_, by omega, ?_, ?_⟩
      · rw [e1, Nat.add_mul, Nat.add_assoc]
        congr 2
        rw [Nat.pow_add, Nat.mul_comm (2 ^ sh) (2 ^ 7), ← Nat.mul_assoc]
      · rw [cntR_ge (by omega)]
        have e5 : (g.toNat % 128 + m * 128) / 128 = m := by omega
        have e6 : (((128 + (g.toNat % 128 + m * 128) % 128 : Nat)) : Int) = g := by omega
        rw [e5, e6, ← e3, show q - i = (q - (i + 1)) + 1 by have := cntR_pos m; omega]
        rfl
      · rw [cntR_ge (by omega), List.length_cons]
        have e5 : (g.toNat % 128 + m * 128) / 128 = m := by omega
        rw [e5]
        omega
theorem rdCount_back {ns : List Int} {i c q : Nat} (hb : ∀ g ∈ ns, 0 ≤ g ∧ g < 256) (h : rdCount ns i = .ok c q) : (ns.drop i).take (q - i) = cntR c ∧ q = i + (cntR c).length := by
  obtain ⟨m, e1, _, e3, e4⟩ := rdC_back (fun g hg => hb g (List.mem_of_mem_drop hg)) h
  have : c = m := by omega
  subst this
  exact ⟨e3, e4⟩
/-! texts -/
theorem strOf_codes (s : Str) : strOf (codesI s) = s := by
  unfold strOf codesI
  rw [List.map_map]
  have e : (Int.toNat ∘ fun c : Nat => ((c : Nat) : Int)) = id := by
    funext c
    simp
  rw [e, List.map_id, Array.toArray_toList]
theorem codes_strOf {l : List Int} (h : ∀ g ∈ l, 0 ≤ g) : codesI (strOf l) = l := by
  unfold strOf codesI
  simp only [List.map_map]
  conv => rhs; rw [← List.map_id l]
  refine List.map_congr_left fun g hg => ?_
  have := h g hg
  simp
  omega
theorem strOf_len (l : List Int) : (strOf l).length = l.length := by
  show ((l.map Int.toNat).toArray).size = l.length
  simp
theorem fi_none {l : List Int} : l.findIdx? badC = none ↔ ∀ c ∈ l, badC c = false := by
  rw [List.findIdx?_eq_none_iff]
theorem fi_take {l : List Int} {n : Nat} (h : l.findIdx? badC = none) : (l.take n).findIdx? badC = none := fi_none.mpr fun c hc => fi_none.mp h c (List.mem_of_mem_take hc)
theorem rdStr_ok {ns : List Int} {i q : Nat} {s : Str} (h : rdStr ns i = .ok s q) : ∃ c p, rdCount ns i = .ok c p ∧ p + c ≤ ns.length ∧ q = p + c ∧ s = strOf ((ns.drop p).take c) ∧ ∀ g ∈ (ns.drop p).take c, badC g = false := by
  obtain ⟨c, p, h1, h2⟩ := Rd.bind_ok h
  split at h2
  · cases h2
  · rename_i hf
    split at h2
    · cases h2
    · rename_i h3
      cases h2
      exact ⟨c, p, h1, by omega, rfl, rfl, fi_none.mp hf⟩
theorem rdStr_cut {ns e : List Int} {i q : Nat} {s : Str} (hi : i ≤ ns.length) (h : rdStr (ns ++ e) i = .ok s q) : rdStr ns i = if q ≤ ns.length then .ok s q else .inc := by
  obtain ⟨c, p, h1, h2, rfl, rfl, h3⟩ := rdStr_ok h
  unfold rdStr
  rw [rdCount_cut hi h1]
  by_cases hp : p ≤ ns.length
  · rw [if_pos hp]
    have e1 : ((ns ++ e).drop p).take c = ((ns.drop p).take c) ++ (e.take (c - (ns.length - p))) := by
      rw [List.drop_append_of_le_length hp, List.take_append, List.length_drop]
    have h4 : ((ns.drop p).take c).findIdx? badC = none := fi_none.mpr fun g hg => h3 g (by rw [e1]; exact List.mem_append_left _ hg)
    show (match ((ns.drop p).take c).findIdx? badC with | some j => Rd.bad (p + j) | none => if ns.length < p + c then Rd.inc else Rd.ok (strOf ((ns.drop p).take c)) (p + c)) = _
    rw [h4]
    by_cases hq : p + c ≤ ns.length
    · rw [if_pos hq]
      show (if ns.length < p + c then Rd.inc else Rd.ok (strOf ((ns.drop p).take c)) (p + c)) = _
      rw [if_neg (by omega), e1, show c - (ns.length - p) = 0 by omega, List.take_zero, List.append_nil]
    · rw [if_neg hq]
      show (if ns.length < p + c then Rd.inc else Rd.ok (strOf ((ns.drop p).take c)) (p + c)) = _
      rw [if_pos (by omega)]
  · rw [if_neg hp, if_neg (by omega)]
    rfl
theorem rdStr_str {pre e : List Int} {s : Str} (h : ∀ c ∈ codesI s, badC c = false) : rdStr (pre ++ (cntR s.length ++ codesI s ++ e)) pre.length = .ok s (pre.length + (cntR s.length ++ codesI s).length) := by
  unfold rdStr
  rw [List.append_assoc, rdCount_cnt]
  have e1 : ((pre ++ (cntR s.length ++ (codesI s ++ e))).drop (pre.length + (cntR s.length).length)).take s.length = codesI s := by
    rw [← List.append_assoc, ← List.length_append, List.drop_left, List.take_append_of_le_length (by rw [codesI_len]; exact Nat.le_refl _), List.take_of_length_le (by rw [codesI_len]; exact Nat.le_refl _)]
  show (match ((pre ++ (cntR s.length ++ (codesI s ++ e))).drop (pre.length + (cntR s.length).length)).take s.length |>.findIdx? badC with | some j => Rd.bad (pre.length + (cntR s.length).length + j) | none => if (pre ++ (cntR s.length ++ (codesI s ++ e))).length < pre.length + (cntR s.length).length + s.length then Rd.inc else Rd.ok (strOf (((pre ++ (cntR s.length ++ (codesI s ++ e))).drop (pre.length + (cntR s.length).length)).take s.length)) (pre.length + (cntR s.length).length + s.length)) = _
  rw [e1, fi_none.mpr h]
  show (if (pre ++ (cntR s.length ++ (codesI s ++ e))).length < pre.length + (cntR s.length).length + s.length then Rd.inc else Rd.ok (strOf (codesI s)) (pre.length + (cntR s.length).length + s.length)) = _
  rw [if_neg (by simp only [List.length_append, codesI_len]; omega), strOf_codes]
  congr 1
  simp only [List.length_append, codesI_len]
  omega
theorem rdStr_back {ns : List Int} {i q : Nat} {s : Str} (hb : ∀ g ∈ ns, 0 ≤ g ∧ g < 256) (h : rdStr ns i = .ok s q) : (ns.drop i).take (q - i) = cntR s.length ++ codesI s ∧ i < q ∧ q ≤ ns.length ∧ ∀ c ∈ codesI s, badC c = false := by
  obtain ⟨c, p, h1, h2, rfl, rfl, h3⟩ := rdStr_ok h
  obtain ⟨b1, b2⟩ := rdCount_back hb h1
  have e1 : codesI (strOf ((ns.drop p).take c)) = (ns.drop p).take c := codes_strOf fun g hg => (hb g (List.mem_of_mem_drop (List.mem_of_mem_take hg))).1
  have e2 : (strOf ((ns.drop p).take c)).length = c := by rw [strOf_len, List.length_take, List.length_drop]; omega
  have cp := cntR_pos c
  refine ⟨?_, by omega, h2, by rw [e1]; exact h3⟩
  rw [e2, e1, ← b1, show p + c - i = (p - i) + c by omega, List.take_add, List.drop_drop, show i + (p - i) = p by omega]
/-! values -/
theorem rdItems_le {f : Nat → Rd PyData} (hf : ∀ i d q, f i = .ok d q → i < q) : ∀ {c i : Nat} {ds : List PyData} {q : Nat}, rdItems f c i = .ok ds q → i ≤ q ∧ ds.length = c
  | 0, i, ds, q, h => by
    cases h
    exact ⟨Nat.le_refl _, rfl⟩
  | c + 1, i, ds, q, h => by
    obtain ⟨d, p, h1, h2⟩ := Rd.bind_ok h
    obtain ⟨es, h3, rfl⟩ := Rd.map_ok h2
    obtain ⟨h4, h5⟩ := rdItems_le hf h3
    have := hf _ _ _ h1
    exact ⟨by omega, by rw [List.length_cons, h5]⟩
theorem get_lt {ns : List Int} {i : Nat} {k : Int} (h : ns[i]? = some k) : i < ns.length := (List.getElem?_eq_some_iff.mp h).1
theorem rdA_le (ns : List Int) : ∀ (dep i : Nat) (d : PyData) (q : Nat), rdA ns dep i = .ok d q → i < q
  | 0, i, d, q, h => by
    rw [rdA] at h
    split at h
    · cases h
    · split at h
      · cases h
      · split at h
        · obtain ⟨x, h1, _⟩ := Rd.map_ok h
          have := (rdCount_le h1).1
          omega
        · split at h
          · obtain ⟨x, h1, _⟩ := Rd.map_ok h
            have := (rdCount_le h1).1
            omega
          · split at h
            · obtain ⟨x, h1, _⟩ := Rd.map_ok h
              obtain ⟨c, p, h2, h3, h4, _⟩ := rdStr_ok h1
              have := (rdCount_le h2).1
              omega
            · cases h
              exact Nat.lt_succ_self _
  | dep + 1, i, d, q, h => by
    rw [rdA] at h
    split at h
    · cases h
    · split at h
      · cases h
      · split at h
        · obtain ⟨x, h1, _⟩ := Rd.map_ok h
          have := (rdCount_le h1).1
          omega
        · split at h
          · obtain ⟨x, h1, _⟩ := Rd.map_ok h
            have := (rdCount_le h1).1
            omega
          · split at h
            · obtain ⟨x, h1, _⟩ := Rd.map_ok h
              obtain ⟨c, p, h2, h3, h4, _⟩ := rdStr_ok h1
              have := (rdCount_le h2).1
              omega
            · split at h
              · obtain ⟨c, p, h1, h2⟩ := Rd.bind_ok h
                obtain ⟨x, h3, _⟩ := Rd.map_ok h2
                have := (rdCount_le h1).1
                have := (rdItems_le (rdA_le ns dep) h3).1
                omega
              · cases h
                exact Nat.lt_succ_self _
theorem map_cut {α β : Type} {f : α → β} {r : Rd α} {r' : Rd α} {y : β} {q n : Nat} (h : r.map f = .ok y q) (k : ∀ x, r = .ok x q → r' = if q ≤ n then .ok x q else .inc) : r'.map f = if q ≤ n then .ok y q else .inc := by
  obtain ⟨x, h1, rfl⟩ := Rd.map_ok h
  rw [k x h1]
  by_cases hq : q ≤ n
  · rw [if_pos hq, if_pos hq] <;> rfl
  · rw [if_neg hq, if_neg hq] <;> rfl
theorem rdItems_cut {f g : Nat → Rd PyData} {n : Nat} (hf : ∀ i d q, f i = .ok d q → i < q) (hc : ∀ i d q, i ≤ n → f i = .ok d q → g i = if q ≤ n then .ok d q else .inc) :
    ∀ {c i : Nat} {ds : List PyData} {q : Nat}, i ≤ n → rdItems f c i = .ok ds q → rdItems g c i = if q ≤ n then .ok ds q else .inc
  | 0, i, ds, q, hi, h => by
    cases h
    rw [if_pos hi] <;> rfl
  | c + 1, i, ds, q, hi, h => by
    obtain ⟨d, p, h1, h2⟩ := Rd.bind_ok h
    rw [rdItems, hc i d p hi h1]
    by_cases hp : p ≤ n
    · rw [if_pos hp]
      exact map_cut h2 fun x hx => rdItems_cut hf hc hp hx
    · obtain ⟨es, h3, _⟩ := Rd.map_ok h2
      have := (rdItems_le hf h3).1
      rw [if_neg hp, if_neg (by omega)] <;> rfl
theorem rdA_cut {ns e : List Int} : ∀ {dep i : Nat} {d : PyData} {q : Nat}, i ≤ ns.length → rdA (ns ++ e) dep i = .ok d q → rdA ns dep i = if q ≤ ns.length then .ok d q else .inc := by
  intro dep
  induction dep with
  | zero =>
    intro i d q hi h
    by_cases hl : i < ns.length
    · have e1 : (ns ++ e)[i]? = ns[i]? := List.getElem?_append_left hl
      rw [rdA, e1] at h
      rw [rdA]
      split at h
      · cases h
      · rename_i k hk
        split at h
        · cases h
        · rename_i h6
          rw [if_neg h6]
          split at h
          · rename_i h3
            rw [if_pos h3]
            exact map_cut h fun x hx => rdCount_cut (by omega) hx
          · rename_i h3
            rw [if_neg h3]
            split at h
            · rename_i h4
              rw [if_pos h4]
              exact map_cut h fun x hx => rdCount_cut (by omega) hx
            · rename_i h4
              rw [if_neg h4]
              split at h
              · rename_i h5
                rw [if_pos h5]
                exact map_cut h fun x hx => rdStr_cut (by omega) hx
              · rename_i h5
                rw [if_neg h5]
                cases h
                rw [if_pos (by omega)]
    · have e0 : ns[i]? = none := List.getElem?_eq_none (by omega)
      have := rdA_le _ _ _ _ _ h
      rw [rdA, e0, if_neg (by omega)]
  | succ dep ih =>
    intro i d q hi h
    by_cases hl : i < ns.length
    · have e1 : (ns ++ e)[i]? = ns[i]? := List.getElem?_append_left hl
      rw [rdA, e1] at h
      rw [rdA]
      split at h
      · cases h
      · rename_i k hk
        split at h
        · cases h
        · rename_i h7
          rw [if_neg h7]
          split at h
          · rename_i h3
            rw [if_pos h3]
            exact map_cut h fun x hx => rdCount_cut (by omega) hx
          · rename_i h3
            rw [if_neg h3]
            split at h
            · rename_i h4
              rw [if_pos h4]
              exact map_cut h fun x hx => rdCount_cut (by omega) hx
            · rename_i h4
              rw [if_neg h4]
              split at h
              · rename_i h5
                rw [if_pos h5]
                exact map_cut h fun x hx => rdStr_cut (by omega) hx
              · rename_i h5
                rw [if_neg h5]
                split at h
                · rename_i h6
                  rw [if_pos h6]
                  obtain ⟨c, p, h1, h2⟩ := Rd.bind_ok h
                  rw [rdCount_cut (by omega) h1]
                  by_cases hp : p ≤ ns.length
                  · rw [if_pos hp]
                    exact map_cut h2 fun x hx => rdItems_cut (rdA_le _ _) (fun i d q hi h => ih hi h) hp hx
                  · obtain ⟨x, h8, _⟩ := Rd.map_ok h2
                    have := (rdItems_le (rdA_le _ _) h8).1
                    rw [if_neg hp, if_neg (by omega)] <;> rfl
                · rename_i h6
                  rw [if_neg h6]
                  cases h
                  rw [if_pos (by omega)]
    · have e0 : ns[i]? = none := List.getElem?_eq_none (by omega)
      have := rdA_le _ _ _ _ _ h
      rw [rdA, e0, if_neg (by omega)]
/-- the first byte -/
theorem at_pre {pre r : List Int} {k : Int} : (pre ++ k :: r)[pre.length]? = some k := by simp
theorem pre_snoc {pre r : List Int} {k : Int} : pre ++ k :: r = (pre ++ [k]) ++ r := by simp
theorem rdCount_pre {pre r : List Int} {k : Int} {n : Nat} : rdCount (pre ++ k :: (cntR n ++ r)) (pre.length + 1) = .ok n (pre.length + 1 + (cntR n).length) := by
  have h := rdCount_cnt (pre := pre ++ [k]) (e := r) (n := n)
  rw [List.length_append] at h
  rw [pre_snoc]
  exact h
theorem rdItems_rec {ns : List Int} {dep : Nat} (hr : ∀ (d : PyData) (pre e : List Int), Pk d → d.depth ≤ dep → ns = pre ++ (recD d ++ e) → rdA ns dep pre.length = .ok d (pre.length + (recD d).length)) :
    ∀ {ds : List PyData} {pre e : List Int}, Pks ds → PyData.depthAll ds ≤ dep → ns = pre ++ (recsD ds ++ e) → rdItems (rdA ns dep) ds.length pre.length = .ok ds (pre.length + (recsD ds).length)
  | [], pre, e, _, _, _ => by
    simp [rdItems, recsD]
  | d :: ds, pre, e, hp, hd, hn => by
    rw [Pks] at hp
    rw [PyData.depthAll] at hd
    rw [recsD, List.append_assoc] at hn
    rw [List.length_cons, rdItems, hr d pre (recsD ds ++ e) hp.1 (by omega) hn]
    show (rdItems (rdA ns dep) ds.length (pre.length + (recD d).length)).map (d :: ·) = _
    have h := rdItems_rec hr (ds := ds) (pre := pre ++ recD d) (e := e) hp.2 (by omega) (by rw [List.append_assoc]; exact hn)
    rw [List.length_append] at h
    rw [h, recsD, List.length_append, ← Nat.add_assoc] <;> rfl
theorem rdA_small {ns : List Int} {dep i : Nat} {k : Int} (h : ns[i]? = some k) (h0 : 0 ≤ k) (h1 : k < 3) : rdA ns dep i = .ok (smallD k) (i + 1) := by
  cases dep with
  | zero =>
    rw [rdA, h]
    show (if 6 ≤ k then _ else _) = _
    rw [if_neg (by omega), if_neg (by omega), if_neg (by omega), if_neg (by omega)]
  | succ dep =>
    rw [rdA, h]
    show (if 6 < k then _ else _) = _
    rw [if_neg (by omega), if_neg (by omega), if_neg (by omega), if_neg (by omega), if_neg (by omega)]
theorem rdA_nat {ns : List Int} {dep i : Nat} (h : ns[i]? = some 3) : rdA ns dep i = (rdCount ns (i + 1)).map fun c : Nat => .int c := by
  cases dep <;> (rw [rdA, h] <;> rfl)
theorem rdA_neg {ns : List Int} {dep i : Nat} (h : ns[i]? = some 4) : rdA ns dep i = (rdCount ns (i + 1)).map fun c : Nat => .int (-(c : Int) - 1) := by
  cases dep <;> (rw [rdA, h] <;> rfl)
theorem rdA_str {ns : List Int} {dep i : Nat} (h : ns[i]? = some 5) : rdA ns dep i = (rdStr ns (i + 1)).map .str := by
  cases dep <;> (rw [rdA, h] <;> rfl)
theorem rdA_tup {ns : List Int} {dep i : Nat} (h : ns[i]? = some 6) : rdA ns (dep + 1) i = (rdCount ns (i + 1)).bind fun c p => (rdItems (rdA ns dep) c p).map .tuple := by
  rw [rdA, h] <;> rfl
theorem rdA_rec : ∀ {dep : Nat} {d : PyData} {pre e : List Int}, Pk d → d.depth ≤ dep → rdA (pre ++ (recD d ++ e)) dep pre.length = .ok d (pre.length + (recD d).length) := by
  intro dep
  induction dep with
  | zero =>
    intro d pre e hp hd
    cases d with
    | none => exact rdA_small (k := 0) (by rw [recD]; exact at_pre) (by decide) (by decide)
    | bool b =>
      cases b
      · exact rdA_small (k := 1) (by rw [recD]; exact at_pre) (by decide) (by decide)
      · exact rdA_small (k := 2) (by rw [recD]; exact at_pre) (by decide) (by decide)
    | int n =>
      rw [recD]
      split
      · rename_i h
        rw [List.cons_append, rdA_nat at_pre, rdCount_pre]
        show Rd.ok (PyData.int ((n.toNat : Nat) : Int)) _ = _
        rw [show ((n.toNat : Nat) : Int) = n by omega, List.length_cons]
        congr 1
        omega
      · rename_i h
        rw [List.cons_append, rdA_neg at_pre, rdCount_pre]
        show Rd.ok (PyData.int (-(((-n - 1).toNat : Nat) : Int) - 1)) _ = _
        rw [show -(((-n - 1).toNat : Nat) : Int) - 1 = n by omega, List.length_cons]
        congr 1
        omega
    | str s =>
      rw [Pk] at hp
      rw [recD, List.cons_append, rdA_str at_pre]
      have h := rdStr_str (pre := pre ++ [5]) (e := e) hp
      rw [List.length_append] at h
      rw [pre_snoc]
      show (rdStr _ (pre.length + [(5 : Int)].length)).map _ = _
      rw [h, List.length_cons]
      show Rd.ok _ _ = _
      congr 1
      simp only [List.length_cons, List.length_nil]
      omega
    | tuple ds =>
      rw [PyData.depth] at hd
      omega
    | list _ => rw [Pk] at hp; exact hp.elim
    | dict _ => rw [Pk] at hp; exact hp.elim
  | succ dep ih =>
    intro d pre e hp hd
    cases d with
    | none => exact rdA_small (k := 0) (by rw [recD]; exact at_pre) (by decide) (by decide)
    | bool b =>
      cases b
      · exact rdA_small (k := 1) (by rw [recD]; exact at_pre) (by decide) (by decide)
      · exact rdA_small (k := 2) (by rw [recD]; exact at_pre) (by decide) (by decide)
    | int n =>
      rw [recD]
      split
      · rename_i h
        rw [List.cons_append, rdA_nat at_pre, rdCount_pre]
        show Rd.ok (PyData.int ((n.toNat : Nat) : Int)) _ = _
        rw [show ((n.toNat : Nat) : Int) = n by omega, List.length_cons]
        congr 1
        omega
      · rename_i h
        rw [List.cons_append, rdA_neg at_pre, rdCount_pre]
        show Rd.ok (PyData.int (-(((-n - 1).toNat : Nat) : Int) - 1)) _ = _
        rw [show -(((-n - 1).toNat : Nat) : Int) - 1 = n by omega, List.length_cons]
        congr 1
        omega
    | str s =>
      rw [Pk] at hp
      rw [recD, List.cons_append, rdA_str at_pre]
      have h := rdStr_str (pre := pre ++ [5]) (e := e) hp
      rw [List.length_append] at h
      rw [pre_snoc]
      show (rdStr _ (pre.length + [(5 : Int)].length)).map _ = _
      rw [h, List.length_cons]
      show Rd.ok _ _ = _
      congr 1
      simp only [List.length_cons, List.length_nil]
      omega
    | tuple ds =>
      rw [Pk] at hp
      rw [PyData.depth] at hd
      rw [recD, List.cons_append, rdA_tup at_pre, List.append_assoc, rdCount_pre]
      show (rdItems (rdA _ dep) ds.length (pre.length + 1 + (cntR ds.length).length)).map _ = _
      have e1 : pre ++ 6 :: (cntR ds.length ++ (recsD ds ++ e)) = (pre ++ [6] ++ cntR ds.length) ++ (recsD ds ++ e) := by simp
      have h := rdItems_rec (ns := (pre ++ [6] ++ cntR ds.length) ++ (recsD ds ++ e)) (dep := dep) (fun d pre2 e2 hp2 hd2 hn => by rw [hn]; exact ih hp2 hd2) (ds := ds) (pre := pre ++ [6] ++ cntR ds.length) (e := e) hp (by omega) rfl
      rw [List.length_append, List.length_append] at h
      rw [e1]
      show (rdItems (rdA _ dep) ds.length (pre.length + [(6 : Int)].length + (cntR ds.length).length)).map _ = _
      rw [h]
      show Rd.ok _ _ = _
      congr 1
      simp only [List.length_cons, List.length_nil, List.length_append]
      omega
    | list _ => rw [Pk] at hp; exact hp.elim
    | dict _ => rw [Pk] at hp; exact hp.elim
/-- a beginning of a record -/
theorem rdA_part {dep k : Nat} {d : PyData} {pre : List Int} (hp : Pk d) (hd : d.depth ≤ dep) (hk : k < (recD d).length) : rdA (pre ++ (recD d).take k) dep pre.length = .inc := by
  have h := rdA_rec (pre := pre) (e := []) hp hd
  have e1 : pre ++ (recD d ++ []) = (pre ++ (recD d).take k) ++ (recD d).drop k := by rw [List.append_nil, List.append_assoc, List.take_append_drop]
  rw [e1] at h
  rw [rdA_cut (by rw [List.length_append]; omega) h, if_neg]
  rw [List.length_append, List.length_take]
  omega
/-! what the defs' own arithmetic gives -/
theorem and127 (n : Nat) : Builtin.bitAnd (n : Int) 127 = ((n % 128 : Nat) : Int) := by
  unfold Builtin.bitAnd
  rw [show decide ((0 : Int) ≤ (n : Int)) = true from decide_eq_true (by omega), show decide ((0 : Int) ≤ 127) = true by decide]
  show (((n : Int).toNat &&& (127 : Int).toNat : Nat) : Int) = _
  rw [show (n : Int).toNat = n by omega, show (127 : Int).toNat = 2 ^ 7 - 1 by decide, Nat.and_two_pow_sub_one_eq_mod]
theorem and127I {g : Int} (h : 0 ≤ g) : Builtin.bitAnd g 127 = ((g.toNat % 128 : Nat) : Int) := by
  have := and127 g.toNat
  rw [show ((g.toNat : Nat) : Int) = g by omega] at this
  exact this
theorem shr7 (n : Nat) : (n : Int) / 2 ^ (7 : Int).toNat = ((n / 128 : Nat) : Int) := by
  rw [show (7 : Int).toNat = 7 by decide]
  omega
theorem rdA_ub {ns : List Int} {dep i : Nat} {d : PyData} {q : Nat} (hi : i ≤ ns.length) (h : rdA ns dep i = .ok d q) : q ≤ ns.length := by
  have h2 := rdA_cut (e := []) hi (by rw [List.append_nil]; exact h)
  rw [h] at h2
  by_cases hq : q ≤ ns.length
  · exact hq
  · rw [if_neg hq] at h2
    cases h2
theorem Rd.map_id' {α : Type} {f : α → α} (hf : ∀ x, f x = x) (r : Rd α) : r.map f = r := by
  cases r with
  | ok x q =>
    show Rd.ok (f x) q = _
    rw [hf]
  | inc => rfl
  | bad j => rfl
theorem rdItems_ok {f : Nat → Rd PyData} {k q p : Nat} {ds : List PyData} {d : PyData} (h : f q = .ok d p) : (rdItems f (k + 1) q).map (ds ++ ·) = (rdItems f k p).map ((ds ++ [d]) ++ ·) := by
  rw [rdItems, h]
  show ((rdItems f k p).map (d :: ·)).map (ds ++ ·) = _
  rw [Rd.map_map]
  congr 1
  funext x
  simp
theorem rdItems_inc {f : Nat → Rd PyData} {k q : Nat} {ds : List PyData} (h : f q = .inc) : (rdItems f (k + 1) q).map (ds ++ ·) = .inc := by
  rw [rdItems, h] <;> rfl
theorem rdItems_bad {f : Nat → Rd PyData} {k q j : Nat} {ds : List PyData} (h : f q = .bad j) : (rdItems f (k + 1) q).map (ds ++ ·) = .bad j := by
  rw [rdItems, h] <;> rfl
end Dk

/-! What the reading defs promise. -/
namespace Dk
open PySem PySem.Spec PyProof.Rows L2
structure ByN (ns : List Int) : Prop where
  len : ns.length ≤ 140000
  byt : ∀ g ∈ ns, 0 ≤ g ∧ g < 256
def ansR (K : PySem.W.Frag) (H : Hp) (Q : VK) (E : XK) (n : Nat) {α : Type} (W : Hp → V → α → Prop) (r : Rd α) : Prop := match r with
  | .ok x q => ∀ p v H', H p = none → Same H H' → H' p = some (.tup [v, .int q]) → W H' v x → Q (.ref p) H'
  | .inc => ∀ dx H', Same H H' → H' dx = some (.xd [("place", .int n)]) → E (.ref (He.ga K "Incomplete")) (some dx) H'
  | .bad j => ∀ dx H', Same H H' → H' dx = some (.xd [("place", .int j)]) → E (.ref (He.ga K "InvalidRecord")) (some dx) H'
section
variable {K : PySem.W.Frag} {H : Hp} {Q : VK} {E : XK} {n : Nat} {α : Type} {W : Hp → V → α → Prop} {r : Rd α}
theorem ansR_of (h1 : ∀ x q, r = .ok x q → ∀ p v H', H p = none → Same H H' → H' p = some (.tup [v, .int q]) → W H' v x → Q (.ref p) H') (h2 : r = .inc → ∀ dx H', Same H H' → H' dx = some (.xd [("place", .int n)]) → E (.ref (He.ga K "Incomplete")) (some dx) H')
    (h3 : ∀ j, r = .bad j → ∀ dx H', Same H H' → H' dx = some (.xd [("place", .int j)]) → E (.ref (He.ga K "InvalidRecord")) (some dx) H') : ansR K H Q E n W r := by
  cases r with
  | ok x q => exact h1 x q rfl
  | inc => exact h2 rfl
  | bad j => exact h3 j rfl
theorem ansR_ok (h : ansR K H Q E n W r) {x : α} {q : Nat} (e : r = .ok x q) : ∀ p v H', H p = none → Same H H' → H' p = some (.tup [v, .int q]) → W H' v x → Q (.ref p) H' := by
  subst e
  exact h
theorem ansR_inc (h : ansR K H Q E n W r) (e : r = .inc) : ∀ dx H', Same H H' → H' dx = some (.xd [("place", .int n)]) → E (.ref (He.ga K "Incomplete")) (some dx) H' := by
  subst e
  exact h
theorem ansR_bad (h : ansR K H Q E n W r) {j : Nat} (e : r = .bad j) : ∀ dx H', Same H H' → H' dx = some (.xd [("place", .int j)]) → E (.ref (He.ga K "InvalidRecord")) (some dx) H' := by
  subst e
  exact h
/-- another answer of the same kind -/
theorem ansR_map {β : Type} {W2 : Hp → V → β → Prop} {f : α → β} (h : ansR K H Q E n W2 (r.map f)) (k : ∀ H' v x, W H' v x → W2 H' v (f x)) : ansR K H Q E n W r := by
  cases r with
  | ok x q => exact fun p v H' a b c d => h p v H' a b c (k H' v x d)
  | inc => exact h
  | bad j => exact h
end
abbrev Wn (_ : Hp) (v : V) (c : Nat) : Prop := v = .int (c : Nat)
abbrev Ws (_ : Hp) (v : V) (s : Str) : Prop := v = .str s
abbrev Wd_ (H : Hp) (v : V) (d : PyData) : Prop := Dq H v d
theorem rdC_step {ns : List Int} {q sh acc : Nat} {g : Int} (h : ns[q]? = some g) : rdC (ns.drop q) q sh acc = if g < 128 then (if g = 0 ∧ 0 < sh then .bad q else .ok (acc + (g.toNat % 128) * 2 ^ sh) (q + 1)) else rdC (ns.drop (q + 1)) (q + 1) (sh + 7) (acc + (g.toNat % 128) * 2 ^ sh) := by
  obtain ⟨hl, e⟩ := List.getElem?_eq_some_iff.mp h
  rw [List.drop_eq_getElem_cons hl, e, rdC]
theorem rdC_end {ns : List Int} {q sh acc : Nat} (h : ns.length ≤ q) : rdC (ns.drop q) q sh acc = .inc := by
  rw [List.drop_eq_nil_of_le h, rdC]
theorem atI_int {ns : List Int} {q : Nat} {g : Int} (h : ns[q]? = some g) : atI (ns.map V.int) (q : Int) = some (.int g) := atI_nn (by rw [List.getElem?_map, h] <;> rfl)
theorem shl_add {g : Int} {acc sh : Nat} (h : 0 ≤ g) : (acc : Int) + Builtin.bitAnd g 127 * 2 ^ ((sh : Nat) : Int).toNat = ((acc + g.toNat % 128 * 2 ^ sh : Nat) : Int) := by
  rw [and127I h, Int.toNat_natCast, Int.natCast_add, Int.natCast_mul, Int.natCast_pow]
  rfl
theorem cpow127 {g : Int} {sh : Nat} (h : 0 ≤ g) (h2 : sh ≤ 1000000) : CPow (Builtin.bitAnd g 127) ((sh : Nat) : Int) := by
  rw [and127I h]
  exact ⟨by omega, by omega, by omega⟩
theorem fi_some : ∀ {l : List Int} {i : Nat} {g : Int}, l[i]? = some g → badC g = true → (∀ x ∈ l.take i, badC x = false) → l.findIdx? badC = some i
  | [], i, g, h, _, _ => by simp at h
  | x :: r, 0, g, h, b, _ => by
    simp only [List.getElem?_cons_zero, Option.some.injEq] at h
    rw [List.findIdx?_cons, h, b] <;> rfl
  | x :: r, i + 1, g, h, b, k => by
    have hx : badC x = false := k x (by simp)
    rw [List.findIdx?_cons, hx, fi_some (by simpa using h) b fun y hy => k y (by simp [hy])] <;> rfl
abbrev signsS : Str := Str.ofString " !\"#$&'()*+,-./0123456789:;<=>?@ABCDEFGHIJKLMNOPQRSTUVWXYZ[\\]^_`abcdefghijklmnopqrstuvwxyz{|}~"
theorem signs_len : signsS.length = 94 := by decide +kernel
theorem signs_at : ∀ c : Fin 127, 32 ≤ c.1 → c.1 ≠ 37 → signsS.cps.toList[c.1 - 32 - (if 37 < c.1 then 1 else 0)]? = some c.1 := by decide +kernel
theorem signs_lo {g : Int} (h1 : 32 ≤ g) (h2 : g < 37) : atI signsS.cps.toList (g - 32 - 0) = some g.toNat := by
  have h := signs_at ⟨g.toNat, by omega⟩ (show 32 ≤ g.toNat by omega) (show g.toNat ≠ 37 by omega)
  dsimp only at h
  rw [if_neg (by omega)] at h
  rw [show g - 32 - 0 = ((g.toNat - 32 - 0 : Nat) : Int) by omega]
  exact atI_nn h
theorem signs_hi {g : Int} (h1 : 37 < g) (h2 : g ≤ 126) : atI signsS.cps.toList (g - 32 - 1) = some g.toNat := by
  have h := signs_at ⟨g.toNat, by omega⟩ (show 32 ≤ g.toNat by omega) (show g.toNat ≠ 37 by omega)
  dsimp only at h
  rw [if_pos (by omega)] at h
  rw [show g - 32 - 1 = ((g.toNat - 32 - 1 : Nat) : Int) by omega]
  exact atI_nn h
theorem r_ixS {K : PySem.W.Frag} {z : Str} {i : Int} {c : Nat} {H : Hp} {Q : VK} (h : atI z.cps.toList i = some c) (hl : z.length ≤ sizeLine) (q : Q (.str ⟨#[c]⟩) H) : uIx K (.str z) (.int i) H Q := ⟨c, hl, h, q⟩
/-- signs joined -/
theorem join_codes (l : List Int) : Txt.join (Str.ofString "") (l.map fun g => (⟨#[g.toNat]⟩ : Str)) = strOf l := by
  have e : (Txt.join (Str.ofString "") (l.map fun g => (⟨#[g.toNat]⟩ : Str))).cps.toList = (strOf l).cps.toList := by
    have h := tl_join0 (l.map fun g => (⟨#[g.toNat]⟩ : Str))
    have h2 : TL.tl (Txt.join (Str.ofString "") (l.map fun g => (⟨#[g.toNat]⟩ : Str))) = l.map Int.toNat := by
      rw [h, List.map_map]
      clear h
      induction l with
      | nil => rfl
      | cons g r ih =>
        rw [List.map_cons, List.flatten_cons, ih, List.map_cons] <;> rfl
    exact h2
  have e2 := congrArg List.toArray e
  rw [Array.toArray_toList, Array.toArray_toList] at e2
  cases h : Txt.join (Str.ofString "") (l.map fun g => (⟨#[g.toNat]⟩ : Str)) with
  | mk c =>
    rw [h] at e2
    cases h2 : strOf l with
    | mk d =>
      rw [h2] at e2
      rw [show c = d from e2]
end Dk

/-! Values that the laws draw. -/
namespace Dk
open PySem PySem.Spec PyProof.Rows L2
mutual
def Vn : PyData → Prop
  | .none => True
  | .bool _ => True
  | .int n => n.natAbs < 2 ^ 70
  | .str s => (∀ c ∈ codesI s, badC c = false) ∧ s.length ≤ 300
  | .tuple ds => ds.length ≤ 300 ∧ Vns ds
  | .list _ => False
  | .dict _ => False
def Vns : List PyData → Prop
  | [] => True
  | d :: ds => Vn d ∧ Vns ds
end
theorem vns_mem {ds : List PyData} : Vns ds ↔ ∀ d ∈ ds, Vn d := by
  induction ds with
  | nil => simp [Vns]
  | cons d ds ih => simp [Vns, ih]
mutual
theorem Vn.pk : ∀ {d : PyData}, Vn d → Pk d
  | .none, _ => by rw [Pk]; trivial
  | .bool b, _ => by rw [Pk]; trivial
  | .int n, _ => by rw [Pk]; trivial
  | .str s, h => by
    rw [Vn] at h
    rw [Pk]
    exact h.1
  | .tuple ds, h => by
    rw [Vn] at h
    rw [Pk]
    exact Vns.pks h.2
  | .list _, h => by rw [Vn] at h; exact h.elim
  | .dict _, h => by rw [Vn] at h; exact h.elim
theorem Vns.pks : ∀ {ds : List PyData}, Vns ds → Pks ds
  | [], _ => by rw [Pks]; trivial
  | d :: ds, h => by
    rw [Vns] at h
    rw [Pks]
    exact ⟨Vn.pk h.1, Vns.pks h.2⟩
end
theorem vn_int {i : Int} (h : i.natAbs < 2 ^ 70) : Vn (.int i) := by
  rw [Vn]
  exact h
theorem cnt_small {n : Nat} (h : n < 2 ^ 70) : (cntR n).length ≤ 10 := cntR_len (k := 9) (by omega)
theorem rec_int {i : Int} (h : i.natAbs < 2 ^ 70) : (recD (.int i)).length ≤ 11 := by
  rw [recD]
  split
  · have := cnt_small (n := i.toNat) (by omega)
    rw [List.length_cons]
    omega
  · have := cnt_small (n := (-i - 1).toNat) (by omega)
    rw [List.length_cons]
    omega
theorem rec_str {s : Str} (h : s.length < 128) : (recD (.str s)).length = 2 + s.length := by
  rw [recD, cntR_lt h, List.length_cons, List.length_append, codesI_len]
  simp
  omega
theorem recs_le {m : Nat} : ∀ {ds : List PyData}, (∀ d ∈ ds, (recD d).length ≤ m) → (recsD ds).length ≤ m * ds.length
  | [], _ => by simp [recsD]
  | d :: ds, h => by
    rw [recsD, List.length_append, List.length_cons, Nat.mul_succ]
    have h1 := h d List.mem_cons_self
    have h2 := recs_le fun e he => h e (List.mem_cons_of_mem _ he)
    omega
theorem depthAll_le {n : Nat} : ∀ {ds : List PyData}, (∀ d ∈ ds, d.depth ≤ n) → PyData.depthAll ds ≤ n
  | [], _ => by simp [PyData.depthAll]
  | d :: ds, h => by
    rw [PyData.depthAll]
    have h1 := h d List.mem_cons_self
    have h2 := depthAll_le fun e he => h e (List.mem_cons_of_mem _ he)
    omega
theorem dqs_allI {H : Hp} {P : Int → Prop} : ∀ {ds : List PyData} {ys : List V}, Dqs H ys ds → (∀ (i : Nat) d, ds[i]? = some d → ∃ n, d = PyData.int n ∧ P n) → ∃ ns : List Int, ys = ns.map V.int ∧ ns.length = ds.length ∧ ∀ n ∈ ns, P n
  | [], _, h, _ => by
    cases h
    exact ⟨[], rfl, rfl, fun n hn => absurd hn List.not_mem_nil⟩
  | d :: ds, _, h, k => by
    cases h with
    | cons h1 h2 =>
      obtain ⟨n, rfl, pn⟩ := k 0 d rfl
      cases h1
      obtain ⟨ns, rfl, e, p⟩ := dqs_allI h2 fun i d q => k (i + 1) d (by simpa using q)
      refine ⟨n :: ns, rfl, by simp [e], fun m hm => ?_⟩
      rcases List.mem_cons.mp hm with rfl | hm
      · exact pn
      · exact p m hm
theorem codesI_lin {s : Str} (h : Lin s) : ∀ c ∈ codesI s, badC c = false := by
  intro c hc
  obtain ⟨m, hm, rfl⟩ := List.mem_map.mp hc
  have := h.sg m hm
  exact badC_mk (by omega)
theorem vn_lin {s : Str} (h : Lin s) : Vn (.str s) := by
  rw [Vn]
  have := h.len
  exact ⟨codesI_lin h, by omega⟩
theorem e70 : (1 : Int) * 2 ^ (70 : Int).toNat = 1180591620717411303424 := by decide
theorem e69 : (1 : Int) * 2 ^ (69 : Int).toNat = 590295810358705651712 := by decide
end Dk

/-! What is read is what would be written; the law's own reading. -/
namespace Dk
open PySem PySem.Spec PyProof.Rows L2 TL
theorem items_back {f : Nat → Rd PyData} {ns : List Int} {n : Nat} (hf : ∀ i d q, i ≤ ns.length → f i = .ok d q → i < q ∧ q ≤ ns.length ∧ Pk d ∧ d.depth ≤ n ∧ (ns.drop i).take (q - i) = recD d) :
    ∀ {c i : Nat} {ds : List PyData} {q : Nat}, i ≤ ns.length → rdItems f c i = .ok ds q → i ≤ q ∧ q ≤ ns.length ∧ Pks ds ∧ PyData.depthAll ds ≤ n ∧ (ns.drop i).take (q - i) = recsD ds ∧ ds.length = c
  | 0, i, ds, q, hi, h => by
    cases h
    refine ⟨Nat.le_refl _, hi, by rw [Pks]; trivial, by simp [PyData.depthAll], by simp [recsD], rfl⟩
  | c + 1, i, ds, q, hi, h => by
    obtain ⟨d, p, h1, h2⟩ := Rd.bind_ok h
    obtain ⟨es, h3, rfl⟩ := Rd.map_ok h2
    obtain ⟨a1, a2, a3, a4, a5⟩ := hf i d p hi h1
    obtain ⟨b1, b2, b3, b4, b5, b6⟩ := items_back hf a2 h3
    refine ⟨by omega, b2, by rw [Pks]; exact ⟨a3, b3⟩, by rw [PyData.depthAll]; omega, ?_, by rw [List.length_cons, b6]⟩
    rw [recsD, ← a5, ← b5, show q - i = (p - i) + (q - p) by omega, List.take_add, List.drop_drop, show i + (p - i) = p by omega]
theorem drop_cons {ns : List Int} {i q : Nat} {k : Int} (h : ns[i]? = some k) (hq : i < q) : (ns.drop i).take (q - i) = k :: (ns.drop (i + 1)).take (q - (i + 1)) := by
  obtain ⟨hl, e⟩ := List.getElem?_eq_some_iff.mp h
  rw [List.drop_eq_getElem_cons hl, e, show q - i = (q - (i + 1)) + 1 by omega, List.take_succ_cons]
theorem rdA_back {ns : List Int} (hb : ∀ g ∈ ns, 0 ≤ g ∧ g < 256) : ∀ (dep i : Nat) (d : PyData) (q : Nat), i ≤ ns.length → rdA ns dep i = .ok d q → i < q ∧ q ≤ ns.length ∧ Pk d ∧ d.depth ≤ dep ∧ (ns.drop i).take (q - i) = recD d := by
  intro dep
  induction dep with
  | zero =>
    intro i d q hi h
    have ub := rdA_ub hi h
    have lb := rdA_le _ _ _ _ _ h
    refine ⟨lb, ub, ?_⟩
    rw [rdA] at h
    split at h
    · cases h
    · rename_i k hk
      have kb := hb k (List.mem_of_getElem? hk)
      rw [drop_cons hk lb]
      split at h
      · cases h
      · split at h
        · rename_i h3
          obtain ⟨c, h1, rfl⟩ := Rd.map_ok h
          obtain ⟨e1, e2⟩ := rdCount_back hb h1
          refine ⟨by rw [Pk]; trivial, by simp [PyData.depth], ?_⟩
          rw [e1, h3, recD, if_pos (by omega), Int.toNat_natCast]
        · split at h
          · rename_i h4
            obtain ⟨c, h1, rfl⟩ := Rd.map_ok h
            obtain ⟨e1, e2⟩ := rdCount_back hb h1
            refine ⟨by rw [Pk]; trivial, by simp [PyData.depth], ?_⟩
            rw [e1, h4, recD, if_neg (by omega), show (-(-(c : Int) - 1) - 1).toNat = c by omega]
          · split at h
            · rename_i h5
              obtain ⟨s, h1, rfl⟩ := Rd.map_ok h
              obtain ⟨e1, e2, e3, e4⟩ := rdStr_back hb h1
              refine ⟨by rw [Pk]; exact e4, by simp [PyData.depth], ?_⟩
              rw [e1, h5, recD]
            · cases h
              have k3 : k = 0 ∨ k = 1 ∨ k = 2 := by omega
              rw [show i + 1 - (i + 1) = 0 by omega, List.take_zero]
              rcases k3 with rfl | rfl | rfl
              · exact ⟨by rw [smallD, if_pos rfl, Pk]; trivial, by rw [smallD, if_pos rfl]; simp [PyData.depth], by rw [smallD, if_pos rfl, recD]⟩
              · exact ⟨by rw [smallD, if_neg (by decide), if_pos rfl, Pk]; trivial, by rw [smallD, if_neg (by decide), if_pos rfl]; simp [PyData.depth], by rw [smallD, if_neg (by decide), if_pos rfl, recD] <;> rfl⟩
              · exact ⟨by rw [smallD, if_neg (by decide), if_neg (by decide), Pk]; trivial, by rw [smallD, if_neg (by decide), if_neg (by decide)]; simp [PyData.depth], by rw [smallD, if_neg (by decide), if_neg (by decide), recD] <;> rfl⟩
  | succ dep ih =>
    intro i d q hi h
    have ub := rdA_ub hi h
    have lb := rdA_le _ _ _ _ _ h
    refine ⟨lb, ub, ?_⟩
    rw [rdA] at h
    split at h
    · cases h
    · rename_i k hk
      have kb := hb k (List.mem_of_getElem? hk)
      have il := get_lt hk
      rw [drop_cons hk lb]
      split at h
      · cases h
      · split at h
        · rename_i h3
          obtain ⟨c, h1, rfl⟩ := Rd.map_ok h
          obtain ⟨e1, e2⟩ := rdCount_back hb h1
          refine ⟨by rw [Pk]; trivial, by simp [PyData.depth], ?_⟩
          rw [e1, h3, recD, if_pos (by omega), Int.toNat_natCast]
        · split at h
          · rename_i h4
            obtain ⟨c, h1, rfl⟩ := Rd.map_ok h
            obtain ⟨e1, e2⟩ := rdCount_back hb h1
            refine ⟨by rw [Pk]; trivial, by simp [PyData.depth], ?_⟩
            rw [e1, h4, recD, if_neg (by omega), show (-(-(c : Int) - 1) - 1).toNat = c by omega]
          · split at h
            · rename_i h5
              obtain ⟨s, h1, rfl⟩ := Rd.map_ok h
              obtain ⟨e1, e2, e3, e4⟩ := rdStr_back hb h1
              refine ⟨by rw [Pk]; exact e4, by simp [PyData.depth], ?_⟩
              rw [e1, h5, recD]
            · split at h
              · rename_i h6
                obtain ⟨c, p, h1, h2⟩ := Rd.bind_ok h
                obtain ⟨ds, h3, rfl⟩ := Rd.map_ok h2
                obtain ⟨e1, e2⟩ := rdCount_back hb h1
                have pl := rdCount_le h1
                obtain ⟨b1, b2, b3, b4, b5, b6⟩ := items_back (fun i d q hi h => ih i d q hi h) pl.2 h3
                refine ⟨by rw [Pk]; exact b3, by rw [PyData.depth]; omega, ?_⟩
                rw [recD, h6, b6, ← b5, ← e1, show q - (i + 1) = (p - (i + 1)) + (q - p) by omega, List.take_add, List.drop_drop, show i + 1 + (p - (i + 1)) = p by omega]
              · cases h
                have k3 : k = 0 ∨ k = 1 ∨ k = 2 := by omega
                rw [show i + 1 - (i + 1) = 0 by omega, List.take_zero]
                rcases k3 with rfl | rfl | rfl
                · exact ⟨by rw [smallD, if_pos rfl, Pk]; trivial, by rw [smallD, if_pos rfl]; simp [PyData.depth], by rw [smallD, if_pos rfl, recD]⟩
                · exact ⟨by rw [smallD, if_neg (by decide), if_pos rfl, Pk]; trivial, by rw [smallD, if_neg (by decide), if_pos rfl]; simp [PyData.depth], by rw [smallD, if_neg (by decide), if_pos rfl, recD] <;> rfl⟩
                · exact ⟨by rw [smallD, if_neg (by decide), if_neg (by decide), Pk]; trivial, by rw [smallD, if_neg (by decide), if_neg (by decide)]; simp [PyData.depth], by rw [smallD, if_neg (by decide), if_neg (by decide), recD] <;> rfl⟩
/-! the law's own reading: the end alone -/
def Rd.unit {α : Type} (r : Rd α) : Rd Unit := r.map fun _ => ()
def endT (n : Nat) : Rd Unit → List V
  | .ok _ q => [.str "end", .int q]
  | .inc => [.str "incomplete", .int n]
  | .bad j => [.str "invalid", .int j]
def cntT (n : Nat) : Rd Nat → List V
  | .ok c q => [.str "count", .int c, .int q]
  | .inc => [.str "incomplete", .int n]
  | .bad j => [.str "invalid", .int j]
/-- the items' ends -/
def skip (f : Nat → Rd Unit) : Nat → Nat → Rd Unit
  | 0, i => .ok () i
  | c + 1, i => (f i).bind fun _ p => skip f c p
theorem skip_items {f : Nat → Rd PyData} : ∀ (c i : Nat), (rdItems f c i).unit = skip (fun i => (f i).unit) c i
  | 0, i => rfl
  | c + 1, i => by
    rw [rdItems, skip]
    cases h : f i with
    | ok d p =>
      show ((rdItems f c p).map (d :: ·)).unit = skip _ c p
      rw [← skip_items c p]
      unfold Rd.unit
      rw [Rd.map_map] <;> rfl
    | inc => rfl
    | bad j => rfl
/-- more items than there are bytes -/
theorem skip_app {f : Nat → Rd Unit} : ∀ (a b i : Nat), skip f (a + b) i = (skip f a i).bind fun _ p => skip f b p
  | 0, b, i => by
    rw [Nat.zero_add]
    rfl
  | a + 1, b, i => by
    rw [show a + 1 + b = (a + b) + 1 by omega, skip, skip]
    cases f i with
    | ok u p => exact skip_app a b p
    | inc => rfl
    | bad j => rfl
theorem skip_le {f : Nat → Rd Unit} {n : Nat} (hf : ∀ i q, i ≤ n → f i = .ok () q → i < q ∧ q ≤ n) : ∀ {c i q : Nat}, i ≤ n → skip f c i = .ok () q → i + c ≤ q ∧ q ≤ n
  | 0, i, q, hi, h => by
    cases h
    exact ⟨Nat.le_refl _, hi⟩
  | c + 1, i, q, hi, h => by
    obtain ⟨u, p, h1, h2⟩ := Rd.bind_ok h
    obtain ⟨h3, h4⟩ := hf i p hi h1
    have := skip_le hf h4 h2
    omega
theorem skip_min {f : Nat → Rd Unit} {n : Nat} (hf : ∀ i q, i ≤ n → f i = .ok () q → i < q ∧ q ≤ n) {c i : Nat} (hi : i ≤ n) : skip f (min c (n + 1)) i = skip f c i := by
  by_cases h : c ≤ n + 1
  · rw [Nat.min_eq_left h]
  · obtain ⟨k, rfl⟩ : ∃ k, c = (n + 1) + k := ⟨c - (n + 1), by omega⟩
    rw [Nat.min_eq_right (by omega), skip_app (n + 1) k i]
    cases e : skip f (n + 1) i with
    | ok u q =>
      have := skip_le hf hi e
      omega
    | inc => rfl
    | bad j => rfl
theorem rdA_unit_le {ns : List Int} {dep : Nat} (i q : Nat) (hi : i ≤ ns.length) (h : (rdA ns dep i).unit = .ok () q) : i < q ∧ q ≤ ns.length := by
  obtain ⟨d, h1, _⟩ := Rd.map_ok h
  exact ⟨rdA_le _ _ _ _ _ h1, rdA_ub hi h1⟩
theorem cutV_drop (xs : List V) (n : Nat) : cutV xs (some (n : Int)) none = xs.drop n := by
  unfold cutV
  rw [HT.sIx_none, HT.sIx_nat]
  by_cases h : n ≤ xs.length
  · rw [Nat.min_eq_left h, List.take_of_length_le (by rw [List.length_drop]; exact Nat.le_refl _)]
  · rw [Nat.min_eq_right (by omega), Nat.sub_self, List.take_zero, List.drop_eq_nil_of_le (by omega)]
theorem cutV_mid (xs : List V) {n m : Nat} (h : n ≤ m) (hm : m ≤ xs.length) : cutV xs (some (n : Int)) (some (m : Int)) = (xs.drop n).take (m - n) := by
  unfold cutV
  rw [HT.sIx_nat, HT.sIx_nat, Nat.min_eq_left (show n ≤ xs.length by omega), Nat.min_eq_left hm]
end Dk

/-! What read_file reads; plain Lean. -/
namespace Dk
open PySem PySem.Spec PyProof.Rows L2 TL
theorem codes_asc {s : Str} (h : ∀ c ∈ codesI s, badC c = false) : Asc s := fun c hc => by
  have := badC_codes (h ((c : Nat) : Int) (List.mem_map_of_mem hc))
  omega
mutual
theorem Pk.can : ∀ {d : PyData}, Pk d → d.canLay0 = true
  | .none, _ => by simp [PyData.canLay0]
  | .bool b, _ => by simp [PyData.canLay0]
  | .int n, _ => by simp [PyData.canLay0]
  | .str s, h => by
    rw [Pk] at h
    rw [PyData.canLay0]
    exact (codes_asc h).ok
  | .tuple ds, h => by
    rw [Pk] at h
    rw [PyData.canLay0]
    exact Pks.can h
  | .list _, h => by rw [Pk] at h; exact h.elim
  | .dict _, h => by rw [Pk] at h; exact h.elim
theorem Pks.can : ∀ {ds : List PyData}, Pks ds → PyData.canLayAll0 ds = true
  | [], _ => by simp [PyData.canLayAll0]
  | d :: ds, h => by
    rw [Pks] at h
    rw [PyData.canLayAll0, Pk.can h.1, Pks.can h.2] <;> rfl
end
theorem Pk.lay {d : PyData} {n : Nat} (h : Pk d) (k : d.depth ≤ n) : Lay n d := ⟨h.can, k⟩
/-- any datum against a text -/
def strEq (d : PyData) (z : Str) : Bool := match d with
  | .str s => decide (s = z)
  | _ => false
theorem r_neStr {K : PySem.W.Frag} {H : Hp} {Q : VK} {x : V} {d : PyData} {z : Str} (hd : Dq H x d) (pk : Pk d) (dp : d.depth ≤ 40) (hz : Asc z) (q : Q (.bl (!strEq d z)) H) : uNe K x (.str z) H Q := by
  cases hd with
  | non => exact .inl ⟨rfl, q⟩
  | bl b => exact .inl ⟨rfl, q⟩
  | int i => exact .inl ⟨rfl, q⟩
  | str s => exact q
  | tup ha hs =>
    refine r_neD (.tup ha hs) (.str z) ((pk.lay dp).shaped (by decide)) ((Okd.str (n := 1) hz).shaped (by decide)) ?_
    exact q
theorem r_eqStr {K : PySem.W.Frag} {H : Hp} {Q : VK} {x : V} {d : PyData} {z : Str} (hd : Dq H x d) (pk : Pk d) (dp : d.depth ≤ 40) (hz : Asc z) (q : Q (.bl (strEq d z)) H) : uEq K x (.str z) H Q := by
  cases hd with
  | non => exact .inl ⟨rfl, q⟩
  | bl b => exact .inl ⟨rfl, q⟩
  | int i => exact .inl ⟨rfl, q⟩
  | str s => exact q
  | tup ha hs =>
    refine r_eqD (.tup ha hs) (.str z) ((pk.lay dp).shaped (by decide)) ((Okd.str (n := 1) hz).shaped (by decide)) ?_
    exact q
abbrev begS : Str := Str.ofString "begin"
theorem beg_asc : Asc begS := by unfold Asc; decide +kernel
theorem beg_bad : ∀ c ∈ codesI begS, badC c = false := by decide +kernel
theorem beg_len : begS.length = 5 := by decide +kernel
def begO : PyData → Option (Int × PyData)
  | .tuple [.str s, .int n, v] => if s = begS ∧ 1 ≤ n then some (n, v) else none
  | _ => none
theorem begO_some {d : PyData} {n : Int} {v : PyData} (h : begO d = some (n, v)) : d = .tuple [.str begS, .int n, v] ∧ 1 ≤ n := by
  unfold begO at h
  split at h
  · rename_i s m w
    split at h
    · rename_i c
      cases h
      exact ⟨by rw [c.1], c.2⟩
    · cases h
  · cases h
/-- the values of the records that follow -/
def evM (ns : List Int) : Nat → Nat → List PyData
  | 0, _ => []
  | f + 1, q => match rdA ns 20 q with
    | .ok d p => d :: evM ns f p
    | _ => []
theorem evM_stop {ns : List Int} {f q : Nat} (h : ∀ d p, rdA ns 20 q ≠ .ok d p) : evM ns f q = [] := by
  cases f with
  | zero => rfl
  | succ f =>
    rw [evM]
    cases e : rdA ns 20 q with
    | ok d p => exact absurd e (h d p)
    | inc => rfl
    | bad j => rfl
theorem evM_step {ns : List Int} {f q p : Nat} {d : PyData} (h : rdA ns 20 q = .ok d p) : evM ns (f + 1) q = d :: evM ns f p := by
  rw [evM, h]
def fileM (ns : List Int) : Option (Int × PyData × List PyData) := match rdA ns 20 0 with
  | .ok d q => match begO d with
    | some (n, v) => some (n, v, evM ns (ns.length + 1) q)
    | none => none
  | _ => none
/-- more turns than there are bytes do not matter -/
theorem evM_fuel {ns : List Int} : ∀ {f q : Nat}, q ≤ ns.length → ns.length < q + f → evM ns f q = evM ns (ns.length + 1) q := by
  intro f
  induction f with
  | zero =>
    intro q h1 h2
    omega
  | succ f ih =>
    intro q h1 h2
    cases e : rdA ns 20 q with
    | ok d p =>
      have h3 := rdA_le _ _ _ _ _ e
      have h4 := rdA_ub h1 e
      rw [evM_step e, evM_step e, ih h4 (by omega)]
      congr 1
      clear ih
      have key : ∀ (n m q : Nat), q ≤ ns.length → ns.length < q + n → n ≤ m → evM ns m q = evM ns n q := by
        intro n
        induction n with
        | zero =>
          intro m q h1 h2 _
          omega
        | succ n ih =>
          intro m q h1 h2 h3
          obtain ⟨k, rfl⟩ : ∃ k, m = k + 1 := ⟨m - 1, by omega⟩
          cases e : rdA ns 20 q with
          | ok d p =>
            rw [evM_step e, evM_step e, ih k p (rdA_ub h1 e) (by have := rdA_le _ _ _ _ _ e; omega) (by omega)]
          | inc => rw [evM_stop (by rw [e]; intro d p z; cases z), evM_stop (by rw [e]; intro d p z; cases z)]
          | bad j => rw [evM_stop (by rw [e]; intro d p z; cases z), evM_stop (by rw [e]; intro d p z; cases z)]
      exact key ns.length (ns.length + 1) p h4 (by omega) (by omega)
    | inc => rw [evM_stop (by rw [e]; intro d p z; cases z), evM_stop (by rw [e]; intro d p z; cases z)]
    | bad j => rw [evM_stop (by rw [e]; intro d p z; cases z), evM_stop (by rw [e]; intro d p z; cases z)]
/-- the data are such as pack takes -/
theorem evM_ok {ns : List Int} (hb : ∀ g ∈ ns, 0 ≤ g ∧ g < 256) : ∀ {f q : Nat}, q ≤ ns.length → ∀ d ∈ evM ns f q, Pk d ∧ d.depth ≤ 20
  | 0, q, h, d, hd => by cases hd
  | f + 1, q, h, d, hd => by
    cases e : rdA ns 20 q with
    | ok x p =>
      obtain ⟨h1, h2, h3, h4, _⟩ := rdA_back hb 20 q x p h e
      rw [evM_step e] at hd
      rcases List.mem_cons.mp hd with rfl | hd
      · exact ⟨h3, h4⟩
      · exact evM_ok hb h2 d hd
    | inc =>
      rw [evM_stop (by rw [e]; intro d p z; cases z)] at hd
      cases hd
    | bad j =>
      rw [evM_stop (by rw [e]; intro d p z; cases z)] at hd
      cases hd
theorem evM_len {ns : List Int} : ∀ {f q : Nat}, q ≤ ns.length → (evM ns f q).length + q ≤ ns.length
  | 0, q, h => by
    show 0 + q ≤ _
    omega
  | f + 1, q, h => by
    cases e : rdA ns 20 q with
    | ok x p =>
      have h1 := rdA_le _ _ _ _ _ e
      have h2 := evM_len (f := f) (rdA_ub h e)
      rw [evM_step e, List.length_cons]
      omega
    | inc =>
      rw [evM_stop (by rw [e]; intro d p z; cases z)]
      simpa using h
    | bad j =>
      rw [evM_stop (by rw [e]; intro d p z; cases z)]
      simpa using h
end Dk

/-! Journals; plain Lean. -/
namespace Dk
open PySem PySem.Spec PyProof.Rows L2 TL
theorem evM_nx {ns : List Int} {q p : Nat} {d : PyData} (hq : q ≤ ns.length) (h : rdA ns 20 q = .ok d p) : evM ns (ns.length + 1) q = d :: evM ns (ns.length + 1) p := by
  have h1 := rdA_le _ _ _ _ _ h
  have h2 := rdA_ub hq h
  rw [evM_step h, evM_fuel h2 (by omega)]
/-- what may stand in a file -/
structure Rc (d : PyData) : Prop where
  pk : Pk d
  dp : d.depth ≤ 10
def begD (g : Int) (d : PyData) : PyData := .tuple [.str begS, .int g, d]
theorem begD_pk {g : Int} {d : PyData} (h : Pk d) : Pk (begD g d) := by
  unfold begD
  simp only [Pk, Pks]
  exact ⟨beg_bad, trivial, h, trivial⟩
theorem begD_dp {g : Int} {d : PyData} (h : d.depth ≤ 10) : (begD g d).depth ≤ 11 := by
  unfold begD
  simp only [PyData.depth, PyData.depthAll]
  omega
theorem begO_begD {g : Int} {d : PyData} (h : 1 ≤ g) : begO (begD g d) = some (g, d) := if_pos ⟨rfl, h⟩
/-- the bytes of a checkpoint and its events -/
def fileB (g : Int) (d : PyData) (es : List PyData) : List Int := recD (begD g d) ++ recsD es
theorem evM_recs {t : List Int} : ∀ {es : List PyData} {ns pre : List Int}, (∀ e ∈ es, Rc e) → ns = pre ++ (recsD es ++ t) → (∀ d p, rdA ns 20 (pre.length + (recsD es).length) ≠ .ok d p) → evM ns (ns.length + 1) pre.length = es
  | [], ns, pre, _, _, h => evM_stop (by simpa [recsD] using h)
  | e :: es, ns, pre, he, hn, h => by
    have h1 := he e List.mem_cons_self
    have hn2 : ns = pre ++ (recD e ++ (recsD es ++ t)) := by rw [hn, recsD, List.append_assoc]
    have hr : rdA ns 20 pre.length = .ok e (pre.length + (recD e).length) := by
      rw [hn2]
      exact rdA_rec h1.pk (by have := h1.dp; omega)
    rw [evM_nx (by rw [hn2, List.length_append]; omega) hr]
    have ih := evM_recs (t := t) (es := es) (ns := ns) (pre := pre ++ recD e) (fun x hx => he x (List.mem_cons_of_mem _ hx)) (by rw [hn2, List.append_assoc]) (by
      rw [List.length_append]
      rw [recsD, List.length_append, ← Nat.add_assoc] at h
      exact h)
    rw [List.length_append] at ih
    rw [ih]
theorem file_part {g : Int} {d x : PyData} {es : List PyData} {k : Nat} (hg : 1 ≤ g) (hd : Rc d) (he : ∀ e ∈ es, Rc e) (hx : Rc x) (hk : k < (recD x).length) : fileM (fileB g d es ++ (recD x).take k) = some (g, d, es) := by
  have dp := begD_dp (g := g) hd.dp
  have h0 : rdA (fileB g d es ++ (recD x).take k) 20 0 = .ok (begD g d) (recD (begD g d)).length := by
    have h := rdA_rec (dep := 20) (pre := []) (e := recsD es ++ (recD x).take k) (begD_pk (g := g) hd.pk) (by omega)
    unfold fileB
    rw [List.append_assoc]
    simpa using h
  have h1 := evM_recs (t := (recD x).take k) (es := es) (ns := fileB g d es ++ (recD x).take k) (pre := recD (begD g d)) he (by unfold fileB; rw [List.append_assoc]) (fun y p z => by
    have e : fileB g d es ++ (recD x).take k = (recD (begD g d) ++ recsD es) ++ (recD x).take k := rfl
    have h2 := rdA_part (dep := 20) (pre := recD (begD g d) ++ recsD es) hx.pk (by have := hx.dp; omega) hk
    rw [e, ← List.length_append, h2] at z
    cases z)
  unfold fileM
  rw [h0]
  show (match begO (begD g d) with | some (n, v) => some (n, v, evM _ _ _) | none => none) = _
  rw [begO_begD hg]
  show some (g, d, evM _ _ _) = _
  rw [h1]
theorem rc_non : Rc .none := ⟨by rw [Pk]; trivial, by simp [PyData.depth]⟩
theorem file_full {g : Int} {d : PyData} {es : List PyData} (hg : 1 ≤ g) (hd : Rc d) (he : ∀ e ∈ es, Rc e) : fileM (fileB g d es) = some (g, d, es) := by
  have h := file_part (k := 0) hg hd he rc_non (by simp [recD])
  rwa [List.take_zero, List.append_nil] at h
theorem file_cut {g : Int} {d : PyData} {k : Nat} (hd : Rc d) (hk : k < (recD (begD g d)).length) : fileM ((recD (begD g d)).take k) = none := by
  have dp := begD_dp (g := g) hd.dp
  have h := rdA_part (dep := 20) (pre := []) (begD_pk (g := g) hd.pk) (by omega) hk
  unfold fileM
  have h : rdA ((recD (begD g d)).take k) 20 0 = .inc := by simpa using h
  rw [h]
theorem file_gen {ns : List Int} {g : Int} {d : PyData} {es : List PyData} (h : fileM ns = some (g, d, es)) : 1 ≤ g := by
  unfold fileM at h
  split at h
  · split at h
    · rename_i n v e
      cases h
      exact (begO_some e).2
    · cases h
  · cases h
/-- all pending steps applied -/
def conM (D : Dsk) (i : Nat) : List Int := appliedM (D.c i) (D.s i)
/-- what is loaded -/
structure Ld where
  file : Nat
  gen : Int
  val : PyData
  evs : List PyData
def ld0 : Ld := ⟨1, 0, .none, []⟩
def Ld.look (x : Ld) (f : Nat) : Option (Int × PyData × List PyData) → Ld
  | some (g, d, es) => if x.gen < g then ⟨f, g, d, es⟩ else x
  | none => x
def loadM (D : Dsk) : Ld := (ld0.look 0 (fileM (conM D 0))).look 1 (fileM (conM D 1))
theorem look_some {x : Ld} {f : Nat} {g : Int} {d : PyData} {es : List PyData} (h : x.gen < g) : x.look f (some (g, d, es)) = ⟨f, g, d, es⟩ := if_pos h
theorem look_old {x : Ld} {f : Nat} {r : Option (Int × PyData × List PyData)} (h : ∀ g d es, r = some (g, d, es) → g ≤ x.gen) : x.look f r = x := by
  cases r with
  | none => rfl
  | some z =>
    obtain ⟨g, d, es⟩ := z
    have := h g d es rfl
    exact if_neg (by show ¬ x.gen < g; omega)
/-- between the acts -/
structure Inv (D : Dsk) (x : Ld) : Prop where
  s : ∀ i, i < 2 → D.s i = []
  f : x.file < 2
  cb : ∀ i, i < 2 → ∀ n ∈ D.c i, 0 ≤ n ∧ n < 256
  pw : ∀ n, D.pw = some n → 0 ≤ n
  vo : Rc x.val
  eo : ∀ e ∈ x.evs, Rc e
  own : (x = ld0 ∧ ∀ i, i < 2 → fileM (D.c i) = none) ∨ (1 ≤ x.gen ∧ fileM (D.c x.file) = some (x.gen, x.val, x.evs) ∧ ∀ g d es, fileM (D.c (1 - x.file)) = some (g, d, es) → g < x.gen)
theorem Inv.con {D : Dsk} {x : Ld} (h : Inv D x) {i : Nat} (hi : i < 2) : conM D i = D.c i := by
  unfold conM
  rw [h.s i hi] <;> rfl
theorem Inv.gen0 {D : Dsk} {x : Ld} (h : Inv D x) : 0 ≤ x.gen := by
  rcases h.own with ⟨rfl, _⟩ | ⟨h1, _⟩
  · exact Int.le_refl _
  · omega
theorem Inv.load {D : Dsk} {x : Ld} (h : Inv D x) : loadM D = x := by
  unfold loadM
  rw [h.con (by decide), h.con (by decide)]
  have hf := h.f
  rcases h.own with ⟨rfl, h0⟩ | ⟨h1, h2, h3⟩
  · rw [h0 0 (by decide), h0 1 (by decide)] <;> rfl
  · obtain ⟨f, g, d, es⟩ := x
    match f, hf with
    | 0, _ =>
      rw [show fileM (D.c 0) = some (g, d, es) from h2, look_some (show (0 : Int) < g from by have : 1 ≤ g := h1; omega)]
      exact look_old fun g' d' es' e => by
        have : g' < g := h3 g' d' es' e
        show g' ≤ g
        omega
    | 1, _ =>
      rw [show fileM (D.c 1) = some (g, d, es) from h2]
      have h4 : (ld0.look 0 (fileM (D.c 0))).gen < g := by
        cases e : fileM (D.c 0) with
        | none => exact h1
        | some z =>
          obtain ⟨g', d', es'⟩ := z
          have h5 : g' < g := h3 g' d' es' e
          have h6 := file_gen e
          rw [look_some (show (0 : Int) < g' by omega)]
          exact h5
      rw [look_some h4]
/-- an act: a checkpoint of a value, or an event -/
inductive Act where
  | ck (d : PyData)
  | ad (d : PyData)
def actF (x : Ld) : Act → Nat
  | .ck _ => 1 - x.file
  | .ad _ => x.file
def actR (x : Ld) : Act → List Int
  | .ck d => recD (begD (x.gen + 1) d)
  | .ad d => recD d
def actS (x : Ld) : Act → List Int
  | .ck d => -1 :: recD (begD (x.gen + 1) d)
  | .ad d => recD d
def actC (D : Dsk) (x : Ld) : Act → List Int
  | .ck d => recD (begD (x.gen + 1) d)
  | .ad d => D.c x.file ++ recD d
def actL (x : Ld) : Act → Ld
  | .ck d => ⟨1 - x.file, x.gen + 1, d, []⟩
  | .ad d => ⟨x.file, x.gen, x.val, x.evs ++ [d]⟩
def actD : Act → PyData
  | .ck d => d
  | .ad d => d
def needM (x : Ld) (a : Act) : Nat := (actS x a).length + 1
def doneD (D : Dsk) (x : Ld) (a : Act) : Dsk := ⟨setF D.c (actF x a) (actC D x a), D.s, D.pw.map (· - (needM x a : Int))⟩
def cutD (D : Dsk) (x : Ld) (a : Act) (n : Nat) : Dsk := (D.add (actF x a) ((actS x a).take n)).use n
/-- an act that may follow -/
def Fit (D : Dsk) (x : Ld) : Act → Prop
  | .ck _ => True
  | .ad _ => 1 ≤ x.gen ∧ D.c x.file = fileB x.gen x.val x.evs
theorem actF_lt {x : Ld} (h : x.file < 2) (a : Act) : actF x a < 2 := by
  cases a with
  | ck d => show 1 - x.file < 2; omega
  | ad d => exact h
theorem appl_bytes {bs : List Int} : ∀ {xs : List Int}, (∀ g ∈ bs, 0 ≤ g) → appliedM xs bs = xs ++ bs := by
  induction bs with
  | nil => intro xs _; rw [List.append_nil] <;> rfl
  | cons b bs ih =>
    intro xs h
    have hb := h b List.mem_cons_self
    have e : appliedM xs (b :: bs) = appliedM (if b = -1 then [] else xs ++ [b]) bs := rfl
    rw [e, if_neg (by omega), ih fun g hg => h g (List.mem_cons_of_mem _ hg), List.append_assoc] <;> rfl
theorem appl_clear {bs xs : List Int} (h : ∀ g ∈ bs, 0 ≤ g) : appliedM xs (-1 :: bs) = bs := by
  have e : appliedM xs (-1 :: bs) = appliedM [] bs := rfl
  rw [e, appl_bytes h, List.nil_append]
/-- the file that an act makes -/
theorem Inv.doneC {D : Dsk} {x : Ld} {a : Act} (h : Inv D x) (fit : Fit D x a) : actC D x a = fileB (actL x a).gen (actL x a).val (actL x a).evs := by
  cases a with
  | ck d =>
    show recD _ = recD _ ++ recsD []
    rw [recsD, List.append_nil] <;> rfl
  | ad d =>
    show D.c x.file ++ recD d = fileB x.gen x.val (x.evs ++ [d])
    rw [fit.2]
    unfold fileB
    rw [recsD_snoc, List.append_assoc]
/-- a disk whose file is made anew, or stays -/
theorem Inv.put {D E : Dsk} {x y : Ld} {f : Nat} (h : Inv D x) (hs : ∀ i, i < 2 → E.s i = []) (hp : ∀ n, E.pw = some n → 0 ≤ n) (hf : y.file < 2) (hc : ∀ i, i < 2 → i ≠ y.file → E.c i = D.c i) (hb : ∀ n ∈ E.c y.file, 0 ≤ n ∧ n < 256) (vo : Rc y.val) (eo : ∀ e ∈ y.evs, Rc e)
    (hg : 1 ≤ y.gen) (hm : fileM (E.c y.file) = some (y.gen, y.val, y.evs)) (ho : (y.file = x.file ∧ y.gen = x.gen ∧ 1 ≤ x.gen) ∨ (y.file = 1 - x.file ∧ x.gen < y.gen)) : Inv E y := by
  have xf := h.f
  refine ⟨hs, hf, fun i hi n hn => ?_, hp, vo, eo, .inr ⟨hg, hm, fun g d es e => ?_⟩⟩
  · by_cases q : i = y.file
    · subst q
      exact hb n hn
    · rw [hc i hi q] at hn
      exact h.cb i hi n hn
  · rw [hc (1 - y.file) (by omega) (by omega)] at e
    rcases ho with ⟨q1, q2, q3⟩ | ⟨q1, q2⟩
    · rw [q1] at e
      rcases h.own with ⟨rfl, h0⟩ | ⟨h1, h2, h3⟩
      · have : (1 : Int) ≤ 0 := q3
        omega
      · have := h3 g d es e
        omega
    · rw [show 1 - y.file = x.file by omega] at e
      rcases h.own with ⟨rfl, h0⟩ | ⟨h1, h2, h3⟩
      · rw [h0 _ (by decide)] at e
        cases e
      · rw [h2] at e
        cases e
        exact q2
theorem actL_ho {D : Dsk} {x : Ld} {a : Act} (h : Inv D x) (fit : Fit D x a) : (actL x a).file < 2 ∧ 1 ≤ (actL x a).gen ∧ (((actL x a).file = x.file ∧ (actL x a).gen = x.gen ∧ 1 ≤ x.gen) ∨ ((actL x a).file = 1 - x.file ∧ x.gen < (actL x a).gen)) := by
  have xf := h.f
  have g0 := h.gen0
  cases a with
  | ck d =>
    refine ⟨?_, ?_, .inr ⟨rfl, ?_⟩⟩
    · show 1 - x.file < 2; omega
    · show 1 ≤ x.gen + 1; omega
    · show x.gen < x.gen + 1; omega
  | ad d => exact ⟨xf, fit.1, .inl ⟨rfl, rfl, fit.1⟩⟩
theorem actL_file (x : Ld) (a : Act) : (actL x a).file = actF x a := by cases a <;> rfl
theorem actL_ok {D : Dsk} {x : Ld} {a : Act} (h : Inv D x) (ha : Rc (actD a)) : Rc (actL x a).val ∧ ∀ e ∈ (actL x a).evs, Rc e := by
  cases a with
  | ck d => exact ⟨ha, fun e he => absurd he List.not_mem_nil⟩
  | ad d =>
    refine ⟨h.vo, fun e he => ?_⟩
    have he : e ∈ x.evs ++ [d] := he
    rcases List.mem_append.mp he with he | he
    · exact h.eo e he
    · rw [List.mem_singleton.mp he]
      exact ha
theorem actR_byte {x : Ld} {a : Act} (ha : Rc (actD a)) : ∀ g ∈ actR x a, 0 ≤ g ∧ g < 256 := by
  cases a with
  | ck d => exact recD_byte (begD_pk ha.pk)
  | ad d => exact recD_byte ha.pk
theorem actC_byte {D : Dsk} {x : Ld} {a : Act} (h : Inv D x) (ha : Rc (actD a)) : ∀ g ∈ actC D x a, 0 ≤ g ∧ g < 256 := by
  cases a with
  | ck d => exact actR_byte (a := .ck d) (x := x) ha
  | ad d =>
    intro g hg
    have hg : g ∈ D.c x.file ++ recD d := hg
    rcases List.mem_append.mp hg with hg | hg
    · exact h.cb _ h.f g hg
    · exact recD_byte ha.pk g hg
theorem Inv.new {D E : Dsk} {x : Ld} {a : Act} (h : Inv D x) (fit : Fit D x a) (ha : Rc (actD a)) (hs : ∀ i, i < 2 → E.s i = []) (hp : ∀ n, E.pw = some n → 0 ≤ n) (hc : ∀ i, i < 2 → E.c i = setF D.c (actF x a) (actC D x a) i) : Inv E (actL x a) := by
  obtain ⟨l1, l2, l3⟩ := actL_ho h fit
  obtain ⟨o1, o2⟩ := actL_ok (x := x) h ha
  have e : E.c (actL x a).file = actC D x a := by rw [hc _ l1, actL_file, setF_at]
  refine h.put (f := 0) hs hp l1 (fun i hi q => ?_) (fun n hn => ?_) o1 o2 l2 ?_ l3
  · rw [actL_file] at q
    rw [hc i hi, setF_ne _ _ q]
  · rw [e] at hn
    exact actC_byte h ha n hn
  · rw [e, h.doneC fit]
    exact file_full l2 o1 o2
/-- the act was done -/
theorem Inv.done {D : Dsk} {x : Ld} {a : Act} (h : Inv D x) (fit : Fit D x a) (ha : Rc (actD a)) (hp : ∀ n, D.pw = some n → (needM x a : Int) ≤ n) : Inv (doneD D x a) (actL x a) ∧ (doneD D x a).c (actL x a).file = fileB (actL x a).gen (actL x a).val (actL x a).evs := by
  refine ⟨h.new fit ha h.s (fun n e => ?_) fun i _ => rfl, ?_⟩
  · have e : D.pw.map (· - (needM x a : Int)) = some n := e
    cases q : D.pw with
    | none =>
      rw [q] at e
      cases e
    | some m =>
      rw [q] at e
      have := hp m q
      have e : m - (needM x a : Int) = n := Option.some.inj e
      omega
  · show setF D.c (actF x a) (actC D x a) (actL x a).file = _
    rw [actL_file, setF_at]
    exact h.doneC fit
/-- nothing of the act, or a part that is not read -/
theorem Inv.stay {D E : Dsk} {x : Ld} {a : Act} (h : Inv D x) (fit : Fit D x a) (ha : Rc (actD a)) {k : Nat} (hk : k < (actS x a).length) (hs : ∀ i, i < 2 → E.s i = []) (hp : ∀ n, E.pw = some n → 0 ≤ n) (hc : ∀ i, i < 2 → E.c i = setF D.c (actF x a) (appliedM (D.c (actF x a)) ((actS x a).take k)) i) : Inv E x := by
  have xf := h.f
  cases a with
  | ck d =>
    have hc : ∀ i, i < 2 → E.c i = setF D.c (1 - x.file) (appliedM (D.c (1 - x.file)) ((-1 :: recD (begD (x.gen + 1) d)).take k)) i := hc
    have keep : E.c x.file = D.c x.file := by rw [hc _ xf, setF_ne _ _ (by omega)]
    have oth := hc (1 - x.file) (by omega)
    rw [setF_at] at oth
    cases k with
    | zero =>
      have oth : E.c (1 - x.file) = D.c (1 - x.file) := oth
      have all : ∀ i, i < 2 → E.c i = D.c i := fun i hi => by
        by_cases q : i = x.file
        · rw [q]; exact keep
        · rw [show i = 1 - x.file by omega]; exact oth
      refine ⟨hs, xf, fun i hi n hn => by rw [all i hi] at hn; exact h.cb i hi n hn, hp, h.vo, h.eo, ?_⟩
      rcases h.own with ⟨h1, h2⟩ | ⟨h1, h2, h3⟩
      · exact .inl ⟨h1, fun i hi => by rw [all i hi]; exact h2 i hi⟩
      · exact .inr ⟨h1, by rw [keep]; exact h2, fun g d' es e => by rw [oth] at e; exact h3 g d' es e⟩
    | succ j =>
      have hj : j < (recD (begD (x.gen + 1) d)).length := by
        have hk : j + 1 < (-1 :: recD (begD (x.gen + 1) d)).length := hk
        rw [List.length_cons] at hk
        omega
      have byt : ∀ g ∈ (recD (begD (x.gen + 1) d)).take j, 0 ≤ g ∧ g < 256 := fun g hg => recD_byte (begD_pk ha.pk) g (List.mem_of_mem_take hg)
      rw [List.take_succ_cons, appl_clear fun g hg => (byt g hg).1] at oth
      have non : fileM (E.c (1 - x.file)) = none := by rw [oth]; exact file_cut ha hj
      refine ⟨hs, xf, fun i hi n hn => ?_, hp, h.vo, h.eo, ?_⟩
      · by_cases q : i = x.file
        · rw [q, keep] at hn
          exact h.cb _ xf n hn
        · rw [show i = 1 - x.file by omega, oth] at hn
          exact byt n hn
      · rcases h.own with ⟨h1, h2⟩ | ⟨h1, h2, h3⟩
        · refine .inl ⟨h1, fun i hi => ?_⟩
          by_cases q : i = x.file
          · rw [q, keep]
            exact h2 _ xf
          · rw [show i = 1 - x.file by omega]
            exact non
        · exact .inr ⟨h1, by rw [keep]; exact h2, fun g d' es e => by rw [non] at e; cases e⟩
  | ad d =>
    have hk : k < (recD d).length := hk
    have byt : ∀ g ∈ (recD d).take k, 0 ≤ g ∧ g < 256 := fun g hg => recD_byte ha.pk g (List.mem_of_mem_take hg)
    have cur : E.c x.file = D.c x.file ++ (recD d).take k := by
      rw [hc _ xf]
      show setF D.c x.file (appliedM (D.c x.file) ((recD d).take k)) x.file = _
      rw [setF_at, appl_bytes fun g hg => (byt g hg).1]
    refine h.put (f := 0) hs hp xf (fun i hi q => ?_) (fun n hn => ?_) h.vo h.eo fit.1 ?_ (.inl ⟨rfl, rfl, fit.1⟩)
    · rw [hc i hi]
      exact setF_ne _ _ q
    · rw [cur] at hn
      rcases List.mem_append.mp hn with hn | hn
      · exact h.cb _ xf n hn
      · exact byt n hn
    · rw [cur, fit.2]
      exact file_part fit.1 h.vo h.eo ha hk
/-- the act was cut; then a crash -/
theorem Inv.cut {D : Dsk} {x : Ld} {a : Act} (h : Inv D x) (fit : Fit D x a) (ha : Rc (actD a)) {n : Nat} (hn : n < needM x a) (u v : Nat) : Inv ((cutD D x a n).crash u v) x ∨ Inv ((cutD D x a n).crash u v) (actL x a) := by
  have hf := actF_lt h.f a
  have key : ∃ k, k ≤ n ∧ ∀ i, i < 2 → ((cutD D x a n).crash u v).c i = setF D.c (actF x a) (appliedM (D.c (actF x a)) ((actS x a).take k)) i := by
    have hs := h.s
    generalize hA : actF x a = f at hf
    have c0 : ((cutD D x a n).crash u v).c 0 = appliedM (D.c 0) ((setF D.s f (D.s f ++ (actS x a).take n) 0).take u) := by
      unfold cutD
      rw [hA] <;> rfl
    have c1 : ((cutD D x a n).crash u v).c 1 = appliedM (D.c 1) ((setF D.s f (D.s f ++ (actS x a).take n) 1).take v) := by
      unfold cutD
      rw [hA] <;> rfl
    match f, hf with
    | 0, _ =>
      refine ⟨min u n, Nat.min_le_right _ _, fun i hi => ?_⟩
      match i, hi with
      | 0, _ => rw [c0, setF_at, setF_at, hs 0 (by decide), List.nil_append, List.take_take]
      | 1, _ => rw [c1, setF_ne _ _ (by decide), setF_ne _ _ (by decide), hs 1 (by decide), List.take_nil] <;> rfl
    | 1, _ =>
      refine ⟨min v n, Nat.min_le_right _ _, fun i hi => ?_⟩
      match i, hi with
      | 0, _ => rw [c0, setF_ne _ _ (by decide), setF_ne _ _ (by decide), hs 0 (by decide), List.take_nil] <;> rfl
      | 1, _ => rw [c1, setF_at, setF_at, hs 1 (by decide), List.nil_append, List.take_take]
  obtain ⟨k, hk, hc⟩ := key
  have s0 : ∀ i, i < 2 → ((cutD D x a n).crash u v).s i = [] := fun i _ => rfl
  have p0 : ∀ m, ((cutD D x a n).crash u v).pw = some m → 0 ≤ m := fun m e => by cases e
  by_cases q : k < (actS x a).length
  · exact .inl (h.stay fit ha q s0 p0 hc)
  · refine .inr (h.new fit ha s0 p0 fun i hi => ?_)
    rw [hc i hi, List.take_of_length_le (by omega)]
    congr 1
    cases a with
    | ck d => exact appl_clear fun g hg => (recD_byte (begD_pk ha.pk) g hg).1
    | ad d => exact appl_bytes fun g hg => (recD_byte ha.pk g hg).1
theorem Inv.crash {D : Dsk} {x : Ld} (h : Inv D x) (u v : Nat) : Inv (D.crash u v) x := by
  have c0 : (D.crash u v).c 0 = D.c 0 := by
    show appliedM (D.c 0) ((D.s 0).take u) = _
    rw [h.s 0 (by decide), List.take_nil] <;> rfl
  have c1 : (D.crash u v).c 1 = D.c 1 := by
    show appliedM (D.c 1) ((D.s 1).take v) = _
    rw [h.s 1 (by decide), List.take_nil] <;> rfl
  have all : ∀ i, i < 2 → (D.crash u v).c i = D.c i := fun i hi => by
    match i, hi with
    | 0, _ => exact c0
    | 1, _ => exact c1
  have xf := h.f
  refine ⟨fun i _ => rfl, xf, fun i hi n hn => by rw [all i hi] at hn; exact h.cb i hi n hn, (fun m e => by cases e), h.vo, h.eo, ?_⟩
  rcases h.own with ⟨h1, h2⟩ | ⟨h1, h2, h3⟩
  · exact .inl ⟨h1, fun i hi => by rw [all i hi]; exact h2 i hi⟩
  · exact .inr ⟨h1, by rw [all _ xf]; exact h2, fun g d es e => by rw [all _ (by omega)] at e; exact h3 g d es e⟩
theorem Inv.limit {D : Dsk} {x : Ld} (h : Inv D x) {pw : Option Int} (hp : ∀ n, pw = some n → 0 ≤ n) : Inv { D with pw := pw } x := ⟨h.s, h.f, h.cb, hp, h.vo, h.eo, h.own⟩
end Dk

/-! Journals in the heap. -/
namespace Dk
open PySem PySem.Spec PyProof.Rows L2 TL
/-- a journal as it stands -/
def jF (p : Addr) (f : Nat) (g : Int) (v : V) (pe : Addr) (l : Int) : List (Str × V) := [("disk", .ref p), ("file", .int f), ("generation", .int g), ("value", v), ("events", .ref pe), ("last", .int l)]
/-- what is loaded after so many files -/
def ldI (D : Dsk) : Nat → Ld
  | 0 => ld0
  | i + 1 => (ldI D i).look i (fileM (conM D i))
theorem ldI_two (D : Dsk) : ldI D 2 = loadM D := rfl
/-- a value and a list of events -/
def ContAt (H : Hp) (pc pe : Addr) (d : PyData) (es : List PyData) : Prop := ∃ v vs, H pc = some (.tup [v, .ref pe]) ∧ Dq H v d ∧ H pe = some (.lst vs) ∧ Dqs H vs es
theorem ContAt.keep {H H' : Hp} {pc pe : Addr} {d : PyData} {es : List PyData} (g : Gro H H') (k : ∀ o, H pe = some o → H' pe = some o) (h : ContAt H pc pe d es) : ContAt H' pc pe d es := by
  obtain ⟨v, vs, h1, h2, h3, h4⟩ := h
  exact ⟨v, vs, g.tup _ _ h1, h2.mono g, k _ h3, h4.mono g⟩
theorem ContAt.same {H H' : Hp} {pc pe : Addr} {d : PyData} {es : List PyData} (s : Same H H') (h : ContAt H pc pe d es) : ContAt H' pc pe d es := h.keep (Gro.same s) fun o => s pe o
theorem ContAt.stp {H H' : Hp} {a pc pe : Addr} {d : PyData} {es : List PyData} (s : Stp a H H') (n : pe ≠ a) (h : ContAt H pc pe d es) : ContAt H' pc pe d es := h.keep s.gro fun o e => s.at_ e n
theorem ContAt.chg {H H' : Hp} {F F' : List Addr} {pc pe : Addr} {d : PyData} {es : List PyData} (c : Chg F F' H H') (n : pe ∉ F) (h : ContAt H pc pe d es) : ContAt H' pc pe d es := h.keep c.gro fun o e => c.at_ e n
/-- a generation, a value, a list of events -/
def LdAt (H : Hp) (q : Addr) (x : Ld) : Prop := ∃ v pe vs, H q = some (.tup [.int x.gen, v, .ref pe]) ∧ Dq H v x.val ∧ H pe = some (.lst vs) ∧ Dqs H vs x.evs
theorem LdAt.same {H H' : Hp} {q : Addr} {x : Ld} (s : Same H H') (h : LdAt H q x) : LdAt H' q x := by
  obtain ⟨v, pe, vs, h1, h2, h3, h4⟩ := h
  exact ⟨v, pe, vs, s _ _ h1, h2.mono (Gro.same s), s _ _ h3, h4.mono (Gro.same s)⟩
def actK : Act → Str
  | .ck _ => "checkpoint"
  | .ad _ => "add"
def ActAt (H : Hp) (pa : Addr) (a : Act) : Prop := ∃ w, H pa = some (.tup [.str (actK a), w]) ∧ Dq H w (actD a)
theorem ActAt.mono {H H' : Hp} {pa : Addr} {a : Act} (g : Gro H H') (h : ActAt H pa a) : ActAt H' pa a := by
  obtain ⟨w, h1, h2⟩ := h
  exact ⟨w, g.tup _ _ h1, h2.mono g⟩
end Dk

namespace Dk
open PySem PySem.Spec PyProof.Rows L2
/-! steps of the walk -/
local macro_rules | `(tactic| walk_at "sz") => `(tactic| first | assumption | (rw [sizeLine_eq]; (try simp only [PySem.Str.length_append, trS_len, atS_len, eS_len, dotS_len, List.length_append, List.length_cons, List.length_nil, List.length_map]); omega) | ((try simp only [PySem.Str.length_append, trS_len, atS_len, eS_len, dotS_len, List.length_append, List.length_cons, List.length_nil, List.length_map]); omega))
local macro_rules | `(tactic| walk_at "gr") => `(tactic| first
  | assumption
  | ((with_reducible refine' Stp.gro ?f1); (case f1 => assumption))
  | ((with_reducible refine' Gro.same ?f1); (case f1 => assumption)))
local macro_rules | `(tactic| walk_at "grs") => `(tactic| first | with_reducible exact Gro.refl _ | ((with_reducible refine' Gro.trans ?_ ?g2); (case g2 => walk_at "gr")))
local macro_rules | `(tactic| walk_at "grc") => `(tactic| repeat (walk_at "grs"))
local macro_rules | `(tactic| walk_at "chs") => `(tactic| first
  | assumption
  | ((with_reducible refine' same_at ?e1 ?_); (case e1 => assumption))
  | ((with_reducible refine' Stp.at_ ?e1 ?_ ?e3); (case e1 => assumption); (case e3 => walk_at "hp")))
local macro_rules | `(tactic| walk_at "ch") => `(tactic| repeat (walk_at "chs"))
local macro_rules | `(tactic| walk_at "hp") => `(tactic| first
  | assumption
  | ((with_reducible refine' Stp.drw ?e1); (case e1 => assumption))
  | ((with_reducible refine' SqL.of ?e1); (case e1 => walk_at "hp"))
  | ((with_reducible refine' Drw.mono ?e1 ?e2); (case e1 => assumption); (case e2 => walk_at "hp"))
  | ((with_reducible refine' Scr.mono ?e1 ?e2); (case e2 => assumption); (case e1 => walk_at "grc"))
  | ((with_reducible refine' Dq.mono ?e1 ?e2); (case e2 => assumption); (case e1 => walk_at "grc"))
  | ((with_reducible refine' Dqs.mono ?e1 ?e2); (case e2 => assumption); (case e1 => walk_at "grc"))
  | ((with_reducible refine' Gro.tup ?e1 _ _ ?e2); (case e2 => assumption); (case e1 => walk_at "grc"))
  | ((with_reducible refine' ne_drw' ?e1 ?e2); (case e1 => assumption); (case e2 => walk_at "hp"))
  | ((with_reducible refine' from_ ?e1 ?e2); (case e1 => assumption); (case e2 => (intro hh; walk_at "ch"))))
local macro_rules | `(tactic| walk_at "st") => `(tactic| first
  | with_reducible refine' r_seq ?_
  | with_reducible refine' r_set ?_
  | with_reducible refine' r_if ?_
  | with_reducible refine' r_ret ?_
  | with_reducible refine' r_drop ?_
  | with_reducible refine' r_next ?_
  | with_reducible refine' r_asg ?_
  | with_reducible refine' r_break ?_
  | with_reducible refine' r_cont ?_
  | with_reducible refine' r_retN ?_
  | with_reducible refine' r_par ?_
  | with_reducible refine' r_par2 ?_
  | ((with_reducible refine' r_augI ?h ?_); (case h => rfl)))
local macro_rules | `(tactic| walk_at "ex") => `(tactic| first
  | ((with_reducible refine' r_var ?h ?_); (case h => rfl))
  | with_reducible refine' r_c ?_
  | with_reducible refine' r_op ?_
  | with_reducible refine' r_test ?_
  | with_reducible refine' r_tru ?_
  | with_reducible refine' r_cons ?_
  | with_reducible refine' r_nil ?_
  | with_reducible refine' r_cb ?_
  | with_reducible refine' r_call ?_
  | with_reducible refine' r_bm ?_
  | with_reducible refine' r_bm0 ?_
  | with_reducible refine' r_sl ?_
  | with_reducible refine' r_part ?_
  | with_reducible refine' r_nopart ?_
  | with_reducible refine' r_tup ?_
  | with_reducible refine' r_lst ?_
  | with_reducible refine' r_and ?_
  | with_reducible refine' r_or ?_
  | with_reducible refine' r_not ?_
  | with_reducible refine' r_andT ?_
  | with_reducible refine' r_orT ?_
  | with_reducible refine' r_notT ?_
  | with_reducible refine' r_ifx ?_
  | with_reducible refine' r_un ?_
  | with_reducible refine' r_chain ?_
  | with_reducible refine' r_tB ?_
  | with_reducible refine' r_gname ?_
  | with_reducible refine' r_gsub ?_)
local macro_rules | `(tactic| walk_at "va") => `(tactic| first
  | with_reducible refine' r_bl ?_
  | with_reducible refine' r_trub ?_
  | with_reducible refine' r_trui ?_
  | with_reducible refine' r_trun ?_
  | with_reducible refine' r_ex1 ?_
  | with_reducible refine' r_tys ?_
  | with_reducible refine' r_addI ?_
  | ((with_reducible refine' r_addS ?h ?_); (case h => walk_at "sz"))
  | with_reducible refine' r_eqI ?_
  | with_reducible refine' r_eqS ?_
  | with_reducible refine' r_neI ?_
  | with_reducible refine' r_neS ?_
  | with_reducible refine' r_I0 ?_
  | ((with_reducible refine' r_I ?h ?_); (case h => first | assumption | omega | (refine ⟨?_, ?_⟩ <;> omega) | exact ⟨by omega, by omega, by decide⟩))
  | ((with_reducible refine' r_mulI ?h ?_); (case h => first | exact .inl ⟨by decide, by decide⟩ | exact .inr ⟨by decide, by decide⟩ | exact .inl ⟨by omega, by omega⟩ | exact .inr ⟨by omega, by omega⟩))
  | with_reducible refine' r_intI ?_
  | with_reducible refine' r_intB ?_
  | with_reducible refine' r_S1 ?_
  | ((with_reducible refine' r_S1l ?h ?_); (case h => walk_at "sz"))
  | ((with_reducible refine' r_S0 ?h ?_); (case h => walk_at "sz"))
  | ((with_reducible refine' r_slS ?h ?_); (case h => walk_at "sz"))
  | ((with_reducible refine' r_lenS ?h ?_); (case h => walk_at "sz"))
  | with_reducible refine' r_isN ?_
  | with_reducible refine' r_isB ?_
  | with_reducible refine' r_isnotN ?_
  | with_reducible refine' r_isnotB ?_
  | with_reducible refine' r_inS ?_
  | with_reducible refine' r_notinS ?_
  | with_reducible refine' r_neg ?_
  | ((with_reducible refine' r_isi ?h ?h2 ?_); (case h => first | rfl | exact tyN_t (by walk_at "hp") | exact tyN_l (by walk_at "hp")); (case h2 => first | exact kit_NoneType_int | exact kit_NoneType_bool | exact kit_NoneType_tuple | exact kit_NoneType_str | exact kit_NoneType_list | exact kit_bool_int | exact kit_bool_bool | exact kit_bool_tuple | exact kit_bool_str | exact kit_bool_list | exact kit_int_int | exact kit_int_bool | exact kit_int_tuple | exact kit_int_str | exact kit_int_list | exact kit_str_int | exact kit_str_bool | exact kit_str_tuple | exact kit_str_str | exact kit_str_list | exact kit_list_int | exact kit_list_bool | exact kit_list_tuple | exact kit_list_str | exact kit_list_list | exact kit_tuple_int | exact kit_tuple_bool | exact kit_tuple_tuple | exact kit_tuple_str | exact kit_tuple_list))
  | with_reducible refine' r_iteT ?_
  | with_reducible refine' r_iteF ?_
  | with_reducible refine' r_itnT ?_
  | with_reducible refine' r_itnF ?_
  | ((with_reducible refine' r_new ?h ?_); (case h => walk_at "sz"); intro p H' np sm hp))
local macro_rules | `(tactic| walk_at "hv") => `(tactic| first
  | ((with_reducible refine' r_ixT ?h ?h2 ?_); (case h => walk_at "hp"); (case h2 => first | assumption | rfl | exact atI_nat (j := 0) rfl | exact atI_nat (j := 1) rfl | exact atI_nat (j := 2) rfl | exact atI_nat (j := 3) rfl | exact atI_nat (j := 4) rfl))
  | ((with_reducible refine' r_ixL ?h ?h2 ?_); (case h => walk_at "hp"); (case h2 => first | assumption | rfl | exact atI_nat (j := 0) rfl | exact atI_nat (j := 1) rfl | exact atI_nat (j := 2) rfl | exact atI_nat (j := 3) rfl | exact atI_nat (j := 4) rfl))
  | ((with_reducible refine' r_lenT ?h ?_); (case h => walk_at "hp"))
  | ((with_reducible refine' r_lenL ?h ?_); (case h => walk_at "hp"))
  | ((with_reducible refine' r_tyl ?h ?_); (case h => walk_at "hp"))
  | ((with_reducible refine' r_trul ?h ?_); (case h => walk_at "hp"))
  | ((with_reducible refine' r_trut ?h ?_); (case h => exact SqT.of (by walk_at "hp")))
  | ((with_reducible refine' r_setL ?h ?h2 ?_); (case h => walk_at "hp"); (case h2 => rfl); intro H' hp kp)
  | ((with_reducible refine' r_app ?h ?h2 ?_); (case h => walk_at "hp"); (case h2 => walk_at "sz"); intro H' hp kp)
  | ((with_reducible refine' r_addT ?h ?h1 ?h2 ?_); (case h => walk_at "hp"); (case h1 => walk_at "hp"); (case h2 => walk_at "sz"); intro p H' sm hp)
  | ((with_reducible refine' r_addL ?h ?h1 ?h2 ?_); (case h => walk_at "hp"); (case h1 => walk_at "hp"); (case h2 => walk_at "sz"); intro p H' np sm hp)
  | ((with_reducible refine' r_tupleL ?h ?_); (case h => walk_at "hp"); intro p H' np sm hp)
  | ((with_reducible refine' r_tupleT ?h ?_); (case h => walk_at "hp"))
  | ((with_reducible refine' r_listT ?h ?_); (case h => walk_at "hp"); intro p H' np sm hp)
  | ((with_reducible refine' r_listL ?h ?_); (case h => walk_at "hp"); intro p H' np sm hp)
  | ((with_reducible refine' r_gtup ?h ?h2 ?_); (case h => walk_at "hp"); (case h2 => rfl))
  | with_reducible refine' r_gcons ?_
  | with_reducible refine' r_gnil ?_)
local macro_rules | `(tactic| walk_at "call") => `(tactic| fail "no call")
local macro_rules | `(tactic| walk_at "s") => `(tactic| first | walk_at "st" | walk_at "ex" | walk_at "va" | walk_at "hv" | walk_at "call")
local macro_rules | `(tactic| walk_at "go") => `(tactic| repeat (walk_at "s"))
local macro_rules | `(tactic| walk_at "br") => `(tactic| first
  | ((with_reducible refine' r_ite ?_ ?_) <;> intro hc)
  | ((with_reducible refine' r_iten ?_ ?_) <;> intro hc)
  | ((with_reducible refine' r_itb ?_ ?_) <;> intro hc))
local macro_rules | `(tactic| walk_at "all") => `(tactic| repeat' (first | walk_at "s" | walk_at "br"))
local macro_rules | `(tactic| walk_at "nat") => `(tactic| first | omega | ((try simp only [List.length_map, List.length_cons, List.length_nil]); omega) | assumption | decide)
local macro_rules | `(tactic| walk_at "ex") => `(tactic| first | with_reducible refine' r_lcr ?_ | with_reducible refine' r_lcu ?_ | with_reducible refine' r_forr ?_ | with_reducible refine' r_foru ?_)
/-! own classes -/
local macro_rules | `(tactic| walk_at "lk") => `(tactic| first | with_reducible exact lk_hd | ((with_reducible refine' lk_tl ?h1 ?h2); (case h1 => decide +kernel); (case h2 => walk_at "lk")) | with_reducible exact lk_nil)
local macro_rules | `(tactic| walk_at "pf") => `(tactic| first | with_reducible exact pf_nil | with_reducible exact pf_hd | ((with_reducible refine' pf_tl ?h1 ?h2); (case h1 => decide +kernel); (case h2 => walk_at "pf")))
local macro_rules | `(tactic| walk_at "hp") => `(tactic| first
  | ((with_reducible refine' Ins.same ?e1 ?e2); (case e1 => assumption); (case e2 => walk_at "hp"))
  | ((with_reducible refine' Ins.stp ?e1 ?e2 ?e3); (case e1 => assumption); (case e2 => walk_at "hp"); (case e3 => walk_at "hp")))
local macro_rules | `(tactic| walk_at "ex") => `(tactic| first
  | with_reducible refine' r_fld ?_
  | with_reducible refine' r_sfld ?_
  | with_reducible refine' r_meth ?_
  | with_reducible refine' r_make ?_
  | with_reducible refine' r_strS ?_
  | ((with_reducible refine' r_strI ?h ?_); (case h => walk_at "nat")))
local macro_rules | `(tactic| walk_at "hv") => `(tactic| first
  | ((with_reducible refine' r_fldv ?h ?h2 ?h3 ?h4 ?_); (case h => walk_at "hp"); (case h2 => assumption); (case h3 => assumption); (case h4 => walk_at "lk"))
  | ((with_reducible refine' r_methv ?h ?h2 ?_); (case h => walk_at "hp"); (case h2 => walk_at "lk"))
  | ((with_reducible refine' r_sfldv ?h ?h2 ?h3 ?h4 ?h5 ?_); (case h => walk_at "hp"); (case h2 => assumption); (case h3 => assumption); (case h4 => first | decide | (simp only [List.length_cons, List.length_nil]; decide)); (case h5 => walk_at "pf"); intro H' hi hk))
local macro_rules | `(tactic| walk_at "hv") => `(tactic| first
  | ((with_reducible refine' r_inTs ?h ?_); (case h => walk_at "hp"))
  | ((with_reducible refine' r_inLs ?h ?_); (case h => walk_at "hp")))
local macro_rules | `(tactic| walk_at "va") => `(tactic| first
  | with_reducible refine' r_isNN ?_
  | with_reducible refine' r_isNS ?_
  | with_reducible refine' r_isNI ?_
  | with_reducible refine' r_isNR ?_
  | with_reducible refine' r_isNB ?_
  | with_reducible refine' r_isnotNN ?_
  | with_reducible refine' r_isnotNS ?_
  | with_reducible refine' r_isnotNI ?_
  | with_reducible refine' r_isnotNR ?_
  | with_reducible refine' r_isnotNB ?_)
local macro_rules | `(tactic| walk_at "ex") => `(tactic| first
  | with_reducible refine' r_fldaug ?_
  | with_reducible refine' r_inAdd ?_
  | with_reducible refine' r_inSub ?_
  | with_reducible refine' r_callS ?_
  | with_reducible refine' r_methX ?_
  | with_reducible refine' r_raise0 ?_
  | with_reducible refine' r_raise1 ?_
  | with_reducible refine' r_tryA ?_
  | with_reducible refine' r_tryO ?_)
local macro_rules | `(tactic| walk_at "hv") => `(tactic| first
  | ((with_reducible refine' r_augq ?h ?h2 ?h3 ?h4 ?_); (case h => walk_at "hp"); (case h2 => assumption); (case h3 => assumption); (case h4 => walk_at "lk"))
  | ((with_reducible refine' r_putq ?h ?h4 ?h5 ?_); (case h => walk_at "hp"); (case h4 => first | decide | (simp only [List.length_cons, List.length_nil]; decide)); (case h5 => walk_at "pf"); intro H' hi hk))
local macro_rules | `(tactic| walk_at "chs") => `(tactic| first
  | ((with_reducible refine' Fput.lst ?e1 ?_); (case e1 => assumption))
  | ((with_reducible refine' Fput.tup ?e1 ?_); (case e1 => assumption))
  | ((with_reducible refine' but_at ?e1 ?_ ?e3); (case e1 => assumption); (case e3 => first | assumption | exact Ne.symm (by assumption))))
local macro_rules | `(tactic| walk_at "gr") => `(tactic| ((with_reducible refine' Fput.gro ?f1); (case f1 => assumption)))
local macro_rules | `(tactic| walk_at "hp") => `(tactic| first
  | ((with_reducible refine' Ins.fput ?e1 ?e2 ?e3); (case e1 => assumption); (case e2 => first | assumption | exact Ne.symm (by assumption)); (case e3 => walk_at "hp"))
  | ((with_reducible refine' Fput.drw ?e1 ?e2); (case e1 => assumption); (case e2 => walk_at "hp")))
local macro_rules | `(tactic| walk_at "hv") => `(tactic| ((with_reducible refine' r_slL ?h ?_); (case h => walk_at "hp"); intro p H' np sm hp))
local macro_rules | `(tactic| walk_at "va") => `(tactic| first
  | ((with_reducible refine' r_isX ?h ?h2 ?_); (case h => assumption); (case h2 => assumption))
  | ((with_reducible refine' r_isXt ?h ?h2 ?_); (case h => assumption); (case h2 => assumption)))
local macro_rules | `(tactic| walk_at "va") => `(tactic| with_reducible refine' r_min2 ?_)
local macro_rules | `(tactic| walk_at "hv") => `(tactic| ((with_reducible refine' r_slT ?h ?_); (case h => walk_at "hp"); intro p H' sm hp))
/-! boxes: attributes as targets, del, sorted, enumerate -/
local macro_rules | `(tactic| walk_at "ex") => `(tactic| first
  | with_reducible refine' r_gfld ?_
  | with_reducible refine' r_delL ?_
  | with_reducible refine' r_fore ?_)
local macro_rules | `(tactic| walk_at "hv") => `(tactic| first
  | ((with_reducible refine' r_sortI ?h ?_); (case h => walk_at "hp"); intro p ns' H' np pm pw sm hp)
  | ((with_reducible refine' r_setT ?h ?h2 ?_); (case h => walk_at "hp"); (case h2 => walk_at "nat"); intro p l H' np mem nd le sm hp)
  | ((with_reducible refine' r_sortT ?h ?h2 ?_); (case h => walk_at "hp"); (case h2 => walk_at "nat"); intro r ys H' nr pm so sm hp))
/-! copies -/
local macro_rules | `(tactic| walk_at "ex") => `(tactic| with_reducible refine' r_sortK ?_)
local macro_rules | `(tactic| walk_at "hv") => `(tactic| first
  | ((with_reducible refine' r_ninTi ?h ?_); (case h => walk_at "hp"))
  | ((with_reducible refine' r_ninLi ?h ?_); (case h => walk_at "hp")))

/-! records -/
local macro_rules | `(tactic| walk_at "st") => `(tactic| first | ((with_reducible refine' r_augShr ?h ?_); (case h => rfl)) | with_reducible refine' r_raiseP ?_)
local macro_rules | `(tactic| walk_at "ex") => `(tactic| first | with_reducible refine' r_forr2 ?_ | with_reducible refine' r_xf ?_ | with_reducible refine' r_tryMA ?_ | with_reducible refine' r_tryMO ?_)
local macro_rules | `(tactic| walk_at "va") => `(tactic| first | with_reducible refine' r_neB ?_ | with_reducible refine' r_ord ?_ | ((with_reducible refine' r_mkP ?_); intro dx nd sm))
local macro_rules | `(tactic| walk_at "hv") => `(tactic| ((with_reducible refine' r_ext ?h ?h2 ?h3 ?_); (case h => walk_at "hp"); (case h2 => walk_at "hp"); (case h3 => walk_at "sz"); intro H' hp kp))
local macro_rules | `(tactic| walk_at "dec") => `(tactic| first
  | ((with_reducible refine' r_decT ?h ?_); (case h => with_reducible rfl))
  | ((with_reducible refine' r_decnF ?h ?_); (case h => with_reducible rfl))
  | ((with_reducible refine' r_decT ?h ?_); (case h => first | omega | (simp only [List.length_cons, List.length_nil]; omega)))
  | ((with_reducible refine' r_decF ?h ?_); (case h => first | omega | (simp only [List.length_cons, List.length_nil]; omega)))
  | ((with_reducible refine' r_decnT ?h ?_); (case h => first | omega | (simp only [List.length_cons, List.length_nil]; omega)))
  | ((with_reducible refine' r_decnF ?h ?_); (case h => first | omega | (simp only [List.length_cons, List.length_nil]; omega))))
local macro_rules | `(tactic| walk_at "decS") => `(tactic| first
  | ((with_reducible refine' r_decT ?h ?_); (case h => decide +kernel))
  | ((with_reducible refine' r_decF ?h ?_); (case h => decide +kernel))
  | ((with_reducible refine' r_decnT ?h ?_); (case h => decide +kernel))
  | ((with_reducible refine' r_decnF ?h ?_); (case h => decide +kernel)))
local macro_rules | `(tactic| walk_at "god") => `(tactic| repeat (first | walk_at "s" | walk_at "dec" | walk_at "decS"))
local macro_rules | `(tactic| walk_at "va") => `(tactic| first
  | ((with_reducible refine' r_I ?h ?_); (case h => exact cdivW (by omega) (by omega)))
  | ((with_reducible refine' r_mulSI ?h ?_); (case h => first | exact .inl ⟨by decide, by decide⟩ | exact .inr ⟨by decide, by decide⟩ | exact .inl ⟨by omega, by omega⟩ | exact .inr ⟨by omega, by omega⟩))
  | ((with_reducible refine' r_mulSS ?h ?h2 ?_); (case h => exact ⟨by omega, by omega⟩); (case h2 => first | exact ⟨by omega, by omega⟩ | exact ⟨by decide +kernel, by decide +kernel⟩)))
local macro_rules | `(tactic| walk_at "hv") => `(tactic| first
  | ((with_reducible refine' r_xfv ?h ?_); (case h => walk_at "hp"))
  | ((with_reducible refine' r_isY ?h ?hx ?hk ?_); (case h => assumption); (case hx => walk_at "hp"); (case hk => assumption)))
local macro_rules | `(tactic| walk_at "ex") => `(tactic| with_reducible refine' r_tupRg ?_)
local macro_rules | `(tactic| walk_at "va") => `(tactic| ((with_reducible refine' r_rgq ?h ?h2 ?_); (case h => omega); (case h2 => omega); intro p H' np sm hp))

/-! steps that may grow tables -/
local macro_rules | `(tactic| walk_at "ex") => `(tactic| with_reducible refine' r_gx ?_)
local macro_rules | `(tactic| walk_at "gr") => `(tactic| ((with_reducible refine' Sam.gro ?f1); (case f1 => assumption)))
local macro_rules | `(tactic| walk_at "chs") => `(tactic| first
  | ((with_reducible refine' Sam.lst ?e1 ?_); (case e1 => assumption))
  | ((with_reducible refine' Sam.tup ?e1 ?_); (case e1 => assumption)))
local macro_rules | `(tactic| walk_at "hp") => `(tactic| first
  | ((with_reducible refine' Sam.drw ?e1 ?e2); (case e1 => assumption); (case e2 => walk_at "hp"))
  | ((with_reducible refine' Sam.ins ?e1 ?e2); (case e1 => assumption); (case e2 => walk_at "hp"))
  | ((with_reducible refine' Sam.tabG ?e1 ?e2); (case e1 => assumption); (case e2 => walk_at "hp"))
  | ((with_reducible refine' tabG_same ?e1 ?e2); (case e1 => assumption); (case e2 => walk_at "hp")))

def top (i : Nat) : Stmt := PySem.Challenge.pw_dawkline_k08_whole_journals_survive_cras.main.body.getD i (.Pass ⟨0, 0, 0, 0⟩)

/-! ### pack_count -/
abbrev s_pack_count : Stmt := top 18
abbrev N_pack_count : List Str := ["count", "data"]
theorem sc_pack_count : FnScope N_pack_count ["count"] (defScope s_pack_count) := ⟨rfl, rfl, rfl, by decide +kernel, rfl, by decide +kernel, by decide +kernel⟩
theorem bi_pack_count : BindOk "pack_count" s_pack_count ["count"] := fun _ _ _ _ _ _ us hl => match us, hl with | [_], _ => rfl
def sp_pack_count (K : PySem.W.Frag) : Sp := sp1 fun x H Q _ => ∃ n : Nat, x = .int n ∧ (cntR n).length ≤ 1000000 ∧ ∀ p H', H p = none → Same H H' → H' p = some (.lst ((cntR n).map V.int)) → Q (.ref p) H'
theorem ok_pack_count {e : Wd} (D : DefAt e "pack_count" s_pack_count) (B : Bl e.mg) : Can e 1 "pack_count" ["count"] (sp_pack_count e.K) := by
  refine can_of D sc_pack_count bi_pack_count (fun _ _ _ _ h => sp1_len h) (fun cdv f A outer s H vs Q E hr h => ?_)
  obtain ⟨v0, rfl, h⟩ := sp1_ex h
  have nd := sc_pack_count.nd
  obtain ⟨n, rfl, hl, k⟩ := h
  refine ⟨_, (pss_cons (ps_set (i := 1) nd rfl (by first | exact Or.inl rfl | exact Or.inr rfl) (pe_lst pa_nil))
    (pss_cons (ps_while PassesOwn.never (pt_cmpR op_geU (pv 0) pe_int (nomark _)) (pss_cons (ps_expr (pe_bmU (K := e.K) PySem.F.plainAttrs_list PySem.F.slot_list_append PySem.F.type_list_append mt_append (pv 1) (pa_cons (pe_op (op_addU (K := e.K)) pe_int (pe_op op_andU (pv 0) pe_int)) pa_nil)))
    (pss_one (ps_aug (i := 0) nd rfl (by first | exact Or.inl rfl | exact Or.inr rfl) pe_int ip_shrU))))
    (pss_cons (ps_expr (pe_bmU (K := e.K) PySem.F.plainAttrs_list PySem.F.slot_list_append PySem.F.type_list_append mt_append (pv 1) (pa_cons (pv 0) pa_nil)))
    (pss_one (ps_ret (pv 1)))))), ?_⟩
  walk_at "go"
  rename_i p H1 np sm hp
  refine r_while (fun m σ' H' => ∃ (j : Nat) (acc : List Int), m = j ∧ σ' = [some (.int j), some (.ref p)] ∧ Same H H' ∧ H' p = some (.lst (acc.map V.int)) ∧ cntR n = acc ++ cntR j) n ⟨n, [], rfl, rfl, sm, hp, rfl⟩ ?_
  rintro m σ' H' ⟨j, acc, rfl, rfl, sm, hp, ec⟩
  have la : acc.length + (cntR m).length ≤ 1000000 := by rw [← List.length_append, ← ec]; exact hl
  have lp := cntR_pos m
  walk_at "go"
  refine r_wlq (fun c => ?_) (fun c => ?_)
  · walk_at "go"
    rename_i H2 hp2 kp2
    refine ⟨by decide, m / 128, by omega, m / 128, acc ++ [((128 + m % 128 : Nat) : Int)], rfl, by rw [shr7] <;> rfl, Same.but sm np kp2, ?_, ?_⟩
    · rw [hp2, and127, List.map_append] <;> rfl
    · rw [ec, cntR_ge (by omega), List.append_assoc] <;> rfl
  · walk_at "go"
    rename_i H2 hp2 kp2
    refine k p H2 np (Same.but sm np kp2) ?_
    rw [hp2, ec, cntR_lt (by omega), List.map_append] <;> rfl
theorem use_pack_count {K : PySem.W.Frag} {n : Nat} {H : Hp} {Q : VK} {E : XK} (hl : (cntR n).length ≤ 1000000) (k : ∀ p H', H p = none → Same H H' → H' p = some (.lst ((cntR n).map V.int)) → Q (.ref p) H') : sp_pack_count K [.int n] H Q E := ⟨n, rfl, hl, k⟩
local macro_rules | `(tactic| walk_at "call") => `(tactic| ((with_reducible refine' use_pack_count ?h ?_); (case h => assumption); intro p H' np sm hp))

/-! ### pack -/
abbrev s_pack : Stmt := top 19
abbrev N_pack : List Str := ["value", "data", "item", "sign"]
theorem sc_pack : FnScope N_pack ["value"] (defScope s_pack) := ⟨rfl, rfl, rfl, by decide +kernel, rfl, by decide +kernel, by decide +kernel⟩
theorem bi_pack : BindOk "pack" s_pack ["value"] := fun _ _ _ _ _ _ us hl => match us, hl with | [_], _ => rfl
/-- data nested less than n deep -/
def sp_pack (n : Nat) (K : PySem.W.Frag) : Sp := sp1 fun x H Q _ => ∃ d, Dq H x d ∧ Pk d ∧ d.depth < n ∧ (recD d).length ≤ 900000 ∧ ∀ p H', H p = none → Same H H' → H' p = some (.lst ((recD d).map V.int)) → Q (.ref p) H'
theorem use_pack {n : Nat} {K : PySem.W.Frag} {x : V} {d : PyData} {H : Hp} {Q : VK} {E : XK} (h1 : Dq H x d) (h2 : Pk d) (h3 : d.depth < n) (h4 : (recD d).length ≤ 900000) (k : ∀ p H', H p = none → Same H H' → H' p = some (.lst ((recD d).map V.int)) → Q (.ref p) H') : sp_pack n K [x] H Q E := ⟨d, h1, h2, h3, h4, k⟩
theorem no_pack {K : PySem.W.Frag} (vs : List V) (H : Hp) (Q : VK) (E : XK) : ¬ sp_pack 0 K vs H Q E := fun z => by
  obtain ⟨v0, rfl, d, _, _, h, _⟩ := sp1_ex z
  exact absurd h (Nat.not_lt_zero _)
theorem st_pack {e : Wd} {n : Nat} (D : DefAt e "pack" s_pack) (B : Bl e.mg) (g_NONE : ∃ t, e.mg "NONE" = some (.int (0) t)) (g_TRUE : ∃ t, e.mg "TRUE" = some (.int (2) t)) (g_FALSE : ∃ t, e.mg "FALSE" = some (.int (1) t)) (g_NATURAL : ∃ t, e.mg "NATURAL" = some (.int (3) t)) (g_NEGATIVE : ∃ t, e.mg "NEGATIVE" = some (.int (4) t)) (g_STRING : ∃ t, e.mg "STRING" = some (.int (5) t)) (g_TUPLE : ∃ t, e.mg "TUPLE" = some (.int (6) t)) (c_pack_count : Can e 1 "pack_count" ["count"] (sp_pack_count e.K)) (c_pack : Can e (2 + n) "pack" ["value"] (sp_pack n e.K)) : Can e (2 + n + 1) "pack" ["value"] (sp_pack (n + 1) e.K) := by
  refine can_of D sc_pack bi_pack (fun _ _ _ _ h => sp1_len h) (fun cdv f A outer s H vs Q E hr h => ?_)
  obtain ⟨v0, rfl, h⟩ := sp1_ex h
  have nd := sc_pack.nd
  obtain ⟨d, hd, pk, dep, hl, k⟩ := h
  refine ⟨_, (pss_cons (ps_if (pt_cmpR op_isU (pv 0) pe_non (nomark _)) (pss_one (ps_ret (pe_lst (pa_cons (pe_gi g_NONE) pa_nil)))) pss_nil)
    (pss_cons (ps_if (pt_tru (K := e.K) (pe_callB (call_isiU (K := e.K)) (by rfl) B.b_isinstance bt_isinstance (pa_cons (pv 0) (pa_cons (pe_bltn (v := .ty "bool") (by rfl) B.b_bool bt_bool rfl) pa_nil)))) (pss_one (ps_ret (pe_lst (pa_cons (pe_ifExp (pt_tru (K := e.K) (pv 0)) (pe_gi g_TRUE) (pe_gi g_FALSE)) pa_nil)))) pss_nil)
    (pss_cons (ps_if (pt_tru (K := e.K) (pe_callB (call_isiU (K := e.K)) (by rfl) B.b_isinstance bt_isinstance (pa_cons (pv 0) (pa_cons (pe_bltn (v := .ty "int") (by rfl) B.b_int bt_int rfl) pa_nil)))) (pss_one (ps_ret (pe_ifExp (pt_cmpR op_geU (pv 0) pe_int (nomark _)) (pe_op (op_addU (K := e.K)) (pe_lst (pa_cons (pe_gi g_NATURAL) pa_nil)) (pe_can c_pack_count (hr.mono (by first | decide | omega)) passL (pa_cons (pv 0) pa_nil))) (pe_op (op_addU (K := e.K)) (pe_lst (pa_cons (pe_gi g_NEGATIVE) pa_nil)) (pe_can c_pack_count (hr.mono (by first | decide | omega)) passL (pa_cons (pe_op op_subU (pe_un un_neg (pv 0)) pe_int) pa_nil)))))) pss_nil)
    (pss_cons (ps_if (pt_tru (K := e.K) (pe_callB (call_isiU (K := e.K)) (by rfl) B.b_isinstance bt_isinstance (pa_cons (pv 0) (pa_cons (pe_bltn (v := .ty "str") (by rfl) B.b_str bt_str rfl) pa_nil)))) (pss_one (ps_ret (pe_op (op_addU (K := e.K)) (pe_op (op_addU (K := e.K)) (pe_lst (pa_cons (pe_gi g_STRING) pa_nil)) (pe_can c_pack_count (hr.mono (by first | decide | omega)) passL (pa_cons (pe_callB (call_lenU (K := e.K)) (by rfl) B.b_len bt_len (pa_cons (pv 0) pa_nil)) pa_nil))) (pe_lc (own := [("sign", 3)]) (tt := tYes) rfl nd (pi_U (K := e.K) (pv 0)) (blkOk_by (N := N_pack) (sc := defScope s_pack) (by decide +kernel)) (fun _ _ _ _ _ => (pg_name (i := 3) nd rfl (by first | exact Or.inl rfl | exact Or.inr rfl))) (fun _ _ _ _ _ => pts_nil) (fun _ _ _ _ _ => (pe_callB call_ordU (by rfl) B.b_ord bt_ord (pa_cons (pv 3) pa_nil))))))) pss_nil)
    (pss_cons (ps_set (i := 1) nd rfl (by first | exact Or.inl rfl | exact Or.inr rfl) (pe_op (op_addU (K := e.K)) (pe_lst (pa_cons (pe_gi g_TUPLE) pa_nil)) (pe_can c_pack_count (hr.mono (by first | decide | omega)) passL (pa_cons (pe_callB (call_lenU (K := e.K)) (by rfl) B.b_len bt_len (pa_cons (pv 0) pa_nil)) pa_nil))))
    (pss_cons (ps_for PassesOwn.never rfl (pi_U (K := e.K) (pv 0)) (pg_name (i := 2) nd rfl (by first | exact Or.inl rfl | exact Or.inr rfl)) (pss_one (ps_expr (pe_bmU (K := e.K) PySem.F.plainAttrs_list PySem.F.slot_list_extend PySem.F.type_list_extend mt_extend (pv 1) (pa_cons (pe_can c_pack (hr.mono (by first | decide | omega)) passL (pa_cons (pv 2) pa_nil)) pa_nil)))))
    (pss_one (ps_ret (pv 1))))))))), ?_⟩
  cases hd with
  | non =>
    rw [recD] at k
    walk_at "go"
    rename_i p H1 np sm hp
    exact k p H1 np sm hp
  | bl b =>
    rw [recD] at k
    cases b
    all_goals
      walk_at "go"
      rename_i p H1 np sm hp
      exact k p H1 np sm hp
  | int i =>
    rw [recD] at k hl
    walk_at "go"
    refine r_ite (fun c => ?_) (fun c => ?_)
    · rw [if_pos c] at k hl
      obtain ⟨j, rfl⟩ : ∃ j : Nat, i = j := ⟨i.toNat, by omega⟩
      rw [Int.toNat_natCast] at k hl
      have hc : (cntR j).length ≤ 1000000 := by rw [List.length_cons] at hl; omega
      walk_at "go"
      rename_i p1 H1 n1 m1 h1 p2 H2 n2 m2 h2 p3 H3 n3 m3 h3
      exact k p3 H3 (Same.before (m1.trans m2) n3) ((m1.trans m2).trans m3) h3
    · rw [if_neg c] at k hl
      obtain ⟨j, ej⟩ : ∃ j : Nat, -i - 1 = (j : Int) := ⟨(-i - 1).toNat, by omega⟩
      rw [ej, Int.toNat_natCast] at k hl
      have hc : (cntR j).length ≤ 1000000 := by rw [List.length_cons] at hl; omega
      walk_at "go"
      rw [ej]
      walk_at "go"
      rename_i p1 H1 n1 m1 h1 p2 H2 n2 m2 h2 p3 H3 n3 m3 h3
      exact k p3 H3 (Same.before (m1.trans m2) n3) ((m1.trans m2).trans m3) h3
  | str s =>
    rw [recD] at k hl
    have hc : (cntR s.length).length ≤ 1000000 := by rw [List.length_cons, List.length_append] at hl; omega
    have hs : s.length ≤ 900000 := by rw [List.length_cons, List.length_append, codesI_len] at hl; omega
    walk_at "go"
    rename_i p1 H1 n1 m1 h1 p2 H2 n2 m2 h2 p3 H3 n3 m3 h3
    refine lc_S (sr_same H3) (fun i ds => ds = ((codesI s).take i).map PyData.int) (by omega) rfl (hw1 rfl) ?_ ?_
    · intro i c H4 ds Q1 Qn hc4 s4 rv q1 q2
      refine r_tyes (r_iteT ?_)
      walk_at "go"
      refine q1 _ (.int c) H4 (Same.refl _) (.int _) ?_
      have hi : (codesI s)[i]? = some ((c : Nat) : Int) := by
        unfold codesI
        rw [List.getElem?_map]
        have hc5 : s.cps.toList[i]? = some c := hc4
        rw [hc5] <;> rfl
      rw [take_one hi, List.map_append, ← rv] <;> rfl
    · intro q H4 ys ds nq s4 hq dq rv
      rw [← codesI_len, List.take_length] at rv
      subst rv
      rw [dqs_ints dq] at hq
      have h4 := s4 _ _ h3
      have l4 : (cntR s.length).length + (codesI s).length < 1000000 := by rw [List.length_cons, List.length_append] at hl; omega
      walk_at "go"
      rename_i p5 H5 n5 m5 h5
      refine k p5 H5 (Same.before (((m1.trans m2).trans m3).trans s4) n5) ((((m1.trans m2).trans m3).trans s4).trans m5) ?_
      rw [h5]
      simp
  | tup ha hs =>
    rename_i a xs ds
    rw [recD] at k hl
    rw [Pk] at pk
    rw [PyData.depth] at dep
    have hx := hs.length
    have hc : (cntR ds.length).length ≤ 1000000 := by rw [List.length_cons, List.length_append] at hl; omega
    rw [← hx] at hc
    walk_at "go"
    rename_i p1 H1 n1 m1 h1 p2 H2 n2 m2 h2 p3 H3 n3 m3 h3
    have s3 := (m1.trans m2).trans m3
    have np3 := Same.before (m1.trans m2) n3
    refine for_T (fun i σ' H' => ∃ it, σ' = [some (.ref a), some (.ref p3), it, none] ∧ Same H H' ∧ H' p3 = some (.lst ((6 :: (cntR ds.length ++ recsD (ds.take i))).map V.int))) (s3 _ _ ha) ⟨none, rfl, s3, ?_⟩ ?_ ?_ ?_
    · rw [h3, hx]
      simp [recsD]
    · rintro i σ' H' _ ⟨it, rfl, sm, hp⟩
      exact sm _ _ ha
    · rintro i x σ' H' hi ⟨it, rfl, sm, hp⟩
      obtain ⟨d, hd, dx⟩ := hs.get hi
      have dm := List.mem_of_getElem? hd
      have hl2 := recsD_mem dm
      have hl3 := recsD_take ds i
      have hl4 := recsD_take ds (i + 1)
      have tk := take_one hd
      rw [tk, recsD_snoc, List.length_append] at hl4
      rw [List.length_cons, List.length_append] at hl
      walk_at "go"
      refine use_pack (dx.mono (Gro.same sm)) (pks_mem.mp pk d dm) (by have := depth_mem dm; omega) (by omega) fun p5 H5 n5 m5 h5 => ?_
      have hp5 := m5 _ _ hp
      walk_at "go"
      rename_i H6 h6 k6
      refine ⟨_, rfl, Same.but (sm.trans m5) np3 k6, ?_⟩
      rw [h6, tk, recsD_snoc]
      simp
    · rintro σ' H' ⟨it, rfl, sm, hp⟩
      rw [hx, List.take_length] at hp
      walk_at "go"
      exact k p3 H' np3 sm hp
theorem ok_pack {e : Wd} (D : DefAt e "pack" s_pack) (B : Bl e.mg) (g_NONE : ∃ t, e.mg "NONE" = some (.int (0) t)) (g_TRUE : ∃ t, e.mg "TRUE" = some (.int (2) t)) (g_FALSE : ∃ t, e.mg "FALSE" = some (.int (1) t)) (g_NATURAL : ∃ t, e.mg "NATURAL" = some (.int (3) t)) (g_NEGATIVE : ∃ t, e.mg "NEGATIVE" = some (.int (4) t)) (g_STRING : ∃ t, e.mg "STRING" = some (.int (5) t)) (g_TUPLE : ∃ t, e.mg "TUPLE" = some (.int (6) t)) (c_pack_count : Can e 1 "pack_count" ["count"] (sp_pack_count e.K)) : Can e 40 "pack" ["value"] (sp_pack 30 e.K) := by
  have key : ∀ n, Can e (2 + n) "pack" ["value"] (sp_pack n e.K) := by
    intro n
    induction n with
    | zero => exact can_no D bi_pack no_pack
    | succ n ih => exact st_pack D B g_NONE g_TRUE g_FALSE g_NATURAL g_NEGATIVE g_STRING g_TUPLE c_pack_count ih
  exact (key 30).imp (fun _ _ _ _ h => h) (by decide)

/-! ### unpack_count -/
abbrev s_unpack_count : Stmt := top 20
abbrev N_unpack_count : List Str := ["data", "at", "count", "shift", "group"]
theorem sc_unpack_count : FnScope N_unpack_count ["data", "at"] (defScope s_unpack_count) := ⟨rfl, rfl, rfl, by decide +kernel, rfl, by decide +kernel, by decide +kernel⟩
theorem bi_unpack_count : BindOk "unpack_count" s_unpack_count ["data", "at"] := fun _ _ _ _ _ _ us hl => match us, hl with | [_, _], _ => rfl
def sp_unpack_count (K : PySem.W.Frag) : Sp := sp2 fun x y H Q E => ∃ a ns, ∃ i : Nat, x = .ref a ∧ y = .int i ∧ H a = some (.lst (ns.map V.int)) ∧ ByN ns ∧ ansR K H Q E ns.length Wn (rdCount ns i)
theorem use_unpack_count {K : PySem.W.Frag} {a : Addr} {ns : List Int} {i : Nat} {H : Hp} {Q : VK} {E : XK} (h1 : H a = some (.lst (ns.map V.int))) (h2 : ByN ns) (k : ansR K H Q E ns.length Wn (rdCount ns i)) : sp_unpack_count K [.ref a, .int i] H Q E := ⟨a, ns, i, rfl, rfl, h1, h2, k⟩
theorem ok_unpack_count {e : Wd} (D : DefAt e "unpack_count" s_unpack_count) (B : Bl e.mg) (gm_InvalidRecord : e.mg "InvalidRecord" = some (.ref (He.ga e.K "InvalidRecord"))) (gm_Incomplete : e.mg "Incomplete" = some (.ref (He.ga e.K "Incomplete"))) (xp_InvalidRecord : XpC e "InvalidRecord" (He.ga e.K "InvalidRecord")) (xp_Incomplete : XpC e "Incomplete" (He.ga e.K "Incomplete")) : Can e 3 "unpack_count" ["data", "at"] (sp_unpack_count e.K) := by
  refine canX_of D sc_unpack_count bi_unpack_count (fun _ _ _ _ h => sp2_len h) (fun cdv f A outer s H vs Q E hr h tk po => ?_)
  obtain ⟨v0, v1, rfl, h⟩ := sp2_ex h
  have nd := sc_unpack_count.nd
  obtain ⟨a, ns, i, rfl, rfl, ha, by_, k⟩ := h
  have hlen := by_.len
  refine ⟨_, (pss_cons (ps_set (i := 2) nd rfl (by first | exact Or.inl rfl | exact Or.inr rfl) pe_int)
    (pss_cons (ps_set (i := 3) nd rfl (by first | exact Or.inl rfl | exact Or.inr rfl) pe_int)
    (pss_cons (ps_while po (pt_cmpR op_ltU (pv 1) (pe_callB (call_lenU (K := e.K)) (by rfl) B.b_len bt_len (pa_cons (pv 0) pa_nil)) (nomark _)) (pss_cons (ps_set (i := 4) nd rfl (by first | exact Or.inl rfl | exact Or.inr rfl) (pe_ix (ix_U (K := e.K)) (pv 0) (pv 1) (fun _ _ => rfl)))
    (pss_cons (ps_aug (i := 2) nd rfl (by first | exact Or.inl rfl | exact Or.inr rfl) (pe_op op_shlU (pe_op op_andU (pv 4) pe_int) (pv 3)) ip_add)
    (pss_cons (ps_if (pt_cmpR op_ltU (pv 4) pe_int (nomark _)) (pss_cons (ps_if (PW.pt (pw_and (pt_cmpR (op_eqU (K := e.K) hr) (pv 4) pe_int (nomark _)) (pw_and1 (pt_cmpR op_gtU (pv 3) pe_int (nomark _))))) (pss_one (ps_raiseU rfl tk (mkP (k := 0) xp_InvalidRecord (hr.mono (by first | decide | omega)) (pv 1)))) pss_nil)
    (pss_one (ps_ret (pe_tup (pa_cons (pv 2) (pa_cons (pe_op (op_addU (K := e.K)) (pv 1) pe_int) pa_nil)))))) pss_nil)
    (pss_cons (ps_aug (i := 3) nd rfl (by first | exact Or.inl rfl | exact Or.inr rfl) pe_int ip_add)
    (pss_one (ps_aug (i := 1) nd rfl (by first | exact Or.inl rfl | exact Or.inr rfl) pe_int ip_add)))))))
    (pss_one (ps_raiseU rfl tk (mkP (k := 0) xp_Incomplete (hr.mono (by first | decide | omega)) (pe_callB (call_lenU (K := e.K)) (by rfl) B.b_len bt_len (pa_cons (pv 0) pa_nil)))))))), ?_⟩
  walk_at "go"
  refine r_while (fun m σ' H' => ∃ q sh acc : Nat, ∃ g, m = ns.length - q ∧ σ' = [some (.ref a), some (.int q), some (.int acc), some (.int sh), g] ∧ H' = H ∧ sh ≤ 7 * q ∧ rdC (ns.drop q) q sh acc = rdCount ns i) (ns.length - i) ⟨i, 0, 0, none, rfl, rfl, rfl, Nat.zero_le _, rfl⟩ ?_
  rintro m σ' H' ⟨q, sh, acc, g0, rfl, rfl, rfl, hsh, er⟩
  walk_at "go"
  refine r_wlq (fun c => ?_) (fun c => ?_)
  · rw [List.length_map] at c
    have hq : q < ns.length := by omega
    obtain ⟨g, hg⟩ : ∃ g, ns[q]? = some g := ⟨ns[q], List.getElem?_eq_getElem hq⟩
    have hb := by_.byt g (List.mem_of_getElem? hg)
    have hv := atI_int hg
    have hp := cpow127 (g := g) (sh := sh) hb.1 (by omega)
    rw [rdC_step hg] at er
    walk_at "go"
    rw [shl_add hb.1]
    refine r_ite (fun c1 => ?_) (fun c1 => ?_)
    · rw [if_pos c1] at er
      walk_at "go"
      refine r_ite (fun c2 => ?_) (fun c2 => ?_)
      · walk_at "go"
        refine r_ite (fun c3 => ?_) (fun c3 => ?_)
        · rw [if_pos ⟨c2, by omega⟩] at er
          walk_at "go"
          rename_i dx nd sm
          exact ansR_bad k er.symm dx _ sm upd_same
        · rw [if_neg (by omega)] at er
          walk_at "go"
          rename_i p H2 np sm hp2
          exact ansR_ok k er.symm p _ H2 np sm hp2 rfl
      · rw [if_neg (by omega)] at er
        walk_at "go"
        rename_i p H2 np sm hp2
        exact ansR_ok k er.symm p _ H2 np sm hp2 rfl
    · rw [if_neg c1] at er
      walk_at "go"
      exact ⟨_, by omega, q + 1, sh + 7, _, _, rfl, rfl, rfl, by omega, er⟩
  · rw [List.length_map] at c
    rw [rdC_end (by omega)] at er
    walk_at "go"
    rename_i dx nd sm
    refine ansR_inc k er.symm dx _ sm ?_
    rw [upd_same, List.length_map]

/-! ### unpack_string -/
abbrev s_unpack_string : Stmt := top 21
abbrev N_unpack_string : List Str := ["data", "at", "count", "signs", "place", "code"]
theorem sc_unpack_string : FnScope N_unpack_string ["data", "at"] (defScope s_unpack_string) := ⟨rfl, rfl, rfl, by decide +kernel, rfl, by decide +kernel, by decide +kernel⟩
theorem bi_unpack_string : BindOk "unpack_string" s_unpack_string ["data", "at"] := fun _ _ _ _ _ _ us hl => match us, hl with | [_, _], _ => rfl
def sp_unpack_string (K : PySem.W.Frag) : Sp := sp2 fun x y H Q E => ∃ a ns, ∃ i : Nat, x = .ref a ∧ y = .int i ∧ H a = some (.lst (ns.map V.int)) ∧ ByN ns ∧ ansR K H Q E ns.length Ws (rdStr ns i)
theorem use_unpack_string {K : PySem.W.Frag} {a : Addr} {ns : List Int} {i : Nat} {H : Hp} {Q : VK} {E : XK} (h1 : H a = some (.lst (ns.map V.int))) (h2 : ByN ns) (k : ansR K H Q E ns.length Ws (rdStr ns i)) : sp_unpack_string K [.ref a, .int i] H Q E := ⟨a, ns, i, rfl, rfl, h1, h2, k⟩
theorem ok_unpack_string {e : Wd} (D : DefAt e "unpack_string" s_unpack_string) (B : Bl e.mg) (g_FIRST : ∃ t, e.mg "FIRST" = some (.int (32) t)) (g_LAST : ∃ t, e.mg "LAST" = some (.int (126) t)) (g_GAP : ∃ t, e.mg "GAP" = some (.int (37) t)) (g_SIGNS : ∃ t, e.mg "SIGNS" = some (.str (" !\"#$&'()*+,-./0123456789:;<=>?@ABCDEFGHIJKLMNOPQRSTUVWXYZ[\\]^_`abcdefghijklmnopqrstuvwxyz{|}~" : Str) t)) (gm_InvalidRecord : e.mg "InvalidRecord" = some (.ref (He.ga e.K "InvalidRecord"))) (gm_Incomplete : e.mg "Incomplete" = some (.ref (He.ga e.K "Incomplete"))) (xp_InvalidRecord : XpC e "InvalidRecord" (He.ga e.K "InvalidRecord")) (xp_Incomplete : XpC e "Incomplete" (He.ga e.K "Incomplete")) (c_unpack_count : Can e 3 "unpack_count" ["data", "at"] (sp_unpack_count e.K)) : Can e 4 "unpack_string" ["data", "at"] (sp_unpack_string e.K) := by
  refine canX_of D sc_unpack_string bi_unpack_string (fun _ _ _ _ h => sp2_len h) (fun cdv f A outer s H vs Q E hr h tk po => ?_)
  obtain ⟨v0, v1, rfl, h⟩ := sp2_ex h
  have nd := sc_unpack_string.nd
  obtain ⟨a, ns, i, rfl, rfl, ha, by_, k⟩ := h
  have hlen := by_.len
  refine ⟨_, (pss_cons (ps_asg (pe_canX tk c_unpack_count (hr.mono (by first | decide | omega)) (pa_cons (pv 0) (pa_cons (pv 1) pa_nil))) (pg_tupU (K := e.K) (n := 2) rfl (pgs_cons (pg_name (i := 2) nd rfl (by first | exact Or.inl rfl | exact Or.inr rfl)) (pgs_cons (pg_name (i := 1) nd rfl (by first | exact Or.inl rfl | exact Or.inr rfl)) pgs_nil))))
    (pss_cons (ps_set (i := 3) nd rfl (by first | exact Or.inl rfl | exact Or.inr rfl) (pe_lst pa_nil))
    (pss_cons (ps_for po rfl (pi_range2 rfl B.b_range (pa_cons (pv 1) (pa_cons (pe_callB (call_min2U rfl) (by rfl) B.b_min bt_min (pa_cons (pe_op (op_addU (K := e.K)) (pv 1) (pv 2)) (pa_cons (pe_callB (call_lenU (K := e.K)) (by rfl) B.b_len bt_len (pa_cons (pv 0) pa_nil)) pa_nil))) pa_nil))) (pg_name (i := 4) nd rfl (by first | exact Or.inl rfl | exact Or.inr rfl)) (pss_cons (ps_set (i := 5) nd rfl (by first | exact Or.inl rfl | exact Or.inr rfl) (pe_ix (ix_U (K := e.K)) (pv 0) (pv 4) (fun _ _ => rfl)))
    (pss_cons (ps_if (PW.pt (pw_or (pt_cmpR op_ltU (pv 5) (pe_gi g_FIRST) (nomark _)) (pw_or (pt_cmpR op_gtU (pv 5) (pe_gi g_LAST) (nomark _)) (pw_or1 (pt_cmpR (op_eqU (K := e.K) hr) (pv 5) (pe_gi g_GAP) (nomark _)))))) (pss_one (ps_raiseU rfl tk (mkP (k := 0) xp_InvalidRecord (hr.mono (by first | decide | omega)) (pv 4)))) pss_nil)
    (pss_one (ps_expr (pe_bmU (K := e.K) PySem.F.plainAttrs_list PySem.F.slot_list_append PySem.F.type_list_append mt_append (pv 3) (pa_cons (pe_ix (ix_U (K := e.K)) (pe_gs g_SIGNS) (pe_op op_subU (pe_op op_subU (pv 5) (pe_gi g_FIRST)) (pe_ifExp (pt_cmpR op_gtU (pv 5) (pe_gi g_GAP) (nomark _)) pe_int pe_int)) (fun _ _ => rfl)) pa_nil)))))))
    (pss_cons (ps_if (pt_cmpR op_gtU (pe_op (op_addU (K := e.K)) (pv 1) (pv 2)) (pe_callB (call_lenU (K := e.K)) (by rfl) B.b_len bt_len (pa_cons (pv 0) pa_nil)) (nomark _)) (pss_one (ps_raiseU rfl tk (mkP (k := 0) xp_Incomplete (hr.mono (by first | decide | omega)) (pe_callB (call_lenU (K := e.K)) (by rfl) B.b_len bt_len (pa_cons (pv 0) pa_nil))))) pss_nil)
    (pss_one (ps_ret (pe_tup (pa_cons (pe_bmU (K := e.K) PySem.F.plainAttrs_str PySem.F.slot_str_join PySem.F.type_str_join (mt_joinU (K := e.K)) pe_str (pa_cons (pv 3) pa_nil)) (pa_cons (pe_op (op_addU (K := e.K)) (pv 1) (pv 2)) pa_nil))))))))), ?_⟩
  unfold rdStr at k
  walk_at "go"
  refine use_unpack_count ha by_ (ansR_of (fun c q er p v H1 np s1 hp w => ?_) (fun er dx H1 s1 hx => ansR_inc k (by rw [er] <;> rfl) dx H1 s1 hx) (fun j er dx H1 s1 hx => ansR_bad k (by rw [er] <;> rfl) dx H1 s1 hx))
  obtain rfl : v = .int (c : Nat) := w
  have qb := rdCount_le er
  have ha1 := s1 _ _ ha
  rw [er] at k
  replace k : ansR e.K H Q E ns.length Ws (match ((ns.drop q).take c).findIdx? badC with | some j => .bad (q + j) | none => if ns.length < q + c then .inc else .ok (strOf ((ns.drop q).take c)) (q + c)) := k
  walk_at "go"
  rename_i p2 H2 n2 m2 h2
  have s2 := s1.trans m2
  have np2 := Same.before s1 n2
  have ha2 := s2 _ _ ha
  clear hp ha1
  walk_at "go"
  refine for_rng2 (fun i σ' H' => ∃ pl code, σ' = [some (.ref a), some (.int q), some (.int c), some (.ref p2), pl, code] ∧ Same H H' ∧ H' p2 = some (.lst (((ns.drop q).take i).map fun g => V.str ⟨#[g.toNat]⟩)) ∧ ∀ g ∈ (ns.drop q).take i, badC g = false) (by omega) (by omega) ?_ ?_ ⟨none, none, rfl, s2, h2, by simp⟩ ?_ ?_
  · rw [List.length_map]
    split <;> omega
  · rw [List.length_map]
    split <;> omega
  · rintro i σ' H3 hi ⟨pl, code, rfl, s3, h3, gd⟩
    rw [List.length_map] at hi
    have hic : i < c ∧ q + i < ns.length := by
      split at hi <;> omega
    obtain ⟨g, hg⟩ : ∃ g, ns[q + i]? = some g := ⟨ns[q + i], List.getElem?_eq_getElem hic.2⟩
    have hb := by_.byt g (List.mem_of_getElem? hg)
    have hv := atI_int hg
    have hgd : (ns.drop q)[i]? = some g := by rw [List.getElem?_drop]; exact hg
    have hgc : ((ns.drop q).take c)[i]? = some g := by rw [List.getElem?_take, if_pos hic.1]; exact hgd
    have tk : ((ns.drop q).take c).take i = (ns.drop q).take i := by rw [List.take_take, Nat.min_eq_left (by omega)]
    have ha3 := s3 _ _ ha
    rw [Int.natCast_add] at hv
    have bad : badC g = true → ∀ dx, Same H3 (upd H3 dx (.xd [("place", .int ((q : Int) + (i : Int)))])) → E (.ref (He.ga e.K "InvalidRecord")) (some dx) (upd H3 dx (.xd [("place", .int ((q : Int) + (i : Int)))])) := fun hbad dx sm => by
      have e1 := fi_some hgc hbad (by rw [tk]; exact gd)
      rw [e1] at k
      rw [← Int.natCast_add] at sm ⊢
      exact ansR_bad k rfl dx _ (s3.trans sm) upd_same
    have good : badC g = false → ∀ H4, Same H H4 → H4 p2 = some (.lst ((((ns.drop q).take i).map fun g => V.str ⟨#[g.toNat]⟩) ++ [V.str ⟨#[g.toNat]⟩])) → H4 p2 = some (.lst (((ns.drop q).take (i + 1)).map fun g => V.str ⟨#[g.toNat]⟩)) ∧ ∀ g ∈ (ns.drop q).take (i + 1), badC g = false := fun hgood H4 s4 h4 => by
      rw [take_one hgd, List.map_append]
      refine ⟨h4, fun x hx => ?_⟩
      rcases List.mem_append.mp hx with hx | hx
      · exact gd x hx
      · rw [List.mem_singleton.mp hx]
        exact hgood
    walk_at "go"
    refine r_ite (fun c1 => ?_) (fun c1 => ?_)
    · walk_at "go"
      rename_i dx nd sm
      exact bad (by unfold badC; simp [c1]) dx sm
    · walk_at "go"
      refine r_ite (fun c2 => ?_) (fun c2 => ?_)
      · walk_at "go"
        rename_i dx nd sm
        exact bad (by unfold badC; simp [c2]) dx sm
      · walk_at "go"
        refine r_ite (fun c3 => ?_) (fun c3 => ?_)
        · walk_at "go"
          rename_i dx nd sm
          exact bad (by unfold badC; simp [c3]) dx sm
        · have hgood : badC g = false := badC_mk (by omega)
          have sl : signsS.length ≤ sizeLine := by rw [signs_len, sizeLine_eq]; decide
          have l3 : ((ns.drop q).take i).length ≤ 140000 := by rw [List.length_take, List.length_drop]; omega
          walk_at "go"
          refine r_ite (fun c4 => ?_) (fun c4 => ?_)
          · walk_at "go"
            refine r_ixS (signs_hi c4 (by omega)) sl ?_
            walk_at "go"
            rename_i H4 h4 k4
            have s4 := Same.but s3 np2 k4
            exact ⟨_, _, rfl, s4, good hgood H4 s4 h4⟩
          · walk_at "go"
            refine r_ixS (signs_lo (by omega) (by omega)) sl ?_
            walk_at "go"
            rename_i H4 h4 k4
            have s4 := Same.but s3 np2 k4
            exact ⟨_, _, rfl, s4, good hgood H4 s4 h4⟩
  · rintro σ' H3 ⟨pl, code, rfl, s3, h3, gd⟩
    have ha3 := s3 _ _ ha
    have em : ((if ((ns.map V.int).length : Int) < (q : Int) + (c : Int) then ((ns.map V.int).length : Int) else (q : Int) + (c : Int)) - (q : Int)).toNat = min c (ns.length - q) := by
      rw [List.length_map]
      split <;> omega
    rw [em] at h3 gd
    have tm : (ns.drop q).take (min c (ns.length - q)) = (ns.drop q).take c := by
      rw [← List.take_take, List.take_of_length_le (l := ns.drop q) (by rw [List.length_drop]; exact Nat.le_refl _)]
    rw [tm] at h3 gd
    rw [fi_none.mpr gd] at k
    replace k : ansR e.K H Q E ns.length Ws (if ns.length < q + c then .inc else .ok (strOf ((ns.drop q).take c)) (q + c)) := k
    walk_at "go"
    refine r_ite (fun c1 => ?_) (fun c1 => ?_)
    · rw [List.length_map] at c1
      rw [if_pos (by omega)] at k
      walk_at "go"
      rename_i dx nd sm
      refine ansR_inc k rfl dx _ (s3.trans sm) ?_
      rw [upd_same, List.length_map]
    · rw [List.length_map] at c1
      rw [if_neg (by omega)] at k
      have h3' : H3 p2 = some (.lst ((((ns.drop q).take c).map fun g => (⟨#[g.toNat]⟩ : Str)).map V.str)) := by
        rw [h3, List.map_map] <;> rfl
      walk_at "go"
      refine r_join h3' ?_ ?_
      · have := sum_ones (S := ((ns.drop q).take c).map Int.toNat) (ss := ((ns.drop q).take c).map fun g => (⟨#[g.toNat]⟩ : Str)) (fun s hs => by
          obtain ⟨g, hg, rfl⟩ := List.mem_map.mp hs
          exact ⟨g.toNat, List.mem_map_of_mem hg, rfl⟩)
        rw [this, eS_len, List.length_map, List.length_take, List.length_drop]
        omega
      · rw [join_codes]
        walk_at "go"
        rename_i p4 H4 n4 m4 h4
        rw [← Int.natCast_add] at h4
        exact ansR_ok k rfl p4 _ H4 (Same.before s3 n4) (s3.trans m4) h4 rfl

/-! ### unpack_tuple -/
abbrev s_unpack_tuple : Stmt := top 22
abbrev N_unpack_tuple : List Str := ["data", "at", "depth", "count", "items", "item"]
theorem sc_unpack_tuple : FnScope N_unpack_tuple ["data", "at", "depth"] (defScope s_unpack_tuple) := ⟨rfl, rfl, rfl, by decide +kernel, rfl, by decide +kernel, by decide +kernel⟩
theorem bi_unpack_tuple : BindOk "unpack_tuple" s_unpack_tuple ["data", "at", "depth"] := fun _ _ _ _ _ _ us hl => match us, hl with | [_, _, _], _ => rfl
def sp_unpack_at (n : Nat) (K : PySem.W.Frag) : Sp := sp3 fun x y z H Q E => ∃ a ns, ∃ i dep : Nat, x = .ref a ∧ y = .int i ∧ z = .int dep ∧ dep < n ∧ H a = some (.lst (ns.map V.int)) ∧ ByN ns ∧ i ≤ ns.length ∧ ansR K H Q E ns.length Wd_ (rdA ns dep i)
theorem use_unpack_at {n : Nat} {K : PySem.W.Frag} {a : Addr} {ns : List Int} {i dep : Nat} {H : Hp} {Q : VK} {E : XK} (h : dep < n) (h1 : H a = some (.lst (ns.map V.int))) (h2 : ByN ns) (h3 : i ≤ ns.length) (k : ansR K H Q E ns.length Wd_ (rdA ns dep i)) : sp_unpack_at n K [.ref a, .int i, .int dep] H Q E := ⟨a, ns, i, dep, rfl, rfl, rfl, h, h1, h2, h3, k⟩
theorem no_unpack_at {K : PySem.W.Frag} (vs : List V) (H : Hp) (Q : VK) (E : XK) : ¬ sp_unpack_at 0 K vs H Q E := fun z => by
  obtain ⟨v0, v1, v2, rfl, a, ns, i, dep, _, _, _, h, _⟩ := sp3_ex z
  exact absurd h (Nat.not_lt_zero _)
def sp_unpack_tuple (n : Nat) (K : PySem.W.Frag) : Sp := sp3 fun x y z H Q E => ∃ a ns, ∃ i dep : Nat, x = .ref a ∧ y = .int i ∧ z = .int dep ∧ dep < n ∧ H a = some (.lst (ns.map V.int)) ∧ ByN ns ∧ ansR K H Q E ns.length Wd_ ((rdCount ns i).bind fun c p => (rdItems (rdA ns dep) c p).map .tuple)
theorem use_unpack_tuple {n : Nat} {K : PySem.W.Frag} {a : Addr} {ns : List Int} {i dep : Nat} {H : Hp} {Q : VK} {E : XK} (h : dep < n) (h1 : H a = some (.lst (ns.map V.int))) (h2 : ByN ns) (k : ansR K H Q E ns.length Wd_ ((rdCount ns i).bind fun c p => (rdItems (rdA ns dep) c p).map .tuple)) : sp_unpack_tuple n K [.ref a, .int i, .int dep] H Q E := ⟨a, ns, i, dep, rfl, rfl, rfl, h, h1, h2, k⟩
theorem st_unpack_tuple {e : Wd} {n : Nat} (D : DefAt e "unpack_tuple" s_unpack_tuple) (B : Bl e.mg) (c_unpack_count : Can e 3 "unpack_count" ["data", "at"] (sp_unpack_count e.K)) (c_unpack_at : Can e (8 + 2 * n) "unpack_at" ["data", "at", "depth"] (sp_unpack_at n e.K)) : Can e (8 + 2 * n + 1) "unpack_tuple" ["data", "at", "depth"] (sp_unpack_tuple n e.K) := by
  refine canX_of D sc_unpack_tuple bi_unpack_tuple (fun _ _ _ _ h => sp3_len h) (fun cdv f A outer s H vs Q E hr h tk po => ?_)
  obtain ⟨v0, v1, v2, rfl, h⟩ := sp3_ex h
  have nd := sc_unpack_tuple.nd
  obtain ⟨a, ns, i, dep, rfl, rfl, rfl, hdep, ha, by_, k⟩ := h
  have hlen := by_.len
  refine ⟨_, (pss_cons (ps_asg (pe_canX tk c_unpack_count (hr.mono (by first | decide | omega)) (pa_cons (pv 0) (pa_cons (pv 1) pa_nil))) (pg_tupU (K := e.K) (n := 2) rfl (pgs_cons (pg_name (i := 3) nd rfl (by first | exact Or.inl rfl | exact Or.inr rfl)) (pgs_cons (pg_name (i := 1) nd rfl (by first | exact Or.inl rfl | exact Or.inr rfl)) pgs_nil))))
    (pss_cons (ps_set (i := 4) nd rfl (by first | exact Or.inl rfl | exact Or.inr rfl) (pe_lst pa_nil))
    (pss_cons (ps_while po (pt_cmpR op_ltU (pe_callB (call_lenU (K := e.K)) (by rfl) B.b_len bt_len (pa_cons (pv 4) pa_nil)) (pv 3) (nomark _)) (pss_cons (ps_asg (pe_canX tk c_unpack_at (hr.mono (by first | decide | omega)) (pa_cons (pv 0) (pa_cons (pv 1) (pa_cons (pv 2) pa_nil)))) (pg_tupU (K := e.K) (n := 2) rfl (pgs_cons (pg_name (i := 5) nd rfl (by first | exact Or.inl rfl | exact Or.inr rfl)) (pgs_cons (pg_name (i := 1) nd rfl (by first | exact Or.inl rfl | exact Or.inr rfl)) pgs_nil))))
    (pss_one (ps_expr (pe_bmU (K := e.K) PySem.F.plainAttrs_list PySem.F.slot_list_append PySem.F.type_list_append mt_append (pv 4) (pa_cons (pv 5) pa_nil))))))
    (pss_one (ps_ret (pe_tup (pa_cons (pe_callTy (call_tupleU (K := e.K)) (by rfl) B.b_tuple bt_tuple (pa_cons (pv 4) pa_nil)) (pa_cons (pv 1) pa_nil)))))))), ?_⟩
  walk_at "go"
  refine use_unpack_count ha by_ (ansR_of (fun c q er p v H1 np s1 hp w => ?_) (fun er dx H1 s1 hx => ansR_inc k (by rw [er] <;> rfl) dx H1 s1 hx) (fun j er dx H1 s1 hx => ansR_bad k (by rw [er] <;> rfl) dx H1 s1 hx))
  obtain rfl : v = .int (c : Nat) := w
  have qb := rdCount_le er
  rw [er] at k
  replace k : ansR e.K H Q E ns.length Wd_ ((rdItems (rdA ns dep) c q).map .tuple) := k
  walk_at "go"
  rename_i p2 H2 n2 m2 h2
  have s2 := s1.trans m2
  have np2 := Same.before s1 n2
  clear hp n2
  refine r_while (fun m σ' H' => ∃ j r : Nat, ∃ it vs ds, m = c - j ∧ σ' = [some (.ref a), some (.int r), some (.int dep), some (.int c), some (.ref p2), it] ∧ Same H H' ∧ H' p2 = some (.lst vs) ∧ Dqs H' vs ds ∧ ds.length = j ∧ j ≤ c ∧ q + j ≤ r ∧ r ≤ ns.length ∧
    (rdItems (rdA ns dep) (c - j) r).map (ds ++ ·) = rdItems (rdA ns dep) c q) c ⟨0, q, none, [], [], rfl, rfl, s2, h2, .nil, rfl, Nat.zero_le _, Nat.le_refl _, qb.2, Rd.map_id' (fun x => rfl) _⟩ ?_
  rintro m σ' H3 ⟨j, r, it, vs, ds, rfl, rfl, s3, h3, dq, rfl, jc, qr, rl, er3⟩
  have lv := dq.length
  have ha3 := s3 _ _ ha
  walk_at "go"
  refine r_wlq (fun c1 => ?_) (fun c1 => ?_)
  · have ec : c - ds.length = (c - (ds.length + 1)) + 1 := by omega
    rw [ec] at er3
    walk_at "go"
    refine use_unpack_at hdep ha3 by_ rl (ansR_of (fun d r' e4 p4 v H4 n4 s4 hp4 w => ?_) (fun e4 dx H4 s4 hx => ?_) (fun j e4 dx H4 s4 hx => ?_))
    · have rb := rdA_ub rl e4
      have rg := rdA_le _ _ _ _ _ e4
      rw [rdItems_ok e4] at er3
      have h34 := s4 _ _ h3
      have lv4 : vs.length < 140000 := by omega
      walk_at "go"
      rename_i H5 h5 k5
      have s5 := Same.but (s3.trans s4) np2 k5
      have g5 := (gro_but h34 k5)
      refine ⟨_, by omega, ds.length + 1, r', _, _, _, rfl, rfl, s5, h5, ((dq.mono (Gro.same s4)).snoc w).mono g5, by simp, by omega, by omega, rb, er3⟩
    · rw [rdItems_inc e4] at er3
      rw [← er3] at k
      exact ansR_inc k rfl dx H4 (s3.trans s4) hx
    · rw [rdItems_bad e4] at er3
      rw [← er3] at k
      exact ansR_bad k rfl dx H4 (s3.trans s4) hx
  · have ec : c - ds.length = 0 := by omega
    rw [ec] at er3
    have er4 : rdItems (rdA ns dep) c q = .ok ds r := by
      rw [← er3]
      show Rd.ok (ds ++ []) r = _
      rw [List.append_nil]
    rw [er4] at k
    walk_at "go"
    rename_i p5 H5 n5 m5 h5 p6 H6 n6 m6 h6
    exact ansR_ok k rfl p6 _ H6 (Same.before (s3.trans m5) n6) ((s3.trans m5).trans m6) h6 (.tup (m6 _ _ h5) (dq.mono (Gro.same (m5.trans m6))))

/-! ### unpack_at -/
abbrev s_unpack_at : Stmt := top 23
abbrev N_unpack_at : List Str := ["data", "at", "depth", "kind", "count", "place"]
theorem sc_unpack_at : FnScope N_unpack_at ["data", "at", "depth"] (defScope s_unpack_at) := ⟨rfl, rfl, rfl, by decide +kernel, rfl, by decide +kernel, by decide +kernel⟩
theorem bi_unpack_at : BindOk "unpack_at" s_unpack_at ["data", "at", "depth"] := fun _ _ _ _ _ _ us hl => match us, hl with | [_, _, _], _ => rfl
theorem st_unpack_at {e : Wd} {n : Nat} (D : DefAt e "unpack_at" s_unpack_at) (B : Bl e.mg) (g_TUPLE : ∃ t, e.mg "TUPLE" = some (.int (6) t)) (g_NATURAL : ∃ t, e.mg "NATURAL" = some (.int (3) t)) (g_NEGATIVE : ∃ t, e.mg "NEGATIVE" = some (.int (4) t)) (g_STRING : ∃ t, e.mg "STRING" = some (.int (5) t)) (gm_Incomplete : e.mg "Incomplete" = some (.ref (He.ga e.K "Incomplete"))) (gm_InvalidRecord : e.mg "InvalidRecord" = some (.ref (He.ga e.K "InvalidRecord"))) (xp_Incomplete : XpC e "Incomplete" (He.ga e.K "Incomplete")) (xp_InvalidRecord : XpC e "InvalidRecord" (He.ga e.K "InvalidRecord")) (c_unpack_count : Can e 3 "unpack_count" ["data", "at"] (sp_unpack_count e.K)) (c_unpack_string : Can e 4 "unpack_string" ["data", "at"] (sp_unpack_string e.K)) (c_unpack_tuple : Can e (8 + 2 * n + 1) "unpack_tuple" ["data", "at", "depth"] (sp_unpack_tuple n e.K)) : Can e (8 + 2 * n + 1 + 1) "unpack_at" ["data", "at", "depth"] (sp_unpack_at (n + 1) e.K) := by
  refine canX_of D sc_unpack_at bi_unpack_at (fun _ _ _ _ h => sp3_len h) (fun cdv f A outer s H vs Q E hr h tk po => ?_)
  obtain ⟨v0, v1, v2, rfl, h⟩ := sp3_ex h
  have nd := sc_unpack_at.nd
  obtain ⟨a, ns, i, dep, rfl, rfl, rfl, hdep, ha, by_, il, k⟩ := h
  have hlen := by_.len
  refine ⟨_, (pss_cons (ps_if (pt_cmpR op_geU (pv 1) (pe_callB (call_lenU (K := e.K)) (by rfl) B.b_len bt_len (pa_cons (pv 0) pa_nil)) (nomark _)) (pss_one (ps_raiseU rfl tk (mkP (k := 0) xp_Incomplete (hr.mono (by first | decide | omega)) (pe_callB (call_lenU (K := e.K)) (by rfl) B.b_len bt_len (pa_cons (pv 0) pa_nil))))) pss_nil)
    (pss_cons (ps_set (i := 3) nd rfl (by first | exact Or.inl rfl | exact Or.inr rfl) (pe_ix (ix_U (K := e.K)) (pv 0) (pv 1) (fun _ _ => rfl)))
    (pss_cons (ps_if (PW.pt (pw_or (pt_cmpR op_gtU (pv 3) (pe_gi g_TUPLE) (nomark _)) (pw_or1 (PW.pt (pw_and (pt_cmpR (op_eqU (K := e.K) hr) (pv 3) (pe_gi g_TUPLE) (nomark _)) (pw_and1 (pt_cmpR (op_eqU (K := e.K) hr) (pv 2) pe_int (nomark _)))))))) (pss_one (ps_raiseU rfl tk (mkP (k := 0) xp_InvalidRecord (hr.mono (by first | decide | omega)) (pv 1)))) pss_nil)
    (pss_cons (ps_if (pt_cmpR (op_eqU (K := e.K) hr) (pv 3) (pe_gi g_NATURAL) (nomark _)) (pss_one (ps_ret (pe_canX tk c_unpack_count (hr.mono (by first | decide | omega)) (pa_cons (pv 0) (pa_cons (pe_op (op_addU (K := e.K)) (pv 1) pe_int) pa_nil))))) pss_nil)
    (pss_cons (ps_if (pt_cmpR (op_eqU (K := e.K) hr) (pv 3) (pe_gi g_NEGATIVE) (nomark _)) (pss_cons (ps_asg (pe_canX tk c_unpack_count (hr.mono (by first | decide | omega)) (pa_cons (pv 0) (pa_cons (pe_op (op_addU (K := e.K)) (pv 1) pe_int) pa_nil))) (pg_tupU (K := e.K) (n := 2) rfl (pgs_cons (pg_name (i := 4) nd rfl (by first | exact Or.inl rfl | exact Or.inr rfl)) (pgs_cons (pg_name (i := 5) nd rfl (by first | exact Or.inl rfl | exact Or.inr rfl)) pgs_nil))))
    (pss_one (ps_ret (pe_tup (pa_cons (pe_op op_subU (pe_un un_neg (pv 4)) pe_int) (pa_cons (pv 5) pa_nil)))))) pss_nil)
    (pss_cons (ps_if (pt_cmpR (op_eqU (K := e.K) hr) (pv 3) (pe_gi g_STRING) (nomark _)) (pss_one (ps_ret (pe_canX tk c_unpack_string (hr.mono (by first | decide | omega)) (pa_cons (pv 0) (pa_cons (pe_op (op_addU (K := e.K)) (pv 1) pe_int) pa_nil))))) pss_nil)
    (pss_cons (ps_if (pt_cmpR (op_eqU (K := e.K) hr) (pv 3) (pe_gi g_TUPLE) (nomark _)) (pss_one (ps_ret (pe_canX tk c_unpack_tuple (hr.mono (by first | decide | omega)) (pa_cons (pv 0) (pa_cons (pe_op (op_addU (K := e.K)) (pv 1) pe_int) (pa_cons (pe_op op_subU (pv 2) pe_int) pa_nil)))))) pss_nil)
    (pss_one (ps_ret (pe_tup (pa_cons (pe_ix (ix_U (K := e.K)) (pe_tup (pa_cons pe_non (pa_cons pe_bl (pa_cons pe_bl pa_nil)))) (pv 3) (fun _ _ => rfl)) (pa_cons (pe_op (op_addU (K := e.K)) (pv 1) pe_int) pa_nil)))))))))))), ?_⟩
  walk_at "go"
  refine r_ite (fun c1 => ?_) (fun c1 => ?_)
  · rw [List.length_map] at c1
    have e0 : ns[i]? = none := List.getElem?_eq_none (by omega)
    have er : rdA ns dep i = .inc := by cases dep <;> (rw [rdA, e0])
    walk_at "go"
    rename_i dx nd sm
    refine ansR_inc k er dx _ sm ?_
    rw [upd_same, List.length_map]
  · rw [List.length_map] at c1
    have hq : i < ns.length := by omega
    obtain ⟨g, hg⟩ : ∃ g, ns[i]? = some g := ⟨ns[i], List.getElem?_eq_getElem hq⟩
    have hb := by_.byt g (List.mem_of_getElem? hg)
    have hv := atI_int hg
    have bad : (6 < g ∨ g = 6 ∧ dep = 0) → ∀ dx, Same H (upd H dx (.xd [("place", .int (i : Int))])) → E (.ref (He.ga e.K "InvalidRecord")) (some dx) (upd H dx (.xd [("place", .int (i : Int))])) := fun hbad dx sm => by
      have er : rdA ns dep i = .bad i := by
        cases dep with
        | zero =>
          rw [rdA, hg]
          show (if 6 ≤ g then _ else _) = _
          rw [if_pos (by omega)]
        | succ d =>
          rw [rdA, hg]
          show (if 6 < g then _ else _) = _
          rw [if_pos (by omega)]
      exact ansR_bad k er dx _ sm upd_same
    have i1 : ((i : Int) + 1) = ((i + 1 : Nat) : Int) := by omega
    by_cases c2 : 6 < g
    · walk_at "god"
      rename_i dx nd sm
      exact bad (.inl c2) dx sm
    · have cases7 : g = 0 ∨ g = 1 ∨ g = 2 ∨ g = 3 ∨ g = 4 ∨ g = 5 ∨ g = 6 := by omega
      have small : ∀ (v : V), Dq H v (smallD g) → g < 3 → ∀ p H', H p = none → Same H H' → H' p = some (.tup [v, .int ((i : Int) + 1)]) → Q (.ref p) H' := fun v hv h3 p H' np sm hp => by
        rw [i1] at hp
        exact ansR_ok k (rdA_small hg hb.1 h3) p v H' np sm hp (hv.mono (Gro.same sm))
      rcases cases7 with rfl | rfl | rfl | rfl | rfl | rfl | rfl
      · walk_at "god"
        rename_i p1 H1 n1 m1 h1 p2 H2 n2 m2 h2
        exact small .non (by rw [smallD, if_pos rfl]; exact .non) (by decide) p2 H2 (Same.before m1 n2) (m1.trans m2) h2
      · walk_at "god"
        rename_i p1 H1 n1 m1 h1 p2 H2 n2 m2 h2
        exact small (.bl false) (by rw [smallD, if_neg (by decide), if_pos rfl]; exact .bl _) (by decide) p2 H2 (Same.before m1 n2) (m1.trans m2) h2
      · walk_at "god"
        rename_i p1 H1 n1 m1 h1 p2 H2 n2 m2 h2
        exact small (.bl true) (by rw [smallD, if_neg (by decide), if_neg (by decide)]; exact .bl _) (by decide) p2 H2 (Same.before m1 n2) (m1.trans m2) h2
      · rw [rdA_nat hg] at k
        walk_at "god"
        rw [i1]
        exact use_unpack_count ha by_ (ansR_map k fun H' v x hv => by rw [show v = _ from hv]; exact .int _)
      · rw [rdA_neg hg] at k
        walk_at "god"
        rw [i1]
        refine use_unpack_count ha by_ (ansR_of (fun c q er p v H1 np s1 hp w => ?_) (fun er dx H1 s1 hx => ansR_inc k (by rw [er] <;> rfl) dx H1 s1 hx) (fun j er dx H1 s1 hx => ansR_bad k (by rw [er] <;> rfl) dx H1 s1 hx))
        obtain rfl : v = .int (c : Nat) := w
        rw [er] at k
        walk_at "god"
        rename_i p2 H2 n2 m2 h2
        exact ansR_ok k rfl p2 _ H2 (Same.before s1 n2) (s1.trans m2) h2 (.int _)
      · rw [rdA_str hg] at k
        walk_at "god"
        rw [i1]
        exact use_unpack_string ha by_ (ansR_map k fun H' v x hv => by rw [show v = _ from hv]; exact .str _)
      · cases dep with
        | zero =>
          walk_at "god"
          rename_i dx nd sm
          exact bad (.inr ⟨rfl, rfl⟩) dx sm
        | succ d =>
          rw [rdA_tup hg] at k
          walk_at "god"
          rw [i1, show ((d + 1 : Nat) : Int) - 1 = (d : Nat) by omega]
          exact use_unpack_tuple (by omega) ha by_ k
theorem ok_unpack_at {e : Wd} (D : DefAt e "unpack_at" s_unpack_at) (D2 : DefAt e "unpack_tuple" s_unpack_tuple) (B : Bl e.mg) (g_TUPLE : ∃ t, e.mg "TUPLE" = some (.int (6) t)) (g_NATURAL : ∃ t, e.mg "NATURAL" = some (.int (3) t)) (g_NEGATIVE : ∃ t, e.mg "NEGATIVE" = some (.int (4) t)) (g_STRING : ∃ t, e.mg "STRING" = some (.int (5) t)) (gm_Incomplete : e.mg "Incomplete" = some (.ref (He.ga e.K "Incomplete"))) (gm_InvalidRecord : e.mg "InvalidRecord" = some (.ref (He.ga e.K "InvalidRecord"))) (xp_Incomplete : XpC e "Incomplete" (He.ga e.K "Incomplete")) (xp_InvalidRecord : XpC e "InvalidRecord" (He.ga e.K "InvalidRecord")) (c_unpack_count : Can e 3 "unpack_count" ["data", "at"] (sp_unpack_count e.K)) (c_unpack_string : Can e 4 "unpack_string" ["data", "at"] (sp_unpack_string e.K)) : Can e 60 "unpack_at" ["data", "at", "depth"] (sp_unpack_at 21 e.K) := by
  have key : ∀ n, Can e (8 + 2 * n) "unpack_at" ["data", "at", "depth"] (sp_unpack_at n e.K) := by
    intro n
    induction n with
    | zero => exact can_no D bi_unpack_at no_unpack_at
    | succ n ih => exact st_unpack_at D B g_TUPLE g_NATURAL g_NEGATIVE g_STRING gm_Incomplete gm_InvalidRecord xp_Incomplete xp_InvalidRecord c_unpack_count c_unpack_string (st_unpack_tuple D2 B c_unpack_count ih)
  exact (key 21).imp (fun _ _ _ _ h => h) (by decide)

/-! ### unpack -/
abbrev s_unpack : Stmt := top 24
abbrev N_unpack : List Str := ["data", "at"]
theorem sc_unpack : FnScope N_unpack ["data", "at"] (defScope s_unpack) := ⟨rfl, rfl, rfl, by decide +kernel, rfl, by decide +kernel, by decide +kernel⟩
theorem bi_unpack : BindOkA "unpack" s_unpack ["data", "at"] 1 := fun _ _ _ _ _ _ _ us its h1 h2 => match us, its, h1, h2 with | [_, _], [_], _, _ => ⟨_, rfl, rfl⟩
theorem bj_unpack : BindOkD "unpack" s_unpack ["data", "at"] 1 1 := fun _ _ _ _ _ _ _ us its h1 h2 => match us, its, h1, h2 with | [_], [_], _, _ => ⟨_, rfl, rfl⟩
def sp_unpack (K : PySem.W.Frag) : Sp := sp2 fun x y H Q E => ∃ a ns, ∃ i : Nat, x = .ref a ∧ y = .int i ∧ H a = some (.lst (ns.map V.int)) ∧ ByN ns ∧ i ≤ ns.length ∧ ansR K H Q E ns.length Wd_ (rdA ns 20 i)
theorem use_unpack {K : PySem.W.Frag} {a : Addr} {ns : List Int} {i : Nat} {H : Hp} {Q : VK} {E : XK} (h1 : H a = some (.lst (ns.map V.int))) (h2 : ByN ns) (h3 : i ≤ ns.length) (k : ansR K H Q E ns.length Wd_ (rdA ns 20 i)) : sp_unpack K [.ref a, .int i] H Q E := ⟨a, ns, i, rfl, rfl, h1, h2, h3, k⟩
theorem ok_unpack {e : Wd} (D : DefAtD e "unpack" s_unpack [.int (0)]) (B : Bl e.mg) (g_DEEPEST : ∃ t, e.mg "DEEPEST" = some (.int (20) t)) (c_unpack_at : Can e 60 "unpack_at" ["data", "at", "depth"] (sp_unpack_at 21 e.K)) : CanD e 61 "unpack" ["data", "at"] [.int (0)] (sp_unpack e.K) := by
  refine canXD_of D sc_unpack bi_unpack bj_unpack (by simp) rfl (fun _ _ _ _ h => sp2_len h) (fun cdv f A outer s H vs Q E hr h tk po => ?_)
  obtain ⟨v0, v1, rfl, h⟩ := sp2_ex h
  have nd := sc_unpack.nd
  obtain ⟨a, ns, i, rfl, rfl, ha, by_, il, k⟩ := h
  refine ⟨_, (pss_one (ps_ret (pe_canX tk c_unpack_at (hr.mono (by first | decide | omega)) (pa_cons (pv 0) (pa_cons (pv 1) (pa_cons (pe_gi g_DEEPEST) pa_nil)))))), ?_⟩
  walk_at "go"
  exact use_unpack_at (dep := 20) (by decide) ha by_ il k

/-! ### read_record -/
abbrev s_read_record : Stmt := top 27
abbrev N_read_record : List Str := ["content", "at"]
theorem sc_read_record : FnScope N_read_record ["content", "at"] (defScope s_read_record) := ⟨rfl, rfl, rfl, by decide +kernel, rfl, by decide +kernel, by decide +kernel⟩
theorem bi_read_record : BindOk "read_record" s_read_record ["content", "at"] := fun _ _ _ _ _ _ us hl => match us, hl with | [_, _], _ => rfl
/-- the record that stands there, or none -/
def sp_read_record (K : PySem.W.Frag) : Sp := sp2 fun x y H Q _ => ∃ a ns, ∃ i : Nat, x = .ref a ∧ y = .int i ∧ H a = some (.lst (ns.map V.int)) ∧ ByN ns ∧ i ≤ ns.length ∧
  (∀ d q, rdA ns 20 i = .ok d q → ∀ p v H', H p = none → Same H H' → H' p = some (.tup [v, .int q]) → Dq H' v d → Q (.ref p) H') ∧ ((∀ d q, rdA ns 20 i ≠ .ok d q) → ∀ H', Same H H' → Q .non H')
theorem use_read_record {K : PySem.W.Frag} {a : Addr} {ns : List Int} {i : Nat} {H : Hp} {Q : VK} {E : XK} (h1 : H a = some (.lst (ns.map V.int))) (h2 : ByN ns) (h3 : i ≤ ns.length)
    (k1 : ∀ d q, rdA ns 20 i = .ok d q → ∀ p v H', H p = none → Same H H' → H' p = some (.tup [v, .int q]) → Dq H' v d → Q (.ref p) H') (k2 : (∀ d q, rdA ns 20 i ≠ .ok d q) → ∀ H', Same H H' → Q .non H') : sp_read_record K [.ref a, .int i] H Q E := ⟨a, ns, i, rfl, rfl, h1, h2, h3, k1, k2⟩
theorem ok_read_record {e : Wd} (D : DefAt e "read_record" s_read_record) (B : Bl e.mg) (gm_Incomplete : e.mg "Incomplete" = some (.ref (He.ga e.K "Incomplete"))) (gm_InvalidRecord : e.mg "InvalidRecord" = some (.ref (He.ga e.K "InvalidRecord"))) (em_Incomplete_Incomplete : PySem.W.exmOne e.K (.ref (He.ga e.K "Incomplete")) (.ref (He.ga e.K "Incomplete")) = some true) (em_InvalidRecord_Incomplete : PySem.W.exmOne e.K (.ref (He.ga e.K "InvalidRecord")) (.ref (He.ga e.K "Incomplete")) = some false) (em_Incomplete_InvalidRecord : PySem.W.exmOne e.K (.ref (He.ga e.K "Incomplete")) (.ref (He.ga e.K "InvalidRecord")) = some false) (em_InvalidRecord_InvalidRecord : PySem.W.exmOne e.K (.ref (He.ga e.K "InvalidRecord")) (.ref (He.ga e.K "InvalidRecord")) = some true) (c_unpack : CanD e 61 "unpack" ["data", "at"] [.int (0)] (sp_unpack e.K)) : Can e 62 "read_record" ["content", "at"] (sp_read_record e.K) := by
  refine can_of D sc_read_record bi_read_record (fun _ _ _ _ h => sp2_len h) (fun cdv f A outer s H vs Q E hr h => ?_)
  obtain ⟨v0, v1, rfl, h⟩ := sp2_ex h
  have nd := sc_read_record.nd
  obtain ⟨a, ns, i, rfl, rfl, ha, by_, il, k1, k2⟩ := h
  refine ⟨_, (pss_one (ps_tryManyO (K := e.K) rfl rfl takes0 (fun W1 pn1 xe1 tk1 po1 => (pss_one (ps_ret (pe_canX tk1 c_unpack.can (hr.mono (by first | decide | omega)) (pa_cons (pv 0) (pa_cons (pv 1) pa_nil))))))
    (HdsOk.cons ⟨rfl, by decide, .inl gm_Incomplete⟩ (fun a1 oe1 cls1 d1 pn1 hz1 hf1 => (pss_one (ps_ret pe_non)))
    (HdsOk.cons ⟨rfl, by decide, .inl gm_InvalidRecord⟩ (fun a1 oe1 cls1 d1 pn1 hz1 hf1 => (pss_one (ps_ret pe_non)))
    HdsOk.nil)))), ?_⟩
  walk_at "go"
  refine use_unpack ha by_ il (ansR_of (fun d q er p v H1 np s1 hp w => k1 d q er p v H1 np s1 hp w) (fun er dx H1 s1 hx => ?_) (fun j er dx H1 s1 hx => ?_))
  · refine r_wMOT em_Incomplete_Incomplete (fun ea na => ?_)
    walk_at "go"
    exact k2 (fun d q z => by rw [er] at z; cases z) H1 s1
  · refine r_wMOF em_InvalidRecord_Incomplete (r_wMOT em_InvalidRecord_InvalidRecord (fun ea na => ?_))
    walk_at "go"
    exact k2 (fun d q z => by rw [er] at z; cases z) H1 s1

/-! ### is_begin -/
abbrev s_is_begin : Stmt := top 28
abbrev N_is_begin : List Str := ["value"]
theorem sc_is_begin : FnScope N_is_begin ["value"] (defScope s_is_begin) := ⟨rfl, rfl, rfl, by decide +kernel, rfl, by decide +kernel, by decide +kernel⟩
theorem bi_is_begin : BindOk "is_begin" s_is_begin ["value"] := fun _ _ _ _ _ _ us hl => match us, hl with | [_], _ => rfl
theorem begO_len {ds : List PyData} (h : ds.length ≠ 3) : begO (.tuple ds) = none := by
  cases e : begO (.tuple ds) with
  | none => rfl
  | some z =>
    obtain ⟨n, v⟩ := z
    obtain ⟨h1, _⟩ := begO_some e
    cases h1
    exact absurd rfl h
theorem begO_str {d0 d1 d2 : PyData} (h : strEq d0 begS = false) : begO (.tuple [d0, d1, d2]) = none := by
  cases e : begO (.tuple [d0, d1, d2]) with
  | none => rfl
  | some z =>
    obtain ⟨n, v⟩ := z
    obtain ⟨h1, _⟩ := begO_some e
    cases h1
    rw [show strEq (.str begS) begS = true from (show decide (begS = begS) = true from decide_eq_true rfl)] at h
    cases h
theorem begO_int {n : Int} {v : PyData} : (begO (.tuple [.str begS, .int n, v])).isSome = decide (1 ≤ n) := by
  show (if begS = begS ∧ 1 ≤ n then some (n, v) else none).isSome = _
  by_cases h : 1 ≤ n
  · rw [if_pos ⟨rfl, h⟩, decide_eq_true h] <;> rfl
  · rw [if_neg (fun z => h z.2), decide_eq_false h] <;> rfl
theorem strEq_true {d : PyData} {z : Str} (h : strEq d z = true) : d = .str z := by
  unfold strEq at h
  split at h
  · rw [of_decide_eq_true h]
  · cases h
def sp_is_begin (K : PySem.W.Frag) : Sp := sp1 fun x H Q _ => ∃ d, Dq H x d ∧ Pk d ∧ d.depth ≤ 20 ∧ ∀ H', Same H H' → Q (.bl (begO d).isSome) H'
theorem use_is_begin {K : PySem.W.Frag} {x : V} {d : PyData} {H : Hp} {Q : VK} {E : XK} (h1 : Dq H x d) (h2 : Pk d) (h3 : d.depth ≤ 20) (k : ∀ H', Same H H' → Q (.bl (begO d).isSome) H') : sp_is_begin K [x] H Q E := ⟨d, h1, h2, h3, k⟩
theorem ok_is_begin {e : Wd} (D : DefAt e "is_begin" s_is_begin) (B : Bl e.mg) (g_BEGIN : ∃ t, e.mg "BEGIN" = some (.str ("begin" : Str) t)) : Can e 1 "is_begin" ["value"] (sp_is_begin e.K) := by
  refine can_of D sc_is_begin bi_is_begin (fun _ _ _ _ h => sp1_len h) (fun cdv f A outer s H vs Q E hr h => ?_)
  obtain ⟨v0, rfl, h⟩ := sp1_ex h
  have nd := sc_is_begin.nd
  obtain ⟨d, hd, pk, dp, k⟩ := h
  refine ⟨_, (pss_cons (ps_if (PW.pt (pw_or (pt_not (pt_tru (K := e.K) (pe_callB (call_isiU (K := e.K)) (by rfl) B.b_isinstance bt_isinstance (pa_cons (pv 0) (pa_cons (pe_bltn (v := .ty "tuple") (by rfl) B.b_tuple bt_tuple rfl) pa_nil))))) (pw_or (pt_cmpR (op_neU (K := e.K) hr) (pe_callB (call_lenU (K := e.K)) (by rfl) B.b_len bt_len (pa_cons (pv 0) pa_nil)) pe_int (nomark _)) (pw_or1 (pt_cmpR (op_neU (K := e.K) hr) (pe_ix (ix_U (K := e.K)) (pv 0) pe_int (fun _ _ => rfl)) (pe_gs g_BEGIN) (nomark _)))))) (pss_one (ps_ret pe_bl)) pss_nil)
    (pss_one (ps_ret (pe_andU (K := e.K) (pe_callB (call_isiU (K := e.K)) (by rfl) B.b_isinstance bt_isinstance (pa_cons (pe_ix (ix_U (K := e.K)) (pv 0) pe_int (fun _ _ => rfl)) (pa_cons (pe_bltn (v := .ty "int") (by rfl) B.b_int bt_int rfl) pa_nil))) (pe_andU (K := e.K) (pe_notU (K := e.K) (pe_callB (call_isiU (K := e.K)) (by rfl) B.b_isinstance bt_isinstance (pa_cons (pe_ix (ix_U (K := e.K)) (pv 0) pe_int (fun _ _ => rfl)) (pa_cons (pe_bltn (v := .ty "bool") (by rfl) B.b_bool bt_bool rfl) pa_nil)))) (pe_one (pe_cmpR op_geU (pe_ix (ix_U (K := e.K)) (pv 0) pe_int (fun _ _ => rfl)) pe_int (nomark _)))))))), ?_⟩
  cases hd with
  | non =>
    walk_at "god"
    exact k H (Same.refl H)
  | bl b =>
    walk_at "god"
    exact k H (Same.refl H)
  | int i =>
    walk_at "god"
    exact k H (Same.refl H)
  | str s =>
    walk_at "god"
    exact k H (Same.refl H)
  | tup ha hs =>
    rename_i a xs ds
    rw [Pk] at pk
    rw [PyData.depth] at dp
    by_cases l3 : ds.length = 3
    · match xs, ds, hs, l3 with
      | _, [d0, d1, d2], hs, _ =>
        cases hs with
        | cons h0 hs =>
          cases hs with
          | cons h1 hs =>
            cases hs with
            | cons h2 hs =>
              cases hs
              rename_i x0 x1 x2
              have pk0 := pks_mem.mp pk d0 (by simp)
              have dp0 := depth_mem (d := d0) (ds := [d0, d1, d2]) (by simp)
              walk_at "god"
              refine r_neStr h0 pk0 (by omega) beg_asc ?_
              cases e0 : strEq d0 begS with
              | false =>
                rw [begO_str e0] at k
                walk_at "god"
                exact k H (Same.refl H)
              | true =>
                obtain rfl := strEq_true e0
                cases h1 with
                | int n =>
                  rw [begO_int] at k
                  walk_at "god"
                  exact k H (Same.refl H)
                | _ =>
                  walk_at "god"
                  exact k H (Same.refl H)
    · have lx := hs.length
      have e : begO (.tuple ds) = none := begO_len l3
      rw [e] at k
      walk_at "god"
      exact k H (Same.refl H)

/-! ### read_file -/
abbrev s_read_file : Stmt := top 29
abbrev N_read_file : List Str := ["content", "found", "generation", "value", "events"]
theorem sc_read_file : FnScope N_read_file ["content"] (defScope s_read_file) := ⟨rfl, rfl, rfl, by decide +kernel, rfl, by decide +kernel, by decide +kernel⟩
theorem bi_read_file : BindOk "read_file" s_read_file ["content"] := fun _ _ _ _ _ _ us hl => match us, hl with | [_], _ => rfl
theorem r_wlqT {c : TT} {tb : TS} {D : Ends} {σ : L2.St} {H : Hp} {W : Nat → L2.St → Hp → Prop} {m : Nat} (h1 : tb (Ends.mk (fun s h => ∃ m', m' < m ∧ W m' s h) D.rt D.nx (fun s h => ∃ m', m' < m ∧ W m' s h)) σ H) : wlq W tb D m σ true H := by
  unfold wlq
  rw [if_pos rfl]
  exact ⟨_, fun _ _ z => z, h1⟩
theorem r_wlqF {c : TT} {tb : TS} {D : Ends} {σ : L2.St} {H : Hp} {W : Nat → L2.St → Hp → Prop} {m : Nat} (h2 : D.nx σ H) : wlq W tb D m σ false H := by
  unfold wlq
  rw [if_neg Bool.false_ne_true]
  exact h2
theorem evM_next {ns : List Int} {q p : Nat} {d : PyData} (hq : q ≤ ns.length) (h : rdA ns 20 q = .ok d p) : evM ns (ns.length + 1) q = d :: evM ns (ns.length + 1) p := by
  have h1 := rdA_le _ _ _ _ _ h
  have h2 := rdA_ub hq h
  rw [evM_step h, evM_fuel h2 (by omega)]
/-- what is left of a file -/
def fileP (H : Hp) (Q : VK) : Option (Int × PyData × List PyData) → Prop
  | none => ∀ H', Same H H' → Q .non H'
  | some (g, d, ds) => ∀ p pe v vs H', H p = none → H pe = none → Same H H' → H' p = some (.tup [.int g, v, .ref pe]) → Dq H' v d → H' pe = some (.lst vs) → Dqs H' vs ds → Q (.ref p) H'
def sp_read_file (K : PySem.W.Frag) : Sp := sp1 fun x H Q _ => ∃ a ns, x = .ref a ∧ H a = some (.lst (ns.map V.int)) ∧ ByN ns ∧ fileP H Q (fileM ns)
theorem use_read_file {K : PySem.W.Frag} {a : Addr} {ns : List Int} {H : Hp} {Q : VK} {E : XK} (h1 : H a = some (.lst (ns.map V.int))) (h2 : ByN ns) (k : fileP H Q (fileM ns)) : sp_read_file K [.ref a] H Q E := ⟨a, ns, rfl, h1, h2, k⟩
theorem ok_read_file {e : Wd} (D : DefAt e "read_file" s_read_file) (B : Bl e.mg) (c_read_record : Can e 62 "read_record" ["content", "at"] (sp_read_record e.K)) (c_is_begin : Can e 1 "is_begin" ["value"] (sp_is_begin e.K)) : Can e 63 "read_file" ["content"] (sp_read_file e.K) := by
  refine can_of D sc_read_file bi_read_file (fun _ _ _ _ h => sp1_len h) (fun cdv f A outer s H vs Q E hr h => ?_)
  obtain ⟨v0, rfl, h⟩ := sp1_ex h
  have nd := sc_read_file.nd
  obtain ⟨a, ns, rfl, ha, by_, k⟩ := h
  have hlen := by_.len
  refine ⟨_, (pss_cons (ps_set (i := 1) nd rfl (by first | exact Or.inl rfl | exact Or.inr rfl) (pe_can c_read_record (hr.mono (by first | decide | omega)) passL (pa_cons (pv 0) (pa_cons pe_int pa_nil))))
    (pss_cons (ps_if (PW.pt (pw_or (pt_cmpR op_isU (pv 1) pe_non (nomark _)) (pw_or1 (pt_not (pt_tru (K := e.K) (pe_can c_is_begin (hr.mono (by first | decide | omega)) passL (pa_cons (pe_ix (ix_U (K := e.K)) (pv 1) pe_int (fun _ _ => rfl)) pa_nil))))))) (pss_one (ps_ret pe_non)) pss_nil)
    (pss_cons (ps_par (i := 2) (j := 3) (by rfl) nd rfl rfl (by decide) rfl rfl (pa_cons (pe_ix (ix_U (K := e.K)) (pe_ix (ix_U (K := e.K)) (pv 1) pe_int (fun _ _ => rfl)) pe_int (fun _ _ => rfl)) (pa_cons (pe_ix (ix_U (K := e.K)) (pe_ix (ix_U (K := e.K)) (pv 1) pe_int (fun _ _ => rfl)) pe_int (fun _ _ => rfl)) pa_nil)) (by rfl))
    (pss_cons (ps_set (i := 4) nd rfl (by first | exact Or.inl rfl | exact Or.inr rfl) (pe_lst pa_nil))
    (pss_cons (ps_set (i := 1) nd rfl (by first | exact Or.inl rfl | exact Or.inr rfl) (pe_can c_read_record (hr.mono (by first | decide | omega)) passL (pa_cons (pv 0) (pa_cons (pe_ix (ix_U (K := e.K)) (pv 1) pe_int (fun _ _ => rfl)) pa_nil))))
    (pss_cons (ps_while PassesOwn.never (pt_cmpR op_isNotU (pv 1) pe_non (nomark _)) (pss_cons (ps_expr (pe_bmU (K := e.K) PySem.F.plainAttrs_list PySem.F.slot_list_append PySem.F.type_list_append mt_append (pv 4) (pa_cons (pe_ix (ix_U (K := e.K)) (pv 1) pe_int (fun _ _ => rfl)) pa_nil)))
    (pss_one (ps_set (i := 1) nd rfl (by first | exact Or.inl rfl | exact Or.inr rfl) (pe_can c_read_record (hr.mono (by first | decide | omega)) passL (pa_cons (pv 0) (pa_cons (pe_ix (ix_U (K := e.K)) (pv 1) pe_int (fun _ _ => rfl)) pa_nil)))))))
    (pss_one (ps_ret (pe_tup (pa_cons (pv 2) (pa_cons (pv 3) (pa_cons (pv 4) pa_nil)))))))))))), ?_⟩
  unfold fileM at k
  walk_at "go"
  show sp_read_record _ [_, .int ((0 : Nat) : Int)] _ _ _
  refine use_read_record ha by_ (Nat.zero_le _) (fun d q er p v H1 np s1 hp hv => ?_) (fun er H1 s1 => ?_)
  · obtain ⟨b1, b2, b3, b4, b5⟩ := rdA_back by_.byt 20 0 d q (Nat.zero_le _) er
    rw [er] at k
    replace k : fileP H Q (match begO d with | some (n, v) => some (n, v, evM ns (ns.length + 1) q) | none => none) := k
    have ha1 := s1 _ _ ha
    walk_at "go"
    refine use_is_begin hv b3 b4 (fun H2 s2 => ?_)
    cases eb : begO d with
    | none =>
      rw [eb] at k
      walk_at "god"
      exact k H2 (s1.trans s2)
    | some z =>
      rw [show (some z).isSome = true from rfl]
      obtain ⟨n, w⟩ := z
      obtain ⟨rfl, n1⟩ := begO_some eb
      rw [eb] at k
      replace k : fileP H Q (some (n, w, evM ns (ns.length + 1) q)) := k
      have hp2 := s2 _ _ hp
      have hv2 := hv.mono (Gro.same s2)
      have ha2 := s2 _ _ ha1
      cases hv2 with
      | tup hh hs =>
        rename_i ah xs
        match xs, hs with
        | _, .cons h0 (.cons h1 (.cons h2 .nil)) =>
          rename_i x0 x1 x2
          cases h0
          cases h1
          walk_at "god"
          rename_i pe H3 n3 m3 h3
          have ha3 := m3 _ _ ha2
          have npe := Same.before (s1.trans s2) n3
          have hv3 : Dq H3 x2 w := Dq.mono (Gro.same m3) (by assumption)
          have fin : ∀ (H4 : Hp) (vs : List V) (es : List PyData), Same H H4 → H4 pe = some (.lst vs) → Dqs H4 vs es → Dq H4 x2 w → es = evM ns (ns.length + 1) q → ∀ p H5, H4 p = none → Same H4 H5 → H5 p = some (.tup [.int n, x2, .ref pe]) → Q (.ref p) H5 := fun H4 vs es s4 h4 d4 w4 e4 p H5 n5 s5 h5 => by
            subst e4
            exact k p pe x2 vs H5 (Same.before s4 n5) npe (s4.trans s5) h5 (w4.mono (Gro.same s5)) (s5 _ _ h4) (d4.mono (Gro.same s5))
          have step : ∀ (H4 : Hp) (es : List PyData) (vs : List V) (q1 : Nat) (R : VK) (E2 : XK), Same H H4 → H4 pe = some (.lst vs) → Dqs H4 vs es → Dq H4 x2 w → q1 ≤ ns.length → es ++ evM ns (ns.length + 1) q1 = evM ns (ns.length + 1) q →
              (∀ fd H5, Same H4 H5 → ((fd = .non ∧ es = evM ns (ns.length + 1) q) ∨ ∃ pf v d q', fd = .ref pf ∧ H5 pf = some (.tup [v, .int ((q' : Nat) : Int)]) ∧ Dq H5 v d ∧ q1 < q' ∧ q' ≤ ns.length ∧ es ++ (d :: evM ns (ns.length + 1) q') = evM ns (ns.length + 1) q) → R fd H5) →
              sp_read_record e.K [.ref a, .int q1] H4 R E2 := fun H4 es vs q1 R E2 s4 h4 d4 w4 l4 e4 kk => by
            refine use_read_record (s4 _ _ ha) by_ l4 (fun d' q' er' p' v' H5 np' s5 hp' hv' => ?_) (fun er' H5 s5 => ?_)
            · rw [evM_next l4 er'] at e4
              exact kk _ H5 s5 (.inr ⟨p', v', d', q', rfl, hp', hv', rdA_le _ _ _ _ _ er', rdA_ub l4 er', e4⟩)
            · rw [evM_stop er', List.append_nil] at e4
              exact kk _ H5 s5 (.inl ⟨rfl, e4⟩)
          have s03 := (s1.trans s2).trans m3
          refine step H3 [] [] q _ _ s03 h3 .nil hv3 b2 rfl (fun fd H4 s4 hfd => ?_)
          clear hp hp2 ha1 ha2 ha3
          obtain ⟨m0, st⟩ : ∃ m, ((fd = .non ∧ [] = evM ns (ns.length + 1) q) ∨ ∃ pf v d q', fd = .ref pf ∧ H4 pf = some (.tup [v, .int ((q' : Nat) : Int)]) ∧ Dq H4 v d ∧ m = ns.length + 1 - q' ∧ q' ≤ ns.length ∧ [] ++ (d :: evM ns (ns.length + 1) q') = evM ns (ns.length + 1) q) := by
            rcases hfd with ⟨e1, e2⟩ | ⟨pf, v, d, q', e1, e2, e3, e4, e5, e6⟩
            · exact ⟨0, .inl ⟨e1, e2⟩⟩
            · exact ⟨_, .inr ⟨pf, v, d, q', e1, e2, e3, rfl, e5, e6⟩⟩
          walk_at "go"
          refine r_while (fun m σ' H' => ∃ fd es vs, σ' = [some (.ref a), some fd, some (.int n), some x2, some (.ref pe)] ∧ Same H H' ∧ H' pe = some (.lst vs) ∧ Dqs H' vs es ∧ Dq H' x2 w ∧ ((fd = .non ∧ es = evM ns (ns.length + 1) q) ∨ ∃ pf v d q', fd = .ref pf ∧ H' pf = some (.tup [v, .int ((q' : Nat) : Int)]) ∧ Dq H' v d ∧ m = ns.length + 1 - q' ∧ q' ≤ ns.length ∧ es ++ (d :: evM ns (ns.length + 1) q') = evM ns (ns.length + 1) q))
            m0 ?_ ?_
          · exact ⟨fd, [], [], rfl, s03.trans s4, s4 _ _ h3, .nil, hv3.mono (Gro.same s4), st⟩
          · rintro m σ' H5 ⟨fd, es, vs, rfl, s5, h5, d5, w5, hfd⟩
            rcases hfd with ⟨rfl, ee⟩ | ⟨pf, v, d, q', rfl, hpf, hv5, rfl, ql, ee⟩
            · walk_at "go"
              refine r_wlqF (c := tYes) ?_
              walk_at "go"
              rename_i p6 H6 n6 m6 h6
              exact fin H5 vs es s5 h5 d5 w5 ee p6 H6 n6 m6 h6
            · have lv : vs.length ≤ 140000 := by
                have l1 := d5.length
                have l2 := evM_len (ns := ns) (f := ns.length + 1) (q := q) b2
                have l3 := congrArg List.length ee
                rw [List.length_append] at l3
                omega
              walk_at "go"
              refine r_wlqT (c := tYes) ?_
              walk_at "go"
              rename_i H6 h6 k6
              have s6 := Same.but s5 npe k6
              have g6 := gro_but h5 k6
              have hpf6 : H6 pf = some (.tup [v, .int ((q' : Nat) : Int)]) := g6.tup _ _ hpf
              walk_at "go"
              refine step H6 (es ++ [d]) (vs ++ [v]) q' _ _ s6 h6 ((d5.snoc hv5).mono g6) (w5.mono g6) ql (by rw [List.append_assoc]; exact ee) (fun fd H7 s7 hfd => ?_)
              walk_at "go"
              rcases hfd with ⟨rfl, ee7⟩ | ⟨pf7, v7, d7, q7, rfl, hpf7, hv7, lt7, ql7, ee7⟩
              · exact ⟨0, by omega, _, es ++ [d], vs ++ [v], rfl, s6.trans s7, s7 _ _ h6, ((d5.snoc hv5).mono g6).mono (Gro.same s7), (w5.mono g6).mono (Gro.same s7), .inl ⟨rfl, ee7⟩⟩
              · exact ⟨ns.length + 1 - q7, by omega, _, es ++ [d], vs ++ [v], rfl, s6.trans s7, s7 _ _ h6, ((d5.snoc hv5).mono g6).mono (Gro.same s7), (w5.mono g6).mono (Gro.same s7), .inr ⟨pf7, v7, d7, q7, rfl, hpf7, hv7, rfl, ql7, ee7⟩⟩
  · cases e : rdA ns 20 0 with
    | ok d q => exact absurd e (er d q)
    | inc =>
      rw [e] at k
      walk_at "god"
      exact k H1 s1
    | bad j =>
      rw [e] at k
      walk_at "god"
      exact k H1 s1

/-! ### applied -/
abbrev s_applied : Stmt := top 33
abbrev N_applied : List Str := ["content", "steps", "step"]
theorem sc_applied : FnScope N_applied ["content", "steps"] (defScope s_applied) := ⟨rfl, rfl, rfl, by decide +kernel, rfl, by decide +kernel, by decide +kernel⟩
theorem bi_applied : BindOk "applied" s_applied ["content", "steps"] := fun _ _ _ _ _ _ us hl => match us, hl with | [_, _], _ => rfl
def sp_applied (K : PySem.W.Frag) : Sp := sp2 fun x y H Q _ => ∃ p q xs st, x = .ref p ∧ y = .ref q ∧ H p = some (.lst (xs.map V.int)) ∧ H q = some (.lst (st.map V.int)) ∧ xs.length + st.length ≤ 1000000 ∧
  ∀ r H', H r = none → Same H H' → H' r = some (.lst ((appliedM xs st).map V.int)) → Q (.ref r) H'
theorem ok_applied {e : Wd} (D : DefAt e "applied" s_applied) (B : Bl e.mg) (g_CLEAR : ∃ t, e.mg "CLEAR" = some (.int (-1) t)) : Can e 1 "applied" ["content", "steps"] (sp_applied e.K) := by
  refine can_of D sc_applied bi_applied (fun _ _ _ _ h => sp2_len h) (fun cdv f A outer s H vs Q E hr h => ?_)
  obtain ⟨v0, v1, rfl, h⟩ := sp2_ex h
  have nd := sc_applied.nd
  obtain ⟨p, q, xs, st, rfl, rfl, hp, hq, hl, k⟩ := h
  refine ⟨_, (pss_cons (ps_set (i := 0) nd rfl (by first | exact Or.inl rfl | exact Or.inr rfl) (pe_callTy (call_listU (K := e.K)) (by rfl) B.b_list bt_list (pa_cons (pv 0) pa_nil)))
    (pss_cons (ps_for PassesOwn.never rfl (pi_U (K := e.K) (pv 1)) (pg_name (i := 2) nd rfl (by first | exact Or.inl rfl | exact Or.inr rfl)) (pss_one (ps_if (pt_cmpR (op_eqU (K := e.K) hr) (pv 2) (pe_gi g_CLEAR) (nomark _)) (pss_one (ps_set (i := 0) nd rfl (by first | exact Or.inl rfl | exact Or.inr rfl) (pe_lst pa_nil))) (pss_one (ps_expr (pe_bmU (K := e.K) PySem.F.plainAttrs_list PySem.F.slot_list_append PySem.F.type_list_append mt_append (pv 0) (pa_cons (pv 2) pa_nil)))))))
    (pss_one (ps_ret (pv 0))))), ?_⟩
  walk_at "go"
  rename_i r0 H0 np0 sm0 hr0
  refine for_L (fun i σ' H' => ∃ r y, σ' = [some (.ref r), some (.ref q), y] ∧ H r = none ∧ Same H H' ∧ H' r = some (.lst ((appliedM xs (st.take i)).map V.int))) (SqL.of (sm0 _ _ hq)) ?_ ?_ ?_ ?_
  · exact ⟨r0, none, rfl, np0, sm0, hr0⟩
  · rintro i σ' H' _ ⟨r, y, rfl, nr, sm, hr⟩
    exact SqL.of (sm _ _ hq)
  · rintro i x σ' H' hx ⟨r, y, rfl, nr, sm, hr⟩
    obtain ⟨n, hn, rfl⟩ := get_mapG hx
    have al := applied_len xs (st.take i)
    have tl : (st.take i).length ≤ st.length := by rw [List.length_take]; omega
    rw [take_snoc hn, applied_snoc]
    walk_at "go"
    refine r_ite (fun c => ?_) (fun c => ?_)
    · rw [if_pos c]
      walk_at "go"
      rename_i r1 H1 np1 sm1 hr1
      exact ⟨r1, _, rfl, Same.before sm np1, sm.trans sm1, hr1⟩
    · rw [if_neg c]
      walk_at "go"
      rename_i H1 h1 k1
      exact ⟨r, _, rfl, nr, Same.but sm nr k1, by rw [h1, List.map_append] <;> rfl⟩
  · rintro σ' H' ⟨r, y, rfl, nr, sm, hr⟩
    rw [List.length_map, List.take_length] at hr
    walk_at "go"
    exact k _ _ nr sm hr
theorem use_applied {K : PySem.W.Frag} {p q : Addr} {xs st : List Int} {H : Hp} {Q : VK} {E : XK} (h1 : H p = some (.lst (xs.map V.int))) (h2 : H q = some (.lst (st.map V.int))) (h3 : xs.length + st.length ≤ 1000000) (k : ∀ r H', H r = none → Same H H' → H' r = some (.lst ((appliedM xs st).map V.int)) → Q (.ref r) H') : sp_applied K [.ref p, .ref q] H Q E :=
  ⟨p, q, xs, st, rfl, rfl, h1, h2, h3, k⟩
local macro_rules | `(tactic| walk_at "call") => `(tactic| ((with_reducible refine' use_applied ?h1 ?h2 ?h3 ?_); (case h1 => walk_at "hp"); (case h2 => walk_at "hp"); (case h3 => walk_at "nat"); intro r H' np sm hr))

/-! ### Disk.content -/
abbrev s_Disk_content : Stmt := inClass (top 34) 5
abbrev N_Disk_content : List Str := ["self", "file"]
theorem sc_Disk_content : FnScope N_Disk_content ["self", "file"] (defScope s_Disk_content) := ⟨rfl, rfl, rfl, by decide +kernel, rfl, by decide +kernel, by decide +kernel⟩
theorem bi_Disk_content : BindQ "content" "Disk.content" s_Disk_content ["self", "file"] := fun _ _ _ _ _ _ us hl => match us, hl with | [_, _], _ => rfl
def sp_Disk_content (K : PySem.W.Frag) : Sp := sp2 fun x y H Q _ => ∃ p fp D, ∃ f : Nat, x = .ref p ∧ y = .int f ∧ f < 2 ∧ Own H (.ref p) (diskT K D) fp ∧ (D.c f).length + (D.s f).length ≤ 1000000 ∧
  ∀ r H', H r = none → Same H H' → H' r = some (.lst ((appliedM (D.c f) (D.s f)).map V.int)) → Q (.ref r) H'
theorem ok_Disk_content {e : Wd} (D : MethAt e (He.ga e.K "Disk") "content" "Disk.content" s_Disk_content) (B : Bl e.mg) (kc_Disk : Cls e.K (He.ga e.K "Disk")) (kn_Disk_durable : NoAttr e.K (He.ga e.K "Disk") "durable") (kn_Disk_steps : NoAttr e.K (He.ga e.K "Disk") "steps") (c_applied : Can e 1 "applied" ["content", "steps"] (sp_applied e.K)) : CanM e 2 (He.ga e.K "Disk") "content" ["self", "file"] (sp_Disk_content e.K) := by
  refine canM_of D sc_Disk_content bi_Disk_content (fun _ _ _ _ h => sp2_len h) (fun cdv f A outer s H vs Q E hr h => ?_)
  obtain ⟨v0, v1, rfl, h⟩ := sp2_ex h
  have nd := sc_Disk_content.nd
  obtain ⟨p, fp, D, f, rfl, rfl, hf, ho, hl, k⟩ := h
  obtain ⟨p', L, S, ca, sa, e1, rfl, d⟩ := ho.disk
  cases e1
  have hi : Ins H p (He.ga e.K "Disk") [("durable", .ref L), ("steps", .ref S), ("power", pwV D.pw)] := d.ins
  have hL := d.ld
  have hS := d.ls
  have hc := d.cs f hf
  have hs := d.ss f hf
  have a1 := at2 ca hf
  have a2 := at2 sa hf
  refine ⟨_, (pss_one (ps_ret (pe_can c_applied (hr.mono (by first | decide | omega)) passL (pa_cons (pe_ix (ix_U (K := e.K)) (pe_fldU (K := e.K) (pv 0)) (pv 1) (fun _ _ => rfl)) (pa_cons (pe_ix (ix_U (K := e.K)) (pe_fldU (K := e.K) (pv 0)) (pv 1) (fun _ _ => rfl)) pa_nil))))), ?_⟩
  walk_at "go"
  rename_i r H' np sm hr
  exact k r H' np sm hr
theorem use_content {K : PySem.W.Frag} {p : Addr} {fp : List Addr} {D : Dsk} {f : Nat} {H : Hp} {Q : VK} {E : XK} (h1 : Own H (.ref p) (diskT K D) fp) (h2 : f < 2) (h3 : (D.c f).length + (D.s f).length ≤ 1000000) (k : ∀ r H', H r = none → Same H H' → H' r = some (.lst ((appliedM (D.c f) (D.s f)).map V.int)) → Q (.ref r) H') : sp_Disk_content K [.ref p, .int f] H Q E :=
  ⟨p, fp, D, f, rfl, rfl, h2, h1, h3, k⟩

/-! ### Journal.__init__ -/
abbrev s_Journal___init__ : Stmt := inClass (top 30) 0
abbrev N_Journal___init__ : List Str := ["self", "disk", "file", "found"]
theorem sc_Journal___init__ : FnScope N_Journal___init__ ["self", "disk"] (defScope s_Journal___init__) := ⟨rfl, rfl, rfl, by decide +kernel, rfl, by decide +kernel, by decide +kernel⟩
theorem bi_Journal___init__ : BindQ "__init__" "Journal.__init__" s_Journal___init__ ["self", "disk"] := fun _ _ _ _ _ _ us hl => match us, hl with | [_, _], _ => rfl
theorem Chg.free {F F' : List Addr} {H H' : Hp} {b : Addr} (c : Chg F F' H H') (h : H' b = none) (n : b ∉ F) : H b = none := by
  cases e : H b with
  | none => rfl
  | some o =>
    rw [c.kp b o e n] at h
    cases h
/-- a disk is an instance; its methods are those of the class -/
theorem Own.dk {K : PySem.W.Frag} {H : Hp} {p : Addr} {D : Dsk} {fp : List Addr} (ho : Own H (.ref p) (diskT K D) fp) : ∃ fs, Ins H p (He.ga K "Disk") fs ∧ fs.lookup ("append" : Str) = none ∧ fs.lookup ("clear" : Str) = none ∧ fs.lookup ("sync" : Str) = none ∧ fs.lookup ("content" : Str) = none ∧ fs.lookup ("limit" : Str) = none ∧ fs.lookup ("crash" : Str) = none := by
  obtain ⟨p', L, S, ca, sa, e1, rfl, d⟩ := ho.disk
  cases e1
  exact ⟨[("durable", .ref L), ("steps", .ref S), ("power", pwV D.pw)], d.ins, by walk_at "lk", by walk_at "lk", by walk_at "lk", by walk_at "lk", by walk_at "lk", by walk_at "lk"⟩
def sp_Journal___init__ (K : PySem.W.Frag) : Sp := sp2 fun x y H Q _ => ∃ j p fp D, x = .ref j ∧ y = .ref p ∧ Ins H j (He.ga K "Journal") [] ∧ Own H (.ref p) (diskT K D) fp ∧ j ∉ fp ∧ (∀ i, i < 2 → (D.c i).length + (D.s i).length ≤ 140000) ∧ (∀ i, i < 2 → ByN (conM D i)) ∧
  ∀ H' v pe vs, Ins H' j (He.ga K "Journal") (jF p (loadM D).file (loadM D).gen v pe (loadM D).gen) → Dq H' v (loadM D).val → H' pe = some (.lst vs) → Dqs H' vs (loadM D).evs → H pe = none → Chg [j] [j] H H' → Q .non H'
theorem ok_Journal___init__ {e : Wd} (D : InitAt e (He.ga e.K "Journal") "Journal" "Journal.__init__" s_Journal___init__) (B : Bl e.mg) (kc_Journal : Cls e.K (He.ga e.K "Journal")) (kn_Journal_disk : NoAttr e.K (He.ga e.K "Journal") "disk") (kn_Journal_file : NoAttr e.K (He.ga e.K "Journal") "file") (kn_Journal_generation : NoAttr e.K (He.ga e.K "Journal") "generation") (kn_Journal_value : NoAttr e.K (He.ga e.K "Journal") "value") (kn_Journal_events : NoAttr e.K (He.ga e.K "Journal") "events") (kn_Journal_last : NoAttr e.K (He.ga e.K "Journal") "last") (c_read_file : Can e 63 "read_file" ["content"] (sp_read_file e.K)) (c_Disk_content : CanM e 2 (He.ga e.K "Disk") "content" ["self", "file"] (sp_Disk_content e.K)) : CanN e 64 (He.ga e.K "Journal") "Journal" ["self", "disk"] (sp_Journal___init__ e.K) := by
  refine canN_of D sc_Journal___init__ bi_Journal___init__ (fun _ _ _ _ h => sp2_len h) (fun cdv f A outer s H vs Q E hr h => ?_)
  obtain ⟨v0, v1, rfl, h⟩ := sp2_ex h
  have nd := sc_Journal___init__.nd
  obtain ⟨j, p, fp, D, rfl, rfl, hj, ho, nj, hl, hb, k⟩ := h
  refine ⟨_, (pss_cons (ps_fldU (K := e.K) (pv 0) (pv 1))
    (pss_cons (ps_fldU (K := e.K) (pv 0) pe_int)
    (pss_cons (ps_fldU (K := e.K) (pv 0) pe_int)
    (pss_cons (ps_fldU (K := e.K) (pv 0) pe_non)
    (pss_cons (ps_fldU (K := e.K) (pv 0) (pe_lst pa_nil))
    (pss_cons (ps_for PassesOwn.never rfl (pi_range1 rfl B.b_range (pa_cons pe_int pa_nil)) (pg_name (i := 2) nd rfl (by first | exact Or.inl rfl | exact Or.inr rfl)) (pss_cons (ps_set (i := 3) nd rfl (by first | exact Or.inl rfl | exact Or.inr rfl) (pe_can c_read_file (hr.mono (by first | decide | omega)) passL (pa_cons (pe_canM c_Disk_content (hr.mono (by first | decide | omega)) passL (pv 1) (pa_cons (pv 2) pa_nil)) pa_nil)))
    (pss_one (ps_if (PW.pt (pw_and (pt_cmpR op_isNotU (pv 3) pe_non (nomark _)) (pw_and1 (pt_cmpR op_gtU (pe_ix (ix_U (K := e.K)) (pv 3) pe_int (fun _ _ => rfl)) (pe_fldU (K := e.K) (pv 0)) (nomark _))))) (pss_cons (ps_fldU (K := e.K) (pv 0) (pv 2))
    (pss_one (ps_asg (pv 3) (pg_tupU (K := e.K) (n := 3) rfl (pgs_cons (pg_fldU (K := e.K) (pv 0)) (pgs_cons (pg_fldU (K := e.K) (pv 0)) (pgs_cons (pg_fldU (K := e.K) (pv 0)) pgs_nil))))))) pss_nil))))
    (pss_one (ps_fldU (K := e.K) (pv 0) (pe_fldU (K := e.K) (pv 0)))))))))), ?_⟩
  walk_at "go"
  rename_i H1 i1 f1 H2 i2 f2 H3 i3 f3 H4 i4 f4 pe0 H5 n5 m5 h5 H6 i6 f6
  have jm : j ∈ [j] := List.mem_singleton.mpr rfl
  have c6 : Chg [j] [j] H H6 := (((((f1.chg jm).trans (f2.chg jm)).trans (f3.chg jm)).trans (f4.chg jm)).snd m5).trans (f6.chg jm)
  have e0 : H pe0 = none := f1.fresh i1 (f2.fresh i2 (f3.fresh i3 (f4.fresh i4 n5)))
  have h6 : H6 pe0 = some (.lst []) := f6.lst h5
  refine for_rng (fun i σ' H' => ∃ v pe vs x2 x3, σ' = [some (.ref j), some (.ref p), x2, x3] ∧ Chg [j] [j] H H' ∧ Ins H' j (He.ga e.K "Journal") [("disk", .ref p), ("file", .int (ldI D i).file), ("generation", .int (ldI D i).gen), ("value", v), ("events", .ref pe)] ∧ Dq H' v (ldI D i).val ∧ H' pe = some (.lst vs) ∧ Dqs H' vs (ldI D i).evs ∧ H pe = none) (by omega) (by omega) ⟨.non, pe0, [], none, none, rfl, c6, i6, .non, h6, .nil, e0⟩ ?_ ?_
  · clear c6 e0 h6 i1 i2 i3 i4 i6 f1 f2 f3 f4 f6 h5 n5 m5
    rintro i σ' H7 hi ⟨v, pe, vs, x2, x3, rfl, c7, i7, a2, a3, a4, a5⟩
    have hi2 : i < 2 := by omega
    have ho7 := ho.chg c7 (dsj_one nj)
    obtain ⟨fs, hp7, _, _, _, lc, _, _⟩ := ho7.dk
    walk_at "go"
    refine r_methv hp7 lc ?_
    walk_at "go"
    refine use_content ho7 hi2 (by have := hl i hi2; omega) (fun r H8 n8 m8 h8 => ?_)
    walk_at "go"
    refine use_read_file h8 (hb i hi2) ?_
    cases ef : fileM (appliedM (D.c i) (D.s i)) with
    | none =>
      intro H9 m9
      have m79 := m8.trans m9
      walk_at "god"
      refine ⟨v, pe, vs, _, _, rfl, c7.snd m79, ?_⟩
      rw [show ldI D (i + 1) = (ldI D i).look i (fileM (conM D i)) from rfl, show fileM (conM D i) = none from ef]
      exact ⟨i7.same m79, a2.mono (Gro.same m79), m79 _ _ a3, a4.mono (Gro.same m79), a5⟩
    | some z =>
      obtain ⟨g, d, es⟩ := z
      intro p4 pe4 v4 vs4 H9 n9 ne9 m9 h9 hv9 he9 hs9
      have m79 := m8.trans m9
      have i9 : Ins H9 j (He.ga e.K "Journal") [("disk", .ref p), ("file", .int (ldI D i).file), ("generation", .int (ldI D i).gen), ("value", v), ("events", .ref pe)] := i7.same m79
      by_cases c : (ldI D i).gen < g
      · have x9 : H pe4 = none := (c7.snd m8).free ne9 fun z => by
          obtain ⟨dx, q⟩ := i7.same m8
          rw [List.mem_singleton.mp z, q] at ne9
          cases ne9
        walk_at "god"
        rename_i G1 k1 u1 G2 k2 u2 G3 k3 u3 G4 k4 u4
        have gr := ((u1.gro.trans u2.gro).trans u3.gro).trans u4.gro
        refine ⟨v4, pe4, vs4, _, _, rfl, ((((c7.snd m79).trans (u1.chg jm)).trans (u2.chg jm)).trans (u3.chg jm)).trans (u4.chg jm), ?_⟩
        rw [show ldI D (i + 1) = (ldI D i).look i (fileM (conM D i)) from rfl, show fileM (conM D i) = some (g, d, es) from ef, look_some c]
        exact ⟨k4, hv9.mono gr, u4.lst (u3.lst (u2.lst (u1.lst he9))), hs9.mono gr, x9⟩
      · walk_at "god"
        refine ⟨v, pe, vs, _, _, rfl, c7.snd m79, ?_⟩
        rw [show ldI D (i + 1) = (ldI D i).look i (fileM (conM D i)) from rfl, show fileM (conM D i) = some (g, d, es) from ef, show (ldI D i).look i (some (g, d, es)) = ldI D i from if_neg c]
        exact ⟨i9, a2.mono (Gro.same m79), m79 _ _ a3, a4.mono (Gro.same m79), a5⟩
  · clear c6 e0 h6 i1 i2 i3 i4 i6 f1 f2 f3 f4 f6 h5 n5 m5
    rintro σ' H7 ⟨v, pe, vs, x2, x3, rfl, c7, i7, a2, a3, a4, a5⟩
    have i7 : Ins H7 j (He.ga e.K "Journal") [("disk", .ref p), ("file", .int (loadM D).file), ("generation", .int (loadM D).gen), ("value", v), ("events", .ref pe)] := i7
    walk_at "go"
    rename_i H8 i8 f8
    exact k H8 v pe vs i8 (a2.mono f8.gro) (f8.lst a3) (a4.mono f8.gro) a5 (c7.trans (f8.chg jm))
theorem use_Journal {K : PySem.W.Frag} {p : Addr} {fp : List Addr} {D : Dsk} {H : Hp} {Q : VK} {E : XK} (h1 : Own H (.ref p) (diskT K D) fp) (h2 : ∀ i, i < 2 → (D.c i).length + (D.s i).length ≤ 140000) (h3 : ∀ i, i < 2 → ByN (conM D i))
    (k : ∀ j H' v pe vs, H j = none → H pe = none → j ≠ pe → Same H H' → Ins H' j (He.ga K "Journal") (jF p (loadM D).file (loadM D).gen v pe (loadM D).gen) → Dq H' v (loadM D).val → H' pe = some (.lst vs) → Dqs H' vs (loadM D).evs → Q (.ref j) H') : makeq (He.ga K "Journal") (sp_Journal___init__ K) E [.ref p] H Q :=
  r_makev fun j H1 nj sm hi => ⟨j, p, fp, D, rfl, rfl, hi, h1.same sm, h1.new_out nj, h2, h3, fun H2 v pe vs a1 a2 a3 a4 a5 c => ⟨rfl, k j H2 v pe vs nj (Same.before sm a5) (fun z => by
    obtain ⟨dx, q⟩ := hi
    rw [← z, q] at a5
    cases a5) (fun b o e => c.kp b o (sm b o e) fun z => ne_of_none e nj (List.mem_singleton.mp z)) a1 a2 a3 a4⟩⟩

/-! ### Disk.spend -/
abbrev s_Disk_spend : Stmt := inClass (top 34) 1
abbrev N_Disk_spend : List Str := ["self"]
theorem sc_Disk_spend : FnScope N_Disk_spend ["self"] (defScope s_Disk_spend) := ⟨rfl, rfl, rfl, by decide +kernel, rfl, by decide +kernel, by decide +kernel⟩
theorem bi_Disk_spend : BindQ "spend" "Disk.spend" s_Disk_spend ["self"] := fun _ _ _ _ _ _ us hl => match us, hl with | [_], _ => rfl
def sp_Disk_spend (K : PySem.W.Frag) : Sp := sp1 fun x H Q E => ∃ p L S pw, x = .ref p ∧ Ins H p (He.ga K "Disk") (diskF L S pw) ∧ (pw = some 0 → E (.ref (He.ga K "PowerCut")) none H) ∧ (pw = none → Q .non H) ∧
  ∀ n, pw = some n → n ≠ 0 → ∀ H', Ins H' p (He.ga K "Disk") (diskF L S (some (n - 1))) → Fput p H H' → Q .non H'
theorem ok_Disk_spend {e : Wd} (D : MethAt e (He.ga e.K "Disk") "spend" "Disk.spend" s_Disk_spend) (B : Bl e.mg) (kc_Disk : Cls e.K (He.ga e.K "Disk")) (kn_Disk_power : NoAttr e.K (He.ga e.K "Disk") "power") (gm_PowerCut : e.mg "PowerCut" = some (.ref (He.ga e.K "PowerCut"))) (xo_PowerCut : Xco e.K (He.ga e.K "PowerCut")) : CanM e 1 (He.ga e.K "Disk") "spend" ["self"] (sp_Disk_spend e.K) := by
  refine canMX_of D sc_Disk_spend bi_Disk_spend (fun _ _ _ _ h => sp1_len h) (fun cdv f A outer s H vs Q E hr h tk po => ?_)
  obtain ⟨v0, rfl, h⟩ := sp1_ex h
  have nd := sc_Disk_spend.nd
  obtain ⟨p, L, S, pw, rfl, hi, k0, k1, k2⟩ := h
  unfold diskF at hi
  refine ⟨_, (pss_cons (ps_if (pt_cmpR op_isU (pe_fldU (K := e.K) (pv 0)) pe_non (nomark _)) (pss_one ps_retN) pss_nil)
    (pss_cons (ps_if (pt_cmpR (op_eqU (K := e.K) hr) (pe_fldU (K := e.K) (pv 0)) pe_int (nomark _)) (pss_one (ps_raiseU rfl tk (mk0 xo_PowerCut gm_PowerCut))) pss_nil)
    (pss_one (ps_fldaugU (K := e.K) (pv 0) pe_int in_sub)))), ?_⟩
  cases pw with
  | none =>
    walk_at "go"
    exact k1 rfl
  | some n =>
    have hi : Ins H p (He.ga e.K "Disk") [("durable", L), ("steps", S), ("power", .int n)] := hi
    walk_at "go"
    refine r_ite (fun c => ?_) (fun c => ?_)
    · walk_at "go"
      exact k0 (by rw [c])
    · walk_at "go"
      rename_i H1 hi1 f1
      exact k2 n rfl c _ hi1 f1
theorem use_spend {K : PySem.W.Frag} {p : Addr} {L S : V} {pw : Option Int} {H : Hp} {Q : VK} {E : XK} (h1 : Ins H p (He.ga K "Disk") (diskF L S pw)) (k0 : pw = some 0 → E (.ref (He.ga K "PowerCut")) none H) (k : pw ≠ some 0 → ∀ H', Ins H' p (He.ga K "Disk") (diskF L S (pw.map (· - 1))) → (∀ b, b ≠ p → H' b = H b) → Q .non H') : sp_Disk_spend K [.ref p] H Q E := by
  refine ⟨p, L, S, pw, rfl, h1, k0, fun e => ?_, fun n e hn H' hi f => ?_⟩
  · subst e
    exact k (fun z => nomatch z) H h1 fun _ _ => rfl
  · subst e
    exact k (fun z => hn (Option.some.inj z)) H' hi f.kp

/-! ### Disk.append -/
abbrev s_Disk_append : Stmt := inClass (top 34) 2
abbrev N_Disk_append : List Str := ["self", "file", "data", "byte"]
theorem sc_Disk_append : FnScope N_Disk_append ["self", "file", "data"] (defScope s_Disk_append) := ⟨rfl, rfl, rfl, by decide +kernel, rfl, by decide +kernel, by decide +kernel⟩
theorem bi_Disk_append : BindQ "append" "Disk.append" s_Disk_append ["self", "file", "data"] := fun _ _ _ _ _ _ us hl => match us, hl with | [_, _, _], _ => rfl
def sp_Disk_append (K : PySem.W.Frag) : Sp := sp3 fun x y z H Q E => ∃ p fp D q bs, ∃ f : Nat, x = .ref p ∧ y = .int f ∧ z = .ref q ∧ f < 2 ∧ Own H (.ref p) (diskT K D) fp ∧ H q = some (.lst (bs.map V.int)) ∧ q ∉ fp ∧ (D.s f).length + bs.length ≤ 1000000 ∧ (∀ n, D.pw = some n → 0 ≤ n) ∧
  ((∀ n, D.pw = some n → (bs.length : Int) ≤ n) → ∀ H', Own H' (.ref p) (diskT K ((D.add f bs).use bs.length)) fp → Chg fp fp H H' → Q .non H') ∧
  ∀ n : Nat, D.pw = some (n : Int) → n < bs.length → ∀ H', Own H' (.ref p) (diskT K ((D.add f (bs.take n)).use n)) fp → Chg fp fp H H' → E (.ref (He.ga K "PowerCut")) none H'
theorem ok_Disk_append {e : Wd} (D : MethAt e (He.ga e.K "Disk") "append" "Disk.append" s_Disk_append) (B : Bl e.mg) (kc_Disk : Cls e.K (He.ga e.K "Disk")) (kn_Disk_steps : NoAttr e.K (He.ga e.K "Disk") "steps") (c_Disk_spend : CanM e 1 (He.ga e.K "Disk") "spend" ["self"] (sp_Disk_spend e.K)) : CanM e 2 (He.ga e.K "Disk") "append" ["self", "file", "data"] (sp_Disk_append e.K) := by
  refine canMX_of D sc_Disk_append bi_Disk_append (fun _ _ _ _ h => sp3_len h) (fun cdv f A outer s H vs Q E hr h tk po => ?_)
  obtain ⟨v0, v1, v2, rfl, h⟩ := sp3_ex h
  have nd := sc_Disk_append.nd
  obtain ⟨p, fp, D, q, bs, f, rfl, rfl, rfl, hf, ho, hq, nq, hl, hn, k, kE⟩ := h
  obtain ⟨p', L, S, ca, sa, e1, rfl, d⟩ := ho.disk
  cases e1
  have a2 := at2 sa hf
  refine ⟨_, (pss_one (ps_for po rfl (pi_U (K := e.K) (pv 2)) (pg_name (i := 3) nd rfl (by first | exact Or.inl rfl | exact Or.inr rfl)) (pss_cons (ps_expr (pe_canMX0 tk c_Disk_spend (hr.mono (by first | decide | omega)) (pv 0)))
    (pss_one (ps_expr (pe_bmU (K := e.K) PySem.F.plainAttrs_list PySem.F.slot_list_append PySem.F.type_list_append mt_append (pe_ix (ix_U (K := e.K)) (pe_fldU (K := e.K) (pv 0)) (pv 1) (fun _ _ => rfl)) (pa_cons (pv 3) pa_nil))))))), ?_⟩
  walk_at "go"
  refine for_L (fun i σ' H' => ∃ y, σ' = [some (.ref p), some (.int f), some (.ref q), y] ∧ DkAt e.K H' p L S ca sa ((D.add f (bs.take i)).use i) ∧ Chg (diskP p L S ca sa) (diskP p L S ca sa) H H' ∧ ∀ n, D.pw = some n → (i : Int) ≤ n) (SqL.of hq) ?_ ?_ ?_ ?_
  · refine ⟨_, rfl, ?_, Chg.refl _ _, fun n e => by have := hn n e; simpa using this⟩
    have e0 : (D.add f (bs.take 0)).use ((0 : Nat) : Int) = D.add f [] := by
      rw [List.take_zero]
      exact use0 _
    rw [e0]
    exact ⟨d.ins, d.ld, d.ls, d.cs, fun i hi => by
      have := d.ss i hi
      unfold Dsk.add
      show H (sa i) = some (.lst ((setF D.s f (D.s f ++ []) i).map V.int))
      by_cases e : i = f
      · subst e
        rw [setF_at, List.append_nil]
        exact this
      · rw [setF_ne _ _ e]
        exact this, d.ls', d.cc, d.sss, d.xs⟩
  · rintro i σ' H' _ ⟨y, rfl, _, c, _⟩
    exact SqL.of (c.kp _ _ hq nq)
  · rintro i x σ' H' hx ⟨y, rfl, d', c, hp⟩
    obtain ⟨n, hn', rfl⟩ := get_mapG hx
    have hi' : i < bs.length := (List.getElem?_eq_some_iff.mp hn').1
    have hi2 : Ins H' p (He.ga e.K "Disk") [("durable", .ref L), ("steps", .ref S), ("power", pwV (D.pw.map (· - (i : Int))))] := d'.ins
    walk_at "go"
    refine use_spend d'.ins (fun ez => ?_) (fun ez H1 hi1 f1 => ?_)
    · cases ep : D.pw with
      | none =>
        have ez : (D.pw.map (· - (i : Int))) = some 0 := ez
        rw [ep] at ez
        cases ez
      | some m =>
        have ez : (D.pw.map (· - (i : Int))) = some 0 := ez
        rw [ep] at ez
        have e2 : m - (i : Int) = 0 := Option.some.inj ez
        have e3 : m = (i : Int) := by omega
        exact kE i (by rw [ep, e3]) hi' H' d'.own c
    · have d1 := d'.fput (H' := H1) ⟨f1, _, _, d'.ins⟩ hi1
      have hi3 : Ins H1 p (He.ga e.K "Disk") [("durable", .ref L), ("steps", .ref S), ("power", pwV ((D.pw.map (· - (i : Int))).map (· - 1)))] := hi1
      have hS1 := d1.ls
      have hs1 : H1 (sa f) = some (.lst ((D.s f ++ bs.take i).map V.int)) := by
        have q := d1.ss f hf
        have q : H1 (sa f) = some (.lst ((setF D.s f (D.s f ++ bs.take i) f).map V.int)) := q
        rw [setF_at] at q
        exact q
      have hl1 : (D.s f).length + (bs.take i).length ≤ 1000000 := by
        rw [List.length_take]
        omega
      walk_at "go"
      rename_i H2 h2 k2
      have h2' : H2 (sa f) = some (.lst ((D.s f ++ bs.take (i + 1)).map V.int)) := by
        rw [h2, take_snoc hn', ← List.append_assoc, List.map_append (l₂ := [n])] <;> rfl
      have d2 := d1.put hf h2' k2
      refine ⟨_, rfl, ?_, ?_, fun m em => ?_⟩
      · have e1 := dsk_step D f (bs.take i) (bs.take (i + 1)) i
        have e2 : ((i : Int) + 1) = ((i + 1 : Nat) : Int) := by omega
        rw [e2] at e1
        rw [← e1]
        exact d2
      · exact (c.trans (Fput.chg (p := p) ⟨f1, _, _, d'.ins⟩ (by simp))).trans (d1.chg_s hf k2)
      · have := hp m em
        have ez : (D.pw.map (· - (i : Int))) ≠ some 0 := ez
        rw [em] at ez
        have e2 : m - (i : Int) ≠ 0 := fun z => ez (by rw [← z] <;> rfl)
        omega
  · rintro σ' H' ⟨y, rfl, d', c, hp⟩
    rw [List.length_map, List.take_length] at d'
    walk_at "go"
    exact k (fun n e => by have := hp n e; rw [List.length_map] at this; exact this) H' d'.own c

/-! ### Disk.clear -/
abbrev s_Disk_clear : Stmt := inClass (top 34) 3
abbrev N_Disk_clear : List Str := ["self", "file"]
theorem sc_Disk_clear : FnScope N_Disk_clear ["self", "file"] (defScope s_Disk_clear) := ⟨rfl, rfl, rfl, by decide +kernel, rfl, by decide +kernel, by decide +kernel⟩
theorem bi_Disk_clear : BindQ "clear" "Disk.clear" s_Disk_clear ["self", "file"] := fun _ _ _ _ _ _ us hl => match us, hl with | [_, _], _ => rfl
def sp_Disk_clear (K : PySem.W.Frag) : Sp := sp2 fun x y H Q E => ∃ p fp D, ∃ f : Nat, x = .ref p ∧ y = .int f ∧ f < 2 ∧ Own H (.ref p) (diskT K D) fp ∧ (D.s f).length ≤ 1000000 ∧
  (D.pw ≠ some 0 → ∀ H', Own H' (.ref p) (diskT K ((D.add f [-1]).use 1)) fp → Chg fp fp H H' → Q .non H') ∧ (D.pw = some 0 → E (.ref (He.ga K "PowerCut")) none H)
theorem ok_Disk_clear {e : Wd} (D : MethAt e (He.ga e.K "Disk") "clear" "Disk.clear" s_Disk_clear) (B : Bl e.mg) (g_CLEAR : ∃ t, e.mg "CLEAR" = some (.int (-1) t)) (kc_Disk : Cls e.K (He.ga e.K "Disk")) (kn_Disk_steps : NoAttr e.K (He.ga e.K "Disk") "steps") (c_Disk_spend : CanM e 1 (He.ga e.K "Disk") "spend" ["self"] (sp_Disk_spend e.K)) : CanM e 2 (He.ga e.K "Disk") "clear" ["self", "file"] (sp_Disk_clear e.K) := by
  refine canMX_of D sc_Disk_clear bi_Disk_clear (fun _ _ _ _ h => sp2_len h) (fun cdv f A outer s H vs Q E hr h tk po => ?_)
  obtain ⟨v0, v1, rfl, h⟩ := sp2_ex h
  have nd := sc_Disk_clear.nd
  obtain ⟨p, fp, D, f, rfl, rfl, hf, ho, hl, k, kE⟩ := h
  obtain ⟨p', L, S, ca, sa, e1, rfl, d⟩ := ho.disk
  cases e1
  have a2 := at2 sa hf
  have hi2 : Ins H p (He.ga e.K "Disk") [("durable", .ref L), ("steps", .ref S), ("power", pwV D.pw)] := d.ins
  refine ⟨_, (pss_cons (ps_expr (pe_canMX0 tk c_Disk_spend (hr.mono (by first | decide | omega)) (pv 0)))
    (pss_one (ps_expr (pe_bmU (K := e.K) PySem.F.plainAttrs_list PySem.F.slot_list_append PySem.F.type_list_append mt_append (pe_ix (ix_U (K := e.K)) (pe_fldU (K := e.K) (pv 0)) (pv 1) (fun _ _ => rfl)) (pa_cons (pe_gi g_CLEAR) pa_nil))))), ?_⟩
  walk_at "go"
  refine use_spend d.ins kE (fun ez H1 hi1 f1 => ?_)
  have d1 := d.fput (H' := H1) ⟨f1, _, _, d.ins⟩ hi1
  have hi3 : Ins H1 p (He.ga e.K "Disk") [("durable", .ref L), ("steps", .ref S), ("power", pwV (D.pw.map (· - 1)))] := hi1
  have hS1 := d1.ls
  have hs1 : H1 (sa f) = some (.lst ((D.s f).map V.int)) := d1.ss f hf
  walk_at "go"
  rename_i H2 h2 k2
  have h2' : H2 (sa f) = some (.lst ((D.s f ++ [-1]).map V.int)) := by
    rw [h2, List.map_append] <;> rfl
  have d2 := d1.put hf h2' k2
  exact k ez H2 d2.own ((Fput.chg (p := p) ⟨f1, _, _, d.ins⟩ (by simp)).trans (d1.chg_s hf k2))

/-! ### Disk.sync -/
abbrev s_Disk_sync : Stmt := inClass (top 34) 4
abbrev N_Disk_sync : List Str := ["self", "file"]
theorem sc_Disk_sync : FnScope N_Disk_sync ["self", "file"] (defScope s_Disk_sync) := ⟨rfl, rfl, rfl, by decide +kernel, rfl, by decide +kernel, by decide +kernel⟩
theorem bi_Disk_sync : BindQ "sync" "Disk.sync" s_Disk_sync ["self", "file"] := fun _ _ _ _ _ _ us hl => match us, hl with | [_, _], _ => rfl
def sp_Disk_sync (K : PySem.W.Frag) : Sp := sp2 fun x y H Q E => ∃ p fp D, ∃ f : Nat, x = .ref p ∧ y = .int f ∧ f < 2 ∧ Own H (.ref p) (diskT K D) fp ∧ (D.c f).length + (D.s f).length ≤ 1000000 ∧
  (D.pw ≠ some 0 → ∀ H' fp', Own H' (.ref p) (diskT K ((D.syn f).use 1)) fp' → Chg fp fp' H H' → Q .non H') ∧ (D.pw = some 0 → E (.ref (He.ga K "PowerCut")) none H)
theorem ok_Disk_sync {e : Wd} (D : MethAt e (He.ga e.K "Disk") "sync" "Disk.sync" s_Disk_sync) (B : Bl e.mg) (kc_Disk : Cls e.K (He.ga e.K "Disk")) (kn_Disk_durable : NoAttr e.K (He.ga e.K "Disk") "durable") (kn_Disk_steps : NoAttr e.K (He.ga e.K "Disk") "steps") (c_Disk_spend : CanM e 1 (He.ga e.K "Disk") "spend" ["self"] (sp_Disk_spend e.K)) (c_Disk_content : CanM e 2 (He.ga e.K "Disk") "content" ["self", "file"] (sp_Disk_content e.K)) : CanM e 3 (He.ga e.K "Disk") "sync" ["self", "file"] (sp_Disk_sync e.K) := by
  refine canMX_of D sc_Disk_sync bi_Disk_sync (fun _ _ _ _ h => sp2_len h) (fun cdv f A outer s H vs Q E hr h tk po => ?_)
  obtain ⟨v0, v1, rfl, h⟩ := sp2_ex h
  have nd := sc_Disk_sync.nd
  obtain ⟨p, fp, D, f, rfl, rfl, hf, ho, hl, k, kE⟩ := h
  obtain ⟨p', L, S, ca, sa, e1, rfl, d⟩ := ho.disk
  cases e1
  have hi2 : Ins H p (He.ga e.K "Disk") [("durable", .ref L), ("steps", .ref S), ("power", pwV D.pw)] := d.ins
  refine ⟨_, (pss_cons (ps_expr (pe_canMX0 tk c_Disk_spend (hr.mono (by first | decide | omega)) (pv 0)))
    (pss_cons (ps_asg (pe_canMX tk c_Disk_content (hr.mono (by first | decide | omega)) (pv 0) (pa_cons (pv 1) pa_nil)) (pg_sub (pe_fldU (K := e.K) (pv 0)) (pv 1) set_list))
    (pss_one (ps_asg (pe_lst pa_nil) (pg_sub (pe_fldU (K := e.K) (pv 0)) (pv 1) set_list))))), ?_⟩
  walk_at "go"
  refine use_spend d.ins kE (fun ez H1 hi1 f1 => ?_)
  have d1 := d.fput (H' := H1) ⟨f1, _, _, d.ins⟩ hi1
  have hi3 : Ins H1 p (He.ga e.K "Disk") [("durable", .ref L), ("steps", .ref S), ("power", pwV (D.pw.map (· - 1)))] := hi1
  have hL1 := d1.ld
  have hS1 := d1.ls
  walk_at "go"
  refine use_content d1.own hf hl (fun r H2 nr m2 hr => ?_)
  walk_at "go"
  refine r_setL (m2 _ _ hL1) (ix2 hf) (fun H3 h3 k3 => ?_)
  have hi4 : Ins H3 p (He.ga e.K "Disk") [("durable", .ref L), ("steps", .ref S), ("power", pwV (D.pw.map (· - 1)))] := by
    obtain ⟨dx, q⟩ := hi3
    exact ⟨dx, by rw [k3 p (ins_ne ⟨dx, q⟩ hL1)]; exact m2 _ _ q⟩
  have hS3 : H3 S = some (.lst [.ref (sa 0), .ref (sa 1)]) := by
    rw [k3 S (Ne.symm d.ls')]
    exact m2 _ _ hS1
  walk_at "go"
  rename_i r2 H4 n4 m4 h4
  refine r_setL (m4 _ _ hS3) (ix2 hf) (fun H5 h5 k5 => ?_)
  obtain ⟨d5, c5⟩ := d1.syn hf nr m2 hr h3 k3 n4 m4 h4 h5 k5
  exact k ez H5 _ d5.own ((Fput.chg (p := p) ⟨f1, _, _, d.ins⟩ (by simp)).trans c5)

/-! ### Journal.checkpoint -/
abbrev s_Journal_checkpoint : Stmt := inClass (top 30) 1
abbrev N_Journal_checkpoint : List Str := ["self", "value", "other"]
theorem sc_Journal_checkpoint : FnScope N_Journal_checkpoint ["self", "value"] (defScope s_Journal_checkpoint) := ⟨rfl, rfl, rfl, by decide +kernel, rfl, by decide +kernel, by decide +kernel⟩
theorem bi_Journal_checkpoint : BindQ "checkpoint" "Journal.checkpoint" s_Journal_checkpoint ["self", "value"] := fun _ _ _ _ _ _ us hl => match us, hl with | [_, _], _ => rfl
theorem Chg.cons {F F' : List Addr} {H H' : Hp} {j : Addr} (c : Chg F F' H H') : Chg (j :: F) (j :: F') H H' :=
  ⟨fun b o h n => c.kp b o h fun m => n (List.mem_cons_of_mem _ m), fun b hb => (List.mem_cons.mp hb).elim (fun z => .inl (z ▸ List.mem_cons_self)) fun z => (c.nw b z).elim (fun y => .inl (List.mem_cons_of_mem _ y)) .inr, c.gro⟩
theorem Chg.one {F : List Addr} {H H' : Hp} {j : Addr} (c : Chg [j] [j] H H') : Chg (j :: F) (j :: F) H H' :=
  ⟨fun b o h n => c.kp b o h fun m => n (List.mem_cons.mpr (.inl (List.mem_singleton.mp m))), fun b hb => .inl hb, c.gro⟩
theorem pw_add (o : Option Int) (i j : Int) : (o.map (· - i)).map (· - j) = o.map (· - (i + j)) := by
  cases o with
  | none => rfl
  | some n =>
    show some (n - i - j) = some (n - (i + j))
    rw [Int.sub_sub]
theorem done_ck {D : Dsk} {X : Ld} {d : PyData} (rc : Rc d) (hs : ∀ i, i < 2 → D.s i = []) (hf : X.file < 2) (K : PySem.W.Frag) : diskT K ((((((D.add (1 - X.file) [-1]).use 1).add (1 - X.file) (recD (begD (X.gen + 1) d))).use (recD (begD (X.gen + 1) d)).length).syn (1 - X.file)).use 1) = diskT K (doneD D X (.ck d)) := by
  refine Dsk.ext (fun i hi => ?_) (fun i hi => ?_) ?_ K
  · show setF D.c (1 - X.file) (appliedM (D.c (1 - X.file)) (setF (setF D.s (1 - X.file) (D.s (1 - X.file) ++ [-1])) (1 - X.file) (setF D.s (1 - X.file) (D.s (1 - X.file) ++ [-1]) (1 - X.file) ++ recD (begD (X.gen + 1) d)) (1 - X.file))) i = setF D.c (1 - X.file) (recD (begD (X.gen + 1) d)) i
    rw [setF_at, setF_at, hs _ (by omega), List.nil_append]
    rw [show [-1] ++ recD (begD (X.gen + 1) d) = -1 :: recD (begD (X.gen + 1) d) from rfl, appl_clear fun g hg => (recD_byte (begD_pk rc.pk) g hg).1]
  · show setF (setF (setF D.s (1 - X.file) _) (1 - X.file) _) (1 - X.file) [] i = D.s i
    rw [setF_setF, setF_setF, hs i hi]
    by_cases q : i = 1 - X.file
    · rw [q, setF_at]
    · rw [setF_ne _ _ q, hs i hi]
  · show ((D.pw.map (· - 1)).map (· - ((recD (begD (X.gen + 1) d)).length : Int))).map (· - 1) = D.pw.map (· - (needM X (.ck d) : Int))
    rw [pw_add, pw_add]
    have e : (1 : Int) + (((recD (begD (X.gen + 1) d)).length : Int) + 1) = (needM X (.ck d) : Int) := by
      show _ = (((-1 :: recD (begD (X.gen + 1) d)).length + 1 : Nat) : Int)
      rw [List.length_cons]
      omega
    rw [e]
theorem cut_ck {D : Dsk} {X : Ld} {d : PyData} {n : Nat} (K : PySem.W.Frag) : diskT K ((((D.add (1 - X.file) [-1]).use 1).add (1 - X.file) ((recD (begD (X.gen + 1) d)).take n)).use n) = diskT K (cutD D X (.ck d) (n + 1)) := by
  refine Dsk.ext (fun i hi => by rfl) (fun i hi => ?_) ?_ K
  · show setF (setF D.s (1 - X.file) (D.s (1 - X.file) ++ [-1])) (1 - X.file) (setF D.s (1 - X.file) (D.s (1 - X.file) ++ [-1]) (1 - X.file) ++ (recD (begD (X.gen + 1) d)).take n) i = setF D.s (1 - X.file) (D.s (1 - X.file) ++ (-1 :: recD (begD (X.gen + 1) d)).take (n + 1)) i
    rw [setF_setF, setF_at, List.take_succ_cons, List.append_assoc] <;> rfl
  · show (D.pw.map (· - 1)).map (· - (n : Int)) = D.pw.map (· - ((n + 1 : Nat) : Int))
    rw [pw_add, show (1 : Int) + (n : Int) = ((n + 1 : Nat) : Int) by omega]
theorem cut_no {D : Dsk} {X : Ld} {a : Act} (K : PySem.W.Frag) : diskT K D = diskT K (cutD D X a 0) := by
  refine Dsk.ext (fun i hi => by rfl) (fun i hi => ?_) ?_ K
  · show D.s i = setF D.s (actF X a) (D.s (actF X a) ++ (actS X a).take 0) i
    rw [List.take_zero, List.append_nil]
    by_cases q : i = actF X a
    · rw [q, setF_at]
    · rw [setF_ne _ _ q]
  · show D.pw = D.pw.map (· - ((0 : Nat) : Int))
    rw [map_sub0]
theorem done_ad {D : Dsk} {X : Ld} {d : PyData} (rc : Rc d) (hs : ∀ i, i < 2 → D.s i = []) (hf : X.file < 2) (K : PySem.W.Frag) : diskT K ((((D.add X.file (recD d)).use (recD d).length).syn X.file).use 1) = diskT K (doneD D X (.ad d)) := by
  refine Dsk.ext (fun i hi => ?_) (fun i hi => ?_) ?_ K
  · show setF D.c X.file (appliedM (D.c X.file) (setF D.s X.file (D.s X.file ++ recD d) X.file)) i = setF D.c X.file (D.c X.file ++ recD d) i
    rw [setF_at, hs _ hf, List.nil_append, appl_bytes fun g hg => (recD_byte rc.pk g hg).1]
  · show setF (setF D.s X.file _) X.file [] i = D.s i
    rw [setF_setF, hs i hi]
    by_cases q : i = X.file
    · rw [q, setF_at]
    · rw [setF_ne _ _ q, hs i hi]
  · show (D.pw.map (· - ((recD d).length : Int))).map (· - 1) = D.pw.map (· - (needM X (.ad d) : Int))
    rw [pw_add, show ((recD d).length : Int) + 1 = (needM X (.ad d) : Int) from by show _ = (((recD d).length + 1 : Nat) : Int); omega]
theorem pw_back {o : Option Int} {i n : Int} (h : o.map (· - i) = some n) : o = some (n + i) := by
  cases o with
  | none => cases h
  | some m =>
    have h : m - i = n := Option.some.inj h
    rw [show m = n + i by omega]
theorem pw_fwd {o : Option Int} {i n : Int} (h : o = some (n + i)) : o.map (· - i) = some n := by
  rw [h]
  show some (n + i - i) = some n
  rw [Int.add_sub_cancel]
/-- what both acts of a journal promise -/
def pAct (K : PySem.W.Frag) (A : PyData → Act) (x y : V) (H : Hp) (Q : VK) (E : XK) : Prop := ∃ j p fp D g v pe d X, x = .ref j ∧ Ins H j (He.ga K "Journal") (jF p X.file g v pe X.gen) ∧ X.file < 2 ∧ Own H (.ref p) (diskT K D) fp ∧ j ∉ fp ∧ Dq H y d ∧ Rc d ∧ (actR X (A d)).length ≤ 100000 ∧ (∀ i, i < 2 → D.s i = []) ∧ (∀ i, i < 2 → (D.c i).length ≤ 100000) ∧ (∀ n, D.pw = some n → 0 ≤ n) ∧
  ((∀ n, D.pw = some n → (needM X (A d) : Int) ≤ n) → ∀ H' fp', Own H' (.ref p) (diskT K (doneD D X (A d))) fp' → j ∉ fp' → Ins H' j (He.ga K "Journal") (jF p (actL X (A d)).file g v pe (actL X (A d)).gen) → Chg (j :: fp) (j :: fp') H H' → Q .non H') ∧
  ∀ n : Nat, D.pw = some (n : Int) → n < needM X (A d) → ∀ H', Own H' (.ref p) (diskT K (cutD D X (A d) n)) fp → Chg fp fp H H' → E (.ref (He.ga K "PowerCut")) none H'
def sp_Journal_checkpoint (K : PySem.W.Frag) : Sp := sp2 fun x y H Q E => pAct K .ck x y H Q E
theorem ok_Journal_checkpoint {e : Wd} (D : MethAt e (He.ga e.K "Journal") "checkpoint" "Journal.checkpoint" s_Journal_checkpoint) (B : Bl e.mg) (g_BEGIN : ∃ t, e.mg "BEGIN" = some (.str ("begin" : Str) t)) (kc_Journal : Cls e.K (He.ga e.K "Journal")) (kn_Journal_file : NoAttr e.K (He.ga e.K "Journal") "file") (kn_Journal_disk : NoAttr e.K (He.ga e.K "Journal") "disk") (kn_Journal_last : NoAttr e.K (He.ga e.K "Journal") "last") (c_Disk_clear : CanM e 2 (He.ga e.K "Disk") "clear" ["self", "file"] (sp_Disk_clear e.K)) (c_Disk_append : CanM e 2 (He.ga e.K "Disk") "append" ["self", "file", "data"] (sp_Disk_append e.K)) (c_pack : Can e 40 "pack" ["value"] (sp_pack 30 e.K)) (c_Disk_sync : CanM e 3 (He.ga e.K "Disk") "sync" ["self", "file"] (sp_Disk_sync e.K)) : CanM e 41 (He.ga e.K "Journal") "checkpoint" ["self", "value"] (sp_Journal_checkpoint e.K) := by
  refine canMX_of D sc_Journal_checkpoint bi_Journal_checkpoint (fun _ _ _ _ h => sp2_len h) (fun cdv f A outer s H vs Q E hr h tk po => ?_)
  obtain ⟨v0, v1, rfl, h⟩ := sp2_ex h
  have nd := sc_Journal_checkpoint.nd
  obtain ⟨j, p, fp, D, g, v, pe, d, X, rfl, hj, hf, ho, nj, hw, rc, hl, hs, hc, hpw, k, kE⟩ := h
  obtain ⟨f, xg, xv, xe⟩ := X
  have hj : Ins H j (He.ga e.K "Journal") [("disk", .ref p), ("file", .int f), ("generation", .int g), ("value", v), ("events", .ref pe), ("last", .int xg)] := hj
  have hf : f < 2 := hf
  have hl : (recD (begD (xg + 1) d)).length ≤ 100000 := hl
  have dp := begD_dp (g := xg + 1) rc.dp
  obtain ⟨o, eo⟩ : ∃ o : Nat, (1 : Int) - f = o := ⟨1 - f, by omega⟩
  have o2 : o < 2 := by omega
  have eo2 : o = 1 - f := by omega
  obtain ⟨fs, hp, _, lc, _, _, _, _⟩ := ho.dk
  refine ⟨_, (pss_cons (ps_set (i := 2) nd rfl (by first | exact Or.inl rfl | exact Or.inr rfl) (pe_op op_subU pe_int (pe_fldU (K := e.K) (pv 0))))
    (pss_cons (ps_expr (pe_canMX tk c_Disk_clear (hr.mono (by first | decide | omega)) (pe_fldU (K := e.K) (pv 0)) (pa_cons (pv 2) pa_nil)))
    (pss_cons (ps_expr (pe_canMX tk c_Disk_append (hr.mono (by first | decide | omega)) (pe_fldU (K := e.K) (pv 0)) (pa_cons (pv 2) (pa_cons (pe_canX tk c_pack (hr.mono (by first | decide | omega)) (pa_cons (pe_tup (pa_cons (pe_gs g_BEGIN) (pa_cons (pe_op (op_addU (K := e.K)) (pe_fldU (K := e.K) (pv 0)) pe_int) (pa_cons (pv 1) pa_nil)))) pa_nil)) pa_nil))))
    (pss_cons (ps_expr (pe_canMX tk c_Disk_sync (hr.mono (by first | decide | omega)) (pe_fldU (K := e.K) (pv 0)) (pa_cons (pv 2) pa_nil)))
    (pss_cons (ps_fldU (K := e.K) (pv 0) (pv 2))
    (pss_one (ps_fldaugU (K := e.K) (pv 0) pe_int in_add))))))), ?_⟩
  walk_at "go"
  rw [eo]
  subst eo2
  refine r_methv hp lc ?_
  walk_at "go"
  refine ⟨p, fp, D, 1 - f, rfl, rfl, o2, ho, by rw [hs _ o2]; exact Nat.zero_le _, fun hen H1 o1 c1 => ?_, fun hz => ?_⟩
  · have hj1 : Ins H1 j (He.ga e.K "Journal") [("disk", .ref p), ("file", .int f), ("generation", .int g), ("value", v), ("events", .ref pe), ("last", .int xg)] := hj.mono fun o z => c1.at_ z nj
    obtain ⟨fs1, hp1, la, _, _, _, _, _⟩ := o1.dk
    walk_at "go"
    refine r_methv hp1 la ?_
    walk_at "go"
    rename_i q2 H2 n2 m2 h2
    have hb : Dq H2 (.ref q2) (begD (xg + 1) d) := .tup h2 (.cons (.str _) (.cons (.int _) (.cons ((hw.mono c1.gro).mono (Gro.same m2)) .nil)))
    refine use_pack hb (begD_pk rc.pk) (by omega) (by omega) (fun q3 H3 n3 m3 h3 => ?_)
    have m13 := m2.trans m3
    have o3 := o1.same m13
    have c3 := c1.snd m13
    have hj3 : Ins H3 j (He.ga e.K "Journal") [("disk", .ref p), ("file", .int f), ("generation", .int g), ("value", v), ("events", .ref pe), ("last", .int xg)] := hj1.same m13
    have s1 : (((D.add (1 - f) [-1]).use 1).s (1 - f)).length ≤ 1 := by
      show (setF D.s (1 - f) (D.s (1 - f) ++ [-1]) (1 - f)).length ≤ 1
      rw [setF_at, hs _ o2]
      exact Nat.le_refl _
    have c0 := hc _ o2
    walk_at "go"
    refine ⟨p, fp, (D.add (1 - f) [-1]).use 1, q3, recD (begD (xg + 1) d), 1 - f, rfl, rfl, rfl, o2, o3, h3, (o1.same m2).new_out n3, by omega, ?_, fun hen2 H4 o4 c4 => ?_, fun n en hn H4 o4 c4 => ?_⟩
    · intro n en
      have e1 := pw_back (o := D.pw) (i := 1) en
      have h0 := hpw _ e1
      have h1 : n + 1 ≠ 0 := fun z => hen (by rw [e1, z])
      omega
    · have nj4 : j ∉ fp := nj
      have hj4 : Ins H4 j (He.ga e.K "Journal") [("disk", .ref p), ("file", .int f), ("generation", .int g), ("value", v), ("events", .ref pe), ("last", .int xg)] := hj3.mono fun o z => c4.at_ z nj
      obtain ⟨fs4, hp4, _, _, ly, _, _, _⟩ := o4.dk
      walk_at "go"
      refine r_methv hp4 ly ?_
      walk_at "go"
      refine ⟨p, fp, _, 1 - f, rfl, rfl, o2, o4, ?_, fun hen5 H5 fp5 o5 c5 => ?_, fun hz => ?_⟩
      · show (D.c (1 - f)).length + (setF (setF D.s (1 - f) (D.s (1 - f) ++ [-1])) (1 - f) (setF D.s (1 - f) (D.s (1 - f) ++ [-1]) (1 - f) ++ recD (begD (xg + 1) d)) (1 - f)).length ≤ 1000000
        rw [setF_at, setF_at, hs _ o2, List.length_append, List.length_append]
        simp only [List.length_cons, List.length_nil]
        omega
      · have cc := (c3.trans c4).trans c5
        obtain ⟨dx, hjx⟩ := hj
        have nj5 : j ∉ fp5 := cc.out hjx nj
        have hj5 : Ins H5 j (He.ga e.K "Journal") [("disk", .ref p), ("file", .int f), ("generation", .int g), ("value", v), ("events", .ref pe), ("last", .int xg)] := ⟨dx, cc.at_ hjx nj⟩
        walk_at "go"
        rename_i H6 i6 f6 H7 i7 f7
        have jm : j ∈ [j] := List.mem_singleton.mpr rfl
        have u : Chg [j] [j] H5 H7 := (f6.chg jm).trans (f7.chg jm)
        refine k (fun n en => ?_) H7 fp5 ?_ nj5 i7 (cc.cons.trans u.one)
        · have e1 : ((D.add (1 - f) [-1]).use 1).pw = some (n - 1) := pw_fwd (o := D.pw) (by rw [en]; congr 1; omega)
          have l1 := hen2 _ e1
          have l2 : n - 1 ≠ ((recD (begD (xg + 1) d)).length : Int) := fun z => hen5 (by
            show (((D.add (1 - f) [-1]).use 1).pw).map (· - ((recD (begD (xg + 1) d)).length : Int)) = some 0
            rw [e1, z]
            show some (_ - _) = some 0
            rw [Int.sub_self])
          show (((-1 :: recD (begD (xg + 1) d)).length + 1 : Nat) : Int) ≤ n
          rw [List.length_cons]
          omega
        · rw [← done_ck (X := ⟨f, xg, xv, xe⟩) rc hs hf]
          exact o5.chg u (dsj_one nj5)
      · have e1 := pw_back (o := (D.pw.map (· - 1))) (i := ((recD (begD (xg + 1) d)).length : Int)) hz
        have e2 := pw_back (o := D.pw) (i := 1) e1
        refine kE ((recD (begD (xg + 1) d)).length + 1) (by rw [e2]; congr 1; omega) (by show _ < (-1 :: recD (begD (xg + 1) d)).length + 1; rw [List.length_cons]; omega) H4 ?_ (c3.trans c4)
        have := cut_ck (D := D) (X := ⟨f, xg, xv, xe⟩) (d := d) (n := (recD (begD (xg + 1) d)).length) e.K
        rw [← this]
        show Own H4 (.ref p) (diskT e.K ((((D.add (1 - f) [-1]).use 1).add (1 - f) ((recD (begD (xg + 1) d)).take (recD (begD (xg + 1) d)).length)).use (recD (begD (xg + 1) d)).length)) fp
        rw [List.take_length]
        exact o4
    · have e1 := pw_back (o := D.pw) (i := 1) en
      refine kE (n + 1) (by rw [e1]; congr 1) (by show _ < (-1 :: recD (begD (xg + 1) d)).length + 1; rw [List.length_cons]; omega) H4 ?_ (c3.trans c4)
      rw [← cut_ck (X := ⟨f, xg, xv, xe⟩)]
      exact o4
  · exact kE 0 hz (Nat.succ_pos _) H (by rw [← cut_no]; exact ho) (Chg.refl _ _)

/-! ### Journal.add -/
abbrev s_Journal_add : Stmt := inClass (top 30) 2
abbrev N_Journal_add : List Str := ["self", "event"]
theorem sc_Journal_add : FnScope N_Journal_add ["self", "event"] (defScope s_Journal_add) := ⟨rfl, rfl, rfl, by decide +kernel, rfl, by decide +kernel, by decide +kernel⟩
theorem bi_Journal_add : BindQ "add" "Journal.add" s_Journal_add ["self", "event"] := fun _ _ _ _ _ _ us hl => match us, hl with | [_, _], _ => rfl
def sp_Journal_add (K : PySem.W.Frag) : Sp := sp2 fun x y H Q E => pAct K .ad x y H Q E
theorem ok_Journal_add {e : Wd} (D : MethAt e (He.ga e.K "Journal") "add" "Journal.add" s_Journal_add) (B : Bl e.mg) (kc_Journal : Cls e.K (He.ga e.K "Journal")) (kn_Journal_disk : NoAttr e.K (He.ga e.K "Journal") "disk") (kn_Journal_file : NoAttr e.K (He.ga e.K "Journal") "file") (c_Disk_append : CanM e 2 (He.ga e.K "Disk") "append" ["self", "file", "data"] (sp_Disk_append e.K)) (c_pack : Can e 40 "pack" ["value"] (sp_pack 30 e.K)) (c_Disk_sync : CanM e 3 (He.ga e.K "Disk") "sync" ["self", "file"] (sp_Disk_sync e.K)) : CanM e 41 (He.ga e.K "Journal") "add" ["self", "event"] (sp_Journal_add e.K) := by
  refine canMX_of D sc_Journal_add bi_Journal_add (fun _ _ _ _ h => sp2_len h) (fun cdv f A outer s H vs Q E hr h tk po => ?_)
  obtain ⟨v0, v1, rfl, h⟩ := sp2_ex h
  have nd := sc_Journal_add.nd
  obtain ⟨j, p, fp, D, g, v, pe, d, X, rfl, hj, hf, ho, nj, hw, rc, hl, hs, hc, hpw, k, kE⟩ := h
  obtain ⟨f, xg, xv, xe⟩ := X
  have hj : Ins H j (He.ga e.K "Journal") [("disk", .ref p), ("file", .int f), ("generation", .int g), ("value", v), ("events", .ref pe), ("last", .int xg)] := hj
  have hf : f < 2 := hf
  have hl : (recD d).length ≤ 100000 := hl
  have dp := rc.dp
  obtain ⟨fs, hp, la, _, ls, _, _, _⟩ := ho.dk
  refine ⟨_, (pss_cons (ps_expr (pe_canMX tk c_Disk_append (hr.mono (by first | decide | omega)) (pe_fldU (K := e.K) (pv 0)) (pa_cons (pe_fldU (K := e.K) (pv 0)) (pa_cons (pe_canX tk c_pack (hr.mono (by first | decide | omega)) (pa_cons (pv 1) pa_nil)) pa_nil))))
    (pss_one (ps_expr (pe_canMX tk c_Disk_sync (hr.mono (by first | decide | omega)) (pe_fldU (K := e.K) (pv 0)) (pa_cons (pe_fldU (K := e.K) (pv 0)) pa_nil))))), ?_⟩
  walk_at "go"
  refine r_methv hp la ?_
  walk_at "go"
  refine use_pack hw rc.pk (by omega) (by omega) (fun q3 H3 n3 m3 h3 => ?_)
  have o3 := ho.same m3
  have c3 : Chg fp fp H H3 := Chg.same m3
  have hj3 : Ins H3 j (He.ga e.K "Journal") [("disk", .ref p), ("file", .int f), ("generation", .int g), ("value", v), ("events", .ref pe), ("last", .int xg)] := hj.same m3
  have s1 : (D.s f).length ≤ 0 := by
    rw [hs _ hf]
    exact Nat.le_refl _
  have c0 := hc _ hf
  walk_at "go"
  refine ⟨p, fp, D, q3, recD d, f, rfl, rfl, rfl, hf, o3, h3, ho.new_out n3, by omega, hpw, fun hen2 H4 o4 c4 => ?_, fun n en hn H4 o4 c4 => ?_⟩
  · have hj4 : Ins H4 j (He.ga e.K "Journal") [("disk", .ref p), ("file", .int f), ("generation", .int g), ("value", v), ("events", .ref pe), ("last", .int xg)] := hj3.mono fun o z => c4.at_ z nj
    obtain ⟨fs4, hp4, _, _, ly, _, _, _⟩ := o4.dk
    walk_at "go"
    refine r_methv hp4 ly ?_
    walk_at "go"
    refine ⟨p, fp, _, f, rfl, rfl, hf, o4, ?_, fun hen5 H5 fp5 o5 c5 => ?_, fun hz => ?_⟩
    · show (D.c f).length + (setF D.s f (D.s f ++ recD d) f).length ≤ 1000000
      rw [setF_at, hs _ hf, List.length_append]
      simp only [List.length_nil]
      omega
    · have cc := (c3.trans c4).trans c5
      obtain ⟨dx, hjx⟩ := hj
      have nj5 : j ∉ fp5 := cc.out hjx nj
      have hj5 : Ins H5 j (He.ga e.K "Journal") [("disk", .ref p), ("file", .int f), ("generation", .int g), ("value", v), ("events", .ref pe), ("last", .int xg)] := ⟨dx, cc.at_ hjx nj⟩
      walk_at "go"
      refine k (fun n en => ?_) H5 fp5 ?_ nj5 hj5 cc.cons
      · have l1 := hen2 _ en
        have l2 : n ≠ ((recD d).length : Int) := fun z => hen5 (by
          show D.pw.map (· - ((recD d).length : Int)) = some 0
          rw [en, z]
          show some (_ - _) = some 0
          rw [Int.sub_self])
        show (((recD d).length + 1 : Nat) : Int) ≤ n
        omega
      · rw [← done_ad (X := ⟨f, xg, xv, xe⟩) rc hs hf]
        exact o5
    · have e1 := pw_back (o := D.pw) (i := ((recD d).length : Int)) hz
      refine kE (recD d).length (by rw [e1]; congr 1; omega) (Nat.lt_succ_self _) H4 ?_ (c3.trans c4)
      show Own H4 (.ref p) (diskT e.K ((D.add f ((recD d).take (recD d).length)).use (recD d).length)) fp
      rw [List.take_length]
      exact o4
  · exact kE n en (Nat.lt_succ_of_lt hn) H4 o4 (c3.trans c4)

/-! ### Disk.__init__ -/
abbrev s_Disk___init__ : Stmt := inClass (top 34) 0
abbrev N_Disk___init__ : List Str := ["self"]
theorem sc_Disk___init__ : FnScope N_Disk___init__ ["self"] (defScope s_Disk___init__) := ⟨rfl, rfl, rfl, by decide +kernel, rfl, by decide +kernel, by decide +kernel⟩
theorem bi_Disk___init__ : BindQ "__init__" "Disk.__init__" s_Disk___init__ ["self"] := fun _ _ _ _ _ _ us hl => match us, hl with | [_], _ => rfl
def sp_Disk___init__ (K : PySem.W.Frag) : Sp := sp1 fun x H Q _ => ∃ p, x = .ref p ∧ Ins H p (He.ga K "Disk") [] ∧ ∀ H' L S ca sa, DkAt K H' p L S ca sa ⟨fun _ => [], fun _ => [], none⟩ → (∀ b o, H b = some o → b ≠ p → H' b = some o) → (∀ b ∈ diskP p L S ca sa, b = p ∨ H b = none) → Q .non H'
theorem ok_Disk___init__ {e : Wd} (D : InitAt e (He.ga e.K "Disk") "Disk" "Disk.__init__" s_Disk___init__) (B : Bl e.mg) (kc_Disk : Cls e.K (He.ga e.K "Disk")) (kn_Disk_durable : NoAttr e.K (He.ga e.K "Disk") "durable") (kn_Disk_steps : NoAttr e.K (He.ga e.K "Disk") "steps") (kn_Disk_power : NoAttr e.K (He.ga e.K "Disk") "power") : CanN e 1 (He.ga e.K "Disk") "Disk" ["self"] (sp_Disk___init__ e.K) := by
  refine canN_of D sc_Disk___init__ bi_Disk___init__ (fun _ _ _ _ h => sp1_len h) (fun cdv f A outer s H vs Q E hr h => ?_)
  obtain ⟨v0, rfl, h⟩ := sp1_ex h
  have nd := sc_Disk___init__.nd
  obtain ⟨p, rfl, hi, k⟩ := h
  refine ⟨_, (pss_cons (ps_fldU (K := e.K) (pv 0) (pe_lst (pa_cons (pe_lst pa_nil) (pa_cons (pe_lst pa_nil) pa_nil))))
    (pss_cons (ps_fldU (K := e.K) (pv 0) (pe_lst (pa_cons (pe_lst pa_nil) (pa_cons (pe_lst pa_nil) pa_nil))))
    (pss_one (ps_fldU (K := e.K) (pv 0) pe_non)))), ?_⟩
  walk_at "go"
  rename_i c0 H1 n0 m0 e0 c1 H2 n1 m1 e1 L H3 n2 m2 e2 H4 i4 f4 s0 H5 n5 m5 e5 s1 H6 n6 m6 e6 S H7 n7 m7 e7 H8 i8 f8 H9 i9 f9
  have h0 : H3 c0 = some (.lst []) := by walk_at "hp"
  have h1 : H3 c1 = some (.lst []) := by walk_at "hp"
  have b1 : H c1 = none := Same.before m0 n1
  have b2 : H L = none := Same.before (m0.trans m1) n2
  have b03 : Same H H3 := (m0.trans m1).trans m2
  have b5 : H3 s0 = none := f4.fresh i4 n5
  have b6 : H3 s1 = none := f4.fresh i4 (Same.before m5 n6)
  have b7 : H3 S = none := f4.fresh i4 (Same.before (m5.trans m6) n7)
  refine k H9 L S (fun i => if i = 0 then c0 else c1) (fun i => if i = 0 then s0 else s1) ⟨i9, by walk_at "hp", by walk_at "hp", fun i hi => ?_, fun i hi => ?_, ne_of_none e2 b7, ne_of_none e0 n1, ne_of_none e5 n6, fun i j hi hj => ?_⟩ (fun b o h n => ?_) (fun b hb => ?_)
  · match i, hi with
    | 0, _ => show H9 c0 = some (.lst []); walk_at "hp"
    | 1, _ => show H9 c1 = some (.lst []); walk_at "hp"
  · match i, hi with
    | 0, _ => show H9 s0 = some (.lst []); walk_at "hp"
    | 1, _ => show H9 s1 = some (.lst []); walk_at "hp"
  · match i, j, hi, hj with
    | 0, 0, _, _ => exact ne_of_none h0 b5
    | 0, 1, _, _ => exact ne_of_none h0 b6
    | 1, 0, _, _ => exact ne_of_none h1 b5
    | 1, 1, _, _ => exact ne_of_none h1 b6
  · rw [f9.kp b n, f8.kp b n]
    refine m7 _ _ (m6 _ _ (m5 _ _ ?_))
    rw [f4.kp b n]
    exact b03 _ _ h
  · simp only [List.mem_cons, List.not_mem_nil, or_false] at hb
    rcases hb with rfl | rfl | rfl | rfl | rfl | rfl | rfl
    · exact .inl rfl
    · exact .inr b2
    · exact .inr n0
    · exact .inr b1
    · exact .inr (Same.before b03 b7)
    · exact .inr (Same.before b03 b5)
    · exact .inr (Same.before b03 b6)
theorem use_Disk {K : PySem.W.Frag} {H : Hp} {Q : VK} {E : XK} (k : ∀ p H' fp, H p = none → Same H H' → Own H' (.ref p) (diskT K ⟨fun _ => [], fun _ => [], none⟩) fp → (∀ b ∈ fp, H b = none) → Q (.ref p) H') : makeq (He.ga K "Disk") (sp_Disk___init__ K) E [] H Q :=
  r_makev fun p H1 np sm hi => ⟨p, rfl, hi, fun H2 L S ca sa d kp nw => ⟨rfl, k p H2 _ np (fun b o e => kp b o (sm b o e) (ne_of_none e np)) d.own fun b hb => (nw b hb).elim (fun e => e ▸ np) fun e => Same.before sm e⟩⟩
local macro_rules | `(tactic| walk_at "call") => `(tactic| ((with_reducible refine' use_Disk ?_); intro p H' fp np sm ho hn))

/-! ### Disk.limit -/
abbrev s_Disk_limit : Stmt := inClass (top 34) 7
abbrev N_Disk_limit : List Str := ["self", "steps"]
theorem sc_Disk_limit : FnScope N_Disk_limit ["self", "steps"] (defScope s_Disk_limit) := ⟨rfl, rfl, rfl, by decide +kernel, rfl, by decide +kernel, by decide +kernel⟩
theorem bi_Disk_limit : BindQ "limit" "Disk.limit" s_Disk_limit ["self", "steps"] := fun _ _ _ _ _ _ us hl => match us, hl with | [_, _], _ => rfl
def sp_Disk_limit (K : PySem.W.Frag) : Sp := sp2 fun x y H Q _ => ∃ p fp D pw, x = .ref p ∧ y = pwV pw ∧ Own H (.ref p) (diskT K D) fp ∧ ∀ H', Own H' (.ref p) (diskT K { D with pw := pw }) fp → Chg fp fp H H' → Q .non H'
theorem ok_Disk_limit {e : Wd} (D : MethAt e (He.ga e.K "Disk") "limit" "Disk.limit" s_Disk_limit) (B : Bl e.mg) (kc_Disk : Cls e.K (He.ga e.K "Disk")) (kn_Disk_power : NoAttr e.K (He.ga e.K "Disk") "power") : CanM e 1 (He.ga e.K "Disk") "limit" ["self", "steps"] (sp_Disk_limit e.K) := by
  refine canM_of D sc_Disk_limit bi_Disk_limit (fun _ _ _ _ h => sp2_len h) (fun cdv f A outer s H vs Q E hr h => ?_)
  obtain ⟨v0, v1, rfl, h⟩ := sp2_ex h
  have nd := sc_Disk_limit.nd
  obtain ⟨p, fp, D, pw, rfl, rfl, ho, k⟩ := h
  obtain ⟨p', L, S, ca, sa, e1, rfl, d⟩ := ho.disk
  cases e1
  have hi : Ins H p (He.ga e.K "Disk") [("durable", .ref L), ("steps", .ref S), ("power", pwV D.pw)] := d.ins
  refine ⟨_, (pss_one (ps_fldU (K := e.K) (pv 0) (pv 1))), ?_⟩
  walk_at "go"
  rename_i H1 hi1 f1
  exact k H1 (d.fput f1 hi1).own (f1.chg (by simp))
theorem use_limit {K : PySem.W.Frag} {p : Addr} {fp : List Addr} {D : Dsk} {pw : Option Int} {H : Hp} {Q : VK} {E : XK} (h1 : Own H (.ref p) (diskT K D) fp) (k : ∀ H', Own H' (.ref p) (diskT K { D with pw := pw }) fp → Chg fp fp H H' → Q .non H') : sp_Disk_limit K [.ref p, pwV pw] H Q E :=
  ⟨p, fp, D, pw, rfl, rfl, h1, k⟩

/-! ### Disk.crash -/
abbrev s_Disk_crash : Stmt := inClass (top 34) 8
abbrev N_Disk_crash : List Str := ["self", "a", "b"]
theorem sc_Disk_crash : FnScope N_Disk_crash ["self", "a", "b"] (defScope s_Disk_crash) := ⟨rfl, rfl, rfl, by decide +kernel, rfl, by decide +kernel, by decide +kernel⟩
theorem bi_Disk_crash : BindQ "crash" "Disk.crash" s_Disk_crash ["self", "a", "b"] := fun _ _ _ _ _ _ us hl => match us, hl with | [_, _, _], _ => rfl
def sp_Disk_crash (K : PySem.W.Frag) : Sp := sp3 fun x y z H Q _ => ∃ p fp D, ∃ a b : Nat, x = .ref p ∧ y = .int a ∧ z = .int b ∧ Own H (.ref p) (diskT K D) fp ∧ (∀ f, f < 2 → (D.c f).length + (D.s f).length ≤ 1000000) ∧
  ∀ H' fp', Own H' (.ref p) (diskT K (D.crash a b)) fp' → Chg fp fp' H H' → Q .non H'
theorem ok_Disk_crash {e : Wd} (D : MethAt e (He.ga e.K "Disk") "crash" "Disk.crash" s_Disk_crash) (B : Bl e.mg) (kc_Disk : Cls e.K (He.ga e.K "Disk")) (kn_Disk_durable : NoAttr e.K (He.ga e.K "Disk") "durable") (kn_Disk_steps : NoAttr e.K (He.ga e.K "Disk") "steps") (kn_Disk_power : NoAttr e.K (He.ga e.K "Disk") "power") (c_applied : Can e 1 "applied" ["content", "steps"] (sp_applied e.K)) : CanM e 2 (He.ga e.K "Disk") "crash" ["self", "a", "b"] (sp_Disk_crash e.K) := by
  refine canM_of D sc_Disk_crash bi_Disk_crash (fun _ _ _ _ h => sp3_len h) (fun cdv f A outer s H vs Q E hr h => ?_)
  obtain ⟨v0, v1, v2, rfl, h⟩ := sp3_ex h
  have nd := sc_Disk_crash.nd
  obtain ⟨p, fp, D, a, b, rfl, rfl, rfl, ho, hl, k⟩ := h
  obtain ⟨p', L, S, ca, sa, e1, rfl, d⟩ := ho.disk
  cases e1
  have hi2 : Ins H p (He.ga e.K "Disk") [("durable", .ref L), ("steps", .ref S), ("power", pwV D.pw)] := d.ins
  have hL := d.ld
  have hS := d.ls
  have c0 := d.cs 0 (by decide)
  have c1 := d.cs 1 (by decide)
  have s0 := d.ss 0 (by decide)
  have s1 := d.ss 1 (by decide)
  refine ⟨_, (pss_cons (ps_fldU (K := e.K) (pv 0) (pe_lst (pa_cons (pe_can c_applied (hr.mono (by first | decide | omega)) passL (pa_cons (pe_ix (ix_U (K := e.K)) (pe_fldU (K := e.K) (pv 0)) pe_int (fun _ _ => rfl)) (pa_cons (pe_slice (sl_U (K := e.K)) (pe_ix (ix_U (K := e.K)) (pe_fldU (K := e.K) (pv 0)) pe_int (fun _ _ => rfl)) po_none (po_some (pv 1))) pa_nil))) (pa_cons (pe_can c_applied (hr.mono (by first | decide | omega)) passL (pa_cons (pe_ix (ix_U (K := e.K)) (pe_fldU (K := e.K) (pv 0)) pe_int (fun _ _ => rfl)) (pa_cons (pe_slice (sl_U (K := e.K)) (pe_ix (ix_U (K := e.K)) (pe_fldU (K := e.K) (pv 0)) pe_int (fun _ _ => rfl)) po_none (po_some (pv 2))) pa_nil))) pa_nil))))
    (pss_cons (ps_fldU (K := e.K) (pv 0) (pe_lst (pa_cons (pe_lst pa_nil) (pa_cons (pe_lst pa_nil) pa_nil))))
    (pss_one (ps_fldU (K := e.K) (pv 0) pe_non)))), ?_⟩
  have b0 := hl 0 (by decide)
  have b1 := hl 1 (by decide)
  have t0 : ((D.s 0).take a).length ≤ (D.s 0).length := by rw [List.length_take]; omega
  have t1 : ((D.s 1).take b).length ≤ (D.s 1).length := by rw [List.length_take]; omega
  walk_at "go"
  rename_i q0 H1 nq0 m1 hq0
  rw [cutV_take, ← List.map_take] at hq0
  walk_at "go"
  rename_i r0 H2 nr0 m2 hr0 q1 H3 nq1 m3 hq1
  rw [cutV_take, ← List.map_take] at hq1
  walk_at "go"
  rename_i r1 H4 nr1 m4 hr1 L' H5 nL m5 hL' H6 i6 f6 x0 H7 nx0 m7 hx0 x1 H8 nx1 m8 hx1 S' H9 nS m9 hS' H10 i10 f10 H11 i11 f11
  have r03 : H3 r0 = some (.lst ((appliedM (D.c 0) ((D.s 0).take a)).map V.int)) := by walk_at "hp"
  have r06 : H6 r0 = some (.lst ((appliedM (D.c 0) ((D.s 0).take a)).map V.int)) := by walk_at "hp"
  have r16 : H6 r1 = some (.lst ((appliedM (D.c 1) ((D.s 1).take b)).map V.int)) := by walk_at "hp"
  have r07 : H7 r0 = some (.lst ((appliedM (D.c 0) ((D.s 0).take a)).map V.int)) := by walk_at "hp"
  have r17 : H7 r1 = some (.lst ((appliedM (D.c 1) ((D.s 1).take b)).map V.int)) := by walk_at "hp"
  have L8 : H8 L' = some (.lst [.ref r0, .ref r1]) := by walk_at "hp"
  have L11 : H11 L' = some (.lst [.ref r0, .ref r1]) := by walk_at "hp"
  have S11 : H11 S' = some (.lst [.ref x0, .ref x1]) := by walk_at "hp"
  have g0 : H11 r0 = some (.lst ((appliedM (D.c 0) ((D.s 0).take a)).map V.int)) := by walk_at "hp"
  have g1 : H11 r1 = some (.lst ((appliedM (D.c 1) ((D.s 1).take b)).map V.int)) := by walk_at "hp"
  have y0 : H11 x0 = some (.lst []) := by walk_at "hp"
  have y1 : H11 x1 = some (.lst []) := by walk_at "hp"
  have m14 : Same H H4 := ((m1.trans m2).trans m3).trans m4
  have bx0 : H x0 = none := Same.before (m14.trans m5) (f6.fresh i6 nx0)
  have bx1 : H x1 = none := Same.before (m14.trans m5) (f6.fresh i6 (Same.before m7 nx1))
  have bS : H S' = none := Same.before (m14.trans m5) (f6.fresh i6 (Same.before (m7.trans m8) nS))
  have bL : H L' = none := Same.before m14 nL
  have br0 : H r0 = none := Same.before m1 nr0
  have br1 : H r1 = none := Same.before ((m1.trans m2).trans m3) nr1
  have dd : DkAt e.K H11 p L' S' (fun i => if i = 0 then r0 else r1) (fun i => if i = 0 then x0 else x1) (D.crash a b) := by
    refine ⟨i11, L11, S11, fun i hi => ?_, fun i hi => ?_, ne_of_none L8 nS, ne_of_none r03 nr1, ne_of_none hx0 nx1, fun i j hi hj => ?_⟩
    · match i, hi with
      | 0, _ => exact g0
      | 1, _ => exact g1
    · match i, hi with
      | 0, _ => exact y0
      | 1, _ => exact y1
    · match i, j, hi, hj with
      | 0, 0, _, _ => exact ne_of_none r06 nx0
      | 0, 1, _, _ => exact ne_of_none r07 nx1
      | 1, 0, _, _ => exact ne_of_none r16 nx0
      | 1, 1, _, _ => exact ne_of_none r17 nx1
  refine k H11 _ dd.own (Chg.of (fun z o hz n => ?_) d.own.there fun z hz => ?_)
  · have np : z ≠ p := fun q => n (by rw [q]; simp)
    rw [f11.kp z np, f10.kp z np]
    refine m9 _ _ (m8 _ _ (m7 _ _ ?_))
    rw [f6.kp z np]
    exact m5 _ _ (m14 _ _ hz)
  · have hz : z ∈ [p, L', r0, r1, S', x0, x1] := hz
    simp only [List.mem_cons, List.not_mem_nil, or_false] at hz
    rcases hz with rfl | rfl | rfl | rfl | rfl | rfl | rfl
    · exact .inl (by simp)
    · exact .inr bL
    · exact .inr br0
    · exact .inr br1
    · exact .inr bS
    · exact .inr bx0
    · exact .inr bx1
theorem use_crash {K : PySem.W.Frag} {p : Addr} {fp : List Addr} {D : Dsk} {a b : Nat} {H : Hp} {Q : VK} {E : XK} (h1 : Own H (.ref p) (diskT K D) fp) (h2 : ∀ f, f < 2 → (D.c f).length + (D.s f).length ≤ 1000000) (k : ∀ H' fp', Own H' (.ref p) (diskT K (D.crash a b)) fp' → Chg fp fp' H H' → Q .non H') : sp_Disk_crash K [.ref p, .int a, .int b] H Q E :=
  ⟨p, fp, D, a, b, rfl, rfl, rfl, h1, h2, k⟩

/-! ### _law_is_integer -/
abbrev s_l_is_integer : Stmt := top 36
abbrev N_l_is_integer : List Str := ["_law_actual"]
theorem sc_l_is_integer : FnScope N_l_is_integer ["_law_actual"] (defScope s_l_is_integer) := ⟨rfl, rfl, rfl, by decide +kernel, rfl, by decide +kernel, by decide +kernel⟩
theorem bi_l_is_integer : BindOk "_law_is_integer" s_l_is_integer ["_law_actual"] := fun _ _ _ _ _ _ us hl => match us, hl with | [_], _ => rfl
def intD : PyData → Bool
  | .int _ => true
  | _ => false
def sp_l_is_integer (K : PySem.W.Frag) : Sp := sp1 fun x H Q _ => ∃ d, Dq H x d ∧ Q (.bl (intD d)) H
theorem use_is_integer {K : PySem.W.Frag} {x : V} {d : PyData} {H : Hp} {Q : VK} {E : XK} (h : Dq H x d) (k : Q (.bl (intD d)) H) : sp_l_is_integer K [x] H Q E := ⟨d, h, k⟩
theorem ok_l_is_integer {e : Wd} (D : DefAt e "_law_is_integer" s_l_is_integer) (B : Bl e.mg) : Can e 1 "_law_is_integer" ["_law_actual"] (sp_l_is_integer e.K) := by
  refine can_of D sc_l_is_integer bi_l_is_integer (fun _ _ _ _ h => sp1_len h) (fun cdv f A outer s H vs Q E hr h => ?_)
  obtain ⟨v0, rfl, h⟩ := sp1_ex h
  have nd := sc_l_is_integer.nd
  obtain ⟨d, hd, k⟩ := h
  refine ⟨_, (pss_one (ps_ret (pe_andU (K := e.K) (pe_callB (call_isiU (K := e.K)) (by rfl) B.b_isinstance bt_isinstance (pa_cons (pv 0) (pa_cons (pe_bltn (v := .ty "int") (by rfl) B.b_int bt_int rfl) pa_nil))) (pe_one (pe_notU (K := e.K) (pe_callB (call_isiU (K := e.K)) (by rfl) B.b_isinstance bt_isinstance (pa_cons (pv 0) (pa_cons (pe_bltn (v := .ty "bool") (by rfl) B.b_bool bt_bool rfl) pa_nil)))))))), ?_⟩
  cases hd
  all_goals
    walk_at "god"
    exact k

/-! ### _law_refill -/
abbrev s_l_refill : Stmt := top 37
abbrev N_l_refill : List Str := ["_law_script", "_law_k", "_law_cell"]
theorem sc_l_refill : FnScope N_l_refill ["_law_script", "_law_k"] (defScope s_l_refill) := ⟨rfl, rfl, rfl, by decide +kernel, rfl, by decide +kernel, by decide +kernel⟩
theorem bi_l_refill : BindOk "_law_refill" s_l_refill ["_law_script", "_law_k"] := fun _ _ _ _ _ _ us hl => match us, hl with | [_, _], _ => rfl
def sp_l_refill (K : PySem.W.Frag) : Sp := sp2 fun sc k H Q _ => ∃ b n, sc = .ref b ∧ k = .int n ∧ Scr K H b ∧ ∀ d, Q (.int d) H
theorem ok_l_refill {e : Wd} (D : DefAt e "_law_refill" s_l_refill) (B : Bl e.mg) : Can e 1 "_law_refill" ["_law_script", "_law_k"] (sp_l_refill e.K) := by
  refine can_of D sc_l_refill bi_l_refill (fun _ _ _ _ h => sp2_len h) (fun cdv f A outer s H vs Q E hr h => ?_)
  obtain ⟨v0, v1, rfl, h⟩ := sp2_ex h
  have nd := sc_l_refill.nd
  obtain ⟨b, n, rfl, rfl, hs, k⟩ := h
  obtain ⟨ns, hl, hq⟩ := hs.seq
  refine ⟨_, (pss_cons (ps_set (i := 2) nd rfl (by first | exact Or.inl rfl | exact Or.inr rfl) pe_int)
    (Evl.pss_cut (ps_if (pt_tru (K := e.K) (pv 0)) (pss_one (ps_set (i := 2) nd rfl (by first | exact Or.inl rfl | exact Or.inr rfl) (pe_ix (ix_U (K := e.K)) (pv 0) (pe_op op_modU (pv 1) (pe_callB (call_lenU (K := e.K)) (by rfl) B.b_len bt_len (pa_cons (pv 0) pa_nil))) (fun _ _ => rfl)))) pss_nil)
    (Evl.pss_cut (ps_if (pt_cmpR op_ltU (pv 2) pe_int (nomark _)) (pss_one (ps_set (i := 2) nd rfl (by first | exact Or.inl rfl | exact Or.inr rfl) (pe_op op_subU pe_int (pe_op op_mulS pe_int (pv 2))))) pss_nil)
    (pss_cons (ps_if (PW.pt (pw_and (pt_cmpR op_geU (pv 2) (pe_op op_powU pe_int pe_int) (nomark _)) (pw_and1 (pt_cmpR op_ltU (pv 1) (pe_callB (call_lenU (K := e.K)) (by rfl) B.b_len bt_len (pa_cons (pv 0) pa_nil)) (nomark _))))) (pss_one (ps_ret (pv 2))) pss_nil)
    (pss_one (ps_ret (pe_op op_modU (pe_callTy call_intU (by rfl) B.b_int bt_int (pa_cons (pe_op (op_addU (K := e.K)) (pe_op op_mulS (pe_callTy call_intU (by rfl) B.b_int bt_int (pa_cons (pe_op (op_addU (K := e.K)) (pe_op (op_addU (K := e.K)) (pe_op op_mulS (pv 2) pe_int) (pe_op op_mulS (pv 1) pe_int)) pe_int) pa_nil)) pe_int) pe_int) pa_nil)) pe_int))))))), ?_⟩
  walk_at "go"
  refine r_cut (fun σ' H' => ∃ c : Int, σ' = [some (.ref b), some (.int n), some (.int c)] ∧ H = H') ?_ ?_
  · walk_at "go"
    refine r_itb (fun c => ?_) (fun _ => ?_)
    · have h0 : 0 < ns.length := by
        cases ns with
        | nil => cases c
        | cons x r => exact Nat.succ_pos _
      walk_at "go"
      refine r_I (by simp only [List.length_map]; omega) ?_
      obtain ⟨v, hv⟩ := atI_mod h0 n
      refine r_ixL hq (by simp only [List.length_map]; exact hv) ?_
      exact ⟨_, rfl, rfl⟩
    · walk_at "go"
      exact ⟨_, rfl, rfl⟩
  · rintro σ' H' ⟨c, rfl, rfl⟩
    refine r_cut (fun σ' H' => ∃ c : Int, σ' = [some (.ref b), some (.int n), some (.int c)] ∧ H = H') ?_ ?_
    · walk_at "all"
      all_goals exact ⟨_, rfl, rfl⟩
    · rintro σ' H' ⟨c, rfl, rfl⟩
      walk_at "all"
      all_goals exact k _

/-! ### _law_draw -/
abbrev s_l_draw : Stmt := top 38
abbrev N_l_draw : List Str := ["_law_state", "_law_script", "_law_size", "_law_digit"]
theorem sc_l_draw : FnScope N_l_draw ["_law_state", "_law_script", "_law_size"] (defScope s_l_draw) := ⟨rfl, rfl, rfl, by decide +kernel, rfl, by decide +kernel, by decide +kernel⟩
theorem bi_l_draw : BindOk "_law_draw" s_l_draw ["_law_state", "_law_script", "_law_size"] := fun _ _ _ _ _ _ us hl => match us, hl with | [_, _, _], _ => rfl
def sp_l_draw (K : PySem.W.Frag) : Sp := sp3 fun st sc n H Q _ => ∃ a b m, st = .ref a ∧ sc = .ref b ∧ n = .int m ∧ Drw H a ∧ Scr K H b ∧ (0 < m ∧ m < 1208925819614629174706176) ∧ ∀ d H', 0 ≤ d → d < m → Stp a H H' → Q (.int d) H'
theorem ok_l_draw {e : Wd} (D : DefAt e "_law_draw" s_l_draw) (B : Bl e.mg) (c_l_refill : Can e 1 "_law_refill" ["_law_script", "_law_k"] (sp_l_refill e.K)) : Can e 2 "_law_draw" ["_law_state", "_law_script", "_law_size"] (sp_l_draw e.K) := by
  refine can_of D sc_l_draw bi_l_draw (fun _ _ _ _ h => sp3_len h) (fun cdv f A outer s H vs Q E hr h => ?_)
  obtain ⟨v0, v1, v2, rfl, h⟩ := sp3_ex h
  have nd := sc_l_draw.nd
  obtain ⟨a, b, m, rfl, rfl, rfl, ⟨x, y, ha⟩, hs, hm, k⟩ := h
  have dr : Drw H a := ⟨x, y, ha⟩
  refine ⟨_, (Evl.pss_cut (ps_if (pt_cmpR (op_eqU (K := e.K) hr) (pe_ix (ix_U (K := e.K)) (pv 0) pe_int (fun _ _ => rfl)) pe_int (nomark _)) (pss_cons (ps_asg (pe_can c_l_refill (hr.mono (by first | decide | omega)) passL (pa_cons (pv 1) (pa_cons (pe_ix (ix_U (K := e.K)) (pv 0) pe_int (fun _ _ => rfl)) pa_nil))) (pg_sub (pv 0) pe_int set_list))
    (pss_one (ps_asg (pe_op (op_addU (K := e.K)) (pe_ix (ix_U (K := e.K)) (pv 0) pe_int (fun _ _ => rfl)) pe_int) (pg_sub (pv 0) pe_int set_list)))) pss_nil)
    (pss_cons (ps_set (i := 3) nd rfl (by first | exact Or.inl rfl | exact Or.inr rfl) (pe_op op_modU (pe_callTy call_intU (by rfl) B.b_int bt_int (pa_cons (pe_ix (ix_U (K := e.K)) (pv 0) pe_int (fun _ _ => rfl)) pa_nil)) (pv 2)))
    (pss_cons (ps_asg (pe_op op_divW (pe_ix (ix_U (K := e.K)) (pv 0) pe_int (fun _ _ => rfl)) (pv 2)) (pg_sub (pv 0) pe_int set_list))
    (pss_one (ps_ret (pv 3)))))), ?_⟩
  walk_at "go"
  refine r_cut (fun σ' H' => ∃ x y : Int, σ' = [some (.ref a), some (.ref b), some (.int m), none] ∧ Stp a H H' ∧ H' a = some (.lst [.int x, .int y])) ?_ ?_
  · walk_at "go"
    refine r_ite (fun _ => ?_) (fun _ => ?_)
    · walk_at "go"
      refine ⟨b, x, rfl, rfl, hs, fun d => ?_⟩
      walk_at "go"
      rename_i H1 hp1 kp1 H2 hp2 kp2
      exact ⟨x + 1, d, rfl, ((Stp.refl dr).but hp1 kp1).but hp2 kp2, hp2⟩
    · walk_at "go"
      exact ⟨x, y, rfl, Stp.refl dr, ha⟩
  · rintro σ' H' ⟨x, y, rfl, s1, h1⟩
    walk_at "go"
    rename_i H2 hp2 kp2
    exact k _ _ (Int.emod_nonneg _ (by omega)) (Int.emod_lt_of_pos _ hm.1) (s1.but hp2 kp2)
theorem use_draw {K : PySem.W.Frag} {a b : Addr} {m : Int} {H : Hp} {Q : VK} {E : XK} (h1 : Drw H a) (h2 : Scr K H b) (h3 : 0 < m) (h4 : m < 1208925819614629174706176) (k : ∀ d H', 0 ≤ d → d < m → Stp a H H' → Q (.int d) H') : sp_l_draw K [.ref a, .ref b, .int m] H Q E :=
  ⟨a, b, m, rfl, rfl, rfl, h1, h2, ⟨h3, h4⟩, k⟩
local macro_rules | `(tactic| walk_at "call") => `(tactic| ((with_reducible refine' use_draw ?h1 ?h2 ?h3 ?h4 ?_); (case h1 => walk_at "hp"); (case h2 => walk_at "hp"); (case h3 => walk_at "nat"); (case h4 => walk_at "nat"); intro d H' d0 d1 st))

/-! ### _law_pick -/
abbrev s_l_pick : Stmt := top 41
abbrev N_l_pick : List Str := ["_law_state", "_law_script", "_law_signs", "_law_k"]
theorem sc_l_pick : FnScope N_l_pick ["_law_state", "_law_script", "_law_signs"] (defScope s_l_pick) := ⟨rfl, rfl, rfl, by decide +kernel, rfl, by decide +kernel, by decide +kernel⟩
theorem bi_l_pick : BindOk "_law_pick" s_l_pick ["_law_state", "_law_script", "_law_signs"] := fun _ _ _ _ _ _ us hl => match us, hl with | [_, _, _], _ => rfl
def sp_l_pick (K : PySem.W.Frag) : Sp := sp3 fun st sc n H Q _ => ∃ a b z, st = .ref a ∧ sc = .ref b ∧ n = .str z ∧ Drw H a ∧ Scr K H b ∧ (0 < z.length ∧ z.length ≤ 1000) ∧ ∀ s H', (∃ c, c ∈ TL.tl z ∧ s = ⟨#[c]⟩) → Stp a H H' → Q (.str s) H'
theorem ok_l_pick {e : Wd} (D : DefAt e "_law_pick" s_l_pick) (B : Bl e.mg) (c_l_draw : Can e 2 "_law_draw" ["_law_state", "_law_script", "_law_size"] (sp_l_draw e.K)) : Can e 3 "_law_pick" ["_law_state", "_law_script", "_law_signs"] (sp_l_pick e.K) := by
  refine can_of D sc_l_pick bi_l_pick (fun _ _ _ _ h => sp3_len h) (fun cdv f A outer s H vs Q E hr h => ?_)
  obtain ⟨v0, v1, v2, rfl, h⟩ := sp3_ex h
  have nd := sc_l_pick.nd
  obtain ⟨a, b, z, rfl, rfl, rfl, dr, hs, ⟨hz1, hz2⟩, k⟩ := h
  refine ⟨_, (pss_cons (ps_set (i := 3) nd rfl (by first | exact Or.inl rfl | exact Or.inr rfl) (pe_can c_l_draw (hr.mono (by first | decide | omega)) passL (pa_cons (pv 0) (pa_cons (pv 1) (pa_cons (pe_callB (call_lenU (K := e.K)) (by rfl) B.b_len bt_len (pa_cons (pv 2) pa_nil)) pa_nil)))))
    (pss_one (ps_ret (pe_slice (sl_U (K := e.K)) (pv 2) (po_some (pv 3)) (po_some (pe_op (op_addU (K := e.K)) (pv 3) pe_int)))))), ?_⟩
  walk_at "go"
  rename_i d H' d0 d1 st
  obtain ⟨c, h1, h2⟩ := cut_one d0 d1
  exact k _ _ ⟨c, h1, h2⟩ st
theorem use_pick {K : PySem.W.Frag} {a b : Addr} {z : Str} {H : Hp} {Q : VK} {E : XK} (h1 : Drw H a) (h2 : Scr K H b) (h3 : 0 < z.length) (h4 : z.length ≤ 1000) (k : ∀ s H', (∃ c, c ∈ TL.tl z ∧ s = ⟨#[c]⟩) → Stp a H H' → Q (.str s) H') : sp_l_pick K [.ref a, .ref b, .str z] H Q E :=
  ⟨a, b, z, rfl, rfl, rfl, h1, h2, ⟨h3, h4⟩, k⟩
local macro_rules | `(tactic| walk_at "call") => `(tactic| ((with_reducible refine' use_pick ?h1 ?h2 ?h3 ?h4 ?_); (case h1 => walk_at "hp"); (case h2 => walk_at "hp"); (case h3 => walk_at "nat"); (case h4 => walk_at "nat"); intro s H' hs st))

/-! ### _law_line -/
abbrev s_l_line : Stmt := top 45
abbrev N_l_line : List Str := ["_law_state", "_law_script", "_law_pool", "_law_kind", "_law_signs", "_law_k"]
theorem sc_l_line : FnScope N_l_line ["_law_state", "_law_script"] (defScope s_l_line) := ⟨rfl, rfl, rfl, by decide +kernel, rfl, by decide +kernel, by decide +kernel⟩
theorem bi_l_line : BindOk "_law_line" s_l_line ["_law_state", "_law_script"] := fun _ _ _ _ _ _ us hl => match us, hl with | [_, _], _ => rfl
def sp_l_line (K : PySem.W.Frag) : Sp := sp2 fun st sc H Q _ => ∃ a b, st = .ref a ∧ sc = .ref b ∧ Drw H a ∧ Scr K H b ∧ ∀ s H', Lin s → Stp a H H' → Q (.str s) H'
theorem ok_l_line {e : Wd} (D : DefAt e "_law_line" s_l_line) (B : Bl e.mg) (c_l_draw : Can e 2 "_law_draw" ["_law_state", "_law_script", "_law_size"] (sp_l_draw e.K)) (c_l_pick : Can e 3 "_law_pick" ["_law_state", "_law_script", "_law_signs"] (sp_l_pick e.K)) : Can e 4 "_law_line" ["_law_state", "_law_script"] (sp_l_line e.K) := by
  refine can_of D sc_l_line bi_l_line (fun _ _ _ _ h => sp2_len h) (fun cdv f A outer s H vs Q E hr h => ?_)
  obtain ⟨v0, v1, rfl, h⟩ := sp2_ex h
  have nd := sc_l_line.nd
  obtain ⟨a, b, rfl, rfl, dr, hs, k⟩ := h
  have n0 : (Str.ofString "").length = 0 := by decide +kernel
  have z1 : 0 < signs.length := by decide +kernel
  have z2 : signs.length ≤ 1000 := by decide +kernel
  refine ⟨_, (pss_cons (ps_set (i := 2) nd rfl (by first | exact Or.inl rfl | exact Or.inr rfl) (pe_lst (pa_cons pe_str (pa_cons pe_str (pa_cons pe_str (pa_cons pe_str (pa_cons pe_str (pa_cons pe_str (pa_cons pe_str (pa_cons pe_str (pa_cons pe_str (pa_cons pe_str pa_nil))))))))))))
    (pss_cons (ps_set (i := 3) nd rfl (by first | exact Or.inl rfl | exact Or.inr rfl) (pe_can c_l_draw (hr.mono (by first | decide | omega)) passL (pa_cons (pv 0) (pa_cons (pv 1) (pa_cons pe_int pa_nil)))))
    (pss_cons (ps_if (pt_cmpR (op_eqU (K := e.K) hr) (pv 3) pe_int (nomark _)) (pss_one (ps_ret (pe_ix (ix_U (K := e.K)) (pv 2) (pe_can c_l_draw (hr.mono (by first | decide | omega)) passL (pa_cons (pv 0) (pa_cons (pv 1) (pa_cons pe_int pa_nil)))) (fun _ _ => rfl)))) pss_nil)
    (pss_cons (ps_set (i := 4) nd rfl (by first | exact Or.inl rfl | exact Or.inr rfl) pe_str)
    (pss_one (ps_ret (pe_bmU (K := e.K) PySem.F.plainAttrs_str PySem.F.slot_str_join PySem.F.type_str_join (mt_joinU (K := e.K)) pe_str (pa_cons (pe_lc (own := [("_law_k", 5)]) (tt := tYes) rfl nd (pi_range1 rfl B.b_range (pa_cons (pe_can c_l_draw (hr.mono (by first | decide | omega)) passL (pa_cons (pv 0) (pa_cons (pv 1) (pa_cons pe_int pa_nil)))) pa_nil)) (blkOk_by (N := N_l_line) (sc := defScope s_l_line) (by decide +kernel)) (fun _ _ _ _ _ => (pg_name (i := 5) nd rfl (by first | exact Or.inl rfl | exact Or.inr rfl))) (fun _ _ _ _ _ => pts_nil) (fun _ _ _ _ _ => (pe_can c_l_pick (hr.mono (by first | decide | omega)) passL (pa_cons (pv 0) (pa_cons (pv 1) (pa_cons (pv 4) pa_nil)))))) pa_nil)))))))), ?_⟩
  walk_at "go"
  rename_i p1 H1 np1 sm1 hp1 d H2 d0 d1 s2
  have h2 : H2 p1 = some (.lst (pool.map V.str)) := s2.at_ hp1 (ne_drw dr np1)
  have s12 : Stp a H H2 := (Stp.same dr sm1).trans s2
  clear hp1
  refine r_ite (fun _ => ?_) (fun _ => ?_)
  · walk_at "go"
    rename_i d3 H3 d30 d31 s3
    obtain ⟨v, hv, hm0⟩ := atI_get (xs := pool.map V.str) d30 (by simpa [pool] using d31)
    obtain ⟨m, hm, rfl⟩ := List.mem_map.mp hm0
    refine r_ixL (SqL.of (s3.at_ h2 (ne_drw dr np1))) hv ?_
    exact k _ _ (pool_lin m hm) (s12.trans s3)
  · walk_at "go"
    rename_i d3 H3 d30 d31 s3
    refine lcr_draw (a := a) (fun _ q => ∃ s, q = PyData.str s ∧ ∃ c, c ∈ TL.tl signs ∧ s = ⟨#[c]⟩) s3.drw (by omega) (by omega) (fun _ => rfl) (fun j H4 Q1 _ s4 k1 => ?_) fun D H4 ys ds hD s4 hl dq el pp => ?_
    · walk_at "go"
      exact k1 _ _ _ (by assumption) (.str _) ⟨_, rfl, by assumption⟩
    · obtain ⟨ss, e1, e2, e3⟩ := dq.all_strs pp
      subst e1
      walk_at "go"
      refine r_join hl ?_ ?_
      · rw [sum_ones e3, n0]
        omega
      · have w := wrd_join e3 rfl
        exact k _ _ ⟨by have := w.len; omega, fun c hc => signs_lin c (w.sg c hc)⟩ ((s12.trans s3).trans s4)
theorem use_line {K : PySem.W.Frag} {a b : Addr} {H : Hp} {Q : VK} {E : XK} (h1 : Drw H a) (h2 : Scr K H b) (k : ∀ s H', Lin s → Stp a H H' → Q (.str s) H') : sp_l_line K [.ref a, .ref b] H Q E :=
  ⟨a, b, rfl, rfl, h1, h2, k⟩
local macro_rules | `(tactic| walk_at "call") => `(tactic| ((with_reducible refine' use_line ?h1 ?h2 ?_); (case h1 => walk_at "hp"); (case h2 => walk_at "hp"); intro s H' hs st))

/-! ### _law_value -/
abbrev s_l_value : Stmt := top 47
abbrev N_l_value : List Str := ["_law_state", "_law_script", "_law_depth", "_law_kind", "_law_k"]
theorem sc_l_value : FnScope N_l_value ["_law_state", "_law_script", "_law_depth"] (defScope s_l_value) := ⟨rfl, rfl, rfl, by decide +kernel, rfl, by decide +kernel, by decide +kernel⟩
theorem bi_l_value : BindOk "_law_value" s_l_value ["_law_state", "_law_script", "_law_depth"] := fun _ _ _ _ _ _ us hl => match us, hl with | [_, _, _], _ => rfl
/-- a drawn value, nested at most dep deep -/
def sp_l_value (n : Nat) (K : PySem.W.Frag) : Sp := sp3 fun st sc x H Q _ => ∃ a b, ∃ dep : Nat, st = .ref a ∧ sc = .ref b ∧ x = .int dep ∧ dep < n ∧ Drw H a ∧ Scr K H b ∧ ∀ v d H', Stp a H H' → Dq H' v d → Vn d → d.depth ≤ dep → (recD d).length ≤ 30 * 4 ^ dep → Q v H'
theorem use_value {n : Nat} {K : PySem.W.Frag} {a b : Addr} {dep : Nat} {H : Hp} {Q : VK} {E : XK} (h0 : dep < n) (h1 : Drw H a) (h2 : Scr K H b) (k : ∀ v d H', Stp a H H' → Dq H' v d → Vn d → d.depth ≤ dep → (recD d).length ≤ 30 * 4 ^ dep → Q v H') : sp_l_value n K [.ref a, .ref b, .int dep] H Q E := ⟨a, b, dep, rfl, rfl, rfl, h0, h1, h2, k⟩
theorem no_value {K : PySem.W.Frag} (vs : List V) (H : Hp) (Q : VK) (E : XK) : ¬ sp_l_value 0 K vs H Q E := fun z => by
  obtain ⟨v0, v1, v2, rfl, a, b, dep, _, _, _, h, _⟩ := sp3_ex z
  exact absurd h (Nat.not_lt_zero _)
theorem st_l_value {e : Wd} {n : Nat} (D : DefAt e "_law_value" s_l_value) (B : Bl e.mg) (c_l_draw : Can e 2 "_law_draw" ["_law_state", "_law_script", "_law_size"] (sp_l_draw e.K)) (c_l_line : Can e 4 "_law_line" ["_law_state", "_law_script"] (sp_l_line e.K)) (c_l_value : Can e (6 + n) "_law_value" ["_law_state", "_law_script", "_law_depth"] (sp_l_value n e.K)) : Can e (6 + n + 1) "_law_value" ["_law_state", "_law_script", "_law_depth"] (sp_l_value (n + 1) e.K) := by
  refine can_of D sc_l_value bi_l_value (fun _ _ _ _ h => sp3_len h) (fun cdv f A outer s H vs Q E hr h => ?_)
  obtain ⟨v0, v1, v2, rfl, h⟩ := sp3_ex h
  have nd := sc_l_value.nd
  obtain ⟨a, b, dep, rfl, rfl, rfl, hdep, dr, sc, k⟩ := h
  refine ⟨_, (pss_cons (ps_set (i := 3) nd rfl (by first | exact Or.inl rfl | exact Or.inr rfl) (pe_can c_l_draw (hr.mono (by first | decide | omega)) passL (pa_cons (pv 0) (pa_cons (pv 1) (pa_cons pe_int pa_nil)))))
    (pss_cons (ps_if (pt_cmpR (op_eqU (K := e.K) hr) (pv 3) pe_int (nomark _)) (pss_one (ps_ret (pe_ix (ix_U (K := e.K)) (pe_lst (pa_cons pe_non (pa_cons pe_bl (pa_cons pe_bl pa_nil)))) (pe_can c_l_draw (hr.mono (by first | decide | omega)) passL (pa_cons (pv 0) (pa_cons (pv 1) (pa_cons pe_int pa_nil)))) (fun _ _ => rfl)))) pss_nil)
    (pss_cons (ps_if (pt_cmpR (op_eqU (K := e.K) hr) (pv 3) pe_int (nomark _)) (pss_one (ps_ret (pe_can c_l_draw (hr.mono (by first | decide | omega)) passL (pa_cons (pv 0) (pa_cons (pv 1) (pa_cons pe_int pa_nil)))))) pss_nil)
    (pss_cons (ps_if (pt_cmpR (op_eqU (K := e.K) hr) (pv 3) pe_int (nomark _)) (pss_one (ps_ret (pe_un un_neg (pe_can c_l_draw (hr.mono (by first | decide | omega)) passL (pa_cons (pv 0) (pa_cons (pv 1) (pa_cons pe_int pa_nil))))))) pss_nil)
    (pss_cons (ps_if (pt_cmpR (op_eqU (K := e.K) hr) (pv 3) pe_int (nomark _)) (pss_one (ps_ret (pe_ix (ix_U (K := e.K)) (pe_lst (pa_cons pe_int (pa_cons pe_int (pa_cons pe_int (pa_cons pe_int (pa_cons (pe_un un_neg pe_int) (pa_cons (pe_un un_neg pe_int) (pa_cons (pe_un un_neg pe_int) (pa_cons pe_int pa_nil))))))))) (pe_can c_l_draw (hr.mono (by first | decide | omega)) passL (pa_cons (pv 0) (pa_cons (pv 1) (pa_cons pe_int pa_nil)))) (fun _ _ => rfl)))) pss_nil)
    (pss_cons (ps_if (pt_cmpR (op_eqU (K := e.K) hr) (pv 3) pe_int (nomark _)) (pss_one (ps_ret (pe_op op_subU (pe_can c_l_draw (hr.mono (by first | decide | omega)) passL (pa_cons (pv 0) (pa_cons (pv 1) (pa_cons (pe_op op_shlU pe_int pe_int) pa_nil)))) (pe_op op_shlU pe_int pe_int)))) pss_nil)
    (pss_cons (ps_if (PW.pt (pw_or (pt_cmpR op_leU (pv 3) pe_int (nomark _)) (pw_or1 (pt_cmpR (op_eqU (K := e.K) hr) (pv 2) pe_int (nomark _))))) (pss_one (ps_ret (pe_can c_l_line (hr.mono (by first | decide | omega)) passL (pa_cons (pv 0) (pa_cons (pv 1) pa_nil))))) pss_nil)
    (pss_one (ps_ret (pe_callTy (call_tupleU (K := e.K)) (by rfl) B.b_tuple bt_tuple (pa_cons (pe_lc (own := [("_law_k", 4)]) (tt := tYes) rfl nd (pi_range1 rfl B.b_range (pa_cons (pe_can c_l_draw (hr.mono (by first | decide | omega)) passL (pa_cons (pv 0) (pa_cons (pv 1) (pa_cons pe_int pa_nil)))) pa_nil)) (blkOk_by (N := N_l_value) (sc := defScope s_l_value) (by decide +kernel)) (fun _ _ _ _ _ => (pg_name (i := 4) nd rfl (by first | exact Or.inl rfl | exact Or.inr rfl))) (fun _ _ _ _ _ => pts_nil) (fun _ _ _ _ _ => (pe_can c_l_value (hr.mono (by first | decide | omega)) passL (pa_cons (pv 0) (pa_cons (pv 1) (pa_cons (pe_op op_subU (pv 2) pe_int) pa_nil)))))) pa_nil))))))))))), ?_⟩
  have p4 : 1 ≤ 4 ^ dep := Nat.one_le_pow _ _ (by decide)
  have leafI : ∀ {H' : Hp} (i : Int), Stp a H H' → i.natAbs < 2 ^ 70 → Q (.int i) H' := fun i s h => k _ (.int i) _ s (.int i) (vn_int h) (by simp [PyData.depth]) (by have := rec_int h; omega)
  walk_at "go"
  rename_i kd H1 k0 k1 s1
  refine r_ite (fun c0 => ?_) (fun c0 => ?_)
  · walk_at "go"
    rename_i p2 H2 n2 m2 h2 d H3 d0 d1 s3
    have s13 := (s1.snd m2).trans s3
    have h3 := s3.at_ h2 (ne_drw s1.drw n2)
    obtain ⟨v, hv, hm⟩ := atI_get (xs := [V.non, V.bl false, V.bl true]) d0 d1
    refine r_ixL (SqL.of h3) hv ?_
    simp only [List.mem_cons, List.not_mem_nil, or_false] at hm
    rcases hm with rfl | rfl | rfl
    · exact k _ .none _ s13 .non (by rw [Vn]; trivial) (by simp [PyData.depth]) (by simp only [recD, List.length_cons, List.length_nil]; omega)
    · exact k _ (.bool false) _ s13 (.bl _) (by rw [Vn]; trivial) (by simp [PyData.depth]) (by simp only [recD, List.length_cons, List.length_nil]; omega)
    · exact k _ (.bool true) _ s13 (.bl _) (by rw [Vn]; trivial) (by simp [PyData.depth]) (by simp only [recD, List.length_cons, List.length_nil]; omega)
  · walk_at "go"
    refine r_ite (fun c1 => ?_) (fun c1 => ?_)
    · walk_at "go"
      rename_i d H2 d0 d1 s2
      exact leafI d (s1.trans s2) (by omega)
    · walk_at "go"
      refine r_ite (fun c2 => ?_) (fun c2 => ?_)
      · walk_at "go"
        rename_i d H2 d0 d1 s2
        exact leafI (-d) (s1.trans s2) (by omega)
      · walk_at "go"
        refine r_ite (fun c3 => ?_) (fun c3 => ?_)
        · walk_at "go"
          rename_i p2 H2 n2 m2 h2 d H3 d0 d1 s3
          have s13 := (s1.snd m2).trans s3
          have h3 := s3.at_ h2 (ne_drw s1.drw n2)
          obtain ⟨v, hv, hm⟩ := atI_get (xs := [V.int 127, V.int 128, V.int 16383, V.int 16384, V.int (-1), V.int (-128), V.int (-129), V.int 2097151]) d0 d1
          refine r_ixL (SqL.of h3) hv ?_
          simp only [List.mem_cons, List.not_mem_nil, or_false] at hm
          rcases hm with rfl | rfl | rfl | rfl | rfl | rfl | rfl | rfl <;> exact leafI _ s13 (by decide)
        · walk_at "go"
          refine r_ite (fun c4 => ?_) (fun c4 => ?_)
          · have dr1 := s1.drw
            have sc1 := sc.mono s1.gro
            walk_at "go"
            rename_i d H2 d0 d1 s2
            rw [e70] at d1
            rw [e69]
            exact leafI _ (s1.trans s2) (by omega)
          · walk_at "go"
            have line : ∀ {s H2}, Lin s → Stp a H1 H2 → Q (.str s) H2 := fun {s H2} hs s2 => k _ (.str s) _ (s1.trans s2) (.str _) (vn_lin hs) (by simp [PyData.depth]) (by
              have := hs.len
              rw [rec_str (by omega)]
              omega)
            refine r_ite (fun c5 => ?_) (fun c5 => ?_)
            · walk_at "go"
              rename_i s H2 hs s2
              exact line hs s2
            · walk_at "go"
              refine r_ite (fun c6 => ?_) (fun c6 => ?_)
              · walk_at "go"
                rename_i s H2 hs s2
                exact line hs s2
              · obtain ⟨d1, rfl⟩ : ∃ d1, dep = d1 + 1 := ⟨dep - 1, by omega⟩
                walk_at "go"
                rename_i m H2 m0 m1 s2
                refine lcr_draw (a := a) (fun _ q => Vn q ∧ q.depth ≤ d1 ∧ (recD q).length ≤ 30 * 4 ^ d1) s2.drw (by omega) (by omega) (fun _ => rfl) (fun j H3 Q1 _ s3 k1 => ?_) fun D H3 ys ds hD s3 hl dq el pp => ?_
                · have dr3 := s3.drw
                  have sc3 := sc.mono ((s1.trans s2).trans s3).gro
                  walk_at "go"
                  rw [show ((d1 + 1 : Nat) : Int) - 1 = (d1 : Nat) by omega]
                  refine use_value (by omega) dr3 sc3 (fun v q H4 s4 hq vn hd hl => ?_)
                  exact k1 _ _ _ s4 hq ⟨vn, hd, hl⟩
                · have all : ∀ q ∈ ds, Vn q ∧ q.depth ≤ d1 ∧ (recD q).length ≤ 30 * 4 ^ d1 := fun q hq => by
                    obtain ⟨i, hi⟩ := List.getElem?_of_mem hq
                    exact pp i q hi
                  have l3 : ds.length ≤ 3 := by omega
                  walk_at "go"
                  rename_i p4 H4 n4 m4 h4
                  refine k _ (.tuple ds) H4 (((s1.trans s2).trans s3).snd m4) (.tup h4 (dq.mono (Gro.same m4))) ?_ ?_ ?_
                  · rw [Vn]
                    exact ⟨by omega, vns_mem.mpr fun q hq => (all q hq).1⟩
                  · rw [PyData.depth]
                    have := depthAll_le fun q hq => (all q hq).2.1
                    omega
                  · rw [recD, cntR_lt (by omega), List.length_cons, List.length_append]
                    have h1 := recs_le fun q hq => (all q hq).2.2
                    have h2 : 30 * 4 ^ d1 * ds.length ≤ 30 * 4 ^ d1 * 3 := Nat.mul_le_mul_left _ l3
                    have h3 : 30 * 4 ^ (d1 + 1) = 30 * 4 ^ d1 * 3 + 30 * 4 ^ d1 := by rw [Nat.pow_succ]; omega
                    have h4 : 1 ≤ 4 ^ d1 := Nat.one_le_pow _ _ (by decide)
                    simp only [List.length_cons, List.length_nil]
                    omega
theorem ok_l_value {e : Wd} (D : DefAt e "_law_value" s_l_value) (B : Bl e.mg) (c_l_draw : Can e 2 "_law_draw" ["_law_state", "_law_script", "_law_size"] (sp_l_draw e.K)) (c_l_line : Can e 4 "_law_line" ["_law_state", "_law_script"] (sp_l_line e.K)) : Can e 40 "_law_value" ["_law_state", "_law_script", "_law_depth"] (sp_l_value 5 e.K) := by
  have key : ∀ n, Can e (6 + n) "_law_value" ["_law_state", "_law_script", "_law_depth"] (sp_l_value n e.K) := by
    intro n
    induction n with
    | zero => exact can_no D bi_l_value no_value
    | succ n ih => exact st_l_value D B c_l_draw c_l_line ih
  exact (key 5).imp (fun _ _ _ _ h => h) (by decide)

/-! ### _law_event -/
abbrev s_l_event : Stmt := top 51
abbrev N_l_event : List Str := ["_law_state", "_law_script"]
theorem sc_l_event : FnScope N_l_event ["_law_state", "_law_script"] (defScope s_l_event) := ⟨rfl, rfl, rfl, by decide +kernel, rfl, by decide +kernel, by decide +kernel⟩
theorem bi_l_event : BindOk "_law_event" s_l_event ["_law_state", "_law_script"] := fun _ _ _ _ _ _ us hl => match us, hl with | [_, _], _ => rfl
theorem lin_event {n : Int} (h0 : 0 ≤ n) (h5 : n < 5) : Lin (Str.ofString "e" ++ Str.ofString (toString n)) := by
  obtain rfl | rfl | rfl | rfl | rfl : n = 0 ∨ n = 1 ∨ n = 2 ∨ n = 3 ∨ n = 4 := by omega
  all_goals exact ⟨by decide +kernel, by decide +kernel⟩
def sp_l_event (K : PySem.W.Frag) : Sp := sp2 fun st sc H Q _ => ∃ a b, st = .ref a ∧ sc = .ref b ∧ Drw H a ∧ Scr K H b ∧ ∀ v d H', Stp a H H' → Dq H' v d → Vn d → d.depth ≤ 1 → (recD d).length ≤ 60 → Q v H'
theorem use_event {K : PySem.W.Frag} {a b : Addr} {H : Hp} {Q : VK} {E : XK} (h1 : Drw H a) (h2 : Scr K H b) (k : ∀ v d H', Stp a H H' → Dq H' v d → Vn d → d.depth ≤ 1 → (recD d).length ≤ 60 → Q v H') : sp_l_event K [.ref a, .ref b] H Q E := ⟨a, b, rfl, rfl, h1, h2, k⟩
theorem ok_l_event {e : Wd} (D : DefAt e "_law_event" s_l_event) (B : Bl e.mg) (c_l_draw : Can e 2 "_law_draw" ["_law_state", "_law_script", "_law_size"] (sp_l_draw e.K)) (c_l_line : Can e 4 "_law_line" ["_law_state", "_law_script"] (sp_l_line e.K)) : Can e 5 "_law_event" ["_law_state", "_law_script"] (sp_l_event e.K) := by
  refine can_of D sc_l_event bi_l_event (fun _ _ _ _ h => sp2_len h) (fun cdv f A outer s H vs Q E hr h => ?_)
  obtain ⟨v0, v1, rfl, h⟩ := sp2_ex h
  have nd := sc_l_event.nd
  obtain ⟨a, b, rfl, rfl, dr, hs, k⟩ := h
  refine ⟨_, (pss_one (ps_ret (pe_tup (pa_cons (pe_op (op_addU (K := e.K)) pe_str (pe_callTy call_strU (by rfl) B.b_str bt_str (pa_cons (pe_can c_l_draw (hr.mono (by first | decide | omega)) passL (pa_cons (pv 0) (pa_cons (pv 1) (pa_cons pe_int pa_nil)))) pa_nil))) (pa_cons (pe_can c_l_draw (hr.mono (by first | decide | omega)) passL (pa_cons (pv 0) (pa_cons (pv 1) (pa_cons pe_int pa_nil)))) (pa_cons (pe_can c_l_line (hr.mono (by first | decide | omega)) passL (pa_cons (pv 0) (pa_cons (pv 1) pa_nil))) pa_nil)))))), ?_⟩
  walk_at "go"
  rename_i n H1 n0 n5 s1
  refine r_strI (Nat.lt_of_le_of_lt (Nat.log2_le_self _) (by omega)) ?_
  have le := lin_event n0 n5
  refine r_addS (by
    obtain rfl | rfl | rfl | rfl | rfl : n = 0 ∨ n = 1 ∨ n = 2 ∨ n = 3 ∨ n = 4 := by omega
    all_goals decide +kernel) ?_
  generalize Str.ofString "e" ++ Str.ofString (toString n) = z at le
  walk_at "go"
  rename_i m H2 m0 m1 s2 t H3 ht s3 p4 H4 n4 m4 h4
  have dq : Dqs H4 [.str z, .int m, .str t] [.str z, .int m, .str t] := .cons (.str _) (.cons (.int _) (.cons (.str _) .nil))
  have l1 := rec_int (i := m) (by omega)
  have l2 := le.len
  have l3 := ht.len
  refine k _ (.tuple [.str z, .int m, .str t]) H4 (((s1.trans s2).trans s3).snd m4) (.tup h4 dq) ?_ ?_ ?_
  · simp only [Vn, Vns]
    exact ⟨by simp, vn_lin le, by have := vn_int (i := m) (by omega); rwa [Vn] at this, vn_lin ht, trivial⟩
  · simp [PyData.depth, PyData.depthAll]
  · rw [recD, cntR_lt (by simp), List.length_cons, List.length_append]
    simp only [recsD, List.length_append, List.length_cons, List.length_nil]
    have e1 := rec_str (s := z) (by omega)
    have e2 := rec_str (s := t) (by omega)
    omega

/-! ### _law_tried -/
abbrev s_l_tried : Stmt := top 52
abbrev N_l_tried : List Str := ["_law_journal", "_law_act"]
theorem sc_l_tried : FnScope N_l_tried ["_law_journal", "_law_act"] (defScope s_l_tried) := ⟨rfl, rfl, rfl, by decide +kernel, rfl, by decide +kernel, by decide +kernel⟩
theorem bi_l_tried : BindOk "_law_tried" s_l_tried ["_law_journal", "_law_act"] := fun _ _ _ _ _ _ us hl => match us, hl with | [_, _], _ => rfl
def sp_l_tried (K : PySem.W.Frag) : Sp := sp2 fun x y H Q _ => ∃ j p fp D g v pe a X pa, x = .ref j ∧ y = .ref pa ∧ ActAt H pa a ∧ Ins H j (He.ga K "Journal") (jF p X.file g v pe X.gen) ∧ X.file < 2 ∧ Own H (.ref p) (diskT K D) fp ∧ j ∉ fp ∧ Rc (actD a) ∧ (actR X a).length ≤ 100000 ∧ (∀ i, i < 2 → D.s i = []) ∧ (∀ i, i < 2 → (D.c i).length ≤ 100000) ∧ (∀ n, D.pw = some n → 0 ≤ n) ∧
  ((∀ n, D.pw = some n → (needM X a : Int) ≤ n) → ∀ H' fp', Own H' (.ref p) (diskT K (doneD D X a)) fp' → j ∉ fp' → Ins H' j (He.ga K "Journal") (jF p (actL X a).file g v pe (actL X a).gen) → Chg (j :: fp) (j :: fp') H H' → Q (.bl true) H') ∧
  ∀ n : Nat, D.pw = some (n : Int) → n < needM X a → ∀ H', Own H' (.ref p) (diskT K (cutD D X a n)) fp → Chg fp fp H H' → Q (.bl false) H'
theorem ok_l_tried {e : Wd} (D : DefAt e "_law_tried" s_l_tried) (B : Bl e.mg) (gm_PowerCut : e.mg "PowerCut" = some (.ref (He.ga e.K "PowerCut"))) (em_PowerCut_PowerCut : PySem.W.exmOne e.K (.ref (He.ga e.K "PowerCut")) (.ref (He.ga e.K "PowerCut")) = some true) (c_Journal_checkpoint : CanM e 41 (He.ga e.K "Journal") "checkpoint" ["self", "value"] (sp_Journal_checkpoint e.K)) (c_Journal_add : CanM e 41 (He.ga e.K "Journal") "add" ["self", "event"] (sp_Journal_add e.K)) : Can e 42 "_law_tried" ["_law_journal", "_law_act"] (sp_l_tried e.K) := by
  refine can_of D sc_l_tried bi_l_tried (fun _ _ _ _ h => sp2_len h) (fun cdv f A outer s H vs Q E hr h => ?_)
  obtain ⟨v0, v1, rfl, h⟩ := sp2_ex h
  have nd := sc_l_tried.nd
  obtain ⟨j, p, fp, D, g, v, pe, a, X, pa, rfl, rfl, ⟨w, hp, hw⟩, hj, hf, ho, nj, rc, hl, hs, hc, hpw, k, kE⟩ := h
  have hj6 : Ins H j (He.ga e.K "Journal") [("disk", .ref p), ("file", .int X.file), ("generation", .int g), ("value", v), ("events", .ref pe), ("last", .int X.gen)] := hj
  refine ⟨_, (pss_one (ps_tryO (K := e.K) rfl rfl ⟨rfl, by decide, .inl gm_PowerCut⟩ takes0 (fun W1 pn1 xe1 tk1 po1 => (pss_cons (ps_if (pt_cmpR (op_eqU (K := e.K) hr) (pe_ix (ix_U (K := e.K)) (pv 1) pe_int (fun _ _ => rfl)) pe_str (nomark _)) (pss_one (ps_expr (pe_canMX tk1 c_Journal_checkpoint (hr.mono (by first | decide | omega)) (pv 0) (pa_cons (pe_ix (ix_U (K := e.K)) (pv 1) pe_int (fun _ _ => rfl)) pa_nil)))) (pss_one (ps_expr (pe_canMX tk1 c_Journal_add (hr.mono (by first | decide | omega)) (pv 0) (pa_cons (pe_ix (ix_U (K := e.K)) (pv 1) pe_int (fun _ _ => rfl)) pa_nil)))))
    (pss_one (ps_ret pe_bl))))
    (fun a1 oe1 cls1 d1 pn1 hz1 hf1 => (pss_one (ps_ret pe_bl))))), ?_⟩
  cases a with
  | ck d =>
    have hp : H pa = some (.tup [.str "checkpoint", w]) := hp
    walk_at "god"
    refine ⟨j, p, fp, D, g, v, pe, d, X, rfl, hj, hf, ho, nj, hw, rc, hl, hs, hc, hpw, fun hen H1 fp1 o1 n1 i1 c1 => ?_, fun n en hn H1 o1 c1 => ?_⟩
    · walk_at "god"
      exact k hen H1 fp1 o1 n1 i1 c1
    · refine r_wOnlyT em_PowerCut_PowerCut (fun a na => ?_)
      walk_at "god"
      exact kE n en hn H1 o1 c1
  | ad d =>
    have hp : H pa = some (.tup [.str "add", w]) := hp
    walk_at "god"
    refine ⟨j, p, fp, D, g, v, pe, d, X, rfl, hj, hf, ho, nj, hw, rc, hl, hs, hc, hpw, fun hen H1 fp1 o1 n1 i1 c1 => ?_, fun n en hn H1 o1 c1 => ?_⟩
    · walk_at "god"
      exact k hen H1 fp1 o1 n1 i1 c1
    · refine r_wOnlyT em_PowerCut_PowerCut (fun a na => ?_)
      walk_at "god"
      exact kE n en hn H1 o1 c1

/-! ### _law_stored -/
abbrev s_l_stored : Stmt := top 53
abbrev N_l_stored : List Str := ["_law_disk", "_law_best", "_law_file", "_law_found"]
theorem sc_l_stored : FnScope N_l_stored ["_law_disk"] (defScope s_l_stored) := ⟨rfl, rfl, rfl, by decide +kernel, rfl, by decide +kernel, by decide +kernel⟩
theorem bi_l_stored : BindOk "_law_stored" s_l_stored ["_law_disk"] := fun _ _ _ _ _ _ us hl => match us, hl with | [_], _ => rfl
def sp_l_stored (K : PySem.W.Frag) : Sp := sp1 fun y H Q _ => ∃ p fp D, y = .ref p ∧ Own H (.ref p) (diskT K D) fp ∧ (∀ i, i < 2 → (D.c i).length + (D.s i).length ≤ 140000) ∧ (∀ i, i < 2 → ByN (conM D i)) ∧ ∀ q H', Same H H' → LdAt H' q (loadM D) → Q (.ref q) H'
theorem use_stored {K : PySem.W.Frag} {p : Addr} {fp : List Addr} {D : Dsk} {H : Hp} {Q : VK} {E : XK} (h1 : Own H (.ref p) (diskT K D) fp) (h2 : ∀ i, i < 2 → (D.c i).length + (D.s i).length ≤ 140000) (h3 : ∀ i, i < 2 → ByN (conM D i)) (k : ∀ q H', Same H H' → LdAt H' q (loadM D) → Q (.ref q) H') : sp_l_stored K [.ref p] H Q E := ⟨p, fp, D, rfl, h1, h2, h3, k⟩
theorem ok_l_stored {e : Wd} (D : DefAt e "_law_stored" s_l_stored) (B : Bl e.mg) (c_read_file : Can e 63 "read_file" ["content"] (sp_read_file e.K)) (c_Disk_content : CanM e 2 (He.ga e.K "Disk") "content" ["self", "file"] (sp_Disk_content e.K)) : Can e 64 "_law_stored" ["_law_disk"] (sp_l_stored e.K) := by
  refine can_of D sc_l_stored bi_l_stored (fun _ _ _ _ h => sp1_len h) (fun cdv f A outer s H vs Q E hr h => ?_)
  obtain ⟨v0, rfl, h⟩ := sp1_ex h
  have nd := sc_l_stored.nd
  obtain ⟨p, fp, D, rfl, ho, hl, hb, k⟩ := h
  refine ⟨_, (pss_cons (ps_set (i := 1) nd rfl (by first | exact Or.inl rfl | exact Or.inr rfl) (pe_tup (pa_cons pe_int (pa_cons pe_non (pa_cons (pe_lst pa_nil) pa_nil)))))
    (pss_cons (ps_for PassesOwn.never rfl (pi_range1 rfl B.b_range (pa_cons pe_int pa_nil)) (pg_name (i := 2) nd rfl (by first | exact Or.inl rfl | exact Or.inr rfl)) (pss_cons (ps_set (i := 3) nd rfl (by first | exact Or.inl rfl | exact Or.inr rfl) (pe_can c_read_file (hr.mono (by first | decide | omega)) passL (pa_cons (pe_canM c_Disk_content (hr.mono (by first | decide | omega)) passL (pv 0) (pa_cons (pv 2) pa_nil)) pa_nil)))
    (pss_one (ps_if (PW.pt (pw_and (pt_cmpR op_isNotU (pv 3) pe_non (nomark _)) (pw_and1 (pt_cmpR op_gtU (pe_ix (ix_U (K := e.K)) (pv 3) pe_int (fun _ _ => rfl)) (pe_ix (ix_U (K := e.K)) (pv 1) pe_int (fun _ _ => rfl)) (nomark _))))) (pss_one (ps_set (i := 1) nd rfl (by first | exact Or.inl rfl | exact Or.inr rfl) (pv 3))) pss_nil))))
    (pss_one (ps_ret (pv 1))))), ?_⟩
  walk_at "go"
  rename_i p0 H0 n0 m0 h0 q0 H1 n1 m1 h1
  have m01 := m0.trans m1
  have l0 : LdAt H1 q0 (ldI D 0) := ⟨_, p0, [], h1, .non, m1 _ _ h0, .nil⟩
  refine for_rng (fun i σ' H' => ∃ q x2 x3, σ' = [some (.ref p), some (.ref q), x2, x3] ∧ Same H H' ∧ LdAt H' q (ldI D i)) (by omega) (by omega) ⟨q0, none, none, rfl, m01, l0⟩ ?_ ?_
  · rintro i σ' H2 hi ⟨q, x2, x3, rfl, s2, v, pe, vs, a1, a2, a3, a4⟩
    have hi2 : i < 2 := by omega
    obtain ⟨fs, hp2, _, _, _, lc, _, _⟩ := (ho.same s2).dk
    walk_at "go"
    refine r_methv hp2 lc ?_
    walk_at "go"
    refine use_content (ho.same s2) hi2 (by have := hl i hi2; omega) (fun r H3 n3 m3 h3 => ?_)
    walk_at "go"
    refine use_read_file h3 (hb i hi2) ?_
    have a13 := m3 _ _ a1
    cases ef : fileM (appliedM (D.c i) (D.s i)) with
    | none =>
      intro H4 m4
      have a14 := m4 _ _ a13
      walk_at "god"
      refine ⟨q, _, _, rfl, (s2.trans m3).trans m4, ?_⟩
      show LdAt H4 q ((ldI D i).look i (fileM (conM D i)))
      rw [show fileM (conM D i) = none from ef]
      exact LdAt.same (m3.trans m4) ⟨v, pe, vs, a1, a2, a3, a4⟩
    | some z =>
      obtain ⟨g, d, es⟩ := z
      intro p4 pe4 v4 vs4 H4 n4 ne4 m4 h4 hv4 he4 hs4
      have a14 := m4 _ _ a13
      by_cases c : (ldI D i).gen < g
      · walk_at "god"
        refine ⟨p4, _, _, rfl, (s2.trans m3).trans m4, ?_⟩
        show LdAt H4 p4 ((ldI D i).look i (fileM (conM D i)))
        rw [show fileM (conM D i) = some (g, d, es) from ef, look_some c]
        exact ⟨v4, pe4, vs4, h4, hv4, he4, hs4⟩
      · walk_at "god"
        refine ⟨q, _, _, rfl, (s2.trans m3).trans m4, ?_⟩
        show LdAt H4 q ((ldI D i).look i (fileM (conM D i)))
        rw [show fileM (conM D i) = some (g, d, es) from ef, show (ldI D i).look i (some (g, d, es)) = ldI D i from if_neg c]
        exact LdAt.same (m3.trans m4) ⟨v, pe, vs, a1, a2, a3, a4⟩
  · rintro σ' H2 ⟨q, x2, x3, rfl, s2, l2⟩
    walk_at "go"
    exact k q H2 s2 l2

/-! ### _law_loaded -/
abbrev s_l_loaded : Stmt := top 54
abbrev N_l_loaded : List Str := ["_law_disk", "_law_journal"]
theorem sc_l_loaded : FnScope N_l_loaded ["_law_disk"] (defScope s_l_loaded) := ⟨rfl, rfl, rfl, by decide +kernel, rfl, by decide +kernel, by decide +kernel⟩
theorem bi_l_loaded : BindOk "_law_loaded" s_l_loaded ["_law_disk"] := fun _ _ _ _ _ _ us hl => match us, hl with | [_], _ => rfl
def ldD (x : Ld) : PyData := .tuple [.int x.gen, x.val, .list x.evs]
def sp_l_loaded (K : PySem.W.Frag) : Sp := sp1 fun y H Q _ => ∃ p fp D, y = .ref p ∧ Own H (.ref p) (diskT K D) fp ∧ (∀ i, i < 2 → (D.c i).length + (D.s i).length ≤ 140000) ∧ (∀ i, i < 2 → ByN (conM D i)) ∧ Lay 23 (ldD (loadM D)) ∧
  ∀ j H' v pe vs, H j = none → H pe = none → j ≠ pe → Same H H' → Ins H' j (He.ga K "Journal") (jF p (loadM D).file (loadM D).gen v pe (loadM D).gen) → Dq H' v (loadM D).val → H' pe = some (.lst vs) → Dqs H' vs (loadM D).evs → Q (.ref j) H'
theorem use_loaded {K : PySem.W.Frag} {p : Addr} {fp : List Addr} {D : Dsk} {H : Hp} {Q : VK} {E : XK} (h1 : Own H (.ref p) (diskT K D) fp) (h2 : ∀ i, i < 2 → (D.c i).length + (D.s i).length ≤ 140000) (h3 : ∀ i, i < 2 → ByN (conM D i)) (h4 : Lay 23 (ldD (loadM D)))
    (k : ∀ j H' v pe vs, H j = none → H pe = none → j ≠ pe → Same H H' → Ins H' j (He.ga K "Journal") (jF p (loadM D).file (loadM D).gen v pe (loadM D).gen) → Dq H' v (loadM D).val → H' pe = some (.lst vs) → Dqs H' vs (loadM D).evs → Q (.ref j) H') : sp_l_loaded K [.ref p] H Q E := ⟨p, fp, D, rfl, h1, h2, h3, h4, k⟩
theorem ok_l_loaded {e : Wd} (D : DefAt e "_law_loaded" s_l_loaded) (B : Bl e.mg) (kc_Journal : Cls e.K (He.ga e.K "Journal")) (kn_Journal_events : NoAttr e.K (He.ga e.K "Journal") "events") (kn_Journal_generation : NoAttr e.K (He.ga e.K "Journal") "generation") (kn_Journal_value : NoAttr e.K (He.ga e.K "Journal") "value") (c_Journal___init__ : CanN e 64 (He.ga e.K "Journal") "Journal" ["self", "disk"] (sp_Journal___init__ e.K)) (c_l_is_integer : Can e 1 "_law_is_integer" ["_law_actual"] (sp_l_is_integer e.K)) (c_l_stored : Can e 64 "_law_stored" ["_law_disk"] (sp_l_stored e.K)) : Can e 66 "_law_loaded" ["_law_disk"] (sp_l_loaded e.K) := by
  refine can_of D sc_l_loaded bi_l_loaded (fun _ _ _ _ h => sp1_len h) (fun cdv f A outer s H vs Q E hr h => ?_)
  obtain ⟨v0, rfl, h⟩ := sp1_ex h
  have nd := sc_l_loaded.nd
  obtain ⟨p, fp, D, rfl, ho, hl, hb, lay, k⟩ := h
  refine ⟨_, (pss_cons (ps_set (i := 1) nd rfl (by first | exact Or.inl rfl | exact Or.inr rfl) (pe_canN c_Journal___init__ (hr.mono (by first | decide | omega)) passL (pa_cons (pv 0) pa_nil)))
    (pss_cons (ps_if (PW.pt (pw_or (pt_not (pt_tru (K := e.K) (pe_callB (call_isiU (K := e.K)) (by rfl) B.b_isinstance bt_isinstance (pa_cons (pe_fldU (K := e.K) (pv 1)) (pa_cons (pe_bltn (v := .ty "list") (by rfl) B.b_list bt_list rfl) pa_nil))))) (pw_or1 (pt_not (pt_tru (K := e.K) (pe_can c_l_is_integer (hr.mono (by first | decide | omega)) passL (pa_cons (pe_fldU (K := e.K) (pv 1)) pa_nil))))))) (pss_one (ps_ret pe_non)) pss_nil)
    (pss_cons (ps_if (pt_cmpR (op_neU (K := e.K) hr) (pe_tup (pa_cons (pe_fldU (K := e.K) (pv 1)) (pa_cons (pe_fldU (K := e.K) (pv 1)) (pa_cons (pe_fldU (K := e.K) (pv 1)) pa_nil)))) (pe_can c_l_stored (hr.mono (by first | decide | omega)) passL (pa_cons (pv 0) pa_nil)) (nomark _)) (pss_one (ps_ret pe_non)) pss_nil)
    (pss_one (ps_ret (pv 1)))))), ?_⟩
  walk_at "go"
  refine use_Journal ho hl hb (fun j H1 v pe vs nj npe jne s1 i1 a2 a3 a4 => ?_)
  have i1 : Ins H1 j (He.ga e.K "Journal") [("disk", .ref p), ("file", .int (loadM D).file), ("generation", .int (loadM D).gen), ("value", v), ("events", .ref pe), ("last", .int (loadM D).gen)] := i1
  walk_at "go"
  refine use_is_integer (.int _) ?_
  rw [show intD (.int (loadM D).gen) = true from rfl]
  walk_at "god"
  rename_i t2 H2 n2 m2 h2
  refine use_stored (ho.same (s1.trans m2)) hl hb (fun q H3 m3 l3 => ?_)
  obtain ⟨v4, pe4, vs4, b1, b2, b3, b4⟩ := l3
  have m13 := m2.trans m3
  refine r_neLay (d := ldD (loadM D)) (.tup (SqT.of (m3 _ _ h2)) (.cons (.int _) (.cons (a2.mono (Gro.same m13)).dp (.cons (.lst (SqL.of (m13 _ _ a3)) (a4.mono (Gro.same m13)).dp) .nil)))) (.tup (SqT.of b1) (.cons (.int _) (.cons b2.dp (.cons (.lst (SqL.of b3) b4.dp) .nil)))) lay (by decide) ?_
  walk_at "god"
  exact k j H3 v pe vs nj npe jne (s1.trans m13) (i1.same m13) (a2.mono (Gro.same m13)) (m13 _ _ a3) (a4.mono (Gro.same m13))

/-! ### _law_need -/
abbrev s_l_need : Stmt := top 55
abbrev N_l_need : List Str := ["_law_generation", "_law_act"]
theorem sc_l_need : FnScope N_l_need ["_law_generation", "_law_act"] (defScope s_l_need) := ⟨rfl, rfl, rfl, by decide +kernel, rfl, by decide +kernel, by decide +kernel⟩
theorem bi_l_need : BindOk "_law_need" s_l_need ["_law_generation", "_law_act"] := fun _ _ _ _ _ _ us hl => match us, hl with | [_, _], _ => rfl
def sp_l_need (K : PySem.W.Frag) : Sp := sp2 fun g t H Q _ => ∃ x a pa, g = .int x.gen ∧ t = .ref pa ∧ ActAt H pa a ∧ Rc (actD a) ∧ (actR x a).length ≤ 100000 ∧ ∀ H', Same H H' → Q (.int (needM x a)) H'
theorem use_need {K : PySem.W.Frag} {x : Ld} {a : Act} {pa : Addr} {H : Hp} {Q : VK} {E : XK} (h1 : ActAt H pa a) (h2 : Rc (actD a)) (h3 : (actR x a).length ≤ 100000) (k : ∀ H', Same H H' → Q (.int (needM x a)) H') : sp_l_need K [.int x.gen, .ref pa] H Q E := ⟨x, a, pa, rfl, rfl, h1, h2, h3, k⟩
theorem ok_l_need {e : Wd} (D : DefAt e "_law_need" s_l_need) (B : Bl e.mg) (c_pack : Can e 40 "pack" ["value"] (sp_pack 30 e.K)) : Can e 41 "_law_need" ["_law_generation", "_law_act"] (sp_l_need e.K) := by
  refine can_of D sc_l_need bi_l_need (fun _ _ _ _ h => sp2_len h) (fun cdv f A outer s H vs Q E hr h => ?_)
  obtain ⟨v0, v1, rfl, h⟩ := sp2_ex h
  have nd := sc_l_need.nd
  obtain ⟨x, a, pa, rfl, rfl, ⟨w, hp, hw⟩, rc, hl, k⟩ := h
  refine ⟨_, (pss_cons (ps_if (pt_cmpR (op_eqU (K := e.K) hr) (pe_ix (ix_U (K := e.K)) (pv 1) pe_int (fun _ _ => rfl)) pe_str (nomark _)) (pss_one (ps_ret (pe_op (op_addU (K := e.K)) pe_int (pe_callB (call_lenU (K := e.K)) (by rfl) B.b_len bt_len (pa_cons (pe_can c_pack (hr.mono (by first | decide | omega)) passL (pa_cons (pe_tup (pa_cons pe_str (pa_cons (pe_op (op_addU (K := e.K)) (pv 0) pe_int) (pa_cons (pe_ix (ix_U (K := e.K)) (pv 1) pe_int (fun _ _ => rfl)) pa_nil)))) pa_nil)) pa_nil))))) pss_nil)
    (pss_one (ps_ret (pe_op (op_addU (K := e.K)) pe_int (pe_callB (call_lenU (K := e.K)) (by rfl) B.b_len bt_len (pa_cons (pe_can c_pack (hr.mono (by first | decide | omega)) passL (pa_cons (pe_ix (ix_U (K := e.K)) (pv 1) pe_int (fun _ _ => rfl)) pa_nil)) pa_nil)))))), ?_⟩
  cases a with
  | ck d =>
    have hp : H pa = some (.tup [.str "checkpoint", w]) := hp
    have hl : (recD (begD (x.gen + 1) d)).length ≤ 100000 := hl
    have dp : (begD (x.gen + 1) d).depth ≤ 11 := begD_dp (g := x.gen + 1) rc.dp
    walk_at "god"
    rename_i p1 H1 n1 m1 h1
    have h1d : Dq H1 (.ref p1) (begD (x.gen + 1) d) := .tup h1 (.cons (.str _) (.cons (.int _) (.cons (hw.mono (Gro.same m1)) .nil)))
    refine use_pack h1d (begD_pk rc.pk) (by omega) (by omega) (fun p2 H2 n2 m2 h2 => ?_)
    have e : (2 : Int) + ((((recD (begD (x.gen + 1) d)).map V.int).length : Nat) : Int) = (needM x (.ck d) : Nat) := by
      show _ = (((-1 :: recD (begD (x.gen + 1) d)).length + 1 : Nat) : Int)
      rw [List.length_map, List.length_cons]
      omega
    walk_at "god"
    rw [e]
    exact k H2 (m1.trans m2)
  | ad d =>
    have hp : H pa = some (.tup [.str "add", w]) := hp
    have hl : (recD d).length ≤ 100000 := hl
    have dp : d.depth ≤ 10 := rc.dp
    walk_at "god"
    have hw : Dq H w d := hw
    refine use_pack hw rc.pk (by show d.depth < 30; omega) (by show (recD d).length ≤ _; omega) (fun p2 H2 n2 m2 h2 => ?_)
    have e : (1 : Int) + ((((recD d).map V.int).length : Nat) : Int) = (needM x (.ad d) : Nat) := by
      show _ = (((recD d).length + 1 : Nat) : Int)
      rw [List.length_map]
      omega
    walk_at "god"
    rw [e]
    exact k H2 m2

/-! ### _law_after -/
abbrev s_l_after : Stmt := top 56
abbrev N_l_after : List Str := ["_law_content", "_law_act"]
theorem sc_l_after : FnScope N_l_after ["_law_content", "_law_act"] (defScope s_l_after) := ⟨rfl, rfl, rfl, by decide +kernel, rfl, by decide +kernel, by decide +kernel⟩
theorem bi_l_after : BindOk "_law_after" s_l_after ["_law_content", "_law_act"] := fun _ _ _ _ _ _ us hl => match us, hl with | [_, _], _ => rfl
def sp_l_after (K : PySem.W.Frag) : Sp := sp2 fun c t H Q _ => ∃ x a pa pc pe, c = .ref pc ∧ t = .ref pa ∧ ActAt H pa a ∧ ContAt H pc pe x.val x.evs ∧ x.evs.length ≤ 1000 ∧ ∀ p q H', H q = none → Same H H' → ContAt H' p q (actL x a).val (actL x a).evs → Q (.ref p) H'
theorem use_after {K : PySem.W.Frag} {x : Ld} {a : Act} {pa pc pe : Addr} {H : Hp} {Q : VK} {E : XK} (h1 : ActAt H pa a) (h2 : ContAt H pc pe x.val x.evs) (h3 : x.evs.length ≤ 1000) (k : ∀ p q H', H q = none → Same H H' → ContAt H' p q (actL x a).val (actL x a).evs → Q (.ref p) H') : sp_l_after K [.ref pc, .ref pa] H Q E := ⟨x, a, pa, pc, pe, rfl, rfl, h1, h2, h3, k⟩
theorem ok_l_after {e : Wd} (D : DefAt e "_law_after" s_l_after) (B : Bl e.mg) : Can e 1 "_law_after" ["_law_content", "_law_act"] (sp_l_after e.K) := by
  refine can_of D sc_l_after bi_l_after (fun _ _ _ _ h => sp2_len h) (fun cdv f A outer s H vs Q E hr h => ?_)
  obtain ⟨v0, v1, rfl, h⟩ := sp2_ex h
  have nd := sc_l_after.nd
  obtain ⟨x, a, pa, pc, pe, rfl, rfl, ⟨w, hp, hw⟩, ⟨v, vs, hc, hv, he, hs⟩, hl, k⟩ := h
  have hl2 := hs.length
  refine ⟨_, (pss_cons (ps_if (pt_cmpR (op_eqU (K := e.K) hr) (pe_ix (ix_U (K := e.K)) (pv 1) pe_int (fun _ _ => rfl)) pe_str (nomark _)) (pss_one (ps_ret (pe_tup (pa_cons (pe_ix (ix_U (K := e.K)) (pv 1) pe_int (fun _ _ => rfl)) (pa_cons (pe_lst pa_nil) pa_nil))))) pss_nil)
    (pss_one (ps_ret (pe_tup (pa_cons (pe_ix (ix_U (K := e.K)) (pv 0) pe_int (fun _ _ => rfl)) (pa_cons (pe_op (op_addU (K := e.K)) (pe_ix (ix_U (K := e.K)) (pv 0) pe_int (fun _ _ => rfl)) (pe_lst (pa_cons (pe_ix (ix_U (K := e.K)) (pv 1) pe_int (fun _ _ => rfl)) pa_nil))) pa_nil)))))), ?_⟩
  cases a with
  | ck d =>
    have hp : H pa = some (.tup [.str "checkpoint", w]) := hp
    walk_at "god"
    rename_i p1 H1 n1 m1 h1 p2 H2 n2 m2 h2
    exact k p2 p1 H2 n1 (m1.trans m2) ⟨w, [], h2, hw.mono (Gro.same (m1.trans m2)), m2 _ _ h1, .nil⟩
  | ad d =>
    have hp : H pa = some (.tup [.str "add", w]) := hp
    walk_at "god"
    rename_i p1 H1 n1 m1 h1 p2 H2 n2 m2 h2 p3 H3 n3 m3 h3
    have m13 := (m1.trans m2).trans m3
    exact k p3 p2 H3 (Same.before m1 n2) m13 ⟨v, vs ++ [w], h3, hv.mono (Gro.same m13), m3 _ _ h2, (hs.snoc hw).mono (Gro.same m13)⟩

/-! ### _law_kept -/
abbrev s_l_kept : Stmt := top 57
abbrev N_l_kept : List Str := ["_law_state", "_law_script"]
theorem sc_l_kept : FnScope N_l_kept ["_law_state", "_law_script"] (defScope s_l_kept) := ⟨rfl, rfl, rfl, by decide +kernel, rfl, by decide +kernel, by decide +kernel⟩
theorem bi_l_kept : BindOk "_law_kept" s_l_kept ["_law_state", "_law_script"] := fun _ _ _ _ _ _ us hl => match us, hl with | [_, _], _ => rfl
def sp_l_kept (K : PySem.W.Frag) : Sp := sp2 fun st sc H Q _ => ∃ a b, st = .ref a ∧ sc = .ref b ∧ Drw H a ∧ Scr K H b ∧ ∀ (n : Nat) H', Stp a H H' → Q (.int n) H'
theorem use_kept {K : PySem.W.Frag} {a b : Addr} {H : Hp} {Q : VK} {E : XK} (h1 : Drw H a) (h2 : Scr K H b) (k : ∀ (n : Nat) H', Stp a H H' → Q (.int n) H') : sp_l_kept K [.ref a, .ref b] H Q E := ⟨a, b, rfl, rfl, h1, h2, k⟩
theorem ok_l_kept {e : Wd} (D : DefAt e "_law_kept" s_l_kept) (B : Bl e.mg) (c_l_draw : Can e 2 "_law_draw" ["_law_state", "_law_script", "_law_size"] (sp_l_draw e.K)) : Can e 3 "_law_kept" ["_law_state", "_law_script"] (sp_l_kept e.K) := by
  refine can_of D sc_l_kept bi_l_kept (fun _ _ _ _ h => sp2_len h) (fun cdv f A outer s H vs Q E hr h => ?_)
  obtain ⟨v0, v1, rfl, h⟩ := sp2_ex h
  have nd := sc_l_kept.nd
  obtain ⟨a, b, rfl, rfl, dr, hs, k⟩ := h
  refine ⟨_, (pss_one (ps_ret (pe_ix (ix_U (K := e.K)) (pe_lst (pa_cons (pe_can c_l_draw (hr.mono (by first | decide | omega)) passL (pa_cons (pv 0) (pa_cons (pv 1) (pa_cons pe_int pa_nil)))) (pa_cons pe_int (pa_cons pe_int pa_nil)))) (pe_can c_l_draw (hr.mono (by first | decide | omega)) passL (pa_cons (pv 0) (pa_cons (pv 1) (pa_cons pe_int pa_nil)))) (fun _ _ => rfl)))), ?_⟩
  walk_at "go"
  rename_i n H1 n0 n1 s1 p2 H2 n2 m2 h2 d H3 d0 d1 s3
  obtain ⟨v, hv, hm⟩ := atI_get (xs := [V.int n, V.int 100000, V.int 0]) d0 d1
  refine r_ixL (SqL.of (s3.at_ h2 (ne_drw s1.drw n2))) hv ?_
  have s13 := (s1.snd m2).trans s3
  obtain ⟨m, rfl⟩ : ∃ m : Nat, n = m := ⟨n.toNat, by omega⟩
  simp only [List.mem_cons, List.not_mem_nil, or_false] at hm
  rcases hm with rfl | rfl | rfl
  · exact k m _ s13
  · exact k 100000 _ s13
  · exact k 0 _ s13

/-! ### law -/
abbrev s_law : Stmt := top 58
abbrev N_law : List Str := ["_law_script", "_law_state", "_law_disk", "_law_journal", "_law_content", "_law_begun", "_law_generation", "_law_power", "_law_k", "_law_kind", "_law_maybe", "_law_down", "_law_act", "_law_need_here", "_law_done", "_law_told", "_law_other"]
theorem sc_law : FnScope N_law ["_law_script"] (defScope s_law) := ⟨rfl, rfl, rfl, by decide +kernel, rfl, by decide +kernel, by decide +kernel⟩
theorem bi_law : BindOk "law" s_law ["_law_script"] := fun _ _ _ _ _ _ us hl => match us, hl with | [_], _ => rfl
def sp_law (K : PySem.W.Frag) : Sp := sp1 fun x H Q _ => ∃ b, x = .ref b ∧ Scr K H b ∧ ∀ H', Q (.bl true) H'
/-- the state, the script, the disk and the content -/
structure Wb (K : PySem.W.Frag) (a b p pc pe : Addr) (fp : List Addr) (D : Dsk) (d : PyData) (es : List PyData) (H : Hp) : Prop where
  dr : Drw H a
  sc : Scr K H b
  dk : Own H (.ref p) (diskT K D) fp
  na : a ∉ fp
  ct : ContAt H pc pe d es
  ne : pe ∉ fp
  ea : pe ≠ a
/-- with the journal -/
structure Wj (K : PySem.W.Frag) (a b p j pc pe : Addr) (fp : List Addr) (D : Dsk) (x : Ld) (bg : Bool) (m : Nat) (H : Hp) : Prop where
  w : Wb K a b p pc pe fp D x.val x.evs H
  jr : ∃ g v q, Ins H j (He.ga K "Journal") (jF p x.file g v q x.gen)
  nj : j ∉ fp
  inv : Inv D x
  bgn : bg = true → 1 ≤ x.gen ∧ D.c x.file = fileB x.gen x.val x.evs
  len : ∀ i, i < 2 → (D.c i).length ≤ 600 * m
  evl : x.evs.length ≤ m
  gnl : x.gen ≤ m
theorem Wb.stp {K : PySem.W.Frag} {a b p pc pe : Addr} {fp : List Addr} {D : Dsk} {d : PyData} {es : List PyData} {H H' : Hp} (s : Stp a H H') (w : Wb K a b p pc pe fp D d es H) : Wb K a b p pc pe fp D d es H' := ⟨s.drw, w.sc.mono s.gro, w.dk.stp s w.na, w.na, w.ct.stp s w.ea, w.ne, w.ea⟩
theorem Wb.same {K : PySem.W.Frag} {a b p pc pe : Addr} {fp : List Addr} {D : Dsk} {d : PyData} {es : List PyData} {H H' : Hp} (s : Same H H') (w : Wb K a b p pc pe fp D d es H) : Wb K a b p pc pe fp D d es H' := w.stp (Stp.same w.dr s)
theorem Wb.chg {K : PySem.W.Frag} {a b p pc pe : Addr} {fp fp' F F' : List Addr} {D D' : Dsk} {d : PyData} {es : List PyData} {H H' : Hp} (c : Chg F F' H H') (hF : a ∉ F) (eF : pe ∉ F) (o : Own H' (.ref p) (diskT K D') fp') (hs : ∀ z ∈ fp', z ∈ F') (w : Wb K a b p pc pe fp D d es H) : Wb K a b p pc pe fp' D' d es H' := by
  obtain ⟨x, y, ha⟩ := w.dr
  obtain ⟨v, vs, _, _, he, _⟩ := w.ct
  exact ⟨c.drw w.dr hF, w.sc.mono c.gro, o, fun z => c.out ha hF (hs _ z), w.ct.chg c eF, fun z => c.out he eF (hs _ z), w.ea⟩
theorem ins_drw {H : Hp} {j a C : Addr} {fs : List (Str × V)} (h : Ins H j C fs) (d : Drw H a) : j ≠ a := by
  obtain ⟨x, y, e⟩ := d
  exact ins_ne h e
theorem Wj.stp {K : PySem.W.Frag} {a b p j pc pe : Addr} {fp : List Addr} {D : Dsk} {x : Ld} {bg : Bool} {m : Nat} {H H' : Hp} (s : Stp a H H') (w : Wj K a b p j pc pe fp D x bg m H) : Wj K a b p j pc pe fp D x bg m H' := by
  obtain ⟨g, v, q, dx, h⟩ := w.jr
  exact ⟨w.w.stp s, ⟨g, v, q, dx, s.at_ h (ins_drw ⟨dx, h⟩ w.w.dr)⟩, w.nj, w.inv, w.bgn, w.len, w.evl, w.gnl⟩
theorem Wj.same {K : PySem.W.Frag} {a b p j pc pe : Addr} {fp : List Addr} {D : Dsk} {x : Ld} {bg : Bool} {m : Nat} {H H' : Hp} (s : Same H H') (w : Wj K a b p j pc pe fp D x bg m H) : Wj K a b p j pc pe fp D x bg m H' := w.stp (Stp.same w.w.dr s)
theorem Inv.by {D : Dsk} {x : Ld} (h : Inv D x) (hl : ∀ i, i < 2 → (D.c i).length ≤ 100000) : ∀ i, i < 2 → ByN (conM D i) := fun i hi => by
  rw [h.con hi]
  exact ⟨Nat.le_trans (hl i hi) (by decide), h.cb i hi⟩
theorem Inv.lens {D : Dsk} {x : Ld} (h : Inv D x) (hl : ∀ i, i < 2 → (D.c i).length ≤ 100000) : ∀ i, i < 2 → (D.c i).length + (D.s i).length ≤ 140000 := fun i hi => by
  rw [h.s i hi]
  exact Nat.le_trans (hl i hi) (by decide)
theorem Inv.lay {D : Dsk} {x : Ld} (h : Inv D x) : Lay 23 (ldD (loadM D)) := by
  rw [h.load]
  refine Lay.tup fun y hy => ?_
  simp only [List.mem_cons, List.not_mem_nil, or_false] at hy
  rcases hy with rfl | rfl | rfl
  · exact Lay.int _
  · exact h.vo.pk.lay (by have := h.vo.dp; omega)
  · exact Lay.lst fun u hu => (h.eo u hu).pk.lay (by have := (h.eo u hu).dp; omega)
theorem Inv.start : Inv ⟨fun _ => [], fun _ => [], none⟩ ld0 :=
  ⟨fun _ _ => rfl, by decide, fun _ _ n hn => absurd hn List.not_mem_nil, (fun _ z => nomatch z), rc_non, fun _ hn => absurd hn List.not_mem_nil, .inl ⟨rfl, fun _ _ => by
    have h := file_cut (g := 1) (k := 0) rc_non (recD_pos (begD_pk rc_non.pk))
    rwa [List.take_zero] at h⟩⟩
theorem Wj.up {K : PySem.W.Frag} {a b p j pc pe : Addr} {fp : List Addr} {D : Dsk} {x : Ld} {bg : Bool} {m : Nat} {H : Hp} (w : Wj K a b p j pc pe fp D x bg m H) : Wj K a b p j pc pe fp D x bg (m + 1) H := ⟨w.w, w.jr, w.nj, w.inv, w.bgn, fun i hi => by have := w.len i hi; omega, by have := w.evl; omega, by have := w.gnl; omega⟩
/-- the content as a datum -/
def ctD (x : Ld) : PyData := .tuple [x.val, .list x.evs]
theorem ctD_lay {x : Ld} (hv : Rc x.val) (he : ∀ e ∈ x.evs, Rc e) : Lay 23 (ctD x) := by
  refine Lay.tup fun y hy => ?_
  simp only [List.mem_cons, List.not_mem_nil, or_false] at hy
  rcases hy with rfl | rfl
  · exact hv.pk.lay (by have := hv.dp; omega)
  · exact Lay.lst fun u hu => (he u hu).pk.lay (by have := (he u hu).dp; omega)
/-- what a crash leaves -/
structure CrOk (D : Dsk) (x y : Ld) (m : Nat) : Prop where
  l : ∀ i, i < 2 → (D.c i).length + (D.s i).length ≤ 140000
  c : ∀ u v i, i < 2 → ((D.crash u v).c i).length ≤ 600 * m
  i : ∀ u v, Inv (D.crash u v) x ∨ Inv (D.crash u v) y
  g : x.gen ≤ y.gen
  gm : y.gen ≤ m
  ex : x.evs.length ≤ m
  ey : y.evs.length ≤ m
  o : Lay 23 (ctD x)
theorem dcr_c (D : Dsk) (u v : Nat) {i : Nat} (hi : i < 2) : ((D.crash u v).c i).length ≤ (D.c i).length + (D.s i).length := by
  have key : ∀ k, (appliedM (D.c i) ((D.s i).take k)).length ≤ (D.c i).length + (D.s i).length := fun k => by
    have := applied_len (D.c i) ((D.s i).take k)
    rw [List.length_take] at this
    omega
  match i, hi with
  | 0, _ => exact key u
  | 1, _ => exact key v
theorem begD_len {g : Int} {d : PyData} (hg : g.natAbs < 2 ^ 70) : (recD (begD g d)).length ≤ (recD d).length + 20 := by
  unfold begD
  rw [recD, cntR_lt (by simp), List.length_cons, List.length_append]
  simp only [recsD, List.length_append, List.length_cons, List.length_nil]
  have e1 := rec_int hg
  have e2 : (recD (.str begS)).length = 7 := by decide +kernel
  omega
theorem actR_len {x : Ld} {a : Act} {n : Nat} (h : (recD (actD a)).length ≤ n) (hg : 0 ≤ x.gen) (hg2 : x.gen < 1000) : (actR x a).length ≤ n + 20 := by
  cases a with
  | ck d =>
    have := begD_len (g := x.gen + 1) (d := d) (by omega)
    have h : (recD d).length ≤ n := h
    show (recD (begD (x.gen + 1) d)).length ≤ _
    omega
  | ad d =>
    have h : (recD d).length ≤ n := h
    show (recD d).length ≤ _
    omega
theorem actS_len {x : Ld} {a : Act} {n : Nat} (h : (actR x a).length ≤ n) : (actS x a).length ≤ n + 1 := by
  cases a with
  | ck d =>
    have h : (recD (begD (x.gen + 1) d)).length ≤ n := h
    show (-1 :: recD (begD (x.gen + 1) d)).length ≤ _
    rw [List.length_cons]
    omega
  | ad d =>
    have h : (recD d).length ≤ n := h
    show (recD d).length ≤ _
    omega
theorem actL_gen (x : Ld) (a : Act) : x.gen ≤ (actL x a).gen ∧ (actL x a).gen ≤ x.gen + 1 ∧ (actL x a).evs.length ≤ x.evs.length + 1 := by
  cases a with
  | ck d =>
    refine ⟨?_, ?_, ?_⟩
    · show x.gen ≤ x.gen + 1
      omega
    · show x.gen + 1 ≤ x.gen + 1
      omega
    · exact Nat.zero_le _
  | ad d =>
    refine ⟨Int.le_refl _, ?_, ?_⟩
    · show x.gen ≤ x.gen + 1
      omega
    · show (x.evs ++ [d]).length ≤ _
      rw [List.length_append]
      exact Nat.le_refl _
theorem done_len {D : Dsk} {x : Ld} {a : Act} {m : Nat} (h : ∀ i, i < 2 → (D.c i).length ≤ 600 * m) (hf : x.file < 2) (hl : (actR x a).length ≤ 510) : ∀ i, i < 2 → ((doneD D x a).c i).length ≤ 600 * (m + 1) := fun i hi => by
  show (setF D.c (actF x a) (actC D x a) i).length ≤ _
  by_cases q : i = actF x a
  · rw [q, setF_at]
    cases a with
    | ck d =>
      have hl : (recD (begD (x.gen + 1) d)).length ≤ 510 := hl
      show (recD (begD (x.gen + 1) d)).length ≤ _
      omega
    | ad d =>
      have hl : (recD d).length ≤ 510 := hl
      have := h _ hf
      show (D.c x.file ++ recD d).length ≤ _
      rw [List.length_append]
      omega
  · rw [setF_ne _ _ q]
    have := h i hi
    omega
theorem cut_len {D : Dsk} {x : Ld} {a : Act} {n m : Nat} (hv : Inv D x) (h : ∀ i, i < 2 → (D.c i).length ≤ 600 * m) (hl : (actR x a).length ≤ 510) : ∀ i, i < 2 → ((cutD D x a n).c i).length + ((cutD D x a n).s i).length ≤ 600 * (m + 1) := fun i hi => by
  have h1 := h i hi
  have h2 := hv.s i hi
  have h3 := actS_len hl
  show (D.c i).length + (setF D.s (actF x a) (D.s (actF x a) ++ (actS x a).take n) i).length ≤ _
  by_cases q : i = actF x a
  · rw [q, setF_at, ← q, h2, List.nil_append, List.length_take]
    omega
  · rw [setF_ne _ _ q, h2, List.length_nil]
    omega
theorem Wj.cr {K : PySem.W.Frag} {a b p j pc pe : Addr} {fp : List Addr} {D : Dsk} {x : Ld} {bg : Bool} {m : Nat} {H : Hp} (w : Wj K a b p j pc pe fp D x bg m H) (hm : m ≤ 100) : CrOk D x x (m + 1) := by
  have hl : ∀ i, i < 2 → (D.c i).length + (D.s i).length ≤ 600 * m := fun i hi => by
    have := w.len i hi
    rw [w.inv.s i hi, List.length_nil]
    omega
  exact ⟨fun i hi => by have := hl i hi; omega, fun u v i hi => by have := dcr_c D u v hi; have := hl i hi; omega, fun u v => .inl (w.inv.crash u v), Int.le_refl _, by have := w.gnl; omega, by have := w.evl; omega, by have := w.evl; omega, ctD_lay w.inv.vo w.inv.eo⟩
theorem Wj.crCut {K : PySem.W.Frag} {a b p j pc pe : Addr} {fp : List Addr} {D : Dsk} {x : Ld} {bg : Bool} {m : Nat} {H : Hp} {t : Act} {n : Nat} (w : Wj K a b p j pc pe fp D x bg m H) (hm : m ≤ 100) (fit : Fit D x t) (ha : Rc (actD t)) (hl : (actR x t).length ≤ 510) (hn : n < needM x t) : CrOk (cutD D x t n) x (actL x t) (m + 1) := by
  have h0 := cut_len (n := n) w.inv w.len hl
  obtain ⟨g1, g2, g3⟩ := actL_gen x t
  have := w.gnl
  have := w.evl
  exact ⟨fun i hi => by have := h0 i hi; omega, fun u v i hi => Nat.le_trans (dcr_c _ u v hi) (h0 i hi), fun u v => w.inv.cut fit ha hn u v, g1, by omega, by omega, by omega, ctD_lay w.inv.vo w.inv.eo⟩
theorem r_neLay2 {K : PySem.W.Frag} {H : Hp} {Q : VK} {p : Addr} {y : V} {d f : PyData} {n m : Nat} (hx : Dp K H (.ref p) d) (hy : Dp K H y f) (ok : Lay n d) (ok2 : Lay m f) (hn : n ≤ 64) (hm : m ≤ 64) (q : Q (.bl (!PyData.eqv d f)) H) : uNe K (.ref p) y H Q := by
  have z : rNeD K (.ref p) y H Q := ⟨d, f, hx, hy, ok.shaped hn, ok2.shaped hm, q⟩
  cases y <;> exact .inr z
theorem ContAt.dp {K : PySem.W.Frag} {H : Hp} {pc pe : Addr} {x : Ld} (h : ContAt H pc pe x.val x.evs) : Dp K H (.ref pc) (ctD x) := by
  obtain ⟨v, vs, h1, h2, h3, h4⟩ := h
  exact .tup (SqT.of h1) (.cons h2.dp (.cons (.lst (SqL.of h3) h4.dp) .nil))
theorem actL_gn (x : Ld) (a : Act) : (actL x a).gen = x.gen + (if decide (actK a = Str.ofString "checkpoint") = true then 1 else 0) := by
  cases a with
  | ck d => exact congrArg (x.gen + ·) (if_pos (by decide +kernel : decide ((Str.ofString "checkpoint" : Str) = Str.ofString "checkpoint") = true)).symm
  | ad d =>
    have h : (if decide ((Str.ofString "add" : Str) = Str.ofString "checkpoint") = true then (1 : Int) else 0) = 0 := if_neg (by decide +kernel)
    show x.gen = x.gen + (if decide ((Str.ofString "add" : Str) = Str.ofString "checkpoint") = true then (1 : Int) else 0)
    rw [h, Int.add_zero]
theorem use_tried {K : PySem.W.Frag} {j p pe pa : Addr} {fp : List Addr} {D : Dsk} {g : Int} {v : V} {a : Act} {X : Ld} {H : Hp} {Q : VK} {E : XK} (h1 : ActAt H pa a) (h2 : Ins H j (He.ga K "Journal") (jF p X.file g v pe X.gen)) (h3 : X.file < 2) (h4 : Own H (.ref p) (diskT K D) fp) (h5 : j ∉ fp) (h6 : Rc (actD a)) (h7 : (actR X a).length ≤ 100000) (h8 : ∀ i, i < 2 → D.s i = []) (h9 : ∀ i, i < 2 → (D.c i).length ≤ 100000) (h10 : ∀ n, D.pw = some n → 0 ≤ n)
    (k1 : (∀ n, D.pw = some n → (needM X a : Int) ≤ n) → ∀ H' fp', Own H' (.ref p) (diskT K (doneD D X a)) fp' → j ∉ fp' → Ins H' j (He.ga K "Journal") (jF p (actL X a).file g v pe (actL X a).gen) → Chg (j :: fp) (j :: fp') H H' → Q (.bl true) H')
    (k2 : ∀ n : Nat, D.pw = some (n : Int) → n < needM X a → ∀ H', Own H' (.ref p) (diskT K (cutD D X a n)) fp → Chg fp fp H H' → Q (.bl false) H') : sp_l_tried K [.ref j, .ref pa] H Q E := ⟨j, p, fp, D, g, v, pe, a, X, pa, rfl, rfl, h1, h2, h3, h4, h5, h6, h7, h8, h9, h10, k1, k2⟩
theorem ok_law {e : Wd} {f0 : Addr} {fd : FuncData} (D : FunD e.K "law" "law" (defArgs s_law) (defBody s_law) (defScope s_law) [] [] f0 fd) (B : Bl e.mg) (kc_Journal : Cls e.K (He.ga e.K "Journal")) (kn_Journal_generation : NoAttr e.K (He.ga e.K "Journal") "generation") (kn_Journal_value : NoAttr e.K (He.ga e.K "Journal") "value") (kn_Journal_events : NoAttr e.K (He.ga e.K "Journal") "events") (c_Disk___init__ : CanN e 1 (He.ga e.K "Disk") "Disk" ["self"] (sp_Disk___init__ e.K)) (c_l_loaded : Can e 66 "_law_loaded" ["_law_disk"] (sp_l_loaded e.K)) (c_l_draw : Can e 2 "_law_draw" ["_law_state", "_law_script", "_law_size"] (sp_l_draw e.K)) (c_l_event : Can e 5 "_law_event" ["_law_state", "_law_script"] (sp_l_event e.K)) (c_l_value : Can e 40 "_law_value" ["_law_state", "_law_script", "_law_depth"] (sp_l_value 5 e.K)) (c_l_need : Can e 41 "_law_need" ["_law_generation", "_law_act"] (sp_l_need e.K)) (c_l_after : Can e 1 "_law_after" ["_law_content", "_law_act"] (sp_l_after e.K)) (c_l_tried : Can e 42 "_law_tried" ["_law_journal", "_law_act"] (sp_l_tried e.K)) (c_Disk_limit : CanM e 1 (He.ga e.K "Disk") "limit" ["self", "steps"] (sp_Disk_limit e.K)) (c_Disk_crash : CanM e 2 (He.ga e.K "Disk") "crash" ["self", "a", "b"] (sp_Disk_crash e.K)) (c_l_kept : Can e 3 "_law_kept" ["_law_state", "_law_script"] (sp_l_kept e.K)) : FnOk e.P e.w e.K e.mg e.base (L2.CX e.P e.w) 67 f0 fd ["_law_script"] (sp_law e.K) := by
  refine fnok_of D sc_law (fun _ _ _ _ h => sp1_len h) (fun cdv f A outer s H vs Q E hr h => ?_)
  obtain ⟨v0, rfl, h⟩ := sp1_ex h
  have nd := sc_law.nd
  obtain ⟨b, rfl, hs, k⟩ := h
  refine ⟨_, (pss_cons (ps_set (i := 1) nd rfl (by first | exact Or.inl rfl | exact Or.inr rfl) (pe_lst (pa_cons pe_int (pa_cons pe_int pa_nil))))
    (pss_cons (ps_set (i := 2) nd rfl (by first | exact Or.inl rfl | exact Or.inr rfl) (pe_canN0 c_Disk___init__ (hr.mono (by first | decide | omega)) passL))
    (pss_cons (ps_set (i := 3) nd rfl (by first | exact Or.inl rfl | exact Or.inr rfl) (pe_can c_l_loaded (hr.mono (by first | decide | omega)) passL (pa_cons (pv 2) pa_nil)))
    (pss_cons (ps_if (PW.pt (pw_or (pt_cmpR op_isU (pv 3) pe_non (nomark _)) (pw_or1 (pt_cmpR (op_neU (K := e.K) hr) (pe_fldU (K := e.K) (pv 3)) pe_int (nomark _))))) (pss_one (ps_ret pe_bl)) pss_nil)
    (pss_cons (ps_set (i := 4) nd rfl (by first | exact Or.inl rfl | exact Or.inr rfl) (pe_tup (pa_cons pe_non (pa_cons (pe_lst pa_nil) pa_nil))))
    (pss_cons (ps_set (i := 5) nd rfl (by first | exact Or.inl rfl | exact Or.inr rfl) pe_bl)
    (pss_cons (ps_set (i := 6) nd rfl (by first | exact Or.inl rfl | exact Or.inr rfl) pe_int)
    (pss_cons (ps_set (i := 7) nd rfl (by first | exact Or.inl rfl | exact Or.inr rfl) pe_non)
    (pss_cons (ps_for PassesOwn.never rfl (pi_range1 rfl B.b_range (pa_cons (pe_can c_l_draw (hr.mono (by first | decide | omega)) passL (pa_cons (pv 1) (pa_cons (pv 0) (pa_cons pe_int pa_nil)))) pa_nil)) (pg_name (i := 8) nd rfl (by first | exact Or.inl rfl | exact Or.inr rfl)) (pss_cons (ps_set (i := 9) nd rfl (by first | exact Or.inl rfl | exact Or.inr rfl) (pe_can c_l_draw (hr.mono (by first | decide | omega)) passL (pa_cons (pv 1) (pa_cons (pv 0) (pa_cons pe_int pa_nil)))))
    (pss_cons (ps_set (i := 10) nd rfl (by first | exact Or.inl rfl | exact Or.inr rfl) (pv 4))
    (pss_cons (ps_set (i := 11) nd rfl (by first | exact Or.inl rfl | exact Or.inr rfl) (pe_cmpR (op_eqU (K := e.K) hr) (pv 9) pe_int (nomark _)))
    (Evl.pss_cut (ps_if (pt_cmpR op_leU (pv 9) pe_int (nomark _)) (pss_cons (ps_set (i := 12) nd rfl (by first | exact Or.inl rfl | exact Or.inr rfl) (pe_tup (pa_cons pe_str (pa_cons (pe_can c_l_event (hr.mono (by first | decide | omega)) passL (pa_cons (pv 1) (pa_cons (pv 0) pa_nil))) pa_nil))))
    (Evl.pss_cut (ps_if (PW.pt (pw_or (pt_cmpR (op_eqU (K := e.K) hr) (pv 9) pe_int (nomark _)) (pw_or1 (pt_not (pt_tru (K := e.K) (pv 5)))))) (pss_one (ps_set (i := 12) nd rfl (by first | exact Or.inl rfl | exact Or.inr rfl) (pe_tup (pa_cons pe_str (pa_cons (pe_can c_l_value (hr.mono (by first | decide | omega)) passL (pa_cons (pv 1) (pa_cons (pv 0) (pa_cons pe_int pa_nil)))) pa_nil))))) pss_nil)
    (pss_cons (ps_set (i := 13) nd rfl (by first | exact Or.inl rfl | exact Or.inr rfl) (pe_can c_l_need (hr.mono (by first | decide | omega)) passL (pa_cons (pv 6) (pa_cons (pv 12) pa_nil))))
    (pss_cons (ps_set (i := 10) nd rfl (by first | exact Or.inl rfl | exact Or.inr rfl) (pe_can c_l_after (hr.mono (by first | decide | omega)) passL (pa_cons (pv 4) (pa_cons (pv 12) pa_nil))))
    (pss_cons (ps_set (i := 14) nd rfl (by first | exact Or.inl rfl | exact Or.inr rfl) (pe_can c_l_tried (hr.mono (by first | decide | omega)) passL (pa_cons (pv 3) (pa_cons (pv 12) pa_nil))))
    (pss_cons (ps_if (pt_cmpR (op_neU (K := e.K) hr) (pv 14) (pe_orU (K := e.K) (pe_cmpR op_isU (pv 7) pe_non (nomark _)) (pe_one (pe_cmpR op_leU (pv 13) (pv 7) (nomark _)))) (nomark _)) (pss_one (ps_ret pe_bl)) pss_nil)
    (pss_cons (ps_set (i := 11) nd rfl (by first | exact Or.inl rfl | exact Or.inr rfl) (pe_notU (K := e.K) (pv 14)))
    (pss_one (ps_if (pt_tru (K := e.K) (pv 14)) (pss_cons (ps_set (i := 4) nd rfl (by first | exact Or.inl rfl | exact Or.inr rfl) (pv 10))
    (pss_cons (ps_set (i := 5) nd rfl (by first | exact Or.inl rfl | exact Or.inr rfl) pe_bl)
    (pss_cons (ps_set (i := 6) nd rfl (by first | exact Or.inl rfl | exact Or.inr rfl) (pe_op (op_addU (K := e.K)) (pv 6) (pe_callTy call_intU (by rfl) B.b_int bt_int (pa_cons (pe_cmpR (op_eqU (K := e.K) hr) (pe_ix (ix_U (K := e.K)) (pv 12) pe_int (fun _ _ => rfl)) pe_str (nomark _)) pa_nil))))
    (pss_one (ps_if (pt_cmpR op_isNotU (pv 7) pe_non (nomark _)) (pss_one (ps_set (i := 7) nd rfl (by first | exact Or.inl rfl | exact Or.inr rfl) (pe_op op_subU (pv 7) (pv 13)))) pss_nil))))) pss_nil))))))))) pss_nil)
    (Evl.pss_cut (ps_if (pt_cmpR (op_eqU (K := e.K) hr) (pv 9) pe_int (nomark _)) (pss_cons (ps_set (i := 7) nd rfl (by first | exact Or.inl rfl | exact Or.inr rfl) (pe_ix (ix_U (K := e.K)) (pe_lst (pa_cons pe_non (pa_cons (pe_can c_l_draw (hr.mono (by first | decide | omega)) passL (pa_cons (pv 1) (pa_cons (pv 0) (pa_cons pe_int pa_nil)))) (pa_cons (pe_can c_l_draw (hr.mono (by first | decide | omega)) passL (pa_cons (pv 1) (pa_cons (pv 0) (pa_cons pe_int pa_nil)))) pa_nil)))) (pe_can c_l_draw (hr.mono (by first | decide | omega)) passL (pa_cons (pv 1) (pa_cons (pv 0) (pa_cons pe_int pa_nil)))) (fun _ _ => rfl)))
    (pss_one (ps_expr (pe_canM c_Disk_limit (hr.mono (by first | decide | omega)) passL (pv 2) (pa_cons (pv 7) pa_nil))))) pss_nil)
    (Evl.pss_cut (ps_if (pt_tru (K := e.K) (pv 11)) (pss_cons (ps_expr (pe_canM c_Disk_crash (hr.mono (by first | decide | omega)) passL (pv 2) (pa_cons (pe_can c_l_kept (hr.mono (by first | decide | omega)) passL (pa_cons (pv 1) (pa_cons (pv 0) pa_nil))) (pa_cons (pe_can c_l_kept (hr.mono (by first | decide | omega)) passL (pa_cons (pv 1) (pa_cons (pv 0) pa_nil))) pa_nil))))
    (pss_cons (ps_set (i := 7) nd rfl (by first | exact Or.inl rfl | exact Or.inr rfl) pe_non)
    (pss_cons (ps_set (i := 3) nd rfl (by first | exact Or.inl rfl | exact Or.inr rfl) (pe_can c_l_loaded (hr.mono (by first | decide | omega)) passL (pa_cons (pv 2) pa_nil)))
    (pss_cons (ps_if (PW.pt (pw_or (pt_cmpR op_isU (pv 3) pe_non (nomark _)) (pw_or1 (pt_cmpR op_ltU (pe_fldU (K := e.K) (pv 3)) (pv 6) (nomark _))))) (pss_one (ps_ret pe_bl)) pss_nil)
    (pss_cons (ps_set (i := 15) nd rfl (by first | exact Or.inl rfl | exact Or.inr rfl) (pe_tup (pa_cons (pe_fldU (K := e.K) (pv 3)) (pa_cons (pe_callTy (call_listU (K := e.K)) (by rfl) B.b_list bt_list (pa_cons (pe_fldU (K := e.K) (pv 3)) pa_nil)) pa_nil))))
    (pss_cons (ps_if (PW.pt (pw_and (pt_cmpR (op_neU (K := e.K) hr) (pv 15) (pv 4) (nomark _)) (pw_and1 (pt_cmpR (op_neU (K := e.K) hr) (pv 15) (pv 10) (nomark _))))) (pss_one (ps_ret pe_bl)) pss_nil)
    (pss_cons (ps_set (i := 4) nd rfl (by first | exact Or.inl rfl | exact Or.inr rfl) (pv 15))
    (pss_cons (ps_set (i := 6) nd rfl (by first | exact Or.inl rfl | exact Or.inr rfl) (pe_fldU (K := e.K) (pv 3)))
    (pss_one (ps_set (i := 5) nd rfl (by first | exact Or.inl rfl | exact Or.inr rfl) pe_bl)))))))))) pss_nil)
    (pss_cons (ps_set (i := 16) nd rfl (by first | exact Or.inl rfl | exact Or.inr rfl) (pe_can c_l_loaded (hr.mono (by first | decide | omega)) passL (pa_cons (pv 2) pa_nil)))
    (pss_one (ps_if (PW.pt (pw_or (pt_cmpR op_isU (pv 16) pe_non (nomark _)) (pw_or (pt_cmpR (op_neU (K := e.K) hr) (pe_tup (pa_cons (pe_fldU (K := e.K) (pv 16)) (pa_cons (pe_fldU (K := e.K) (pv 16)) pa_nil))) (pv 4) (nomark _)) (pw_or1 (pt_cmpR (op_neU (K := e.K) hr) (pe_fldU (K := e.K) (pv 16)) (pv 6) (nomark _)))))) (pss_one (ps_ret pe_bl)) pss_nil))))))))))
    (pss_one (ps_ret pe_bl))))))))))), ?_⟩
  walk_at "go"
  rename_i a H1 na m1 h1 p H2 fp n2 m2 ho hn
  have dr1 : Drw H1 a := ⟨0, 0, h1⟩
  have dr2 := dr1.mono m2
  have hs2 := hs.mono (Gro.same (m1.trans m2))
  have naf : a ∉ fp := fun z => ne_drw' (hn a z) dr1 rfl
  have i0 := Inv.start
  refine use_loaded ho (i0.lens fun _ _ => Nat.zero_le _) (i0.by fun _ _ => Nat.zero_le _) i0.lay (fun j H3 v q vs nj nq jq m3 ij hv hq hqs => ?_)
  rw [i0.load] at ij hv hqs
  have ij2 : Ins H3 j (He.ga e.K "Journal") [("disk", .ref p), ("file", .int 1), ("generation", .int 0), ("value", v), ("events", .ref q), ("last", .int 0)] := ij
  walk_at "god"
  rename_i pe H4 n4 m4 h4 pc H5 n5 m5 h5 nn H6 nn0 nn1 s6
  have m35 := m4.trans m5
  have dr3 := dr2.mono m3
  have wb5 : Wb e.K a b p pc pe fp ⟨fun _ => [], fun _ => [], none⟩ ld0.val ld0.evs H5 := ⟨dr3.mono m35, hs2.mono (Gro.same (m3.trans m35)), ho.same (m3.trans m35), naf, ⟨_, _, h5, .non, m5 _ _ h4, .nil⟩, (ho.same m3).new_out n4, ne_drw dr3 n4⟩
  have wj5 : Wj e.K a b p j pc pe fp ⟨fun _ => [], fun _ => [], none⟩ ld0 false 0 H5 := ⟨wb5, ⟨_, _, _, ij.same m35⟩, ho.new_out nj, i0, (fun z => nomatch z), (fun _ _ => Nat.zero_le _), Nat.le_refl _, Int.le_refl _⟩
  have wj6 := wj5.stp s6
  clear wb5 wj5 h4 n4 m4 h5 n5 m5 m35 dr3 m3 ij ij2 hv hq hqs jq nq nj naf hs2 dr2 dr1 hn ho m2 n2 h1 m1 na s6 i0 hs
  refine for_rng (fun i σ' H' => ∃ (p j pc pe : Addr) (fp : List Addr) (D : Dsk) (x : Ld) (bg : Bool) (y8 y9 y10 y11 y12 y13 y14 y15 y16 : Option V), σ' = [some (.ref b), some (.ref a), some (.ref p), some (.ref j), some (.ref pc), some (.bl bg), some (.int x.gen), some (pwV D.pw), y8, y9, y10, y11, y12, y13, y14, y15, y16] ∧ Wj e.K a b p j pc pe fp D x bg i H') (by omega) (by omega) ⟨p, j, pc, pe, fp, _, ld0, false, none, none, none, none, none, none, none, none, none, rfl, wj6⟩ ?_ ?_
  · rintro i σ' H7 hi ⟨p, j, pc, pe, fp, D, x, bg, y8, y9, y10, y11, y12, y13, y14, y15, y16, rfl, w7⟩
    have dr7 := w7.w.dr
    have hs7 := w7.w.sc
    walk_at "go"
    rename_i kd H8 k0 k1 s8
    have w8 := w7.stp s8
    clear w7 s8 dr7 hs7
    refine r_cut (fun σ' H' => ∃ (j pc pe pm pf : Addr) (fp : List Addr) (D : Dsk) (x y : Ld) (bg dw : Bool) (zp : V) (z12 z13 z14 : Option V), σ' = [some (.ref b), some (.ref a), some (.ref p), some (.ref j), some (.ref pc), some (.bl bg), some (.int x.gen), some zp, some (.int i), some (.int kd), some (.ref pm), some (.bl dw), z12, z13, z14, y15, y16] ∧ (dw = false → zp = pwV D.pw ∧ Wj e.K a b p j pc pe fp D x bg (i + 1) H') ∧ (dw = true → kd ≠ 4 ∧ Wb e.K a b p pc pe fp D x.val x.evs H' ∧ ContAt H' pm pf y.val y.evs ∧ pf ∉ fp ∧ pf ≠ a ∧ CrOk D x y (i + 1))) ?_ ?_
    · have hib : i ≤ 24 := by omega
      by_cases c3 : kd ≤ 3
      · have dr8 := w8.w.dr
        have hs8 := w8.w.sc
        have g0 := w8.inv.gen0
        have g1 := w8.gnl
        have e1 := w8.evl
        walk_at "god"
        refine use_event dr8 hs8 (fun v1 d1 G1 t1 hv1 vn1 dp1 l1 => ?_)
        walk_at "god"
        rename_i pa1 G2 n2 m2 h2
        have w10 := w8.stp (t1.snd m2)
        have hv2 := hv1.mono (Gro.same m2)
        clear w8 dr8 hs8 t1 m2 n2 hv1
        refine r_cut (fun σ' H' => ∃ (pa : Addr) (t : Act), σ' = [some (.ref b), some (.ref a), some (.ref p), some (.ref j), some (.ref pc), some (.bl bg), some (.int x.gen), some (pwV D.pw), some (.int i), some (.int kd), some (.ref pc), some (.bl (decide (kd = 5))), some (.ref pa), y13, y14, y15, y16] ∧ ActAt H' pa t ∧ Rc (actD t) ∧ (actR x t).length ≤ 510 ∧ Fit D x t ∧ Wj e.K a b p j pc pe fp D x bg i H') ?_ ?_
        · have dr10 := w10.w.dr
          have hs10 := w10.w.sc
          have fin : ∀ (v d : _) (G3 G4 : Hp) (pa : Addr), Stp a G2 G3 → Dq G3 v d → Vn d → d.depth ≤ 2 → (recD d).length ≤ 30 * 4 ^ 2 → Same G3 G4 → G4 pa = some (.tup [.str "checkpoint", v]) → ∃ t : Act, ActAt G4 pa t ∧ Rc (actD t) ∧ (actR x t).length ≤ 510 ∧ Fit D x t ∧ Wj e.K a b p j pc pe fp D x bg i G4 := fun v d G3 G4 pa t3 hv3 vn3 dp3 l3 m4 h4 =>
            ⟨.ck d, ⟨v, h4, hv3.mono (Gro.same m4)⟩, ⟨vn3.pk, by show d.depth ≤ 10; omega⟩, actR_len (n := 490) (by show (recD d).length ≤ 490; omega) g0 (by omega), trivial, w10.stp (t3.snd m4)⟩
          by_cases c0 : kd = 0
          · walk_at "god"
            refine use_value (dep := 2) (by decide) dr10 hs10 (fun v d G3 t3 hv3 vn3 dp3 l3 => ?_)
            walk_at "god"
            rename_i pa4 G4 n4 m4 h4
            obtain ⟨t, h⟩ := fin v d G3 G4 pa4 t3 hv3 vn3 dp3 l3 m4 h4
            exact ⟨pa4, t, rfl, h⟩
          · cases bg with
            | false =>
              walk_at "god"
              refine use_value (dep := 2) (by decide) dr10 hs10 (fun v d G3 t3 hv3 vn3 dp3 l3 => ?_)
              walk_at "god"
              rename_i pa4 G4 n4 m4 h4
              obtain ⟨t, h⟩ := fin v d G3 G4 pa4 t3 hv3 vn3 dp3 l3 m4 h4
              exact ⟨pa4, t, rfl, h⟩
            | true =>
              walk_at "god"
              exact ⟨pa1, .ad d1, rfl, ⟨v1, h2, hv2⟩, ⟨vn1.pk, by show d1.depth ≤ 10; omega⟩, actR_len (n := 490) (by show (recD d1).length ≤ 490; omega) g0 (by omega), w10.bgn rfl, w10⟩
        · clear w10 hv2 h2 l1 dp1 vn1
          rintro σ' G3 ⟨pa, t, rfl, at3, rc, rl, fit, w3⟩
          walk_at "god"
          refine use_need at3 rc (Nat.le_trans rl (by decide)) (fun G4 m4 => ?_)
          have at4 := at3.mono (Gro.same m4)
          have w4 := w3.same m4
          clear w3 at3
          walk_at "god"
          refine use_after at4 w4.w.ct (by omega) (fun pm pf G5 nf m5 ct5 => ?_)
          have at5 := at4.mono (Gro.same m5)
          have w5 := w4.same m5
          have nfp : pf ∉ fp := w4.w.dk.new_out nf
          have nfa : pf ≠ a := ne_drw w4.w.dr nf
          obtain ⟨g, vv, qq, ij5⟩ := w5.jr
          have ij4 := w4.jr
          have nfj : pf ≠ j := fun z => by
            obtain ⟨_, _, _, dx, q⟩ := ij4
            rw [← z, nf] at q
            cases q
          clear w4 at4 m4 m5 ij4
          walk_at "god"
          have hlen : ∀ i, i < 2 → (D.c i).length ≤ 100000 := fun i' hi' => by have := w5.len i' hi'; omega
          refine use_tried at5 ij5 w5.inv.f w5.w.dk w5.nj rc (Nat.le_trans rl (by decide)) w5.inv.s hlen w5.inv.pw (fun hen G6 fp6 o6 nj6 ij6 c6 => ?_) (fun n en hn G6 o6 c6 => ?_)
          · obtain ⟨idone, cdone⟩ := w5.inv.done fit rc hen
            obtain ⟨gl1, gl2, gl3⟩ := actL_gen x t
            have ldone := done_len w5.len w5.inv.f rl
            have dr5 := w5.w.dr
            have aj : a ∉ j :: fp := fun z => (List.mem_cons.mp z).elim (fun y => ins_drw ⟨_, ij5.choose_spec⟩ dr5 y.symm) w5.w.na
            have pj : pf ∉ j :: fp := fun z => (List.mem_cons.mp z).elim (fun y => nfj y) nfp
            have ct6 := ct5.chg c6 pj
            obtain ⟨_, _, hpf5, _, hpf, _⟩ := id ct5
            have wj6 : Wj e.K a b p j pm pf fp6 (doneD D x t) (actL x t) true (i + 1) G6 :=
              ⟨⟨c6.drw dr5 aj, w5.w.sc.mono c6.gro, o6, fun z => let ⟨_, _, q⟩ := dr5; c6.out q aj (List.mem_cons_of_mem _ z), ct6, fun z => c6.out hpf pj (List.mem_cons_of_mem _ z), nfa⟩, ⟨g, vv, qq, ij6⟩, nj6, idone, fun _ => ⟨(actL_ho w5.inv fit).2.1, cdone⟩, ldone, by omega, by omega⟩
            have at6 := at5.mono c6.gro
            have pq : pwV (doneD D x t).pw = (match D.pw with | none => V.non | some n => V.int (n - (needM x t : Int))) := by
              show pwV (D.pw.map _) = _
              cases D.pw <;> rfl
            clear at5 ct5 ct6 c6 o6 w5 hlen ij5
            obtain ⟨w6, hp6, _⟩ := at6
            obtain ⟨pw, hpw⟩ : ∃ q, D.pw = q := ⟨_, rfl⟩
            rw [hpw] at hen pq
            rw [hpw]
            have hgn := actL_gn x t
            cases pw with
            | none =>
              walk_at "god"
              refine ⟨j, pm, pf, pm, pf, fp6, doneD D x t, actL x t, actL x t, true, false, pwV (doneD D x t).pw, some (.ref pa), some (.int (needM x t : Nat)), some (.bl true), ?_, fun _ => ⟨rfl, wj6⟩, fun z => nomatch z⟩
              rw [pq, hgn]
              rfl
            | some n =>
              have hn := hen n rfl
              rw [show pwV (some n) = V.int n from rfl]
              walk_at "god"
              rw [show decide ((needM x t : Int) ≤ n) = true from decide_eq_true hn]
              walk_at "god"
              refine ⟨j, pm, pf, pm, pf, fp6, doneD D x t, actL x t, actL x t, true, false, pwV (doneD D x t).pw, some (.ref pa), some (.int (needM x t : Nat)), some (.bl true), ?_, fun _ => ⟨rfl, wj6⟩, fun z => nomatch z⟩
              rw [pq, hgn]
              rfl
          · have cr := w5.crCut (by omega) fit rc rl hn
            have dr5 := w5.w.dr
            have o6b := o6
            obtain ⟨w6, hp6, _⟩ := at5.mono c6.gro
            rw [en, show pwV (some (n : Int)) = V.int n from rfl]
            walk_at "god"
            rw [show decide ((needM x t : Int) ≤ (n : Int)) = false from decide_eq_false (by omega)]
            walk_at "god"
            exact ⟨j, pc, pe, pm, pf, fp, cutD D x t n, x, actL x t, bg, true, _, _, _, _, rfl, (fun z => nomatch z), fun _ => ⟨by omega, ⟨c6.drw dr5 w5.w.na, w5.w.sc.mono c6.gro, o6b, w5.w.na, w5.w.ct.chg c6 w5.w.ne, w5.w.ne, w5.w.ea⟩, ct5.chg c6 nfp, nfp, nfa, cr⟩⟩
      · walk_at "god"
        by_cases c5 : kd = 5
        · refine ⟨j, pc, pe, pc, pe, fp, D, x, x, bg, decide (kd = 5), _, _, _, _, rfl, fun z => absurd c5 (of_decide_eq_false z), fun _ => ⟨by omega, w8.w, w8.w.ct, w8.w.ne, w8.w.ea, w8.cr (by omega)⟩⟩
        · refine ⟨j, pc, pe, pc, pe, fp, D, x, x, bg, decide (kd = 5), _, _, _, _, rfl, fun _ => ⟨rfl, w8.up⟩, fun z => absurd (of_decide_eq_true z) c5⟩
    · clear w8
      rintro σ' H9 ⟨j, pc, pe, pm, pf, fp, D, x, y, bg, dw, zp, z12, z13, z14, rfl, hw, hd⟩
      refine r_cut (fun σ' H' => ∃ (j pc pe pm pf : Addr) (fp : List Addr) (D : Dsk) (x y : Ld) (bg dw : Bool) (zp : V) (z12 z13 z14 : Option V), σ' = [some (.ref b), some (.ref a), some (.ref p), some (.ref j), some (.ref pc), some (.bl bg), some (.int x.gen), some zp, some (.int i), some (.int kd), some (.ref pm), some (.bl dw), z12, z13, z14, y15, y16] ∧ (dw = false → zp = pwV D.pw ∧ Wj e.K a b p j pc pe fp D x bg (i + 1) H') ∧ (dw = true → Wb e.K a b p pc pe fp D x.val x.evs H' ∧ ContAt H' pm pf y.val y.evs ∧ pf ∉ fp ∧ pf ≠ a ∧ CrOk D x y (i + 1))) ?_ ?_
      · by_cases c4 : kd = 4
        · cases dw with
          | true => exact absurd c4 (hd rfl).1
          | false =>
            have w9 := (hw rfl).2
            have dr9 := w9.w.dr
            have hs9 := w9.w.sc
            subst c4
            walk_at "god"
            rename_i u1 G1 u10 u11 t1 u2 G2 u20 u21 t2 q3 G3 n3 m3 h3 z G4 z0 z1 t4
            obtain ⟨v, hv, hm⟩ := atI_get (xs := [V.non, V.int u1, V.int u2]) z0 z1
            refine r_ixL (SqL.of (t4.at_ h3 (ne_drw t2.drw n3))) hv ?_
            have w10 := w9.stp (((t1.trans t2).snd m3).trans t4)
            obtain ⟨po, rfl, hpo⟩ : ∃ po : Option Int, v = pwV po ∧ ∀ n, po = some n → 0 ≤ n := by
              simp only [List.mem_cons, List.not_mem_nil, or_false] at hm
              rcases hm with rfl | rfl | rfl
              · exact ⟨none, rfl, (fun _ z => nomatch z)⟩
              · exact ⟨some u1, rfl, fun n e => by cases e; exact u10⟩
              · exact ⟨some u2, rfl, fun n e => by cases e; exact u20⟩
            clear hv hm t4 h3 m3 n3 t2 t1 w9 hw hd
            obtain ⟨fs, hp, _, _, _, _, lm, _⟩ := w10.w.dk.dk
            walk_at "go"
            refine r_methv hp lm ?_
            walk_at "go"
            refine use_limit w10.w.dk (fun H11 o11 c11 => ?_)
            walk_at "go"
            obtain ⟨g, v, q, ij⟩ := w10.jr
            exact ⟨j, pc, pe, pm, pf, fp, { D with pw := po }, x, y, bg, false, _, _, _, _, rfl, fun _ => ⟨rfl, w10.w.chg c11 w10.w.na w10.w.ne o11 (fun _ z => z), ⟨g, v, q, ij.mono fun o z => c11.at_ z w10.nj⟩, w10.nj, w10.inv.limit hpo, w10.bgn, w10.len, w10.evl, w10.gnl⟩, fun z => nomatch z⟩
        · walk_at "god"
          exact ⟨j, pc, pe, pm, pf, fp, D, x, y, bg, dw, _, _, _, _, rfl, hw, fun z => (hd z).2⟩
      · clear hw hd
        rintro σ' H10 ⟨j, pc, pe, pm, pf, fp, D, x, y, bg, dw, zp, z12, z13, z14, rfl, hw, hd⟩
        refine r_cut (fun σ' H' => ∃ (j pc pe : Addr) (fp : List Addr) (D : Dsk) (x : Ld) (bg : Bool) (z9 z10 z11 z12 z13 z14 z15 : Option V), σ' = [some (.ref b), some (.ref a), some (.ref p), some (.ref j), some (.ref pc), some (.bl bg), some (.int x.gen), some (pwV D.pw), some (.int i), z9, z10, z11, z12, z13, z14, z15, y16] ∧ Wj e.K a b p j pc pe fp D x bg (i + 1) H') ?_ ?_
        · cases dw with
          | false =>
            walk_at "god"
            obtain ⟨rfl, w10⟩ := hw rfl
            exact ⟨j, pc, pe, fp, D, x, bg, _, _, _, _, _, _, _, rfl, w10⟩
          | true =>
            obtain ⟨wb, cm, nf, na2, cr⟩ := hd rfl
            clear hw hd
            obtain ⟨fs, hp, _, _, _, _, _, lc⟩ := wb.dk.dk
            have dr10 := wb.dr
            have hs10 := wb.sc
            walk_at "god"
            refine r_methv hp lc ?_
            walk_at "god"
            refine use_kept dr10 hs10 (fun u G1 t1 => ?_)
            have wb1 := wb.stp t1
            have cm1 := cm.stp t1 na2
            clear wb cm hp hs10 dr10 t1
            have dr11 := wb1.dr
            have hs11 := wb1.sc
            walk_at "god"
            refine use_kept dr11 hs11 (fun v G2 t2 => ?_)
            have wb2 := wb1.stp t2
            have cm2 := cm1.stp t2 na2
            clear wb1 cm1 hs11 dr11 t2
            walk_at "god"
            refine use_crash wb2.dk (fun f hf => Nat.le_trans (cr.l f hf) (by decide)) (fun G3 fp3 o3 c3 => ?_)
            have dr13 := c3.drw wb2.dr wb2.na
            have hs13 := wb2.sc.mono c3.gro
            have ct3 := wb2.ct.chg c3 wb2.ne
            have cm3 := cm2.chg c3 nf
            have na3 : a ∉ fp3 := fun z => let ⟨_, _, q⟩ := wb2.dr; c3.out q wb2.na z
            have pe3 : pe ∉ fp3 := fun z => let ⟨_, _, _, _, q, _⟩ := wb2.ct; c3.out q wb2.ne z
            have ea3 := wb2.ea
            clear wb2 cm2 c3
            have hz : ∃ z, Inv (D.crash u v) z ∧ (z = x ∨ z = y) := (cr.i u v).elim (fun h => ⟨x, h, .inl rfl⟩) fun h => ⟨y, h, .inr rfl⟩
            obtain ⟨z, iz, hz⟩ := hz
            have hcl := cr.c u v
            have hcl2 : ∀ i, i < 2 → ((D.crash u v).c i).length ≤ 100000 := fun i' hi' => by have := hcl i' hi'; omega
            have zg : x.gen ≤ z.gen ∧ z.gen ≤ (i + 1 : Nat) ∧ z.evs.length ≤ i + 1 := by
              have h1 := cr.g
              have h2 := cr.gm
              have h3 := cr.ex
              have h4 := cr.ey
              rcases hz with rfl | rfl
              · exact ⟨Int.le_refl _, by omega, h3⟩
              · exact ⟨h1, h2, h4⟩
            walk_at "god"
            refine use_loaded o3 (iz.lens hcl2) (iz.by hcl2) iz.lay (fun j3 G4 v4 q4 vs4 nj nq jq m4 ij4 hv4 hq4 hqs4 => ?_)
            rw [iz.load] at ij4 hv4 hqs4
            have ij5 : Ins G4 j3 (He.ga e.K "Journal") [("disk", .ref p), ("file", .int z.file), ("generation", .int z.gen), ("value", v4), ("events", .ref q4), ("last", .int z.gen)] := ij4
            walk_at "god"
            rename_i q5 G5 n5 m5 h5 q6 G6 n6 m6 h6
            have m36 := (m4.trans m5).trans m6
            have m46 := m5.trans m6
            have told : ContAt G6 q6 q5 z.val z.evs := ⟨v4, vs4, h6, hv4.mono (Gro.same m46), m6 _ _ h5, hqs4.mono (Gro.same m46)⟩
            have ct6 := ct3.same m36
            have cm6 := cm3.same m36
            have lz := ctD_lay iz.vo iz.eo
            have o6 := o3.same m36
            have w6 : Wj e.K a b p j3 q6 q5 fp3 (D.crash u v) z false (i + 1) G6 :=
              ⟨⟨dr13.mono m36, hs13.mono (Gro.same m36), o6, na3, told, (o3.same m4).new_out n5, ne_drw (dr13.mono m4) n5⟩, ⟨_, _, _, ij4.same m46⟩, o3.new_out nj, iz, (fun z => nomatch z), hcl, zg.2.2, zg.2.1⟩
            have ij6 : Ins G6 j3 (He.ga e.K "Journal") [("disk", .ref p), ("file", .int z.file), ("generation", .int z.gen), ("value", v4), ("events", .ref q4), ("last", .int z.gen)] := ij5.same m46
            clear ij5
            clear m36 m46 m4 m5 m6 h5 h6 hv4 hq4 hqs4 ij4 nj nq jq n5 n6 o6 o3 ct3 cm3 dr13 hs13
            rcases hz with rfl | rfl
            · refine r_neLay told.dp ct6.dp lz (by decide) ?_
              walk_at "god"
              exact ⟨j3, q6, q5, fp3, _, z, false, _, _, _, _, _, _, _, rfl, w6⟩
            · refine r_neLay2 told.dp ct6.dp lz cr.o (by decide) (by decide) ?_
              generalize PyData.eqv (ctD z) (ctD x) = eb
              cases eb with
              | true =>
                walk_at "god"
                exact ⟨j3, q6, q5, fp3, _, z, false, _, _, _, _, _, _, _, rfl, w6⟩
              | false =>
                walk_at "god"
                refine r_neLay told.dp cm6.dp lz (by decide) ?_
                walk_at "god"
                exact ⟨j3, q6, q5, fp3, _, z, false, _, _, _, _, _, _, _, rfl, w6⟩
        · clear hw hd
          rintro σ' H11 ⟨j, pc, pe, fp, D, x, bg, z9, z10, z11, z12, z13, z14, z15, rfl, w11⟩
          have hlen : ∀ i, i < 2 → (D.c i).length ≤ 100000 := fun i' hi' => by have := w11.len i' hi'; omega
          have iv := w11.inv
          walk_at "god"
          refine use_loaded w11.w.dk (iv.lens hlen) (iv.by hlen) iv.lay (fun j3 G4 v4 q4 vs4 nj nq jq m4 ij4 hv4 hq4 hqs4 => ?_)
          rw [iv.load] at ij4 hv4 hqs4
          have ij5 : Ins G4 j3 (He.ga e.K "Journal") [("disk", .ref p), ("file", .int x.file), ("generation", .int x.gen), ("value", v4), ("events", .ref q4), ("last", .int x.gen)] := ij4
          walk_at "god"
          rename_i q5 G5 n5 m5 h5
          have w5 := w11.same (m4.trans m5)
          have told : Dp e.K G5 (.ref q5) (ctD x) := .tup (SqT.of h5) (.cons (hv4.mono (Gro.same m5)).dp (.cons (.lst (SqL.of (m5 _ _ hq4)) (hqs4.mono (Gro.same m5)).dp) .nil))
          refine r_neLay told w5.w.ct.dp (ctD_lay iv.vo iv.eo) (by decide) ?_
          clear w11 hv4 hq4 hqs4 h5 told ij4 nj nq jq n5
          walk_at "god"
          exact ⟨p, j, pc, pe, fp, D, x, bg, _, _, _, _, _, _, _, _, _, rfl, w5⟩
  · rintro σ' H7 ⟨p, j, pc, pe, fp, D, x, bg, y8, y9, y10, y11, y12, y13, y14, y15, y16, rfl, w7⟩
    walk_at "go"
    exact k _

def d_pack_count : He.DefD := ⟨("pack_count", none), "pack_count", "pack_count", defArgs s_pack_count, defBody s_pack_count, defScope s_pack_count, [], []⟩
def d_pack : He.DefD := ⟨("pack", none), "pack", "pack", defArgs s_pack, defBody s_pack, defScope s_pack, [], []⟩
def d_unpack_count : He.DefD := ⟨("unpack_count", none), "unpack_count", "unpack_count", defArgs s_unpack_count, defBody s_unpack_count, defScope s_unpack_count, [], []⟩
def d_unpack_string : He.DefD := ⟨("unpack_string", none), "unpack_string", "unpack_string", defArgs s_unpack_string, defBody s_unpack_string, defScope s_unpack_string, [], []⟩
def d_unpack_tuple : He.DefD := ⟨("unpack_tuple", none), "unpack_tuple", "unpack_tuple", defArgs s_unpack_tuple, defBody s_unpack_tuple, defScope s_unpack_tuple, [], []⟩
def d_unpack_at : He.DefD := ⟨("unpack_at", none), "unpack_at", "unpack_at", defArgs s_unpack_at, defBody s_unpack_at, defScope s_unpack_at, [], []⟩
def d_unpack : He.DefD := ⟨("unpack", none), "unpack", "unpack", defArgs s_unpack, defBody s_unpack, defScope s_unpack, [.int (0)], []⟩
def d_read_record : He.DefD := ⟨("read_record", none), "read_record", "read_record", defArgs s_read_record, defBody s_read_record, defScope s_read_record, [], []⟩
def d_is_begin : He.DefD := ⟨("is_begin", none), "is_begin", "is_begin", defArgs s_is_begin, defBody s_is_begin, defScope s_is_begin, [], []⟩
def d_read_file : He.DefD := ⟨("read_file", none), "read_file", "read_file", defArgs s_read_file, defBody s_read_file, defScope s_read_file, [], []⟩
def d_Journal___init__ : He.DefD := ⟨("Journal", some "__init__"), "__init__", "Journal.__init__", defArgs s_Journal___init__, defBody s_Journal___init__, defScope s_Journal___init__, [], []⟩
def d_Journal_checkpoint : He.DefD := ⟨("Journal", some "checkpoint"), "checkpoint", "Journal.checkpoint", defArgs s_Journal_checkpoint, defBody s_Journal_checkpoint, defScope s_Journal_checkpoint, [], []⟩
def d_Journal_add : He.DefD := ⟨("Journal", some "add"), "add", "Journal.add", defArgs s_Journal_add, defBody s_Journal_add, defScope s_Journal_add, [], []⟩
def d_applied : He.DefD := ⟨("applied", none), "applied", "applied", defArgs s_applied, defBody s_applied, defScope s_applied, [], []⟩
def d_Disk___init__ : He.DefD := ⟨("Disk", some "__init__"), "__init__", "Disk.__init__", defArgs s_Disk___init__, defBody s_Disk___init__, defScope s_Disk___init__, [], []⟩
def d_Disk_spend : He.DefD := ⟨("Disk", some "spend"), "spend", "Disk.spend", defArgs s_Disk_spend, defBody s_Disk_spend, defScope s_Disk_spend, [], []⟩
def d_Disk_append : He.DefD := ⟨("Disk", some "append"), "append", "Disk.append", defArgs s_Disk_append, defBody s_Disk_append, defScope s_Disk_append, [], []⟩
def d_Disk_clear : He.DefD := ⟨("Disk", some "clear"), "clear", "Disk.clear", defArgs s_Disk_clear, defBody s_Disk_clear, defScope s_Disk_clear, [], []⟩
def d_Disk_sync : He.DefD := ⟨("Disk", some "sync"), "sync", "Disk.sync", defArgs s_Disk_sync, defBody s_Disk_sync, defScope s_Disk_sync, [], []⟩
def d_Disk_content : He.DefD := ⟨("Disk", some "content"), "content", "Disk.content", defArgs s_Disk_content, defBody s_Disk_content, defScope s_Disk_content, [], []⟩
def d_Disk_limit : He.DefD := ⟨("Disk", some "limit"), "limit", "Disk.limit", defArgs s_Disk_limit, defBody s_Disk_limit, defScope s_Disk_limit, [], []⟩
def d_Disk_crash : He.DefD := ⟨("Disk", some "crash"), "crash", "Disk.crash", defArgs s_Disk_crash, defBody s_Disk_crash, defScope s_Disk_crash, [], []⟩
def d_l_is_integer : He.DefD := ⟨("_law_is_integer", none), "_law_is_integer", "_law_is_integer", defArgs s_l_is_integer, defBody s_l_is_integer, defScope s_l_is_integer, [], []⟩
def d_l_refill : He.DefD := ⟨("_law_refill", none), "_law_refill", "_law_refill", defArgs s_l_refill, defBody s_l_refill, defScope s_l_refill, [], []⟩
def d_l_draw : He.DefD := ⟨("_law_draw", none), "_law_draw", "_law_draw", defArgs s_l_draw, defBody s_l_draw, defScope s_l_draw, [], []⟩
def d_l_pick : He.DefD := ⟨("_law_pick", none), "_law_pick", "_law_pick", defArgs s_l_pick, defBody s_l_pick, defScope s_l_pick, [], []⟩
def d_l_line : He.DefD := ⟨("_law_line", none), "_law_line", "_law_line", defArgs s_l_line, defBody s_l_line, defScope s_l_line, [], []⟩
def d_l_value : He.DefD := ⟨("_law_value", none), "_law_value", "_law_value", defArgs s_l_value, defBody s_l_value, defScope s_l_value, [], []⟩
def d_l_event : He.DefD := ⟨("_law_event", none), "_law_event", "_law_event", defArgs s_l_event, defBody s_l_event, defScope s_l_event, [], []⟩
def d_l_tried : He.DefD := ⟨("_law_tried", none), "_law_tried", "_law_tried", defArgs s_l_tried, defBody s_l_tried, defScope s_l_tried, [], []⟩
def d_l_stored : He.DefD := ⟨("_law_stored", none), "_law_stored", "_law_stored", defArgs s_l_stored, defBody s_l_stored, defScope s_l_stored, [], []⟩
def d_l_loaded : He.DefD := ⟨("_law_loaded", none), "_law_loaded", "_law_loaded", defArgs s_l_loaded, defBody s_l_loaded, defScope s_l_loaded, [], []⟩
def d_l_need : He.DefD := ⟨("_law_need", none), "_law_need", "_law_need", defArgs s_l_need, defBody s_l_need, defScope s_l_need, [], []⟩
def d_l_after : He.DefD := ⟨("_law_after", none), "_law_after", "_law_after", defArgs s_l_after, defBody s_l_after, defScope s_l_after, [], []⟩
def d_l_kept : He.DefD := ⟨("_law_kept", none), "_law_kept", "_law_kept", defArgs s_l_kept, defBody s_l_kept, defScope s_l_kept, [], []⟩
def d_law : He.DefD := ⟨("law", none), "law", "law", defArgs s_law, defBody s_law, defScope s_law, [], []⟩
def fnL : List He.DefD := [d_pack_count, d_pack, d_unpack_count, d_unpack_string, d_unpack_tuple, d_unpack_at, d_unpack, d_read_record, d_is_begin, d_read_file, d_Journal___init__, d_Journal_checkpoint, d_Journal_add, d_applied, d_Disk___init__, d_Disk_spend, d_Disk_append, d_Disk_clear, d_Disk_sync, d_Disk_content, d_Disk_limit, d_Disk_crash, d_l_is_integer, d_l_refill, d_l_draw, d_l_pick, d_l_line, d_l_value, d_l_event, d_l_tried, d_l_stored, d_l_loaded, d_l_need, d_l_after, d_l_kept, d_law]
abbrev s_InvalidRecord___init__ : Stmt := inClass (top 4) 0
def xi_InvalidRecord : XiD := ⟨"InvalidRecord", "InvalidRecord.__init__", defArgs s_InvalidRecord___init__, defBody s_InvalidRecord___init__, defScope s_InvalidRecord___init__⟩
abbrev s_Incomplete___init__ : Stmt := inClass (top 3) 0
def xi_Incomplete : XiD := ⟨"Incomplete", "Incomplete.__init__", defArgs s_Incomplete___init__, defBody s_Incomplete___init__, defScope s_Incomplete___init__⟩
def faL0 : List He.Fa := [.glo "pack_count", .glo "pack", .glo "unpack_count", .glo "unpack_string", .glo "unpack_tuple", .glo "unpack_at", .glo "unpack", .glo "read_record", .glo "is_begin", .glo "read_file", .glo "applied", .glo "_law_is_integer", .glo "_law_refill", .glo "_law_draw", .glo "_law_pick", .glo "_law_line", .glo "_law_value", .glo "_law_event", .glo "_law_tried", .glo "_law_stored"]
def faL1 : List He.Fa := [.glo "_law_loaded", .glo "_law_need", .glo "_law_after", .glo "_law_kept", .glo "law", .free "len", .free "int", .free "str", .free "bool", .free "tuple", .free "list", .free "isinstance", .free "range", .free "ord", .free "sorted", .free "min", .free "max", .free "sum", .free "all", .free "any"]
def faL2 : List He.Fa := [.free "enumerate", .free "set", .free "zip", .free "dict", .free "reversed", .free "ValueError", .glo "Disk", .cls "Disk", .glo "Journal", .cls "Journal", .mkr "Journal", .noat "Journal" "disk", .noat "Journal" "file", .noat "Journal" "generation", .noat "Journal" "value", .noat "Journal" "events", .noat "Journal" "last", .meth "Journal" "checkpoint", .meth "Journal" "add", .mkr "Disk"]
def faL3 : List He.Fa := [.noat "Disk" "durable", .noat "Disk" "steps", .noat "Disk" "power", .meth "Disk" "spend", .meth "Disk" "append", .meth "Disk" "clear", .meth "Disk" "sync", .meth "Disk" "content", .meth "Disk" "limit", .meth "Disk" "crash", .glo "InvalidRecord", .glo "Incomplete", .exm "Incomplete" "Incomplete" true, .exm "InvalidRecord" "Incomplete" false, .exm "Incomplete" "InvalidRecord" false, .exm "InvalidRecord" "InvalidRecord" true, .glo "PowerCut", .exc "PowerCut", .exm "PowerCut" "PowerCut" true, .free "super"]
def faL4 : List He.Fa := [.str "SIGNS" (" !\"#$&'()*+,-./0123456789:;<=>?@ABCDEFGHIJKLMNOPQRSTUVWXYZ[\\]^_`abcdefghijklmnopqrstuvwxyz{|}~" : Str), .int "GAP" (37), .int "FIRST" (32), .int "LAST" (126), .int "NONE" (0), .int "FALSE" (1), .int "TRUE" (2), .int "NATURAL" (3), .int "NEGATIVE" (4), .int "STRING" (5), .int "TUPLE" (6), .int "DEEPEST" (20), .str "BEGIN" ("begin" : Str), .int "CLEAR" (-1)]
def faL : List He.Fa := faL0 ++ faL1 ++ faL2 ++ faL3 ++ faL4
def fbL : List Prd := []
abbrev Rr : PySem.W.OpenRow := PySem.W.OpenLaw.row PySem.Challenge.rw_dawkline_k08_whole_journals_survive_cras
def fxL : List XiD := [xi_InvalidRecord, xi_Incomplete]
abbrev fileL : Str := "/claim/cut.py"
def tfL : List He.Defn := []
abbrev exL : PySem.W.Frag → Bool := fun K => fbL.all fun p => p K
abbrev hkL : PySem.W.Hook := hookY 4 fileL faL fnL tfL fxL exL
def obL (s : PySem.W.SharedT) : AlY := obsY 4 fileL faL fnL tfL fxL exL (HandSHeadRun.getT s)
theorem obL_eq (s : PySem.W.SharedT) : obL s = hkL.obs s.abs := obsY_eq (HandSHeadRun.getT_eq s)
def looseL0 : List Str := ["pack_count", "pack", "unpack_count", "unpack_string", "unpack_tuple", "unpack_at", "unpack", "read_record", "is_begin", "read_file", "applied", "_law_is_integer", "_law_refill", "_law_draw", "_law_wide", "_law_junk", "_law_pick", "_law_word", "_law_local", "_law_domain"]
def looseL1 : List Str := ["_law_line", "_law_lines", "_law_value", "_law_count", "_law_record", "_law_alike", "_law_event", "_law_tried", "_law_stored", "_law_loaded", "_law_need", "_law_after", "_law_kept", "SIGNS", "GAP", "FIRST", "LAST", "NONE", "FALSE", "TRUE"]
def looseL2 : List Str := ["NATURAL", "NEGATIVE", "STRING", "TUPLE", "DEEPEST", "BEGIN", "CLEAR", "MailError", "PowerCut", "Incomplete", "InvalidRecord", "Journal", "Disk"]
def looseL : List Str := looseL0 ++ looseL1 ++ looseL2
theorem runL (w : World) : HandSHeadRun.RunEq Rr (PySem.W.view Rr.prog [58]) hkL obL 8000 looseL w := by
  intro os
  kernel_rfl
theorem factsL {P : Program} {w : World} {K : PySem.W.Frag} {h : Heap} {mg : Str → Option Value} {f : Addr} (X : K.In h) (G : h.Ns mainGlobals mg) (hfa : mg ("law" : Str) = some (.ref f)) (hP1 : ((P.main.file : Str) == fileL) = true) (hP2 : (P.main.scope.names.lookup ("super" : Str)).isSome = false) (c : SaysY fileL faL fnL tfL fxL exL w h K) :
    ∃ fd : FuncData, (∀ (s : Shared) (v : Value), BindsTo s fd ⟨[v], []⟩ [("_law_script", v)]) ∧ ∀ base : Heap, K.In base → base.Ns mainGlobals mg → (∀ p ∈ tfL.map (He.cT K), LamX.TabB base mg p.1 p.2) → FnOk P w K mg base CX0 67 f fd ["_law_script"] (spZ (sp_law K)) := by
  have xq_InvalidRecord := c.xi 0 (d := xi_InvalidRecord) rfl
  have xq_Incomplete := c.xi 1 (d := xi_Incomplete) rfl
  have hsup := He.free_ok X G (c.x.t.d.fact 79 (f := .free "super") rfl)
  have cb := SaysX_b c.x
  replace c : He.SaysD faL fnL K := c.x.t.d
  have B : Bl mg := ⟨He.free_ok X G (c.fact 25 (f := .free "len") rfl), He.free_ok X G (c.fact 26 (f := .free "int") rfl), He.free_ok X G (c.fact 27 (f := .free "str") rfl), He.free_ok X G (c.fact 28 (f := .free "bool") rfl), He.free_ok X G (c.fact 29 (f := .free "tuple") rfl), He.free_ok X G (c.fact 30 (f := .free "list") rfl), He.free_ok X G (c.fact 31 (f := .free "isinstance") rfl), He.free_ok X G (c.fact 32 (f := .free "range") rfl), He.free_ok X G (c.fact 33 (f := .free "ord") rfl), He.free_ok X G (c.fact 34 (f := .free "sorted") rfl), He.free_ok X G (c.fact 35 (f := .free "min") rfl), He.free_ok X G (c.fact 36 (f := .free "max") rfl), He.free_ok X G (c.fact 37 (f := .free "sum") rfl), He.free_ok X G (c.fact 38 (f := .free "all") rfl), He.free_ok X G (c.fact 39 (f := .free "any") rfl), He.free_ok X G (c.fact 40 (f := .free "enumerate") rfl), He.free_ok X G (c.fact 41 (f := .free "set") rfl), He.free_ok X G (c.fact 42 (f := .free "zip") rfl), He.free_ok X G (c.fact 43 (f := .free "dict") rfl), He.free_ok X G (c.fact 44 (f := .free "reversed") rfl), He.free_ok X G (c.fact 45 (f := .free "ValueError") rfl)⟩
  have g_SIGNS := He.str_ok X G (c.fact 80 (f := .str "SIGNS" (" !\"#$&'()*+,-./0123456789:;<=>?@ABCDEFGHIJKLMNOPQRSTUVWXYZ[\\]^_`abcdefghijklmnopqrstuvwxyz{|}~" : Str)) rfl)
  have g_GAP := He.int_ok X G (c.fact 81 (f := .int "GAP" (37)) rfl)
  have g_FIRST := He.int_ok X G (c.fact 82 (f := .int "FIRST" (32)) rfl)
  have g_LAST := He.int_ok X G (c.fact 83 (f := .int "LAST" (126)) rfl)
  have g_NONE := He.int_ok X G (c.fact 84 (f := .int "NONE" (0)) rfl)
  have g_FALSE := He.int_ok X G (c.fact 85 (f := .int "FALSE" (1)) rfl)
  have g_TRUE := He.int_ok X G (c.fact 86 (f := .int "TRUE" (2)) rfl)
  have g_NATURAL := He.int_ok X G (c.fact 87 (f := .int "NATURAL" (3)) rfl)
  have g_NEGATIVE := He.int_ok X G (c.fact 88 (f := .int "NEGATIVE" (4)) rfl)
  have g_STRING := He.int_ok X G (c.fact 89 (f := .int "STRING" (5)) rfl)
  have g_TUPLE := He.int_ok X G (c.fact 90 (f := .int "TUPLE" (6)) rfl)
  have g_DEEPEST := He.int_ok X G (c.fact 91 (f := .int "DEEPEST" (20)) rfl)
  have g_BEGIN := He.str_ok X G (c.fact 92 (f := .str "BEGIN" ("begin" : Str)) rfl)
  have g_CLEAR := He.int_ok X G (c.fact 93 (f := .int "CLEAR" (-1)) rfl)
  have gl_Disk := He.glo_ok X G (c.fact 46 (f := .glo "Disk") rfl)
  have kc_Disk := He.cls_ok (c.fact 47 (f := .cls "Disk") rfl)
  have gl_Journal := He.glo_ok X G (c.fact 48 (f := .glo "Journal") rfl)
  have kc_Journal := He.cls_ok (c.fact 49 (f := .cls "Journal") rfl)
  have kn_Journal_disk := He.noat_ok (c.fact 51 (f := .noat "Journal" "disk") rfl)
  have kn_Journal_file := He.noat_ok (c.fact 52 (f := .noat "Journal" "file") rfl)
  have kn_Journal_generation := He.noat_ok (c.fact 53 (f := .noat "Journal" "generation") rfl)
  have kn_Journal_value := He.noat_ok (c.fact 54 (f := .noat "Journal" "value") rfl)
  have kn_Journal_events := He.noat_ok (c.fact 55 (f := .noat "Journal" "events") rfl)
  have kn_Journal_last := He.noat_ok (c.fact 56 (f := .noat "Journal" "last") rfl)
  have kn_Disk_durable := He.noat_ok (c.fact 60 (f := .noat "Disk" "durable") rfl)
  have kn_Disk_steps := He.noat_ok (c.fact 61 (f := .noat "Disk" "steps") rfl)
  have kn_Disk_power := He.noat_ok (c.fact 62 (f := .noat "Disk" "power") rfl)
  have gm_InvalidRecord := He.glo_ok X G (c.fact 70 (f := .glo "InvalidRecord") rfl)
  have gm_Incomplete := He.glo_ok X G (c.fact 71 (f := .glo "Incomplete") rfl)
  have em_Incomplete_Incomplete := He.exm_ok (c.fact 72 (f := .exm "Incomplete" "Incomplete" true) rfl)
  have em_InvalidRecord_Incomplete := He.exm_ok (c.fact 73 (f := .exm "InvalidRecord" "Incomplete" false) rfl)
  have em_Incomplete_InvalidRecord := He.exm_ok (c.fact 74 (f := .exm "Incomplete" "InvalidRecord" false) rfl)
  have em_InvalidRecord_InvalidRecord := He.exm_ok (c.fact 75 (f := .exm "InvalidRecord" "InvalidRecord" true) rfl)
  have gm_PowerCut := He.glo_ok X G (c.fact 76 (f := .glo "PowerCut") rfl)
  have xo_PowerCut : Xco K (He.ga K "PowerCut") := He.exc_ok (c.fact 77 (f := .exc "PowerCut") rfl)
  have em_PowerCut_PowerCut := He.exm_ok (c.fact 78 (f := .exm "PowerCut" "PowerCut" true) rfl)
  obtain ⟨fd_pack_count, F_pack_count⟩ := c.def_ 0 (d := d_pack_count) rfl
  have m_pack_count : mg "pack_count" = some (.ref _) := He.glo_ok X G (c.fact 0 (f := .glo "pack_count") rfl)
  obtain ⟨fd_pack, F_pack⟩ := c.def_ 1 (d := d_pack) rfl
  have m_pack : mg "pack" = some (.ref _) := He.glo_ok X G (c.fact 1 (f := .glo "pack") rfl)
  obtain ⟨fd_unpack_count, F_unpack_count⟩ := c.def_ 2 (d := d_unpack_count) rfl
  have m_unpack_count : mg "unpack_count" = some (.ref _) := He.glo_ok X G (c.fact 2 (f := .glo "unpack_count") rfl)
  obtain ⟨fd_unpack_string, F_unpack_string⟩ := c.def_ 3 (d := d_unpack_string) rfl
  have m_unpack_string : mg "unpack_string" = some (.ref _) := He.glo_ok X G (c.fact 3 (f := .glo "unpack_string") rfl)
  obtain ⟨fd_unpack_tuple, F_unpack_tuple⟩ := c.def_ 4 (d := d_unpack_tuple) rfl
  have m_unpack_tuple : mg "unpack_tuple" = some (.ref _) := He.glo_ok X G (c.fact 4 (f := .glo "unpack_tuple") rfl)
  obtain ⟨fd_unpack_at, F_unpack_at⟩ := c.def_ 5 (d := d_unpack_at) rfl
  have m_unpack_at : mg "unpack_at" = some (.ref _) := He.glo_ok X G (c.fact 5 (f := .glo "unpack_at") rfl)
  obtain ⟨fd_unpack, F_unpack⟩ := c.def_ 6 (d := d_unpack) rfl
  have m_unpack : mg "unpack" = some (.ref _) := He.glo_ok X G (c.fact 6 (f := .glo "unpack") rfl)
  obtain ⟨fd_read_record, F_read_record⟩ := c.def_ 7 (d := d_read_record) rfl
  have m_read_record : mg "read_record" = some (.ref _) := He.glo_ok X G (c.fact 7 (f := .glo "read_record") rfl)
  obtain ⟨fd_is_begin, F_is_begin⟩ := c.def_ 8 (d := d_is_begin) rfl
  have m_is_begin : mg "is_begin" = some (.ref _) := He.glo_ok X G (c.fact 8 (f := .glo "is_begin") rfl)
  obtain ⟨fd_read_file, F_read_file⟩ := c.def_ 9 (d := d_read_file) rfl
  have m_read_file : mg "read_file" = some (.ref _) := He.glo_ok X G (c.fact 9 (f := .glo "read_file") rfl)
  obtain ⟨fd_Journal___init__, F_Journal___init__⟩ := c.def_ 10 (d := d_Journal___init__) rfl
  obtain ⟨fd_Journal_checkpoint, F_Journal_checkpoint⟩ := c.def_ 11 (d := d_Journal_checkpoint) rfl
  obtain ⟨fd_Journal_add, F_Journal_add⟩ := c.def_ 12 (d := d_Journal_add) rfl
  obtain ⟨fd_applied, F_applied⟩ := c.def_ 13 (d := d_applied) rfl
  have m_applied : mg "applied" = some (.ref _) := He.glo_ok X G (c.fact 10 (f := .glo "applied") rfl)
  obtain ⟨fd_Disk___init__, F_Disk___init__⟩ := c.def_ 14 (d := d_Disk___init__) rfl
  obtain ⟨fd_Disk_spend, F_Disk_spend⟩ := c.def_ 15 (d := d_Disk_spend) rfl
  obtain ⟨fd_Disk_append, F_Disk_append⟩ := c.def_ 16 (d := d_Disk_append) rfl
  obtain ⟨fd_Disk_clear, F_Disk_clear⟩ := c.def_ 17 (d := d_Disk_clear) rfl
  obtain ⟨fd_Disk_sync, F_Disk_sync⟩ := c.def_ 18 (d := d_Disk_sync) rfl
  obtain ⟨fd_Disk_content, F_Disk_content⟩ := c.def_ 19 (d := d_Disk_content) rfl
  obtain ⟨fd_Disk_limit, F_Disk_limit⟩ := c.def_ 20 (d := d_Disk_limit) rfl
  obtain ⟨fd_Disk_crash, F_Disk_crash⟩ := c.def_ 21 (d := d_Disk_crash) rfl
  obtain ⟨fd_l_is_integer, F_l_is_integer⟩ := c.def_ 22 (d := d_l_is_integer) rfl
  have m_l_is_integer : mg "_law_is_integer" = some (.ref _) := He.glo_ok X G (c.fact 11 (f := .glo "_law_is_integer") rfl)
  obtain ⟨fd_l_refill, F_l_refill⟩ := c.def_ 23 (d := d_l_refill) rfl
  have m_l_refill : mg "_law_refill" = some (.ref _) := He.glo_ok X G (c.fact 12 (f := .glo "_law_refill") rfl)
  obtain ⟨fd_l_draw, F_l_draw⟩ := c.def_ 24 (d := d_l_draw) rfl
  have m_l_draw : mg "_law_draw" = some (.ref _) := He.glo_ok X G (c.fact 13 (f := .glo "_law_draw") rfl)
  obtain ⟨fd_l_pick, F_l_pick⟩ := c.def_ 25 (d := d_l_pick) rfl
  have m_l_pick : mg "_law_pick" = some (.ref _) := He.glo_ok X G (c.fact 14 (f := .glo "_law_pick") rfl)
  obtain ⟨fd_l_line, F_l_line⟩ := c.def_ 26 (d := d_l_line) rfl
  have m_l_line : mg "_law_line" = some (.ref _) := He.glo_ok X G (c.fact 15 (f := .glo "_law_line") rfl)
  obtain ⟨fd_l_value, F_l_value⟩ := c.def_ 27 (d := d_l_value) rfl
  have m_l_value : mg "_law_value" = some (.ref _) := He.glo_ok X G (c.fact 16 (f := .glo "_law_value") rfl)
  obtain ⟨fd_l_event, F_l_event⟩ := c.def_ 28 (d := d_l_event) rfl
  have m_l_event : mg "_law_event" = some (.ref _) := He.glo_ok X G (c.fact 17 (f := .glo "_law_event") rfl)
  obtain ⟨fd_l_tried, F_l_tried⟩ := c.def_ 29 (d := d_l_tried) rfl
  have m_l_tried : mg "_law_tried" = some (.ref _) := He.glo_ok X G (c.fact 18 (f := .glo "_law_tried") rfl)
  obtain ⟨fd_l_stored, F_l_stored⟩ := c.def_ 30 (d := d_l_stored) rfl
  have m_l_stored : mg "_law_stored" = some (.ref _) := He.glo_ok X G (c.fact 19 (f := .glo "_law_stored") rfl)
  obtain ⟨fd_l_loaded, F_l_loaded⟩ := c.def_ 31 (d := d_l_loaded) rfl
  have m_l_loaded : mg "_law_loaded" = some (.ref _) := He.glo_ok X G (c.fact 20 (f := .glo "_law_loaded") rfl)
  obtain ⟨fd_l_need, F_l_need⟩ := c.def_ 32 (d := d_l_need) rfl
  have m_l_need : mg "_law_need" = some (.ref _) := He.glo_ok X G (c.fact 21 (f := .glo "_law_need") rfl)
  obtain ⟨fd_l_after, F_l_after⟩ := c.def_ 33 (d := d_l_after) rfl
  have m_l_after : mg "_law_after" = some (.ref _) := He.glo_ok X G (c.fact 22 (f := .glo "_law_after") rfl)
  obtain ⟨fd_l_kept, F_l_kept⟩ := c.def_ 34 (d := d_l_kept) rfl
  have m_l_kept : mg "_law_kept" = some (.ref _) := He.glo_ok X G (c.fact 23 (f := .glo "_law_kept") rfl)
  obtain ⟨fd_law, F_law⟩ := c.def_ 35 (d := d_law) rfl
  have m_law : mg "law" = some (.ref _) := He.glo_ok X G (c.fact 24 (f := .glo "law") rfl)
  have e := hfa.symm.trans m_law
  cases e
  have b := FunD.bindsA (ps := ["_law_script"]) F_law fun _ _ _ _ _ _ us hl => match us, hl with | [_], _ => rfl
  refine ⟨fd_law, fun s v => b s [v] rfl, fun base KB GB TBL => ?_⟩
  let e : Wd := ⟨P, w, K, mg, base⟩
  have xp_InvalidRecord : XpC e "InvalidRecord" (He.ga e.K "InvalidRecord") := xpc_of (e := e) (d := xi_InvalidRecord) xq_InvalidRecord.1 xq_InvalidRecord.2 hP1 hP2 hsup gm_InvalidRecord rfl rfl (fun _ _ _ _ => rfl) rfl rfl (fun _ _ _ _ _ _ _ us hl => match us, hl with | [_, _], _ => rfl)
  have xp_Incomplete : XpC e "Incomplete" (He.ga e.K "Incomplete") := xpc_of (e := e) (d := xi_Incomplete) xq_Incomplete.1 xq_Incomplete.2 hP1 hP2 hsup gm_Incomplete rfl rfl (fun _ _ _ _ => rfl) rfl rfl (fun _ _ _ _ _ _ _ us hl => match us, hl with | [_, _], _ => rfl)
  have c_pack_count : Can e 1 "pack_count" ["count"] (sp_pack_count e.K) := ok_pack_count (e := e) ⟨_, _, F_pack_count, m_pack_count⟩ B
  have c_is_begin : Can e 1 "is_begin" ["value"] (sp_is_begin e.K) := ok_is_begin (e := e) ⟨_, _, F_is_begin, m_is_begin⟩ B g_BEGIN
  have c_applied : Can e 1 "applied" ["content", "steps"] (sp_applied e.K) := ok_applied (e := e) ⟨_, _, F_applied, m_applied⟩ B g_CLEAR
  have c_Disk___init__ : CanN e 1 (He.ga e.K "Disk") "Disk" ["self"] (sp_Disk___init__ e.K) := ok_Disk___init__ (e := e) ⟨_, _, F_Disk___init__, He.mkr_ok (c.fact 59 (f := .mkr "Disk") rfl), gl_Disk⟩ B kc_Disk kn_Disk_durable kn_Disk_steps kn_Disk_power
  have c_Disk_spend : CanM e 1 (He.ga e.K "Disk") "spend" ["self"] (sp_Disk_spend e.K) := ok_Disk_spend (e := e) ⟨_, _, F_Disk_spend, He.meth_ok (c.fact 63 (f := .meth "Disk" "spend") rfl), kc_Disk⟩ B kc_Disk kn_Disk_power gm_PowerCut xo_PowerCut
  have c_Disk_limit : CanM e 1 (He.ga e.K "Disk") "limit" ["self", "steps"] (sp_Disk_limit e.K) := ok_Disk_limit (e := e) ⟨_, _, F_Disk_limit, He.meth_ok (c.fact 68 (f := .meth "Disk" "limit") rfl), kc_Disk⟩ B kc_Disk kn_Disk_power
  have c_l_is_integer : Can e 1 "_law_is_integer" ["_law_actual"] (sp_l_is_integer e.K) := ok_l_is_integer (e := e) ⟨_, _, F_l_is_integer, m_l_is_integer⟩ B
  have c_l_refill : Can e 1 "_law_refill" ["_law_script", "_law_k"] (sp_l_refill e.K) := ok_l_refill (e := e) ⟨_, _, F_l_refill, m_l_refill⟩ B
  have c_l_after : Can e 1 "_law_after" ["_law_content", "_law_act"] (sp_l_after e.K) := ok_l_after (e := e) ⟨_, _, F_l_after, m_l_after⟩ B
  have c_Disk_append : CanM e 2 (He.ga e.K "Disk") "append" ["self", "file", "data"] (sp_Disk_append e.K) := ok_Disk_append (e := e) ⟨_, _, F_Disk_append, He.meth_ok (c.fact 64 (f := .meth "Disk" "append") rfl), kc_Disk⟩ B kc_Disk kn_Disk_steps c_Disk_spend
  have c_Disk_clear : CanM e 2 (He.ga e.K "Disk") "clear" ["self", "file"] (sp_Disk_clear e.K) := ok_Disk_clear (e := e) ⟨_, _, F_Disk_clear, He.meth_ok (c.fact 65 (f := .meth "Disk" "clear") rfl), kc_Disk⟩ B g_CLEAR kc_Disk kn_Disk_steps c_Disk_spend
  have c_Disk_content : CanM e 2 (He.ga e.K "Disk") "content" ["self", "file"] (sp_Disk_content e.K) := ok_Disk_content (e := e) ⟨_, _, F_Disk_content, He.meth_ok (c.fact 67 (f := .meth "Disk" "content") rfl), kc_Disk⟩ B kc_Disk kn_Disk_durable kn_Disk_steps c_applied
  have c_Disk_crash : CanM e 2 (He.ga e.K "Disk") "crash" ["self", "a", "b"] (sp_Disk_crash e.K) := ok_Disk_crash (e := e) ⟨_, _, F_Disk_crash, He.meth_ok (c.fact 69 (f := .meth "Disk" "crash") rfl), kc_Disk⟩ B kc_Disk kn_Disk_durable kn_Disk_steps kn_Disk_power c_applied
  have c_l_draw : Can e 2 "_law_draw" ["_law_state", "_law_script", "_law_size"] (sp_l_draw e.K) := ok_l_draw (e := e) ⟨_, _, F_l_draw, m_l_draw⟩ B c_l_refill
  have c_unpack_count : Can e 3 "unpack_count" ["data", "at"] (sp_unpack_count e.K) := ok_unpack_count (e := e) ⟨_, _, F_unpack_count, m_unpack_count⟩ B gm_InvalidRecord gm_Incomplete xp_InvalidRecord xp_Incomplete
  have c_Disk_sync : CanM e 3 (He.ga e.K "Disk") "sync" ["self", "file"] (sp_Disk_sync e.K) := ok_Disk_sync (e := e) ⟨_, _, F_Disk_sync, He.meth_ok (c.fact 66 (f := .meth "Disk" "sync") rfl), kc_Disk⟩ B kc_Disk kn_Disk_durable kn_Disk_steps c_Disk_spend c_Disk_content
  have c_l_pick : Can e 3 "_law_pick" ["_law_state", "_law_script", "_law_signs"] (sp_l_pick e.K) := ok_l_pick (e := e) ⟨_, _, F_l_pick, m_l_pick⟩ B c_l_draw
  have c_l_kept : Can e 3 "_law_kept" ["_law_state", "_law_script"] (sp_l_kept e.K) := ok_l_kept (e := e) ⟨_, _, F_l_kept, m_l_kept⟩ B c_l_draw
  have c_unpack_string : Can e 4 "unpack_string" ["data", "at"] (sp_unpack_string e.K) := ok_unpack_string (e := e) ⟨_, _, F_unpack_string, m_unpack_string⟩ B g_FIRST g_LAST g_GAP g_SIGNS gm_InvalidRecord gm_Incomplete xp_InvalidRecord xp_Incomplete c_unpack_count
  have c_l_line : Can e 4 "_law_line" ["_law_state", "_law_script"] (sp_l_line e.K) := ok_l_line (e := e) ⟨_, _, F_l_line, m_l_line⟩ B c_l_draw c_l_pick
  have c_l_event : Can e 5 "_law_event" ["_law_state", "_law_script"] (sp_l_event e.K) := ok_l_event (e := e) ⟨_, _, F_l_event, m_l_event⟩ B c_l_draw c_l_line
  have c_pack : Can e 40 "pack" ["value"] (sp_pack 30 e.K) := ok_pack (e := e) ⟨_, _, F_pack, m_pack⟩ B g_NONE g_TRUE g_FALSE g_NATURAL g_NEGATIVE g_STRING g_TUPLE c_pack_count
  have c_l_value : Can e 40 "_law_value" ["_law_state", "_law_script", "_law_depth"] (sp_l_value 5 e.K) := ok_l_value (e := e) ⟨_, _, F_l_value, m_l_value⟩ B c_l_draw c_l_line
  have c_Journal_checkpoint : CanM e 41 (He.ga e.K "Journal") "checkpoint" ["self", "value"] (sp_Journal_checkpoint e.K) := ok_Journal_checkpoint (e := e) ⟨_, _, F_Journal_checkpoint, He.meth_ok (c.fact 57 (f := .meth "Journal" "checkpoint") rfl), kc_Journal⟩ B g_BEGIN kc_Journal kn_Journal_file kn_Journal_disk kn_Journal_last c_Disk_clear c_Disk_append c_pack c_Disk_sync
  have c_Journal_add : CanM e 41 (He.ga e.K "Journal") "add" ["self", "event"] (sp_Journal_add e.K) := ok_Journal_add (e := e) ⟨_, _, F_Journal_add, He.meth_ok (c.fact 58 (f := .meth "Journal" "add") rfl), kc_Journal⟩ B kc_Journal kn_Journal_disk kn_Journal_file c_Disk_append c_pack c_Disk_sync
  have c_l_need : Can e 41 "_law_need" ["_law_generation", "_law_act"] (sp_l_need e.K) := ok_l_need (e := e) ⟨_, _, F_l_need, m_l_need⟩ B c_pack
  have c_l_tried : Can e 42 "_law_tried" ["_law_journal", "_law_act"] (sp_l_tried e.K) := ok_l_tried (e := e) ⟨_, _, F_l_tried, m_l_tried⟩ B gm_PowerCut em_PowerCut_PowerCut c_Journal_checkpoint c_Journal_add
  have c_unpack_at : Can e 60 "unpack_at" ["data", "at", "depth"] (sp_unpack_at 21 e.K) := ok_unpack_at (e := e) ⟨_, _, F_unpack_at, m_unpack_at⟩ ⟨_, _, F_unpack_tuple, m_unpack_tuple⟩ B g_TUPLE g_NATURAL g_NEGATIVE g_STRING gm_Incomplete gm_InvalidRecord xp_Incomplete xp_InvalidRecord c_unpack_count c_unpack_string
  have c_unpack : CanD e 61 "unpack" ["data", "at"] [.int (0)] (sp_unpack e.K) := ok_unpack (e := e) ⟨_, _, F_unpack, m_unpack⟩ B g_DEEPEST c_unpack_at
  have c_read_record : Can e 62 "read_record" ["content", "at"] (sp_read_record e.K) := ok_read_record (e := e) ⟨_, _, F_read_record, m_read_record⟩ B gm_Incomplete gm_InvalidRecord em_Incomplete_Incomplete em_InvalidRecord_Incomplete em_Incomplete_InvalidRecord em_InvalidRecord_InvalidRecord c_unpack
  have c_read_file : Can e 63 "read_file" ["content"] (sp_read_file e.K) := ok_read_file (e := e) ⟨_, _, F_read_file, m_read_file⟩ B c_read_record c_is_begin
  have c_Journal___init__ : CanN e 64 (He.ga e.K "Journal") "Journal" ["self", "disk"] (sp_Journal___init__ e.K) := ok_Journal___init__ (e := e) ⟨_, _, F_Journal___init__, He.mkr_ok (c.fact 50 (f := .mkr "Journal") rfl), gl_Journal⟩ B kc_Journal kn_Journal_disk kn_Journal_file kn_Journal_generation kn_Journal_value kn_Journal_events kn_Journal_last c_read_file c_Disk_content
  have c_l_stored : Can e 64 "_law_stored" ["_law_disk"] (sp_l_stored e.K) := ok_l_stored (e := e) ⟨_, _, F_l_stored, m_l_stored⟩ B c_read_file c_Disk_content
  have c_l_loaded : Can e 66 "_law_loaded" ["_law_disk"] (sp_l_loaded e.K) := ok_l_loaded (e := e) ⟨_, _, F_l_loaded, m_l_loaded⟩ B kc_Journal kn_Journal_events kn_Journal_generation kn_Journal_value c_Journal___init__ c_l_is_integer c_l_stored
  exact fn_frz (fnok_0 (ok_law (e := e) F_law B kc_Journal kn_Journal_generation kn_Journal_value kn_Journal_events c_Disk___init__ c_l_loaded c_l_draw c_l_event c_l_value c_l_need c_l_after c_l_tried c_Disk_limit c_Disk_crash c_l_kept) (fun vs H Q E h => by
    obtain ⟨v0, rfl, h⟩ := sp1_ex h
    exact h))
end Dk
open PySem PySem.W PySem.Calls PyProof.Rows
set_option maxRecDepth 100000 in
set_option maxHeartbeats 0 in
theorem PySem.Challenge.cw_dawkline_k08_whole_journals_survive_cras_holds : PySem.Challenge.rw_dawkline_k08_whole_journals_survive_cras.Holds := by
  w_on; o_law
  refine HandSHeadRun.head_any (r := OpenLaw.row PySem.Challenge.rw_dawkline_k08_whole_journals_survive_cras) (q := view (OpenLaw.row PySem.Challenge.rw_dawkline_k08_whole_journals_survive_cras).prog [58]) (H := Dk.hkL) (ob := Dk.obL) (M := 8000) (loose := Dk.looseL) (d := HandSHeadRun.topDef (OpenLaw.row PySem.Challenge.rw_dawkline_k08_whole_journals_survive_cras).prog 58) (kwd := []) Dk.obL_eq
    (by kernel_rfl) (fun s => by kernel_rfl) Dk.runL (by kernel_rfl) (by kernel_rfl) (by kernel_rfl) (by rfl) (by first | assumption | decide +kernel) (by decide +kernel) ⟨rfl, rfl, rfl, rfl, rfl, by decide +kernel⟩ ?hw ?hc
  case hw => w_witness2
  case hc =>
    refine LamX.walk_ofTsE (l := PySem.Challenge.rw_dawkline_k08_whole_journals_survive_cras) (n := 63) (k := 67) (x := "_law_script") (CX := fun _ => L2.CX0) rfl (by decide) (by kernel_rfl) ⟨rfl, by decide, by decide⟩ ?F (fun _ _ _ _ _ z => z)
    case F =>
      intro w mg fa h Y G hmg0
      obtain ⟨K, KX, c⟩ := Y
      have hmg : mg ("law" : PySem.Str) = some (.ref fa) := by
        have e : (HandSHeadRun.topDef (OpenLaw.row PySem.Challenge.rw_dawkline_k08_whole_journals_survive_cras).prog 58).name = ("law" : PySem.Str) := by kernel_rfl
        rw [← e]
        exact hmg0
      obtain ⟨fd, hb, hF⟩ := Dk.factsL (P := (PySem.Challenge.rw_dawkline_k08_whole_journals_survive_cras).prog) (w := w) KX G hmg (by decide +kernel) (by decide +kernel) c
      have c := c.x
      refine ⟨K, KX, fd, Dk.tfL.map (He.cT K), Dk.spZ (Dk.sp_law K), fun p hp => ?_, fun p hp => ?_, fun p hp => ?_, hb, fun H a ns hl _ hT hS => ?_, hF⟩
      · obtain ⟨d, hd, rfl⟩ := List.mem_map.mp hp
        exact c.empty d hd
      · obtain ⟨d, hd, rfl⟩ := List.mem_map.mp hp
        exact c.out d hd
      · obtain ⟨d, hd, rfl⟩ := List.mem_map.mp hp
        exact PySem.W.codeHd_of_K KX (c.hd d hd)
      · refine Dk.spZ_of hl hS fun H1 sc kt => ⟨a, rfl, sc, fun _ => rfl⟩
