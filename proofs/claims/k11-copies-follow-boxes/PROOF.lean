import PyProof.Rows.All
import Wide.All
import OpenK.AllK
import Wide.FinOn
import KE.KStateDown
import HandS.ForMost
import HandS.ForSpec
import HandS.IsInst
import HandS.StrMore
import HandS.TupAny
import HandS.Deep
import HandS.TupLe
import HandS.Defaults
import HandS.More
import HandS.Conv
import HandS.Walk
import HandS.Flow
import HandS.Iter
import HandS.Evl
import HandS.Text
import HandS.HeadHook1
import HandS.HeadHook2
import HandS.RaiseMore
import HandS.ExcOwn
import HandS.ExcIs
import HandS.TryOnly
import HandS.WordsExc
import HandS.SetTxt0
import HandS.SetFor
import PyProof.Rows.SortStr
import HandS.SortInts
import HandS.EndTab
import HandS.HeadWalk
import HandS.HeadHook4
import KE.SortKeyHeap
import KE.KSortKey
import Lean
import HandS.Head0
import HandS.Head1
import HandS.Head2
import HandS.HeadEnd
import PySem.Challenge.RW_dawkline_k11_copies_follow_boxes
set_option Elab.async false
set_option linter.all false
set_option maxRecDepth 100000
set_option maxHeartbeats 4000000

/-! Own layer over HandS: data that never change, steps of the heap, rules that take any kind of value, a walk of readings. -/
namespace Dk
open PySem PySem.Spec PyProof.Rows L2

/-! ### data that never change -/
mutual
inductive Dq (H : Hp) : V → PyData → Prop
  | non : Dq H .non .none
  | bl (b : Bool) : Dq H (.bl b) (.bool b)
  | int (i : Int) : Dq H (.int i) (.int i)
  | str (x : Str) : Dq H (.str x) (.str x)
  | tup {a : Addr} {xs : List V} {ds : List PyData} : H a = some (.tup xs) → Dqs H xs ds → Dq H (.ref a) (.tuple ds)
inductive Dqs (H : Hp) : List V → List PyData → Prop
  | nil : Dqs H [] []
  | cons {v : V} {vs : List V} {d : PyData} {ds : List PyData} : Dq H v d → Dqs H vs ds → Dqs H (v :: vs) (d :: ds)
end

/-- tuples and what is locked stand as they were -/
structure Gro (H H' : Hp) : Prop where
  tup : ∀ a xs, H a = some (.tup xs) → H' a = some (.tup xs)
  frz : ∀ a o u, H a = some (.frz o u) → H' a = some (.frz o u)
theorem Gro.refl (H : Hp) : Gro H H := ⟨fun _ _ h => h, fun _ _ _ h => h⟩
theorem Gro.trans {H H1 H2 : Hp} (a : Gro H H1) (b : Gro H1 H2) : Gro H H2 := ⟨fun p xs h => b.tup p xs (a.tup p xs h), fun p o u h => b.frz p o u (a.frz p o u h)⟩
theorem Gro.same {H H' : Hp} (s : Same H H') : Gro H H' := ⟨fun p _ h => s p _ h, fun p _ _ h => s p _ h⟩

mutual
theorem Dq.mono {H H' : Hp} (g : Gro H H') : ∀ {d : PyData} {v : V}, Dq H v d → Dq H' v d
  | .none, _, h => by cases h; exact .non
  | .bool b, _, h => by cases h; exact .bl b
  | .int i, _, h => by cases h; exact .int i
  | .str x, _, h => by cases h; exact .str x
  | .tuple ds, _, h => by
    cases h with
    | tup ha hs => exact .tup (g.tup _ _ ha) (Dqs.mono g hs)
  | .list _, _, h => by cases h
  | .dict _, _, h => by cases h
theorem Dqs.mono {H H' : Hp} (g : Gro H H') : ∀ {ds : List PyData} {vs : List V}, Dqs H vs ds → Dqs H' vs ds
  | [], _, h => by cases h; exact .nil
  | d :: ds, _, h => by
    cases h with
    | cons h1 h2 => exact .cons (Dq.mono g h1) (Dqs.mono g h2)
end
mutual
theorem Dq.dp {K : PySem.W.Frag} {H : Hp} : ∀ {d : PyData} {v : V}, Dq H v d → Dp K H v d
  | .none, _, h => by cases h; exact .non
  | .bool b, _, h => by cases h; exact .bl b
  | .int i, _, h => by cases h; exact .int i
  | .str x, _, h => by cases h; exact .str x
  | .tuple ds, _, h => by
    cases h with
    | tup ha hs => exact .tup (SqT.of ha) (Dqs.dp hs)
  | .list _, _, h => by cases h
  | .dict _, _, h => by cases h
theorem Dqs.dp {K : PySem.W.Frag} {H : Hp} : ∀ {ds : List PyData} {vs : List V}, Dqs H vs ds → DpAll K H vs ds
  | [], _, h => by cases h; exact .nil
  | d :: ds, _, h => by
    cases h with
    | cons h1 h2 => exact .cons (Dq.dp h1) (Dqs.dp h2)
end
theorem Dqs.length {H : Hp} : ∀ {ds : List PyData} {vs : List V}, Dqs H vs ds → vs.length = ds.length
  | [], _, h => by cases h; rfl
  | d :: ds, _, h => by
    cases h with
    | cons h1 h2 => rw [List.length_cons, List.length_cons, Dqs.length h2]
theorem Dqs.get {H : Hp} : ∀ {ds : List PyData} {vs : List V} {i : Nat} {v : V}, Dqs H vs ds → vs[i]? = some v → ∃ d, ds[i]? = some d ∧ Dq H v d
  | [], _, i, v, h, e => by
    cases h
    simp at e
  | d :: ds, _, 0, v, h, e => by
    cases h with
    | cons h1 h2 =>
      simp only [List.getElem?_cons_zero, Option.some.injEq] at e
      subst e
      exact ⟨d, rfl, h1⟩
  | d :: ds, _, i + 1, v, h, e => by
    cases h with
    | cons h1 h2 =>
      simp only [List.getElem?_cons_succ] at e
      obtain ⟨d', e1, e2⟩ := Dqs.get h2 e
      exact ⟨d', by simpa using e1, e2⟩
theorem Dqs.snoc {H : Hp} {d : PyData} {v : V} (hv : Dq H v d) : ∀ {ds : List PyData} {vs : List V}, Dqs H vs ds → Dqs H (vs ++ [v]) (ds ++ [d])
  | [], _, h => by
    cases h
    exact .cons hv .nil
  | d :: ds, _, h => by
    cases h with
    | cons h1 h2 => exact .cons h1 (Dqs.snoc hv h2)
/-- texts -/
theorem Dqs.strs {H : Hp} : ∀ (ss : List Str), Dqs H (ss.map V.str) (ss.map PyData.str)
  | [] => .nil
  | s :: ss => .cons (.str s) (Dqs.strs ss)
theorem Dqs.strs_of {H : Hp} : ∀ {ss : List Str} {vs : List V}, Dqs H vs (ss.map PyData.str) → vs = ss.map V.str
  | [], _, h => by cases h; rfl
  | s :: ss, _, h => by
    cases h with
    | cons h1 h2 =>
      cases h1
      rw [Dqs.strs_of h2] <;> rfl

/-! ### steps of the heap -/
/-- all but what stands at the places of F is as it was -/
def Fr (F : Addr → Prop) (H H' : Hp) : Prop := ∀ b o, H b = some o → ¬ F b → H' b = some o
theorem Fr.refl (F : Addr → Prop) (H : Hp) : Fr F H H := fun _ _ h _ => h
theorem Fr.trans {F : Addr → Prop} {H H1 H2 : Hp} (a : Fr F H H1) (b : Fr F H1 H2) : Fr F H H2 := fun p o h n => b p o (a p o h n) n
theorem Fr.same {F : Addr → Prop} {H H' : Hp} (s : Same H H') : Fr F H H' := fun b o h _ => s b o h
/-- the law's own state: a list of two ints -/
def Drw (H : Hp) (a : Addr) : Prop := ∃ x y : Int, H a = some (.lst [.int x, .int y])
/-- a step that changes the list at a alone, which stays such a list -/
structure Stp (a : Addr) (H H' : Hp) : Prop where
  fr : ∀ b o, H b = some o → b ≠ a → H' b = some o
  gro : Gro H H'
  drw : Drw H' a
theorem Stp.refl {a : Addr} {H : Hp} (h : Drw H a) : Stp a H H := ⟨fun _ _ h _ => h, Gro.refl H, h⟩
theorem Stp.trans {a : Addr} {H H1 H2 : Hp} (x : Stp a H H1) (y : Stp a H1 H2) : Stp a H H2 := ⟨fun b o h n => y.fr b o (x.fr b o h n) n, x.gro.trans y.gro, y.drw⟩
theorem Stp.same {a : Addr} {H H' : Hp} (h : Drw H a) (s : Same H H') : Stp a H H' := ⟨fun b o e _ => s b o e, Gro.same s, let ⟨x, y, e⟩ := h; ⟨x, y, s _ _ e⟩⟩
theorem Stp.snd {a : Addr} {H H1 H2 : Hp} (x : Stp a H H1) (s : Same H1 H2) : Stp a H H2 := x.trans (Stp.same x.drw s)
theorem Stp.free {a : Addr} {H H' : Hp} (x : Stp a H H') {p : Addr} (hp : H' p = none) (ha : ∃ o, H a = some o) : H p = none := by
  by_cases e : p = a
  · obtain ⟨u, v, q⟩ := x.drw
    rw [e, q] at hp
    cases hp
  · cases q : H p with
    | none => rfl
    | some o =>
      rw [x.fr p o q e] at hp
      cases hp
theorem Stp.new {a : Addr} {H H' : Hp} (x : Stp a H H') {p : Addr} {o : HO} (hp : H p = none) (hd : Drw H a) : Stp a H (upd H' p o) := by
  have pa : a ≠ p := by
    intro e
    obtain ⟨u, v, q⟩ := hd
    rw [e, hp] at q
    cases q
  refine ⟨fun b u h n => ?_, ⟨fun b xs h => ?_, fun b u z h => ?_⟩, ?_⟩
  · rw [upd_ne (ne_of_none h hp)]
    exact x.fr b u h n
  · rw [upd_ne (ne_of_none h hp)]
    exact x.gro.tup b xs h
  · rw [upd_ne (ne_of_none h hp)]
    exact x.gro.frz b u z h
  · obtain ⟨u, v, q⟩ := x.drw
    exact ⟨u, v, by rw [upd_ne pa]; exact q⟩
theorem same_new {H : Hp} {p : Addr} {o : HO} (h : H p = none) : Same H (upd H p o) := fun a u e => by
  rw [upd_ne (ne_of_none e h)]
  exact e
/-- the script -/
def Scr (K : PySem.W.Frag) (H : Hp) (a : Addr) : Prop := ∃ ns : List Int, ns.length ≤ 63 ∧ ((∃ o, H a = some (.frz o (.lst (ns.map V.int)))) ∨
  ∃ (o : Obj) (its : Array Value) (n : Nat), K.lookup a = some o ∧ o.cls = .type "list" ∧ o.dict = none ∧ o.data = .seq its n ∧ its.size ≤ sizeLine ∧ Vals (ns.map V.int) its.toList)
theorem Scr.mono {K : PySem.W.Frag} {H H' : Hp} {a : Addr} (g : Gro H H') (h : Scr K H a) : Scr K H' a := by
  obtain ⟨ns, l, h⟩ := h
  refine ⟨ns, l, ?_⟩
  rcases h with ⟨o, h⟩ | h
  · exact .inl ⟨o, g.frz _ _ _ h⟩
  · exact .inr h
theorem Scr.seq {K : PySem.W.Frag} {H : Hp} {a : Addr} (h : Scr K H a) : ∃ ns : List Int, ns.length ≤ 63 ∧ SqL K H a (ns.map V.int) := by
  obtain ⟨ns, l, h⟩ := h
  refine ⟨ns, l, ?_⟩
  rcases h with ⟨o, h⟩ | h
  · exact .inl (.inr ⟨o, h⟩)
  · exact .inr h
theorem Scr.of {K : PySem.W.Frag} {H : Hp} {a : Addr} {ns : List Int} (hl : ns.length ≤ 63) (O : Only H) (h : SqL K H a (ns.map V.int)) : Scr K H a := by
  refine ⟨ns, hl, ?_⟩
  rcases h with (h | ⟨o, h⟩) | h
  · rcases O a with e | ⟨o, xs, e⟩
    · rw [e] at h
      cases h
    · rw [e] at h
      cases h
  · exact .inl ⟨o, h⟩
  · exact .inr h
end Dk

/-! Rules that take any kind of value: a match on the values says what is asked. -/
namespace Dk
open PySem PySem.Spec PyProof.Rows L2
section
variable {X : Cx} {K : PySem.W.Frag}
theorem opw {f : Value → Value → Sem Value} {r r' : R2} (h : OpR X f r) (w : ∀ x y H Q, r' x y H Q → r x y H Q) : OpR X f r' :=
  fun pins s σ H x y v u Q I rx ry q => h pins s σ H x y v u Q I rx ry (w _ _ _ _ q)
theorem callw {f : Value} {r r' : List V → Hp → VK → Prop} (h : CallR X f r) (w : ∀ xs H Q, r' xs H Q → r xs H Q) : CallR X f r' :=
  fun pins s σ H xs us Q I r q => h pins s σ H xs us Q I r (w _ _ _ q)
theorem mtw {id : String} {r r' : V → List V → Hp → VK → Prop} (h : MtR X id r) (w : ∀ x xs H Q, r' x xs H Q → r x xs H Q) : MtR X id r' :=
  fun pins s σ H x xs v us Q I rx r q => h pins s σ H x xs v us Q I rx r (w _ _ _ _ q)
/-- a + b -/
def uAdd (K : PySem.W.Frag) : R2 := fun x y H Q => match x, y with
  | .int i, .int j => Q (.int (i + j)) H
  | .str a, .str b => a.length + b.length ≤ sizeLine ∧ Q (.str (a ++ b)) H
  | .ref a, .ref b => rCat (.ref a) (.ref b) H Q ∨ rCatA K (.ref a) (.ref b) H Q
  | _, _ => False
theorem op_addU (hK : X.K = K := by rfl) : OpR X (binaryOp .Add) (uAdd K) := by
  subst hK
  refine opw ((op_add).or (op_add_str.or (op_cat.or op_catA))) fun x y H Q h => ?_
  cases x <;> cases y <;> first
    | exact .inl ⟨_, _, rfl, rfl, h⟩
    | exact .inr (.inl ⟨_, _, rfl, rfl, h.1, h.2⟩)
    | exact .inr (.inr h)
    | exact False.elim h
def uI (C : Int → Int → Prop) (g : Int → Int → V) : R2 := fun x y H Q => match x, y with
  | .int i, .int j => C i j ∧ Q (g i j) H
  | _, _ => False
def uI0 (g : Int → Int → V) : R2 := fun x y H Q => match x, y with
  | .int i, .int j => Q (g i j) H
  | _, _ => False
theorem uI_w {C : Int → Int → Prop} {g : Int → Int → V} {f : Value → Value → Sem Value} (h : OpR X f (rI C g)) : OpR X f (uI C g) := by
  refine opw h fun x y H Q h => ?_
  cases x <;> cases y <;> first
    | exact ⟨_, _, rfl, rfl, h.1, h.2⟩
    | exact False.elim h
theorem uI0_w {g : Int → Int → V} {f : Value → Value → Sem Value} (h : OpR X f (rI0 g)) : OpR X f (uI0 g) := by
  refine opw h fun x y H Q h => ?_
  cases x <;> cases y <;> first
    | exact ⟨_, _, rfl, rfl, h⟩
    | exact False.elim h
abbrev uSub : R2 := uI0 fun i j => .int (i - j)
theorem op_subU : OpR X (binaryOp .Sub) uSub := uI0_w op_sub
/-- a * b: ints, one of them small; a list some times -/
def uMul : R2 := fun x y H Q => match x, y with
  | .int i, .int j => CMul i j ∧ Q (.int (i * j)) H
  | .ref a, .int j => rRep (.ref a) (.int j) H Q
  | _, _ => False
theorem op_mulU : OpR X (binaryOp .Mult) uMul := by
  refine opw (op_mul.or op_rep) fun x y H Q h => ?_
  cases x <;> cases y <;> first
    | exact .inl ⟨_, _, rfl, rfl, h.1, h.2⟩
    | exact .inr h
    | exact False.elim h
abbrev uMod : R2 := uI (fun _ j => 0 < j) fun i j => .int (i % j)
theorem op_modU : OpR X (binaryOp .Mod) uMod := uI_w op_mod
abbrev uDiv : R2 := uI CDiv fun i j => .int (i / j)
theorem op_divU : OpR X (binaryOp .FloorDiv) uDiv := uI_w op_fdiv
abbrev uPow : R2 := uI CPow fun i j => .int (i ^ j.toNat)
theorem op_powU : OpR X (binaryOp .Pow) uPow := uI_w op_pow
abbrev uShl : R2 := uI CPow fun i j => .int (i * 2 ^ j.toNat)
theorem op_shlU : OpR X (binaryOp .LShift) uShl := uI_w op_shl
abbrev uShr : R2 := uI (fun _ j => 0 ≤ j) fun i j => .int (i / 2 ^ j.toNat)
theorem op_shrU : OpR X (binaryOp .RShift) uShr := uI_w op_shr
abbrev uAnd : R2 := uI0 fun i j => .int (Builtin.bitAnd i j)
theorem op_andU : OpR X (binaryOp .BitAnd) uAnd := uI0_w op_and
abbrev uLt : R2 := uI0 fun i j => .bl (decide (i < j))
theorem op_ltU : OpR X (compareOp .Lt) uLt := uI0_w op_lt
abbrev uLe : R2 := uI0 fun i j => .bl (decide (i ≤ j))
theorem op_leU : OpR X (compareOp .LtE) uLe := uI0_w op_le
abbrev uGt : R2 := uI0 fun i j => .bl (decide (j < i))
theorem op_gtU : OpR X (compareOp .Gt) uGt := uI0_w op_gt
abbrev uGe : R2 := uI0 fun i j => .bl (decide (j ≤ i))
theorem op_geU : OpR X (compareOp .GtE) uGe := uI0_w op_ge
theorem dec_i {i j : Int} : decide (V.int i = V.int j) = decide (i = j) := by
  by_cases h : i = j
  · rw [h, decide_eq_true rfl, decide_eq_true rfl]
  · rw [decide_eq_false h, decide_eq_false fun e => h (V.int.inj e)]
theorem dec_s {i j : Str} : decide (V.str i = V.str j) = decide (i = j) := by
  by_cases h : i = j
  · rw [h, decide_eq_true rfl, decide_eq_true rfl]
  · rw [decide_eq_false h, decide_eq_false fun e => h (V.str.inj e)]
/-- a == b -/
def uEq (K : PySem.W.Frag) : R2 := fun x y H Q => match x, y with
  | .int i, .int j => Q (.bl (decide (i = j))) H
  | .str i, .str j => Q (.bl (decide (i = j))) H
  | x, y => rEq x y H Q ∨ rEqD K x y H Q
def uNe (K : PySem.W.Frag) : R2 := fun x y H Q => match x, y with
  | .int i, .int j => Q (.bl (!decide (i = j))) H
  | .str i, .str j => Q (.bl (!decide (i = j))) H
  | x, y => rNe x y H Q ∨ rNeD K x y H Q
theorem op_eqU {k : Nat} (hr : Room k X.A) (hK : X.K = K := by rfl) : OpR X (compareOp .Eq) (uEq K) := by
  subst hK
  refine opw (op_eq.or (op_eqD hr.units)) fun x y H Q h => ?_
  cases x <;> cases y <;> first
    | exact .inl ⟨rfl, by rw [dec_i]; exact h⟩
    | exact .inl ⟨rfl, by rw [dec_s]; exact h⟩
    | exact h
theorem op_neU {k : Nat} (hr : Room k X.A) (hK : X.K = K := by rfl) : OpR X (compareOp .NotEq) (uNe K) := by
  subst hK
  refine opw (op_ne.or (op_neD hr.units)) fun x y H Q h => ?_
  cases x <;> cases y <;> first
    | exact .inl ⟨rfl, by rw [dec_i]; exact h⟩
    | exact .inl ⟨rfl, by rw [dec_s]; exact h⟩
    | exact h
/-- a is None, a is True -/
def uIs : R2 := fun x y H Q => match y with
  | .non => Q (.bl (decide (x = .non))) H
  | .bl b => (match x with
    | .bl a => Q (.bl (decide (a = b))) H
    | _ => False)
  | _ => False
def uIsNot : R2 := fun x y H Q => match y with
  | .non => Q (.bl (!decide (x = .non))) H
  | .bl b => (match x with
    | .bl a => Q (.bl (!decide (a = b))) H
    | _ => False)
  | _ => False
theorem op_isU : OpR X (compareOp .Is) uIs := by
  refine opw (op_isN.or op_is_bl) fun x y H Q h => ?_
  cases y with
  | non => exact .inl ⟨rfl, h⟩
  | bl b => cases x <;> first
    | exact .inr ⟨_, _, rfl, rfl, h⟩
    | exact False.elim h
  | _ => exact False.elim h
theorem op_isNotU : OpR X (compareOp .IsNot) uIsNot := by
  refine opw (op_notN.or op_isnot_bl) fun x y H Q h => ?_
  cases y with
  | non => exact .inl ⟨rfl, h⟩
  | bl b => cases x <;> first
    | exact .inr ⟨_, _, rfl, rfl, h⟩
    | exact False.elim h
  | _ => exact False.elim h
/-- a in b -/
def occ (i j : Str) : Bool := !(Builtin.Str.occurrences j i 0 j.length 1).isEmpty
def uIn (K : PySem.W.Frag) : R2 := fun x y H Q => match y with
  | .str j => (match x with
    | .str i => Q (.bl (occ i j)) H
    | _ => False)
  | y => rIn K false x y H Q ∨ rInD K x y H Q
def uNotIn (K : PySem.W.Frag) : R2 := fun x y H Q => match y with
  | .str j => (match x with
    | .str i => Q (.bl (!occ i j)) H
    | _ => False)
  | y => rIn K true x y H Q ∨ rNotInD K x y H Q
theorem op_inU {k : Nat} (hr : Room (k + 1) X.A) (hK : X.K = K := by rfl) : OpR X (compareOp .In) (uIn K) := by
  subst hK
  refine opw (op_in_str.or (op_in_seq.or (op_inD (by have := hr.un; omega)))) fun x y H Q h => ?_
  cases y with
  | str j => cases x <;> first
    | exact .inl ⟨_, _, rfl, rfl, h⟩
    | exact False.elim h
  | _ => exact .inr h
theorem op_notInU {k : Nat} (hr : Room (k + 1) X.A) (hK : X.K = K := by rfl) : OpR X (compareOp .NotIn) (uNotIn K) := by
  subst hK
  refine opw (op_notin_str.or (op_notIn_seq.or (op_notInD (by have := hr.un; omega)))) fun x y H Q h => ?_
  cases y with
  | str j => cases x <;> first
    | exact .inl ⟨_, _, rfl, rfl, h⟩
    | exact False.elim h
  | _ => exact .inr h
end
end Dk

namespace Dk
open PySem PySem.Spec PyProof.Rows L2
/-! ### built-in names -/
theorem bt_len : bootBuiltins "len" = some (.builtin "len") := by decide +kernel
theorem bt_int : bootBuiltins "int" = some (.type "int") := by decide +kernel
theorem bt_str : bootBuiltins "str" = some (.type "str") := by decide +kernel
theorem bt_bool : bootBuiltins "bool" = some (.type "bool") := by decide +kernel
theorem bt_tuple : bootBuiltins "tuple" = some (.type "tuple") := by decide +kernel
theorem bt_list : bootBuiltins "list" = some (.type "list") := by decide +kernel
theorem bt_isinstance : bootBuiltins "isinstance" = some (.builtin "isinstance") := by decide +kernel
theorem bt_ord : bootBuiltins "ord" = some (.builtin "ord") := by decide +kernel
theorem bt_sorted : bootBuiltins "sorted" = some (.builtin "sorted") := by decide +kernel
theorem bt_min : bootBuiltins "min" = some (.builtin "min") := by decide +kernel
theorem bt_max : bootBuiltins "max" = some (.builtin "max") := by decide +kernel
theorem bt_sum : bootBuiltins "sum" = some (.builtin "sum") := by decide +kernel
theorem bt_all : bootBuiltins "all" = some (.builtin "all") := by decide +kernel
theorem bt_any : bootBuiltins "any" = some (.builtin "any") := by decide +kernel
section
variable {X : Cx} {K : PySem.W.Frag}
/-- len(x) -/
def uLen (K : PySem.W.Frag) : List V → Hp → VK → Prop := fun xs H Q => match xs with
  | [.str z] => z.length ≤ sizeLine ∧ Q (.int z.length) H
  | [x] => ∃ n, LenV K x H n ∧ Q (.int n) H
  | _ => False
theorem call_lenU (hK : X.K = K := by rfl) : CallR X (.builtin "len") (uLen K) := by
  subst hK
  refine callw call_len fun xs H Q h => ?_
  match xs, h with
  | [.str z], h => exact ⟨_, z.length, rfl, ⟨h.1, rfl⟩, h.2⟩
  | [.non], h => exact ⟨_, h.choose, rfl, h.choose_spec.1, h.choose_spec.2⟩
  | [.bl _], h => exact ⟨_, h.choose, rfl, h.choose_spec.1, h.choose_spec.2⟩
  | [.int _], h => exact ⟨_, h.choose, rfl, h.choose_spec.1, h.choose_spec.2⟩
  | [.byt _], h => exact ⟨_, h.choose, rfl, h.choose_spec.1, h.choose_spec.2⟩
  | [.flt _], h => exact ⟨_, h.choose, rfl, h.choose_spec.1, h.choose_spec.2⟩
  | [.ref _], h => exact ⟨_, h.choose, rfl, h.choose_spec.1, h.choose_spec.2⟩
  | [.ty _], h => exact ⟨_, h.choose, rfl, h.choose_spec.1, h.choose_spec.2⟩
/-- int(x) -/
def uInt : List V → Hp → VK → Prop := fun xs H Q => match xs with
  | [.int i] => Q (.int i) H
  | [.bl b] => Q (.int (if b then 1 else 0)) H
  | [.str a] => ∃ n, PySem.intText? a = some n ∧ a.length ≤ 640 ∧ Q (.int n) H
  | _ => False
theorem call_intU : CallR X (.type "int") uInt := by
  refine callw (call_int1.or call_int_str) fun xs H Q h => ?_
  match xs, h with
  | [.int i], h => exact .inl (.inl ⟨_, rfl, h⟩)
  | [.bl i], h => exact .inl (.inr ⟨_, rfl, h⟩)
  | [.str a], h => exact .inr ⟨_, _, rfl, h.choose_spec.1, h.choose_spec.2.1, h.choose_spec.2.2⟩
/-- tuple(x) -/
def uTuple (K : PySem.W.Frag) : List V → Hp → VK → Prop := fun xs H Q => match xs with
  | [.ref p] => ∃ ys, (SqL K H p ys ∧ ∀ l, H l = none → Q (.ref l) (upd H l (.tup ys))) ∨ (SqT K H p ys ∧ Q (.ref p) H)
  | _ => False
theorem call_tupleU (hK : X.K = K := by rfl) : CallR X (.type "tuple") (uTuple K) := by
  subst hK
  refine callw call_tuple_of fun xs H Q h => ?_
  match xs, h with
  | [.ref p], h => exact ⟨p, h.choose, rfl, h.choose_spec⟩
/-- list(x) -/
def uList (K : PySem.W.Frag) : List V → Hp → VK → Prop := fun xs H Q => match xs with
  | [.ref p] => ∃ ys, (SqL K H p ys ∨ SqT K H p ys) ∧ ∀ l, H l = none → Q (.ref l) (upd H l (.lst ys))
  | _ => False
theorem call_listU (hK : X.K = K := by rfl) : CallR X (.type "list") (uList K) := by
  subst hK
  refine callw call_list_of fun xs H Q h => ?_
  match xs, h with
  | [.ref p], h => exact ⟨p, h.choose, rfl, h.choose_spec⟩
/-- isinstance(x, a built-in class) -/
def tyO : Option HO → Option String
  | some (.lst _) => some "list"
  | some (.tup _) => some "tuple"
  | some (.dK _) => some "dict"
  | some (.dT _) => some "dict"
  | _ => none
def tyN (H : Hp) : V → Option String
  | .non => some "NoneType"
  | .bl _ => some "bool"
  | .int _ => some "int"
  | .str _ => some "str"
  | .ref a => tyO (H a)
  | _ => none
theorem tyN_ok {K : PySem.W.Frag} {H : Hp} {x : V} {n : String} (h : tyN H x = some n) : TyX K H x (.type n) := by
  cases x with
  | non => cases h; exact .base .non
  | bl b => cases h; exact .base (.bl b)
  | int b => cases h; exact .base (.int b)
  | str b => cases h; exact .base (.str b)
  | ref a =>
    have h : tyO (H a) = some n := h
    cases e : H a with
    | none =>
      rw [e] at h
      cases h
    | some o =>
      rw [e] at h
      cases o with
      | lst xs => cases h; exact .base (.lst e)
      | tup xs => cases h; exact .base (.tup e)
      | dK xs => cases h; exact .base (.dK e)
      | dT xs => cases h; exact .base (.dT e)
      | _ => cases h
  | _ => cases h
def uIsi (K : PySem.W.Frag) : List V → Hp → VK → Prop := fun xs H Q => match xs with
  | [x, .ty m] => ∃ n b, tyN H x = some n ∧ kitB n m = some b ∧ Q (.bl b) H
  | _ => False
theorem call_isiU (hK : X.K = K := by rfl) : CallR X (.builtin "isinstance") (uIsi K) := by
  subst hK
  refine callw call_isi fun xs H Q h => ?_
  match xs, h with
  | [x, .ty m], h =>
    obtain ⟨n, b, h1, h2, h3⟩ := h
    exact ⟨x, .ty m, .type n, .type m, b, rfl, .ty m, tyN_ok h1, kit_ty h2, h3⟩
/-- x[i] -/
def uIx (K : PySem.W.Frag) : R2 := fun x y H Q => match x, y with
  | .ref p, .int i => ∃ xs v, (SqL K H p xs ∨ SqT K H p xs) ∧ atI xs i = some v ∧ Q v H
  | .str z, .int i => ∃ c, z.length ≤ sizeLine ∧ atI z.cps.toList i = some c ∧ Q (.str ⟨#[c]⟩) H
  | _, _ => False
theorem ix_U (hK : X.K = K := by rfl) : IxR X (uIx K) := by
  subst hK
  intro va sl pins s σ H x y v u Q I rx ry h hs
  refine ix_seq va sl pins s σ H x y v u Q I rx ry ?_ hs
  match x, y, h with
  | .ref p, .int i, h =>
    obtain ⟨xs, w, h1, h2, h3⟩ := h
    rcases h1 with h1 | h1
    · exact .inl ⟨p, xs, i, w, rfl, rfl, h1, h2, h3⟩
    · exact .inr (.inl ⟨p, xs, i, w, rfl, rfl, h1, h2, h3⟩)
  | .str z, .int i, h =>
    obtain ⟨c, h1, h2, h3⟩ := h
    exact .inr (.inr ⟨z, i, c, rfl, rfl, h1, h2, h3⟩)
/-- x[lo:hi] -/
def uSl (K : PySem.W.Frag) : V → Option Int → Option Int → Hp → VK → Prop := fun x lo hi H Q => match x with
  | .str z => z.length ≤ sizeLine ∧ Q (.str (cutS z lo hi)) H
  | x => rSlL K x lo hi H Q ∨ rSlA K x lo hi H Q
theorem sl_U (hK : X.K = K := by rfl) : SlR X (uSl K) := by
  subst hK
  intro pins s σ H x v vl vu lo hi sl Q I rx hs pl pu h
  refine (sl_str.or (sl_list.or sl_tupA)) pins s σ H x v vl vu lo hi sl Q I rx hs pl pu ?_
  cases x with
  | str z => exact .inl ⟨z, rfl, h.1, h.2⟩
  | _ => exact .inr h
/-- methods of texts with one text -/
def uS1 (f : Str → Str → V) : V → List V → Hp → VK → Prop := fun x xs H Q => match x, xs with
  | .str a, [.str b] => Q (f a b) H
  | _, _ => False
theorem mt_startsU : MtR X "str.startswith" (uS1 fun a b => .bl (Txt.startswith a b)) := by
  refine mtw mt_startswith fun x xs H Q h => ?_
  match x, xs, h with
  | .str a, [.str b], h => exact ⟨a, b, rfl, rfl, h⟩
theorem mt_endsU : MtR X "str.endswith" (uS1 fun a b => .bl (Txt.endswith a b)) := by
  refine mtw mt_endswith fun x xs H Q h => ?_
  match x, xs, h with
  | .str a, [.str b], h => exact ⟨a, b, rfl, rfl, h⟩
theorem mt_findU : MtR X "str.find" (uS1 fun a b => .int (Txt.find a b)) := by
  refine mtw mt_find fun x xs H Q h => ?_
  match x, xs, h with
  | .str a, [.str b], h => exact ⟨a, b, rfl, rfl, h⟩
def uS1l (f : Str → Str → V) : V → List V → Hp → VK → Prop := fun x xs H Q => match x, xs with
  | .str a, [.str b] => a.length ≤ sizeLine ∧ Q (f a b) H
  | _, _ => False
theorem mt_rstripU : MtR X "str.rstrip" (uS1l fun a b => .str (Txt.rstripChars a b)) := by
  refine mtw mt_rstripChars fun x xs H Q h => ?_
  match x, xs, h with
  | .str a, [.str b], h => exact ⟨a, b, rfl, rfl, h.1, h.2⟩
def uSplit : V → List V → Hp → VK → Prop := fun x xs H Q => match x, xs with
  | .str a, [.str b] => (b.length == 0) = false ∧ a.length + 2 ≤ sizeLine ∧ rNewStrs (Txt.split a b) H Q
  | _, _ => False
theorem mt_splitU : MtR X "str.split" uSplit := by
  refine mtw mt_split fun x xs H Q h => ?_
  match x, xs, h with
  | .str a, [.str b], h => exact ⟨a, b, rfl, rfl, h.1, h.2.1, h.2.2⟩
def uJoin (K : PySem.W.Frag) : V → List V → Hp → VK → Prop := fun x xs H Q => match x, xs with
  | .str a, [.ref p] => ∃ ys : List Str, (SqL K H p (ys.map V.str) ∨ SqT K H p (ys.map V.str)) ∧ (ys.map (·.length)).sum + ys.length * a.length ≤ 16777216 ∧ Q (.str (Txt.join a ys)) H
  | _, _ => False
theorem mt_joinU (hK : X.K = K := by rfl) : MtR X "str.join" (uJoin K) := by
  subst hK
  refine mtw mt_join fun x xs H Q h => ?_
  match x, xs, h with
  | .str a, [.ref p], h => exact ⟨a, p, h.choose, rfl, rfl, h.choose_spec.1, h.choose_spec.2.1, h.choose_spec.2.2⟩
def uS0 (f : Str → V) : V → List V → Hp → VK → Prop := fun x xs H Q => match x, xs with
  | .str a, [] => a.length ≤ 5592405 ∧ Q (f a) H
  | _, _ => False
theorem mt_lowerU : MtR X "str.lower" (uS0 fun a => .str (Txt.lower a)) := by
  refine mtw mt_lower fun x xs H Q h => ?_
  match x, xs, h with
  | .str a, [], h => exact ⟨a, rfl, rfl, h.1, h.2⟩
theorem mt_upperU : MtR X "str.upper" (uS0 fun a => .str (Txt.upper a)) := by
  refine mtw mt_upper fun x xs H Q h => ?_
  match x, xs, h with
  | .str a, [], h => exact ⟨a, rfl, rfl, h.1, h.2⟩
/-- str(x) -/
def uStr : List V → Hp → VK → Prop := fun xs H Q => match xs with
  | [.int i] => i.natAbs.log2 < 1920 ∧ Q (.str (toString i)) H
  | [.str a] => Q (.str a) H
  | _ => False
/-! ### defs by their names -/
structure Wd where
  P : Program
  w : World
  K : PySem.W.Frag
  mg : Str → Option Value
  base : Heap
/-- the def that the module's name x holds keeps the promise sp -/
def Can (e : Wd) (k : Nat) (x : Str) (ps : List Str) (sp : Sp) : Prop :=
  ∃ f fd, FnOk e.P e.w e.K e.mg e.base (L2.CX e.P e.w) k f fd ps sp ∧ e.mg x = some (.ref f) ∧ PySem.W.keepIn e.K (.ref f) = true ∧ Binds e.K fd ps []
theorem Can.imp {e : Wd} {k j : Nat} {x : Str} {ps : List Str} {sp sp' : Sp} (c : Can e k x ps sp) (h : ∀ vs H Q E, sp' vs H Q E → sp vs H Q E) (hk : k ≤ j := by decide) : Can e j x ps sp' := by
  obtain ⟨f, fd, F, m, kp, b⟩ := c
  exact ⟨f, fd, (F.imp h).mono hk, m, kp, b⟩
abbrev wdOf (X : Cx) : Wd := ⟨X.prog, X.w, X.K, X.mg, X.base⟩
theorem pe_can {k : Nat} {x : Str} {ps : List Str} {sp : Sp} {E : XK} {p pos : Pos} {e : Expr} {es : List Expr} {t : TA} (c : Can (wdOf X) k x ps sp) (hr : Room k X.A) (hx : Passes (L2.CX X.prog X.w) X E) (ha : PA X (e :: es) t) (hg : Gl X x := by rfl)
    (hdb : (x == ("__debug__" : Str)) = false := by decide) (he : starEach (e :: es) X.env = (false, eval e X.env) :: starEach es X.env := by rfl) (hpl : (backTo pos (starEach es X.env)).any (·.1) = false := by rfl) : PE X (.Call (.Name x p) (e :: es) [] pos) (tCall sp [] E t) := by
  obtain ⟨f, fd, F, m, kp, b⟩ := c
  exact pe_call F hr hg m kp b .nil hx ha hdb he hpl
theorem pe_can0 {k : Nat} {x : Str} {ps : List Str} {sp : Sp} {E : XK} {p pos : Pos} (c : Can (wdOf X) k x ps sp) (hr : Room k X.A) (hx : Passes (L2.CX X.prog X.w) X E) (hg : Gl X x := by rfl)
    (hdb : (x == ("__debug__" : Str)) = false := by decide) : PE X (.Call (.Name x p) [] [] pos) (tCall sp [] E tNil) := by
  obtain ⟨f, fd, F, m, kp, b⟩ := c
  exact pe_call0 F hr hg m kp b .nil hx hdb
def DefAt (e : Wd) (x : Str) (st : Stmt) : Prop := ∃ f fd, FunD e.K x x (defArgs st) (defBody st) (defScope st) [] [] f fd ∧ e.mg x = some (.ref f)
/-- how its arguments bind -/
abbrev BindOk (x : Str) (st : Stmt) (ps : List Str) : Prop := ∀ (kV doc pm : Value) (an : Option Addr) (cdv ct : Value) (us : List Value), us.length = ps.length → bindArgs (PySem.W.fnOf x x (defArgs st) (defBody st) (defScope st) .none kV doc pm an cdv ct) ⟨us, []⟩ = pure (ps.zip us)
/-- a def that lets no error out -/
theorem fnok_of {e : Wd} {x : Str} {st : Stmt} {N ps : List Str} {k : Nat} {sp : Sp} {f : Addr} {fd : FuncData} (F : FunD e.K x x (defArgs st) (defBody st) (defScope st) [] [] f fd) (S : FnScope N ps (defScope st)) (len : ∀ vs H Q E, sp vs H Q E → vs.length = ps.length)
    (hbody : ∀ (cdv : Value) (f : Addr) (A : Around) (outer : List Env) (s : Shared) (H : Hp) (vs : List V) (Q : VK) (E : XK), Room k (A.deeper (envOfC x (defScope st) s.heap.objs.size f cdv)) → sp vs H Q E →
      ∃ t, PSs (cxOf (L2.CX e.P e.w) e.P e.w e.K e.mg e.base N x (defScope st) f cdv A outer s H E).nox (defBody st) t ∧ t { nx := fun _ H' => Q .non H', rt := Q } (start N vs) H) : FnOk e.P e.w e.K e.mg e.base (L2.CX e.P e.w) (k + 1) f fd ps sp :=
  F.ok S len fun cdv A outer s H vs Q E hr h => by
    obtain ⟨t, h1, h2⟩ := hbody cdv f A outer s H vs Q E hr h
    exact ⟨t, h1.nox, h2⟩
theorem can_of {e : Wd} {x : Str} {st : Stmt} {N ps : List Str} {k : Nat} {sp : Sp} (D : DefAt e x st) (S : FnScope N ps (defScope st)) (B : BindOk x st ps) (len : ∀ vs H Q E, sp vs H Q E → vs.length = ps.length)
    (hbody : ∀ (cdv : Value) (f : Addr) (A : Around) (outer : List Env) (s : Shared) (H : Hp) (vs : List V) (Q : VK) (E : XK), Room k (A.deeper (envOfC x (defScope st) s.heap.objs.size f cdv)) → sp vs H Q E →
      ∃ t, PSs (cxOf (L2.CX e.P e.w) e.P e.w e.K e.mg e.base N x (defScope st) f cdv A outer s H E).nox (defBody st) t ∧ t { nx := fun _ H' => Q .non H', rt := Q } (start N vs) H) : Can e (k + 1) x ps sp := by
  obtain ⟨f, fd, F, m⟩ := D
  exact ⟨f, fd, fnok_of F S len hbody, m, F.kp, F.bindsN B⟩
/-- a text, an int of the module's -/
theorem pe_gs {x z : Str} {pos : Pos} (h : ∃ t, X.mg x = some (.str z t)) (hg : Gl X x := by rfl) (hd : (x == ("__debug__" : Str)) = false := by decide) : PE X (.Name x pos) (tC (.str z)) := by
  obtain ⟨t, h⟩ := h
  exact pe_glob hg h ⟨t, rfl⟩ hd
theorem pe_gi {x : Str} {i : Int} {pos : Pos} (h : ∃ t, X.mg x = some (.int i t)) (hg : Gl X x := by rfl) (hd : (x == ("__debug__" : Str)) = false := by decide) : PE X (.Name x pos) (tC (.int i)) := by
  obtain ⟨t, h⟩ := h
  exact pe_glob hg h ⟨t, rfl⟩ hd
end
end Dk

/-! What a reading asks, word by word; a walk over readings. -/
namespace Dk
open PySem PySem.Spec PyProof.Rows L2
section
variable {X : Cx} {K : PySem.W.Frag} {σ : L2.St} {H : Hp} {Q : VK} {QB : Bool → Hp → Prop} {D : Ends} {ta tb tc te : TE} {t u c : TT} {r r' : R2} {i : Nat} {x y v : V} {tA tA' : TA} {tS uS : TS}
/-! ### rules that are lacking in the modules: a value's truth; what a for walks, of any kind -/
def tTru (K : PySem.W.Frag) (te : TE) : TT := fun σ H Q => te σ H fun x H' => ∃ k, TruV K x H' k ∧ Q k H'
theorem pt_tru {a : Expr} (ha : PE X a te) (hK : X.K = K := by rfl) (he : ∀ whole, isTrue a X.env whole = (do let v ← whole; standAt a.pos; holding [v] (truthy v)) := by intro _; rfl) : PT X a (tTru K te) := by
  subst hK
  exact pt_truth ha he
theorem pior {tg e : Expr} {w1 w2 : TI} (h1 : PI X tg e w1) (h2 : PI X tg e w2) : PI X tg e (fun σ H R => w1 σ H R ∨ w2 σ H R) :=
  ⟨fun pins s σ H R I h => h.elim (h1.run pins s σ H R I) (h2.run pins s σ H R I)⟩
theorem peor {e : Expr} {w1 w2 : TE} (h1 : PE X e w1) (h2 : PE X e w2) : PE X e (fun σ H R => w1 σ H R ∨ w2 σ H R) :=
  ⟨fun pins s σ H R I h => h.elim (h1.run pins s σ H R I) (h2.run pins s σ H R I)⟩
/-- a list, a tuple, a text -/
def iU (K : PySem.W.Frag) (te : TE) : TI := fun σ H R => te σ H fun x H1 => match x with
  | .ref a => ((∃ xs, SqL K H1 a xs) ∧ R (Itl K a) H1) ∨ ((∃ xs, SqT K H1 a xs) ∧ R (Itt K a) H1)
  | .str z => R (Its z) H1
  | _ => False
theorem pi_U {tg l : Expr} (hl : PE X l te) (hK : X.K = K := by rfl) : PI X tg l (iU K te) := by
  subst hK
  refine ⟨fun pins s σ H R I h => ?_⟩
  refine thn (hl.run pins s σ H _ I h) fun v s1 ⟨x, H1, I1, r1, q1⟩ => ?_
  cases x with
  | ref a =>
    cases r1
    rcases q1 with ⟨⟨xs, hq⟩, q⟩ | ⟨⟨xs, hq⟩, q⟩
    · obtain ⟨its, rv, p, hz⟩ := I1.list hq
      refine wpAny_pyIter_list p.isList ?_
      refine ⟨s1.heap.objs.size, [s1.heap.objs.size], _, _, H1, rfl, I1.kept (t' := s1.toks) fun b o e => Heap.get?_push_of_some _ e, turn_list a _, ⟨_, Heap.get?_push_size _ rfl, rfl, rfl⟩, fun b hb => ?_, q⟩
      have e : b = s1.heap.objs.size := by simpa using hb
      subst e
      exact I1.fpOk (Nat.le_refl _) (I1.hok.fresh (Nat.le_refl _))
    · obtain ⟨its, rv, p, hz⟩ := I1.tuple hq
      refine wpAny_pyIter_tuple (show s1.heap.IsTuple a its.toArray from p) ?_
      refine ⟨s1.heap.objs.size, [s1.heap.objs.size], _, _, H1, rfl, I1.kept (t' := s1.toks) fun b o e => Heap.get?_push_of_some _ e, turn_tuple a _, ⟨_, Heap.get?_push_size _ rfl, rfl, rfl⟩, fun b hb => ?_, q⟩
      have e : b = s1.heap.objs.size := by simpa using hb
      subst e
      exact I1.fpOk (Nat.le_refl _) (I1.hok.fresh (Nat.le_refl _))
  | str z =>
    obtain ⟨t, rfl⟩ := r1
    cases ha : z.cps.all (· < 128)
    · exact wpAny_pyIter_wide ha (pi_one (tk := s1.toks) I1 _ (turn_str _ z t "str_iterator" (.inr rfl)) ⟨_, Heap.get?_push_size _ rfl, rfl, rfl⟩ q1)
    · exact wpAny_pyIter_ascii ha (pi_one (tk := s1.toks) I1 _ (turn_str _ z t "str_ascii_iterator" (.inl rfl)) ⟨_, Heap.get?_push_size _ rfl, rfl, rfl⟩ q1)
  | _ => exact False.elim q1
theorem pe_notU {a : Expr} {pos : Pos} (ha : PE X a ta) (hK : X.K = K := by rfl) : PE X (.UnaryOp .Not a pos) (tNotT K ta) := by
  subst hK
  exact pe_notT ha
theorem pe_andU {a b : Expr} {rest : List Expr} {pos : Pos} (ha : PE X a ta) (hb : PE X (.BoolOp .And (b :: rest) pos) tb) (hK : X.K = K := by rfl) : PE X (.BoolOp .And (a :: b :: rest) pos) (tAndT K ta tb) := by
  subst hK
  exact pe_andT ha hb
theorem pe_orU {a b : Expr} {rest : List Expr} {pos : Pos} (ha : PE X a ta) (hb : PE X (.BoolOp .Or (b :: rest) pos) tb) (hK : X.K = K := by rfl) : PE X (.BoolOp .Or (a :: b :: rest) pos) (tOrT K ta tb) := by
  subst hK
  exact pe_orT ha hb
theorem pg_tupU {es : List Expr} {k : Nat} {t : TGs} {n : Nat} {pos : Pos} (hc : X.calm = true) (h : PGs X es t) (hK : X.K = K := by rfl)
    (hn : (assignEach es X.env).length = n := by rfl) (hst : (assignEach es X.env).findIdx? (·.1) = none := by rfl) : PG X (.Tuple es k pos) (gTup K n t) := by
  subst hK
  exact pg_tup hc h hn hst
theorem pe_bmU {T id : String} {name : Str} {r : V → List V → Hp → VK → Prop} {o e : Expr} {es : List Expr} {apos cpos : Pos} (pa : PlainAttrs T) (slot : Slot T name id) (hty : typeOf (.builtin id) = pure (.type "method_descriptor")) (hm : MtR X id r) (ho : PE X o te) (ha : PA X (e :: es) tA)
    (hK : X.K = K := by rfl) (hbase : attributeBase o name X.env (eval o X.env) = eval o X.env := by rfl)
    (hfew : ((backTo cpos (starEach (e :: es) X.env)).all (fun x => !x.1) && (backToKw cpos (keywordEach [] X.env)).all (fun x => x.1.isSome)
      && decide ((e :: es).length + ([] : List Keyword).length + (if ([] : List Keyword).isEmpty then 0 else 1) < 30)) = true := by rfl)
    (hline : (apos.endLine == cpos.line) = true := by rfl) (hs : starEach (e :: es) X.env = (false, eval e X.env) :: starEach es X.env := by rfl) (hplain : (backTo cpos (starEach es X.env)).any (·.1) = false := by rfl) :
    PE X (.Call (.Attribute o name apos) (e :: es) [] cpos) (tBM K T r te tA) := by
  subst hK
  exact pe_bm pa slot hty hm ho ha hbase hfew hline hs hplain
theorem pe_bm0U {T id : String} {name : Str} {r : V → List V → Hp → VK → Prop} {o : Expr} {apos cpos : Pos} (pa : PlainAttrs T) (slot : Slot T name id) (hty : typeOf (.builtin id) = pure (.type "method_descriptor")) (hm : MtR X id r) (ho : PE X o te)
    (hK : X.K = K := by rfl) (hbase : attributeBase o name X.env (eval o X.env) = eval o X.env := by rfl) (hline : (apos.endLine == cpos.line) = true := by rfl) : PE X (.Call (.Attribute o name apos) [] [] cpos) (tBM0 K T r te) := by
  subst hK
  exact pe_bm0 pa slot hty hm ho hbase hline
/-! ### readings: expressions -/
/-- a truth value is wanted, an int is wanted -/
def bq (x : V) (H : Hp) (QB : Bool → Hp → Prop) : Prop := ∃ k, x = .bl k ∧ QB k H
def trq (K : PySem.W.Frag) (x : V) (H : Hp) (QB : Bool → Hp → Prop) : Prop := ∃ k, TruV K x H k ∧ QB k H
def newq (n : Nat) (o : HO) (H : Hp) (Q : VK) : Prop := n ≤ sizeLine ∧ ∀ p, H p = none → Q (.ref p) (upd H p o)
def parq (a b : Nat) (vs : List V) (σ : L2.St) (D : Ends) (H : Hp) : Prop := ∃ v w, vs = [v, w] ∧ D.nx ((σ.set a (some v)).set b (some w)) H
def iq (x : V) (P : Int → Prop) : Prop := ∃ n, x = .int n ∧ P n
theorem r_var (h : σ[i]? = some (some v)) (q : Q v H) : tVar i σ H Q := ⟨v, h, q⟩
theorem r_c (q : Q v H) : tC v σ H Q := q
theorem r_op (q : ta σ H fun x H1 => tb σ H1 fun y H2 => r x y H2 Q) : tOp r ta tb σ H Q := q
theorem r_un {f : V → Hp → VK → Prop} (q : ta σ H fun x H1 => f x H1 Q) : tUn f ta σ H Q := q
theorem r_neg {g : Int → V} {n : Int} (q : Q (g n) H) : rU g (.int n) H Q := ⟨n, rfl, q⟩
theorem r_test (q : te σ H fun x H1 => bq x H1 QB) : tTest te σ H QB := q
theorem r_tB (q : te σ H fun x H1 => bq x H1 QB) : tB te σ H QB := q
theorem r_bl {b : Bool} {H : Hp} (q : QB b H) : bq (.bl b) H QB := ⟨b, rfl, q⟩
theorem r_tru (q : te σ H fun x H1 => trq K x H1 QB) : tTru K te σ H QB := q
theorem r_trub {b : Bool} (q : QB b H) : trq K (.bl b) H QB := ⟨b, rfl, q⟩
theorem r_trui {n : Int} (q : QB (n != 0) H) : trq K (.int n) H QB := ⟨_, rfl, q⟩
theorem r_trun (q : QB false H) : trq K .non H QB := ⟨_, rfl, q⟩
theorem r_trus {z : Str} (hz : z.length ≤ sizeLine) (q : QB ((z.length : Int) != 0) H) : trq K (.str z) H QB := ⟨_, ⟨hz, rfl⟩, q⟩
theorem r_trul {p : Addr} {xs : List V} (h : SqL K H p xs) (q : QB (!xs.isEmpty) H) : trq K (.ref p) H QB := ⟨_, .inl ⟨xs, h, rfl⟩, q⟩
theorem r_trut {p : Addr} {xs : List V} (h : SqT K H p xs) (q : QB (!xs.isEmpty) H) : trq K (.ref p) H QB := ⟨_, .inr (.inl ⟨xs, h, rfl⟩), q⟩
theorem r_and (q : t σ H fun b H1 => if b = true then u σ H1 QB else QB false H1) : tAnd t u σ H QB := q
theorem r_or (q : t σ H fun b H1 => if b = true then QB true H1 else u σ H1 QB) : tOr t u σ H QB := q
theorem r_not (q : t σ H fun b H1 => QB (!b) H1) : tNot t σ H QB := q
theorem r_andT (q : ta σ H fun x H1 => trq K x H1 fun k H2 => if k = true then tb σ H2 Q else Q x H2) : tAndT K ta tb σ H Q := q
theorem r_orT (q : ta σ H fun x H1 => trq K x H1 fun k H2 => if k = true then Q x H2 else tb σ H2 Q) : tOrT K ta tb σ H Q := q
theorem r_notT (q : ta σ H fun x H1 => trq K x H1 fun k H2 => Q (.bl (!k)) H2) : tNotT K ta σ H Q := q
theorem r_ifx (q : t σ H fun b H1 => if b = true then ta σ H1 Q else tb σ H1 Q) : tIf t ta tb σ H Q := q
theorem r_chain (q : ta σ H fun x H1 => tb σ H1 fun y H2 => r x y H2 fun z H3 => bq z H3 fun k H4 => if k = true then tc σ H4 (fun w H5 => r' y w H5 Q) else Q (.bl false) H4) : tChain r r' ta tb tc σ H Q := q
theorem r_nil {QA : List V → Hp → Prop} (q : QA [] H) : tNil σ H QA := q
theorem r_cons {QA : List V → Hp → Prop} (q : ta σ H fun x H1 => tA σ H1 fun xs H2 => QA (x :: xs) H2) : tCons ta tA σ H QA := q
theorem r_tup (q : tA σ H fun xs H1 => newq xs.length (.tup xs) H1 Q) : tTup tA σ H Q := q
theorem r_lst (q : tA σ H fun xs H1 => newq xs.length (.lst xs) H1 Q) : tLst tA σ H Q := q
/-- a new object: the heap behind it by what is known of it -/
theorem r_new {o : HO} {n : Nat} (hn : n ≤ sizeLine) (k : ∀ p H', H p = none → Same H H' → H' p = some o → Q (.ref p) H') : newq n o H Q :=
  ⟨hn, fun p np => k p _ np (same_new np) upd_same⟩
theorem r_new0 {o : HO} (k : ∀ p H', H p = none → Same H H' → H' p = some o → Q (.ref p) H') : ∀ p, H p = none → Q (.ref p) (upd H p o) :=
  fun p np => k p _ np (same_new np) upd_same
theorem r_cb {f : List V → Hp → VK → Prop} (q : tA σ H fun vs H1 => f vs H1 Q) : tCB f tA σ H Q := q
theorem r_call {sp : Sp} {E : XK} (q : tA σ H fun vs H1 => sp vs H1 Q E) : tCall sp [] E tA σ H Q := by
  show tA σ H fun vs H1 => sp (vs ++ []) H1 Q E
  have e : (fun vs H1 => sp (vs ++ []) H1 Q E) = fun (vs : List V) H1 => sp vs H1 Q E := by
    funext vs H1
    rw [List.append_nil]
  rw [e]
  exact q
theorem r_bm {T : String} {f : V → List V → Hp → VK → Prop} (q : ta σ H fun x H1 => tyV K T x H1 ∧ tA σ H1 fun xs H2 => f x xs H2 Q) : tBM K T f ta tA σ H Q := q
theorem r_bm0 {T : String} {f : V → List V → Hp → VK → Prop} (q : ta σ H fun x H1 => tyV K T x H1 ∧ f x [] H1 Q) : tBM0 K T f ta σ H Q := q
theorem r_tys {z : Str} {P : Prop} (q : P) : tyV K "str" (.str z) H ∧ P := ⟨rfl, q⟩
theorem r_tyl {p : Addr} {xs : List V} {P : Prop} (h : H p = some (.lst xs)) (q : P) : tyV K "list" (.ref p) H ∧ P := ⟨.inl ⟨rfl, xs, SqL.of h⟩, q⟩
theorem r_sl {f : V → Option Int → Option Int → Hp → VK → Prop} {tl th : TO} (q : te σ H fun x H1 => tl σ H1 fun l H2 => th σ H2 fun h H3 => f x l h H3 Q) : tSl f te tl th σ H Q := q
theorem r_part {QO : Option Int → Hp → Prop} (q : te σ H fun x H1 => iq x fun n => QO (some n) H1) : tPart te σ H QO := q
theorem r_nopart {QO : Option Int → Hp → Prop} (q : QO none H) : tNoPart σ H QO := q
/-! values -/
theorem r_addI {n m : Int} (q : Q (.int (n + m)) H) : uAdd K (.int n) (.int m) H Q := q
theorem r_addS {a b : Str} (h : a.length + b.length ≤ sizeLine) (q : Q (.str (a ++ b)) H) : uAdd K (.str a) (.str b) H Q := ⟨h, q⟩
theorem r_addT {a b : Addr} {xs ys : List V} (ha : H a = some (.tup xs)) (hb : H b = some (.tup ys)) (hl : xs.length + ys.length ≤ sizeLine) (k : ∀ p H', Same H H' → H' p = some (.tup (xs ++ ys)) → Q (.ref p) H') : uAdd K (.ref a) (.ref b) H Q := by
  refine .inr ⟨a, b, xs, ys, rfl, rfl, SqT.of ha, SqT.of hb, hl, fun e => ?_, fun _ e => ?_, fun _ _ p np => k p _ (same_new np) upd_same⟩
  · exact k b H (Same.refl H) (by rw [e, List.nil_append]; exact hb)
  · exact k a H (Same.refl H) (by rw [e, List.append_nil]; exact ha)
theorem r_addL {a b : Addr} {xs ys : List V} (ha : H a = some (.lst xs)) (hb : H b = some (.lst ys)) (hl : xs.length + ys.length ≤ sizeLine) (k : ∀ p H', H p = none → Same H H' → H' p = some (.lst (xs ++ ys)) → Q (.ref p) H') : uAdd K (.ref a) (.ref b) H Q :=
  .inl ⟨a, b, xs, ys, rfl, rfl, ha, hb, hl, fun p np => k p _ np (same_new np) upd_same⟩
theorem r_I {C : Int → Int → Prop} {g : Int → Int → V} {n m : Int} (h : C n m) (q : Q (g n m) H) : uI C g (.int n) (.int m) H Q := ⟨h, q⟩
theorem r_I0 {g : Int → Int → V} {n m : Int} (q : Q (g n m) H) : uI0 g (.int n) (.int m) H Q := q
theorem r_mulI {n m : Int} (h : CMul n m) (q : Q (.int (n * m)) H) : uMul (.int n) (.int m) H Q := ⟨h, q⟩
theorem r_mulL {a : Addr} {n : Int} {xs : List V} (ha : H a = some (.lst xs)) (h0 : -(2 ^ 63) ≤ n) (h1 : n < 2 ^ 63) (hl : xs.length * n.toNat ≤ sizeLine) (k : ∀ p H', H p = none → Same H H' → H' p = some (.lst (List.replicate n.toNat xs).flatten) → Q (.ref p) H') : uMul (.ref a) (.int n) H Q :=
  ⟨a, n, xs, rfl, rfl, ha, h0, h1, hl, fun p np => k p _ np (same_new np) upd_same⟩
theorem r_eqI {n m : Int} (q : Q (.bl (decide (n = m))) H) : uEq K (.int n) (.int m) H Q := q
theorem r_eqS {n m : Str} (q : Q (.bl (decide (n = m))) H) : uEq K (.str n) (.str m) H Q := q
theorem r_neI {n m : Int} (q : Q (.bl (!decide (n = m))) H) : uNe K (.int n) (.int m) H Q := q
theorem r_neS {n m : Str} (q : Q (.bl (!decide (n = m))) H) : uNe K (.str n) (.str m) H Q := q
theorem r_eqB {n m : Bool} (q : Q (.bl (decide (V.bl n = V.bl m))) H) : uEq K (.bl n) (.bl m) H Q := .inl ⟨rfl, q⟩
theorem r_eqD {a : Addr} {y : V} {d f : PyData} (hx : Dq H (.ref a) d) (hy : Dq H y f) (sd : SeqAt.shaped d = true) (sf : SeqAt.shaped f = true) (q : Q (.bl (PyData.eqv d f)) H) : uEq K (.ref a) y H Q := by
  have z : rEqD K (.ref a) y H Q := ⟨d, f, hx.dp, hy.dp, sd, sf, q⟩
  cases y <;> exact .inr z
theorem r_eqD2 {a : Addr} {x : V} {d f : PyData} (hx : Dq H x d) (hy : Dq H (.ref a) f) (sd : SeqAt.shaped d = true) (sf : SeqAt.shaped f = true) (q : Q (.bl (PyData.eqv d f)) H) : uEq K x (.ref a) H Q := by
  have z : rEqD K x (.ref a) H Q := ⟨d, f, hx.dp, hy.dp, sd, sf, q⟩
  cases x <;> exact .inr z
theorem r_neD {a : Addr} {y : V} {d f : PyData} (hx : Dq H (.ref a) d) (hy : Dq H y f) (sd : SeqAt.shaped d = true) (sf : SeqAt.shaped f = true) (q : Q (.bl (!PyData.eqv d f)) H) : uNe K (.ref a) y H Q := by
  have z : rNeD K (.ref a) y H Q := ⟨d, f, hx.dp, hy.dp, sd, sf, q⟩
  cases y <;> exact .inr z
theorem r_neD2 {a : Addr} {x : V} {d f : PyData} (hx : Dq H x d) (hy : Dq H (.ref a) f) (sd : SeqAt.shaped d = true) (sf : SeqAt.shaped f = true) (q : Q (.bl (!PyData.eqv d f)) H) : uNe K x (.ref a) H Q := by
  have z : rNeD K x (.ref a) H Q := ⟨d, f, hx.dp, hy.dp, sd, sf, q⟩
  cases x <;> exact .inr z
theorem r_isN (q : Q (.bl (decide (x = .non))) H) : uIs x .non H Q := q
theorem r_isB {a b : Bool} (q : Q (.bl (decide (a = b))) H) : uIs (.bl a) (.bl b) H Q := q
theorem r_isnotN (q : Q (.bl (!decide (x = .non))) H) : uIsNot x .non H Q := q
theorem r_isnotB {a b : Bool} (q : Q (.bl (!decide (a = b))) H) : uIsNot (.bl a) (.bl b) H Q := q
theorem r_inS {a b : Str} (q : Q (.bl (occ a b)) H) : uIn K (.str a) (.str b) H Q := q
theorem r_notinS {a b : Str} (q : Q (.bl (!occ a b)) H) : uNotIn K (.str a) (.str b) H Q := q
theorem r_inT {p : Addr} {xs : List V} (h : H p = some (.tup xs)) (hx : flatV x = true) (ha : xs.all flatV = true) (q : Q (.bl (inV x xs)) H) : uIn K x (.ref p) H Q := .inl ⟨p, xs, rfl, .inr (SqT.of h), hx, ha, q⟩
theorem r_inL {p : Addr} {xs : List V} (h : H p = some (.lst xs)) (hx : flatV x = true) (ha : xs.all flatV = true) (q : Q (.bl (inV x xs)) H) : uIn K x (.ref p) H Q := .inl ⟨p, xs, rfl, .inl (SqL.of h), hx, ha, q⟩
theorem r_notinT {p : Addr} {xs : List V} (h : H p = some (.tup xs)) (hx : flatV x = true) (ha : xs.all flatV = true) (q : Q (.bl (!inV x xs)) H) : uNotIn K x (.ref p) H Q := .inl ⟨p, xs, rfl, .inr (SqT.of h), hx, ha, q⟩
theorem r_lenS {z : Str} (h : z.length ≤ sizeLine) (q : Q (.int z.length) H) : uLen K [.str z] H Q := ⟨h, q⟩
theorem r_lenT {p : Addr} {xs : List V} (h : H p = some (.tup xs)) (q : Q (.int xs.length) H) : uLen K [.ref p] H Q := ⟨xs.length, .inr ⟨xs, SqT.of h, rfl⟩, q⟩
theorem r_lenL {p : Addr} {xs : List V} (h : SqL K H p xs) (q : Q (.int xs.length) H) : uLen K [.ref p] H Q := ⟨xs.length, .inl ⟨xs, h, rfl⟩, q⟩
theorem r_intI {n : Int} (q : Q (.int n) H) : uInt [.int n] H Q := q
theorem r_intB {b : Bool} (q : Q (.int (if b then 1 else 0)) H) : uInt [.bl b] H Q := q
theorem r_tupleL {p : Addr} {xs : List V} (h : H p = some (.lst xs)) (k : ∀ p H', H p = none → Same H H' → H' p = some (.tup xs) → Q (.ref p) H') : uTuple K [.ref p] H Q := ⟨xs, .inl ⟨SqL.of h, r_new0 k⟩⟩
theorem r_tupleT {p : Addr} {xs : List V} (h : H p = some (.tup xs)) (q : Q (.ref p) H) : uTuple K [.ref p] H Q := ⟨xs, .inr ⟨SqT.of h, q⟩⟩
theorem r_listT {p : Addr} {xs : List V} (h : H p = some (.tup xs)) (k : ∀ p H', H p = none → Same H H' → H' p = some (.lst xs) → Q (.ref p) H') : uList K [.ref p] H Q := ⟨xs, .inr (SqT.of h), r_new0 k⟩
theorem r_listL {p : Addr} {xs : List V} (h : H p = some (.lst xs)) (k : ∀ p H', H p = none → Same H H' → H' p = some (.lst xs) → Q (.ref p) H') : uList K [.ref p] H Q := ⟨xs, .inl (SqL.of h), r_new0 k⟩
theorem r_isi {n m : String} {b : Bool} (h : tyN H x = some n) (hk : kitB n m = some b) (q : Q (.bl b) H) : uIsi K [x, .ty m] H Q := ⟨n, b, h, hk, q⟩
theorem tyN_t {p : Addr} {xs : List V} (h : H p = some (.tup xs)) : tyN H (.ref p) = some "tuple" := by
  show tyO (H p) = some "tuple"
  rw [h] <;> rfl
theorem tyN_l {p : Addr} {xs : List V} (h : H p = some (.lst xs)) : tyN H (.ref p) = some "list" := by
  show tyO (H p) = some "list"
  rw [h] <;> rfl
theorem r_ixT {p : Addr} {xs : List V} {n : Int} (h : H p = some (.tup xs)) (ha : atI xs n = some v) (q : Q v H) : uIx K (.ref p) (.int n) H Q := ⟨xs, v, .inr (SqT.of h), ha, q⟩
theorem r_ixL {p : Addr} {xs : List V} {n : Int} (h : SqL K H p xs) (ha : atI xs n = some v) (q : Q v H) : uIx K (.ref p) (.int n) H Q := ⟨xs, v, .inl h, ha, q⟩
theorem r_slS {z : Str} {lo hi : Option Int} (h : z.length ≤ sizeLine) (q : Q (.str (cutS z lo hi)) H) : uSl K (.str z) lo hi H Q := ⟨h, q⟩
theorem r_slL {p : Addr} {xs : List V} {lo hi : Option Int} (h : H p = some (.lst xs)) (k : ∀ p H', H p = none → Same H H' → H' p = some (.lst (cutV xs lo hi)) → Q (.ref p) H') : uSl K (.ref p) lo hi H Q := .inl ⟨p, xs, rfl, SqL.of h, r_new0 k⟩
theorem r_S1 {f : Str → Str → V} {a b : Str} (q : Q (f a b) H) : uS1 f (.str a) [.str b] H Q := q
theorem r_S1l {f : Str → Str → V} {a b : Str} (h : a.length ≤ sizeLine) (q : Q (f a b) H) : uS1l f (.str a) [.str b] H Q := ⟨h, q⟩
theorem r_S0 {f : Str → V} {a : Str} (h : a.length ≤ 5592405) (q : Q (f a) H) : uS0 f (.str a) [] H Q := ⟨h, q⟩
theorem r_split {a b : Str} (hb : (b.length == 0) = false) (ha : a.length + 2 ≤ sizeLine) (k : ∀ p H', H p = none → Same H H' → H' p = some (.lst ((Txt.split a b).map V.str)) → Q (.ref p) H') : uSplit (.str a) [.str b] H Q := ⟨hb, ha, r_new0 k⟩
theorem r_join {a : Str} {p : Addr} {ys : List Str} (h : H p = some (.lst (ys.map V.str))) (hl : (ys.map (·.length)).sum + ys.length * a.length ≤ 16777216) (q : Q (.str (Txt.join a ys)) H) : uJoin K (.str a) [.ref p] H Q := ⟨ys, .inl (SqL.of h), hl, q⟩
theorem r_joinT {a : Str} {p : Addr} {ys : List Str} (h : H p = some (.tup (ys.map V.str))) (hl : (ys.map (·.length)).sum + ys.length * a.length ≤ 16777216) (q : Q (.str (Txt.join a ys)) H) : uJoin K (.str a) [.ref p] H Q := ⟨ys, .inr (SqT.of h), hl, q⟩
/-! ### statements -/
theorem r_seq (q : tS (Ends.mk (uS D) D.rt D.bk D.ct) σ H) : tSeq tS uS D σ H := q
theorem r_set (q : te σ H fun x H1 => D.nx (σ.set i (some x)) H1) : tAsg te (gName i) D σ H := q
theorem r_asg {g : TG} (q : te σ H fun x H1 => g x σ H1 D.nx) : tAsg te g D σ H := q
theorem r_gname {QG : L2.St → Hp → Prop} (q : QG (σ.set i (some v)) H) : gName i v σ H QG := q
theorem r_gsub {ts : TSet} {QG : L2.St → Hp → Prop} (q : ta σ H fun o H1 => tb σ H1 fun j H2 => ts o j v H2 fun H3 => QG σ H3) : gSub ta tb ts v σ H QG := q
theorem r_gtup {ts : TGs} {n : Nat} {QG : L2.St → Hp → Prop} {p : Addr} {xs : List V} (h : H p = some (.tup xs)) (hl : xs.length = n) (q : ts xs σ H QG) : gTup K n ts (.ref p) σ H QG := ⟨p, xs, rfl, SqT.of h, hl, q⟩
theorem r_gcons {g : TG} {ts : TGs} {xs : List V} {QG : L2.St → Hp → Prop} (q : g x σ H fun σ' H' => ts xs σ' H' QG) : gCons g ts (x :: xs) σ H QG := ⟨x, xs, rfl, q⟩
theorem r_gnil {QG : L2.St → Hp → Prop} (q : QG σ H) : gNil [] σ H QG := ⟨rfl, q⟩
/-- xs[j] = v, the place known -/
theorem r_setL {a : Addr} {n : Int} {xs : List V} {j : Nat} {Qh : Hp → Prop} (h : H a = some (.lst xs)) (hj : ixN xs.length n = some j) (k : ∀ H', H' a = some (.lst (xs.set j v)) → (∀ b, b ≠ a → H' b = H b) → Qh H') : rSetL (.ref a) (.int n) v H Qh :=
  ⟨a, xs, n, j, rfl, rfl, h, hj, k _ upd_same fun b hb => upd_ne hb⟩
theorem r_par {a b : Nat} (q : tA σ H fun vs H1 => parq a b vs σ D H1) : tPar a b tA D σ H := q
theorem r_par2 {a b : Nat} {v w : V} (q : D.nx ((σ.set a (some v)).set b (some w)) H) : parq a b [v, w] σ D H := ⟨v, w, rfl, q⟩
theorem r_drop (q : te σ H fun _ H1 => D.nx σ H1) : tDrop te D σ H := q
theorem r_ret (q : te σ H D.rt) : tRet te D σ H := q
theorem r_retN (q : D.rt .non H) : tRetN D σ H := q
theorem r_if (q : t σ H fun b H1 => if b = true then tS D σ H1 else uS D σ H1) : tIfS t tS uS D σ H := q
theorem r_next (q : D.nx σ H) : tNext D σ H := q
theorem r_break (q : D.bk σ H) : tBreak D σ H := q
theorem r_cont (q : D.ct σ H) : tCont D σ H := q
theorem r_augI {f : Int → Int → Int} {n : Int} (h : σ[i]? = some (some (.int n))) (q : te σ H fun y H1 => iq y fun m => D.nx (σ.set i (some (.int (f n m)))) H1) : tAug i te (ipI f) D σ H := by
  refine ⟨_, h, ?_⟩
  have e : (fun y H1 => iq y fun m => D.nx (σ.set i (some (.int (f n m)))) H1) = fun y H1 => (ipI f) (.int n) y H1 fun z H2 => D.nx (σ.set i (some z)) H2 := by
    funext y H1
    refine propext ⟨fun ⟨m, e, q⟩ => ⟨n, m, rfl, e, q⟩, fun ⟨a, b, e1, e2, q⟩ => ⟨b, e2, ?_⟩⟩
    cases e1
    exact q
  rw [← e]
  exact q
theorem r_ex1 {P : Int → Prop} {n : Int} (q : P n) : iq (.int n) P := ⟨n, rfl, q⟩
/-- xs.append(v) -/
theorem r_app {l : Addr} {xs : List V} (h : H l = some (.lst xs)) (hl : xs.length < sizeLine) (k : ∀ H', H' l = some (.lst (xs ++ [v])) → (∀ b, b ≠ l → H' b = H b) → Q .non H') : rAppend (.ref l) [v] H Q :=
  ⟨l, xs, v, rfl, rfl, h, hl, k _ upd_same fun b hb => upd_ne hb⟩
/-! ### ways -/
theorem r_ite {p A B : Prop} [Decidable p] (h1 : p → A) (h2 : ¬ p → B) : if decide p = true then A else B := by
  by_cases h : p
  · rw [if_pos (decide_eq_true h)]
    exact h1 h
  · rw [if_neg (by rw [decide_eq_false h]; exact Bool.false_ne_true)]
    exact h2 h
theorem r_iten {p A B : Prop} [Decidable p] (h1 : ¬ p → A) (h2 : p → B) : if (!decide p) = true then A else B := by
  by_cases h : p
  · rw [if_neg (by rw [decide_eq_true h]; exact Bool.false_ne_true)]
    exact h2 h
  · rw [if_pos (by rw [decide_eq_false h] <;> rfl)]
    exact h1 h
theorem r_itb {b : Bool} {A B : Prop} (h1 : b = true → A) (h2 : b = false → B) : if b = true then A else B := by
  cases b with
  | true => exact h1 rfl
  | false => exact h2 rfl
theorem r_iteT {A B : Prop} (h : A) : if true = true then A else B := h
theorem r_iteF {A B : Prop} (h : B) : if false = true then A else B := by
  rw [if_neg Bool.false_ne_true]
  exact h
theorem r_itnT {A B : Prop} (h : B) : if (!true) = true then A else B := by
  rw [if_neg (by decide)]
  exact h
theorem r_itnF {A B : Prop} (h : A) : if (!false) = true then A else B := h
end
end Dk

namespace Dk
open PySem PySem.Spec PyProof.Rows L2
theorem Drw.mono {H H' : Hp} {a : Addr} (s : Same H H') (h : Drw H a) : Drw H' a := let ⟨x, y, e⟩ := h; ⟨x, y, s _ _ e⟩
theorem same_at {H H' : Hp} {a : Addr} {o : HO} (s : Same H H') (h : H a = some o) : H' a = some o := s a o h
theorem Stp.at_ {a b : Addr} {H H' : Hp} {o : HO} (s : Stp a H H') (h : H b = some o) (n : b ≠ a) : H' b = some o := s.fr b o h n
/-- what the top leaves of built-in names: none is hidden -/
structure Bl (mg : Str → Option Value) : Prop where
  b_len : mg "len" = none
  b_int : mg "int" = none
  b_str : mg "str" = none
  b_bool : mg "bool" = none
  b_tuple : mg "tuple" = none
  b_list : mg "list" = none
  b_isinstance : mg "isinstance" = none
  b_range : mg "range" = none
  b_ord : mg "ord" = none
  b_sorted : mg "sorted" = none
  b_min : mg "min" = none
  b_max : mg "max" = none
  b_sum : mg "sum" = none
  b_all : mg "all" = none
  b_any : mg "any" = none
  b_enumerate : mg "enumerate" = none
  b_set : mg "set" = none
  b_zip : mg "zip" = none
  b_dict : mg "dict" = none
  b_reversed : mg "reversed" = none
theorem r_cut {tS uS : TS} {D : Ends} {σ : L2.St} {H : Hp} (M : L2.St → Hp → Prop) (h1 : tS (Ends.mk M D.rt D.bk D.ct) σ H) (h2 : ∀ σ' H', M σ' H' → uS D σ' H') : Evl.tCut tS uS D σ H := ⟨M, h1, h2⟩
theorem atI_nn {α : Type} {xs : List α} {j : Nat} {x : α} (h : xs[j]? = some x) : atI xs (j : Int) = some x := by
  have hl := (List.getElem?_eq_some_iff.mp h).1
  unfold atI ixN
  rw [if_pos (by omega), if_pos (by omega)]
  simpa using h
theorem atI_mod {ns : List Int} (h : 0 < ns.length) (n : Int) : ∃ v, atI (ns.map V.int) (n % (ns.length : Int)) = some (.int v) := by
  have h1 : 0 ≤ n % (ns.length : Int) := Int.emod_nonneg _ (by omega)
  have h2 : n % (ns.length : Int) < ns.length := Int.emod_lt_of_pos _ (by omega)
  obtain ⟨j, hj⟩ : ∃ j : Nat, n % (ns.length : Int) = j := ⟨(n % (ns.length : Int)).toNat, by omega⟩
  rw [hj]
  have hl : j < ns.length := by omega
  exact ⟨ns[j], atI_nn (by rw [List.getElem?_map, List.getElem?_eq_getElem hl] <;> rfl)⟩
/-- a list is changed that is the law's own state -/
theorem Stp.but {a : Addr} {H H1 H2 : Hp} (s : Stp a H H1) {x y : Int} (h : H2 a = some (.lst [.int x, .int y])) (k : ∀ b, b ≠ a → H2 b = H1 b) : Stp a H H2 := by
  obtain ⟨u, v, e⟩ := s.drw
  have na : ∀ b o, H1 b = some o → (∀ xs, o ≠ .lst xs) → b ≠ a := fun b o q n z => by
    rw [z, e] at q
    exact n _ (Option.some.inj q).symm
  exact ⟨fun b o q n => by rw [k b n]; exact s.fr b o q n,
    ⟨fun b xs q => by rw [k b (na _ _ (s.gro.tup b xs q) fun _ z => by cases z)]; exact s.gro.tup b xs q, fun b o u q => by rw [k b (na _ _ (s.gro.frz b o u q) fun _ z => by cases z)]; exact s.gro.frz b o u q⟩, ⟨x, y, h⟩⟩
theorem from_ {H H' : Hp} {a : Addr} {o : HO} (h : H a = some o) (s : H a = some o → H' a = some o) : H' a = some o := s h
/-- a promise that no error is asked of: nothing leaves the def -/
theorem fnok_0 {P : Program} {w : World} {K : PySem.W.Frag} {mg : Str → Option Value} {base : Heap} {k : Nat} {f : Addr} {fd : FuncData} {ps : List Str} {sp : Sp} (F : FnOk P w K mg base (L2.CX P w) k f fd ps sp) (hE : ∀ vs H Q E, sp vs H Q E → sp vs H Q E0) :
    FnOk P w K mg base CX0 k f fd ps sp :=
  ⟨F.len, fun A outer s H args us vs Q E hr e0 hb r h => codeAny_mono (F.run A outer s H args us vs Q E0 hr e0 hb r (hE _ _ _ _ h)) fun r s' hq => by
    cases r with
    | error e =>
      obtain ⟨_, _, _, _, _, _, _, _, _, _, _, _, z⟩ := hq
      exact z.elim
    | ok fl => cases fl <;> exact hq⟩
/-! short texts -/
abbrev trS : Str := Str.ofString "Received: by "
abbrev atS : Str := Str.ofString "@"
abbrev eS : Str := Str.ofString ""
abbrev dotS : Str := Str.ofString "."
theorem trS_len : (Str.ofString "Received: by ").length = 13 := by decide +kernel
theorem atS_len : (Str.ofString "@").length = 1 := by decide +kernel
theorem eS_len : (Str.ofString "").length = 0 := by decide +kernel
theorem dotS_len : (Str.ofString ".").length = 1 := by decide +kernel
/-! isinstance of built-in values -/
theorem kit_NoneType_int : kitB "NoneType" "int" = some false := by decide +kernel
theorem kit_NoneType_bool : kitB "NoneType" "bool" = some false := by decide +kernel
theorem kit_NoneType_tuple : kitB "NoneType" "tuple" = some false := by decide +kernel
theorem kit_NoneType_str : kitB "NoneType" "str" = some false := by decide +kernel
theorem kit_NoneType_list : kitB "NoneType" "list" = some false := by decide +kernel
theorem kit_bool_int : kitB "bool" "int" = some true := by decide +kernel
theorem kit_bool_bool : kitB "bool" "bool" = some true := by decide +kernel
theorem kit_bool_tuple : kitB "bool" "tuple" = some false := by decide +kernel
theorem kit_bool_str : kitB "bool" "str" = some false := by decide +kernel
theorem kit_bool_list : kitB "bool" "list" = some false := by decide +kernel
theorem kit_int_int : kitB "int" "int" = some true := by decide +kernel
theorem kit_int_bool : kitB "int" "bool" = some false := by decide +kernel
theorem kit_int_tuple : kitB "int" "tuple" = some false := by decide +kernel
theorem kit_int_str : kitB "int" "str" = some false := by decide +kernel
theorem kit_int_list : kitB "int" "list" = some false := by decide +kernel
theorem kit_str_int : kitB "str" "int" = some false := by decide +kernel
theorem kit_str_bool : kitB "str" "bool" = some false := by decide +kernel
theorem kit_str_tuple : kitB "str" "tuple" = some false := by decide +kernel
theorem kit_str_str : kitB "str" "str" = some true := by decide +kernel
theorem kit_str_list : kitB "str" "list" = some false := by decide +kernel
theorem kit_list_int : kitB "list" "int" = some false := by decide +kernel
theorem kit_list_bool : kitB "list" "bool" = some false := by decide +kernel
theorem kit_list_tuple : kitB "list" "tuple" = some false := by decide +kernel
theorem kit_list_str : kitB "list" "str" = some false := by decide +kernel
theorem kit_list_list : kitB "list" "list" = some true := by decide +kernel
theorem kit_tuple_int : kitB "tuple" "int" = some false := by decide +kernel
theorem kit_tuple_bool : kitB "tuple" "bool" = some false := by decide +kernel
theorem kit_tuple_tuple : kitB "tuple" "tuple" = some true := by decide +kernel
theorem kit_tuple_str : kitB "tuple" "str" = some false := by decide +kernel
theorem kit_tuple_list : kitB "tuple" "list" = some false := by decide +kernel
/-! promises by the number of the arguments -/
def sp1 (f : V → Hp → VK → XK → Prop) : Sp := fun vs H Q E => match vs with
  | [v0] => f v0 H Q E
  | _ => False
theorem sp1_ex {f : V → Hp → VK → XK → Prop} {vs : List V} {H : Hp} {Q : VK} {E : XK} (h : sp1 f vs H Q E) : ∃ v0, vs = [v0] ∧ f v0 H Q E := by
  match vs, h with
  | [v0], h => exact ⟨_, rfl, h⟩
theorem sp1_len {f : V → Hp → VK → XK → Prop} {vs : List V} {H : Hp} {Q : VK} {E : XK} (h : sp1 f vs H Q E) : vs.length = 1 := by
  match vs, h with
  | [v0], h => rfl
def sp2 (f : V → V → Hp → VK → XK → Prop) : Sp := fun vs H Q E => match vs with
  | [v0, v1] => f v0 v1 H Q E
  | _ => False
theorem sp2_ex {f : V → V → Hp → VK → XK → Prop} {vs : List V} {H : Hp} {Q : VK} {E : XK} (h : sp2 f vs H Q E) : ∃ v0 v1, vs = [v0, v1] ∧ f v0 v1 H Q E := by
  match vs, h with
  | [v0, v1], h => exact ⟨_, _, rfl, h⟩
theorem sp2_len {f : V → V → Hp → VK → XK → Prop} {vs : List V} {H : Hp} {Q : VK} {E : XK} (h : sp2 f vs H Q E) : vs.length = 2 := by
  match vs, h with
  | [v0, v1], h => rfl
def sp3 (f : V → V → V → Hp → VK → XK → Prop) : Sp := fun vs H Q E => match vs with
  | [v0, v1, v2] => f v0 v1 v2 H Q E
  | _ => False
theorem sp3_ex {f : V → V → V → Hp → VK → XK → Prop} {vs : List V} {H : Hp} {Q : VK} {E : XK} (h : sp3 f vs H Q E) : ∃ v0 v1 v2, vs = [v0, v1, v2] ∧ f v0 v1 v2 H Q E := by
  match vs, h with
  | [v0, v1, v2], h => exact ⟨_, _, _, rfl, h⟩
theorem sp3_len {f : V → V → V → Hp → VK → XK → Prop} {vs : List V} {H : Hp} {Q : VK} {E : XK} (h : sp3 f vs H Q E) : vs.length = 3 := by
  match vs, h with
  | [v0, v1, v2], h => rfl
def sp4 (f : V → V → V → V → Hp → VK → XK → Prop) : Sp := fun vs H Q E => match vs with
  | [v0, v1, v2, v3] => f v0 v1 v2 v3 H Q E
  | _ => False
theorem sp4_ex {f : V → V → V → V → Hp → VK → XK → Prop} {vs : List V} {H : Hp} {Q : VK} {E : XK} (h : sp4 f vs H Q E) : ∃ v0 v1 v2 v3, vs = [v0, v1, v2, v3] ∧ f v0 v1 v2 v3 H Q E := by
  match vs, h with
  | [v0, v1, v2, v3], h => exact ⟨_, _, _, _, rfl, h⟩
theorem sp4_len {f : V → V → V → V → Hp → VK → XK → Prop} {vs : List V} {H : Hp} {Q : VK} {E : XK} (h : sp4 f vs H Q E) : vs.length = 4 := by
  match vs, h with
  | [v0, v1, v2, v3], h => rfl
def sp5 (f : V → V → V → V → V → Hp → VK → XK → Prop) : Sp := fun vs H Q E => match vs with
  | [v0, v1, v2, v3, v4] => f v0 v1 v2 v3 v4 H Q E
  | _ => False
theorem sp5_ex {f : V → V → V → V → V → Hp → VK → XK → Prop} {vs : List V} {H : Hp} {Q : VK} {E : XK} (h : sp5 f vs H Q E) : ∃ v0 v1 v2 v3 v4, vs = [v0, v1, v2, v3, v4] ∧ f v0 v1 v2 v3 v4 H Q E := by
  match vs, h with
  | [v0, v1, v2, v3, v4], h => exact ⟨_, _, _, _, _, rfl, h⟩
theorem sp5_len {f : V → V → V → V → V → Hp → VK → XK → Prop} {vs : List V} {H : Hp} {Q : VK} {E : XK} (h : sp5 f vs H Q E) : vs.length = 5 := by
  match vs, h with
  | [v0, v1, v2, v3, v4], h => rfl
def sp6 (f : V → V → V → V → V → V → Hp → VK → XK → Prop) : Sp := fun vs H Q E => match vs with
  | [v0, v1, v2, v3, v4, v5] => f v0 v1 v2 v3 v4 v5 H Q E
  | _ => False
theorem sp6_ex {f : V → V → V → V → V → V → Hp → VK → XK → Prop} {vs : List V} {H : Hp} {Q : VK} {E : XK} (h : sp6 f vs H Q E) : ∃ v0 v1 v2 v3 v4 v5, vs = [v0, v1, v2, v3, v4, v5] ∧ f v0 v1 v2 v3 v4 v5 H Q E := by
  match vs, h with
  | [v0, v1, v2, v3, v4, v5], h => exact ⟨_, _, _, _, _, _, rfl, h⟩
theorem sp6_len {f : V → V → V → V → V → V → Hp → VK → XK → Prop} {vs : List V} {H : Hp} {Q : VK} {E : XK} (h : sp6 f vs H Q E) : vs.length = 6 := by
  match vs, h with
  | [v0, v1, v2, v3, v4, v5], h => rfl
def sp7 (f : V → V → V → V → V → V → V → Hp → VK → XK → Prop) : Sp := fun vs H Q E => match vs with
  | [v0, v1, v2, v3, v4, v5, v6] => f v0 v1 v2 v3 v4 v5 v6 H Q E
  | _ => False
theorem sp7_ex {f : V → V → V → V → V → V → V → Hp → VK → XK → Prop} {vs : List V} {H : Hp} {Q : VK} {E : XK} (h : sp7 f vs H Q E) : ∃ v0 v1 v2 v3 v4 v5 v6, vs = [v0, v1, v2, v3, v4, v5, v6] ∧ f v0 v1 v2 v3 v4 v5 v6 H Q E := by
  match vs, h with
  | [v0, v1, v2, v3, v4, v5, v6], h => exact ⟨_, _, _, _, _, _, _, rfl, h⟩
theorem sp7_len {f : V → V → V → V → V → V → V → Hp → VK → XK → Prop} {vs : List V} {H : Hp} {Q : VK} {E : XK} (h : sp7 f vs H Q E) : vs.length = 7 := by
  match vs, h with
  | [v0, v1, v2, v3, v4, v5, v6], h => rfl
def sp8 (f : V → V → V → V → V → V → V → V → Hp → VK → XK → Prop) : Sp := fun vs H Q E => match vs with
  | [v0, v1, v2, v3, v4, v5, v6, v7] => f v0 v1 v2 v3 v4 v5 v6 v7 H Q E
  | _ => False
theorem sp8_ex {f : V → V → V → V → V → V → V → V → Hp → VK → XK → Prop} {vs : List V} {H : Hp} {Q : VK} {E : XK} (h : sp8 f vs H Q E) : ∃ v0 v1 v2 v3 v4 v5 v6 v7, vs = [v0, v1, v2, v3, v4, v5, v6, v7] ∧ f v0 v1 v2 v3 v4 v5 v6 v7 H Q E := by
  match vs, h with
  | [v0, v1, v2, v3, v4, v5, v6, v7], h => exact ⟨_, _, _, _, _, _, _, _, rfl, h⟩
theorem sp8_len {f : V → V → V → V → V → V → V → V → Hp → VK → XK → Prop} {vs : List V} {H : Hp} {Q : VK} {E : XK} (h : sp8 f vs H Q E) : vs.length = 8 := by
  match vs, h with
  | [v0, v1, v2, v3, v4, v5, v6, v7], h => rfl
def sp9 (f : V → V → V → V → V → V → V → V → V → Hp → VK → XK → Prop) : Sp := fun vs H Q E => match vs with
  | [v0, v1, v2, v3, v4, v5, v6, v7, v8] => f v0 v1 v2 v3 v4 v5 v6 v7 v8 H Q E
  | _ => False
theorem sp9_ex {f : V → V → V → V → V → V → V → V → V → Hp → VK → XK → Prop} {vs : List V} {H : Hp} {Q : VK} {E : XK} (h : sp9 f vs H Q E) : ∃ v0 v1 v2 v3 v4 v5 v6 v7 v8, vs = [v0, v1, v2, v3, v4, v5, v6, v7, v8] ∧ f v0 v1 v2 v3 v4 v5 v6 v7 v8 H Q E := by
  match vs, h with
  | [v0, v1, v2, v3, v4, v5, v6, v7, v8], h => exact ⟨_, _, _, _, _, _, _, _, _, rfl, h⟩
theorem sp9_len {f : V → V → V → V → V → V → V → V → V → Hp → VK → XK → Prop} {vs : List V} {H : Hp} {Q : VK} {E : XK} (h : sp9 f vs H Q E) : vs.length = 9 := by
  match vs, h with
  | [v0, v1, v2, v3, v4, v5, v6, v7, v8], h => rfl
def sp10 (f : V → V → V → V → V → V → V → V → V → V → Hp → VK → XK → Prop) : Sp := fun vs H Q E => match vs with
  | [v0, v1, v2, v3, v4, v5, v6, v7, v8, v9] => f v0 v1 v2 v3 v4 v5 v6 v7 v8 v9 H Q E
  | _ => False
theorem sp10_ex {f : V → V → V → V → V → V → V → V → V → V → Hp → VK → XK → Prop} {vs : List V} {H : Hp} {Q : VK} {E : XK} (h : sp10 f vs H Q E) : ∃ v0 v1 v2 v3 v4 v5 v6 v7 v8 v9, vs = [v0, v1, v2, v3, v4, v5, v6, v7, v8, v9] ∧ f v0 v1 v2 v3 v4 v5 v6 v7 v8 v9 H Q E := by
  match vs, h with
  | [v0, v1, v2, v3, v4, v5, v6, v7, v8, v9], h => exact ⟨_, _, _, _, _, _, _, _, _, _, rfl, h⟩
theorem sp10_len {f : V → V → V → V → V → V → V → V → V → V → Hp → VK → XK → Prop} {vs : List V} {H : Hp} {Q : VK} {E : XK} (h : sp10 f vs H Q E) : vs.length = 10 := by
  match vs, h with
  | [v0, v1, v2, v3, v4, v5, v6, v7, v8, v9], h => rfl
end Dk

/-! Comprehensions and loops whose turns draw; texts as lists of codes. -/
namespace Dk
open PySem PySem.Spec PyProof.Rows L2 TL
section
variable {K : PySem.W.Frag} {σ : L2.St} {H : Hp} {Q : VK} {te : TE} {tt : TT} {vs : List Nat} {j : Nat} {tA : TA} {a : Addr}
theorem r_tyes {QB : Bool → Hp → Prop} (q : QB true H) : tYes σ H QB := q
/-- [e for j in range(n)], n known -/
def rlq (xs : List V) (j : Nat) (tt : TT) (te : TE) (vs : List Nat) (σ : L2.St) (H : Hp) (Q : VK) : Prop := tLc (iRng1 fun _ H1 QA => QA xs H1) (gName j) tt te vs σ H Q
theorem r_lcr (q : tA σ H fun xs H1 => rlq xs j tt te vs σ H1 Q) : tLc (iRng1 tA) (gName j) tt te vs σ H Q := q
theorem Dqs.all_strs {H : Hp} {P : Str → Prop} : ∀ {ds : List PyData} {ys : List V}, Dqs H ys ds → (∀ (i : Nat) d, ds[i]? = some d → ∃ s, d = PyData.str s ∧ P s) → ∃ ss : List Str, ys = ss.map V.str ∧ ss.length = ds.length ∧ ∀ s ∈ ss, P s
  | [], _, h, _ => by
    cases h
    exact ⟨[], rfl, rfl, fun _ z => nomatch z⟩
  | d :: ds, _, h, hp => by
    cases h with
    | cons h1 h2 =>
      obtain ⟨s, e, p⟩ := hp 0 d rfl
      subst e
      cases h1
      obtain ⟨ss, e1, e2, e3⟩ := Dqs.all_strs h2 fun i d q => hp (i + 1) d (by simpa using q)
      refine ⟨s :: ss, by rw [e1] <;> rfl, by simp [e2], fun z hz => ?_⟩
      rcases List.mem_cons.mp hz with e | hz
      · rw [e]
        exact p
      · exact e3 z hz
/-- each turn draws and gives a datum -/
theorem lcr_draw {n : Int} (PP : Nat → PyData → Prop) (hd : Drw H a) (h1 : -(2 ^ 62) ≤ n) (h2 : n < 10000000) (hw : ∀ x, wipe ((wipe σ vs).set j (some x)) vs = wipe σ vs)
    (el : ∀ (i : Nat) (H1 : Hp) (Q1 : VK), (i : Int) < n → Stp a H H1 → (∀ y d H2, Stp a H1 H2 → Dq H2 y d → PP i d → Q1 y H2) → te ((wipe σ vs).set j (some (.int i))) H1 Q1)
    (k : ∀ D H' ys ds, H D = none → Stp a H H' → H' D = some (.lst ys) → Dqs H' ys ds → ds.length = n.toNat → (∀ (i : Nat) d, ds[i]? = some d → PP i d) → Q (.ref D) H') : rlq [.int n] j tYes te vs σ H Q := by
  refine ⟨n, rfl, h1, by omega, fun D hD => ?_⟩
  have aD : a ≠ D := by
    intro e
    obtain ⟨u, v, q⟩ := hd
    rw [e, hD] at q
    cases q
  refine lc_range (lo := 0) (n := n.toNat) (fun i H' => ∃ ys ds, Stp a H H' ∧ H' D = some (.lst ys) ∧ Dqs H' ys ds ∧ ds.length = i ∧ ∀ (i : Nat) d, ds[i]? = some d → PP i d) ?_ ?_ ?_
  · exact ⟨[], [], (Stp.refl hd).new hD hd, upd_same, .nil, rfl, fun i d e => by simp at e⟩
  · rintro i H' hi ⟨ys, ds, s1, hl, dq, el1, pp⟩
    have e0 : (0 : Int) + (i : Int) = (i : Int) := Int.zero_add _
    rw [e0]
    refine ⟨hw _, r_tyes (r_iteT ?_)⟩
    refine el i H' _ (by omega) s1 fun y d H2 s2 hy p => ?_
    have s12 := s1.trans s2
    refine ⟨ys, s2.at_ hl (Ne.symm aD), ?_, ?_⟩
    · have hlen := dq.length
      rw [sizeLine_eq]
      omega
    · have s3 : Stp a H (upd H2 D (.lst (ys ++ [y]))) := s12.new hD hd
      have g : Gro H2 (upd H2 D (.lst (ys ++ [y]))) := by
        have hD2 : H2 D = some (.lst ys) := s2.at_ hl (Ne.symm aD)
        refine ⟨fun b xs e => ?_, fun b o u e => ?_⟩
        · rw [upd_ne (ne_of e hD2 (by intro z; cases z))]
          exact e
        · rw [upd_ne (ne_of e hD2 (by intro z; cases z))]
          exact e
      refine ⟨ys ++ [y], ds ++ [d], s3, upd_same, ((dq.mono (s2.gro)).snoc hy).mono g, by simp [el1], fun i' d' e => ?_⟩
      rw [List.getElem?_append] at e
      split at e
      · exact pp i' d' e
      · rename_i hge
        have hi' : i' - ds.length = 0 := by
          cases hh : i' - ds.length with
          | zero => rfl
          | succ m =>
            rw [hh] at e
            simp at e
        rw [hi'] at e
        simp only [List.getElem?_cons_zero, Option.some.injEq] at e
        have hii : i' = i := by omega
        rw [hii, ← e]
        exact p
  · rintro H' ⟨ys, ds, s1, hl, dq, el1, pp⟩
    exact k D H' ys ds hD s1 hl dq el1 pp
end
section
variable {K : PySem.W.Frag} {σ : L2.St} {H : Hp} {Q : VK} {te tl' : TE} {tt : TT} {vs : List Nat} {j : Nat} {tA : TA} {tb : TS} {D : Ends} {g : TG} {x : V}
/-- for j in range(n) -/
def rfq (xs : List V) (g : TG) (tb : TS) (D : Ends) (σ : L2.St) (H : Hp) : Prop := tFor (iRng1 fun _ H1 QA => QA xs H1) g tb D σ H
theorem r_forr (q : tA σ H fun xs H1 => rfq xs g tb D σ H1) : tFor (iRng1 tA) g tb D σ H := q
theorem for_rng {n : Int} (Pv : Nat → L2.St → Hp → Prop) (h1 : -(2 ^ 62) ≤ n) (h2 : n < 2 ^ 62) (h0 : Pv 0 σ H)
    (hs : ∀ (i : Nat) σ' H', (i : Int) < n → Pv i σ' H' → tb (Ends.mk (Pv (i + 1)) D.rt D.nx (Pv (i + 1))) (σ'.set j (some (.int i))) H') (hd : ∀ σ' H', Pv n.toNat σ' H' → D.nx σ' H') : rfq [.int n] (gName j) tb D σ H := by
  refine ⟨n, rfl, h1, h2, for_range (lo := 0) (n := n.toNat) Pv h0 (fun i σ' H' hi hp => ?_) hd⟩
  have e0 : (0 : Int) + (i : Int) = (i : Int) := Int.zero_add _
  rw [e0]
  exact hs i σ' H' (by omega) hp
/-- for .. in a list, a tuple, a text -/
def fuq (K : PySem.W.Frag) (x : V) (g : TG) (tb : TS) (D : Ends) (σ : L2.St) (H : Hp) : Prop := tFor (iU K (tC x)) g tb D σ H
theorem r_foru (q : te σ H fun x H1 => fuq K x g tb D σ H1) : tFor (iU K te) g tb D σ H := q
theorem for_T {p : Addr} {xs : List V} (Pv : Nat → L2.St → Hp → Prop) (h : H p = some (.tup xs)) (h0 : Pv 0 σ H) (hl : ∀ i σ' H', i ≤ xs.length → Pv i σ' H' → H' p = some (.tup xs))
    (hs : ∀ (i : Nat) x σ' H', xs[i]? = some x → Pv i σ' H' → g x σ' H' fun σ2 H2 => tb (Ends.mk (Pv (i + 1)) D.rt D.nx (Pv (i + 1))) σ2 H2) (hd : ∀ σ' H', Pv xs.length σ' H' → D.nx σ' H') : fuq K (.ref p) g tb D σ H :=
  .inr ⟨⟨xs, SqT.of h⟩, for_tup (xs := xs) Pv h0 (fun i σ' H' hi q => SqT.of (hl i σ' H' hi q)) hs hd⟩
theorem for_L {p : Addr} {xs : List V} (Pv : Nat → L2.St → Hp → Prop) (h : SqL K H p xs) (h0 : Pv 0 σ H) (hl : ∀ i σ' H', i ≤ xs.length → Pv i σ' H' → SqL K H' p xs)
    (hs : ∀ (i : Nat) x σ' H', xs[i]? = some x → Pv i σ' H' → g x σ' H' fun σ2 H2 => tb (Ends.mk (Pv (i + 1)) D.rt D.nx (Pv (i + 1))) σ2 H2) (hd : ∀ σ' H', Pv xs.length σ' H' → D.nx σ' H') : fuq K (.ref p) g tb D σ H :=
  .inl ⟨⟨xs, h⟩, for_list (xs := xs) Pv h0 hl hs hd⟩
/-- [e for .. in a list, a tuple, a text] -/
def luq (K : PySem.W.Frag) (x : V) (g : TG) (tt : TT) (te : TE) (vs : List Nat) (σ : L2.St) (H : Hp) (Q : VK) : Prop := tLc (iU K (tC x)) g tt te vs σ H Q
theorem r_lcu (q : tl' σ H fun x H1 => luq K x g tt te vs σ H1 Q) : tLc (iU K tl') g tt te vs σ H Q := q
end
/-- a kind of step of the heap, from H on -/
structure Sr (H : Hp) (S : Hp → Hp → Prop) : Prop where
  refl : S H H
  trans : ∀ {H1 H2 : Hp}, S H H1 → S H1 H2 → S H H2
  gro : ∀ {H1 H2 : Hp}, S H1 H2 → Gro H1 H2
  chg : ∀ {H' : Hp} {D : Addr} {o : HO}, S H H' → H D = none → S H (upd H' D o)
  keep : ∀ {H1 H2 : Hp} {D : Addr} {o : HO}, H D = none → S H H1 → S H1 H2 → H1 D = some o → H2 D = some o
theorem sr_same (H : Hp) : Sr H Same :=
  ⟨Same.refl H, fun a b => a.trans b, fun s => Gro.same s, fun s hD b u e => by rw [upd_ne (ne_of_none e hD)]; exact s b u e, fun _ _ s h => s _ _ h⟩
theorem ne_drw {H : Hp} {a D : Addr} (hd : Drw H a) (hD : H D = none) : D ≠ a := by
  intro e
  obtain ⟨u, v, q⟩ := hd
  rw [← e, hD] at q
  cases q
theorem ne_drw' {H : Hp} {a D : Addr} (hD : H D = none) (hd : Drw H a) : D ≠ a := ne_drw hd hD
theorem sr_stp {H : Hp} {a : Addr} (hd : Drw H a) : Sr H (Stp a) :=
  ⟨Stp.refl hd, fun a b => a.trans b, fun s => s.gro, fun s hD => s.new hD hd, fun hD _ s h => s.at_ h (ne_drw hd hD)⟩
section
variable {K : PySem.W.Frag} {σ : L2.St} {H : Hp} {Q : VK} {te tl' : TE} {tt : TT} {vs : List Nat} {j : Nat} {g : TG} {J : It} {n : Nat} {G : Hp → Prop} {Y : Nat → Hp → V → Hp → Prop} {S : Hp → Hp → Prop}
theorem lc_gen (w : Walk J n G Y) (sr : Sr H S) (Rv : Nat → List PyData → Prop) (hG : ∀ H', S H H' → G H') (hn : n < 10000000) (h0 : Rv 0 [])
    (el : ∀ (i : Nat) x (H1 H1' : Hp) (ds : List PyData) (Q1 : VK) (Qn : Hp → Prop), i < n → S H H1 → Y i H1 x H1' → Rv i ds →
      (∀ y d H2, S H1 H2 → Dq H2 y d → Rv (i + 1) (ds ++ [d]) → Q1 y H2) → (∀ H2, S H1 H2 → Rv (i + 1) ds → Qn H2) →
      g x (wipe σ vs) H1' fun σ2 H2 => wipe σ2 vs = wipe σ vs ∧ tt σ2 H2 fun b H3 => if b = true then te σ2 H3 Q1 else Qn H3)
    (k : ∀ D H' ys ds, H D = none → S H H' → H' D = some (.lst ys) → Dqs H' ys ds → Rv n ds → Q (.ref D) H') :
    ∀ D, H D = none → ∃ W : Nat → Nat → Hp → Prop, (∃ m, W 0 m (upd H D (.lst []))) ∧ ∀ i m H, W i m H →
      (J.stop i H ∧ Q (.ref D) H) ∨ (J.go i H ∧ ∃ Nx : Hp → Prop, (∀ H', Nx H' → ∃ m', m' < m ∧ W (i + 1) m' H') ∧ ∀ x H', J.yld i H x H' → g x (wipe σ vs) H' fun σ2 H2 => wipe σ2 vs = wipe σ vs ∧ tt σ2 H2 fun b H3 =>
        if b = true then te σ2 H3 fun y H4 => ∃ acc, H4 D = some (.lst acc) ∧ acc.length < sizeLine ∧ Nx (upd H4 D (.lst (acc ++ [y]))) else Nx H3) := by
  intro D hD
  refine lc_it w (Qd := fun H' => Q (.ref D) H') (fun i H' => ∃ ys ds, S H H' ∧ H' D = some (.lst ys) ∧ Dqs H' ys ds ∧ ds.length ≤ i ∧ Rv i ds) ?_ (fun i H' _ ⟨_, _, s, _⟩ => hG H' s) ?_ ?_
  · exact ⟨[], [], sr.chg sr.refl hD, upd_same, .nil, Nat.le_refl _, h0⟩
  · rintro i x H1 H1' hi ⟨ys, ds, s1, hl, dq, hle, rv⟩ hy
    refine el i x H1 H1' ds _ _ hi s1 hy rv (fun y d H2 s2 hyd r2 => ?_) (fun H2 s2 r2 => ?_)
    · have hD2 := sr.keep hD s1 s2 hl
      have s12 := sr.trans s1 s2
      have gg : Gro H2 (upd H2 D (.lst (ys ++ [y]))) := by
        refine ⟨fun b xs e => ?_, fun b o u e => ?_⟩
        · rw [upd_ne (ne_of e hD2 (by intro z; cases z))]
          exact e
        · rw [upd_ne (ne_of e hD2 (by intro z; cases z))]
          exact e
      have hlen := dq.length
      refine ⟨ys, hD2, by rw [sizeLine_eq]; omega, ys ++ [y], ds ++ [d], sr.chg s12 hD, upd_same, ((dq.mono (sr.gro s2)).snoc hyd).mono gg, by simp; omega, r2⟩
    · exact ⟨ys, ds, sr.trans s1 s2, sr.keep hD s1 s2 hl, dq.mono (sr.gro s2), by omega, r2⟩
  · rintro H' ⟨ys, ds, s1, hl, dq, hle, rv⟩
    exact k D H' ys ds hD s1 hl dq rv
/-- over a tuple, a list that stands: the target a name -/
theorem lc_T {p : Addr} {xs : List V} (h : H p = some (.tup xs)) (sr : Sr H S) (Rv : Nat → List PyData → Prop) (hn : xs.length < 10000000) (h0 : Rv 0 []) (hw : ∀ x, wipe ((wipe σ vs).set j (some x)) vs = wipe σ vs)
    (el : ∀ (i : Nat) x (H1 : Hp) (ds : List PyData) (Q1 : VK) (Qn : Hp → Prop), xs[i]? = some x → S H H1 → Rv i ds →
      (∀ y d H2, S H1 H2 → Dq H2 y d → Rv (i + 1) (ds ++ [d]) → Q1 y H2) → (∀ H2, S H1 H2 → Rv (i + 1) ds → Qn H2) → tt ((wipe σ vs).set j (some x)) H1 fun b H3 => if b = true then te ((wipe σ vs).set j (some x)) H3 Q1 else Qn H3)
    (k : ∀ D H' ys ds, H D = none → S H H' → H' D = some (.lst ys) → Dqs H' ys ds → Rv xs.length ds → Q (.ref D) H') : luq K (.ref p) (gName j) tt te vs σ H Q :=
  .inr ⟨⟨xs, SqT.of h⟩, lc_gen (walk_tup (xs := xs)) sr Rv (fun H' s => SqT.of ((sr.gro s).tup _ _ h)) hn h0 (fun i x H1 H1' ds Q1 Qn hi s1 hy rv k1 k2 => by
    obtain ⟨rfl, hy⟩ := hy
    exact ⟨hw x, el i x H1' ds Q1 Qn hy s1 rv k1 k2⟩) k⟩
theorem lc_L {p : Addr} {xs : List V} (h : H p = some (.lst xs)) (hk : ∀ H', S H H' → H' p = some (.lst xs)) (sr : Sr H S) (Rv : Nat → List PyData → Prop) (hn : xs.length < 10000000) (h0 : Rv 0 []) (hw : ∀ x, wipe ((wipe σ vs).set j (some x)) vs = wipe σ vs)
    (el : ∀ (i : Nat) x (H1 : Hp) (ds : List PyData) (Q1 : VK) (Qn : Hp → Prop), xs[i]? = some x → S H H1 → Rv i ds →
      (∀ y d H2, S H1 H2 → Dq H2 y d → Rv (i + 1) (ds ++ [d]) → Q1 y H2) → (∀ H2, S H1 H2 → Rv (i + 1) ds → Qn H2) → tt ((wipe σ vs).set j (some x)) H1 fun b H3 => if b = true then te ((wipe σ vs).set j (some x)) H3 Q1 else Qn H3)
    (k : ∀ D H' ys ds, H D = none → S H H' → H' D = some (.lst ys) → Dqs H' ys ds → Rv xs.length ds → Q (.ref D) H') : luq K (.ref p) (gName j) tt te vs σ H Q :=
  .inl ⟨⟨xs, SqL.of h⟩, lc_gen (walk_list (xs := xs)) sr Rv (fun H' s => SqL.of (hk H' s)) hn h0 (fun i x H1 H1' ds Q1 Qn hi s1 hy rv k1 k2 => by
    obtain ⟨rfl, hy⟩ := hy
    exact ⟨hw x, el i x H1' ds Q1 Qn hy s1 rv k1 k2⟩) k⟩
/-- over the signs of a text -/
theorem lc_S {z : Str} (sr : Sr H S) (Rv : Nat → List PyData → Prop) (hn : z.length < 10000000) (h0 : Rv 0 []) (hw : ∀ x, wipe ((wipe σ vs).set j (some x)) vs = wipe σ vs)
    (el : ∀ (i : Nat) (c : Nat) (H1 : Hp) (ds : List PyData) (Q1 : VK) (Qn : Hp → Prop), (tl z)[i]? = some c → S H H1 → Rv i ds →
      (∀ y d H2, S H1 H2 → Dq H2 y d → Rv (i + 1) (ds ++ [d]) → Q1 y H2) → (∀ H2, S H1 H2 → Rv (i + 1) ds → Qn H2) → tt ((wipe σ vs).set j (some (.str ⟨#[c]⟩))) H1 fun b H3 => if b = true then te ((wipe σ vs).set j (some (.str ⟨#[c]⟩))) H3 Q1 else Qn H3)
    (k : ∀ D H' ys ds, H D = none → S H H' → H' D = some (.lst ys) → Dqs H' ys ds → Rv z.length ds → Q (.ref D) H') : luq K (.str z) (gName j) tt te vs σ H Q :=
  lc_gen (walk_str (z := z)) sr Rv (fun H' s => trivial) hn h0 (fun i x H1 H1' ds Q1 Qn hi s1 hy rv k1 k2 => by
    obtain ⟨rfl, c, hc, rfl⟩ := hy
    exact ⟨hw _, el i c H1' ds Q1 Qn (by rw [Array.getElem?_toList]; exact hc) s1 rv k1 k2⟩) k
/-- over range(n) -/
theorem lc_R {m : Int} (sr : Sr H S) (Rv : Nat → List PyData → Prop) (h1 : -(2 ^ 62) ≤ m) (h2 : m < 10000000) (h0 : Rv 0 []) (hw : ∀ x, wipe ((wipe σ vs).set j (some x)) vs = wipe σ vs)
    (el : ∀ (i : Nat) (H1 : Hp) (ds : List PyData) (Q1 : VK) (Qn : Hp → Prop), (i : Int) < m → S H H1 → Rv i ds →
      (∀ y d H2, S H1 H2 → Dq H2 y d → Rv (i + 1) (ds ++ [d]) → Q1 y H2) → (∀ H2, S H1 H2 → Rv (i + 1) ds → Qn H2) → tt ((wipe σ vs).set j (some (.int i))) H1 fun b H3 => if b = true then te ((wipe σ vs).set j (some (.int i))) H3 Q1 else Qn H3)
    (k : ∀ D H' ys ds, H D = none → S H H' → H' D = some (.lst ys) → Dqs H' ys ds → Rv m.toNat ds → Q (.ref D) H') : rlq [.int m] j tt te vs σ H Q :=
  ⟨m, rfl, h1, by omega, lc_gen (walk_range (lo := 0) (n := m.toNat)) sr Rv (fun H' s => trivial) (by omega) h0 (fun i x H1 H1' ds Q1 Qn hi s1 hy rv k1 k2 => by
    obtain ⟨rfl, rfl⟩ := hy
    have e0 : (0 : Int) + (i : Int) = (i : Int) := Int.zero_add _
    show gName j (V.int ((0 : Int) + (i : Int))) (wipe σ vs) H1' _
    rw [e0]
    exact ⟨hw _, el i H1' ds Q1 Qn (by omega) s1 rv k1 k2⟩) k⟩
end
theorem atI_get {α : Type} {xs : List α} {d : Int} (h0 : 0 ≤ d) (h1 : d < xs.length) : ∃ v, atI xs d = some v ∧ v ∈ xs := by
  obtain ⟨j, rfl⟩ : ∃ j : Nat, d = j := ⟨d.toNat, by omega⟩
  have hj : j < xs.length := by omega
  exact ⟨xs[j], atI_nn (List.getElem?_eq_getElem hj), List.getElem_mem hj⟩
/-! ### texts as lists of codes -/
theorem len_cut0 {z : Str} {n : Nat} : (cutS z none (some (n : Int))).length ≤ n := by
  show (((z.cps.toList.drop 0).take (HT.sIx z.length z.length (some (n : Int)) - 0)).toArray).size ≤ n
  rw [List.size_toArray, List.length_take]
  have : HT.sIx z.length z.length (some (n : Int)) ≤ n := by
    unfold HT.sIx
    simp only
    split <;> omega
  omega
theorem cut_one {z : Str} {d : Int} (h0 : 0 ≤ d) (h1 : d < z.length) : ∃ c, c ∈ tl z ∧ cutS z (some d) (some (d + 1)) = ⟨#[c]⟩ := by
  obtain ⟨n, rfl⟩ : ∃ n : Nat, d = n := ⟨d.toNat, by omega⟩
  have hn : n < (tl z).length := by rw [← len_tl]; omega
  refine ⟨(tl z)[n], List.getElem_mem hn, ?_⟩
  have e1 : HT.sIx z.length 0 (some (n : Int)) = n := by rw [HT.sIx_nat]; rw [len_tl] at *; omega
  have e2 : HT.sIx z.length z.length (some ((n : Int) + 1)) = n + 1 := by
    rw [show (n : Int) + 1 = ((n + 1 : Nat) : Int) by omega, HT.sIx_nat]
    rw [len_tl] at *
    omega
  unfold cutS
  rw [e1, e2]
  have e3 : ((tl z).drop n).take (n + 1 - n) = [(tl z)[n]] := by
    rw [show n + 1 - n = 1 by omega, List.drop_eq_getElem_cons hn]
    rfl
  show (⟨(((tl z).drop n).take (n + 1 - n)).toArray⟩ : Str) = _
  rw [e3] <;> rfl
/-- a text of signs of S, between lo and hi of them -/
structure Wrd (S : List Nat) (lo hi : Nat) (s : Str) : Prop where
  lo : lo ≤ (tl s).length
  hi : (tl s).length ≤ hi
  sg : ∀ c ∈ tl s, c ∈ S
theorem Wrd.len {S : List Nat} {lo hi : Nat} {s : Str} (h : Wrd S lo hi s) : s.length ≤ hi := by rw [len_tl]; exact h.hi
theorem joinL_nil : ∀ parts : List (List Nat), joinL [] parts = parts.flatten
  | [] => rfl
  | [p] => by simp [joinL]
  | p :: q :: r => by
    show p ++ ([] ++ joinL [] (q :: r)) = (p :: q :: r).flatten
    rw [joinL_nil (q :: r)]
    simp
theorem tl_join0 (parts : List Str) : tl (Txt.join (Str.ofString "") parts) = (parts.map tl).flatten := by
  rw [join_eq, tl_join]
  have e : tl (Str.ofString "") = [] := by decide +kernel
  rw [e, joinL_nil]
/-- signs one by one make a word -/
theorem wrd_join {S : List Nat} {n : Nat} {ss : List Str} (h : ∀ s ∈ ss, ∃ c, c ∈ S ∧ s = ⟨#[c]⟩) (hl : ss.length = n) : Wrd S n n (Txt.join (Str.ofString "") ss) := by
  subst hl
  have key : ∀ ss : List Str, (∀ s ∈ ss, ∃ c, c ∈ S ∧ s = ⟨#[c]⟩) → (ss.map tl).flatten.length = ss.length ∧ ∀ c ∈ (ss.map tl).flatten, c ∈ S := by
    intro ss
    induction ss with
    | nil => exact fun _ => ⟨rfl, fun c hc => nomatch hc⟩
    | cons s r ih =>
      intro h
      obtain ⟨c, hc, e⟩ := h s List.mem_cons_self
      obtain ⟨i1, i2⟩ := ih fun s hs => h s (List.mem_cons_of_mem _ hs)
      have et : tl s = [c] := by rw [e]
      refine ⟨by rw [List.map_cons, List.flatten_cons, List.length_append, i1, et, List.length_cons]; simp; omega, fun d hd => ?_⟩
      rw [List.map_cons, List.flatten_cons, et] at hd
      rcases List.mem_append.mp hd with hd | hd
      · rw [List.mem_singleton.mp hd]
        exact hc
      · exact i2 d hd
  obtain ⟨k1, k2⟩ := key ss h
  rw [← tl_join0] at k1 k2
  exact ⟨Nat.le_of_eq k1.symm, Nat.le_of_eq k1, k2⟩
/-- what a join of signs weighs -/
theorem sum_ones {S : List Nat} : ∀ {ss : List Str}, (∀ s ∈ ss, ∃ c, c ∈ S ∧ s = ⟨#[c]⟩) → (ss.map (·.length)).sum = ss.length
  | [], _ => rfl
  | s :: r, h => by
    obtain ⟨c, _, e⟩ := h s List.mem_cons_self
    rw [List.map_cons, List.sum_cons, sum_ones fun s hs => h s (List.mem_cons_of_mem _ hs), e, List.length_cons]
    show 1 + r.length = r.length + 1
    omega
theorem sum_le {n : Nat} : ∀ {ss : List Str}, (∀ s ∈ ss, s.length ≤ n) → (ss.map (·.length)).sum ≤ n * ss.length
  | [], _ => Nat.zero_le _
  | s :: r, h => by
    rw [List.map_cons, List.sum_cons, List.length_cons, Nat.mul_succ]
    have h1 := h s List.mem_cons_self
    have h2 := sum_le (n := n) fun s hs => h s (List.mem_cons_of_mem _ hs)
    omega
end Dk

/-! The texts that the laws draw: local parts, domains. -/
namespace Dk
open PySem PySem.Spec PyProof.Rows L2 TL
/-- what is left of a text behind rstrip of one sign -/
theorem rstrip_facts (x : Str) (c : Nat) : ∃ h, h ≤ (tl x).length ∧ tl (Txt.rstripChars x ⟨#[c]⟩) = (tl x).take h ∧ (h = 0 ∨ (tl x)[h - 1]? ≠ some c) ∧ ∀ k, h ≤ k → k < (tl x).length → (tl x)[k]? = some c := by
  have h0 : PySem.stripLo (#[c] : Array Nat).contains false x = 0 := rfl
  obtain ⟨h1, h2, h3, h4⟩ := hi_facts (#[c] : Array Nat).contains x 0 (Nat.zero_le _)
  have gc : ∀ d, (#[c] : Array Nat).contains d = true ↔ d = c := fun d => by
    rw [Array.contains_iff_mem]
    simp
  have getd : ∀ k, k < (tl x).length → (tl x)[k]? = some (x.cps.getD k 0) := fun k hk => by
    rw [← getD_list]
    rw [List.getElem?_eq_getElem hk]
    simp [List.getD, List.getElem?_eq_getElem hk]
  refine ⟨stripHi (#[c] : Array Nat).contains true x 0, by rw [← len_tl]; exact h2, ?_, ?_, fun k hk hl => ?_⟩
  · show tl (Txt.stripBy (#[c] : Array Nat).contains false true x) = _
    rw [stripBy_eq, h0, tl_strSub, List.drop_zero, Nat.sub_zero]
  · by_cases hz : stripHi (#[c] : Array Nat).contains true x 0 = 0
    · exact .inl hz
    · right
      rcases h4 with h4 | h4
      · exact absurd h4 hz
      · rw [getd _ (by rw [← len_tl]; omega)]
        intro e
        have e1 := (gc _).mpr (Option.some.inj e)
        rw [h4] at e1
        cases e1
  · rw [getd k hl]
    exact congrArg some ((gc _).mp (h3 k hk (by rw [len_tl]; exact hl)))
/-- signs of S, dots between them: none ahead (p), none behind another -/
def okL (S : List Nat) : Bool → List Nat → Bool
  | _, [] => true
  | p, c :: r => if c = 46 then !p && okL S true r else decide (c ∈ S) && okL S false r
theorem okL_take {S : List Nat} : ∀ {l : List Nat} {p : Bool} {n : Nat}, okL S p l = true → okL S p (l.take n) = true
  | [], p, n, _ => by cases n <;> rfl
  | c :: r, p, 0, _ => rfl
  | c :: r, p, n + 1, h => by
    rw [List.take_succ_cons]
    unfold okL at h ⊢
    by_cases e : c = 46
    · rw [if_pos e, Bool.and_eq_true] at h ⊢
      exact ⟨h.1, okL_take h.2⟩
    · rw [if_neg e, Bool.and_eq_true] at h ⊢
      exact ⟨h.1, okL_take h.2⟩
theorem okL_word {S : List Nat} (hS : 46 ∉ S) : ∀ {w r : List Nat} {p : Bool}, (∀ c ∈ w, c ∈ S) → w ≠ [] → okL S p (w ++ r) = okL S false r
  | [], _, _, _, h => absurd rfl h
  | c :: w, r, p, h, _ => by
    have hc := h c List.mem_cons_self
    have nc : c ≠ 46 := fun e => hS (e ▸ hc)
    have e : okL S p (c :: (w ++ r)) = okL S false (w ++ r) := by
      rw [okL, if_neg nc, decide_eq_true hc, Bool.true_and]
    show okL S p (c :: (w ++ r)) = okL S false r
    rw [e]
    cases w with
    | nil => rfl
    | cons d w => exact okL_word hS (fun c hc => h c (List.mem_cons_of_mem _ hc)) (by simp)
theorem okL_join {S : List Nat} (hS : 46 ∉ S) : ∀ {ps : List (List Nat)} {p : Bool}, (∀ w ∈ ps, w ≠ [] ∧ ∀ c ∈ w, c ∈ S) → ps ≠ [] → okL S p (joinL [46] ps) = true
  | [], _, _, h => absurd rfl h
  | [w], p, h, _ => by
    obtain ⟨h1, h2⟩ := h w List.mem_cons_self
    show okL S p w = true
    rw [← List.append_nil w, okL_word hS h2 h1] <;> rfl
  | w :: v :: r, p, h, _ => by
    obtain ⟨h1, h2⟩ := h w List.mem_cons_self
    show okL S p (w ++ ([46] ++ joinL [46] (v :: r))) = true
    rw [okL_word hS h2 h1]
    show okL S false (46 :: joinL [46] (v :: r)) = true
    unfold okL
    rw [if_pos rfl, okL_join hS (fun w hw => h w (List.mem_cons_of_mem _ hw)) (by simp)] <;> rfl
theorem okL_head {S : List Nat} {l : List Nat} (h : okL S true l = true) : l.head? ≠ some 46 := by
  cases l with
  | nil => simp
  | cons c r =>
    unfold okL at h
    intro e
    have e1 : c = 46 := by simpa using e
    rw [if_pos e1] at h
    cases h
/-- a local part -/
structure Loc1 (S : List Nat) (l : List Nat) : Prop where
  ok : okL S true l = true
  lo : 1 ≤ l.length
  hi : l.length ≤ 40
  last : l.getLast? ≠ some 46
theorem dot_eq : Str.ofString "." = ⟨#[46]⟩ := by decide +kernel
theorem tl_joinDot (parts : List Str) : tl (Txt.join (Str.ofString ".") parts) = joinL [46] (parts.map tl) := by
  rw [join_eq, tl_join]
  have e : tl (Str.ofString ".") = [46] := by decide +kernel
  rw [e]
theorem tl_cut0 (z : Str) (n : Nat) : tl (cutS z none (some (n : Int))) = (tl z).take n := by
  unfold cutS
  rw [HT.sIx_none, HT.sIx_nat, Nat.sub_zero, List.drop_zero]
  show (tl z).take (min n z.length) = (tl z).take n
  rw [len_tl, List.take_eq_take_iff]
  omega
theorem joinL_pos {S : List Nat} {ps : List (List Nat)} (h : ∀ w ∈ ps, w ≠ []) (hn : ps ≠ []) : joinL S ps ≠ [] := by
  cases ps with
  | nil => exact absurd rfl hn
  | cons w r =>
    have hw := h w List.mem_cons_self
    cases r with
    | nil => exact hw
    | cons v r =>
      show w ++ (S ++ joinL S (v :: r)) ≠ []
      simp [hw]
theorem loc_of {S : List Nat} (hS : 46 ∉ S) {parts : List Str} (h : ∀ s ∈ parts, tl s ≠ [] ∧ ∀ c ∈ tl s, c ∈ S) (hn : parts ≠ []) :
    Loc1 S (tl (Txt.rstripChars (cutS (Txt.join (Str.ofString ".") parts) none (some (40 : Int))) (Str.ofString "."))) := by
  have e40 : tl (cutS (Txt.join (Str.ofString ".") parts) none (some (40 : Int))) = (joinL [46] (parts.map tl)).take 40 := by
    rw [← tl_joinDot]
    exact tl_cut0 _ 40
  have hw : ∀ w ∈ parts.map tl, w ≠ [] ∧ ∀ c ∈ w, c ∈ S := fun w hw => by
    obtain ⟨s, hs, e⟩ := List.mem_map.mp hw
    rw [← e]
    exact h s hs
  have hne : parts.map tl ≠ [] := fun e => hn (List.map_eq_nil_iff.mp e)
  have ok : okL S true ((joinL [46] (parts.map tl)).take 40) = true := okL_take (okL_join hS hw hne)
  have pos : joinL [46] (parts.map tl) ≠ [] := joinL_pos (fun w q => (hw w q).1) hne
  generalize cutS (Txt.join (Str.ofString ".") parts) none (some (40 : Int)) = x at *
  rw [dot_eq]
  obtain ⟨k, k1, k2, k3, k4⟩ := rstrip_facts x 46
  rw [e40] at k1 k2 k3 k4
  generalize hL : (joinL [46] (parts.map tl)).take 40 = L at *
  have Lne : L ≠ [] := by
    rw [← hL]
    intro e
    rcases List.take_eq_nil_iff.mp e with e | e
    · cases e
    · exact pos e
  have L40 : L.length ≤ 40 := by
    rw [← hL, List.length_take]
    omega
  have kpos : 1 ≤ k := by
    cases k with
    | zero =>
      have h0 := k4 0 (Nat.le_refl _) (List.length_pos_iff.mpr Lne)
      exact absurd (by rw [List.head?_eq_getElem?]; exact h0) (okL_head ok)
    | succ k => exact Nat.succ_pos _
  rw [k2]
  refine ⟨okL_take ok, by rw [List.length_take]; omega, by rw [List.length_take]; omega, ?_⟩
  rw [List.getLast?_eq_getElem?, List.length_take, Nat.min_eq_left k1, List.getElem?_take_of_lt (by omega)]
  rcases k3 with k3 | k3
  · omega
  · exact k3
theorem joinL_len (S : List Nat) : ∀ ps : List (List Nat), (joinL S ps).length ≤ (ps.map List.length).sum + ps.length * S.length
  | [] => Nat.zero_le _
  | [w] => by
    show w.length ≤ _
    rw [List.map_singleton, List.sum_singleton]
    omega
  | w :: v :: r => by
    show (w ++ (S ++ joinL S (v :: r))).length ≤ _
    have ih := joinL_len S (v :: r)
    rw [List.length_append, List.length_append, List.map_cons, List.sum_cons, List.length_cons, Nat.succ_mul]
    omega
theorem joinDot_len (parts : List Str) : (Txt.join (Str.ofString ".") parts).length ≤ (parts.map (·.length)).sum + parts.length := by
  rw [len_tl, tl_joinDot]
  have h := joinL_len [46] (parts.map tl)
  have e : ((parts.map tl).map List.length) = parts.map (·.length) := by
    rw [List.map_map]
    exact List.map_congr_left fun s _ => (len_tl s).symm
  rw [e, List.length_map] at h
  simp only [List.length_cons, List.length_nil] at h
  omega
theorem rep_strs (n : Nat) (s : Str) : (List.replicate n [V.str s]).flatten = (List.replicate n s).map V.str := by
  induction n with
  | zero => rfl
  | succ n ih => rw [List.replicate_succ, List.flatten_cons, ih, List.replicate_succ, List.map_cons] <;> rfl
theorem rep_wrd {S : List Nat} {c n : Nat} (hc : c ∈ S) : Wrd S n n (Txt.join (Str.ofString "") (List.replicate n ⟨#[c]⟩)) :=
  wrd_join (fun s hs => ⟨c, hc, (List.mem_replicate.mp hs).2⟩) (List.length_replicate ..)
/-- the signs of a drawn word, a drawn label -/
abbrev lEnds : Str := Str.ofString "abcdefghijklmnopqrstuvwxyz0123456789-_+"
abbrev dEnds : Str := Str.ofString "abcdefghijklmnopqrstuvwxyz0123456789"
theorem lEnds_dot : 46 ∉ tl lEnds := by decide +kernel
/-- a label -/
structure Lab (l : List Nat) : Prop where
  lo : 2 ≤ l.length
  hi : l.length ≤ 5
  sg : ∀ c ∈ l, c ∈ 45 :: tl dEnds
  fst : l.head? ≠ some 45
  lst : l.getLast? ≠ some 45
/-- a domain -/
structure Dom (l : List Nat) : Prop where
  ex : ∃ ls : List (List Nat), l = joinL [46] ls ∧ 1 ≤ ls.length ∧ ls.length ≤ 3 ∧ ∀ w ∈ ls, Lab w
theorem Dom.len {s : Str} (h : Dom (tl s)) : s.length ≤ 18 := by
  obtain ⟨ls, e, h1, h2, h3⟩ := h.ex
  rw [len_tl, e]
  have q := joinL_len [46] ls
  have r : ∀ ps : List (List Nat), (∀ w ∈ ps, Lab w) → (ps.map List.length).sum ≤ 5 * ps.length := by
    intro ps
    induction ps with
    | nil => exact fun _ => Nat.zero_le _
    | cons w r ih =>
      intro h
      rw [List.map_cons, List.sum_cons, List.length_cons]
      have a := (h w List.mem_cons_self).hi
      have b := ih fun w hw => h w (List.mem_cons_of_mem _ hw)
      omega
  have r1 := r ls h3
  simp only [List.length_cons, List.length_nil] at q
  omega
theorem Loc1.len {S : List Nat} {s : Str} (h : Loc1 S (tl s)) : s.length ≤ 40 := by
  rw [len_tl]
  exact h.hi
theorem lab_of {c d : Nat} {m : Str} (hc : c ∈ tl dEnds) (hd : d ∈ tl dEnds) (hm : m ∈ ["", "-", "--", "x-y", "z9"].map Str.ofString) : Lab (tl (((⟨#[c]⟩ : Str) ++ m) ++ (⟨#[d]⟩ : Str))) := by
  have e : tl (((⟨#[c]⟩ : Str) ++ m) ++ (⟨#[d]⟩ : Str)) = c :: (tl m ++ [d]) := by
    rw [tl_append, tl_append] <;> rfl
  have n45 : 45 ∉ tl dEnds := by decide +kernel
  have key : ∀ z ∈ ["", "-", "--", "x-y", "z9"].map Str.ofString, (tl z).length ≤ 3 ∧ ∀ x ∈ tl z, x ∈ 45 :: tl dEnds := by decide +kernel
  obtain ⟨k1, k2⟩ := key m hm
  rw [e]
  refine ⟨by simp, by simp; omega, fun x hx => ?_, ?_, ?_⟩
  · rcases List.mem_cons.mp hx with hx | hx
    · rw [hx]
      exact List.mem_cons_of_mem _ hc
    · rcases List.mem_append.mp hx with hx | hx
      · exact k2 x hx
      · rw [List.mem_singleton.mp hx]
        exact List.mem_cons_of_mem _ hd
  · intro q
    have : c = 45 := by simpa using q
    exact n45 (this ▸ hc)
  · rw [show c :: (tl m ++ [d]) = (c :: tl m) ++ [d] from rfl, List.getLast?_concat]
    intro q
    have : d = 45 := by simpa using q
    exact n45 (this ▸ hd)
/-- a line: a short text of the signs that are allowed -/
structure Lin (s : Str) : Prop where
  len : s.length ≤ 18
  sg : ∀ c ∈ tl s, 32 ≤ c ∧ c ≤ 126 ∧ c ≠ 37
def pool : List Str := ["", ".", "..", ". x", "Received: by ", "Received: by q.r", "received: by x", " Received: by y", "To: a", "~"].map Str.ofString
abbrev signs : Str := Str.ofString " !\"#$&'()*+,-./0123456789:;<=>?@ABCDEFGHIJKLMNOPQRSTUVWXYZ[\\]^_`abcdefghijklmnopqrstuvwxyz{|}~"
theorem pool_lin : ∀ s ∈ pool, Lin s := by
  have key : ∀ s ∈ pool, s.length ≤ 18 ∧ ∀ c ∈ tl s, 32 ≤ c ∧ c ≤ 126 ∧ c ≠ 37 := by decide +kernel
  exact fun s hs => ⟨(key s hs).1, (key s hs).2⟩
theorem signs_lin : ∀ c ∈ tl signs, 32 ≤ c ∧ c ≤ 126 ∧ c ≠ 37 := by decide +kernel
end Dk

/-! Messages as lists of texts. -/
namespace Dk
open PySem PySem.Spec PyProof.Rows L2 TL
def hopsM : List Str → Nat
  | [] => 0
  | s :: r => if s = eS then 0 else (if Txt.startswith s trS = true then 1 else 0) + hopsM r
theorem hopsM_le : ∀ ss : List Str, hopsM ss ≤ ss.length
  | [] => Nat.le_refl _
  | s :: r => by
    unfold hopsM
    have := hopsM_le r
    rw [List.length_cons]
    split
    · omega
    · split <;> omega
def stuffM (s : Str) : Str := if Txt.startswith s dotS = true then dotS ++ s else s
def unstuffM (s : Str) : Str := if Txt.startswith s dotS = true then cutS s (some 1) none else s
theorem starts_iff (x y : Str) : Txt.startswith x y = ((tl x).take (tl y).length == tl y) := by
  unfold Txt.startswith
  rw [PySem.StrLaws.subAt_eq, List.drop_zero, Nat.zero_add, len_tl, len_tl]
  by_cases h : (tl y).length ≤ (tl x).length
  · rw [decide_eq_true h, Bool.true_and]
  · rw [decide_eq_false h, Bool.false_and]
    symm
    rw [beq_eq_false_iff_ne]
    intro e
    have e2 := congrArg List.length e
    rw [List.length_take] at e2
    omega
theorem tl_dot : tl dotS = [46] := by decide +kernel
theorem tl_cut1 (s : Str) : tl (cutS s (some 1) none) = (tl s).drop 1 := by
  unfold cutS
  rw [HT.sIx_none, show (1 : Int) = ((1 : Nat) : Int) from rfl, HT.sIx_nat]
  show ((tl s).drop (min 1 s.length)).take (s.length - min 1 s.length) = (tl s).drop 1
  rw [len_tl]
  by_cases h : 1 ≤ (tl s).length
  · rw [Nat.min_eq_left h, List.take_of_length_le (by rw [List.length_drop]; omega)]
  · have e : tl s = [] := List.length_eq_zero_iff.mp (by omega)
    rw [e] <;> rfl
theorem tl_cutN (s : Str) (n : Nat) : tl (cutS s none (some (n : Int))) = (tl s).take n := tl_cut0 s n
theorem starts_dot (s : Str) : Txt.startswith s dotS = decide ((tl s).head? = some 46) := by
  rw [starts_iff, tl_dot]
  cases e : tl s with
  | nil => rfl
  | cons c r =>
    show ([c] == [46]) = decide (some c = some 46)
    by_cases h : c = 46
    · subst h
      rfl
    · rw [decide_eq_false (fun q => h (Option.some.inj q)), beq_eq_false_iff_ne]
      exact fun q => h (List.cons.inj q).1
theorem unstuff_stuff (s : Str) : unstuffM (stuffM s) = s := by
  unfold stuffM
  by_cases h : Txt.startswith s dotS = true
  · rw [if_pos h]
    have e : tl (dotS ++ s) = 46 :: tl s := by rw [tl_append, tl_dot] <;> rfl
    unfold unstuffM
    rw [if_pos (by rw [starts_dot, e] <;> rfl)]
    refine ext_tl ?_
    rw [tl_cut1, e] <;> rfl
  · rw [if_neg h]
    unfold unstuffM
    rw [if_neg h]
theorem stuff_ne (s : Str) : stuffM s ≠ dotS := by
  intro e
  unfold stuffM at e
  by_cases h : Txt.startswith s dotS = true
  · rw [if_pos h] at e
    have e2 := congrArg tl e
    rw [tl_append, tl_dot] at e2
    have e3 : tl s = [] := by simpa using e2
    rw [starts_dot, e3] at h
    cases h
  · rw [if_neg h] at e
    rw [e] at h
    exact h (by decide +kernel)
theorem stuff_len (s : Str) : (stuffM s).length ≤ s.length + 1 := by
  unfold stuffM
  split
  · rw [PySem.Str.length_append, dotS_len]
    omega
  · omega
theorem drop_of_get {α : Type} {xs : List α} {i : Nat} {x : α} (h : xs[i]? = some x) : xs.drop i = x :: xs.drop (i + 1) := by
  obtain ⟨hl, e⟩ := List.getElem?_eq_some_iff.mp h
  rw [List.drop_eq_getElem_cons hl, e]
theorem get_map {xs : List Str} {i : Nat} {x : V} (h : (xs.map V.str)[i]? = some x) : ∃ s, xs[i]? = some s ∧ x = .str s := by
  rw [List.getElem?_map] at h
  cases e : xs[i]? with
  | none =>
    rw [e] at h
    cases h
  | some s =>
    rw [e] at h
    exact ⟨s, rfl, (Option.some.inj h).symm⟩
theorem mem_of_get {α : Type} {xs : List α} {i : Nat} {x : α} (h : xs[i]? = some x) : x ∈ xs := List.mem_of_getElem? h
/-- a comprehension over texts that gives texts -/
theorem Dqs.strs_eq {H : Hp} {ss : List Str} {ys : List V} (h : Dqs H ys (ss.map PyData.str)) : ys = ss.map V.str := h.strs_of
theorem take_snoc {α : Type} {xs : List α} {i : Nat} {x : α} (h : xs[i]? = some x) : xs.take (i + 1) = xs.take i ++ [x] := by
  rw [List.take_add_one, h] <;> rfl
def reportM (l d r : Str) : List Str := [Str.ofString "Subject: undelivered", eS, Str.ofString "Recipient: " ++ (l ++ atS ++ d), Str.ofString "Reason: " ++ r]
theorem cut13 (s : Str) : decide (cutS s none (some 13) = trS) = Txt.startswith s trS := by
  rw [starts_iff]
  have e13 : (tl trS).length = 13 := by decide +kernel
  have e := tl_cutN s 13
  by_cases h : cutS s none (some 13) = trS
  · rw [decide_eq_true h, e13]
    have h2 : tl (cutS s none (some ((13 : Nat) : Int))) = tl trS := congrArg tl h
    rw [← e, h2]
    exact (beq_self_eq_true _).symm
  · rw [decide_eq_false h, e13]
    symm
    rw [beq_eq_false_iff_ne]
    intro q
    rw [← e] at q
    exact h (ext_tl q)
theorem cut_dot (s : Str) : decide (cutS s none (some 1) = dotS) = Txt.startswith s dotS := by
  rw [starts_iff]
  have e1 : (tl dotS).length = 1 := by decide +kernel
  have e := tl_cutN s 1
  by_cases h : cutS s none (some 1) = dotS
  · rw [decide_eq_true h, e1]
    have h2 : tl (cutS s none (some ((1 : Nat) : Int))) = tl dotS := congrArg tl h
    rw [← e, h2]
    exact (beq_self_eq_true _).symm
  · rw [decide_eq_false h, e1]
    symm
    rw [beq_eq_false_iff_ne]
    intro q
    rw [← e] at q
    exact h (ext_tl q)
theorem str_assoc (a b c : Str) : a ++ b ++ c = a ++ (b ++ c) := ext_tl (by rw [tl_append, tl_append, tl_append, tl_append, List.append_assoc])
theorem hops_cons (d : Str) (ss : List Str) : hopsM ((trS ++ d) :: ss) = hopsM ss + 1 := by
  have h1 : trS ++ d ≠ eS := fun e => by
    have e2 := congrArg (fun z => (tl z).length) e
    simp only [tl_append, List.length_append] at e2
    have e3 : (tl trS).length = 13 := by decide +kernel
    have e4 : (tl eS).length = 0 := by decide +kernel
    omega
  have h2 : Txt.startswith (trS ++ d) trS = true := by
    rw [starts_iff, tl_append, List.take_left]
    exact beq_self_eq_true _
  rw [hopsM, if_neg h1, if_pos h2]
  omega
end Dk

/-! Data compared. -/
namespace Dk
open PySem PySem.Spec PyProof.Rows L2 TL
mutual
/-- data without truth values, lists, dicts -/
def nb : PyData → Bool
  | .none => true
  | .int _ => true
  | .str s => PyData.strOk s
  | .tuple ds => nbs ds
  | _ => false
def nbs : List PyData → Bool
  | [] => true
  | d :: ds => nb d && nbs ds
end
mutual
theorem nb_lay : ∀ d : PyData, nb d = true → d.canLay0 = true
  | .none, _ => by simp [PyData.canLay0]
  | .int i, _ => by simp [PyData.canLay0]
  | .str s, h => by
    rw [PyData.canLay0]
    rw [nb] at h
    exact h
  | .tuple ds, h => by
    rw [PyData.canLay0]
    rw [nb] at h
    exact nbs_lay ds h
  | .bool _, h => by simp [nb] at h
  | .list _, h => by simp [nb] at h
  | .dict _, h => by simp [nb] at h
theorem nbs_lay : ∀ ds : List PyData, nbs ds = true → PyData.canLayAll0 ds = true
  | [], _ => by simp [PyData.canLayAll0]
  | d :: ds, h => by
    rw [nbs, Bool.and_eq_true] at h
    rw [PyData.canLayAll0, nb_lay d h.1, nbs_lay ds h.2] <;> rfl
end
theorem nb_shaped {d : PyData} (h : nb d = true) (hd : d.depth ≤ 64) : SeqAt.shaped d = true := by
  unfold SeqAt.shaped
  rw [nb_lay d h, decide_eq_true hd] <;> rfl
mutual
theorem eqv_nb : ∀ d e : PyData, nb d = true → PyData.eqv d e = true → nb e = true → d = e
  | .none, e, _, h, he => by
    cases e <;> first
      | rfl
      | simp [PyData.eqv] at h
  | .int i, e, _, h, he => by
    cases e <;> first
      | (simp [PyData.eqv] at h; done)
      | (simp [nb] at he; done)
      | (simp [PyData.eqv] at h; rw [h])
  | .str i, e, _, h, he => by
    cases e <;> first
      | (simp [PyData.eqv] at h; done)
      | (simp [PyData.eqv] at h; rw [h])
  | .tuple ds, e, hd, h, he => by
    cases e with
    | tuple es =>
      rw [PyData.eqv] at h
      rw [nb] at hd he
      rw [eqvs_nb ds es hd h he]
    | _ => simp [PyData.eqv] at h
  | .bool _, _, h, _, _ => by simp [nb] at h
  | .list _, _, h, _, _ => by simp [nb] at h
  | .dict _, _, h, _, _ => by simp [nb] at h
theorem eqvs_nb : ∀ ds es : List PyData, nbs ds = true → PyData.eqvAll ds es = true → nbs es = true → ds = es
  | [], es, _, h, _ => by
    cases es with
    | nil => rfl
    | cons e es => simp [PyData.eqvAll] at h
  | d :: ds, es, hd, h, he => by
    cases es with
    | nil => simp [PyData.eqvAll] at h
    | cons e es =>
      rw [PyData.eqvAll, Bool.and_eq_true] at h
      rw [nbs, Bool.and_eq_true] at hd he
      rw [eqv_nb d e hd.1 h.1 he.1, eqvs_nb ds es hd.2 h.2 he.2]
end
theorem eqv_self {d : PyData} (h : nb d = true) : PyData.eqv d d = true := SeqAt.eqv_refl d (nb_lay d h)
theorem eqv_ne {d e : PyData} (h : nb d = true) (he : nb e = true) (n : d ≠ e) : PyData.eqv d e = false := by
  cases q : PyData.eqv d e with
  | false => rfl
  | true => exact absurd (eqv_nb d e h q he) n
theorem nbs_strs : ∀ {ss : List Str}, (∀ s ∈ ss, PyData.strOk s = true) → nbs (ss.map PyData.str) = true
  | [], _ => by simp [nbs]
  | s :: ss, h => by
    rw [List.map_cons, nbs, nb, h s List.mem_cons_self, nbs_strs fun s hs => h s (List.mem_cons_of_mem _ hs)] <;> rfl
theorem depth_strs : ∀ ss : List Str, PyData.depthAll (ss.map PyData.str) = 0
  | [] => by simp [PyData.depthAll]
  | s :: ss => by
    rw [List.map_cons, PyData.depthAll, depth_strs ss, PyData.depth] <;> rfl
/-- plain signs -/
def Asc (s : Str) : Prop := ∀ c ∈ tl s, c < 128
theorem Asc.ok {s : Str} (h : Asc s) : PyData.strOk s = true := by
  unfold PyData.strOk
  rw [Array.all_eq_true']
  intro c hc
  have := h c (by simpa using hc)
  simp only [decide_eq_true_eq]
  omega
theorem Asc.app {a b : Str} (ha : Asc a) (hb : Asc b) : Asc (a ++ b) := fun c hc => by
  rw [tl_append] at hc
  rcases List.mem_append.mp hc with hc | hc
  · exact ha c hc
  · exact hb c hc
theorem Lin.asc {s : Str} (h : Lin s) : Asc s := fun c hc => by
  have := h.sg c hc
  omega
theorem okL_mem {S : List Nat} : ∀ {l : List Nat} {p : Bool}, okL S p l = true → ∀ c ∈ l, c = 46 ∨ c ∈ S
  | [], _, _, c, hc => nomatch hc
  | d :: r, p, h, c, hc => by
    unfold okL at h
    by_cases e : d = 46
    · rw [if_pos e, Bool.and_eq_true] at h
      rcases List.mem_cons.mp hc with q | q
      · exact .inl (q.trans e)
      · exact okL_mem h.2 c q
    · rw [if_neg e, Bool.and_eq_true] at h
      rcases List.mem_cons.mp hc with q | q
      · exact .inr (q ▸ of_decide_eq_true h.1)
      · exact okL_mem h.2 c q
theorem ends_asc : ∀ c ∈ tl lEnds, c < 128 := by decide +kernel
theorem dends_asc : ∀ c ∈ tl dEnds, c < 128 := by decide +kernel
theorem Loc1.asc {s : Str} (h : Loc1 (tl lEnds) (tl s)) : Asc s := fun c hc => by
  rcases okL_mem h.ok c hc with e | e
  · omega
  · exact ends_asc c e
theorem joinL_mem {S : List Nat} : ∀ {ps : List (List Nat)} {c : Nat}, c ∈ joinL S ps → c ∈ S ∨ ∃ w ∈ ps, c ∈ w
  | [], c, h => nomatch h
  | [w], c, h => .inr ⟨w, List.mem_cons_self, h⟩
  | w :: v :: r, c, h => by
    have h : c ∈ w ++ (S ++ joinL S (v :: r)) := h
    rcases List.mem_append.mp h with h | h
    · exact .inr ⟨w, List.mem_cons_self, h⟩
    · rcases List.mem_append.mp h with h | h
      · exact .inl h
      · rcases joinL_mem h with h | ⟨u, hu, hc⟩
        · exact .inl h
        · exact .inr ⟨u, List.mem_cons_of_mem _ hu, hc⟩
theorem Dom.asc {s : Str} (h : Dom (tl s)) : Asc s := fun c hc => by
  obtain ⟨ls, e, _, _, h3⟩ := h.ex
  rw [e] at hc
  rcases joinL_mem hc with q | ⟨w, hw, q⟩
  · have := List.mem_singleton.mp q
    omega
  · rcases List.mem_cons.mp ((h3 w hw).sg c q) with q | q
    · omega
    · exact dends_asc c q
theorem tr_asc : Asc trS := by unfold Asc; decide +kernel
theorem at_asc : Asc atS := by unfold Asc; decide +kernel
theorem e_asc : Asc eS := by unfold Asc; decide +kernel
theorem dot_asc : Asc dotS := by unfold Asc; decide +kernel
theorem stuff_asc {s : Str} (h : Asc s) : Asc (stuffM s) := by
  unfold stuffM
  split
  · exact dot_asc.app h
  · exact h
/-- a tuple of texts as a datum -/
abbrev sD (ss : List Str) : PyData := .tuple (ss.map PyData.str)
theorem sD_nb {ss : List Str} (h : ∀ s ∈ ss, Asc s) : nb (sD ss) = true := by
  rw [nb]
  exact nbs_strs fun s hs => (h s hs).ok
theorem sD_shaped {ss : List Str} (h : ∀ s ∈ ss, Asc s) : SeqAt.shaped (sD ss) = true := by
  refine nb_shaped (sD_nb h) ?_
  rw [PyData.depth, depth_strs]
  omega
theorem Dq.strs {H : Hp} {p : Addr} {ss : List Str} (h : H p = some (.tup (ss.map V.str))) : Dq H (.ref p) (sD ss) := .tup h (Dqs.strs ss)
theorem flat_strs (ss : List Str) : (ss.map V.str).all flatV = true := by
  rw [List.all_eq_true]
  intro x hx
  obtain ⟨s, _, rfl⟩ := List.mem_map.mp hx
  rfl
theorem inV_no {ss : List Str} {z : Str} (h : ∀ s ∈ ss, s ≠ z) : inV (.str z) (ss.map V.str) = false := by
  unfold inV
  rw [List.any_eq_false]
  intro x hx
  obtain ⟨s, hs, rfl⟩ := List.mem_map.mp hx
  intro e
  exact h s hs (by simpa [eqV] using e)
end Dk

/-! Own classes: instances, attributes, methods. -/
namespace Dk
open PySem PySem.Spec PyProof.Rows L2
/-- the def of a method -/
def MethAt (e : Wd) (C : Addr) (m qual : Str) (st : Stmt) : Prop := ∃ f fd, FunD e.K m qual (defArgs st) (defBody st) (defScope st) [] [] f fd ∧ Meth e.K C m f ∧ Cls e.K C
/-- the def of __init__ -/
def InitAt (e : Wd) (C : Addr) (x qual : Str) (st : Stmt) : Prop := ∃ f fd, FunD e.K "__init__" qual (defArgs st) (defBody st) (defScope st) [] [] f fd ∧ Mk e.K C f ∧ e.mg x = some (.ref C)
def CanM (e : Wd) (k : Nat) (C : Addr) (m : Str) (ps : List Str) (sp : Sp) : Prop :=
  ∃ f fd, FnOk e.P e.w e.K e.mg e.base (L2.CX e.P e.w) k f fd ps sp ∧ Cls e.K C ∧ Meth e.K C m f ∧ Binds e.K fd ps []
def CanN (e : Wd) (k : Nat) (C : Addr) (x : Str) (ps : List Str) (sp : Sp) : Prop :=
  ∃ f fd, FnOk e.P e.w e.K e.mg e.base (L2.CX e.P e.w) k f fd ps sp ∧ Mk e.K C f ∧ e.mg x = some (.ref C) ∧ Binds e.K fd ps []
abbrev BindQ (x qual : Str) (st : Stmt) (ps : List Str) : Prop := ∀ (kV doc pm : Value) (an : Option Addr) (cdv ct : Value) (us : List Value), us.length = ps.length → bindArgs (PySem.W.fnOf x qual (defArgs st) (defBody st) (defScope st) .none kV doc pm an cdv ct) ⟨us, []⟩ = pure (ps.zip us)
section
variable {e : Wd} {C : Addr} {m x qual : Str} {st : Stmt} {N ps : List Str} {k : Nat} {sp : Sp}
theorem fnokQ {f : Addr} {fd : FuncData} (F : FunD e.K x qual (defArgs st) (defBody st) (defScope st) [] [] f fd) (S : FnScope N ps (defScope st)) (len : ∀ vs H Q E, sp vs H Q E → vs.length = ps.length)
    (hbody : ∀ (cdv : Value) (f : Addr) (A : Around) (outer : List Env) (s : Shared) (H : Hp) (vs : List V) (Q : VK) (E : XK), Room k (A.deeper (envOfC qual (defScope st) s.heap.objs.size f cdv)) → sp vs H Q E →
      ∃ t, PSs (cxOf (L2.CX e.P e.w) e.P e.w e.K e.mg e.base N qual (defScope st) f cdv A outer s H E).nox (defBody st) t ∧ t { nx := fun _ H' => Q .non H', rt := Q } (start N vs) H) : FnOk e.P e.w e.K e.mg e.base (L2.CX e.P e.w) (k + 1) f fd ps sp :=
  F.ok S len fun cdv A outer s H vs Q E hr h => by
    obtain ⟨t, h1, h2⟩ := hbody cdv f A outer s H vs Q E hr h
    exact ⟨t, h1.nox, h2⟩
theorem canM_of (D : MethAt e C m qual st) (S : FnScope N ps (defScope st)) (B : BindQ m qual st ps) (len : ∀ vs H Q E, sp vs H Q E → vs.length = ps.length)
    (hbody : ∀ (cdv : Value) (f : Addr) (A : Around) (outer : List Env) (s : Shared) (H : Hp) (vs : List V) (Q : VK) (E : XK), Room k (A.deeper (envOfC qual (defScope st) s.heap.objs.size f cdv)) → sp vs H Q E →
      ∃ t, PSs (cxOf (L2.CX e.P e.w) e.P e.w e.K e.mg e.base N qual (defScope st) f cdv A outer s H E).nox (defBody st) t ∧ t { nx := fun _ H' => Q .non H', rt := Q } (start N vs) H) : CanM e (k + 1) C m ps sp := by
  obtain ⟨f, fd, F, M, c⟩ := D
  exact ⟨f, fd, fnokQ F S len hbody, c, M, F.bindsN B⟩
theorem canN_of (D : InitAt e C x qual st) (S : FnScope N ps (defScope st)) (B : BindQ "__init__" qual st ps) (len : ∀ vs H Q E, sp vs H Q E → vs.length = ps.length)
    (hbody : ∀ (cdv : Value) (f : Addr) (A : Around) (outer : List Env) (s : Shared) (H : Hp) (vs : List V) (Q : VK) (E : XK), Room k (A.deeper (envOfC qual (defScope st) s.heap.objs.size f cdv)) → sp vs H Q E →
      ∃ t, PSs (cxOf (L2.CX e.P e.w) e.P e.w e.K e.mg e.base N qual (defScope st) f cdv A outer s H E).nox (defBody st) t ∧ t { nx := fun _ H' => Q .non H', rt := Q } (start N vs) H) : CanN e (k + 1) C x ps sp := by
  obtain ⟨f, fd, F, M, g⟩ := D
  exact ⟨f, fd, fnokQ F S len hbody, M, g, F.bindsN B⟩
end
section
variable {X : Cx} {E : XK} {k : Nat} {C : Addr} {m x : Str} {ps : List Str} {sp : Sp} {o e : Expr} {es : List Expr} {p pos apos : Pos} {ta : TE} {t : TA}
theorem pe_canM {pl : Sem Bool} (c : CanM (wdOf X) k C m ps sp) (hr : Room k X.A) (hx : Passes (L2.CX X.prog X.w) X E) (he : PE X o ta) (ha : PA X (e :: es) t)
    (hst : starEach (e :: es) X.env = (false, eval e X.env) :: starEach es X.env := by rfl) (hpl : (backTo pos (starEach es X.env)).any (·.1) = false := by rfl)
    (ht : eval (.Call (.Attribute o m apos) (e :: es) [] pos) X.env = (do
      let ov ← eval o X.env
      standAt apos.atName
      let (f, first) ← holding [ov] (getMethod ov m pl)
      callWith pos f first (backTo pos (starEach (e :: es) X.env)) (backToKw pos (keywordEach [] X.env))) := by rfl) : PE X (.Call (.Attribute o m apos) (e :: es) [] pos) (tMeth C m sp [] E ta t) := by
  obtain ⟨f, fd, F, c, M, b⟩ := c
  exact pe_meth he c M F hr b .nil hx ha hst hpl ht
theorem pe_canM0 {pl : Sem Bool} (c : CanM (wdOf X) k C m ps sp) (hr : Room k X.A) (hx : Passes (L2.CX X.prog X.w) X E) (he : PE X o ta)
    (ht : eval (.Call (.Attribute o m apos) [] [] pos) X.env = (do
      let ov ← eval o X.env
      standAt apos.atName
      let (f, first) ← holding [ov] (getMethod ov m pl)
      callWith pos f first (backTo pos (starEach [] X.env)) (backToKw pos (keywordEach [] X.env))) := by rfl) : PE X (.Call (.Attribute o m apos) [] [] pos) (tMeth C m sp [] E ta tNil) := by
  obtain ⟨f, fd, F, c, M, b⟩ := c
  exact pe_meth0 he c M F hr b .nil hx ht
theorem pe_canN (c : CanN (wdOf X) k C x ps sp) (hr : Room (k + 1) X.A) (hx : Passes (L2.CX X.prog X.w) X E) (ha : PA X (e :: es) t) (hg : Gl X x := by rfl) (hdb : (x == ("__debug__" : Str)) = false := by decide)
    (he : starEach (e :: es) X.env = (false, eval e X.env) :: starEach es X.env := by rfl) (hpl : (backTo pos (starEach es X.env)).any (·.1) = false := by rfl) : PE X (.Call (.Name x p) (e :: es) [] pos) (tMake C sp [] E t) := by
  obtain ⟨f, fd, F, M, g, b⟩ := c
  exact pe_make M F hr hg g b .nil hx ha hdb he hpl
theorem pe_canN0 (c : CanN (wdOf X) k C x ps sp) (hr : Room (k + 1) X.A) (hx : Passes (L2.CX X.prog X.w) X E) (hg : Gl X x := by rfl) (hdb : (x == ("__debug__" : Str)) = false := by decide) : PE X (.Call (.Name x p) [] [] pos) (tMake C sp [] E tNil) := by
  obtain ⟨f, fd, F, M, g, b⟩ := c
  exact pe_make0 M F hr hg g b .nil hx hdb
variable {K : PySem.W.Frag} {tv : TE} {value : Expr} {f : Str} {pos' : Pos}
theorem pe_fldU (he : PE X e ta) (hK : X.K = K := by rfl) (hb : attributeBase e f X.env (eval e X.env) = eval e X.env := by rfl) : PE X (.Attribute e f pos) (tFld K ta f) := by
  subst hK
  exact pe_fld he hb
theorem ps_fldU (ha : PE X o ta) (hv : PE X value tv) (hK : X.K = K := by rfl) (hs : swapsWith value (some (.Attribute o f pos')) pos.line X.env = pure false := by rfl) : PS X (.Assign [.Attribute o f pos'] value pos) (sFld K ta tv f) := by
  subst hK
  exact ps_fld ha hv hs
theorem ps_fldaugU {op : Operator} {rd : V → V → Hp → VK → Prop} {tpos : Pos} (ha : PE X o ta) (hv : PE X value tv) (hop : InOp X op rd) (hK : X.K = K := by rfl) : PS X (.AugAssign (.Attribute o f tpos) op value pos) (sFldAug K ta tv rd f) := by
  subst hK
  exact ps_fldaug ha hv hop
end
section
variable {K : PySem.W.Frag} {σ : L2.St} {H : Hp} {Q : VK} {D : Ends} {ta tb tv : TE} {t : TA} {C a dx : Addr} {f m : Str} {fs fs' : List (Str × V)} {v x y : V} {sp : Sp} {E : XK} {P : Prop}
/-- an instance of C with these attributes -/
def Ins (H : Hp) (a C : Addr) (fs : List (Str × V)) : Prop := ∃ dx, H a = some (.ins C dx fs)
theorem Ins.mono {H' : Hp} (h : Ins H a C fs) (k : ∀ o, H a = some o → H' a = some o) : Ins H' a C fs := let ⟨dx, e⟩ := h; ⟨dx, k _ e⟩
theorem Ins.same {H' : Hp} (s : Same H H') (h : Ins H a C fs) : Ins H' a C fs := let ⟨dx, e⟩ := h; ⟨dx, s _ _ e⟩
theorem Ins.stp {H' : Hp} {b : Addr} (s : Stp b H H') (hd : Drw H b) (h : Ins H a C fs) : Ins H' a C fs := by
  obtain ⟨dx, e⟩ := h
  refine ⟨dx, s.at_ e fun q => ?_⟩
  obtain ⟨u, w, z⟩ := hd
  rw [← q, e] at z
  cases z
/-- an attribute of the instance at a is written: all else stands -/
structure Fput (a : Addr) (H H' : Hp) : Prop where
  kp : ∀ b, b ≠ a → H' b = H b
  old : ∃ C fs, Ins H a C fs
theorem Fput.at_ {b : Addr} {o : HO} {H' : Hp} (f : Fput a H H') (h : H b = some o) (n : ∀ C dx fs, o ≠ .ins C dx fs) : H' b = some o := by
  rw [f.kp b fun e => ?_]
  · exact h
  · obtain ⟨C, fs, dx, q⟩ := f.old
    rw [e, q] at h
    exact n C dx fs (Option.some.inj h).symm
theorem Fput.gro {H' : Hp} (f : Fput a H H') : Gro H H' := ⟨(fun b xs e => f.at_ e fun _ _ _ z => by cases z), (fun b o u e => f.at_ e fun _ _ _ z => by cases z)⟩
theorem Fput.lst {b : Addr} {xs : List V} {H' : Hp} (f : Fput a H H') (h : H b = some (.lst xs)) : H' b = some (.lst xs) := f.at_ h fun _ _ _ z => by cases z
theorem Fput.tup {b : Addr} {xs : List V} {H' : Hp} (f : Fput a H H') (h : H b = some (.tup xs)) : H' b = some (.tup xs) := f.at_ h fun _ _ _ z => by cases z
theorem Fput.drw {b : Addr} {H' : Hp} (f : Fput a H H') (h : Drw H b) : Drw H' b := let ⟨x, y, e⟩ := h; ⟨x, y, f.lst e⟩
theorem Fput.fresh {b : Addr} {H' : Hp} {fs' : List (Str × V)} (f : Fput a H H') (hi : Ins H' a C fs') (h : H' b = none) : H b = none := by
  have n : b ≠ a := fun e => by
    obtain ⟨dx, q⟩ := hi
    rw [e, q] at h
    cases h
  rw [← f.kp b n]
  exact h
theorem Ins.fput {b C2 : Addr} {fs2 : List (Str × V)} {H' : Hp} (f : Fput b H H') (n : a ≠ b) (h : Ins H a C2 fs2) : Ins H' a C2 fs2 := let ⟨dx, e⟩ := h; ⟨dx, by rw [f.kp a n]; exact e⟩
def fldq (K : PySem.W.Frag) (f : Str) (x : V) (H : Hp) (Q : VK) : Prop := ∃ a C dx fs v, x = .ref a ∧ H a = some (.ins C dx fs) ∧ Cls K C ∧ NoAttr K C f ∧ fs.lookup f = some v ∧ Q v H
theorem r_fld (q : ta σ H fun x H1 => fldq K f x H1 Q) : tFld K ta f σ H Q := q
theorem r_fldv (h : Ins H a C fs) (c : Cls K C) (n : NoAttr K C f) (l : fs.lookup f = some v) (q : Q v H) : fldq K f (.ref a) H Q := let ⟨dx, e⟩ := h; ⟨a, C, dx, fs, v, rfl, e, c, n, l, q⟩
def sfldq (K : PySem.W.Frag) (f : Str) (y x : V) (σ : L2.St) (D : Ends) (H : Hp) : Prop := ∃ a C dx fs, x = .ref a ∧ H a = some (.ins C dx fs) ∧ Cls K C ∧ NoAttr K C f ∧ fs.length < 1000 ∧ D.nx σ (upd H a (.ins C dx (putF f y fs)))
theorem r_sfld (q : tv σ H fun y H1 => ta σ H1 fun x H2 => sfldq K f y x σ D H2) : sFld K ta tv f D σ H := q
theorem r_sfldv (h : Ins H a C fs) (c : Cls K C) (n : NoAttr K C f) (hl : fs.length < 1000) (e : putF f y fs = fs') (k : ∀ H', Ins H' a C fs' → Fput a H H' → D.nx σ H') : sfldq K f y (.ref a) σ D H := by
  obtain ⟨dx, he⟩ := h
  subst e
  exact ⟨a, C, dx, fs, rfl, he, c, n, hl, k _ ⟨dx, upd_same⟩ ⟨fun b hb => upd_ne hb, C, fs, dx, he⟩⟩
def methq (C : Addr) (m : Str) (x : V) (H : Hp) (P : Prop) : Prop := ∃ a dx fs, x = .ref a ∧ H a = some (.ins C dx fs) ∧ fs.lookup m = none ∧ P
theorem r_meth (q : ta σ H fun x H1 => methq C m x H1 (t σ H1 fun vs H2 => sp (x :: vs) H2 Q E)) : tMeth C m sp [] E ta t σ H Q := by
  show ta σ H fun x H1 => ∃ a dx fs, x = .ref a ∧ H1 a = some (.ins C dx fs) ∧ fs.lookup m = none ∧ t σ H1 fun vs H2 => sp (x :: (vs ++ [])) H2 Q E
  have e : (fun (x : V) H1 => ∃ a dx fs, x = .ref a ∧ H1 a = some (.ins C dx fs) ∧ fs.lookup m = none ∧ t σ H1 fun vs H2 => sp (x :: (vs ++ [])) H2 Q E) = fun (x : V) H1 => methq C m x H1 (t σ H1 fun vs H2 => sp (x :: vs) H2 Q E) := by
    funext x H1
    have e2 : (fun (vs : List V) H2 => sp (x :: (vs ++ [])) H2 Q E) = fun vs H2 => sp (x :: vs) H2 Q E := by
      funext vs H2
      rw [List.append_nil]
    rw [e2]
    rfl
  rw [e]
  exact q
theorem r_methv (h : Ins H a C fs) (l : fs.lookup m = none) (q : P) : methq C m (.ref a) H P := let ⟨dx, e⟩ := h; ⟨a, dx, fs, rfl, e, l, q⟩
/-- a new instance, then __init__ -/
def makeq (C : Addr) (sp : Sp) (E : XK) (vs : List V) (H : Hp) (Q : VK) : Prop := ∀ x dx, H x = none → H dx = none → dx ≠ x → sp (.ref x :: vs) (upd (upd H dx (.own x)) x (.ins C dx [])) (fun v H2 => v = .non ∧ Q (.ref x) H2) E
theorem r_make (q : t σ H fun vs H1 => makeq C sp E vs H1 Q) : tMake C sp [] E t σ H Q := by
  have e : (fun (vs : List V) (H1 : Hp) => ∀ x dx, H1 x = none → H1 dx = none → dx ≠ x → sp (.ref x :: (vs ++ [])) (upd (upd H1 dx (.own x)) x (.ins C dx [])) (fun v H2 => v = .non ∧ Q (.ref x) H2) E) = fun (vs : List V) (H1 : Hp) => makeq C sp E vs H1 Q := by
    funext vs H1
    rw [List.append_nil]
    rfl
  show t σ H fun (vs : List V) (H1 : Hp) => ∀ x dx, H1 x = none → H1 dx = none → dx ≠ x → sp (.ref x :: (vs ++ [])) (upd (upd H1 dx (.own x)) x (.ins C dx [])) (fun v H2 => v = .non ∧ Q (.ref x) H2) E
  rw [e]
  exact q
theorem r_makev {vs : List V} (k : ∀ x H', H x = none → Same H H' → Ins H' x C [] → sp (.ref x :: vs) H' (fun v H2 => v = .non ∧ Q (.ref x) H2) E) : makeq C sp E vs H Q := fun x dx nx nd ne =>
  k x _ nx (fun b o e => by rw [upd_ne (ne_of_none e nx), upd_ne (ne_of_none e nd)]; exact e) ⟨dx, upd_same⟩
theorem r_non (q : P) : V.non = V.non ∧ P := ⟨rfl, q⟩
end
/-! looking up in short lists of attributes -/
theorem lk_hd {f : Str} {v : V} {r : List (Str × V)} : List.lookup f ((f, v) :: r) = some v := by
  have e : (f == f) = true := beq_self_eq_true f
  simp only [List.lookup, e]
theorem lk_tl {f g : Str} {v : V} {r : List (Str × V)} {o : Option V} (h : (f == g) = false) (e : r.lookup f = o) : List.lookup f ((g, v) :: r) = o := by
  simp only [List.lookup, h]
  exact e
theorem lk_nil {f : Str} : List.lookup f ([] : List (Str × V)) = none := rfl
theorem pf_nil {f : Str} {v : V} : putF f v [] = [(f, v)] := rfl
theorem pf_hd {f : Str} {v x : V} {r : List (Str × V)} : putF f v ((f, x) :: r) = (f, v) :: r := by
  rw [putF, if_pos rfl]
theorem pf_tl {f g : Str} {v x : V} {r r' : List (Str × V)} (h : (g == f) = false) (e : putF f v r = r') : putF f v ((g, x) :: r) = (g, x) :: r' := by
  rw [putF, if_neg (beq_eq_false_iff_ne.mp h), e]
section
variable {X : Cx} {K : PySem.W.Frag} {H : Hp} {Q : VK}
theorem call_strU : CallR X (.type "str") uStr := by
  refine callw (call_str_int.or SkE.call_str_str) fun xs H Q h => ?_
  match xs, h with
  | [.int i], h => exact .inl ⟨_, rfl, h.1, h.2⟩
  | [.str a], h => exact .inr ⟨_, rfl, h⟩
theorem r_strI {n : Int} (h : n.natAbs.log2 < 1920) (q : Q (.str (toString n)) H) : uStr [.int n] H Q := ⟨h, q⟩
theorem r_strS {s : Str} (q : Q (.str s) H) : uStr [.str s] H Q := q
end
theorem inV_str (ss : List Str) (z : Str) : inV (.str z) (ss.map V.str) = decide (z ∈ ss) := by
  by_cases h : z ∈ ss
  · rw [decide_eq_true h]
    unfold inV
    rw [List.any_eq_true]
    exact ⟨.str z, List.mem_map_of_mem h, by simp [eqV]⟩
  · rw [decide_eq_false h]
    exact inV_no fun s hs e => h (e ▸ hs)
section
variable {K : PySem.W.Frag} {H : Hp} {Q : VK} {p : Addr} {ss : List Str} {z : Str}
theorem r_inTs (h : H p = some (.tup (ss.map V.str))) (q : Q (.bl (decide (z ∈ ss))) H) : uIn K (.str z) (.ref p) H Q := r_inT h rfl (flat_strs _) (by rw [inV_str]; exact q)
theorem r_inLs (h : H p = some (.lst (ss.map V.str))) (q : Q (.bl (decide (z ∈ ss))) H) : uIn K (.str z) (.ref p) H Q := r_inL h rfl (flat_strs _) (by rw [inV_str]; exact q)
end
section
variable {K : PySem.W.Frag} {H : Hp} {Q : VK} {p : Addr} {z : Str} {n : Int} {b : Bool}
theorem r_isNN (q : Q (.bl true) H) : uIs .non .non H Q := q
theorem r_isNS (q : Q (.bl false) H) : uIs (.str z) .non H Q := q
theorem r_isNI (q : Q (.bl false) H) : uIs (.int n) .non H Q := q
theorem r_isNR (q : Q (.bl false) H) : uIs (.ref p) .non H Q := q
theorem r_isNB (q : Q (.bl false) H) : uIs (.bl b) .non H Q := q
theorem r_isnotNN (q : Q (.bl false) H) : uIsNot .non .non H Q := q
theorem r_isnotNS (q : Q (.bl true) H) : uIsNot (.str z) .non H Q := q
theorem r_isnotNI (q : Q (.bl true) H) : uIsNot (.int n) .non H Q := q
theorem r_isnotNR (q : Q (.bl true) H) : uIsNot (.ref p) .non H Q := q
theorem r_isnotNB (q : Q (.bl true) H) : uIsNot (.bl b) .non H Q := q
end
/-! data that may be compared -/
structure Okd (n : Nat) (d : PyData) : Prop where
  nb : nb d = true
  dp : d.depth ≤ n
theorem Okd.le {n m : Nat} {d : PyData} (h : Okd n d) (k : n ≤ m) : Okd m d := ⟨h.nb, Nat.le_trans h.dp k⟩
theorem Okd.str {n : Nat} {s : Str} (h : Asc s) : Okd n (.str s) := ⟨by rw [Dk.nb]; exact h.ok, by simp [PyData.depth]⟩
theorem Okd.non {n : Nat} : Okd n .none := ⟨by simp [Dk.nb], by simp [PyData.depth]⟩
theorem Okd.int {n : Nat} (i : Int) : Okd n (.int i) := ⟨by simp [Dk.nb], by simp [PyData.depth]⟩
theorem okd_all {n : Nat} : ∀ {ds : List PyData}, (∀ d ∈ ds, Okd n d) → nbs ds = true ∧ PyData.depthAll ds ≤ n
  | [], _ => ⟨by simp [nbs], by simp [PyData.depthAll]⟩
  | d :: ds, h => by
    have h1 := h d List.mem_cons_self
    have h2 := okd_all fun e he => h e (List.mem_cons_of_mem _ he)
    refine ⟨by rw [nbs, h1.nb, h2.1] <;> rfl, ?_⟩
    rw [PyData.depthAll]
    have := h1.dp
    omega
theorem Okd.tup {n : Nat} {ds : List PyData} (h : ∀ d ∈ ds, Okd n d) : Okd (n + 1) (.tuple ds) := by
  have q := okd_all h
  refine ⟨by rw [Dk.nb]; exact q.1, ?_⟩
  rw [PyData.depth]
  omega
theorem Okd.shaped {n : Nat} {d : PyData} (h : Okd n d) (k : n ≤ 64) : SeqAt.shaped d = true := nb_shaped h.nb (Nat.le_trans h.dp k)
theorem Okd.sD {n : Nat} {ss : List Str} (h : ∀ s ∈ ss, Asc s) : Okd (n + 1) (sD ss) := by
  refine .tup fun d hd => ?_
  obtain ⟨s, hs, rfl⟩ := List.mem_map.mp hd
  exact .str (h s hs)
section
variable {K : PySem.W.Frag} {H : Hp} {Q : VK} {p : Addr} {y : V} {d f : PyData} {n : Nat}
theorem r_neOk (hx : Dq H (.ref p) d) (hy : Dq H y d) (ok : Okd n d) (hn : n ≤ 64) (q : Q (.bl false) H) : uNe K (.ref p) y H Q := by
  refine r_neD hx hy (ok.shaped hn) (ok.shaped hn) ?_
  rw [eqv_self ok.nb]
  exact q
theorem r_eqOk (hx : Dq H (.ref p) d) (hy : Dq H y d) (ok : Okd n d) (hn : n ≤ 64) (q : Q (.bl true) H) : uEq K (.ref p) y H Q := by
  refine r_eqD hx hy (ok.shaped hn) (ok.shaped hn) ?_
  rw [eqv_self ok.nb]
  exact q
end
theorem len_cut (z : Str) (lo hi : Option Int) : (cutS z lo hi).length ≤ z.length := by
  show (((z.cps.toList.drop _).take _).toArray).size ≤ z.cps.size
  rw [List.size_toArray, List.length_take, List.length_drop, Array.length_toList]
  omega
/-- a list alone is changed -/
theorem gro_but {H H' : Hp} {a : Addr} {xs : List V} (h : H a = some (.lst xs)) (k : ∀ b, b ≠ a → H' b = H b) : Gro H H' := by
  refine ⟨fun b ys q => ?_, fun b o u q => ?_⟩
  · rw [k b (ne_of q h (by intro z; cases z))]
    exact q
  · rw [k b (ne_of q h (by intro z; cases z))]
    exact q
/-! an attribute changed by an operator -/
section
variable {K : PySem.W.Frag} {σ : L2.St} {H : Hp} {D : Ends} {ta tv : TE} {C a : Addr} {f : Str} {fs fs' : List (Str × V)} {v x y z : V} {rd : V → V → Hp → VK → Prop}
def augq (K : PySem.W.Frag) (f : Str) (tv : TE) (rd : V → V → Hp → VK → Prop) (x : V) (σ : L2.St) (D : Ends) (H1 : Hp) : Prop := ∃ a C dx fs v, x = .ref a ∧ H1 a = some (.ins C dx fs) ∧ Cls K C ∧ NoAttr K C f ∧ fs.lookup f = some v ∧
  tv σ H1 fun y H2 => rd v y H2 fun z H3 => ∃ dx' fs', H3 a = some (.ins C dx' fs') ∧ fs'.length < 1000 ∧ D.nx σ (upd H3 a (.ins C dx' (putF f z fs')))
def putq (a C : Addr) (f : Str) (σ : L2.St) (D : Ends) : VK := fun z H3 => ∃ dx' fs', H3 a = some (.ins C dx' fs') ∧ fs'.length < 1000 ∧ D.nx σ (upd H3 a (.ins C dx' (putF f z fs')))
theorem r_fldaug (q : ta σ H fun x H1 => augq K f tv rd x σ D H1) : sFldAug K ta tv rd f D σ H := q
theorem r_augq (h : Ins H a C fs) (c : Cls K C) (n : NoAttr K C f) (l : fs.lookup f = some v) (q : tv σ H fun y H2 => rd v y H2 (putq a C f σ D)) : augq K f tv rd (.ref a) σ D H := let ⟨dx, e⟩ := h; ⟨a, C, dx, fs, v, rfl, e, c, n, l, q⟩
theorem r_inAdd {i j : Int} {Q : VK} (q : Q (.int (i + j)) H) : rAdd (.int i) (.int j) H Q := ⟨i, j, rfl, rfl, q⟩
theorem r_inSub {i j : Int} {Q : VK} (q : Q (.int (i - j)) H) : rSub (.int i) (.int j) H Q := ⟨i, j, rfl, rfl, q⟩
theorem r_putq (h : Ins H a C fs) (hl : fs.length < 1000) (e : putF f z fs = fs') (k : ∀ H', Ins H' a C fs' → Fput a H H' → D.nx σ H') : putq a C f σ D z H := by
  obtain ⟨dx, he⟩ := h
  subst e
  exact ⟨dx, fs, he, hl, k _ ⟨dx, upd_same⟩ ⟨fun b hb => upd_ne hb, C, fs, dx, he⟩⟩
end
theorem get_mapG {α β : Type} {f : α → β} {xs : List α} {i : Nat} {y : β} (h : (xs.map f)[i]? = some y) : ∃ x, xs[i]? = some x ∧ f x = y := by
  rw [List.getElem?_map] at h
  cases e : xs[i]? with
  | none =>
    rw [e] at h
    cases h
  | some x =>
    rw [e] at h
    exact ⟨x, rfl, Option.some.inj h⟩
end Dk

/-! Defs that raise, own exceptions, except clauses. -/
namespace Dk
open PySem PySem.Spec PyProof.Rows L2
/-- an exception class of the program without its own __init__ -/
def Xco (K : PySem.W.Frag) (C : Addr) : Prop := PySem.W.excIn K C He.veBase "ValueError.__new__" = true ∧ PySem.W.keepIn K (.ref C) = true ∧ PySem.W.subIn K (.ref C) (.type "BaseException") = some true ∧ PySem.W.typeIn K (.ref C) = some (.type "type")
section
variable {e : Wd} {C : Addr} {m x qual : Str} {st : Stmt} {N ps : List Str} {k : Nat} {sp : Sp}
abbrev cxX (e : Wd) (N : List Str) (qual : Str) (scope : Scope) (f : Addr) (cdv : Value) (A : Around) (outer : List Env) (s : Shared) (H : Hp) (E : XK) : Cx := cxOf (L2.CX e.P e.w) e.P e.w e.K e.mg e.base N qual scope f cdv A outer s H E
/-- what a raising body has to show -/
abbrev BodyX (e : Wd) (qual : Str) (st : Stmt) (N : List Str) (k : Nat) (sp : Sp) : Prop :=
  ∀ (cdv : Value) (f : Addr) (A : Around) (outer : List Env) (s : Shared) (H : Hp) (vs : List V) (Q : VK) (E : XK), Room k (A.deeper (envOfC qual (defScope st) s.heap.objs.size f cdv)) → sp vs H Q E →
    Takes (cxX e N qual (defScope st) f cdv A outer s H E) (fun cls d _ H' => E cls d H') → PassesOwn (model e.P e.w) (cxX e N qual (defScope st) f cdv A outer s H E).A (cxX e N qual (defScope st) f cdv A outer s H E).env (cxX e N qual (defScope st) f cdv A outer s H E).xe →
    ∃ t, PSs (cxX e N qual (defScope st) f cdv A outer s H E) (defBody st) t ∧ t { nx := fun _ H' => Q .non H', rt := Q } (start N vs) H
theorem fnokX {f : Addr} {fd : FuncData} (F : FunD e.K x qual (defArgs st) (defBody st) (defScope st) [] [] f fd) (S : FnScope N ps (defScope st)) (len : ∀ vs H Q E, sp vs H Q E → vs.length = ps.length) (hb : BodyX e qual st N k sp) : FnOk e.P e.w e.K e.mg e.base (L2.CX e.P e.w) (k + 1) f fd ps sp :=
  F.ok S len fun cdv A outer s H vs Q E hr h => hb cdv f A outer s H vs Q E hr h (takes_of rfl rfl rfl rfl) (passes_of rfl)
theorem canX_of (D : DefAt e x st) (S : FnScope N ps (defScope st)) (B : BindOk x st ps) (len : ∀ vs H Q E, sp vs H Q E → vs.length = ps.length) (hb : BodyX e x st N k sp) : Can e (k + 1) x ps sp := by
  obtain ⟨f, fd, F, m⟩ := D
  exact ⟨f, fd, fnokX F S len hb, m, F.kp, F.bindsN B⟩
theorem canMX_of (D : MethAt e C m qual st) (S : FnScope N ps (defScope st)) (B : BindQ m qual st ps) (len : ∀ vs H Q E, sp vs H Q E → vs.length = ps.length) (hb : BodyX e qual st N k sp) : CanM e (k + 1) C m ps sp := by
  obtain ⟨f, fd, F, M, c⟩ := D
  exact ⟨f, fd, fnokX F S len hb, c, M, F.bindsN B⟩
end
/-! ### calls that may raise -/
section
variable {X : Cx} {W : WX} {k : Nat} {C : Addr} {m x : Str} {ps : List Str} {sp : Sp} {o e : Expr} {es : List Expr} {p pos apos : Pos} {ta : TE} {t : TA}
theorem pe_canX (tk : Takes X W) (c : Can (wdOf X) k x ps sp) (hr : Room k X.A) (ha : PA X (e :: es) t) (hg : Gl X x := by rfl)
    (hdb : (x == ("__debug__" : Str)) = false := by decide) (he : starEach (e :: es) X.env = (false, eval e X.env) :: starEach es X.env := by rfl) (hpl : (backTo pos (starEach es X.env)).any (·.1) = false := by rfl) : PE X (.Call (.Name x p) (e :: es) [] pos) (tCallS sp (WE W) t) := by
  obtain ⟨f, fd, F, m, kp, b⟩ := c
  exact pe_callS F hr hg m kp b (fun σ => passAt tk σ) ha hdb he hpl
theorem pe_canX0 (tk : Takes X W) (c : Can (wdOf X) k x ps sp) (hr : Room k X.A) (hg : Gl X x := by rfl) (hdb : (x == ("__debug__" : Str)) = false := by decide) : PE X (.Call (.Name x p) [] [] pos) (tCallS sp (WE W) tNil) := by
  obtain ⟨f, fd, F, m, kp, b⟩ := c
  exact ⟨fun pins s σ H Q I h => wpAny_Call_Name_kw (ld_glob I hg m (PySem.W.callWith_K0 I.kIn kp (run_fnS (us := []) F hr b (passAt tk σ) I .nil h)) hdb)⟩
/-- o.m(..) that may raise -/
def tMethX (C : Addr) (m : Str) (sp : Sp) (E : L2.St → XK) (ta : TE) (t : TA) : TE := fun σ H Q => ta σ H fun x H1 => methq C m x H1 (t σ H1 fun vs H2 => sp (x :: vs) H2 Q (E σ))
theorem pe_canMX {pl : Sem Bool} (tk : Takes X W) (c : CanM (wdOf X) k C m ps sp) (hr : Room k X.A) (he : PE X o ta) (ha : PA X (e :: es) t)
    (hst : starEach (e :: es) X.env = (false, eval e X.env) :: starEach es X.env := by rfl) (hpl : (backTo pos (starEach es X.env)).any (·.1) = false := by rfl)
    (ht : eval (.Call (.Attribute o m apos) (e :: es) [] pos) X.env = (do let ov ← eval o X.env; standAt apos.atName; let (f, first) ← holding [ov] (getMethod ov m pl); callWith pos f first (backTo pos (starEach (e :: es) X.env)) (backToKw pos (keywordEach [] X.env))) := by rfl) :
    PE X (.Call (.Attribute o m apos) (e :: es) [] pos) (tMethX C m sp (WE W) ta t) := by
  obtain ⟨f, fd, F, c, M, b⟩ := c
  refine ⟨fun pins s σ H Q I h => PySem.W.methodCall_KW (pl := pl) (thn (he.run pins s σ H _ I h) fun u s1 ⟨x, H1, I1, rx, a, dx, fs, ex, ea, l, q⟩ => ?_) ht⟩
  cases ex
  cases rx
  exact getmeth_ok I1 ea c M l (PySem.W.callWith_K (first := [.ref a]) (h₀ := X.base) I.ok.mod.kin M.kp (thn (ha.run pos pins s1 σ H1 _ I1 q) fun us s2 ⟨vs, H2, I2, r, q2⟩ => ⟨I2.kIn, run_fnS (us := .ref a :: us) (vs := .ref a :: vs) F hr b (passAt tk σ) I2 (.cons rfl r) q2⟩) hst hpl)
theorem pe_canMX0 {pl : Sem Bool} (tk : Takes X W) (c : CanM (wdOf X) k C m ps sp) (hr : Room k X.A) (he : PE X o ta)
    (ht : eval (.Call (.Attribute o m apos) [] [] pos) X.env = (do let ov ← eval o X.env; standAt apos.atName; let (f, first) ← holding [ov] (getMethod ov m pl); callWith pos f first (backTo pos (starEach [] X.env)) (backToKw pos (keywordEach [] X.env))) := by rfl) :
    PE X (.Call (.Attribute o m apos) [] [] pos) (tMethX C m sp (WE W) ta tNil) := by
  obtain ⟨f, fd, F, c, M, b⟩ := c
  refine ⟨fun pins s σ H Q I h => PySem.W.methodCall_KW (pl := pl) (thn (he.run pins s σ H _ I h) fun u s1 ⟨x, H1, I1, rx, a, dx, fs, ex, ea, l, q⟩ => ?_) ht⟩
  cases ex
  cases rx
  exact getmeth_ok I1 ea c M l (PySem.W.callWith_K0 (first := [.ref a]) I1.kIn M.kp (run_fnS (us := [.ref a]) (vs := [.ref a]) F hr b (passAt tk σ) I1 (.cons rfl .nil) q))
end
/-! ### raise -/
section
variable {X : Cx} {W : WX} {K : PySem.W.Frag} {C : Addr} {x : Str} {e : Expr} {p pos : Pos} {ta : TE} {t : L2.St → Hp → XK → Prop} {D : Ends} {σ : L2.St} {H : Hp} {cls : Value} {d : Option Addr} {i : Nat} {ts : Addr → Value → Option Addr → TS} {Wout : WX}
def tMk0 (C : Addr) : L2.St → Hp → XK → Prop := fun _ H Q => Q (.ref C) none H
def tMk1 (C : Addr) (ta : TE) : L2.St → Hp → XK → Prop := fun σ H Q => ta σ H fun _ H1 => Q (.ref C) none H1
theorem mk0 (xo : Xco X.K C) (g : X.mg x = some (.ref C)) (hg : Gl X x := by rfl) (hdb : (x == ("__debug__" : Str)) = false := by decide) : PMk X (.Call (.Name x p) [] [] pos) (tMk0 C) := by
  obtain ⟨h1, h2, h3, h4⟩ := xo
  intro pins s σ H Q I h
  obtain ⟨bm, N, nm, qn, bs, hdct, sn, sub, ab, col, dd, k0, k1, k2, k3, k5, mN, hC, hN, hni, T⟩ := exc_obj I.kIn h1
  refine wpAny_Call_Name_kw (ld_glob I hg g (PySem.W.callWith_K0 I.kIn h2 ?_) hdb)
  show wpAny _ _ (call (.ref C) []) _ _ _
  exact wpAny_call_exc_subT PySem.F.excBase_ValueError T hC hN hni (fun h' e hm => mk_of I hm (raises_own h3 h4) h (I.hok.gone hm.new)) (Nat.zero_le _)
theorem mk1 (xo : Xco X.K C) (g : X.mg x = some (.ref C)) (he : PE X e ta) (hg : Gl X x := by rfl) (hs : starEach [e] X.env = (false, eval e X.env) :: starEach [] X.env := by rfl) (hdb : (x == ("__debug__" : Str)) = false := by decide) :
    PMk X (.Call (.Name x p) [e] [] pos) (tMk1 C ta) := by
  obtain ⟨h1, h2, h3, h4⟩ := xo
  exact SkE.pmk_own1 PySem.F.excBase_ValueError h1 g h2 (raises_own h3 h4) hg he hs hdb
def tRaise (t : L2.St → Hp → XK → Prop) (W : WX) : TS := fun _ σ H => t σ H fun cls d H' => W cls d σ H'
theorem ps_raiseU (hc : X.calm = true) (tk : Takes X W) (he : PMk X e t) : PS X (.Raise (some e) none pos) (tRaise t W) := ps_raise hc tk he
/-- a statement that is not reached -/
theorem ps_never {s : Stmt} : PS X s (fun _ _ _ => False) := ⟨fun _ _ _ _ _ _ h => h.elim⟩
theorem r_raise0 (q : W (.ref C) none σ H) : tRaise (tMk0 C) W D σ H := q
theorem r_raise1 (q : ta σ H fun _ H1 => W (.ref C) none σ H1) : tRaise (tMk1 C ta) W D σ H := q
/-! ### except clauses -/
/-- what an exception finds: the clause, or nothing -/
def tTryA (K : PySem.W.Frag) (c : Value) (i : Nat) (ts : Addr → Value → Option Addr → TS) (Wout : WX) (tb : WX → TS) : TS := fun D σ H => tb (wAs K c i ts Wout D) D σ H
def tTryO (K : PySem.W.Frag) (c : Value) (ts : Addr → Value → Option Addr → TS) (Wout : WX) (tb : WX → TS) : TS := fun D σ H => tb (wOnly K c ts Wout D) D σ H
theorem r_tryA {tb : WX → TS} (q : tb (wAs K (.ref C) i ts Wout D) D σ H) : tTryA K (.ref C) i ts Wout tb D σ H := q
theorem r_tryO {tb : WX → TS} (q : tb (wOnly K (.ref C) ts Wout D) D σ H) : tTryO K (.ref C) ts Wout tb D σ H := q
theorem r_wAsT {c : Value} (h : PySem.W.exmOne K cls c = some true) (k : ∀ a, H a = none → ts a cls d { nx := fun σ' H' => D.nx (σ'.set i none) H', rt := D.rt, bk := fun σ' H' => D.bk (σ'.set i none) H', ct := fun σ' H' => D.ct (σ'.set i none) H' } (σ.set i (some (.ref a))) H) : wAs K c i ts Wout D cls d σ H :=
  ⟨true, h, fun _ => k, (fun z => absurd z.symm Bool.false_ne_true)⟩
theorem r_wAsF {c : Value} (h : PySem.W.exmOne K cls c = some false) (k : Wout cls d σ H) : wAs K c i ts Wout D cls d σ H := ⟨false, h, (fun z => absurd z Bool.false_ne_true), fun _ => k⟩
theorem r_wOnlyT {c : Value} (h : PySem.W.exmOne K cls c = some true) (k : ∀ a, H a = none → ts a cls d D σ H) : wOnly K c ts Wout D cls d σ H := ⟨true, h, fun _ => k, (fun z => absurd z.symm Bool.false_ne_true)⟩
theorem r_wOnlyF {c : Value} (h : PySem.W.exmOne K cls c = some false) (k : Wout cls d σ H) : wOnly K c ts Wout D cls d σ H := ⟨false, h, (fun z => absurd z Bool.false_ne_true), fun _ => k⟩
/-- isinstance(e, a class) of the exception in hand -/
def rIsX (K : PySem.W.Frag) (cls : Value) (d : Option Addr) (a : Addr) : List V → Hp → VK → Prop := fun xs H Q => ∃ D, cls = .ref D ∧ d = none ∧ ExcC K D ∧ rIsE K D a xs H Q
theorem call_isX {a : Addr} {oe : Obj} {pn : List (Addr × Obj)} (hz : Zc cls d oe) (hf : ∃ vs, oe.data = .fields vs) (hK : X.K = K := by rfl) : CallR (X.suite a ((a, oe) :: pn)) (.builtin "isinstance") (rIsX K cls d a) := by
  subst hK
  intro pins s σ H xs us Q I r ⟨D, e1, e2, c, q⟩
  subst e1 e2
  exact call_isE c hz hf pins s σ H xs us Q I r q
theorem r_isX {a D2 : Addr} {b : Bool} {Q : VK} (h : ExcC K C) (hk : PySem.W.kitOne K (.ref C) (.ref D2) = some b) (q : Q (.bl b) H) : rIsX K (.ref C) none a [.ref a, .ref D2] H Q :=
  ⟨C, rfl, rfl, h, .ref D2, .ref D2, b, rfl, fun u r => r, hk, q⟩
theorem r_isXt {a : Addr} {n : String} {b : Bool} {Q : VK} (h : ExcC K C) (hk : PySem.W.kitOne K (.ref C) (.type n) = some b) (q : Q (.bl b) H) : rIsX K (.ref C) none a [.ref a, .ty n] H Q :=
  ⟨C, rfl, rfl, h, .ty n, .type n, b, rfl, fun u r => r, hk, q⟩
end
/-! ### readings of calls that may raise -/
section
variable {σ : L2.St} {H : Hp} {Q : VK} {ta : TE} {t : TA} {C : Addr} {m : Str} {sp : Sp} {E : L2.St → XK} {W : WX}
theorem r_callS (q : t σ H fun vs H1 => sp vs H1 Q (E σ)) : tCallS sp E t σ H Q := q
theorem r_methX (q : ta σ H fun x H1 => methq C m x H1 (t σ H1 fun vs H2 => sp (x :: vs) H2 Q (E σ))) : tMethX C m sp E ta t σ H Q := q
end
section
variable {X : Cx} {K : PySem.W.Frag} {x n : Str} {C : Addr} {i : Nat} {body suite : List Stmt} {b₀ : Stmt} {np pos pos' : Pos} {tb : WX → TS} {ts : Addr → Value → Option Addr → TS} {Wout : WX}
theorem ps_tryA (hs : X.stack = X.env :: X.outer) (hf : X.env.frame = some X.env.locals) (hN : X.N.Nodup) (hi : X.N[i]? = some n) (hln : X.env.kindOf n = some .local) (hc : Names X x (.ref C)) (tk : Takes X Wout)
    (hb : ∀ (W : WX) (pn : List (Addr × Obj)) (xe : Value → Shared → Prop), Takes (X.tr pn xe) W → PassesOwn (model X.prog X.w) X.A X.env xe → PSs (X.tr pn xe) body (tb W))
    (hsu : ∀ (a : Addr) (oe : Obj) (cls : Value) (d : Option Addr) (pn : List (Addr × Obj)), Zc cls d oe → (∃ vs, oe.data = .fields vs) → PSs (X.suite a ((a, oe) :: pn)) (b₀ :: suite) (ts a cls d)) (hK : X.K = K := by rfl) :
    PS X (.Try body [.ExceptHandler (some (.Name x np)) (some n) (b₀ :: suite) pos'] [] [] pos) (tTryA K (.ref C) i ts Wout tb) := by
  subst hK
  exact ps_try_as hs hf hN hi hln hc tk hb hsu
theorem ps_tryO (hs : X.stack = X.env :: X.outer) (hf : X.env.frame = some X.env.locals) (hc : Names X x (.ref C)) (tk : Takes X Wout)
    (hb : ∀ (W : WX) (pn : List (Addr × Obj)) (xe : Value → Shared → Prop), Takes (X.tr pn xe) W → PassesOwn (model X.prog X.w) X.A X.env xe → PSs (X.tr pn xe) body (tb W))
    (hsu : ∀ (a : Addr) (oe : Obj) (cls : Value) (d : Option Addr) (pn : List (Addr × Obj)), Zc cls d oe → (∃ vs, oe.data = .fields vs) → PSs (X.suite a ((a, oe) :: pn)) (b₀ :: suite) (ts a cls d)) (hK : X.K = K := by rfl) :
    PS X (.Try body [.ExceptHandler (some (.Name x np)) none (b₀ :: suite) pos'] [] [] pos) (tTryO K (.ref C) ts Wout tb) := by
  subst hK
  exact ps_try_only hs hf hc tk hb hsu
/-- a class of the module by its name -/
theorem pe_gc (h : X.mg x = some (.ref C)) (hg : Gl X x := by rfl) (hd : (x == ("__debug__" : Str)) = false := by decide) : PE X (.Name x pos) (tC (.ref C)) := pe_glob hg h rfl hd
def uAll (K : PySem.W.Frag) : List V → Hp → VK → Prop := fun vs H Q => ∃ (a : Addr) (bs : List Bool), vs = [V.ref a] ∧ SqL K H a (bs.map V.bl) ∧ Q (.bl (bs.all id)) H
def uAny (K : PySem.W.Frag) : List V → Hp → VK → Prop := fun vs H Q => ∃ (a : Addr) (bs : List Bool), vs = [V.ref a] ∧ SqL K H a (bs.map V.bl) ∧ Q (.bl (bs.any id)) H
theorem call_allU (hc : X.calm = true) (hK : X.K = K := by rfl) : CallR X (.builtin "all") (uAll K) := by
  subst hK
  exact cr_all hc
theorem call_anyU (hc : X.calm = true) (hK : X.K = K := by rfl) : CallR X (.builtin "any") (uAny K) := by
  subst hK
  exact cr_any hc
variable {H : Hp} {Q : VK} {a : Addr} {bs : List Bool}
theorem r_all (h : H a = some (.lst (bs.map V.bl))) (q : Q (.bl (bs.all id)) H) : uAll K [.ref a] H Q := ⟨a, bs, rfl, SqL.of h, q⟩
theorem r_any (h : H a = some (.lst (bs.map V.bl))) (q : Q (.bl (bs.any id)) H) : uAny K [.ref a] H Q := ⟨a, bs, rfl, SqL.of h, q⟩
end
end Dk

/-! Objects that change: trees of lists and instances, each object once. -/
namespace Dk
open PySem PySem.Spec PyProof.Rows L2
inductive Tr where
  | dat (d : PyData)
  | lst (ts : List Tr)
  | tup (ts : List Tr)
  | ins (C : Addr) (ns : List Str) (ts : List Tr)
mutual
/-- v is the tree t; its own objects stand at fp -/
inductive Own (H : Hp) : V → Tr → List Addr → Prop
  | dat {v : V} {d : PyData} : Dq H v d → Own H v (.dat d) []
  | lst {a : Addr} {vs : List V} {ts : List Tr} {fp : List Addr} : H a = some (.lst vs) → Owns H vs ts fp → a ∉ fp → Own H (.ref a) (.lst ts) (a :: fp)
  | tup {a : Addr} {vs : List V} {ts : List Tr} {fp : List Addr} : H a = some (.tup vs) → Owns H vs ts fp → Own H (.ref a) (.tup ts) fp
  | ins {a dx C : Addr} {fs : List (Str × V)} {ns : List Str} {ts : List Tr} {fp : List Addr} : H a = some (.ins C dx fs) → fs.map (·.1) = ns → Owns H (fs.map (·.2)) ts fp → a ∉ fp → Own H (.ref a) (.ins C ns ts) (a :: fp)
inductive Owns (H : Hp) : List V → List Tr → List Addr → Prop
  | nil : Owns H [] [] []
  | cons {v : V} {t : Tr} {fp : List Addr} {vs : List V} {ts : List Tr} {gp : List Addr} : Own H v t fp → Owns H vs ts gp → (∀ b ∈ fp, b ∉ gp) → Owns H (v :: vs) (t :: ts) (fp ++ gp)
end
/-- no place in common -/
def Dsj (fp gp : List Addr) : Prop := ∀ b ∈ fp, b ∉ gp
theorem Dsj.symm {fp gp : List Addr} (h : Dsj fp gp) : Dsj gp fp := fun b h1 h2 => h b h2 h1
/-- a step that changes what stands at F, which is F' behind it -/
structure Chg (F F' : List Addr) (H H' : Hp) : Prop where
  kp : ∀ b o, H b = some o → b ∉ F → H' b = some o
  nw : ∀ b ∈ F', b ∈ F ∨ H b = none
  gro : Gro H H'
theorem Chg.refl (F : List Addr) (H : Hp) : Chg F F H H := ⟨fun _ _ h _ => h, fun _ h => .inl h, Gro.refl H⟩
theorem Chg.trans {F F1 F2 : List Addr} {H H1 H2 : Hp} (a : Chg F F1 H H1) (b : Chg F1 F2 H1 H2) : Chg F F2 H H2 := by
  refine ⟨fun c o h n => b.kp c o (a.kp c o h n) fun m => ?_, fun c hc => ?_, a.gro.trans b.gro⟩
  · rcases a.nw c m with z | z
    · exact n z
    · rw [z] at h
      cases h
  · rcases b.nw c hc with z | z
    · exact a.nw c z
    · by_cases m : c ∈ F
      · exact .inl m
      · right
        cases q : H c with
        | none => rfl
        | some o =>
          rw [a.kp c o q m] at z
          cases z
theorem Chg.same {F : List Addr} {H H' : Hp} (s : Same H H') : Chg F F H H' := ⟨fun b o h _ => s b o h, fun _ h => .inl h, Gro.same s⟩
theorem Chg.snd {F F' : List Addr} {H H1 H2 : Hp} (a : Chg F F' H H1) (s : Same H1 H2) : Chg F F' H H2 := a.trans (Chg.same s)
theorem Chg.le {F F' G : List Addr} {H H' : Hp} (a : Chg F F' H H') (h : ∀ b ∈ G, b ∈ F') : Chg F G H H' := ⟨a.kp, fun b hb => a.nw b (h b hb), a.gro⟩
/-- more may be changed than is -/
theorem Chg.wide {F F' G : List Addr} {H H' : Hp} (a : Chg F F' H H') : Chg (F ++ G) (F' ++ G) H H' :=
  ⟨fun b o h n => a.kp b o h fun m => n (List.mem_append_left _ m), fun b hb => (List.mem_append.mp hb).elim (fun z => (a.nw b z).elim (fun y => .inl (List.mem_append_left _ y)) .inr) fun z => .inl (List.mem_append_right _ z), a.gro⟩
theorem Chg.at_ {F F' : List Addr} {H H' : Hp} {b : Addr} {o : HO} (c : Chg F F' H H') (h : H b = some o) (n : b ∉ F) : H' b = some o := c.kp b o h n
theorem Chg.drw {F F' : List Addr} {H H' : Hp} {a : Addr} (c : Chg F F' H H') (h : Drw H a) (n : a ∉ F) : Drw H' a := let ⟨x, y, e⟩ := h; ⟨x, y, c.kp a _ e n⟩
theorem Chg.out {F F' : List Addr} {H H' : Hp} {b : Addr} {o : HO} (c : Chg F F' H H') (h : H b = some o) (n : b ∉ F) : b ∉ F' := fun m => by
  rcases c.nw b m with z | z
  · exact n z
  · rw [z] at h
    cases h
theorem Stp.chg {a : Addr} {H H' : Hp} (s : Stp a H H') : Chg [a] [a] H H' := ⟨fun b o h n => s.fr b o h fun e => n (by rw [e]; exact List.mem_singleton.mpr rfl), fun b h => .inl h, s.gro⟩
theorem Chg.stp {a : Addr} {H H' : Hp} (c : Chg [a] [a] H H') (d : Drw H' a) : Stp a H H' := ⟨fun b o h n => c.kp b o h fun m => n (List.mem_singleton.mp m), c.gro, d⟩
mutual
theorem Own.frame {H H' : Hp} (g : Gro H H') : ∀ {t : Tr} {v : V} {fp : List Addr}, Own H v t fp → (∀ b ∈ fp, H' b = H b) → Own H' v t fp
  | .dat d, _, _, h, _ => by
    cases h with
    | dat h => exact .dat (h.mono g)
  | .lst ts, _, _, h, k => by
    cases h with
    | lst ha hs n => exact .lst (by rw [k _ List.mem_cons_self]; exact ha) (Owns.frame g hs fun b hb => k b (List.mem_cons_of_mem _ hb)) n
  | .tup ts, _, _, h, k => by
    cases h with
    | tup ha hs => exact .tup (g.tup _ _ ha) (Owns.frame g hs k)
  | .ins C ns ts, _, _, h, k => by
    cases h with
    | ins ha he hs n => exact .ins (by rw [k _ List.mem_cons_self]; exact ha) he (Owns.frame g hs fun b hb => k b (List.mem_cons_of_mem _ hb)) n
theorem Owns.frame {H H' : Hp} (g : Gro H H') : ∀ {ts : List Tr} {vs : List V} {fp : List Addr}, Owns H vs ts fp → (∀ b ∈ fp, H' b = H b) → Owns H' vs ts fp
  | [], _, _, h, _ => by cases h; exact .nil
  | t :: ts, _, _, h, k => by
    cases h with
    | cons h1 h2 n => exact .cons (Own.frame g h1 fun b hb => k b (List.mem_append_left _ hb)) (Owns.frame g h2 fun b hb => k b (List.mem_append_right _ hb)) n
end
/-- the objects of a tree stand, and are no tuples, nothing that is locked -/
def Mt (o : Option HO) : Prop := ∃ u, o = some u ∧ (∀ xs, u ≠ .tup xs) ∧ ∀ ob w, u ≠ .frz ob w
theorem mt_lst {o : Option HO} {xs : List V} (h : o = some (.lst xs)) : Mt o := ⟨_, h, (fun _ z => by cases z), (fun _ _ z => by cases z)⟩
theorem mt_ins {o : Option HO} {C dx : Addr} {fs : List (Str × V)} (h : o = some (.ins C dx fs)) : Mt o := ⟨_, h, (fun _ z => by cases z), (fun _ _ z => by cases z)⟩
mutual
theorem Own.there {H : Hp} : ∀ {t : Tr} {v : V} {fp : List Addr}, Own H v t fp → ∀ b ∈ fp, Mt (H b)
  | .dat d, _, _, h, b, hb => by
    cases h
    exact absurd hb List.not_mem_nil
  | .lst ts, _, _, h, b, hb => by
    cases h with
    | lst ha hs n =>
      rcases List.mem_cons.mp hb with e | hb
      · exact mt_lst (e ▸ ha)
      · exact Owns.there hs b hb
  | .tup ts, _, _, h, b, hb => by
    cases h with
    | tup ha hs => exact Owns.there hs b hb
  | .ins C ns ts, _, _, h, b, hb => by
    cases h with
    | ins ha he hs n =>
      rcases List.mem_cons.mp hb with e | hb
      · exact mt_ins (e ▸ ha)
      · exact Owns.there hs b hb
theorem Owns.there {H : Hp} : ∀ {ts : List Tr} {vs : List V} {fp : List Addr}, Owns H vs ts fp → ∀ b ∈ fp, Mt (H b)
  | [], _, _, h, b, hb => by
    cases h
    exact absurd hb List.not_mem_nil
  | t :: ts, _, _, h, b, hb => by
    cases h with
    | cons h1 h2 n => exact (List.mem_append.mp hb).elim (fun z => Own.there h1 b z) fun z => Owns.there h2 b z
end
section
variable {H H' : Hp} {v : V} {t : Tr} {F F' fp : List Addr} {vs : List V} {ts : List Tr}
theorem Own.same (s : Same H H') (h : Own H v t fp) : Own H' v t fp := h.frame (Gro.same s) fun b hb => by
  obtain ⟨u, e, _⟩ := h.there b hb
  rw [e]
  exact s b u e
theorem Owns.same (s : Same H H') (h : Owns H vs ts fp) : Owns H' vs ts fp := h.frame (Gro.same s) fun b hb => by
  obtain ⟨u, e, _⟩ := h.there b hb
  rw [e]
  exact s b u e
theorem Own.chg (c : Chg F F' H H') (n : Dsj F fp) (h : Own H v t fp) : Own H' v t fp := h.frame c.gro fun b hb => by
  obtain ⟨u, e, _⟩ := h.there b hb
  rw [e]
  exact c.kp b u e fun m => n b m hb
theorem Owns.chg (c : Chg F F' H H') (n : Dsj F fp) (h : Owns H vs ts fp) : Owns H' vs ts fp := h.frame c.gro fun b hb => by
  obtain ⟨u, e, _⟩ := h.there b hb
  rw [e]
  exact c.kp b u e fun m => n b m hb
/-- the other tree stays apart -/
theorem Own.apart (c : Chg F F' H H') (n : Dsj F fp) (h : Own H v t fp) : Dsj F' fp := fun b hb m => by
  obtain ⟨u, e, _⟩ := h.there b m
  exact c.out e (fun z => n b z m) hb
theorem Owns.apart (c : Chg F F' H H') (n : Dsj F fp) (h : Owns H vs ts fp) : Dsj F' fp := fun b hb m => by
  obtain ⟨u, e, _⟩ := h.there b m
  exact c.out e (fun z => n b z m) hb
theorem Own.stp {a : Addr} (s : Stp a H H') (n : a ∉ fp) (h : Own H v t fp) : Own H' v t fp := h.chg s.chg fun b hb m => n (List.mem_singleton.mp hb ▸ m)
theorem Own.new_out {a : Addr} (h : Own H v t fp) (n : H a = none) : a ∉ fp := fun m => by
  obtain ⟨u, e, _⟩ := h.there a m
  rw [n] at e
  cases e
theorem Owns.new_out {a : Addr} (h : Owns H vs ts fp) (n : H a = none) : a ∉ fp := fun m => by
  obtain ⟨u, e, _⟩ := h.there a m
  rw [n] at e
  cases e
theorem Own.tup_out {a : Addr} {xs : List V} (h : Own H v t fp) (n : H a = some (.tup xs)) : a ∉ fp := fun m => by
  obtain ⟨u, e, k, _⟩ := h.there a m
  rw [n] at e
  cases e
  exact k _ rfl
end
/-- what is changed at F: tuples and what is locked stand -/
theorem Chg.of {F F' : List Addr} {H H' : Hp} (k : ∀ b o, H b = some o → b ∉ F → H' b = some o) (m : ∀ b ∈ F, Mt (H b)) (n : ∀ b ∈ F', b ∈ F ∨ H b = none) : Chg F F' H H' := by
  refine ⟨k, n, ⟨fun b xs e => k b _ e fun hb => ?_, fun b o u e => k b _ e fun hb => ?_⟩⟩
  · obtain ⟨w, e1, e2, _⟩ := m b hb
    rw [e] at e1
    exact e2 xs (Option.some.inj e1).symm
  · obtain ⟨w, e1, _, e2⟩ := m b hb
    rw [e] at e1
    exact e2 o u (Option.some.inj e1).symm
/-- a list of ints -/
def intsT (ns : List Int) : Tr := .lst (ns.map fun n => .dat (.int n))
theorem ownsInts {H : Hp} : ∀ ns : List Int, Owns H (ns.map V.int) (ns.map fun n => Tr.dat (.int n)) []
  | [] => .nil
  | n :: ns => .cons (fp := []) (.dat (.int n)) (ownsInts ns) fun _ h => absurd h List.not_mem_nil
theorem ownsInts_of {H : Hp} : ∀ {ns : List Int} {vs : List V} {fp : List Addr}, Owns H vs (ns.map fun n => Tr.dat (.int n)) fp → vs = ns.map V.int ∧ fp = []
  | [], _, _, h => by cases h; exact ⟨rfl, rfl⟩
  | n :: ns, _, _, h => by
    cases h with
    | cons h1 h2 _ =>
      cases h1 with
      | dat h1 =>
        cases h1
        obtain ⟨e1, e2⟩ := ownsInts_of h2
        rw [e1, e2]
        exact ⟨rfl, rfl⟩
theorem Own.intsAt {H : Hp} {v : V} {ns : List Int} {fp : List Addr} (h : Own H v (intsT ns) fp) : ∃ a, v = .ref a ∧ fp = [a] ∧ H a = some (.lst (ns.map V.int)) := by
  cases h with
  | lst ha hs n =>
    obtain ⟨e1, e2⟩ := ownsInts_of hs
    rw [e1] at ha
    rw [e2]
    exact ⟨_, rfl, rfl, ha⟩
theorem Own.mkInts {H : Hp} {a : Addr} {ns : List Int} (h : H a = some (.lst (ns.map V.int))) : Own H (.ref a) (intsT ns) [a] := .lst h (ownsInts ns) List.not_mem_nil
theorem Same.before {H H' : Hp} {r : Addr} (s : Same H H') (h : H' r = none) : H r = none := by
  cases q : H r with
  | none => rfl
  | some o =>
    rw [s r o q] at h
    cases h
/-- what is changed was new -/
theorem Same.but {H H1 H2 : Hp} {r : Addr} (s : Same H H1) (n : H r = none) (k : ∀ b, b ≠ r → H2 b = H1 b) : Same H H2 := fun b o e => by
  rw [k b (ne_of_none e n)]
  exact s b o e
theorem Same.fput {H H1 H2 : Hp} {r : Addr} (s : Same H H1) (n : H r = none) (k : Fput r H1 H2) : Same H H2 := Same.but s n k.kp
theorem but_at {H H' : Hp} {a b : Addr} {o : HO} (k : ∀ c, c ≠ a → H' c = H c) (h : H b = some o) (n : b ≠ a) : H' b = some o := by
  rw [k b n]
  exact h
/-- [e for j in range(m)], the elements of any kind: Iv by the new list, the turn, what is in it, the heap -/
theorem lc_RG {σ : L2.St} {H : Hp} {Q : VK} {te : TE} {vs : List Nat} {j : Nat} {m : Int} (Iv : Addr → Nat → List V → Hp → Prop) (h1 : -(2 ^ 62) ≤ m) (h2 : m < 10000000) (hw : ∀ x, wipe ((wipe σ vs).set j (some x)) vs = wipe σ vs)
    (h0 : ∀ D H', H D = none → H' D = some (.lst []) → (∀ b, b ≠ D → H' b = H b) → Iv D 0 [] H')
    (el : ∀ D (i : Nat) ys H1 (Q1 : VK), (i : Int) < m → H D = none → H1 D = some (.lst ys) → Iv D i ys H1 → (∀ y H2, H2 D = some (.lst ys) → (∀ H3, H3 D = some (.lst (ys ++ [y])) → (∀ b, b ≠ D → H3 b = H2 b) → Iv D (i + 1) (ys ++ [y]) H3) → Q1 y H2) → te ((wipe σ vs).set j (some (.int i))) H1 Q1)
    (k : ∀ D H' ys, H D = none → H' D = some (.lst ys) → Iv D m.toNat ys H' → Q (.ref D) H') : rlq [.int m] j tYes te vs σ H Q := by
  refine ⟨m, rfl, h1, by omega, fun D hD => ?_⟩
  refine lc_it (walk_range (lo := 0) (n := m.toNat)) (Qd := fun H' => Q (.ref D) H') (fun i H' => ∃ ys, H' D = some (.lst ys) ∧ ys.length ≤ i ∧ Iv D i ys H') ?_ (fun _ _ _ _ => trivial) ?_ ?_
  · exact ⟨[], upd_same, Nat.le_refl _, h0 D _ hD upd_same fun b hb => upd_ne hb⟩
  · rintro i x H1 H1' hi ⟨ys, hl, hle, iv⟩ hy
    obtain ⟨rfl, rfl⟩ := hy
    have e0 : (0 : Int) + (i : Int) = (i : Int) := Int.zero_add _
    show gName j (V.int ((0 : Int) + (i : Int))) (wipe σ vs) H1' _
    rw [e0]
    refine ⟨hw _, r_tyes (r_iteT (el D i ys H1' _ (by omega) hD hl iv fun y H2 hl2 kk => ?_))⟩
    exact ⟨ys, hl2, by rw [sizeLine_eq]; omega, ys ++ [y], upd_same, by simp; omega, kk _ upd_same fun b hb => upd_ne hb⟩
  · rintro H' ⟨ys, hl, _, iv⟩
    exact k D H' ys hD hl iv
/-- part of a tuple -/
theorem r_slT {K : PySem.W.Frag} {H : Hp} {Q : VK} {p : Addr} {xs : List V} {lo hi : Option Int} (h : H p = some (.tup xs)) (k : ∀ p H', Same H H' → H' p = some (.tup (cutV xs lo hi)) → Q (.ref p) H') : uSl K (.ref p) lo hi H Q := by
  refine .inr ⟨p, xs, rfl, SqT.of h, fun ⟨e1, e2⟩ => ?_, fun _ q nq => k q _ (same_new nq) upd_same⟩
  refine k p H (Same.refl _) ?_
  rw [h]
  unfold cutV
  rw [e1, e2, List.drop_zero, Nat.sub_zero, List.take_of_length_le (Nat.le_refl _)]
/-- min, max of two ints -/
def uMin2 : List V → Hp → VK → Prop := fun xs H Q => match xs with
  | [.int i, .int j] => Q (.int (if j < i then j else i)) H
  | _ => False
def uMax2 : List V → Hp → VK → Prop := fun xs H Q => match xs with
  | [.int i, .int j] => Q (.int (if i < j then j else i)) H
  | _ => False
theorem call_min2U {X : Cx} (hc : X.calm = true) : CallR X (.builtin "min") uMin2 := by
  refine callw (call_min2 hc) fun xs H Q h => ?_
  match xs, h with
  | [.int i, .int j], h => exact ⟨i, j, rfl, h⟩
theorem r_min2 {H : Hp} {Q : VK} {i j : Int} (q : Q (.int (if j < i then j else i)) H) : uMin2 [.int i, .int j] H Q := q
theorem ins_ne {H : Hp} {a b C : Addr} {fs : List (Str × V)} {xs : List V} (h : Ins H a C fs) (k : H b = some (.lst xs)) : a ≠ b := by
  obtain ⟨dx, h⟩ := h
  intro e
  rw [e, k] at h
  cases h
theorem dsj_one {a : Addr} {fp : List Addr} (h : a ∉ fp) : Dsj [a] fp := fun b hb m => h (List.mem_singleton.mp hb ▸ m)
theorem Fput.chg {p : Addr} {fp : List Addr} {H H' : Hp} (f : Fput p H H') (h : p ∈ fp) : Chg fp fp H H' :=
  ⟨fun b o e n => by rw [f.kp b fun z => n (z ▸ h)]; exact e, fun _ h => .inl h, f.gro⟩
theorem but_chg {p : Addr} {fp : List Addr} {H H' : Hp} {xs : List V} (k : ∀ b, b ≠ p → H' b = H b) (e : H p = some (.lst xs)) (h : p ∈ fp) : Chg fp fp H H' :=
  ⟨fun b o e n => by rw [k b fun z => n (z ▸ h)]; exact e, fun _ h => .inl h, gro_but e k⟩
end Dk

/-! Sets of texts made of a tuple, and sorted. -/
namespace Dk
open PySem PySem.Spec PyProof.Rows L2 PySem.Froz
/-- laying a text keeps the places rising -/
theorem addTx_keeps (n : Int) (v : Value) (rows : Array (Int × Value)) (c : Nat) (tb : SetTable) (up : Ris tb.place.toList) : Ris (addTx n v (rows, c, tb)).2.2.place.toList ∧ (addTx n v (rows, c, tb)).2.2.led = tb.led := by
  have a1 := layNew_ris tb rows n v up
  have a2 := layNew_led tb rows n v
  show Ris (tailTx c (layNew tb rows n v).1 (if (layNew tb rows n v).2.1.plain = true then { (layNew tb rows n v).2.1 with plain := false } else (layNew tb rows n v).2.1) (layNew tb rows n v).2.2.1).2.2.place.toList ∧
    (tailTx c (layNew tb rows n v).1 (if (layNew tb rows n v).2.1.plain = true then { (layNew tb rows n v).2.1 with plain := false } else (layNew tb rows n v).2.1) (layNew tb rows n v).2.2.1).2.2.led = tb.led
  generalize layNew tb rows n v = Z at a1 a2 ⊢
  obtain ⟨r1, tb1, wd, gv⟩ := Z
  dsimp only at a1 a2 ⊢
  have b1 : Ris (if tb1.plain = true then { tb1 with plain := false } else tb1).place.toList := by split <;> exact a1
  have b2 : (if tb1.plain = true then { tb1 with plain := false } else tb1).led = tb.led := by split <;> exact a2
  generalize (if tb1.plain = true then { tb1 with plain := false } else tb1) = tb2 at b1 b2 ⊢
  unfold tailTx
  split
  · exact ⟨relayAll_ris tb2 r1 _, (relayAll_led tb2 r1 _).trans b2⟩
  · exact ⟨b1, b2⟩
/-- the set of texts at p: those of l, each once -/
def TxAt (P : Program) (w : World) (h : Heap) (p : Addr) (l : List Str) : Prop := ∃ rows c tb, h.get? p = some (sObj "set" (rows, c, tb)) ∧ TxOk P w (rows, c, tb) l ∧ Ris tb.place.toList ∧ (w.params.followText "set-order" = true ∨ tb.led = true) ∧ l.Nodup
theorem TxAt.at_ {P : Program} {w : World} {h h' : Heap} {p : Addr} {l : List Str} (x : TxAt P w h p l) (k : ∀ o, h.get? p = some o → h'.get? p = some o) : TxAt P w h' p l := by
  obtain ⟨rows, c, tb, e, r⟩ := x
  exact ⟨rows, c, tb, k _ e, r⟩
abbrev frO (w : World) : Obj := { cls := .type "set", dict := none, data := .set #[] 0 (.fresh 0 0 (!w.params.followText "set-order")) }
theorem txAt_new {P : Program} {w : World} {h : Heap} {p : Addr} (e : h.get? p = some (frO w)) : TxAt P w h p [] := by
  refine ⟨#[], 0, _, e, TxOk.nil (by rfl), List.Pairwise.nil, ?_, List.nodup_nil⟩
  show _ ∨ (!w.params.followText "set-order") = true
  cases w.params.followText "set-order" with
  | false => exact .inr rfl
  | true => exact .inl rfl
section
variable {P : Program} {w : World} {A : Around} {E : Value → Shared → Prop} {s : Shared}
/-- one text more, or the same again -/
theorem tx_add {p : Addr} {l : List Str} {k : Str} {u : Tok} {Q : Bool → Shared → Prop} (x : TxAt P w s.heap p l) (room : l.length + 1 < scanBound)
    (q : ∀ b h' l', Heap.SameBut p s.heap h' → TxAt P w h' p l' → (∀ z, z ∈ l' ↔ z ∈ l ∨ z = k) → l'.length ≤ l.length + 1 → Q b { s with heap := h' }) : wpAny (model P w) A (setAddHashed p (.str k u) (hashStr w k)) Q E s := by
  obtain ⟨rows, c, tb, e, T, up, ld, nd⟩ := x
  by_cases hk : k ∈ l
  · have fit : tb.fits rows.size = true := T.fit
    have els : ElemsOf (strKind P w) rows.toList := T.el
    have sz : rows.size = l.length := T.sz
    have few : rows.size < scanBound := by omega
    have same : (PySem.strKind P w).is k (.str k u) = true := is_str k u
    unfold setAddHashed setAddHashedIn
    refine wpAny_holding (wpAny_bind (wpAny_setState_of e rfl fit ?_))
    dsimp only
    rw [byScan_of (knd := PySem.strKind P w) rfl few els]
    simp only [↓reduceIte]
    unfold setAddByScan
    refine wpAny_bind (wpAny_bind (wpAny_rule (wpAny_bind (wpAny_setScan_of (knd := PySem.strKind P w) (k := k) same e rfl fit els ?_))))
    have found : ∃ j, List.findIdx? (fun r => (PySem.strKind P w).is k r.2) rows.toList = some j := by
      obtain ⟨r, hr, hi⟩ := (T.mem k).mp hk
      cases z : List.findIdx? (fun r => (PySem.strKind P w).is k r.2) rows.toList with
      | some j => exact ⟨j, rfl⟩
      | none =>
        have := List.findIdx?_eq_none_iff.mp z r hr
        rw [hi] at this
        cases this
    obtain ⟨j, ej⟩ := found
    rw [ej]
    dsimp only
    exact wpAny_pure (wpAny_pure (q false s.heap l (Heap.SameBut.refl p s.heap) ⟨rows, c, tb, e, T, up, ld, nd⟩ (fun z => ⟨.inl, fun h => h.elim id fun h => h ▸ hk⟩) (Nat.le_succ _)))
  · refine add_x e T hk room ?_
    obtain ⟨u1, u2⟩ := addTx_keeps (hashStr w k) (.str k u) rows c tb up
    have T1 := add_ok (k := k) u T
    generalize addTx (hashStr w k) (.str k u) (rows, c, tb) = Z at u1 u2 T1 ⊢
    obtain ⟨r1, c1, tb1⟩ := Z
    refine q true _ (k :: l) ⟨Heap.size_update .., fun b hb => Heap.get?_update_other _ _ (Ne.symm hb)⟩ ⟨r1, c1, tb1, get_upd _ e rfl, T1, u1, ld.imp id fun z => Eq.trans u2 z, List.nodup_cons.mpr ⟨hk, nd⟩⟩ (fun z => by rw [List.mem_cons]; exact Or.comm) (Nat.le_refl _)
/-- the loop of set(..) over the items -/
theorem tx_loop {I : Addr} {fp wr : List Addr} {G : Array GenState → Array GenState → Prop} {n : Nat} {Pv : Nat → Value → Prop} {St : Nat → Shared → Prop} {R : Result → Shared → Prop} (W : WalksS P w A.in1 I fp wr G n Pv St) (p : Addr) (out : p ∉ fp) (ss : List Str) (hn : n = ss.length) (room : ss.length + 1 < scanBound)
    (item : ∀ i v, Pv i v → ∃ k u, ss[i]? = some k ∧ v = .str k u) : ∀ (m i : Nat) (s : Shared), n - i = m → i ≤ n → St i s → (∃ l, TxAt P w s.heap p l ∧ (∀ z, z ∈ l ↔ z ∈ ss.take i) ∧ l.length ≤ i) →
      (∀ s' l, Moved (p :: wr) G s s' → TxAt P w s'.heap p l → (∀ z, z ∈ l ↔ z ∈ ss) → l.length ≤ n → R (.ok (.ret .none)) s') → codeAny (model P w) A (.builtin "set.update.loop" ⟨[.ref p, .ref I], []⟩) R s := by
  have pw : p ∉ wr := fun z => out (W.sub _ z)
  have more : ∀ b ∈ wr, b ∈ p :: wr := fun b z => List.mem_cons_of_mem _ z
  intro m
  induction m with
  | zero =>
    intro i s hm hi st ⟨l, x, mem, few⟩ fin
    have ei : i = n := by omega
    subst ei
    refine codeAny_builtin F.entry_set_update_loop ?_
    rw [Around.under_plainId F.plain_set_update_loop _]
    show wpAny _ A.in1 (pyNext (.ref I) >>= _) _ _ s
    refine wpAny_bind (W.done s _ _ st fun s1 mv => ?_)
    show wpAny _ A.in1 (ret Value.none) _ _ s1
    exact wpAny_pure (fin s1 l (mv.mono more) (x.at_ fun o z => mv.heap p o pw z) (fun z => by rw [mem z, List.take_of_length_le (by omega)]) few)
  | succ m ih =>
    intro i s hm hi st ⟨l, x, mem, few⟩ fin
    have lt : i < n := by omega
    refine codeAny_builtin F.entry_set_update_loop ?_
    rw [Around.under_plainId F.plain_set_update_loop _]
    show wpAny _ A.in1 (pyNext (.ref I) >>= _) _ _ s
    refine wpAny_bind (W.item i s _ _ lt st fun v s1 hv st1 mv => ?_)
    obtain ⟨k, u, hk, rfl⟩ := item i v hv
    have x1 : TxAt P w s1.heap p l := x.at_ fun o z => mv.heap p o pw z
    show wpAny _ A.in1 (holding [Value.str k u] (setAdd p (.str k u)) >>= _) _ _ s1
    unfold setAdd
    refine wpAny_bind (wpAny_holding (wpAny_holding (wpAny_bind ((PySem.strKind P w).pyHash (k := k) (is_str k u) ?_))))
    refine tx_add (s := { s1 with toks := s1.toks + 1 }) x1 (by omega) fun b h2 l2 sb x2 mem2 few2 => ?_
    have mem3 : ∀ z, z ∈ l2 ↔ z ∈ ss.take (i + 1) := fun z => by
      rw [mem2 z, mem z, List.take_add_one, hk]
      simp [List.mem_append]
    refine wpAny_pure ⟨plainId_quiet F.plain_set_update_loop _, ih (i + 1) _ (by omega) lt (W.frame _ s1 _ _ st1 (Nat.le_succ _) fun b hb o z => ?_) ⟨l2, x2, mem3, by omega⟩ fun s3 l3 mv3 x3 mem4 few4 => ?_⟩
    · rw [sb.2 b (fun q : b = p => out (by rw [← q]; exact hb))]
      exact z
    · refine fin s3 l3 (Moved.trans W.gtrans ((mv.mono more).then_heap (Nat.le_succ _) fun b o hb z => ?_) mv3) x3 mem4 few4
      rw [sb.2 b (fun q : b = p => hb (by rw [q]; exact List.mem_cons_self))]
      exact z
set_option maxHeartbeats 3200000 in
/-- set(a tuple of texts) -/
theorem tx_set {a : Addr} {its : Array Value} (ss : List Str) {Q : Value → Shared → Prop} (calm : A.handled = none) (ha : s.heap.IsTuple a its) (hi : StrsAre its.toList ss) (room : ss.length + 1 < scanBound)
    (q : ∀ (h' : Heap) (n : Nat) (l : List Str), TxAt P w h' s.heap.objs.size l → (∀ z, z ∈ l ↔ z ∈ ss) → l.length ≤ ss.length → (∀ b o, s.heap.get? b = some o → h'.get? b = some o) → Q (.ref s.heap.objs.size) { s with heap := h', toks := n }) :
    wpAny (model P w) A (call (.type "set") [.ref a]) Q E s := by
  have il : its.size = ss.length := by rw [← StrsAre.length hi, Array.length_toList]
  obtain ⟨mr0, mr1, mr2⟩ := F.called_set.mro
  have m0 := F.called_set.made
  have m1 := F.called_set.sub
  refine wpAny_call (codeAny_of_tree (show wpAny _ _ (callAny (.type "set") _) _ _ _ from ?_))
  refine wpAny_pure ⟨Code.quiet_builtin _ (by decide +kernel), codeAny_builtin F.entry_type_call (show _ from ?_)⟩
  rw [Around.under_plain (weight_type_call_type "set" [.ref a] []) rfl]
  have m2 := F.called_set.notType
  have m3 := F.called_set.canCreate
  have m4 := F.typeCall_set_1 (.ref a)
  repeat (any_goals (first | assumption | wp_step))
  refine codeAny_mono (code_set_led1 (.ref a) (E := E) (Q₁ := fun ob s1 => ob = .ref s.heap.objs.size ∧ s1 = { s with heap := s.heap.push (frO w) }) ⟨rfl, rfl⟩) fun r s1 hr => ?_
  cases r with
  | error x => exact hr
  | ok fl =>
    cases fl with
    | ret ob =>
      obtain ⟨rfl, rfl⟩ := hr
      have z0 : (s.heap.push (frO w)).get? s.heap.objs.size = some (frO w) := Heap.get?_push_size _ rfl
      have zT : Shared.TypeIs { s with heap := s.heap.push (frO w) } (.ref s.heap.objs.size) "set" := ⟨_, z0, rfl⟩
      have m5 := F.called_set.init.lookup
      have m6 := F.called_set.init.bind (.ref s.heap.objs.size)
      repeat (any_goals (first | assumption | wp_step))
      refine codeAny_mono (codeAny_call_builtin (R := wants (fun r s2 => r = .none ∧ ∃ h' n l, s2 = { s with heap := h', toks := n } ∧ TxAt P w h' s.heap.objs.size l ∧ (∀ z, z ∈ l ↔ z ∈ ss) ∧ l.length ≤ ss.length ∧
          (∀ b o, s.heap.get? b = some o → h'.get? b = some o)) E) F.called_set.init.plain F.entry_set_init (check_set_init_1 zT ?_)) fun r2 s2 hr2 => ?_
      · obtain ⟨oa, hoa, hca, na, hda⟩ := ha
        obtain ⟨ocl, odi, oda, osl⟩ := oa
        simp only at hca hda
        subst hca hda
        have hoa2 : (s.heap.push (frO w)).get? a = some { cls := .type "tuple", dict := odi, data := .seq its na, slots := osl } := Heap.get?_push_of_some _ hoa
        have n1 := F.sub_tuple_set
        have n2 := F.sub_tuple_frozenset
        have n3 : (Value.type "tuple" == Value.type "dict") = false := by decide
        have ia : (s.heap.push (frO w)).IsTuple a its := ⟨_, hoa2, rfl, na, rfl⟩
        unfold Builtin.«set.__init__» noKeywords Builtin.Frozenset.updateFrom
        generalize hPI : pyIter = PI
        wp_walk
        subst hPI
        refine wpAny_pyIter_tuple ia (wpAny_bind (wpAny_runValue ?_))
        have lt := Heap.lt_size hoa
        have calm3 : A.in1.in1.in1.handled = none := by simp [calm]
        have z1 : (s.heap.push (frO w)).objs.size = s.heap.objs.size + 1 := Heap.size_push ..
        have aI : a ≠ (s.heap.push (frO w)).objs.size := by
          rw [z1]
          exact Nat.ne_of_lt (Nat.lt_succ_of_lt lt)
        have out : s.heap.objs.size ∉ [(s.heap.push (frO w)).objs.size, a] := by
          rw [z1]
          simp only [List.mem_cons, List.not_mem_nil, or_false, not_or]
          exact ⟨Nat.ne_of_lt (Nat.lt_succ_self _), Nat.ne_of_gt lt⟩
        have item : ∀ (i : Nat) (v : Value), its[i]? = some v → ∃ k u, ss[i]? = some k ∧ v = .str k u := fun i v hv => by
          obtain ⟨y, t, e1, e2⟩ := StrsAre.item hi i v (by rw [Array.getElem?_toList]; exact hv)
          exact ⟨y, t, e2, e1⟩
        refine tx_loop ((Walks.tuple calm3 _ a aI its).toS) s.heap.objs.size out ss il room item (its.size - 0) 0 _ (by omega) (Nat.zero_le _) ⟨⟨_, Heap.get?_push_size _ rfl, rfl, rfl⟩, (ia.push _)⟩ ⟨[], txAt_new (Heap.get?_push_of_some _ z0), (fun z => by simp), Nat.le_refl _⟩ ?_
        intro s3 l mv x mem few
        obtain ⟨h3, g3, d3, t3, o3⟩ := s3
        obtain rfl : g3 = s.gens := mv.gens
        obtain rfl : d3 = s.drawn := mv.drawn
        obtain rfl : o3 = s.os := mv.os
        show wpAny _ _ _ _ _ _
        refine wpAny_pure (show wpAny _ _ (ret Value.none) _ _ _ from ?_)
        refine wpAny_pure ⟨rfl, h3, t3, l, rfl, x, mem, by rw [← il]; exact few, fun b o z => ?_⟩
        have b0 := Heap.lt_size z
        refine mv.heap b o ?_ (Heap.get?_push_of_some _ (Heap.get?_push_of_some _ z))
        rw [z1]
        simp only [List.mem_cons, List.not_mem_nil, or_false, not_or]
        exact ⟨Nat.ne_of_lt b0, Nat.ne_of_lt (Nat.lt_succ_of_lt b0)⟩
      · cases r2 with
        | error x => exact hr2
        | ok fl2 =>
          cases fl2 with
          | ret r =>
            obtain ⟨rfl, h3, n3, l, rfl, x, mem, few, kp⟩ := hr2
            repeat (any_goals (first | assumption | wp_step))
            exact q h3 n3 l x mem few kp
          | _ => exact hr2.elim
    | _ => exact hr.elim
theorem perm_sub {α : Type} [DecidableEq α] : ∀ {l m : List α}, l.Nodup → (∀ x ∈ l, x ∈ m) → m.length ≤ l.length → l.Perm m
  | [], m, _, _, h => by
    have e : m = [] := List.eq_nil_of_length_eq_zero (Nat.le_zero.mp h)
    rw [e]
  | x :: l, m, nd, sub, h => by
    obtain ⟨nx, nl⟩ := List.nodup_cons.mp nd
    have hx := sub x List.mem_cons_self
    have hl : (m.erase x).length ≤ l.length := by
      rw [List.length_erase_of_mem hx]
      rw [List.length_cons] at h
      omega
    have ih := perm_sub nl (fun y hy => (List.mem_erase_of_ne (fun (e : y = x) => nx (by rw [← e]; exact hy))).2 (sub y (List.mem_cons_of_mem _ hy))) hl
    exact (ih.cons x).trans (List.perm_cons_erase hx).symm
/-- sorted(a set of texts) -/
theorem tx_sorted {p : Addr} {l : List Str} {Q : Value → Shared → Prop} (x : TxAt P w s.heap p l) (calm : A.handled = none) (few : l.length < 64)
    (q : ∀ s1 r (res : Array Value) (n : Nat) (ys : List Str), (∀ b o, s.heap.get? b = some o → s1.heap.get? b = some o) → s1.gens = s.gens → s1.os = s.os → s.heap.objs.size ≤ r → s1.heap.get? r = some (seqObj "list" res n) → StrsAre res.toList ys → ys.Perm l → sortedS ys = true → Q (.ref r) s1) :
    wpAny (model P w) A (call (.builtin "sorted") [.ref p]) Q E s := by
  obtain ⟨rows, c, tb, e, T, up, ld, nd⟩ := x
  have sz : rows.size = l.length := T.sz
  refine Calls.call_function_entry kind_sorted plain_sorted entry_sorted (args_sorted1 _) (show _ from ?_)
  unfold Builtin.«sorted»
  refine wpAny_bind (m := checkCount "sorted" 1 1 _) (wpAny_pure (wpAny_bind (collect_set (A := A.in1) calm ⟨_, e, rfl, rfl⟩ T.fit (show rows.size < scanBound by unfold scanBound; omega) up ld fun s1 vs k1 hz g1 o1 pm => ?_)))
  have el : ∀ v ∈ rows.toList.map (·.2), ∃ k u, v = Value.str k u := fun v hv => by
    obtain ⟨r, hr, rfl⟩ := List.mem_map.mp hv
    obtain ⟨⟨k, hk, _⟩, _⟩ := T.el r hr
    have hk : Value.isStrOf k r.2 = true := hk
    cases ev : r.2 <;> rw [ev] at hk <;> first
      | exact ⟨_, _, rfl⟩
      | cases hk
  have S0 := strsAre_map (rows.toList.map (·.2)) el
  have SV := strsAre_map vs fun v hv => el v (pm.mem_iff.mp hv)
  have pk : (vs.map strOf).Perm l := by
    have p1 : (vs.map strOf).Perm ((rows.toList.map (·.2)).map strOf) := pm.map strOf
    refine p1.trans ?_
    have len : ((rows.toList.map (·.2)).map strOf).length = l.length := by rw [List.length_map, List.length_map, Array.length_toList, sz]
    have sub : ∀ k ∈ l, k ∈ (rows.toList.map (·.2)).map strOf := fun k hk => by
      obtain ⟨r, hr, is⟩ := (T.mem k).mp hk
      obtain ⟨k2, u, ev⟩ := el r.2 (List.mem_map_of_mem hr)
      have is : Value.isStrOf k r.2 = true := is
      rw [ev] at is
      have ek : k2 = k := by simpa [Value.isStrOf] using is
      refine List.mem_map.mpr ⟨r.2, List.mem_map_of_mem hr, ?_⟩
      rw [ev, ← ek] <;> rfl
    exact (perm_sub nd sub (Nat.le_of_eq len)).symm
  have vl : vs.length < 64 := by
    have := pk.length_eq
    rw [List.length_map] at this
    omega
  refine wpAny_bind (wpAny_newList ?_ (by rw [sizeLine_eq]; omega))
  have o2 : (s1.heap.push (seqObj "list" vs.toArray 0)).get? s1.heap.objs.size = some (seqObj "list" vs.toArray 0) := Heap.get?_push_size _ rfl
  refine wpAny_bind (wpAny_holding (wpAny_call_entry slot_list_sort ⟨_, o2, rfl⟩ entry_list_sort (list_sort_treeK strKind_oneLt o2 SV.keysOf (fun v1 v2 rest z => keyKind_strs (by rw [← z]; exact SV)) vl fun st hp hs => ⟨_, rfl, ?_⟩) (args_list_sort _)))
  obtain ⟨ys, y1, y2, y3⟩ := sorted_out_str SV hp hs
  obtain ⟨n, hn⟩ := sortedHeap_at (vs := vs) (out := (arrOf st).map (·.2)) o2
  refine wpAny_pure ⟨_, rfl, q _ s1.heap.objs.size _ n ys (fun b o z => ?_) g1 o1 hz hn y1 (y2.trans pk) y3⟩
  have z1 := k1 b o z
  have lt := Heap.lt_size z1
  show (sortedHeap (s1.heap.push (seqObj "list" vs.toArray 0)) s1.heap.objs.size vs _).get? b = some o
  rw [sortedHeap_old (Nat.ne_of_lt lt) (by rw [size_push']; exact Nat.lt_succ_of_lt lt)]
  exact Heap.get?_push_of_some _ z1
end
/-- a set of texts in the heap of the proof -/
def TxO (P : Program) (w : World) (p : Addr) (l : List Str) : HO := .ext fun h => TxAt P w h p l
theorem txO_ok {P : Program} {w : World} {H : Hp} {h : Heap} {p : Addr} {l : List Str} (x : TxAt P w h p l) : ObjOk P w H h p (TxO P w p l) := by
  have ⟨rows, c, tb, z, r⟩ := x
  exact ⟨x, ⟨_, z⟩, fun h1 h2 y k => TxAt.at_ y k⟩
section
variable {X : Cx} {K : PySem.W.Frag}
/-- set(x), sorted(x) -/
def uSetT (K : PySem.W.Frag) (P : Program) (w : World) : List V → Hp → VK → Prop := fun xs H Q => ∃ (t : Addr) (ss : List Str), xs = [V.ref t] ∧ SqT K H t (ss.map V.str) ∧ ss.length < 64 ∧ ∀ p l, H p = none → (∀ z, z ∈ l ↔ z ∈ ss) → l.Nodup → l.length ≤ ss.length → Q (.ref p) (upd H p (TxO P w p l))
def uSortT (P : Program) (w : World) : List V → Hp → VK → Prop := fun xs H Q => ∃ (p : Addr) (l : List Str), xs = [V.ref p] ∧ H p = some (TxO P w p l) ∧ l.length < 64 ∧ ∀ r ys, H r = none → ys.Perm l → sortedS ys = true → Q (.ref r) (upd H r (.lst (ys.map V.str)))
theorem call_setT (hc : X.calm = true) (hK : X.K = K := by rfl) : CallR X (.type "set") (uSetT K X.prog X.w) := by
  subst hK
  intro pins s σ H xs us Q I r h
  obtain ⟨t, ss, rfl, ht, few, q⟩ := h
  rw [Vals.ref1 r]
  obtain ⟨its, rv, pt, _⟩ := I.tuple ht
  refine tx_set (P := X.prog) (w := X.w) ss (I.ok.hd hc) pt (by simpa using rv.strs) (by unfold scanBound; omega) fun h' n l x mem le kp => ?_
  have nd : l.Nodup := by
    obtain ⟨_, _, _, _, _, _, _, nd⟩ := x
    exact nd
  exact ⟨.ref s.heap.objs.size, _, I.laid (t' := n) kp (Nat.le_refl _) (txO_ok x), rfl, q _ l (I.hok.fresh (Nat.le_refl _)) mem nd le⟩
theorem call_sortT (hc : X.calm = true) : CallR X (.builtin "sorted") (uSortT X.prog X.w) := by
  intro pins s σ H vs us Q I r h
  obtain ⟨p, l, rfl, hp, few, q⟩ := h
  have x : TxAt X.prog X.w s.heap p l := (I.hok p _ hp).1
  rw [Vals.ref1 r]
  refine tx_sorted x (I.ok.hd hc) few fun s1 b res n ys kp g o hb hr sa pm so => ?_
  have len : (ys.map V.str).length ≤ sizeLine := by
    rw [List.length_map, pm.length_eq, sizeLine_eq]
    omega
  have nb : H b = none := I.hok.fresh hb
  have J : Inv X pins σ (upd H b (.lst (ys.map V.str))) { s with heap := s1.heap, gens := s1.gens, drawn := s1.drawn, toks := s1.toks } :=
    I.call (ch := []) (Un.laid kp hb nb) (I.hok.laid kp hb ⟨len, res.toList, n, vals_of_strs sa, hr⟩) (by rw [g]; exact I.bare) (fun _ z => nomatch z)
  have e : s1 = { s with heap := s1.heap, gens := s1.gens, drawn := s1.drawn, toks := s1.toks } := by
    cases s1
    cases s
    cases o
    rfl
  rw [e]
  exact ⟨.ref b, _, J, rfl, q b ys nb pm so⟩
end
section
variable {K : PySem.W.Frag} {P : Program} {w : World} {H : Hp} {Q : VK} {p t : Addr} {l ss : List Str}
theorem r_setT (h : H t = some (.tup (ss.map V.str))) (few : ss.length < 64) (k : ∀ p l H', H p = none → (∀ z, z ∈ l ↔ z ∈ ss) → l.Nodup → l.length ≤ ss.length → Same H H' → H' p = some (TxO P w p l) → Q (.ref p) H') : uSetT K P w [.ref t] H Q :=
  ⟨t, ss, rfl, SqT.of h, few, fun p l np mem nd le => k p l _ np mem nd le (same_new np) upd_same⟩
theorem r_sortT (h : H p = some (TxO P w p l)) (few : l.length < 64) (k : ∀ r ys H', H r = none → ys.Perm l → sortedS ys = true → Same H H' → H' r = some (.lst (ys.map V.str)) → Q (.ref r) H') : uSortT P w [.ref p] H Q :=
  ⟨p, l, rfl, h, few, fun r ys nr pm so => k r ys _ nr pm so (same_new nr) upd_same⟩
end
end Dk

/-! The head's facts with tests of one's own beside the kit's. -/
namespace Dk
open PySem PySem.Spec PyProof.Rows L2
abbrev Prd : Type := PySem.W.Frag → Bool
def obsB (fa : List He.Fa) (fb : List Prd) (fn : List He.DefD) (K : PySem.W.Frag) : He.AlD := ((He.obsD fa fn K).1 && fb.all (fun p => p K), (He.obsD fa fn K).2)
def SaysB (fa : List He.Fa) (fb : List Prd) (fn : List He.DefD) (K : PySem.W.Frag) : Prop := obsB fa fb fn K = He.valD fn
def obsBG (n : Nat) (fa : List He.Fa) (fb : List Prd) (fn : List He.DefD) (g : Addr → Option Obj) : He.AlD := obsB fa fb fn (He.frG g (He.asD g n))
def hookB (n : Nat) (fa : List He.Fa) (fb : List Prd) (fn : List He.DefD) : PySem.W.Hook where
  α := He.AlD
  obs := fun s => obsBG n fa fb fn s.heap.get?
  val := fun _ => He.valD fn
  says := fun _ h => ∃ K : PySem.W.Frag, K.In h ∧ SaysB fa fb fn K
  of := fun _ _ q => ⟨_, He.frG_in, q⟩
  keeps := fun _ _ _ ⟨K, i, c⟩ k => ⟨K, PySem.W.Frag.In.keeps i k, c⟩
theorem obsBG_eq {n : Nat} {fa : List He.Fa} {fb : List Prd} {fn : List He.DefD} {g : Addr → Option Obj} {s : Shared} (h : ∀ a, g a = s.heap.get? a) : obsBG n fa fb fn g = (hookB n fa fb fn).obs s := by
  have q : g = s.heap.get? := funext h
  rw [q] <;> rfl
theorem SaysB.d {fa : List He.Fa} {fb : List Prd} {fn : List He.DefD} {K : PySem.W.Frag} (c : SaysB fa fb fn K) : He.SaysD fa fn K ∧ ∀ (i : Nat) (p : Prd), fb[i]? = some p → p K = true := by
  have h1 : ((He.obsD fa fn K).1 && fb.all (fun p => p K)) = true := congrArg (fun z : He.AlD => z.1) c
  have h2 : (He.obsD fa fn K).2 = fn.map He.DefD.val := congrArg (fun z : He.AlD => z.2) c
  obtain ⟨k1, k2⟩ := He.ba h1
  exact ⟨Prod.ext k1 h2, fun i p q => List.all_eq_true.mp k2 p (List.mem_of_getElem? q)⟩
/-! ### what is asked of exception classes -/
def pExcC (x : Str) : Prd := fun K => He.eqO (PySem.W.findIn K (.ref (He.ga K x)) "__getattribute__") (some (some (.builtin "BaseException.__getattribute__"))) && (He.eqO (PySem.W.findIn K (.ref (He.ga K x)) "__getattr__") (some none) &&
  (decide (PySem.W.subIn K (.ref (He.ga K x)) (.type "BaseException") = some true) && (PySem.W.hasDictIn K (He.ga K x) && (He.eqO (PySem.W.findIn K (.ref (He.ga K x)) "__class__") (some (some (.builtin "object.__class__"))) &&
  (He.eqO (PySem.W.specialIn K (.builtin "object.__class__") "__get__") (some (some (.builtin "getset_descriptor.__get__"))) && (decide (PySem.W.takesIn K (.builtin "object.__class__") = some true) && decide (PySem.W.mroIn K (He.ga K x) (.type "object") = some true)))))))
theorem pExcC_ok {K : PySem.W.Frag} {x : Str} (h : pExcC x K = true) : ExcC K (He.ga K x) := by
  obtain ⟨a1, h⟩ := He.ba h
  obtain ⟨a2, h⟩ := He.ba h
  obtain ⟨a3, h⟩ := He.ba h
  obtain ⟨a4, h⟩ := He.ba h
  obtain ⟨a5, h⟩ := He.ba h
  obtain ⟨a6, h⟩ := He.ba h
  obtain ⟨a7, a8⟩ := He.ba h
  exact ⟨He.eqO_ok a1, He.eqO_ok a2, of_decide_eq_true a3, a4, He.eqO_ok a5, He.eqO_ok a6, of_decide_eq_true a7, of_decide_eq_true a8⟩
def pKit (x : Str) (v : PySem.W.Frag → Value) (b : Bool) : Prd := fun K => decide (PySem.W.kitOne K (.ref (He.ga K x)) (v K) = some b)
theorem pKit_ok {K : PySem.W.Frag} {x : Str} {v : PySem.W.Frag → Value} {b : Bool} (h : pKit x v b K = true) : PySem.W.kitOne K (.ref (He.ga K x)) (v K) = some b := of_decide_eq_true h
end Dk

/-! Attributes as targets, del, enumerate, comprehensions with any target, sorted ints; data with lists. -/
namespace Dk
open PySem PySem.Spec PyProof.Rows L2
theorem bt_set : bootBuiltins "set" = some (.type "set") := by decide +kernel
section
variable {X : Cx} {K : PySem.W.Frag} {o i e : Expr} {to ti : TE} {f : Str} {pos tpos : Pos} {ta : TA}
/-- o.f as a target -/
def gFld (K : PySem.W.Frag) (to : TE) (f : Str) : TG := fun v σ H Q => to σ H fun x H1 => ∃ a C dx fs, x = .ref a ∧ H1 a = some (.ins C dx fs) ∧ Cls K C ∧ NoAttr K C f ∧ fs.length < 1000 ∧ Q σ (upd H1 a (.ins C dx (putF f v fs)))
theorem pg_fldU (ho : PE X o to) (hK : X.K = K := by rfl)
    (ha : ∀ v, assign (.Attribute o f pos) X.env v = (do let ov ← holding [v] (eval o X.env); standAt pos.atName; holding [v, ov] (setAttr ov f v); release [v, ov] []) := by intro _; rfl) : PG X (.Attribute o f pos) (gFld K to f) := by
  subst hK
  refine ⟨fun pins s σ H v u Q I r h => ?_⟩
  rw [ha]
  refine wpAny_bind (wpAny_holding (thn (ho.run pins s σ H _ I h) fun ov s1 ⟨x, H1, I1, r1, a, C, dx, fs, ex, ea, c, n, l, q1⟩ => ?_))
  subst ex
  obtain rfl : ov = Value.ref a := r1
  exact wpAny_bind (wpAny_standAt (wpAny_bind (wpAny_holding (setattr_ok I1 ea c n l r fun s3 I3 => wpAny_release ⟨σ, _, I3, q1⟩))))
/-- sorted(xs), ints -/
def uSortI (K : PySem.W.Frag) : List V → Hp → VK → Prop := fun xs H Q => match xs with
  | [.ref a] => ∃ ns : List Int, SqL K H a (ns.map V.int) ∧ ∀ (ns' : List Int) (p : Addr), ns'.Perm ns → ns'.Pairwise (· ≤ ·) → H p = none → Q (.ref p) (upd H p (.lst (ns'.map V.int)))
  | _ => False
theorem call_sortIU (hK : X.K = K := by rfl) : CallR X (.builtin "sorted") (uSortI K) := by
  subst hK
  refine callw cr_sortedI fun xs H Q h => ?_
  match xs, h with
  | [.ref a], h => exact ⟨a, h.choose, rfl, h.choose_spec.1, h.choose_spec.2⟩
end
section
variable {K : PySem.W.Frag} {σ : L2.St} {H : Hp} {Q : VK} {D : Ends} {to ti te tl' : TE} {tA : TA} {tt : TT} {vs : List Nat} {f : Str} {x v : V} {a C p : Addr} {fs fs' : List (Str × V)} {g : TG} {tb : TS} {QG : L2.St → Hp → Prop} {S : Hp → Hp → Prop}
theorem r_gfld (q : to σ H fun x H1 => sfldq K f v x σ { nx := QG, rt := fun _ _ => False } H1) : gFld K to f v σ H QG := q
def delq (x y : V) (σ : L2.St) (D : Ends) (H2 : Hp) : Prop := ∃ (l : Addr) (xs : List V) (i : Int) (k : Nat), x = .ref l ∧ y = .int i ∧ H2 l = some (.lst xs) ∧ -(2 ^ 63) ≤ i ∧ i < 2 ^ 63 ∧ seqIndex? i xs.length = some k ∧ D.nx σ (upd H2 l (.lst (xs.eraseIdx k)))
theorem r_delL (q : to σ H fun x H1 => ti σ H1 fun y H2 => delq x y σ D H2) : tDelL to ti D σ H := q
theorem seq_nat {k n : Nat} (h : k < n) : seqIndex? (k : Int) n = some k := by
  unfold seqIndex?
  have h1 : ¬ ((k : Int) < 0) := by omega
  have h2 : (k : Int) < (n : Int) := by omega
  have h3 : (0 : Int) ≤ (k : Int) := by omega
  simp [h1, h2, h3]
theorem r_delv {xs : List V} {k : Nat} (h : H a = some (.lst xs)) (hk : k < xs.length) (hl : xs.length ≤ 1000000) (q : ∀ H', H' a = some (.lst (xs.eraseIdx k)) → (∀ b, b ≠ a → H' b = H b) → D.nx σ H') : delq (.ref a) (.int k) σ D H :=
  ⟨a, xs, k, k, rfl, rfl, h, by omega, by omega, seq_nat hk, q _ upd_same fun b hb => upd_ne hb⟩
theorem r_sortI {ns : List Int} (h : H a = some (.lst (ns.map V.int))) (k : ∀ p (ns' : List Int) H', H p = none → ns'.Perm ns → ns'.Pairwise (· ≤ ·) → Same H H' → H' p = some (.lst (ns'.map V.int)) → Q (.ref p) H') : uSortI K [.ref a] H Q :=
  ⟨ns, SqL.of h, fun ns' p pm pw np => k p ns' _ np pm pw (same_new np) upd_same⟩
/-- for j, x in enumerate(a list that stands) -/
def feq (K : PySem.W.Frag) (xs : List V) (g : TG) (tb : TS) (D : Ends) (σ : L2.St) (H : Hp) : Prop := tFor (iEnum K fun _ H1 QA => QA xs H1) g tb D σ H
theorem r_fore (q : tA σ H fun xs H1 => feq K xs g tb D σ H1) : tFor (iEnum K tA) g tb D σ H := q
theorem for_E {xs : List V} {j k : Nat} (Pv : Nat → L2.St → Hp → Prop) (h : H a = some (.lst xs)) (h0 : Pv 0 σ H) (hl : ∀ i σ' H', i ≤ xs.length → Pv i σ' H' → SqL K H' a xs)
    (hs : ∀ (i : Nat) x σ' H1 H2, xs[i]? = some x → Pv i σ' H1 → Same H1 H2 → tb (Ends.mk (Pv (i + 1)) D.rt D.nx (Pv (i + 1))) ((σ'.set j (some (.int i))).set k (some x)) H2) (hd : ∀ σ' H', Pv xs.length σ' H' → D.nx σ' H') :
    feq K [.ref a] (gTup K 2 (gCons (gName j) (gCons (gName k) gNil))) tb D σ H := by
  refine ⟨a, xs, rfl, SqL.of h, for_it (walk_enum (K := K) (a := a) (xs := xs)) Pv h0 hl (fun i v σ' H1 H2 hi hp hy => ?_) hd⟩
  obtain ⟨T, y, z, rfl, nT, rfl, ey, ez⟩ := hy
  cases ey
  exact ⟨T, [.int i, z], rfl, SqT.of upd_same, rfl, _, _, rfl, _, _, rfl, rfl, hs i z σ' H1 _ ez hp (same_new nT)⟩
/-- [.. for target in a list that stands if ..] -/
theorem lc_LG {xs : List V} (h : H p = some (.lst xs)) (hk : ∀ H', S H H' → H' p = some (.lst xs)) (sr : Sr H S) (Rv : Nat → List PyData → Prop) (hn : xs.length < 10000000) (h0 : Rv 0 [])
    (el : ∀ (i : Nat) x (H1 : Hp) (ds : List PyData) (Q1 : VK) (Qn : Hp → Prop), xs[i]? = some x → S H H1 → Rv i ds →
      (∀ y d H2, S H1 H2 → Dq H2 y d → Rv (i + 1) (ds ++ [d]) → Q1 y H2) → (∀ H2, S H1 H2 → Rv (i + 1) ds → Qn H2) → g x (wipe σ vs) H1 fun σ2 H2 => wipe σ2 vs = wipe σ vs ∧ tt σ2 H2 fun b H3 => if b = true then te σ2 H3 Q1 else Qn H3)
    (k : ∀ D H' ys ds, H D = none → S H H' → H' D = some (.lst ys) → Dqs H' ys ds → Rv xs.length ds → Q (.ref D) H') : luq K (.ref p) g tt te vs σ H Q :=
  .inl ⟨⟨xs, SqL.of h⟩, lc_gen (walk_list (xs := xs)) sr Rv (fun H' s => SqL.of (hk H' s)) hn h0 (fun i x H1 H1' ds Q1 Qn hi s1 hy rv k1 k2 => by
    obtain ⟨rfl, hy⟩ := hy
    exact el i x H1' ds Q1 Qn hy s1 rv k1 k2) k⟩
end
/-! data that may hold lists, truth values: equal to themselves -/
structure Lay (n : Nat) (d : PyData) : Prop where
  ok : d.canLay0 = true
  dp : d.depth ≤ n
theorem Lay.le {n m : Nat} {d : PyData} (h : Lay n d) (k : n ≤ m) : Lay m d := ⟨h.ok, Nat.le_trans h.dp k⟩
theorem Okd.lay {n : Nat} {d : PyData} (h : Okd n d) : Lay n d := ⟨nb_lay d h.nb, h.dp⟩
theorem lay_all {n : Nat} : ∀ {ds : List PyData}, (∀ d ∈ ds, Lay n d) → PyData.canLayAll0 ds = true ∧ PyData.depthAll ds ≤ n
  | [], _ => ⟨by simp [PyData.canLayAll0], by simp [PyData.depthAll]⟩
  | d :: ds, h => by
    have h1 := h d List.mem_cons_self
    have h2 := lay_all fun e he => h e (List.mem_cons_of_mem _ he)
    refine ⟨by rw [PyData.canLayAll0, h1.ok, h2.1] <;> rfl, ?_⟩
    rw [PyData.depthAll]
    have := h1.dp
    omega
theorem Lay.lst {n : Nat} {ds : List PyData} (h : ∀ d ∈ ds, Lay n d) : Lay (n + 1) (.list ds) := by
  have q := lay_all h
  refine ⟨by rw [PyData.canLay0]; exact q.1, ?_⟩
  rw [PyData.depth]
  omega
theorem Lay.tup {n : Nat} {ds : List PyData} (h : ∀ d ∈ ds, Lay n d) : Lay (n + 1) (.tuple ds) := by
  have q := lay_all h
  refine ⟨by rw [PyData.canLay0]; exact q.1, ?_⟩
  rw [PyData.depth]
  omega
theorem Lay.int {n : Nat} (i : Int) : Lay n (.int i) := (Okd.int i).lay
theorem Lay.bool {n : Nat} (b : Bool) : Lay n (.bool b) := ⟨by simp [PyData.canLay0], by simp [PyData.depth]⟩
theorem Lay.shaped {n : Nat} {d : PyData} (h : Lay n d) (k : n ≤ 64) : SeqAt.shaped d = true := by
  unfold SeqAt.shaped
  rw [h.ok, Bool.true_and, decide_eq_true_eq]
  exact Nat.le_trans h.dp k
section
variable {K : PySem.W.Frag} {H : Hp} {Q : VK} {p : Addr} {y : V} {d : PyData} {n : Nat}
theorem r_neLay (hx : Dp K H (.ref p) d) (hy : Dp K H y d) (ok : Lay n d) (hn : n ≤ 64) (q : Q (.bl false) H) : uNe K (.ref p) y H Q := by
  have z : rNeD K (.ref p) y H Q := ⟨d, d, hx, hy, ok.shaped hn, ok.shaped hn, by rw [SeqAt.eqv_refl _ ok.ok]; exact q⟩
  cases y <;> exact .inr z
theorem r_eqLay (hx : Dp K H (.ref p) d) (hy : Dp K H y d) (ok : Lay n d) (hn : n ≤ 64) (q : Q (.bl true) H) : uEq K (.ref p) y H Q := by
  have z : rEqD K (.ref p) y H Q := ⟨d, d, hx, hy, ok.shaped hn, ok.shaped hn, by rw [SeqAt.eqv_refl _ ok.ok]; exact q⟩
  cases y <;> exact .inr z
end
theorem ixN_nat {n i : Nat} (h : i < n) : ixN n (i : Int) = some i := by
  unfold ixN
  rw [if_pos (by omega), if_pos (by omega)]
  simp
theorem dqs_ints {H : Hp} : ∀ {ns : List Int} {ys : List V}, Dqs H ys (ns.map PyData.int) → ys = ns.map V.int
  | [], _, h => by
    cases h
    rfl
  | n :: ns, _, h => by
    cases h with
    | cons h1 h2 =>
      cases h1
      rw [dqs_ints h2] <;> rfl
theorem dqs_ints_mk {H : Hp} : ∀ ns : List Int, Dqs H (ns.map V.int) (ns.map PyData.int)
  | [] => .nil
  | n :: ns => .cons (.int n) (dqs_ints_mk ns)
theorem take_one {α : Type} {xs : List α} {i : Nat} {x : α} (h : xs[i]? = some x) : xs.take (i + 1) = xs.take i ++ [x] := by
  rw [List.take_add_one, h] <;> rfl
/-- the variable of a comprehension -/
theorem hw1 {σ : L2.St} {vs : List Nat} {j : Nat} (h : vs = [j]) : ∀ x : V, wipe ((wipe σ vs).set j (some x)) vs = wipe σ vs := fun x => by
  subst h
  show ((σ.set j none).set j (some x)).set j none = σ.set j none
  rw [List.set_set, List.set_set]
end Dk

/-! Boxes. -/
namespace Dk
open PySem PySem.Spec PyProof.Rows L2
structure Ent where
  n : Int
  ls : List Str
  fs : List Str
  c : Int
def entD (x : Ent) : PyData := .tuple [.int x.n, sD x.ls, sD x.fs, .int x.c]
def gonD (x : Int × Int) : PyData := .tuple [.int x.1, .int x.2]
/-- what a box holds -/
structure Bx where
  n : Int
  c : Int
  es : List Ent
  gs : List (Int × Int)
structure BxAt (K : PySem.W.Frag) (H : Hp) (p E G : Addr) (B : Bx) : Prop where
  ins : Ins H p (He.ga K "Box") [("number", .int B.n), ("change", .int B.c), ("entries", .ref E), ("gone", .ref G)]
  es : ∃ ys, H E = some (.lst ys) ∧ Dqs H ys (B.es.map entD)
  gs : ∃ zs, H G = some (.lst zs) ∧ Dqs H zs (B.gs.map gonD)
  ne : E ≠ G
abbrev boxP (p E G : Addr) : List Addr := [p, E, G]
section
variable {K : PySem.W.Frag} {H H' : Hp} {p E G : Addr} {B : Bx} {F F' : List Addr}
theorem BxAt.pE (b : BxAt K H p E G B) : p ≠ E := let ⟨_, h, _⟩ := b.es; ins_ne b.ins h
theorem BxAt.pG (b : BxAt K H p E G B) : p ≠ G := let ⟨_, h, _⟩ := b.gs; ins_ne b.ins h
theorem BxAt.keep (b : BxAt K H p E G B) (g : Gro H H') (k : ∀ z o, H z = some o → z ∈ boxP p E G → H' z = some o) : BxAt K H' p E G B := by
  obtain ⟨dx, hi⟩ := b.ins
  obtain ⟨ys, he, hd⟩ := b.es
  obtain ⟨zs, hg, hz⟩ := b.gs
  exact ⟨⟨dx, k _ _ hi (by simp)⟩, ⟨ys, k _ _ he (by simp), hd.mono g⟩, ⟨zs, k _ _ hg (by simp), hz.mono g⟩, b.ne⟩
theorem BxAt.same (s : Same H H') (b : BxAt K H p E G B) : BxAt K H' p E G B := b.keep (Gro.same s) fun z o h _ => s z o h
theorem BxAt.chg (c : Chg F F' H H') (n : Dsj F (boxP p E G)) (b : BxAt K H p E G B) : BxAt K H' p E G B := b.keep c.gro fun z o h m => c.kp z o h fun q => n z q m
theorem BxAt.stp {a : Addr} (s : Stp a H H') (n : a ∉ boxP p E G) (b : BxAt K H p E G B) : BxAt K H' p E G B := b.chg s.chg (dsj_one n)
theorem BxAt.there (b : BxAt K H p E G B) : ∀ z ∈ boxP p E G, Mt (H z) := by
  obtain ⟨dx, hi⟩ := b.ins
  obtain ⟨ys, he, hd⟩ := b.es
  obtain ⟨zs, hg, hz⟩ := b.gs
  intro z m
  simp only [List.mem_cons, List.not_mem_nil, or_false] at m
  rcases m with rfl | rfl | rfl
  · exact mt_ins hi
  · exact mt_lst he
  · exact mt_lst hg
theorem BxAt.new_out {a : Addr} (b : BxAt K H p E G B) (n : H a = none) : a ∉ boxP p E G := fun m => by
  obtain ⟨u, z, _⟩ := b.there a m
  rw [n] at z
  cases z
/-- the instance's attributes are written -/
theorem BxAt.fput (b : BxAt K H p E G B) (f : Fput p H H') {n c : Int} (hi : Ins H' p (He.ga K "Box") [("number", .int n), ("change", .int c), ("entries", .ref E), ("gone", .ref G)]) : BxAt K H' p E G { B with n := n, c := c } := by
  obtain ⟨ys, he, hd⟩ := b.es
  obtain ⟨zs, hg, hz⟩ := b.gs
  exact ⟨hi, ⟨ys, f.lst he, hd.mono f.gro⟩, ⟨zs, f.lst hg, hz.mono f.gro⟩, b.ne⟩
/-- the entries are written -/
theorem BxAt.putE (b : BxAt K H p E G B) {ys : List V} {es : List Ent} (h : H' E = some (.lst ys)) (k : ∀ z, z ≠ E → H' z = H z) (d : Dqs H' ys (es.map entD)) : BxAt K H' p E G { B with es := es } := by
  obtain ⟨dx, hi⟩ := b.ins
  obtain ⟨zs, hg, hz⟩ := b.gs
  obtain ⟨ys0, he, _⟩ := b.es
  exact ⟨⟨dx, by rw [k _ b.pE]; exact hi⟩, ⟨ys, h, d⟩, ⟨zs, by rw [k _ b.ne.symm]; exact hg, hz.mono (gro_but he k)⟩, b.ne⟩
theorem BxAt.putG (b : BxAt K H p E G B) {zs : List V} {gs : List (Int × Int)} (h : H' G = some (.lst zs)) (k : ∀ z, z ≠ G → H' z = H z) (d : Dqs H' zs (gs.map gonD)) : BxAt K H' p E G { B with gs := gs } := by
  obtain ⟨dx, hi⟩ := b.ins
  obtain ⟨ys, he, hy⟩ := b.es
  obtain ⟨zs0, hg, _⟩ := b.gs
  exact ⟨⟨dx, by rw [k _ b.pG]; exact hi⟩, ⟨ys, by rw [k _ b.ne]; exact he, hy.mono (gro_but hg k)⟩, ⟨zs, h, d⟩, b.ne⟩
end
section
variable {H : Hp} {x : V}
theorem sD_at {v : V} {ss : List Str} (h : Dq H v (sD ss)) : ∃ t, v = .ref t ∧ H t = some (.tup (ss.map V.str)) := by
  cases h with
  | tup ha hs => exact ⟨_, rfl, by rw [← Dqs.strs_of hs]; exact ha⟩
theorem ent_at {y : Ent} (h : Dq H x (entD y)) : ∃ t vl vf, x = .ref t ∧ H t = some (.tup [.int y.n, vl, vf, .int y.c]) ∧ Dq H vl (sD y.ls) ∧ Dq H vf (sD y.fs) := by
  cases h with
  | tup ha hs =>
    cases hs with
    | cons h1 hs =>
    cases hs with
    | cons h2 hs =>
    cases hs with
    | cons h3 hs =>
    cases hs with
    | cons h4 hs =>
    cases hs
    cases h1
    cases h4
    exact ⟨_, _, _, rfl, ha, h2, h3⟩
theorem ent_mk {t : Addr} {vl vf : V} {y : Ent} (h : H t = some (.tup [.int y.n, vl, vf, .int y.c])) (hl : Dq H vl (sD y.ls)) (hf : Dq H vf (sD y.fs)) : Dq H (.ref t) (entD y) := .tup h (.cons (.int _) (.cons hl (.cons hf (.cons (.int _) .nil))))
theorem gon_at {y : Int × Int} (h : Dq H x (gonD y)) : ∃ t, x = .ref t ∧ H t = some (.tup [.int y.1, .int y.2]) := by
  cases h with
  | tup ha hs =>
    cases hs with
    | cons h1 hs =>
    cases hs with
    | cons h2 hs =>
    cases hs
    cases h1
    cases h2
    exact ⟨_, rfl, ha⟩
theorem gon_mk {t : Addr} {y : Int × Int} (h : H t = some (.tup [.int y.1, .int y.2])) : Dq H (.ref t) (gonD y) := .tup h (.cons (.int _) (.cons (.int _) .nil))
end
theorem Dqs.at_map {α : Type} {H : Hp} {f : α → PyData} {xs : List α} {ys : List V} {i : Nat} {v : V} (h : Dqs H ys (xs.map f)) (hv : ys[i]? = some v) : ∃ x, xs[i]? = some x ∧ Dq H v (f x) := by
  obtain ⟨d, e1, e2⟩ := h.get hv
  obtain ⟨x, e3, e4⟩ := get_mapG e1
  exact ⟨x, e3, by rw [e4]; exact e2⟩
theorem Dqs.has {α : Type} {H : Hp} {f : α → PyData} {xs : List α} {ys : List V} {i : Nat} {x : α} (h : Dqs H ys (xs.map f)) (hx : xs[i]? = some x) : ∃ v, ys[i]? = some v ∧ Dq H v (f x) := by
  have hl := h.length
  rw [List.length_map] at hl
  have hi : i < ys.length := by rw [hl]; exact (List.getElem?_eq_some_iff.mp hx).1
  obtain ⟨y, e1, e2⟩ := h.at_map (List.getElem?_eq_getElem hi)
  rw [hx] at e1
  cases e1
  exact ⟨_, List.getElem?_eq_getElem hi, e2⟩
theorem Dqs.len_map {α : Type} {H : Hp} {f : α → PyData} {xs : List α} {ys : List V} (h : Dqs H ys (xs.map f)) : ys.length = xs.length := by rw [h.length, List.length_map]
theorem Dqs.setAt {H : Hp} : ∀ {ds : List PyData} {ys : List V} {v : V} {d : PyData} (i : Nat), Dqs H ys ds → Dq H v d → Dqs H (ys.set i v) (ds.set i d)
  | [], _, v, d, i, h, hv => by
    cases h
    exact .nil
  | e :: ds, _, v, d, 0, h, hv => by
    cases h with
    | cons h1 h2 => exact .cons hv h2
  | e :: ds, _, v, d, i + 1, h, hv => by
    cases h with
    | cons h1 h2 => exact .cons h1 (Dqs.setAt i h2 hv)
theorem Dqs.erase {H : Hp} : ∀ {ds : List PyData} {ys : List V} (i : Nat), Dqs H ys ds → Dqs H (ys.eraseIdx i) (ds.eraseIdx i)
  | [], _, i, h => by
    cases h
    exact .nil
  | e :: ds, _, 0, h => by
    cases h with
    | cons h1 h2 => exact h2
  | e :: ds, _, i + 1, h => by
    cases h with
    | cons h1 h2 => exact .cons h1 (Dqs.erase i h2)
theorem Dqs.app {H : Hp} : ∀ {ds es : List PyData} {ys zs : List V}, Dqs H ys ds → Dqs H zs es → Dqs H (ys ++ zs) (ds ++ es)
  | [], _, _, _, h, k => by
    cases h
    exact k
  | d :: ds, _, _, _, h, k => by
    cases h with
    | cons h1 h2 => exact .cons h1 (Dqs.app h2 k)
theorem map_setG {α β : Type} (f : α → β) : ∀ (xs : List α) (i : Nat) (x : α), (xs.set i x).map f = (xs.map f).set i (f x)
  | [], _, _ => rfl
  | _ :: _, 0, _ => rfl
  | y :: xs, i + 1, x => by rw [List.set_cons_succ, List.map_cons, map_setG f xs i x] <;> rfl
theorem map_eraseG {α β : Type} (f : α → β) : ∀ (xs : List α) (i : Nat), (xs.eraseIdx i).map f = (xs.map f).eraseIdx i
  | [], _ => rfl
  | _ :: _, 0 => rfl
  | y :: xs, i + 1 => by rw [List.eraseIdx_cons_succ, List.map_cons, map_eraseG f xs i] <;> rfl
/-! acts -/
def placeM (es : List Ent) (n : Int) : Option Nat := es.findIdx? fun x => decide (x.n = n)
theorem place_some {es : List Ent} {n : Int} {i : Nat} {x : Ent} (h : es[i]? = some x) (e : x.n = n) (k : ∀ (j : Nat) y, j < i → es[j]? = some y → y.n ≠ n) : placeM es n = some i := by
  obtain ⟨hl, hx⟩ := List.getElem?_eq_some_iff.mp h
  refine List.findIdx?_eq_some_iff_getElem.mpr ⟨hl, by rw [hx]; exact decide_eq_true e, fun j hj => ?_⟩
  rw [decide_eq_true_eq]
  exact k j _ hj (List.getElem?_eq_getElem (by omega))
theorem place_none {es : List Ent} {n : Int} (k : ∀ (j : Nat) y, j < es.length → es[j]? = some y → y.n ≠ n) : placeM es n = none := by
  refine List.findIdx?_eq_none_iff.mpr fun x hx => ?_
  obtain ⟨j, hj, e⟩ := List.getElem_of_mem hx
  rw [decide_eq_false_iff_not]
  exact k j x hj (by rw [List.getElem?_eq_getElem hj, e])
theorem place_at {es : List Ent} {n : Int} {i : Nat} (h : placeM es n = some i) : ∃ x, es[i]? = some x ∧ x.n = n ∧ i < es.length := by
  obtain ⟨hl, hx, _⟩ := List.findIdx?_eq_some_iff_getElem.mp h
  exact ⟨_, List.getElem?_eq_getElem hl, of_decide_eq_true hx, hl⟩
theorem place_not {es : List Ent} {n : Int} (h : placeM es n = none) : ∀ x ∈ es, x.n ≠ n := fun x hx => of_decide_eq_false (List.findIdx?_eq_none_iff.mp h x hx)
def Bx.dlv (B : Bx) (ls : List Str) : Bx := { B with n := B.n + 1, c := B.c + 1, es := B.es ++ [⟨B.n + 1, ls, [], B.c + 1⟩] }
def Bx.flag (B : Bx) (i : Nat) (n : Int) (fs : List Str) : Bx := { B with c := B.c + 1, es := B.es.set i ⟨n, (B.es[i]?.map (·.ls)).getD [], fs, B.c + 1⟩ }
def Bx.cut (B : Bx) (i : Nat) (n : Int) : Bx := { B with c := B.c + 1, es := B.es.eraseIdx i, gs := B.gs ++ [(n, B.c + 1)] }
def newsEs (B : Bx) (m : Int) : List Ent := B.es.filter fun x => decide (m < x.c)
def newsGs (B : Bx) (m : Int) : List Int := (B.gs.filter fun x => decide (m < x.2)).map (·.1)
def newsD (B : Bx) (m : Int) (ns : List Int) : PyData := .tuple [.int B.c, .tuple ((newsEs B m).map entD), .tuple (ns.map PyData.int)]
def boxD (B : Bx) : PyData := .tuple [.int B.n, .int B.c, .tuple (B.es.map entD), .tuple (B.gs.map gonD)]
/-- ints in order are one list -/
theorem sorted_one {xs ys zs : List Int} (h1 : xs.Perm zs) (h2 : ys.Perm zs) (p1 : xs.Pairwise (· ≤ ·)) (p2 : ys.Pairwise (· ≤ ·)) : xs = ys :=
  List.Perm.eq_of_pairwise (fun a b _ _ h k => Int.le_antisymm h k) p1 p2 (h1.trans h2.symm)
/-! texts in order -/
structure SortOf (ys ss : List Str) : Prop where
  nd : ys.Nodup
  so : sortedS ys = true
  mem : ∀ z, z ∈ ys ↔ z ∈ ss
theorem rising_all : ∀ (r : List Str) (p : Str), risingS p r = true → (p :: r).Pairwise fun a b => ltCps b.cps.toList a.cps.toList = false
  | [], p, _ => List.pairwise_singleton _ _
  | x :: r, p, h => by
    have h : (!ltCps x.cps.toList p.cps.toList && risingS x r) = true := h
    obtain ⟨h1, h2⟩ := Bool.and_eq_true_iff.mp h
    have h1 : ltCps x.cps.toList p.cps.toList = false := by simpa using h1
    have ih := rising_all r x h2
    refine List.pairwise_cons.mpr ⟨fun y hy => ?_, ih⟩
    rcases List.mem_cons.mp hy with rfl | hy
    · exact h1
    · have h3 := (List.pairwise_cons.mp ih).1 y hy
      rw [ltCps_eq, decide_eq_false_iff_not] at h1 h3 ⊢
      exact fun h => h1 (List.lt_of_le_of_lt (List.not_lt.mp h3) h)
theorem sorted_all {ys : List Str} (h : sortedS ys = true) : ys.Pairwise fun a b => ltCps b.cps.toList a.cps.toList = false := by
  cases ys with
  | nil => exact List.Pairwise.nil
  | cons p r => exact rising_all r p h
theorem SortOf.one {xs ys ss : List Str} (h : SortOf xs ss) (k : SortOf ys ss) : xs = ys := by
  refine List.Perm.eq_of_pairwise (fun a b _ _ h k => ?_) (sorted_all h.so) (sorted_all k.so) ((List.perm_ext_iff_of_nodup h.nd k.nd).mpr fun z => (h.mem z).trans (k.mem z).symm)
  rw [ltCps_eq, decide_eq_false_iff_not] at h k
  have q : a.cps.toList = b.cps.toList := List.le_antisymm (List.not_lt.mp h) (List.not_lt.mp k)
  obtain ⟨a⟩ := a
  obtain ⟨b⟩ := b
  exact congrArg Str.mk (Array.toList_inj.mp q)
end Dk

/-! Boxes and the law's model of them. -/
namespace Dk
open PySem PySem.Spec PyProof.Rows L2
structure MbAt (H : Hp) (m A G : Addr) (bx : Bx) : Prop where
  mm : H m = some (.lst [.int bx.n, .int bx.c, .ref A, .ref G])
  es : ∃ ys, H A = some (.lst ys) ∧ Dqs H ys (bx.es.map entD)
  gs : ∃ zs, H G = some (.lst zs) ∧ Dqs H zs (bx.gs.map gonD)
section
variable {H H' : Hp} {m A G : Addr} {bx : Bx} {F F' : List Addr}
theorem MbAt.keep (d : MbAt H m A G bx) (g : Gro H H') (k : ∀ z o, H z = some o → z ∈ [m, A, G] → H' z = some o) : MbAt H' m A G bx := by
  obtain ⟨ys, he, hd⟩ := d.es
  obtain ⟨zs, hg, hz⟩ := d.gs
  exact ⟨k _ _ d.mm (by simp), ⟨ys, k _ _ he (by simp), hd.mono g⟩, ⟨zs, k _ _ hg (by simp), hz.mono g⟩⟩
theorem MbAt.same (s : Same H H') (d : MbAt H m A G bx) : MbAt H' m A G bx := d.keep (Gro.same s) fun z o h _ => s z o h
theorem MbAt.chg (c : Chg F F' H H') (n : Dsj F [m, A, G]) (d : MbAt H m A G bx) : MbAt H' m A G bx := d.keep c.gro fun z o h q => c.kp z o h fun w => n z w q
theorem MbAt.there (d : MbAt H m A G bx) : ∀ z ∈ [m, A, G], ∃ xs, H z = some (.lst xs) := by
  obtain ⟨ys, he, hd⟩ := d.es
  obtain ⟨zs, hg, hz⟩ := d.gs
  intro z q
  simp only [List.mem_cons, List.not_mem_nil, or_false] at q
  rcases q with rfl | rfl | rfl
  · exact ⟨_, d.mm⟩
  · exact ⟨_, he⟩
  · exact ⟨_, hg⟩
theorem MbAt.new_out {a : Addr} (d : MbAt H m A G bx) (n : H a = none) : a ∉ [m, A, G] := fun q => by
  obtain ⟨xs, z⟩ := d.there a q
  rw [n] at z
  cases z
end
/-- what holds of a box between the acts -/
structure InvB (bx : Bx) (N : Nat) : Prop where
  asc : bx.es.Pairwise fun x y => x.n < y.n
  bn : ∀ x ∈ bx.es, x.n ≤ bx.n
  n0 : 0 ≤ bx.n
  nN : bx.n ≤ N
  c0 : 0 ≤ bx.c
  cN : bx.c ≤ N
  le : bx.es.length ≤ N
  lg : bx.gs.length ≤ N
  ok : ∀ x ∈ bx.es, (∀ s ∈ x.ls, Asc s) ∧ ∀ s ∈ x.fs, Asc s
theorem ent_lay {x : Ent} (h : (∀ s ∈ x.ls, Asc s) ∧ ∀ s ∈ x.fs, Asc s) : Lay 2 (entD x) := by
  refine .tup fun d hd => ?_
  simp only [List.mem_cons, List.not_mem_nil, or_false] at hd
  rcases hd with rfl | rfl | rfl | rfl
  · exact .int _
  · exact (Okd.sD (n := 0) h.1).lay
  · exact (Okd.sD (n := 0) h.2).lay
  · exact .int _
theorem InvB.layE {bx : Bx} {N : Nat} (i : InvB bx N) {es : List Ent} (h : ∀ x ∈ es, x ∈ bx.es) : ∀ d ∈ es.map entD, Lay 2 d := fun d hd => by
  obtain ⟨x, hx, rfl⟩ := List.mem_map.mp hd
  exact ent_lay (i.ok x (h x hx))
theorem news_lay {bx : Bx} {N : Nat} (i : InvB bx N) (m : Int) (ns : List Int) : Lay 4 (newsD bx m ns) := by
  refine .tup fun d hd => ?_
  simp only [List.mem_cons, List.not_mem_nil, or_false] at hd
  rcases hd with rfl | rfl | rfl
  · exact .int _
  · exact .tup (i.layE fun x hx => (List.mem_filter.mp hx).1)
  · refine (Lay.tup (n := 0) fun d hd => ?_).le (by omega)
    obtain ⟨n, _, rfl⟩ := List.mem_map.mp hd
    exact .int n
theorem news_at {H : Hp} {v : V} {bx : Bx} {m : Int} {ns : List Int} (h : Dq H v (newsD bx m ns)) : ∃ t a b ys zs, v = .ref t ∧ H t = some (.tup [.int bx.c, .ref a, .ref b]) ∧ H a = some (.tup ys) ∧ H b = some (.tup zs) ∧ Dqs H ys ((newsEs bx m).map entD) ∧ zs = ns.map V.int := by
  cases h with
  | tup ha hs =>
    cases hs with
    | cons h1 hs =>
    cases hs with
    | cons h2 hs =>
    cases hs with
    | cons h3 hs =>
    cases hs
    cases h1
    cases h2 with
    | tup a2 b2 =>
    cases h3 with
    | tup a3 b3 => exact ⟨_, _, _, _, _, rfl, ha, a2, a3, b2, dqs_ints b3⟩
/-! one entry by its number -/
theorem ent_split {es : List Ent} {n : Int} {i : Nat} (as : es.Pairwise fun x y => x.n < y.n) (h : placeM es n = some i) : ∃ l x r, es = l ++ x :: r ∧ l.length = i ∧ x.n = n ∧ (∀ y ∈ l, y.n ≠ n) ∧ ∀ y ∈ r, y.n ≠ n := by
  obtain ⟨x, hx, en, hl⟩ := place_at h
  have e1 : es = es.take i ++ x :: es.drop (i + 1) := by
    have e2 : es.drop i = x :: es.drop (i + 1) := by
      rw [List.drop_eq_getElem_cons hl, (List.getElem?_eq_some_iff.mp hx).2]
    rw [← e2, List.take_append_drop]
  rw [e1] at as
  obtain ⟨_, a2, a3⟩ := List.pairwise_append.mp as
  obtain ⟨a4, _⟩ := List.pairwise_cons.mp a2
  refine ⟨es.take i, x, es.drop (i + 1), e1, by rw [List.length_take]; omega, en, fun y hy z => ?_, fun y hy z => ?_⟩
  · have := a3 y hy x List.mem_cons_self
    omega
  · have := a4 y hy
    omega
theorem filter_ne {es : List Ent} {n : Int} (h : ∀ y ∈ es, y.n ≠ n) : es.filter (fun y => decide (y.n = n)) = [] := List.filter_eq_nil_iff.mpr fun y hy => by
  rw [decide_eq_true_eq]
  exact h y hy
theorem filter_all {es : List Ent} {n : Int} (h : ∀ y ∈ es, y.n ≠ n) : es.filter (fun y => !decide (y.n = n)) = es := List.filter_eq_self.mpr fun y hy => by
  rw [decide_eq_false (h y hy)] <;> rfl
theorem there_some {es : List Ent} {n : Int} {i : Nat} (as : es.Pairwise fun x y => x.n < y.n) (h : placeM es n = some i) : (es.filter fun y => decide (y.n = n)).length = 1 := by
  obtain ⟨l, x, r, rfl, _, en, hl, hr⟩ := ent_split as h
  rw [List.filter_append, filter_ne hl, List.filter_cons, filter_ne hr, decide_eq_true en] <;> rfl
theorem rest_some {es : List Ent} {n : Int} {i : Nat} (as : es.Pairwise fun x y => x.n < y.n) (h : placeM es n = some i) : (es.filter fun y => !decide (y.n = n)) = es.eraseIdx i := by
  obtain ⟨l, x, r, rfl, rfl, en, hl, hr⟩ := ent_split as h
  rw [List.filter_append, filter_all hl, List.filter_cons, filter_all hr, decide_eq_true en, List.eraseIdx_append_of_length_le (Nat.le_refl _), Nat.sub_self] <;> rfl
theorem set_some {es : List Ent} {n : Int} {i : Nat} (as : es.Pairwise fun x y => x.n < y.n) (h : placeM es n = some i) (f : Ent → Ent) : (es.map fun y => if y.n = n then f y else y) = es.set i (f ((es[i]?).getD ⟨0, [], [], 0⟩)) := by
  obtain ⟨l, x, r, rfl, rfl, en, hl, hr⟩ := ent_split as h
  have id1 : ∀ zs : List Ent, (∀ y ∈ zs, y.n ≠ n) → (zs.map fun y => if y.n = n then f y else y) = zs := fun zs hz => by
    have q : (zs.map fun y => if y.n = n then f y else y) = zs.map id := List.map_congr_left fun y hy => if_neg (hz y hy)
    rw [q, List.map_id]
  rw [List.map_append, List.map_cons, id1 l hl, id1 r hr, if_pos en, List.getElem?_append_right (Nat.le_refl _), Nat.sub_self, List.set_append_right _ _ (Nat.le_refl _), Nat.sub_self] <;> rfl
/-! the invariant goes on -/
theorem InvB.dlv {bx : Bx} {N : Nat} (i : InvB bx N) {ls : List Str} (h : ∀ s ∈ ls, Asc s) : InvB (bx.dlv ls) (N + 1) := by
  refine ⟨?_, fun x hx => ?_, ?_, ?_, ?_, ?_, ?_, ?_, fun x hx => ?_⟩
  · refine List.pairwise_append.mpr ⟨i.asc, List.pairwise_singleton _ _, fun x hx y hy => ?_⟩
    rw [List.mem_singleton.mp hy]
    have := i.bn x hx
    show x.n < bx.n + 1
    omega
  · show x.n ≤ bx.n + 1
    rcases List.mem_append.mp hx with hx | hx
    · have := i.bn x hx
      omega
    · rw [List.mem_singleton.mp hx]
      exact Int.le_refl _
  · have := i.n0
    show 0 ≤ bx.n + 1
    omega
  · have := i.nN
    show bx.n + 1 ≤ _
    omega
  · have := i.c0
    show 0 ≤ bx.c + 1
    omega
  · have := i.cN
    show bx.c + 1 ≤ _
    omega
  · have := i.le
    show (bx.es ++ _).length ≤ _
    rw [List.length_append]
    show _ + 1 ≤ _
    omega
  · have := i.lg
    show bx.gs.length ≤ _
    omega
  · rcases List.mem_append.mp hx with hx | hx
    · exact i.ok x hx
    · rw [List.mem_singleton.mp hx]
      exact ⟨h, fun s hs => absurd hs List.not_mem_nil⟩
theorem asc_set {es : List Ent} {i : Nat} {x y : Ent} (h : es.Pairwise fun x y => x.n < y.n) (hx : es[i]? = some x) (e : y.n = x.n) : (es.set i y).Pairwise fun x y => x.n < y.n := by
  have hm : (es.set i y).map (·.n) = es.map (·.n) := by
    rw [map_setG]
    refine List.ext_getElem? fun j => ?_
    rw [List.getElem?_set]
    split
    · rename_i ej
      subst ej
      split
      · rw [List.getElem?_map, hx, e] <;> rfl
      · rename_i hl
        rw [List.getElem?_eq_none (by omega)]
    · rfl
  have h1 : (es.map (·.n)).Pairwise (· < ·) := List.pairwise_map.mpr h
  rw [← hm] at h1
  exact List.pairwise_map.mp h1
theorem InvB.flag {bx : Bx} {N : Nat} (i : InvB bx N) {j : Nat} {n : Int} {fs : List Str} (hp : placeM bx.es n = some j) (h : ∀ s ∈ fs, Asc s) : InvB (bx.flag j n fs) (N + 1) := by
  obtain ⟨y, hy, en, hl⟩ := place_at hp
  have hym := List.mem_of_getElem? hy
  have mem : ∀ x ∈ bx.es.set j ⟨n, (bx.es[j]?.map (·.ls)).getD [], fs, bx.c + 1⟩, x ∈ bx.es ∨ x = ⟨n, y.ls, fs, bx.c + 1⟩ := fun x hx => by
    rw [hy] at hx
    exact List.mem_or_eq_of_mem_set hx
  refine ⟨asc_set i.asc hy en.symm, fun x hx => ?_, i.n0, ?_, ?_, ?_, ?_, ?_, fun x hx => ?_⟩
  · show x.n ≤ bx.n
    rcases mem x hx with hx | rfl
    · exact i.bn x hx
    · have := i.bn y hym
      show n ≤ bx.n
      omega
  · have := i.nN
    show bx.n ≤ _
    omega
  · have := i.c0
    show 0 ≤ bx.c + 1
    omega
  · have := i.cN
    show bx.c + 1 ≤ _
    omega
  · have := i.le
    show (bx.es.set _ _).length ≤ _
    rw [List.length_set]
    omega
  · have := i.lg
    show bx.gs.length ≤ _
    omega
  · rcases mem x hx with hx | rfl
    · exact i.ok x hx
    · exact ⟨(i.ok y hym).1, h⟩
theorem InvB.cut {bx : Bx} {N : Nat} (i : InvB bx N) (j : Nat) (n : Int) : InvB (bx.cut j n) (N + 1) := by
  have sub : (bx.es.eraseIdx j).Sublist bx.es := List.eraseIdx_sublist _ _
  refine ⟨i.asc.sublist sub, fun x hx => i.bn x (sub.subset hx), i.n0, ?_, ?_, ?_, ?_, ?_, fun x hx => i.ok x (sub.subset hx)⟩
  · have := i.nN
    show bx.n ≤ _
    omega
  · have := i.c0
    show 0 ≤ bx.c + 1
    omega
  · have := i.cN
    show bx.c + 1 ≤ _
    omega
  · have h1 := sub.length_le
    have := i.le
    show (bx.es.eraseIdx j).length ≤ _
    omega
  · have := i.lg
    show (bx.gs ++ _).length ≤ _
    rw [List.length_append]
    show _ + 1 ≤ _
    omega
theorem InvB.le' {bx : Bx} {N M : Nat} (i : InvB bx N) (h : N ≤ M) : InvB bx M := by
  obtain ⟨a1, a2, a3, a4, a5, a6, a7, a8, a9⟩ := i
  exact ⟨a1, a2, a3, by omega, a5, by omega, by omega, by omega, a9⟩
theorem InvB.zero : InvB ⟨0, 0, [], []⟩ 0 := ⟨List.Pairwise.nil, (fun _ h => absurd h List.not_mem_nil), Int.le_refl _, Int.le_refl _, Int.le_refl _, Int.le_refl _, Nat.le_refl _, Nat.le_refl _, fun _ h => absurd h List.not_mem_nil⟩
end Dk

/-! sorted(xs, key=lambda x: x[0]): the lambda's code object in the running def's table. -/
namespace Dk
open PySem PySem.Spec PyProof.Rows L2
/-- the table at P may have grown, all else stands -/
structure TStp (P : Addr) (q : Str) (H H' : Hp) : Prop where
  kp : ∀ b o, b ≠ P → H b = some o → H' b = some o
  tab : LamX.TabS H' P q
theorem TStp.refl {P : Addr} {q : Str} {H : Hp} (t : LamX.TabS H P q) : TStp P q H H := ⟨fun _ _ _ h => h, t⟩
theorem TStp.snd {P : Addr} {q : Str} {H H1 H2 : Hp} (a : TStp P q H H1) (s : Same H1 H2) : TStp P q H H2 := ⟨fun b o n h => s b o (a.kp b o n h), a.tab.ext s⟩
theorem tab_ne {P b : Addr} {q : Str} {H : Hp} {o : HO} (t : LamX.TabS H P q) (h : H b = some o) (n : ∀ ps, o ≠ .tbl ps) : b ≠ P := fun e => by
  obtain ⟨ps, h1, _⟩ := t
  rw [e, h1] at h
  exact n ps (Option.some.inj h).symm
theorem TStp.gro {P : Addr} {q : Str} {H H' : Hp} (a : TStp P q H H') (t : LamX.TabS H P q) : Gro H H' :=
  ⟨(fun b xs e => a.kp b _ (tab_ne t e fun _ z => by cases z) e), (fun b o u e => a.kp b _ (tab_ne t e fun _ z => by cases z) e)⟩
section
variable {X : Cx} {pins : List (Addr × Obj)} {σ : L2.St} {H : Hp} {s : Shared}
/-- a lambda is made -/
theorem lam_mk {c P : Addr} {q : Str} {params : Arguments} {body : Expr} {scope : Scope} {lp : Pos} {E Q : Value → Shared → Prop} (I : Inv X pins σ H s) (tb : LamX.TabB X.base X.mg c P) (cd : X.env.code = .ref c) (eq : X.env.qual ++ "<lambda>" = q)
    (tab : LamX.TabS H P q) (nod : defaultsOf params X.env = ([], [])) (cl0 : ∀ y ∈ scope.names, y.2 = .free → ∃ c, X.env.cells.lookup y.1 = some c)
    (k : ∀ (f c1 : Addr) (pm ctv : Value) (H1 : Hp) (s1 : Shared), Inv X pins σ H1 s1 → TStp P q H H1 → s1.heap.CodeRec (.ref c1) q →
      s1.heap.get? f = some (PySem.W.kla_obj "<lambda>" q params body scope (cloFrom X.env.cells scope.names []) pm c1 ctv) → Q (.ref f) s1) :
    wpAny (model X.prog X.w) X.A (eval (.Lambda params body scope lp) X.env) Q E s := by
  subst eq
  have ⟨ps, pt, tr, am⟩ := tab
  have hp : s.heap.get? P = some { cls := .none, data := .fields ps } := I.hok P _ pt
  have ge := I.ok.glob
  have gn := I.mod.glob.keeps I.bk
  have ch := tb.code.keeps I.bk
  have bp : s.heap.BuiltinsAt X.mg P := tb.bm.keeps I.bk
  refine PySem.W.kla_eval nod ?_
  cases am1 : codeAmong lp ps.toList with
  | some u =>
    obtain ⟨c1, rfl, hc⟩ := am lp u am1
    obtain ⟨⟨oc, us, t, e1, e2, e3⟩, _, _⟩ := I.hok c1 _ hc
    refine PySem.W.kla_makeFunctionHit (ps := ps) (closure_ok cl0) ge gn cd ch hp tr am1 bp (fun ctv g tk kk sz => ?_)
    have kq : ∀ b o, s.heap.get? b = some o → (g.push (PySem.W.kla_obj "<lambda>" (X.env.qual ++ "<lambda>") params body scope (cloFrom X.env.cells scope.names []) ((X.mg "__name__").getD .none) c1 ctv)).get? b = some o :=
      fun b o z => Heap.get?_push_of_some _ (kk b o z)
    exact k _ c1 _ ctv H _ (I.kept (t' := tk) kq) (TStp.refl tab) ⟨c1, oc, us, t, rfl, kq _ _ e1, e2, e3⟩ (Heap.get?_push_size _ rfl)
  | none =>
    refine PySem.W.kla_makeFunction (ps := ps) (closure_ok cl0) ge gn cd ch hp tr am1 tb.gP bp (fun c1 ctv g tk kx lo up cr gp => ?_)
    have ⟨c2, oc, us, t, e0, e1, e2, e3⟩ := cr
    obtain rfl : c1 = c2 := by
      cases e0
      rfl
    have nc : H c1 = none := I.hok.fresh lo
    have nP : P ≠ c1 := fun z => by
      rw [← z, pt] at nc
      cases nc
    have J := LamX.inv_table (t' := tk) (q := X.env.qual ++ "<lambda>") (more := #[rawInt lp.line, rawInt lp.col, .ref c1])
      (h' := g.push (PySem.W.kla_obj "<lambda>" (X.env.qual ++ "<lambda>") params body scope (cloFrom X.env.cells scope.names []) ((X.mg "__name__").getD .none) c1 ctv)) I pt
      (fun b o n z => Heap.get?_push_of_some _ (kx b o n z)) (Heap.get?_push_of_some _ gp) lo ⟨oc, us, t, Heap.get?_push_of_some _ e1, e2, e3⟩
    have kp : ∀ b o, b ≠ P → H b = some o → (upd (upd H P (.tbl (ps ++ #[rawInt lp.line, rawInt lp.col, .ref c1]))) c1 (LamX.CodeO c1 (X.env.qual ++ "<lambda>"))) b = some o := fun b o n z => by
      have n1 : b ≠ c1 := fun y => by
        rw [y, nc] at z
        cases z
      rw [upd_ne n1, upd_ne n]
      exact z
    have tl : (ps ++ #[rawInt lp.line, rawInt lp.col, .ref c1]).toList = ps.toList ++ [rawInt lp.line, rawInt lp.col, .ref c1] := by simp
    refine k _ c1 _ ctv _ _ J ⟨kp, ⟨_, by rw [upd_ne nP, upd_same], by rw [tl]; exact PySem.TriplesOk_snoc _ _ _ _ tr, fun pos cv z => ?_⟩⟩ ⟨c1, oc, us, t, rfl, Heap.get?_push_of_some _ e1, e2, e3⟩ (Heap.get?_push_size _ rfl)
    rw [tl] at z
    rcases LamX.among_app _ tr z with y | y
    · obtain ⟨c3, y1, y2⟩ := am pos cv y
      refine ⟨c3, y1, kp c3 _ (fun w => ?_) y2⟩
      rw [w, pt] at y2
      cases y2
    · exact ⟨c1, y, upd_same⟩
end
section
open PySem.W
variable {prog : Program} {w : World} {A : Around} {s : Shared}
/-- the call of lambda x: x[0] with a tuple that begins with a whole number -/
theorem key0_call {f t c1 : Addr} {q x : Str} {params : Arguments} {scope : Scope} {cl : List (Str × Addr)} {pm ctv : Value} {j : Nat} {p1 p2 p3 : Pos} {its : Array Value} {n : Int} {tk : Tok} {E : Value → Shared → Prop}
    (ho : s.heap.get? f = some (kla_obj "<lambda>" q params (.Subscript (.Name x p1) (.Constant (.int 0) j p2) p3) scope cl pm c1 ctv)) (cr : s.heap.CodeRec (.ref c1) q) (lim : s.heap.NoLimit) (room : A.depth < recursionLimit)
    (kd : scope.kind = .function) (co : scope.isCoroutine = false) (ge : scope.isGenerator = false) (lo : scope.names.lookup x = some .local) (nc : ∀ y ∈ scope.names, y.2 ≠ .cell)
    (bi : bindArgs (kla_fn "<lambda>" q params (.Subscript (.Name x p1) (.Constant (.int 0) j p2) p3) scope cl pm (.ref c1) ctv) ⟨[.ref t], []⟩ = pure [(x, .ref t)]) (db : (x == ("__debug__" : Str)) = false)
    (ht : IsTup s.heap t its) (h0 : its[0]? = some (.int n tk)) : wpAny (model prog w) A (call (.ref f) [.ref t]) (KeyPure (.int n) s) E s := by
  refine wpAny_call (kla_callFunE room ho rfl co ge rfl cr ?_)
  rw [bi]
  refine wpAny_pure (wpAny_newFunctionEnv nc (fun y hy => ?_) (fun g hns sb => ⟨lim.fresh _ sb, ?_⟩) kd)
  · obtain rfl := List.mem_singleton.mp hy
    exact lo
  have kq : ∀ b o, s.heap.get? b = some o → g.get? b = some o := fun b o z => sb.extBut b o (Nat.ne_of_lt (Heap.lt_size z)) (Heap.get?_push_of_some _ z)
  refine kla_codeExpr (Subscript_Constant (wpAny_Name (wpAny_loadName_local (v := .ref t) kd lo hns ?_ ?_) db))
  · show List.lookup x [(x, Value.ref t)] = _
    have e : (x == x) = true := beq_self_eq_true x
    simp only [List.lookup, e]
  refine wpAny_Constant_int ?_
  have sz : 0 < its.size := (Array.getElem?_eq_some_iff.mp h0).1
  have si : seqIndex? 0 its.size = some 0 := seq_nat (k := 0) sz
  have ht2 : IsTup g t its := ht.keeps kq
  refine ⟨"tuple", _, slot_tuple_getitem.lookup, ht2.typeIs, PyProof.Rows.getItem_tuple ht2 (by decide) (by decide) si h0 ?_⟩
  exact ⟨g, _, rfl, kq, .int n tk⟩
end
/-- sorted(xs, key=lambda x: x[0]) of tuples that begin with whole numbers -/
def tSortK (K : PySem.W.Frag) (P : Addr) (q : Str) (t : TA) : TE := fun σ H Q => t σ H fun vs H1 => ∃ (α : Type) (ky : α → Int) (l : Addr) (es : List (V × α)), vs = [.ref l] ∧ SqL K H1 l (es.map (·.1)) ∧ (∀ x ∈ es, ∃ a r, x.1 = .ref a ∧ H1 a = some (.tup (.int (ky x.2) :: r))) ∧ LamX.TabS H1 P q ∧
  ∀ H2 p (es' : List (V × α)), TStp P q H1 H2 → H2 p = none → es'.Perm es → es'.Pairwise (fun a b => ky a.2 ≤ ky b.2) → Q (.ref p) (upd H2 p (.lst (es'.map (·.1))))
theorem sqL_tstp {K : PySem.W.Frag} {P l : Addr} {q : Str} {H H' : Hp} {xs : List V} (t : TStp P q H H') (tb : LamX.TabS H P q) (h : SqL K H l xs) : SqL K H' l xs := by
  rcases h with (h | ⟨o, h⟩) | h
  · exact .inl (.inl (t.kp l _ (tab_ne tb h fun _ z => by cases z) h))
  · exact .inl (.inr ⟨o, t.kp l _ (tab_ne tb h fun _ z => by cases z) h⟩)
  · exact .inr h
theorem each_of {α : Type} {ky : α → Int} {H : Hp} : ∀ {es : List (V × α)} {us : List Value}, Vals (es.map (·.1)) us → (∀ x ∈ es, ∃ a r, x.1 = .ref a ∧ H a = some (.tup (.int (ky x.2) :: r))) →
    PySem.W.EachIs (fun (v : Value) (x : V × α) => ∃ a r, v = .ref a ∧ x.1 = .ref a ∧ H a = some (.tup (.int (ky x.2) :: r))) us es
  | [], us, r, _ => by
    cases r
    exact .nil
  | x :: es, us, r, h => by
    cases r with
    | cons r1 r2 =>
      refine .cons ?_ (each_of r2 fun y hy => h y (List.mem_cons_of_mem _ hy))
      obtain ⟨a, r, e1, e2⟩ := h x List.mem_cons_self
      have r1 : L2.RelV x.1 _ := r1
      rw [e1] at r1
      exact ⟨a, r, r1, e1, e2⟩
theorem of_each {α : Type} {ky : α → Int} {H : Hp} : ∀ {es : List (V × α)} {us : List Value}, PySem.W.EachIs (fun (v : Value) (x : V × α) => ∃ a r, v = .ref a ∧ x.1 = .ref a ∧ H a = some (.tup (.int (ky x.2) :: r))) us es → Vals (es.map (·.1)) us
  | _, _, .nil => .nil
  | _, _, .cons h r => by
    obtain ⟨a, _, e1, e2, _⟩ := h
    refine .cons ?_ (of_each r)
    show L2.RelV (Prod.fst _) _
    rw [e1, e2]
    exact rfl
open PySem.W in
theorem pe_sortK0 {X : Cx} {K : PySem.W.Frag} {c P : Addr} {k j : Nat} {q x : Str} {params : Arguments} {scope : Scope} {lp p p1 p2 p3 pos kp : Pos} {e : Expr} {t : TA} (hr : Room k X.A) (hm : X.mg "sorted" = none) (tb : LamX.TabB X.base X.mg c P) (cd : X.env.code = .ref c) (ha : PA X [e] t)
    (eq : X.env.qual ++ "<lambda>" = q := by rfl) (hK : X.K = K := by rfl) (hg : Gl X "sorted" := by rfl) (nod : defaultsOf params X.env = ([], []) := by rfl) (kd : scope.kind = .function := by rfl) (co : scope.isCoroutine = false := by rfl) (ge : scope.isGenerator = false := by rfl)
    (lo : scope.names.lookup x = some .local := by decide +kernel) (nc : ∀ y ∈ scope.names, y.2 ≠ .cell := by decide +kernel) (nf : ∀ y ∈ scope.names, y.2 ≠ .free := by decide +kernel)
    (bi : ∀ (cl : List (Str × Addr)) (pm cv ctv v : Value), bindArgs (kla_fn "<lambda>" q params (.Subscript (.Name x p1) (.Constant (.int 0) j p2) p3) scope cl pm cv ctv) ⟨[v], []⟩ = pure [(x, v)] := by intros; rfl) (db : (x == ("__debug__" : Str)) = false := by decide)
    (he : backTo pos (starEach [e] X.env) = (false, eval e X.env) :: backTo pos (starEach [] X.env) := by rfl) (hpl : (backTo pos (starEach [e] X.env)).any (·.1) = false := by rfl) :
    PE X (.Call (.Name "sorted" p) [e] [⟨some "key", .Lambda params (.Subscript (.Name x p1) (.Constant (.int 0) j p2) p3) scope lp, kp⟩] pos) (tSortK K P q t) := by
  subst hK
  refine ⟨fun pins s σ H Q I h => ?_⟩
  refine wpAny_Call_Name_kw (ld_blt I hg hm bt_sorted ?_ (by decide) (by decide))
  refine PyProof.Rows.callWith_kw (thn (ha.run pos pins s σ H _ I h) fun us s1 ⟨vs, H1, I1, r1, α, ky, l, es, ev, hl, hes, tab, q1⟩ => ?_) he hpl rfl rfl
  subst ev
  rw [Vals.ref1 r1]
  refine PyProof.Rows.kws_cons (lam_mk I1 tb cd eq tab nod (fun y hy z => absurd z (nf y hy)) (fun f c1 pm ctv H2 s2 I2 ts cr ho => ?_))
  refine PyProof.Rows.kws_nil ?_
  have hl2 := sqL_tstp ts tab hl
  obtain ⟨its, rv, pl, hz⟩ := I2.list hl2
  have E0 := each_of (H := H2) rv fun y hy => by
    obtain ⟨a, r, e1, e2⟩ := hes y hy
    exact ⟨a, r, e1, ts.kp a _ (tab_ne tab e2 fun _ z => by cases z) e2⟩
  have le : es.length ≤ sizeLine := by simpa using hz
  have un := hr.un
  have dp := hr.dp
  refine sorted_key_data (b := false) (fun y : V × α => .int (ky y.2)) pl.isList E0 (AllAlike.of fun _ _ => by simp [alike]) (Sortable.others fun _ => ⟨by simp, by simp⟩) le (fun y _ => ?_) (ksk_s1 _ _) (fun _ => ksk_l1 _ _) (fun _ => ksk_t1 _ _) (fun v y hy _ g tk kk => ?_) (fun out n g tk kk fr ho2 len eo => ?_)
  · show X.A.units + 2 + 0 < cLine
    omega
  · obtain ⟨a, r, rfl, _, e2⟩ := hy
    obtain ⟨its2, rv2, pt, _⟩ := I2.tuple (SqT.of e2)
    cases rv2 with
    | cons w1 w2 =>
      obtain ⟨tk2, rfl⟩ := w1
      obtain ⟨c3, oc, us3, t3, z0, z1, z2, z3⟩ := cr
      exact key0_call (s := { s2 with heap := g, toks := tk }) (kk _ _ ho) ⟨c3, oc, us3, t3, z0, kk _ _ z1, z2, z3⟩ (I2.nolimit.keeps kk) (by show X.A.depth < recursionLimit; omega) kd co ge lo nc (bi _ _ _ _ _) db (pt.keeps kk) (tk := tk2) rfl
  · rw [dataLe_int (fun y : V × α => ky y.2)] at eo
    have pm : (es.mergeSort fun a b => decide (ky a.2 ≤ ky b.2)).Perm es := List.mergeSort_perm es _
    have pw : (es.mergeSort fun a b => decide (ky a.2 ≤ ky b.2)).Pairwise fun a b => ky a.2 ≤ ky b.2 := by
      have z := List.pairwise_mergeSort (le := fun (a b : V × α) => decide (ky a.2 ≤ ky b.2)) (fun a b c h1 h2 => by simp at h1 h2 ⊢; omega) (fun a b => by simp; omega) es
      exact z.imp fun h => by simpa using h
    have fr2 : H2 (s2.heap.objs.size + 1) = none := I2.hok.fresh (Nat.le_succ _)
    have len2 : ((es.mergeSort fun a b => decide (ky a.2 ≤ ky b.2)).map (·.1)).length ≤ sizeLine := by
      rw [List.length_map, pm.length_eq]
      exact le
    exact ⟨.ref _, _, I2.laid (o := .lst ((es.mergeSort fun a b => decide (ky a.2 ≤ ky b.2)).map (·.1))) (t' := tk) kk (Nat.le_succ _) ⟨len2, out, n, of_each eo, ho2⟩, rfl, q1 H2 _ _ ts fr2 pm pw⟩
theorem r_sortK {K : PySem.W.Frag} {P : Addr} {q : Str} {t : TA} {σ : L2.St} {H : Hp} {Q : VK} (h : t σ H fun vs H1 => ∃ (α : Type) (ky : α → Int) (l : Addr) (es : List (V × α)), vs = [.ref l] ∧ SqL K H1 l (es.map (·.1)) ∧ (∀ x ∈ es, ∃ a r, x.1 = .ref a ∧ H1 a = some (.tup (.int (ky x.2) :: r))) ∧ LamX.TabS H1 P q ∧
  ∀ H2 p (es' : List (V × α)), TStp P q H1 H2 → H2 p = none → es'.Perm es → es'.Pairwise (fun a b => ky a.2 ≤ ky b.2) → Q (.ref p) (upd H2 p (.lst (es'.map (·.1))))) : tSortK K P q t σ H Q := h
/-! the def of a method whose code object's table is known -/
def MethAtL (e : Wd) (C : Addr) (m qual : Str) (st : Stmt) (c P : Addr) : Prop := ∃ f fd, FunD e.K m qual (defArgs st) (defBody st) (defScope st) [] [] f fd ∧ Meth e.K C m f ∧ Cls e.K C ∧ fd.code = .ref c ∧ LamX.TabB e.base e.mg c P
def DefAtL (e : Wd) (x : Str) (st : Stmt) (c P : Addr) : Prop := ∃ f fd, FunD e.K x x (defArgs st) (defBody st) (defScope st) [] [] f fd ∧ e.mg x = some (.ref f) ∧ fd.code = .ref c ∧ LamX.TabB e.base e.mg c P
section
variable {e : Wd} {C c P : Addr} {m x qual : Str} {st : Stmt} {N ps : List Str} {k : Nat} {sp : Sp}
theorem fnokL {f : Addr} {fd : FuncData} (F : FunD e.K x qual (defArgs st) (defBody st) (defScope st) [] [] f fd) (cd : fd.code = .ref c) (S : FnScope N ps (defScope st)) (len : ∀ vs H Q E, sp vs H Q E → vs.length = ps.length)
    (hbody : ∀ (f : Addr) (A : Around) (outer : List Env) (s : Shared) (H : Hp) (vs : List V) (Q : VK) (E : XK), Room k (A.deeper (envOfC qual (defScope st) s.heap.objs.size f (.ref c))) → sp vs H Q E →
      ∃ t, PSs (cxOf (L2.CX e.P e.w) e.P e.w e.K e.mg e.base N qual (defScope st) f (.ref c) A outer s H E).nox (defBody st) t ∧ t { nx := fun _ H' => Q .non H', rt := Q } (start N vs) H) : FnOk e.P e.w e.K e.mg e.base (L2.CX e.P e.w) (k + 1) f fd ps sp := by
  obtain ⟨oc, od, dV, kV, doc, pm, an, cdv, ct, osl, rfl, lk, hcd, _, _⟩ := F.ex
  have cd : cdv = .ref c := cd
  subst cd
  exact fn_of lk hcd S len fun A outer s H vs Q E hr hsp => by
    obtain ⟨t, h1, h2⟩ := hbody f A outer s H vs Q E hr hsp
    exact ⟨t, h1.nox, h2⟩
theorem canML_of (D : MethAtL e C m qual st c P) (S : FnScope N ps (defScope st)) (B : BindQ m qual st ps) (len : ∀ vs H Q E, sp vs H Q E → vs.length = ps.length)
    (hbody : ∀ (tb : LamX.TabB e.base e.mg c P) (f : Addr) (A : Around) (outer : List Env) (s : Shared) (H : Hp) (vs : List V) (Q : VK) (E : XK), Room k (A.deeper (envOfC qual (defScope st) s.heap.objs.size f (.ref c))) → sp vs H Q E →
      ∃ t, PSs (cxOf (L2.CX e.P e.w) e.P e.w e.K e.mg e.base N qual (defScope st) f (.ref c) A outer s H E).nox (defBody st) t ∧ t { nx := fun _ H' => Q .non H', rt := Q } (start N vs) H) : CanM e (k + 1) C m ps sp := by
  obtain ⟨f, fd, F, M, cl, cd, tb⟩ := D
  exact ⟨f, fd, fnokL F cd S len (hbody tb), cl, M, F.bindsN B⟩
theorem canL_of (D : DefAtL e x st c P) (S : FnScope N ps (defScope st)) (B : BindOk x st ps) (len : ∀ vs H Q E, sp vs H Q E → vs.length = ps.length)
    (hbody : ∀ (tb : LamX.TabB e.base e.mg c P) (f : Addr) (A : Around) (outer : List Env) (s : Shared) (H : Hp) (vs : List V) (Q : VK) (E : XK), Room k (A.deeper (envOfC x (defScope st) s.heap.objs.size f (.ref c))) → sp vs H Q E →
      ∃ t, PSs (cxOf (L2.CX e.P e.w) e.P e.w e.K e.mg e.base N x (defScope st) f (.ref c) A outer s H E).nox (defBody st) t ∧ t { nx := fun _ H' => Q .non H', rt := Q } (start N vs) H) : Can e (k + 1) x ps sp := by
  obtain ⟨f, fd, F, g, cd, tb⟩ := D
  exact ⟨f, fd, fnokL F cd S len (hbody tb), g, F.kp, F.bindsN B⟩
end
theorem code_of {K : PySem.W.Frag} {p : Str × Option Str} {x qual : Str} {a : Arguments} {b : List Stmt} {sc : Scope} {fd : FuncData} (F : FunD K x qual a b sc [] [] (He.fAd K p) fd) : fd.code = .ref (He.cT K p).1 := by
  obtain ⟨oc, od, dV, kV, doc, pm, an, cdv, ct, osl, rfl, lk, hcd, _, _⟩ := F.ex
  obtain ⟨c, rfl⟩ := He.codeIn_ref hcd
  show Value.ref c = .ref (He.codeOf K p)
  rw [He.codeOf_eq lk rfl]
end Dk

/-! Copies that follow a box. -/
namespace Dk
open PySem PySem.Spec PyProof.Rows L2
/-- what the numbers of those that are gone keep -/
structure InvC (bx : Bx) : Prop where
  gd : ∀ g ∈ bx.gs, ∀ x ∈ bx.es, g.1 ≠ x.n
  gn : ∀ g ∈ bx.gs, g.1 ≤ bx.n
theorem InvC.zero : InvC ⟨0, 0, [], []⟩ := ⟨(fun _ h => absurd h List.not_mem_nil), fun _ h => absurd h List.not_mem_nil⟩
theorem asc_one {es : List Ent} (as : es.Pairwise fun x y => x.n < y.n) {x y : Ent} (hx : x ∈ es) (hy : y ∈ es) (e : x.n = y.n) : x = y := by
  obtain ⟨i, hi, rfl⟩ := List.getElem_of_mem hx
  obtain ⟨j, hj, rfl⟩ := List.getElem_of_mem hy
  have h := List.pairwise_iff_getElem.mp as
  rcases Nat.lt_trichotomy i j with q | q | q
  · have := h i j hi hj q
    omega
  · subst q
    rfl
  · have := h j i hj hi q
    omega
theorem mem_setE {es : List Ent} {i : Nat} {y z x : Ent} (h : es[i]? = some y) (hx : x ∈ es) : x = y ∨ x ∈ es.set i z := by
  obtain ⟨j, hj, rfl⟩ := List.getElem_of_mem hx
  by_cases e : i = j
  · subst e
    rw [List.getElem?_eq_getElem hj] at h
    exact .inl (Option.some.inj h)
  · right
    have q : (es.set i z)[j]? = some es[j] := by
      rw [List.getElem?_set_ne e, List.getElem?_eq_getElem hj]
    exact List.mem_of_getElem? q
theorem mem_set_new {es : List Ent} {i : Nat} {y z : Ent} (h : es[i]? = some y) : z ∈ es.set i z := by
  have hl := (List.getElem?_eq_some_iff.mp h).1
  exact List.mem_set hl z
theorem mem_eraseE {es : List Ent} {i : Nat} {y x : Ent} (h : es[i]? = some y) (hx : x ∈ es) : x = y ∨ x ∈ es.eraseIdx i := by
  obtain ⟨j, hj, rfl⟩ := List.getElem_of_mem hx
  by_cases e : j = i
  · subst e
    rw [List.getElem?_eq_getElem hj] at h
    exact .inl (Option.some.inj h)
  · exact .inr (List.mem_eraseIdx_iff_getElem.mpr ⟨j, hj, e, rfl⟩)
/-- the copy that has o since the mark m, and the box of now -/
structure Rel (o : List Ent) (m : Int) (bx : Bx) : Prop where
  old : ∀ x ∈ bx.es, x.c ≤ m → x ∈ o
  now : ∀ x ∈ o, x ∈ bx.es ∨ x.n ∈ newsGs bx m ∨ x.n ∈ (newsEs bx m).map (·.n)
  le : m ≤ bx.c
  asc : o.Pairwise fun x y => x.n < y.n
theorem Rel.all {bx : Bx} {m : Int} (as : bx.es.Pairwise fun x y => x.n < y.n) (h : m ≤ bx.c) : Rel bx.es m bx := ⟨(fun x hx _ => hx), (fun x hx => .inl hx), h, as⟩
theorem news_in {bx : Bx} {m : Int} {x : Ent} : x ∈ newsEs bx m ↔ x ∈ bx.es ∧ m < x.c := by
  unfold newsEs
  rw [List.mem_filter, decide_eq_true_eq]
theorem gone_in {bx : Bx} {m n : Int} : n ∈ newsGs bx m ↔ ∃ g ∈ bx.gs, m < g.2 ∧ g.1 = n := by
  unfold newsGs
  rw [List.mem_map]
  constructor
  · rintro ⟨g, hg, e⟩
    rw [List.mem_filter, decide_eq_true_eq] at hg
    exact ⟨g, hg.1, hg.2, e⟩
  · rintro ⟨g, hg, h, e⟩
    exact ⟨g, by rw [List.mem_filter, decide_eq_true_eq]; exact ⟨hg, h⟩, e⟩
theorem Rel.dlv {o : List Ent} {m : Int} {bx : Bx} (r : Rel o m bx) (ls : List Str) : Rel o m (bx.dlv ls) := by
  have le := r.le
  refine ⟨fun x hx hc => ?_, fun x hx => ?_, ?_, r.asc⟩
  · rcases List.mem_append.mp hx with hx | hx
    · exact r.old x hx hc
    · rw [List.mem_singleton.mp hx] at hc
      have hc : bx.c + 1 ≤ m := hc
      omega
  · rcases r.now x hx with h | h | h
    · exact .inl (List.mem_append_left _ h)
    · exact .inr (.inl h)
    · obtain ⟨y, hy, e⟩ := List.mem_map.mp h
      obtain ⟨h1, h2⟩ := news_in.mp hy
      exact .inr (.inr (List.mem_map.mpr ⟨y, news_in.mpr ⟨List.mem_append_left _ h1, h2⟩, e⟩))
  · show m ≤ bx.c + 1
    omega
theorem Rel.flag {o : List Ent} {m : Int} {bx : Bx} {i : Nat} {n : Int} (r : Rel o m bx) (hp : placeM bx.es n = some i) (fs : List Str) : Rel o m (bx.flag i n fs) := by
  have le := r.le
  obtain ⟨y, hy, en, hl⟩ := place_at hp
  have new : (⟨n, (bx.es[i]?.map (·.ls)).getD [], fs, bx.c + 1⟩ : Ent) ∈ newsEs (bx.flag i n fs) m := news_in.mpr ⟨mem_set_new hy, by show m < bx.c + 1; omega⟩
  refine ⟨fun x hx hc => ?_, fun x hx => ?_, ?_, r.asc⟩
  · rcases List.mem_or_eq_of_mem_set hx with hx | hx
    · exact r.old x hx hc
    · rw [hx] at hc
      have hc : bx.c + 1 ≤ m := hc
      omega
  · rcases r.now x hx with h | h | h
    · rcases mem_setE (z := ⟨n, (bx.es[i]?.map (·.ls)).getD [], fs, bx.c + 1⟩) hy h with q | q
      · exact .inr (.inr (List.mem_map.mpr ⟨_, new, by rw [q]; exact en.symm⟩))
      · exact .inl q
    · exact .inr (.inl h)
    · obtain ⟨z, hz, e⟩ := List.mem_map.mp h
      obtain ⟨h1, h2⟩ := news_in.mp hz
      rcases mem_setE (z := ⟨n, (bx.es[i]?.map (·.ls)).getD [], fs, bx.c + 1⟩) hy h1 with q | q
      · exact .inr (.inr (List.mem_map.mpr ⟨_, new, by rw [← e, q]; exact en.symm⟩))
      · exact .inr (.inr (List.mem_map.mpr ⟨z, news_in.mpr ⟨q, h2⟩, e⟩))
  · show m ≤ bx.c + 1
    omega
theorem Rel.cut {o : List Ent} {m : Int} {bx : Bx} {i : Nat} {n : Int} (r : Rel o m bx) (hp : placeM bx.es n = some i) : Rel o m (bx.cut i n) := by
  have le := r.le
  obtain ⟨y, hy, en, hl⟩ := place_at hp
  have new : n ∈ newsGs (bx.cut i n) m := gone_in.mpr ⟨(n, bx.c + 1), List.mem_append_right _ (List.mem_singleton.mpr rfl), by show m < bx.c + 1; omega, rfl⟩
  refine ⟨fun x hx hc => ?_, fun x hx => ?_, ?_, r.asc⟩
  · exact r.old x ((List.eraseIdx_sublist _ _).subset hx) hc
  · rcases r.now x hx with h | h | h
    · rcases mem_eraseE hy h with q | q
      · exact .inr (.inl (by rw [q, en]; exact new))
      · exact .inl q
    · obtain ⟨g, hg, h1, h2⟩ := gone_in.mp h
      exact .inr (.inl (gone_in.mpr ⟨g, List.mem_append_left _ hg, h1, h2⟩))
    · obtain ⟨z, hz, e⟩ := List.mem_map.mp h
      obtain ⟨h1, h2⟩ := news_in.mp hz
      rcases mem_eraseE hy h1 with q | q
      · exact .inr (.inl (by rw [← e, q, en]; exact new))
      · exact .inr (.inr (List.mem_map.mpr ⟨z, news_in.mpr ⟨q, h2⟩, e⟩))
  · show m ≤ bx.c + 1
    omega
theorem InvC.dlv {bx : Bx} {N : Nat} (i : InvC bx) (b : InvB bx N) (ls : List Str) : InvC (bx.dlv ls) := by
  refine ⟨fun g hg x hx => ?_, fun g hg => ?_⟩
  · rcases List.mem_append.mp hx with hx | hx
    · exact i.gd g hg x hx
    · rw [List.mem_singleton.mp hx]
      have := i.gn g hg
      show g.1 ≠ bx.n + 1
      omega
  · have := i.gn g hg
    show g.1 ≤ bx.n + 1
    omega
theorem InvC.flag {bx : Bx} (c : InvC bx) {i : Nat} {n : Int} (hp : placeM bx.es n = some i) (fs : List Str) : InvC (bx.flag i n fs) := by
  obtain ⟨y, hy, en, hl⟩ := place_at hp
  refine ⟨fun g hg x hx => ?_, fun g hg => c.gn g hg⟩
  rcases List.mem_or_eq_of_mem_set hx with hx | hx
  · exact c.gd g hg x hx
  · rw [hx]
    show g.1 ≠ n
    rw [← en]
    exact c.gd g hg y (List.mem_of_getElem? hy)
theorem InvC.cut {bx : Bx} {N : Nat} (c : InvC bx) (b : InvB bx N) {i : Nat} {n : Int} (hp : placeM bx.es n = some i) : InvC (bx.cut i n) := by
  obtain ⟨y, hy, en, hl⟩ := place_at hp
  refine ⟨fun g hg x hx => ?_, fun g hg => ?_⟩
  · have hx1 := (List.eraseIdx_sublist _ _).subset hx
    rcases List.mem_append.mp hg with hg | hg
    · exact c.gd g hg x hx1
    · rw [List.mem_singleton.mp hg]
      show n ≠ x.n
      obtain ⟨j, q, hj, e⟩ := List.mem_eraseIdx_iff_getElem.mp hx
      intro z
      have e2 : x = y := asc_one b.asc hx1 (List.mem_of_getElem? hy) (by omega)
      have h := List.pairwise_iff_getElem.mp b.asc
      have hyi := (List.getElem?_eq_some_iff.mp hy).2
      rcases Nat.lt_or_gt_of_ne hj with w | w
      · have := h j i q hl w
        rw [e, hyi, e2] at this
        omega
      · have := h i j hl q w
        rw [e, hyi, e2] at this
        omega
  · rcases List.mem_append.mp hg with hg | hg
    · exact c.gn g hg
    · rw [List.mem_singleton.mp hg]
      show n ≤ bx.n
      rw [← en]
      exact b.bn y (List.mem_of_getElem? hy)
/-- what stays of the copy's entries -/
def stays (o : List Ent) (ns cs : List Int) : List Ent := o.filter fun x => !decide (x.n ∈ ns) && !decide (x.n ∈ cs)
theorem upd_law {o es' : List Ent} {m : Int} {bx : Bx} {N : Nat} {ns : List Int} (r : Rel o m bx) (b : InvB bx N) (c : InvC bx) (hn : ns.Perm (newsGs bx m)) (pm : es'.Perm (stays o ns ((newsEs bx m).map (·.n)) ++ newsEs bx m)) (pw : es'.Pairwise fun x y => x.n ≤ y.n) : es' = bx.es := by
  have asn : ∀ {l : List Ent}, (l.Pairwise fun x y => x.n < y.n) → l.Nodup := fun h => h.imp fun {x y} q e => by
    rw [e] at q
    omega
  have p1 : (stays o ns ((newsEs bx m).map (·.n))).Perm (bx.es.filter fun x => !decide (m < x.c)) := by
    unfold stays
    refine (List.perm_ext_iff_of_nodup ((asn r.asc).sublist List.filter_sublist) ((asn b.asc).sublist List.filter_sublist)).mpr fun x => ?_
    rw [List.mem_filter, List.mem_filter, Bool.and_eq_true, Bool.not_eq_true', Bool.not_eq_true', Bool.not_eq_true', decide_eq_false_iff_not, decide_eq_false_iff_not, decide_eq_false_iff_not]
    constructor
    · rintro ⟨h1, h2, h3⟩
      rcases r.now x h1 with q | q | q
      · exact ⟨q, fun z => h3 (List.mem_map.mpr ⟨x, news_in.mpr ⟨q, z⟩, rfl⟩)⟩
      · exact absurd (hn.mem_iff.mpr q) h2
      · exact absurd q h3
    · rintro ⟨h1, h2⟩
      refine ⟨r.old x h1 (by omega), fun z => ?_, fun z => ?_⟩
      · obtain ⟨g, hg, _, e⟩ := gone_in.mp (hn.mem_iff.mp z)
        exact c.gd g hg x h1 e
      · obtain ⟨y, hy, e⟩ := List.mem_map.mp z
        obtain ⟨y1, y2⟩ := news_in.mp hy
        have := asc_one b.asc y1 h1 e
        rw [this] at y2
        exact h2 y2
  have p2 : es'.Perm bx.es := by
    refine pm.trans ((p1.append_right _).trans (List.perm_append_comm.trans ?_))
    exact List.filter_append_perm (fun x : Ent => decide (m < x.c)) bx.es
  refine List.Perm.eq_of_pairwise (fun x y hx hy h k => ?_) pw (b.asc.imp fun h => Int.le_of_lt h) p2
  exact asc_one b.asc (p2.mem_iff.mp hx) hy (Int.le_antisymm h k)
/-! in the heap -/
structure CpAt (K : PySem.W.Frag) (H : Hp) (c E : Addr) (m : Int) (o : List Ent) : Prop where
  ins : Ins H c (He.ga K "Copy") [("mark", .int m), ("entries", .ref E)]
  es : ∃ ys, H E = some (.lst ys) ∧ Dqs H ys (o.map entD)
section
variable {K : PySem.W.Frag} {H H' : Hp} {c E : Addr} {m : Int} {o : List Ent} {F F' : List Addr}
theorem CpAt.keep (b : CpAt K H c E m o) (g : Gro H H') (k : ∀ z u, H z = some u → z ∈ [c, E] → H' z = some u) : CpAt K H' c E m o := by
  obtain ⟨dx, hi⟩ := b.ins
  obtain ⟨ys, he, hd⟩ := b.es
  exact ⟨⟨dx, k _ _ hi (by simp)⟩, ⟨ys, k _ _ he (by simp), hd.mono g⟩⟩
theorem CpAt.same (s : Same H H') (b : CpAt K H c E m o) : CpAt K H' c E m o := b.keep (Gro.same s) fun z u h _ => s z u h
theorem CpAt.chg (ch : Chg F F' H H') (n : Dsj F [c, E]) (b : CpAt K H c E m o) : CpAt K H' c E m o := b.keep ch.gro fun z u h w => ch.kp z u h fun q => n z q w
end
def KpAt (H : Hp) (k : Addr) (o : List Ent) : Prop := ∃ ys, H k = some (.lst ys) ∧ Dqs H ys (o.map entD)
theorem KpAt.chg {H H' : Hp} {k : Addr} {o : List Ent} {F F' : List Addr} (ch : Chg F F' H H') (n : k ∉ F) (b : KpAt H k o) : KpAt H' k o := by
  obtain ⟨ys, h, d⟩ := b
  exact ⟨ys, ch.kp _ _ h n, d.mono ch.gro⟩
theorem KpAt.same {H H' : Hp} {k : Addr} {o : List Ent} (s : Same H H') (b : KpAt H k o) : KpAt H' k o := b.chg (F := []) (F' := []) (Chg.same s) List.not_mem_nil
/-! whole numbers in lists and tuples -/
theorem inV_int (ns : List Int) (n : Int) : inV (.int n) (ns.map V.int) = decide (n ∈ ns) := by
  by_cases h : n ∈ ns
  · rw [decide_eq_true h]
    unfold inV
    rw [List.any_eq_true]
    exact ⟨.int n, List.mem_map_of_mem h, by simp [eqV]⟩
  · rw [decide_eq_false h]
    unfold inV
    rw [List.any_eq_false]
    intro v hv
    obtain ⟨k, hk, rfl⟩ := List.mem_map.mp hv
    simp only [eqV, Bool.not_eq_true]
    first
      | exact decide_eq_false fun e => h (e ▸ hk)
      | (simp; exact fun e => h (e ▸ hk))
theorem flat_ints (ns : List Int) : (ns.map V.int).all flatV = true := by
  rw [List.all_eq_true]
  intro x hx
  obtain ⟨n, _, rfl⟩ := List.mem_map.mp hx
  rfl
section
variable {K : PySem.W.Frag} {H : Hp} {Q : VK} {p : Addr} {ns : List Int} {n : Int}
theorem r_ninTi (h : H p = some (.tup (ns.map V.int))) (q : Q (.bl (!decide (n ∈ ns))) H) : uNotIn K (.int n) (.ref p) H Q := r_notinT h rfl (flat_ints _) (by rw [inV_int]; exact q)
theorem r_ninLi (h : H p = some (.lst (ns.map V.int))) (q : Q (.bl (!decide (n ∈ ns))) H) : uNotIn K (.int n) (.ref p) H Q := .inl ⟨p, _, rfl, .inl (SqL.of h), rfl, flat_ints _, by rw [inV_int]; exact q⟩
end
/-! pairs of values and entries -/
theorem zip_fst {H : Hp} : ∀ {xs : List Ent} {ys : List V}, Dqs H ys (xs.map entD) → (ys.zip xs).map (·.1) = ys ∧ (ys.zip xs).map (·.2) = xs ∧ ∀ p ∈ ys.zip xs, Dq H p.1 (entD p.2)
  | [], _, h => by
    cases h
    exact ⟨rfl, rfl, fun p hp => absurd hp List.not_mem_nil⟩
  | x :: xs, _, h => by
    cases h with
    | cons h1 h2 =>
      obtain ⟨a1, a2, a3⟩ := zip_fst h2
      refine ⟨congrArg (List.cons _) a1, congrArg (List.cons _) a2, fun p hp => ?_⟩
      rcases List.mem_cons.mp hp with rfl | hp
      · exact h1
      · exact a3 p hp
theorem of_zip {H : Hp} : ∀ {ps : List (V × Ent)}, (∀ p ∈ ps, Dq H p.1 (entD p.2)) → Dqs H (ps.map (·.1)) ((ps.map (·.2)).map entD)
  | [], _ => .nil
  | p :: ps, h => .cons (h p List.mem_cons_self) (of_zip fun q hq => h q (List.mem_cons_of_mem _ hq))
/-! the table stands while lists and instances change -/
def LI (o : Option HO) : Prop := (∃ xs, o = some (.lst xs)) ∨ ∃ C dx fs, o = some (.ins C dx fs)
theorem li_lst {o : Option HO} {xs : List V} (h : o = some (.lst xs)) : LI o := .inl ⟨xs, h⟩
theorem li_ins {H : Hp} {a C : Addr} {fs : List (Str × V)} (h : Ins H a C fs) : LI (H a) := let ⟨dx, e⟩ := h; .inr ⟨C, dx, fs, e⟩
theorem tab_keep {H H' : Hp} {P : Addr} {q : Str} (t : LamX.TabS H P q) (k : ∀ b o, H b = some o → ¬ LI (H b) → H' b = some o) : LamX.TabS H' P q := by
  obtain ⟨ps, h1, h2, h3⟩ := t
  refine ⟨ps, k _ _ h1 fun z => ?_, h2, fun pos cv hc => ?_⟩
  · rw [h1] at z
    rcases z with ⟨_, z⟩ | ⟨_, _, _, z⟩ <;> cases z
  · obtain ⟨c, e1, e2⟩ := h3 pos cv hc
    refine ⟨c, e1, k _ _ e2 fun z => ?_⟩
    rw [e2] at z
    unfold LamX.CodeO at z
    rcases z with ⟨_, z⟩ | ⟨_, _, _, z⟩ <;> cases z
theorem tab_chg {H H' : Hp} {P : Addr} {q : Str} {F F' : List Addr} (t : LamX.TabS H P q) (c : Chg F F' H H') (l : ∀ b ∈ F, LI (H b)) : LamX.TabS H' P q := tab_keep t fun b o h n => c.kp b o h fun m => n (l b m)
theorem tab_stp {H H' : Hp} {P a : Addr} {q : Str} (t : LamX.TabS H P q) (s : Stp a H H') (d : Drw H a) : LamX.TabS H' P q := tab_keep t fun b o h n => s.fr b o h fun e => by
  obtain ⟨x, y, z⟩ := d
  exact n (li_lst (by rw [e]; exact z))
theorem tab_fput {H H' : Hp} {P a : Addr} {q : Str} (t : LamX.TabS H P q) (f : Fput a H H') : LamX.TabS H' P q := tab_keep t fun b o h n => f.at_ h fun C dx fs e => n (.inr ⟨C, dx, fs, by rw [h, e]⟩)
theorem BxAt.li {K : PySem.W.Frag} {H : Hp} {p E G : Addr} {B : Bx} (b : BxAt K H p E G B) : ∀ z ∈ boxP p E G, LI (H z) := by
  obtain ⟨ys, he, _⟩ := b.es
  obtain ⟨zs, hg, _⟩ := b.gs
  intro z m
  simp only [List.mem_cons, List.not_mem_nil, or_false] at m
  rcases m with rfl | rfl | rfl
  · exact li_ins b.ins
  · exact li_lst he
  · exact li_lst hg
end Dk

/-! A box, two copies, what was kept. -/
namespace Dk
open PySem PySem.Spec PyProof.Rows L2
structure Cpy where
  c : Addr
  E : Addr
  k : Addr
  m : Int
  o : List Ent
  ko : List Ent
abbrev wfp (a p A G cl kl : Addr) (x y : Cpy) : List Addr := [a, p, A, G, cl, kl] ++ ([x.c, x.E, x.k] ++ [y.c, y.E, y.k])
def EntOk (es : List Ent) : Prop := ∀ x ∈ es, (∀ s ∈ x.ls, Asc s) ∧ ∀ s ∈ x.fs, Asc s
theorem EntOk.lay {es : List Ent} (h : EntOk es) : Lay 3 (.list (es.map entD)) := .lst fun d hd => by
  obtain ⟨x, hx, rfl⟩ := List.mem_map.mp hd
  exact ent_lay (h x hx)
structure WK (K : PySem.W.Frag) (P : Addr) (q : Str) (a b p A G cl kl : Addr) (cs ks : List V) (bx : Bx) (N : Nat) (x y : Cpy) (H : Hp) : Prop where
  dr : Drw H a
  sc : Scr K H b
  bb : BxAt K H p A G bx
  iv : InvB bx N
  ic : InvC bx
  hc : H cl = some (.lst cs)
  hk : H kl = some (.lst ks)
  cx : CpAt K H x.c x.E x.m x.o
  kx : KpAt H x.k x.ko
  rx : Rel x.o x.m bx
  lx : x.o.length ≤ N
  ox : EntOk x.o
  cy : CpAt K H y.c y.E y.m y.o
  ky : KpAt H y.k y.ko
  ry : Rel y.o y.m bx
  ly : y.o.length ≤ N
  oy : EntOk y.o
  tb : LamX.TabS H P q
  dj : (wfp a p A G cl kl x y).Nodup
theorem nodup_put {α : Type} {l1 l2 : List α} {e f : α} (h : (l1 ++ e :: l2).Nodup) (n : f ∉ l1 ++ e :: l2) : (l1 ++ f :: l2).Nodup := by
  have h1 := (List.perm_middle (a := e) (l₁ := l1) (l₂ := l2)).nodup_iff.mp h
  refine (List.perm_middle (a := f) (l₁ := l1) (l₂ := l2)).nodup_iff.mpr (List.nodup_cons.mpr ⟨fun z => n ?_, (List.nodup_cons.mp h1).2⟩)
  rcases List.mem_append.mp z with z | z
  · exact List.mem_append_left _ z
  · exact List.mem_append_right _ (List.mem_cons_of_mem _ z)
theorem dsj_cons {u : Addr} {fp gp : List Addr} (h : u ∉ gp) (k : Dsj fp gp) : Dsj (u :: fp) gp := fun b hb => by
  rcases List.mem_cons.mp hb with rfl | hb
  · exact h
  · exact k b hb
theorem dsj_nil {gp : List Addr} : Dsj [] gp := fun b hb => absurd hb List.not_mem_nil
section
variable {K : PySem.W.Frag} {P : Addr} {q : Str} {a b p A G cl kl : Addr} {cs ks : List V} {bx bx' : Bx} {N N' : Nat} {x y : Cpy} {H H' : Hp} {F F' : List Addr}
theorem WK.swap (w : WK K P q a b p A G cl kl cs ks bx N x y H) : WK K P q a b p A G cl kl cs ks bx N y x H := by
  obtain ⟨h1, h2, h3, h4, h5, h6, h7, h8, h9, h10, h11, h12, h13, h14, h15, h16, h17, h18, dj⟩ := w
  exact ⟨h1, h2, h3, h4, h5, h6, h7, h13, h14, h15, h16, h17, h8, h9, h10, h11, h12, h18, (List.Perm.append_left _ List.perm_append_comm).nodup_iff.mp dj⟩
/-- all that stands -/
theorem WK.there (w : WK K P q a b p A G cl kl cs ks bx N x y H) : ∀ z ∈ wfp a p A G cl kl x y, LI (H z) := by
  have l1 := w.bb.li
  obtain ⟨d1, d2, d3⟩ := w.dr
  obtain ⟨ex, e1, _⟩ := w.cx.es
  obtain ⟨ey, e2, _⟩ := w.cy.es
  obtain ⟨fx, e3, _⟩ := w.kx
  obtain ⟨fy, e4, _⟩ := w.ky
  intro z hz
  simp only [List.mem_append, List.mem_cons, List.not_mem_nil, or_false] at hz
  rcases hz with (rfl | rfl | rfl | rfl | rfl | rfl) | (rfl | rfl | rfl) | (rfl | rfl | rfl)
  · exact li_lst d3
  · exact l1 _ (by simp)
  · exact l1 _ (by simp)
  · exact l1 _ (by simp)
  · exact li_lst w.hc
  · exact li_lst w.hk
  · exact li_ins w.cx.ins
  · exact li_lst e1
  · exact li_lst e3
  · exact li_ins w.cy.ins
  · exact li_lst e2
  · exact li_lst e4
theorem WK.out (w : WK K P q a b p A G cl kl cs ks bx N x y H) {z : Addr} (h : H z = none) : z ∉ wfp a p A G cl kl x y := fun m => by
  have := w.there z m
  rw [h] at this
  rcases this with ⟨_, e⟩ | ⟨_, _, _, e⟩ <;> cases e
theorem WK.tabout (w : WK K P q a b p A G cl kl cs ks bx N x y H) : P ∉ wfp a p A G cl kl x y := fun m => by
  have := w.there P m
  obtain ⟨ps, e, _⟩ := w.tb
  rw [e] at this
  rcases this with ⟨_, e⟩ | ⟨_, _, _, e⟩ <;> cases e
theorem WK.same (s : Same H H') (w : WK K P q a b p A G cl kl cs ks bx N x y H) : WK K P q a b p A G cl kl cs ks bx N x y H' := by
  obtain ⟨h1, h2, h3, h4, h5, h6, h7, h8, h9, h10, h11, h12, h13, h14, h15, h16, h17, h18, dj⟩ := w
  exact ⟨h1.mono s, h2.mono (Gro.same s), h3.same s, h4, h5, s _ _ h6, s _ _ h7, h8.same s, h9.same s, h10, h11, h12, h13.same s, h14.same s, h15, h16, h17, h18.ext s, dj⟩
theorem WK.stp (s : Stp a H H') (w : WK K P q a b p A G cl kl cs ks bx N x y H) : WK K P q a b p A G cl kl cs ks bx N x y H' := by
  obtain ⟨h1, h2, h3, h4, h5, h6, h7, h8, h9, h10, h11, h12, h13, h14, h15, h16, h17, h18, dj⟩ := w
  have dk := List.nodup_cons.mp (show (a :: ([p, A, G, cl, kl] ++ ([x.c, x.E, x.k] ++ [y.c, y.E, y.k]))).Nodup from dj)
  have na := dk.1
  simp only [List.mem_append, List.mem_cons, List.not_mem_nil, or_false, not_or] at na
  obtain ⟨⟨n1, n2, n3, n4, n5⟩, ⟨n6, n7, n8⟩, n9, n10, n11⟩ := na
  have ch := s.chg
  exact ⟨s.drw, h2.mono s.gro, h3.stp s (by simp [n1, n2, n3]), h4, h5, ch.kp _ _ h6 (by simp [Ne.symm n4]), ch.kp _ _ h7 (by simp [Ne.symm n5]), h8.chg ch (dsj_cons (by simp [n6, n7]) dsj_nil), h9.chg ch (by simp [Ne.symm n8]), h10, h11, h12,
    h13.chg ch (dsj_cons (by simp [n9, n10]) dsj_nil), h14.chg ch (by simp [Ne.symm n11]), h15, h16, h17, tab_stp h18 s h1, dj⟩
theorem WK.box (w : WK K P q a b p A G cl kl cs ks bx N x y H) (ch : Chg (boxP p A G) (boxP p A G) H H') (bb : BxAt K H' p A G bx') (iv : InvB bx' N') (ic : InvC bx') (rx : Rel x.o x.m bx') (ry : Rel y.o y.m bx') (le : N ≤ N') : WK K P q a b p A G cl kl cs ks bx' N' x y H' := by
  have li := w.bb.li
  obtain ⟨h1, h2, h3, h4, h5, h6, h7, h8, h9, h10, h11, h12, h13, h14, h15, h16, h17, h18, dj⟩ := w
  have dj0 := dj
  simp only [List.cons_append, List.nil_append, List.nodup_cons, List.mem_cons, List.not_mem_nil, or_false, not_or] at dj
  obtain ⟨⟨a1, a2, a3, _⟩, ⟨p1, p2, p3, p4, p5, p6, p7, p8, p9, p10⟩, ⟨q1, q2, q3, q4, q5, q6, q7, q8, q9⟩, ⟨g1, g2, g3, g4, g5, g6, g7, g8⟩, _⟩ := dj
  exact ⟨ch.drw h1 (by simp [a1, a2, a3]), h2.mono ch.gro, bb, iv, ic, ch.kp _ _ h6 (by simp [Ne.symm p3, Ne.symm q2, Ne.symm g1]), ch.kp _ _ h7 (by simp [Ne.symm p4, Ne.symm q3, Ne.symm g2]),
    h8.chg ch (dsj_cons (by simp [p5, p6]) (dsj_cons (by simp [q4, q5]) (dsj_cons (by simp [g3, g4]) dsj_nil))), h9.chg ch (by simp [Ne.symm p7, Ne.symm q6, Ne.symm g5]), rx, by omega, h12,
    h13.chg ch (dsj_cons (by simp [p8, p9]) (dsj_cons (by simp [q7, q8]) (dsj_cons (by simp [g6, g7]) dsj_nil))), h14.chg ch (by simp [Ne.symm p10, Ne.symm q9, Ne.symm g8]), ry, by omega, h17, tab_chg h18 ch li, dj0⟩
theorem WK.upd {E' : Addr} {m' : Int} {o' : List Ent} (w : WK K P q a b p A G cl kl cs ks bx N x y H) (ch : Chg [x.c, P] [x.c, E', P] H H') (cx : CpAt K H' x.c E' m' o') (nE : H E' = none) (tb : LamX.TabS H' P q) (rx : Rel o' m' bx) (lx : o'.length ≤ N) (ox : EntOk o') :
    WK K P q a b p A G cl kl cs ks bx N { x with E := E', m := m', o := o' } y H' := by
  have tt := w.tabout
  have oo := w.out nE
  obtain ⟨h1, h2, h3, h4, h5, h6, h7, h8, h9, h10, h11, h12, h13, h14, h15, h16, h17, h18, dj⟩ := w
  have dj2 : (wfp a p A G cl kl { x with E := E', m := m', o := o' } y).Nodup := nodup_put (l1 := [a, p, A, G, cl, kl, x.c]) (l2 := [x.k] ++ [y.c, y.E, y.k]) (e := x.E) dj oo
  simp only [List.cons_append, List.nil_append, List.nodup_cons, List.mem_cons, List.not_mem_nil, or_false, not_or] at dj tt
  obtain ⟨⟨a1, a2, a3, a4, a5, a6, a7, a8, a9, a10, a11⟩, ⟨p1, p2, p3, p4, p5, p6, p7, p8, p9, p10⟩, ⟨q1, q2, q3, q4, q5, q6, q7, q8, q9⟩, ⟨g1, g2, g3, g4, g5, g6, g7, g8⟩, ⟨c1, c2, c3, c4, c5, c6, c7⟩, ⟨k1, k2, k3, k4, k5, k6⟩, ⟨x1, x2, x3, x4, x5⟩, _⟩ := dj
  obtain ⟨t1, t2, t3, t4, t5, t6, t7, t8, t9, t10, t11, t12⟩ := tt
  exact ⟨ch.drw h1 (by simp [a6, Ne.symm t1]), h2.mono ch.gro, h3.chg ch (dsj_cons (by simp [Ne.symm p5, Ne.symm q4, Ne.symm g3]) (dsj_cons (by simp [t2, t3, t4]) dsj_nil)), h4, h5, ch.kp _ _ h6 (by simp [c2, Ne.symm t5]), ch.kp _ _ h7 (by simp [k1, Ne.symm t6]),
    cx, h9.chg ch (by simp [Ne.symm x2, Ne.symm t9]), rx, lx, ox, h13.chg ch (dsj_cons (by simp [x3, x4]) (dsj_cons (by simp [t10, t11]) dsj_nil)), h14.chg ch (by simp [Ne.symm x5, Ne.symm t12]), h15, h16, h17, tb, dj2⟩
theorem WK.kput {k' : Addr} {o' : List Ent} {ks' : List V} {H1 H2 : Hp} (w : WK K P q a b p A G cl kl cs ks bx N x y H) (nk : H k' = none) (s : Same H H1) (kk : KpAt H1 k' o') (h : H2 kl = some (.lst ks')) (k : ∀ z, z ≠ kl → H2 z = H1 z) :
    WK K P q a b p A G cl kl cs ks' bx N { x with k := k', ko := o' } y H2 := by
  have oo := w.out nk
  have hkl := s _ _ w.hk
  have ch : Chg [kl] [kl] H1 H2 := but_chg k hkl (by simp)
  have w1 := w.same s
  obtain ⟨h1, h2, h3, h4, h5, h6, h7, h8, h9, h10, h11, h12, h13, h14, h15, h16, h17, h18, dj⟩ := w1
  have dj2 : (wfp a p A G cl kl { x with k := k', ko := o' } y).Nodup := nodup_put (l1 := [a, p, A, G, cl, kl, x.c, x.E]) (l2 := [y.c, y.E, y.k]) (e := x.k) dj oo
  simp only [List.cons_append, List.nil_append, List.nodup_cons, List.mem_cons, List.not_mem_nil, or_false, not_or] at dj oo
  obtain ⟨⟨a1, a2, a3, a4, a5, a6, a7, a8, a9, a10, a11⟩, ⟨p1, p2, p3, p4, p5, p6, p7, p8, p9, p10⟩, ⟨q1, q2, q3, q4, q5, q6, q7, q8, q9⟩, ⟨g1, g2, g3, g4, g5, g6, g7, g8⟩, ⟨c1, c2, c3, c4, c5, c6, c7⟩, ⟨k1, k2, k3, k4, k5, k6⟩, _⟩ := dj
  obtain ⟨t1, t2, t3, t4, t5, t6, t7, t8, t9, t10, t11, t12⟩ := oo
  exact ⟨ch.drw h1 (by simp [a5]), h2.mono ch.gro, h3.chg ch (dsj_cons (by simp [Ne.symm p4, Ne.symm q3, Ne.symm g2]) dsj_nil), h4, h5, ch.kp _ _ h6 (by simp [c1]), h,
    h8.chg ch (dsj_cons (by simp [k1, k2]) dsj_nil), kk.chg ch (by simp [t6]), h10, h11, h12, h13.chg ch (dsj_cons (by simp [k4, k5]) dsj_nil), h14.chg ch (by simp [Ne.symm k6]), h15, h16, h17, tab_chg h18 ch (fun z m => by rw [List.mem_singleton.mp m]; exact li_lst h7), dj2⟩
end
section
variable {K : PySem.W.Frag} {P : Addr} {q : Str} {a b p A G cl kl : Addr} {bx : Bx} {N : Nat} {x y : Cpy} {H : Hp}
/-- one of the two copies is looked at -/
theorem WK.sel (w : WK K P q a b p A G cl kl [.ref x.c, .ref y.c] [.ref x.k, .ref y.k] bx N x y H) {d : Int} (d0 : 0 ≤ d) (d1 : d < 2) (kx : x.ko = x.o) (ky : y.ko = y.o) : ∃ (n : Nat) (cs ks : List V) (x' y' : Cpy), d = n ∧ n < 2 ∧ ks.length = 2 ∧
    WK K P q a b p A G cl kl cs ks bx N x' y' H ∧ atI cs d = some (.ref x'.c) ∧ x'.ko = x'.o ∧ y'.ko = y'.o ∧
    ∀ bx2 N2 (x2 : Cpy) H2, x2.c = x'.c → WK K P q a b p A G cl kl cs (ks.set n (.ref x2.k)) bx2 N2 x2 y' H2 → x2.ko = x2.o → ∃ X Y : Cpy, WK K P q a b p A G cl kl [.ref X.c, .ref Y.c] [.ref X.k, .ref Y.k] bx2 N2 X Y H2 ∧ X.ko = X.o ∧ Y.ko = Y.o := by
  by_cases e : d = 0
  · subst e
    refine ⟨0, _, _, x, y, rfl, by omega, rfl, w, atI_nat (j := 0) rfl, kx, ky, fun bx2 N2 x2 H2 e w2 k2 => ⟨x2, y, ?_, k2, ky⟩⟩
    rw [e]
    exact w2
  · have e : d = 1 := by omega
    subst e
    refine ⟨1, _, _, y, x, rfl, by omega, rfl, w.swap, atI_nat (j := 1) rfl, ky, kx, fun bx2 N2 x2 H2 e w2 k2 => ⟨x, x2, ?_, kx, k2⟩⟩
    rw [e]
    exact w2.swap
end
theorem r_neC {K : PySem.W.Frag} {H : Hp} {Q : VK} {A B : Addr} {o o' : List Ent} (h1 : KpAt H A o) (h2 : KpAt H B o') (eo : o' = o) (ok : EntOk o) (q : Q (.bl false) H) : uNe K (.ref A) (.ref B) H Q := by
  subst eo
  obtain ⟨ys, e1, d1⟩ := h1
  obtain ⟨zs, e2, d2⟩ := h2
  exact r_neLay (.lst (SqL.of e1) d1.dp) (.lst (SqL.of e2) d2.dp) ok.lay (by omega) q
theorem r_eqC {K : PySem.W.Frag} {H : Hp} {Q : VK} {A B : Addr} {o o' : List Ent} (h1 : KpAt H A o) (h2 : KpAt H B o') (eo : o' = o) (ok : EntOk o) (q : Q (.bl true) H) : uEq K (.ref A) (.ref B) H Q := by
  subst eo
  obtain ⟨ys, e1, d1⟩ := h1
  obtain ⟨zs, e2, d2⟩ := h2
  exact r_eqLay (.lst (SqL.of e1) d1.dp) (.lst (SqL.of e2) d2.dp) ok.lay (by omega) q
theorem r_dnF {b : Bool} {A B : Prop} (h : b = false) (z : B) : if (!!b) = true then A else B := by
  rw [h]
  exact z
theorem r_dnT {b : Bool} {A B : Prop} (h : b = true) (z : A) : if (!!b) = true then A else B := by
  rw [h]
  exact z
theorem num_len : ∀ i : Fin 25, (Str.ofString (toString ((i.1 : Nat) : Int))).length ≤ 2 := by decide +kernel
theorem line_asc : Asc (Str.ofString "line ") := by unfold Asc; decide +kernel
theorem fl_asc : ∀ c ∈ (Str.ofString "ab").cps.toList, Asc (Str.ofString "f" ++ ⟨#[c]⟩) := by unfold Asc; decide +kernel
theorem ab_len : (Str.ofString "ab").cps.toList.length = 2 := by decide +kernel
theorem r_ixAB {K : PySem.W.Frag} {H : Hp} {Q : VK} {d : Int} (d0 : 0 ≤ d) (d1 : d < 2) (k : ∀ c, c ∈ (Str.ofString "ab").cps.toList → Q (.str ⟨#[c]⟩) H) : uIx K (.str (Str.ofString "ab")) (.int d) H Q := by
  obtain ⟨c, hc, hm⟩ := atI_get (xs := (Str.ofString "ab").cps.toList) d0 (by rw [ab_len]; exact d1)
  exact ⟨c, by rw [sizeLine_eq]; decide +kernel, hc, k c hm⟩
theorem num_asc : ∀ i : Fin 25, Asc (Str.ofString (toString ((i.1 : Nat) : Int))) := by unfold Asc; decide +kernel
/-! the first of all -/
structure Lv (H : Hp) (l : List Addr) : Prop where
  nd : l.Nodup
  li : ∀ z ∈ l, H z ≠ none
theorem Lv.nil (H : Hp) : Lv H [] := ⟨List.nodup_nil, fun _ h => absurd h List.not_mem_nil⟩
theorem Lv.same {H H' : Hp} {l : List Addr} (s : Same H H') (w : Lv H l) : Lv H' l := ⟨w.nd, fun z hz n => by
  have := w.li z hz
  cases q : H z with
  | none => exact this q
  | some o =>
    rw [s _ _ q] at n
    cases n⟩
theorem Lv.add {H H' : Hp} {l : List Addr} {f : Addr} {o : HO} (w : Lv H l) (n : H f = none) (s : Same H H') (h : H' f = some o) : Lv H' (f :: l) := by
  refine ⟨List.nodup_cons.mpr ⟨fun m => w.li f m n, w.nd⟩, fun z hz => ?_⟩
  rcases List.mem_cons.mp hz with rfl | hz
  · rw [h]
    exact fun z => by cases z
  · exact (w.same s).li z hz
theorem Lv.add2 {H H' : Hp} {l : List Addr} {f g : Addr} {o u : HO} (w : Lv H l) (n : H f = none) (m : H g = none) (ne : f ≠ g) (s : Same H H') (h : H' f = some o) (k : H' g = some u) : Lv H' (f :: g :: l) := by
  have w1 := w.add m s k
  refine ⟨List.nodup_cons.mpr ⟨fun z => ?_, w1.nd⟩, fun z hz => ?_⟩
  · rcases List.mem_cons.mp z with q | q
    · exact ne q
    · exact w.li f q n
  · rcases List.mem_cons.mp hz with rfl | hz
    · rw [h]
      exact fun z => by cases z
    · exact w1.li z hz
theorem Lv.add3 {H H' : Hp} {l : List Addr} {f g i : Addr} {o u v : HO} (w : Lv H l) (n : H f = none) (m : H g = none) (r : H i = none) (n1 : f ≠ g) (n2 : f ≠ i) (n3 : g ≠ i) (s : Same H H') (h : H' f = some o) (k : H' g = some u) (j : H' i = some v) : Lv H' (f :: g :: i :: l) := by
  have w1 := w.add2 m r n3 s k j
  refine ⟨List.nodup_cons.mpr ⟨fun z => ?_, w1.nd⟩, fun z hz => ?_⟩
  · rcases List.mem_cons.mp z with q | q
    · exact n1 q
    · rcases List.mem_cons.mp q with q | q
      · exact n2 q
      · exact w.li f q n
  · rcases List.mem_cons.mp hz with rfl | hz
    · rw [h]
      exact fun z => by cases z
    · exact w1.li z hz
theorem perm12 {a p A G cl kl c0 E0 q0 c1 E1 q1 : Addr} (h : [kl, q1, q0, cl, c1, E1, c0, E0, p, A, G, a].Nodup) : ([a, p, A, G, cl, kl] ++ ([c0, E0, q0] ++ [c1, E1, q1])).Nodup := by
  simp only [List.cons_append, List.nil_append, List.nodup_cons, List.mem_cons, List.not_mem_nil, or_false, not_or] at h ⊢
  grind
end Dk

/-! The end of a law whose defs have tables of code objects. -/
namespace Dk
open PySem PySem.Spec PyProof.Rows L2
/-- the promise, the list that is handed in locked or not yet -/
def spZ (sp : Sp) : Sp := fun vs H Q E => sp vs H Q E ∨ ∃ a xs, vs = [.ref a] ∧ H a = some (.lst xs) ∧ ∀ o, sp vs (upd H a (.frz o (.lst xs))) Q E
theorem fn_frz {P : Program} {w : World} {K : PySem.W.Frag} {mg : Str → Option Value} {base : Heap} {k : Nat} {f : Addr} {fd : FuncData} {ps : List Str} {sp : Sp} (F : FnOk P w K mg base L2.CX0 k f fd ps sp) : FnOk P w K mg base L2.CX0 k f fd ps (spZ sp) := by
  refine ⟨fun vs H Q E h => ?_, fun A outer s H args us vs Q E hr e0 hb rv h => ?_⟩
  · rcases h with h | ⟨a, xs, _, _, h⟩
    · exact F.len _ _ _ _ h
    · exact F.len _ _ _ _ (h { cls := .none, data := .plain })
  · rcases h with h | ⟨a, xs, _, ha, h⟩
    · exact F.run A outer s H args us vs Q E hr e0 hb rv h
    · obtain ⟨z, its, n, ri, ho⟩ := e0.hok a _ ha
      have up : ∀ b, H b = none → (upd H a (.frz { cls := .type "list", data := .seq its.toArray n } (.lst xs))) b = none := fun b e => by
        rw [upd_ne (fun q => by rw [q, ha] at e; cases e)]
        exact e
      have ot : ∀ b u, H b = some u → (∀ ys, u ≠ .lst ys) → (upd H a (.frz { cls := .type "list", data := .seq its.toArray n } (.lst xs))) b = some u := fun b u e g => by
        rw [upd_ne (fun q => by rw [q, ha] at e; cases e; exact g xs rfl)]
        exact e
      have e2 : Env0 P w K mg base A outer s (upd H a (.frz { cls := .type "list", data := .seq its.toArray n } (.lst xs))) := by
        refine ⟨e0.frames, e0.mod, fun b o q => ⟨(e0.bs b o q).1, up b (e0.bs b o q).2⟩, e0.bsz, e0.funs, fun b q => up b (e0.frf b q), fun b u q => ?_, e0.bare⟩
        by_cases eb : b = a
        · rw [eb, upd_same] at q
          cases q
          rw [eb]
          exact ⟨ho, z, its, n, ri, ho⟩
        · rw [upd_ne eb] at q
          exact (e0.hok b u q).stay (fun d v _ q => q) (fun d q => ot d _ q fun _ z => by cases z) fun d ys q => ot d _ q fun _ z => by cases z
      refine codeAny_mono (F.run A outer s _ args us vs Q E hr e2 hb rv (h _)) fun r s' hq => ?_
      cases r with
      | error e => exact (show False from hq).elim
      | ok fl =>
        cases fl with
        | ret u =>
          obtain ⟨v, H', q1, q2, un, q3, q4, q5⟩ := hq
          exact ⟨v, H', q1, q2, ⟨fun b o g1 g2 => un.keep b o g1 (up b g2), fun b o g1 g2 => un.slot b o g1 (up b g2), fun b o g1 g2 => un.free b o g1 (up b g2), un.there, fun b ys g => un.tups b ys (ot b _ g fun _ z => by cases z),
            fun b o u g => un.frzs b o u (ot b _ g fun _ z => by cases z), fun b ps g => un.tbls b ps (ot b _ g fun _ z => by cases z)⟩, q3, q4, q5⟩
        | next => exact False.elim hq
        | brk => exact False.elim hq
        | cont => exact False.elim hq
theorem Scr.frz {K : PySem.W.Frag} {H : Hp} {a : Addr} {ns : List Int} {o : Obj} (hl : ns.length ≤ 63) : Scr K (upd H a (.frz o (.lst (ns.map V.int)))) a := ⟨ns, hl, .inl ⟨o, upd_same⟩⟩
/-- the law's promise when it holds of every list that is locked -/
theorem spZ_of {K : PySem.W.Frag} {sp : Sp} {H : Hp} {a : Addr} {ns : List Int} {Q : VK} {E : XK} (hl : ns.length ≤ 63) (h : SqL K H a (ns.map V.int)) (k : ∀ H' : Hp, Scr K H' a → (∀ b ps, H b = some (.tbl ps) → H' b = some (.tbl ps)) → sp [.ref a] H' Q E) : spZ sp [.ref a] H Q E := by
  rcases h with (h | ⟨o, h⟩) | h
  · refine .inr ⟨a, _, rfl, h, fun o => k _ (Scr.frz hl) fun b ps e => ?_⟩
    rw [upd_ne (fun q => by rw [q, h] at e; cases e)]
    exact e
  · exact .inl (k H ⟨ns, hl, .inl ⟨o, h⟩⟩ fun _ _ e => e)
  · exact .inl (k H ⟨ns, hl, .inr h⟩ fun _ _ e => e)
/-! what the head tells -/
theorem SaysX_b {fa : List He.Fa} {fb : List Prd} {fn : List He.DefD} {tf : List He.Defn} {w : World} {h : Heap} {K : PySem.W.Frag} (c : He.SaysX fa fn [] tf (fun K => fb.all fun p => p K) w h K) : ∀ (i : Nat) (p : Prd), fb[i]? = some p → p K = true :=
  fun i p q => List.all_eq_true.mp c.more p (List.mem_of_getElem? q)
end Dk

namespace Dk
open PySem PySem.Spec PyProof.Rows L2
/-! steps of the walk -/
local macro_rules | `(tactic| walk_at "sz") => `(tactic| first | assumption | (rw [sizeLine_eq]; (try simp only [PySem.Str.length_append, trS_len, atS_len, eS_len, dotS_len, List.length_append, List.length_cons, List.length_nil, List.length_map]); omega) | ((try simp only [PySem.Str.length_append, trS_len, atS_len, eS_len, dotS_len, List.length_append, List.length_cons, List.length_nil, List.length_map]); omega))
local macro_rules | `(tactic| walk_at "gr") => `(tactic| first
  | assumption
  | ((with_reducible refine' Stp.gro ?f1); (case f1 => assumption))
  | ((with_reducible refine' Gro.same ?f1); (case f1 => assumption)))
local macro_rules | `(tactic| walk_at "grs") => `(tactic| first | with_reducible exact Gro.refl _ | ((with_reducible refine' Gro.trans ?_ ?g2); (case g2 => walk_at "gr")))
local macro_rules | `(tactic| walk_at "grc") => `(tactic| repeat (walk_at "grs"))
local macro_rules | `(tactic| walk_at "chs") => `(tactic| first
  | assumption
  | ((with_reducible refine' same_at ?e1 ?_); (case e1 => assumption))
  | ((with_reducible refine' Stp.at_ ?e1 ?_ ?e3); (case e1 => assumption); (case e3 => walk_at "hp")))
local macro_rules | `(tactic| walk_at "ch") => `(tactic| repeat (walk_at "chs"))
local macro_rules | `(tactic| walk_at "hp") => `(tactic| first
  | assumption
  | ((with_reducible refine' Stp.drw ?e1); (case e1 => assumption))
  | ((with_reducible refine' SqL.of ?e1); (case e1 => walk_at "hp"))
  | ((with_reducible refine' Drw.mono ?e1 ?e2); (case e1 => assumption); (case e2 => walk_at "hp"))
  | ((with_reducible refine' Scr.mono ?e1 ?e2); (case e2 => assumption); (case e1 => walk_at "grc"))
  | ((with_reducible refine' Dq.mono ?e1 ?e2); (case e2 => assumption); (case e1 => walk_at "grc"))
  | ((with_reducible refine' Dqs.mono ?e1 ?e2); (case e2 => assumption); (case e1 => walk_at "grc"))
  | ((with_reducible refine' Gro.tup ?e1 _ _ ?e2); (case e2 => assumption); (case e1 => walk_at "grc"))
  | ((with_reducible refine' ne_drw' ?e1 ?e2); (case e1 => assumption); (case e2 => walk_at "hp"))
  | ((with_reducible refine' from_ ?e1 ?e2); (case e1 => assumption); (case e2 => (intro hh; walk_at "ch"))))
local macro_rules | `(tactic| walk_at "st") => `(tactic| first
  | with_reducible refine' r_seq ?_
  | with_reducible refine' r_set ?_
  | with_reducible refine' r_if ?_
  | with_reducible refine' r_ret ?_
  | with_reducible refine' r_drop ?_
  | with_reducible refine' r_next ?_
  | with_reducible refine' r_asg ?_
  | with_reducible refine' r_break ?_
  | with_reducible refine' r_cont ?_
  | with_reducible refine' r_retN ?_
  | with_reducible refine' r_par ?_
  | with_reducible refine' r_par2 ?_
  | ((with_reducible refine' r_augI ?h ?_); (case h => rfl)))
local macro_rules | `(tactic| walk_at "ex") => `(tactic| first
  | ((with_reducible refine' r_var ?h ?_); (case h => rfl))
  | with_reducible refine' r_c ?_
  | with_reducible refine' r_op ?_
  | with_reducible refine' r_test ?_
  | with_reducible refine' r_tru ?_
  | with_reducible refine' r_cons ?_
  | with_reducible refine' r_nil ?_
  | with_reducible refine' r_cb ?_
  | with_reducible refine' r_call ?_
  | with_reducible refine' r_bm ?_
  | with_reducible refine' r_bm0 ?_
  | with_reducible refine' r_sl ?_
  | with_reducible refine' r_part ?_
  | with_reducible refine' r_nopart ?_
  | with_reducible refine' r_tup ?_
  | with_reducible refine' r_lst ?_
  | with_reducible refine' r_and ?_
  | with_reducible refine' r_or ?_
  | with_reducible refine' r_not ?_
  | with_reducible refine' r_andT ?_
  | with_reducible refine' r_orT ?_
  | with_reducible refine' r_notT ?_
  | with_reducible refine' r_ifx ?_
  | with_reducible refine' r_un ?_
  | with_reducible refine' r_chain ?_
  | with_reducible refine' r_tB ?_
  | with_reducible refine' r_gname ?_
  | with_reducible refine' r_gsub ?_)
local macro_rules | `(tactic| walk_at "va") => `(tactic| first
  | with_reducible refine' r_bl ?_
  | with_reducible refine' r_trub ?_
  | with_reducible refine' r_trui ?_
  | with_reducible refine' r_trun ?_
  | with_reducible refine' r_ex1 ?_
  | with_reducible refine' r_tys ?_
  | with_reducible refine' r_addI ?_
  | ((with_reducible refine' r_addS ?h ?_); (case h => walk_at "sz"))
  | with_reducible refine' r_eqI ?_
  | with_reducible refine' r_eqS ?_
  | with_reducible refine' r_neI ?_
  | with_reducible refine' r_neS ?_
  | with_reducible refine' r_I0 ?_
  | ((with_reducible refine' r_I ?h ?_); (case h => first | assumption | omega | (refine ⟨?_, ?_⟩ <;> omega) | exact ⟨by omega, by omega, by decide⟩))
  | ((with_reducible refine' r_mulI ?h ?_); (case h => first | exact .inl ⟨by decide, by decide⟩ | exact .inr ⟨by decide, by decide⟩ | exact .inl ⟨by omega, by omega⟩ | exact .inr ⟨by omega, by omega⟩))
  | with_reducible refine' r_intI ?_
  | with_reducible refine' r_intB ?_
  | with_reducible refine' r_S1 ?_
  | ((with_reducible refine' r_S1l ?h ?_); (case h => walk_at "sz"))
  | ((with_reducible refine' r_S0 ?h ?_); (case h => walk_at "sz"))
  | ((with_reducible refine' r_slS ?h ?_); (case h => walk_at "sz"))
  | ((with_reducible refine' r_lenS ?h ?_); (case h => walk_at "sz"))
  | with_reducible refine' r_isN ?_
  | with_reducible refine' r_isB ?_
  | with_reducible refine' r_isnotN ?_
  | with_reducible refine' r_isnotB ?_
  | with_reducible refine' r_inS ?_
  | with_reducible refine' r_notinS ?_
  | with_reducible refine' r_neg ?_
  | ((with_reducible refine' r_isi ?h ?h2 ?_); (case h => first | rfl | exact tyN_t (by walk_at "hp") | exact tyN_l (by walk_at "hp")); (case h2 => first | exact kit_NoneType_int | exact kit_NoneType_bool | exact kit_NoneType_tuple | exact kit_NoneType_str | exact kit_NoneType_list | exact kit_bool_int | exact kit_bool_bool | exact kit_bool_tuple | exact kit_bool_str | exact kit_bool_list | exact kit_int_int | exact kit_int_bool | exact kit_int_tuple | exact kit_int_str | exact kit_int_list | exact kit_str_int | exact kit_str_bool | exact kit_str_tuple | exact kit_str_str | exact kit_str_list | exact kit_list_int | exact kit_list_bool | exact kit_list_tuple | exact kit_list_str | exact kit_list_list | exact kit_tuple_int | exact kit_tuple_bool | exact kit_tuple_tuple | exact kit_tuple_str | exact kit_tuple_list))
  | with_reducible refine' r_iteT ?_
  | with_reducible refine' r_iteF ?_
  | with_reducible refine' r_itnT ?_
  | with_reducible refine' r_itnF ?_
  | ((with_reducible refine' r_new ?h ?_); (case h => walk_at "sz"); intro p H' np sm hp))
local macro_rules | `(tactic| walk_at "hv") => `(tactic| first
  | ((with_reducible refine' r_ixT ?h ?h2 ?_); (case h => walk_at "hp"); (case h2 => first | assumption | rfl | exact atI_nat (j := 0) rfl | exact atI_nat (j := 1) rfl | exact atI_nat (j := 2) rfl | exact atI_nat (j := 3) rfl | exact atI_nat (j := 4) rfl))
  | ((with_reducible refine' r_ixL ?h ?h2 ?_); (case h => walk_at "hp"); (case h2 => first | assumption | rfl | exact atI_nat (j := 0) rfl | exact atI_nat (j := 1) rfl | exact atI_nat (j := 2) rfl | exact atI_nat (j := 3) rfl | exact atI_nat (j := 4) rfl))
  | ((with_reducible refine' r_lenT ?h ?_); (case h => walk_at "hp"))
  | ((with_reducible refine' r_lenL ?h ?_); (case h => walk_at "hp"))
  | ((with_reducible refine' r_tyl ?h ?_); (case h => walk_at "hp"))
  | ((with_reducible refine' r_trul ?h ?_); (case h => walk_at "hp"))
  | ((with_reducible refine' r_trut ?h ?_); (case h => exact SqT.of (by walk_at "hp")))
  | ((with_reducible refine' r_setL ?h ?h2 ?_); (case h => walk_at "hp"); (case h2 => rfl); intro H' hp kp)
  | ((with_reducible refine' r_app ?h ?h2 ?_); (case h => walk_at "hp"); (case h2 => walk_at "sz"); intro H' hp kp)
  | ((with_reducible refine' r_addT ?h ?h1 ?h2 ?_); (case h => walk_at "hp"); (case h1 => walk_at "hp"); (case h2 => walk_at "sz"); intro p H' sm hp)
  | ((with_reducible refine' r_addL ?h ?h1 ?h2 ?_); (case h => walk_at "hp"); (case h1 => walk_at "hp"); (case h2 => walk_at "sz"); intro p H' np sm hp)
  | ((with_reducible refine' r_tupleL ?h ?_); (case h => walk_at "hp"); intro p H' np sm hp)
  | ((with_reducible refine' r_tupleT ?h ?_); (case h => walk_at "hp"))
  | ((with_reducible refine' r_listT ?h ?_); (case h => walk_at "hp"); intro p H' np sm hp)
  | ((with_reducible refine' r_listL ?h ?_); (case h => walk_at "hp"); intro p H' np sm hp)
  | ((with_reducible refine' r_gtup ?h ?h2 ?_); (case h => walk_at "hp"); (case h2 => rfl))
  | with_reducible refine' r_gcons ?_
  | with_reducible refine' r_gnil ?_)
local macro_rules | `(tactic| walk_at "call") => `(tactic| fail "no call")
local macro_rules | `(tactic| walk_at "s") => `(tactic| first | walk_at "st" | walk_at "ex" | walk_at "va" | walk_at "hv" | walk_at "call")
local macro_rules | `(tactic| walk_at "go") => `(tactic| repeat (walk_at "s"))
local macro_rules | `(tactic| walk_at "br") => `(tactic| first
  | ((with_reducible refine' r_ite ?_ ?_) <;> intro hc)
  | ((with_reducible refine' r_iten ?_ ?_) <;> intro hc)
  | ((with_reducible refine' r_itb ?_ ?_) <;> intro hc))
local macro_rules | `(tactic| walk_at "all") => `(tactic| repeat' (first | walk_at "s" | walk_at "br"))
local macro_rules | `(tactic| walk_at "nat") => `(tactic| first | assumption | decide | omega | ((try simp only [List.length_map, List.length_cons, List.length_nil]); omega))
local macro_rules | `(tactic| walk_at "ex") => `(tactic| first | with_reducible refine' r_lcr ?_ | with_reducible refine' r_lcu ?_ | with_reducible refine' r_forr ?_ | with_reducible refine' r_foru ?_)
/-! own classes -/
local macro_rules | `(tactic| walk_at "lk") => `(tactic| first | with_reducible exact lk_hd | ((with_reducible refine' lk_tl ?h1 ?h2); (case h1 => decide +kernel); (case h2 => walk_at "lk")) | with_reducible exact lk_nil)
local macro_rules | `(tactic| walk_at "pf") => `(tactic| first | with_reducible exact pf_nil | with_reducible exact pf_hd | ((with_reducible refine' pf_tl ?h1 ?h2); (case h1 => decide +kernel); (case h2 => walk_at "pf")))
local macro_rules | `(tactic| walk_at "hp") => `(tactic| first
  | ((with_reducible refine' Ins.same ?e1 ?e2); (case e1 => assumption); (case e2 => walk_at "hp"))
  | ((with_reducible refine' Ins.stp ?e1 ?e2 ?e3); (case e1 => assumption); (case e2 => walk_at "hp"); (case e3 => walk_at "hp")))
local macro_rules | `(tactic| walk_at "ex") => `(tactic| first
  | with_reducible refine' r_fld ?_
  | with_reducible refine' r_sfld ?_
  | with_reducible refine' r_meth ?_
  | with_reducible refine' r_make ?_
  | with_reducible refine' r_strS ?_
  | ((with_reducible refine' r_strI ?h ?_); (case h => walk_at "nat")))
local macro_rules | `(tactic| walk_at "hv") => `(tactic| first
  | ((with_reducible refine' r_fldv ?h ?h2 ?h3 ?h4 ?_); (case h => walk_at "hp"); (case h2 => assumption); (case h3 => assumption); (case h4 => walk_at "lk"))
  | ((with_reducible refine' r_methv ?h ?h2 ?_); (case h => walk_at "hp"); (case h2 => walk_at "lk"))
  | ((with_reducible refine' r_sfldv ?h ?h2 ?h3 ?h4 ?h5 ?_); (case h => walk_at "hp"); (case h2 => assumption); (case h3 => assumption); (case h4 => first | decide | (simp only [List.length_cons, List.length_nil]; decide)); (case h5 => walk_at "pf"); intro H' hi hk))
local macro_rules | `(tactic| walk_at "hv") => `(tactic| first
  | ((with_reducible refine' r_inTs ?h ?_); (case h => walk_at "hp"))
  | ((with_reducible refine' r_inLs ?h ?_); (case h => walk_at "hp")))
local macro_rules | `(tactic| walk_at "va") => `(tactic| first
  | with_reducible refine' r_isNN ?_
  | with_reducible refine' r_isNS ?_
  | with_reducible refine' r_isNI ?_
  | with_reducible refine' r_isNR ?_
  | with_reducible refine' r_isNB ?_
  | with_reducible refine' r_isnotNN ?_
  | with_reducible refine' r_isnotNS ?_
  | with_reducible refine' r_isnotNI ?_
  | with_reducible refine' r_isnotNR ?_
  | with_reducible refine' r_isnotNB ?_)
local macro_rules | `(tactic| walk_at "ex") => `(tactic| first
  | with_reducible refine' r_fldaug ?_
  | with_reducible refine' r_inAdd ?_
  | with_reducible refine' r_inSub ?_
  | with_reducible refine' r_callS ?_
  | with_reducible refine' r_methX ?_
  | with_reducible refine' r_raise0 ?_
  | with_reducible refine' r_raise1 ?_
  | with_reducible refine' r_tryA ?_
  | with_reducible refine' r_tryO ?_)
local macro_rules | `(tactic| walk_at "hv") => `(tactic| first
  | ((with_reducible refine' r_augq ?h ?h2 ?h3 ?h4 ?_); (case h => walk_at "hp"); (case h2 => assumption); (case h3 => assumption); (case h4 => walk_at "lk"))
  | ((with_reducible refine' r_putq ?h ?h4 ?h5 ?_); (case h => walk_at "hp"); (case h4 => first | decide | (simp only [List.length_cons, List.length_nil]; decide)); (case h5 => walk_at "pf"); intro H' hi hk))
local macro_rules | `(tactic| walk_at "chs") => `(tactic| first
  | ((with_reducible refine' Fput.lst ?e1 ?_); (case e1 => assumption))
  | ((with_reducible refine' Fput.tup ?e1 ?_); (case e1 => assumption))
  | ((with_reducible refine' but_at ?e1 ?_ ?e3); (case e1 => assumption); (case e3 => first | assumption | exact Ne.symm (by assumption))))
local macro_rules | `(tactic| walk_at "gr") => `(tactic| ((with_reducible refine' Fput.gro ?f1); (case f1 => assumption)))
local macro_rules | `(tactic| walk_at "hp") => `(tactic| first
  | ((with_reducible refine' Ins.fput ?e1 ?e2 ?e3); (case e1 => assumption); (case e2 => first | assumption | exact Ne.symm (by assumption)); (case e3 => walk_at "hp"))
  | ((with_reducible refine' Fput.drw ?e1 ?e2); (case e1 => assumption); (case e2 => walk_at "hp")))
local macro_rules | `(tactic| walk_at "hv") => `(tactic| ((with_reducible refine' r_slL ?h ?_); (case h => walk_at "hp"); intro p H' np sm hp))
local macro_rules | `(tactic| walk_at "va") => `(tactic| first
  | ((with_reducible refine' r_isX ?h ?h2 ?_); (case h => assumption); (case h2 => assumption))
  | ((with_reducible refine' r_isXt ?h ?h2 ?_); (case h => assumption); (case h2 => assumption)))
local macro_rules | `(tactic| walk_at "va") => `(tactic| with_reducible refine' r_min2 ?_)
local macro_rules | `(tactic| walk_at "hv") => `(tactic| ((with_reducible refine' r_slT ?h ?_); (case h => walk_at "hp"); intro p H' sm hp))
/-! boxes: attributes as targets, del, sorted, enumerate -/
local macro_rules | `(tactic| walk_at "ex") => `(tactic| first
  | with_reducible refine' r_gfld ?_
  | with_reducible refine' r_delL ?_
  | with_reducible refine' r_fore ?_)
local macro_rules | `(tactic| walk_at "hv") => `(tactic| first
  | ((with_reducible refine' r_sortI ?h ?_); (case h => walk_at "hp"); intro p ns' H' np pm pw sm hp)
  | ((with_reducible refine' r_setT ?h ?h2 ?_); (case h => walk_at "hp"); (case h2 => walk_at "nat"); intro p l H' np mem nd le sm hp)
  | ((with_reducible refine' r_sortT ?h ?h2 ?_); (case h => walk_at "hp"); (case h2 => walk_at "nat"); intro r ys H' nr pm so sm hp))
/-! copies -/
local macro_rules | `(tactic| walk_at "ex") => `(tactic| with_reducible refine' r_sortK ?_)
local macro_rules | `(tactic| walk_at "hv") => `(tactic| first
  | ((with_reducible refine' r_ninTi ?h ?_); (case h => walk_at "hp"))
  | ((with_reducible refine' r_ninLi ?h ?_); (case h => walk_at "hp")))

def top (i : Nat) : Stmt := PySem.Challenge.pw_dawkline_k11_copies_follow_boxes.main.body.getD i (.Pass ⟨0, 0, 0, 0⟩)

/-! ### Box.__init__ -/
abbrev s_Box___init__ : Stmt := inClass (top 5) 0
abbrev N_Box___init__ : List Str := ["self"]
theorem sc_Box___init__ : FnScope N_Box___init__ ["self"] (defScope s_Box___init__) := ⟨rfl, rfl, rfl, by decide +kernel, rfl, by decide +kernel, by decide +kernel⟩
theorem bi_Box___init__ : BindQ "__init__" "Box.__init__" s_Box___init__ ["self"] := fun _ _ _ _ _ _ us hl => match us, hl with | [_], _ => rfl
def sp_Box___init__ (K : PySem.W.Frag) : Sp := sp1 fun x H Q _ => ∃ p, x = .ref p ∧ Ins H p (He.ga K "Box") [] ∧ ∀ H' A G, BxAt K H' p A G ⟨0, 0, [], []⟩ → (∀ b o, H b = some o → b ≠ p → H' b = some o) → H A = none → H G = none → Q .non H'
theorem ok_Box___init__ {e : Wd} (D : InitAt e (He.ga e.K "Box") "Box" "Box.__init__" s_Box___init__) (B : Bl e.mg) (kc_Box : Cls e.K (He.ga e.K "Box")) (kc_Copy : Cls e.K (He.ga e.K "Copy")) (kn_Box_number : NoAttr e.K (He.ga e.K "Box") "number") (kn_Box_change : NoAttr e.K (He.ga e.K "Box") "change") (kn_Box_entries : NoAttr e.K (He.ga e.K "Box") "entries") (kn_Copy_entries : NoAttr e.K (He.ga e.K "Copy") "entries") (kn_Box_gone : NoAttr e.K (He.ga e.K "Box") "gone") : CanN e 1 (He.ga e.K "Box") "Box" ["self"] (sp_Box___init__ e.K) := by
  refine canN_of D sc_Box___init__ bi_Box___init__ (fun _ _ _ _ h => sp1_len h) (fun cdv f A outer s H vs Q E hr h => ?_)
  obtain ⟨v0, rfl, h⟩ := sp1_ex h
  have nd := sc_Box___init__.nd
  obtain ⟨p, rfl, hi, k⟩ := h
  refine ⟨_, (pss_cons (ps_fldU (K := e.K) (pv 0) pe_int)
    (pss_cons (ps_fldU (K := e.K) (pv 0) pe_int)
    (pss_cons (ps_fldU (K := e.K) (pv 0) (pe_lst pa_nil))
    (pss_one (ps_fldU (K := e.K) (pv 0) (pe_lst pa_nil)))))), ?_⟩
  walk_at "go"
  rename_i H1 i1 f1 H2 i2 f2 A' H3 nA m3 hA H4 i4 f4 G H5 nG m5 hG H6 i6 f6
  have a4 : H4 A' = some (.lst []) := f4.lst hA
  have a6 : H6 A' = some (.lst []) := f6.lst (m5 _ _ a4)
  have g6 : H6 G = some (.lst []) := f6.lst hG
  refine k H6 A' G ⟨i6, ⟨[], a6, .nil⟩, ⟨[], g6, .nil⟩, ne_of_none a4 nG⟩ (fun b o hb n => ?_) (f1.fresh i1 (f2.fresh i2 nA)) (f1.fresh i1 (f2.fresh i2 (Same.before m3 (f4.fresh i4 nG))))
  rw [f6.kp b n]
  refine m5 _ _ ?_
  rw [f4.kp b n]
  refine m3 _ _ ?_
  rw [f2.kp b n, f1.kp b n]
  exact hb
theorem use_Box {K : PySem.W.Frag} {H : Hp} {Q : VK} {E : XK} (k : ∀ p A G H', H p = none → H A = none → H G = none → Same H H' → BxAt K H' p A G ⟨0, 0, [], []⟩ → Q (.ref p) H') : makeq (He.ga K "Box") (sp_Box___init__ K) E [] H Q :=
  r_makev fun p H1 np sm hi => ⟨p, rfl, hi, fun H2 A G b kp nA nG => ⟨rfl, k p A G H2 np (Same.before sm nA) (Same.before sm nG) (fun z o e => kp z o (sm z o e) (ne_of_none e np)) b⟩⟩
local macro_rules | `(tactic| walk_at "call") => `(tactic| ((with_reducible refine' use_Box ?_); intro p A G H' np nA nG sm b))

/-! ### Box.deliver -/
abbrev s_Box_deliver : Stmt := inClass (top 5) 1
abbrev N_Box_deliver : List Str := ["self", "lines"]
theorem sc_Box_deliver : FnScope N_Box_deliver ["self", "lines"] (defScope s_Box_deliver) := ⟨rfl, rfl, rfl, by decide +kernel, rfl, by decide +kernel, by decide +kernel⟩
theorem bi_Box_deliver : BindQ "deliver" "Box.deliver" s_Box_deliver ["self", "lines"] := fun _ _ _ _ _ _ us hl => match us, hl with | [_, _], _ => rfl
def sp_Box_deliver (K : PySem.W.Frag) : Sp := sp2 fun x y H Q _ => ∃ p A G bx t ls, x = .ref p ∧ y = .ref t ∧ BxAt K H p A G bx ∧ H t = some (.tup (ls.map V.str)) ∧ bx.es.length ≤ 100000 ∧
  ∀ H', BxAt K H' p A G (bx.dlv ls) → Chg (boxP p A G) (boxP p A G) H H' → Q (.int (bx.n + 1)) H'
theorem ok_Box_deliver {e : Wd} (D : MethAt e (He.ga e.K "Box") "deliver" "Box.deliver" s_Box_deliver) (B : Bl e.mg) (kc_Box : Cls e.K (He.ga e.K "Box")) (kc_Copy : Cls e.K (He.ga e.K "Copy")) (kn_Box_number : NoAttr e.K (He.ga e.K "Box") "number") (kn_Box_change : NoAttr e.K (He.ga e.K "Box") "change") (kn_Box_entries : NoAttr e.K (He.ga e.K "Box") "entries") (kn_Copy_entries : NoAttr e.K (He.ga e.K "Copy") "entries") : CanM e 1 (He.ga e.K "Box") "deliver" ["self", "lines"] (sp_Box_deliver e.K) := by
  refine canM_of D sc_Box_deliver bi_Box_deliver (fun _ _ _ _ h => sp2_len h) (fun cdv f A outer s H vs Q E hr h => ?_)
  obtain ⟨v0, v1, rfl, h⟩ := sp2_ex h
  have nd := sc_Box_deliver.nd
  obtain ⟨p, A', G, bx, t, ls, rfl, rfl, b, ht, hl, k⟩ := h
  have hi := b.ins
  obtain ⟨ys, he, hd⟩ := b.es
  have hy : ys.length ≤ 100000 := by rw [hd.len_map]; exact hl
  refine ⟨_, (pss_cons (ps_fldaugU (K := e.K) (pv 0) pe_int in_add)
    (pss_cons (ps_fldaugU (K := e.K) (pv 0) pe_int in_add)
    (pss_cons (ps_expr (pe_bmU (K := e.K) PySem.F.plainAttrs_list PySem.F.slot_list_append PySem.F.type_list_append mt_append (pe_fldU (K := e.K) (pv 0)) (pa_cons (pe_tup (pa_cons (pe_fldU (K := e.K) (pv 0)) (pa_cons (pv 1) (pa_cons (pe_tup pa_nil) (pa_cons (pe_fldU (K := e.K) (pv 0)) pa_nil))))) pa_nil)))
    (pss_one (ps_ret (pe_fldU (K := e.K) (pv 0))))))), ?_⟩
  walk_at "go"
  rename_i H1 i1 f1 H2 i2 f2 t0 H3 n0 m3 h0 t1 H4 n1 m4 h1 H5 h5 k5
  have b4 := (((b.fput f1 i1).fput f2 i2).same m3).same m4
  have hd4 := ((hd.mono f1.gro).mono f2.gro).mono (Gro.same (m3.trans m4))
  have dt : Dq H4 (.ref t) (sD ls) := .tup (m4 _ _ (m3 _ _ (f2.tup (f1.tup ht)))) (Dqs.strs ls)
  have d0 : Dq H4 (.ref t0) (sD []) := .tup (m4 _ _ h0) .nil
  have de : Dq H4 (.ref t1) (entD ⟨bx.n + 1, ls, [], bx.c + 1⟩) := ent_mk h1 dt d0
  have he4 : H4 A' = some (.lst ys) := m4 _ _ (m3 _ _ (f2.lst (f1.lst he)))
  have hd5 : Dqs H5 (ys ++ [.ref t1]) ((bx.es ++ [(⟨bx.n + 1, ls, [], bx.c + 1⟩ : Ent)]).map entD) := by
    rw [List.map_append]
    exact (hd4.app (.cons de .nil)).mono (gro_but he4 k5)
  have b5 := b4.putE h5 k5 hd5
  have hi5 := b5.ins
  walk_at "go"
  exact k H5 b5 (((((f1.chg (by simp)).trans (f2.chg (by simp))).snd m3).snd m4).trans (but_chg k5 he4 (by simp)))
theorem use_deliver {K : PySem.W.Frag} {p A G t : Addr} {bx : Bx} {ls : List Str} {H : Hp} {Q : VK} {E : XK} (h1 : BxAt K H p A G bx) (h2 : H t = some (.tup (ls.map V.str))) (h3 : bx.es.length ≤ 100000) (k : ∀ H', BxAt K H' p A G (bx.dlv ls) → Chg (boxP p A G) (boxP p A G) H H' → Q (.int (bx.n + 1)) H') : sp_Box_deliver K [.ref p, .ref t] H Q E :=
  ⟨p, A, G, bx, t, ls, rfl, rfl, h1, h2, h3, k⟩

/-! ### Box.place -/
abbrev s_Box_place : Stmt := inClass (top 5) 2
abbrev N_Box_place : List Str := ["self", "number", "index", "entry"]
theorem sc_Box_place : FnScope N_Box_place ["self", "number"] (defScope s_Box_place) := ⟨rfl, rfl, rfl, by decide +kernel, rfl, by decide +kernel, by decide +kernel⟩
theorem bi_Box_place : BindQ "place" "Box.place" s_Box_place ["self", "number"] := fun _ _ _ _ _ _ us hl => match us, hl with | [_, _], _ => rfl
def sp_Box_place (K : PySem.W.Frag) : Sp := sp2 fun x y H Q E => ∃ p A G bx n, x = .ref p ∧ y = .int n ∧ BxAt K H p A G bx ∧ (∀ i, placeM bx.es n = some i → ∀ H', Same H H' → Q (.int (i : Nat)) H') ∧ (placeM bx.es n = none → ∀ H', Same H H' → E (.ref (He.ga K "NoSuchEntry")) none H')
theorem ok_Box_place {e : Wd} (D : MethAt e (He.ga e.K "Box") "place" "Box.place" s_Box_place) (B : Bl e.mg) (kc_Box : Cls e.K (He.ga e.K "Box")) (kc_Copy : Cls e.K (He.ga e.K "Copy")) (kn_Box_entries : NoAttr e.K (He.ga e.K "Box") "entries") (kn_Copy_entries : NoAttr e.K (He.ga e.K "Copy") "entries") (gm_NoSuchEntry : e.mg "NoSuchEntry" = some (.ref (He.ga e.K "NoSuchEntry"))) (xo_NoSuchEntry : Xco e.K (He.ga e.K "NoSuchEntry")) : CanM e 1 (He.ga e.K "Box") "place" ["self", "number"] (sp_Box_place e.K) := by
  refine canMX_of D sc_Box_place bi_Box_place (fun _ _ _ _ h => sp2_len h) (fun cdv f A outer s H vs Q E hr h tk po => ?_)
  obtain ⟨v0, v1, rfl, h⟩ := sp2_ex h
  have nd := sc_Box_place.nd
  obtain ⟨p, A', G, bx, n, rfl, rfl, b, k1, k2⟩ := h
  have hi := b.ins
  obtain ⟨ys, he, hd⟩ := b.es
  refine ⟨_, (pss_cons (ps_for po rfl (pi_enum (by rfl) B.b_enumerate (pa_cons (pe_fldU (K := e.K) (pv 0)) pa_nil)) (pg_tupU (K := e.K) (n := 2) rfl (pgs_cons (pg_name (i := 2) nd rfl (by first | exact Or.inl rfl | exact Or.inr rfl)) (pgs_cons (pg_name (i := 3) nd rfl (by first | exact Or.inl rfl | exact Or.inr rfl)) pgs_nil))) (pss_one (ps_if (pt_cmpR (op_eqU (K := e.K) hr) (pe_ix (ix_U (K := e.K)) (pv 3) pe_int (fun _ _ => rfl)) (pv 1) (nomark _)) (pss_one (ps_ret (pv 2))) pss_nil)))
    (pss_one (ps_raiseU rfl tk (mk1 xo_NoSuchEntry gm_NoSuchEntry (pv 1))))), ?_⟩
  walk_at "go"
  refine for_E (fun i σ' H' => ∃ x y, σ' = [some (.ref p), some (.int n), x, y] ∧ Same H H' ∧ ∀ (j : Nat) z, j < i → bx.es[j]? = some z → z.n ≠ n) he ?_ ?_ ?_ ?_
  · exact ⟨_, _, rfl, Same.refl _, fun _ _ h => absurd h (Nat.not_lt_zero _)⟩
  · rintro i σ' H1 _ ⟨x, y, rfl, s1, _⟩
    exact SqL.of (s1 _ _ he)
  · rintro i v σ' H1 H2 hv ⟨x, y, rfl, s1, nn⟩ s2
    obtain ⟨z, hz, dz⟩ := hd.at_map hv
    have s12 := s1.trans s2
    obtain ⟨t, vl, vf, rfl, ht, _, _⟩ := ent_at (dz.mono (Gro.same s12))
    clear hi
    walk_at "go"
    refine r_ite (fun c => ?_) (fun c => ?_)
    · walk_at "go"
      exact k1 i (place_some hz c nn) H2 s12
    · walk_at "go"
      refine ⟨_, _, rfl, s12, fun j z' hj hz' => ?_⟩
      rcases Nat.lt_succ_iff_lt_or_eq.mp hj with hj | rfl
      · exact nn j z' hj hz'
      · rw [hz] at hz'
        cases hz'
        exact c
  · rintro σ' H1 ⟨x, y, rfl, s1, nn⟩
    walk_at "go"
    exact k2 (place_none fun j z hj hz => nn j z (by rw [hd.len_map]; exact hj) hz) H1 s1
theorem use_place {K : PySem.W.Frag} {p A G : Addr} {bx : Bx} {n : Int} {H : Hp} {Q : VK} {E : XK} (h1 : BxAt K H p A G bx) (k1 : ∀ i, placeM bx.es n = some i → ∀ H', Same H H' → Q (.int (i : Nat)) H') (k2 : placeM bx.es n = none → ∀ H', Same H H' → E (.ref (He.ga K "NoSuchEntry")) none H') : sp_Box_place K [.ref p, .int n] H Q E :=
  ⟨p, A, G, bx, n, rfl, rfl, h1, k1, k2⟩

/-! ### Box.news -/
abbrev s_Box_news : Stmt := inClass (top 5) 5
abbrev N_Box_news : List Str := ["self", "mark", "entries", "gone", "entry", "number", "change"]
theorem sc_Box_news : FnScope N_Box_news ["self", "mark"] (defScope s_Box_news) := ⟨rfl, rfl, rfl, by decide +kernel, rfl, by decide +kernel, by decide +kernel⟩
theorem bi_Box_news : BindQ "news" "Box.news" s_Box_news ["self", "mark"] := fun _ _ _ _ _ _ us hl => match us, hl with | [_, _], _ => rfl
def sp_Box_news (K : PySem.W.Frag) : Sp := sp2 fun x y H Q _ => ∃ p A G bx m, x = .ref p ∧ y = .int m ∧ BxAt K H p A G bx ∧ bx.es.length ≤ 100000 ∧ bx.gs.length ≤ 100000 ∧
  ∀ v H' ns, Same H H' → ns.Perm (newsGs bx m) → ns.Pairwise (· ≤ ·) → Dq H' v (newsD bx m ns) → Q v H'
theorem ok_Box_news {e : Wd} (D : MethAt e (He.ga e.K "Box") "news" "Box.news" s_Box_news) (B : Bl e.mg) (kc_Box : Cls e.K (He.ga e.K "Box")) (kc_Copy : Cls e.K (He.ga e.K "Copy")) (kn_Box_entries : NoAttr e.K (He.ga e.K "Box") "entries") (kn_Copy_entries : NoAttr e.K (He.ga e.K "Copy") "entries") (kn_Box_gone : NoAttr e.K (He.ga e.K "Box") "gone") (kn_Box_change : NoAttr e.K (He.ga e.K "Box") "change") : CanM e 1 (He.ga e.K "Box") "news" ["self", "mark"] (sp_Box_news e.K) := by
  refine canM_of D sc_Box_news bi_Box_news (fun _ _ _ _ h => sp2_len h) (fun cdv f A outer s H vs Q E hr h => ?_)
  obtain ⟨v0, v1, rfl, h⟩ := sp2_ex h
  have nd := sc_Box_news.nd
  obtain ⟨p, A', G, bx, m, rfl, rfl, b, hl, hg, k⟩ := h
  have hi := b.ins
  obtain ⟨ys, he, hd⟩ := b.es
  obtain ⟨zs, hz, dz⟩ := b.gs
  have ly := hd.len_map
  have lz := dz.len_map
  refine ⟨_, (pss_cons (ps_set (i := 2) nd rfl (by first | exact Or.inl rfl | exact Or.inr rfl) (pe_callTy (call_tupleU (K := e.K)) (by rfl) B.b_tuple bt_tuple (pa_cons (pe_lc (own := [("entry", 4)]) rfl nd (pi_U (K := e.K) (pe_fldU (K := e.K) (pv 0))) (blkOk_by (N := N_Box_news) (sc := defScope s_Box_news) (by decide +kernel)) (fun _ _ _ _ _ => (pg_name (i := 4) nd rfl (by first | exact Or.inl rfl | exact Or.inr rfl))) (fun _ _ _ _ _ => (pts_one (pt_cmpR op_gtU (pe_ix (ix_U (K := e.K)) (pv 4) pe_int (fun _ _ => rfl)) (pv 1) (nomark _)))) (fun _ _ _ _ _ => (pv 4))) pa_nil)))
    (pss_cons (ps_set (i := 3) nd rfl (by first | exact Or.inl rfl | exact Or.inr rfl) (pe_callTy (call_tupleU (K := e.K)) (by rfl) B.b_tuple bt_tuple (pa_cons (pe_callB (call_sortIU (K := e.K)) (by rfl) B.b_sorted bt_sorted (pa_cons (pe_lc (own := [("number", 5), ("change", 6)]) rfl nd (pi_U (K := e.K) (pe_fldU (K := e.K) (pv 0))) (blkOk_by (N := N_Box_news) (sc := defScope s_Box_news) (by decide +kernel)) (fun _ _ _ _ _ => (pg_tupU (K := e.K) (n := 2) rfl (pgs_cons (pg_name (i := 5) nd rfl (by first | exact Or.inl rfl | exact Or.inr rfl)) (pgs_cons (pg_name (i := 6) nd rfl (by first | exact Or.inl rfl | exact Or.inr rfl)) pgs_nil)))) (fun _ _ _ _ _ => (pts_one (pt_cmpR op_gtU (pv 6) (pv 1) (nomark _)))) (fun _ _ _ _ _ => (pv 5))) pa_nil)) pa_nil)))
    (pss_one (ps_ret (pe_tup (pa_cons (pe_fldU (K := e.K) (pv 0)) (pa_cons (pv 2) (pa_cons (pv 3) pa_nil)))))))), ?_⟩
  walk_at "go"
  refine lc_L he (fun H' s => s _ _ he) (sr_same H) (fun i ds => ds = ((bx.es.take i).filter fun x => decide (m < x.c)).map entD) (by omega) rfl (fun _ => rfl) ?_ ?_
  · intro i x H1 ds Q1 Qn hx s1 rv q1 q2
    obtain ⟨y, hy, dy⟩ := hd.at_map hx
    have dy1 := dy.mono (Gro.same s1)
    obtain ⟨t, vl, vf, rfl, ht, _, _⟩ := ent_at dy1
    have tk := take_one hy
    walk_at "go"
    refine r_ite (fun c => ?_) (fun c => ?_)
    · walk_at "go"
      refine q1 _ (entD y) H1 (Same.refl _) dy1 ?_
      rw [tk, List.filter_append, List.map_append, ← rv]
      simp [c]
    · refine q2 H1 (Same.refl _) ?_
      rw [tk, List.filter_append, List.map_append, ← rv]
      simp [c]
  · intro q H1 es' ds nq s1 hq dq rv
    rw [ly, List.take_length] at rv
    subst rv
    walk_at "go"
    rename_i tq H2 n2 m2 h2
    have hz2 := m2 _ _ (s1 _ _ hz)
    refine lc_LG hz2 (fun H' s => s _ _ hz2) (sr_same H2) (fun i ds => ds = ((bx.gs.take i).filter fun x => decide (m < x.2)).map fun x => PyData.int x.1) (by omega) rfl ?_ ?_
    · intro i x H3 ds Q1 Qn hx s3 rv q1 q2
      obtain ⟨y, hy, dy⟩ := dz.at_map hx
      obtain ⟨t, rfl, ht⟩ := gon_at (dy.mono (Gro.same ((s1.trans m2).trans s3)))
      have tk := take_one hy
      walk_at "go"
      refine ⟨rfl, ?_⟩
      walk_at "go"
      refine r_ite (fun c => ?_) (fun c => ?_)
      · walk_at "go"
        refine q1 _ (.int y.1) H3 (Same.refl _) (.int _) ?_
        rw [tk, List.filter_append, List.map_append, ← rv]
        simp [c]
      · refine q2 H3 (Same.refl _) ?_
        rw [tk, List.filter_append, List.map_append, ← rv]
        simp [c]
    · intro r H3 gs' ds nr s3 hr dr rv
      rw [lz, List.take_length] at rv
      have e2 : ds = (newsGs bx m).map PyData.int := by rw [rv, newsGs, List.map_map] <;> rfl
      subst e2
      rw [dqs_ints dr] at hr
      have h3 := s3 _ _ h2
      have hi3 := Ins.same s3 (Ins.same m2 (Ins.same s1 hi))
      clear hi
      walk_at "go"
      rename_i a1 ns H4 na1 pm pw m4 ha1 a2 H5 n5 m5 h5 a3 H6 n6 m6 h6
      have s26 := ((s3.trans m4).trans m5).trans m6
      exact k _ H6 ns ((s1.trans m2).trans s26) pm pw (.tup h6 (.cons (.int _) (.cons (.tup (s26 _ _ h2) (dq.mono (Gro.same (m2.trans s26)))) (.cons (.tup (m6 _ _ h5) (dqs_ints_mk ns)) .nil))))
theorem use_news {K : PySem.W.Frag} {p A G : Addr} {bx : Bx} {m : Int} {H : Hp} {Q : VK} {E : XK} (h1 : BxAt K H p A G bx) (h2 : bx.es.length ≤ 100000) (h3 : bx.gs.length ≤ 100000) (k : ∀ v H' ns, Same H H' → ns.Perm (newsGs bx m) → ns.Pairwise (· ≤ ·) → Dq H' v (newsD bx m ns) → Q v H') : sp_Box_news K [.ref p, .int m] H Q E :=
  ⟨p, A, G, bx, m, rfl, rfl, h1, h2, h3, k⟩

/-! ### Copy.__init__ -/
abbrev s_Copy___init__ : Stmt := inClass (top 6) 0
abbrev N_Copy___init__ : List Str := ["self"]
theorem sc_Copy___init__ : FnScope N_Copy___init__ ["self"] (defScope s_Copy___init__) := ⟨rfl, rfl, rfl, by decide +kernel, rfl, by decide +kernel, by decide +kernel⟩
theorem bi_Copy___init__ : BindQ "__init__" "Copy.__init__" s_Copy___init__ ["self"] := fun _ _ _ _ _ _ us hl => match us, hl with | [_], _ => rfl
def sp_Copy___init__ (K : PySem.W.Frag) : Sp := sp1 fun x H Q _ => ∃ p, x = .ref p ∧ Ins H p (He.ga K "Copy") [] ∧ ∀ H' E, CpAt K H' p E 0 [] → (∀ b o, H b = some o → b ≠ p → H' b = some o) → H E = none → Q .non H'
theorem ok_Copy___init__ {e : Wd} (D : InitAt e (He.ga e.K "Copy") "Copy" "Copy.__init__" s_Copy___init__) (B : Bl e.mg) (kc_Box : Cls e.K (He.ga e.K "Box")) (kc_Copy : Cls e.K (He.ga e.K "Copy")) (kn_Copy_mark : NoAttr e.K (He.ga e.K "Copy") "mark") (kn_Box_entries : NoAttr e.K (He.ga e.K "Box") "entries") (kn_Copy_entries : NoAttr e.K (He.ga e.K "Copy") "entries") : CanN e 1 (He.ga e.K "Copy") "Copy" ["self"] (sp_Copy___init__ e.K) := by
  refine canN_of D sc_Copy___init__ bi_Copy___init__ (fun _ _ _ _ h => sp1_len h) (fun cdv f A outer s H vs Q E hr h => ?_)
  obtain ⟨v0, rfl, h⟩ := sp1_ex h
  have nd := sc_Copy___init__.nd
  obtain ⟨p, rfl, hi, k⟩ := h
  refine ⟨_, (pss_cons (ps_fldU (K := e.K) (pv 0) pe_int)
    (pss_one (ps_fldU (K := e.K) (pv 0) (pe_lst pa_nil)))), ?_⟩
  walk_at "go"
  rename_i H1 i1 f1 A' H3 nA m3 hA H4 i4 f4
  refine k H4 A' ⟨i4, ⟨[], f4.lst hA, .nil⟩⟩ (fun b o hb n => ?_) (f1.fresh i1 nA)
  rw [f4.kp b n]
  refine m3 _ _ ?_
  rw [f1.kp b n]
  exact hb
theorem use_Copy {K : PySem.W.Frag} {H : Hp} {Q : VK} {E : XK} (k : ∀ p A H', H p = none → H A = none → Same H H' → CpAt K H' p A 0 [] → Q (.ref p) H') : makeq (He.ga K "Copy") (sp_Copy___init__ K) E [] H Q :=
  r_makev fun p H1 np sm hi => ⟨p, rfl, hi, fun H2 A b kp nA => ⟨rfl, k p A H2 np (Same.before sm nA) (fun z o e => kp z o (sm z o e) (ne_of_none e np)) b⟩⟩
local macro_rules | `(tactic| walk_at "call") => `(tactic| ((with_reducible refine' use_Copy ?_); intro p A H' np nA sm b))

/-! ### _law_refill -/
abbrev s_l_refill : Stmt := top 9
abbrev N_l_refill : List Str := ["_law_script", "_law_k", "_law_cell"]
theorem sc_l_refill : FnScope N_l_refill ["_law_script", "_law_k"] (defScope s_l_refill) := ⟨rfl, rfl, rfl, by decide +kernel, rfl, by decide +kernel, by decide +kernel⟩
theorem bi_l_refill : BindOk "_law_refill" s_l_refill ["_law_script", "_law_k"] := fun _ _ _ _ _ _ us hl => match us, hl with | [_, _], _ => rfl
def sp_l_refill (K : PySem.W.Frag) : Sp := sp2 fun sc k H Q _ => ∃ b n, sc = .ref b ∧ k = .int n ∧ Scr K H b ∧ ∀ d, Q (.int d) H
theorem ok_l_refill {e : Wd} (D : DefAt e "_law_refill" s_l_refill) (B : Bl e.mg) : Can e 1 "_law_refill" ["_law_script", "_law_k"] (sp_l_refill e.K) := by
  refine can_of D sc_l_refill bi_l_refill (fun _ _ _ _ h => sp2_len h) (fun cdv f A outer s H vs Q E hr h => ?_)
  obtain ⟨v0, v1, rfl, h⟩ := sp2_ex h
  have nd := sc_l_refill.nd
  obtain ⟨b, n, rfl, rfl, hs, k⟩ := h
  obtain ⟨ns, hl, hq⟩ := hs.seq
  refine ⟨_, (pss_cons (ps_set (i := 2) nd rfl (by first | exact Or.inl rfl | exact Or.inr rfl) pe_int)
    (Evl.pss_cut (ps_if (pt_tru (K := e.K) (pv 0)) (pss_one (ps_set (i := 2) nd rfl (by first | exact Or.inl rfl | exact Or.inr rfl) (pe_ix (ix_U (K := e.K)) (pv 0) (pe_op op_modU (pv 1) (pe_callB (call_lenU (K := e.K)) (by rfl) B.b_len bt_len (pa_cons (pv 0) pa_nil))) (fun _ _ => rfl)))) pss_nil)
    (Evl.pss_cut (ps_if (pt_cmpR op_ltU (pv 2) pe_int (nomark _)) (pss_one (ps_set (i := 2) nd rfl (by first | exact Or.inl rfl | exact Or.inr rfl) (pe_op op_subU pe_int (pe_op op_mulU pe_int (pv 2))))) pss_nil)
    (pss_cons (ps_if (PW.pt (pw_and (pt_cmpR op_geU (pv 2) (pe_op op_powU pe_int pe_int) (nomark _)) (pw_and1 (pt_cmpR op_ltU (pv 1) (pe_callB (call_lenU (K := e.K)) (by rfl) B.b_len bt_len (pa_cons (pv 0) pa_nil)) (nomark _))))) (pss_one (ps_ret (pv 2))) pss_nil)
    (pss_one (ps_ret (pe_op op_modU (pe_callTy call_intU (by rfl) B.b_int bt_int (pa_cons (pe_op (op_addU (K := e.K)) (pe_op op_mulU (pe_callTy call_intU (by rfl) B.b_int bt_int (pa_cons (pe_op (op_addU (K := e.K)) (pe_op (op_addU (K := e.K)) (pe_op op_mulU (pv 2) pe_int) (pe_op op_mulU (pv 1) pe_int)) pe_int) pa_nil)) pe_int) pe_int) pa_nil)) pe_int))))))), ?_⟩
  walk_at "go"
  refine r_cut (fun σ' H' => ∃ c : Int, σ' = [some (.ref b), some (.int n), some (.int c)] ∧ H = H') ?_ ?_
  · walk_at "go"
    refine r_itb (fun c => ?_) (fun _ => ?_)
    · have h0 : 0 < ns.length := by
        cases ns with
        | nil => cases c
        | cons x r => exact Nat.succ_pos _
      walk_at "go"
      refine r_I (by simp only [List.length_map]; omega) ?_
      obtain ⟨v, hv⟩ := atI_mod h0 n
      refine r_ixL hq (by simp only [List.length_map]; exact hv) ?_
      exact ⟨_, rfl, rfl⟩
    · walk_at "go"
      exact ⟨_, rfl, rfl⟩
  · rintro σ' H' ⟨c, rfl, rfl⟩
    refine r_cut (fun σ' H' => ∃ c : Int, σ' = [some (.ref b), some (.int n), some (.int c)] ∧ H = H') ?_ ?_
    · walk_at "all"
      all_goals exact ⟨_, rfl, rfl⟩
    · rintro σ' H' ⟨c, rfl, rfl⟩
      walk_at "all"
      all_goals exact k _

/-! ### Box.set_flags -/
abbrev s_Box_set_flags : Stmt := inClass (top 5) 3
abbrev N_Box_set_flags : List Str := ["self", "number", "flags", "index"]
theorem sc_Box_set_flags : FnScope N_Box_set_flags ["self", "number", "flags"] (defScope s_Box_set_flags) := ⟨rfl, rfl, rfl, by decide +kernel, rfl, by decide +kernel, by decide +kernel⟩
theorem bi_Box_set_flags : BindQ "set_flags" "Box.set_flags" s_Box_set_flags ["self", "number", "flags"] := fun _ _ _ _ _ _ us hl => match us, hl with | [_, _, _], _ => rfl
def sp_Box_set_flags (K : PySem.W.Frag) : Sp := sp3 fun x y z H Q E => ∃ p A G bx n t ss, x = .ref p ∧ y = .int n ∧ z = .ref t ∧ BxAt K H p A G bx ∧ H t = some (.tup (ss.map V.str)) ∧ ss.length < 64 ∧
  (∀ i fs, placeM bx.es n = some i → SortOf fs ss → ∀ H', BxAt K H' p A G (bx.flag i n fs) → Chg (boxP p A G) (boxP p A G) H H' → Q .non H') ∧ (placeM bx.es n = none → ∀ H', Same H H' → E (.ref (He.ga K "NoSuchEntry")) none H')
theorem ok_Box_set_flags {e : Wd} (D : MethAt e (He.ga e.K "Box") "set_flags" "Box.set_flags" s_Box_set_flags) (B : Bl e.mg) (kc_Box : Cls e.K (He.ga e.K "Box")) (kc_Copy : Cls e.K (He.ga e.K "Copy")) (kn_Box_change : NoAttr e.K (He.ga e.K "Box") "change") (kn_Box_entries : NoAttr e.K (He.ga e.K "Box") "entries") (kn_Copy_entries : NoAttr e.K (He.ga e.K "Copy") "entries") (c_Box_place : CanM e 1 (He.ga e.K "Box") "place" ["self", "number"] (sp_Box_place e.K)) : CanM e 2 (He.ga e.K "Box") "set_flags" ["self", "number", "flags"] (sp_Box_set_flags e.K) := by
  refine canMX_of D sc_Box_set_flags bi_Box_set_flags (fun _ _ _ _ h => sp3_len h) (fun cdv f A outer s H vs Q E hr h tk po => ?_)
  obtain ⟨v0, v1, v2, rfl, h⟩ := sp3_ex h
  have nd := sc_Box_set_flags.nd
  obtain ⟨p, A', G, bx, n, t, ss, rfl, rfl, rfl, b, ht, hl, k1, k2⟩ := h
  have hi := b.ins
  refine ⟨_, (pss_cons (ps_set (i := 3) nd rfl (by first | exact Or.inl rfl | exact Or.inr rfl) (pe_canMX tk c_Box_place (hr.mono (by decide)) (pv 0) (pa_cons (pv 1) pa_nil)))
    (pss_cons (ps_fldaugU (K := e.K) (pv 0) pe_int in_add)
    (pss_one (ps_asg (pe_tup (pa_cons (pv 1) (pa_cons (pe_ix (ix_U (K := e.K)) (pe_ix (ix_U (K := e.K)) (pe_fldU (K := e.K) (pv 0)) (pv 3) (fun _ _ => rfl)) pe_int (fun _ _ => rfl)) (pa_cons (pe_callTy (call_tupleU (K := e.K)) (by rfl) B.b_tuple bt_tuple (pa_cons (pe_callB (call_sortT rfl) (by rfl) B.b_sorted bt_sorted (pa_cons (pe_callTy (call_setT (K := e.K) rfl) (by rfl) B.b_set bt_set (pa_cons (pv 2) pa_nil)) pa_nil)) pa_nil)) (pa_cons (pe_fldU (K := e.K) (pv 0)) pa_nil))))) (pg_sub (pe_fldU (K := e.K) (pv 0)) (pv 3) set_list))))), ?_⟩
  walk_at "go"
  refine use_place b (fun i hp H1 s1 => ?_) (fun hp H1 s1 => k2 hp H1 s1)
  obtain ⟨y, hy, en, hy2⟩ := place_at hp
  have b1 := b.same s1
  have hi1 := b1.ins
  obtain ⟨ys, he, hd⟩ := b1.es
  obtain ⟨v, hv, dv⟩ := hd.has hy
  obtain ⟨te, vl, vf, rfl, hte, dl, df⟩ := ent_at dv
  have ai := atI_nn hv
  have iy := ixN_nat (n := ys.length) (i := i) (by rw [hd.len_map]; exact hy2)
  have ht1 := s1 _ _ ht
  clear hi ht
  walk_at "go"
  rename_i H2 i2 f2 q H3 l nq mem ln le m3 hq r fs H4 nr pm so m4 hr r2 H5 n5 m5 h5 r3 H6 n6 m6 h6
  have s26 : Same H2 H6 := ((m3.trans m4).trans m5).trans m6
  have he6 : H6 A' = some (.lst ys) := s26 _ _ (f2.lst he)
  refine r_setL he6 iy (fun H7 h7 k7 => ?_)
  have b2 := b1.fput f2 i2
  have b6 := b2.same s26
  have so1 : SortOf fs ss := ⟨pm.nodup_iff.mpr ln, so, fun z => pm.mem_iff.trans (mem z)⟩
  have g16 : Gro H1 H6 := f2.gro.trans (Gro.same s26)
  have dl6 := dl.mono g16
  have df6 : Dq H6 (.ref r2) (sD fs) := .tup (m6 _ _ h5) (Dqs.strs fs)
  have de : Dq H6 (.ref r3) (entD ⟨n, y.ls, fs, bx.c + 1⟩) := ent_mk h6 dl6 df6
  have d7 : Dqs H7 (ys.set i (.ref r3)) ((bx.es.set i ⟨n, y.ls, fs, bx.c + 1⟩).map entD) := by
    rw [map_setG]
    exact ((hd.mono g16).setAt i de).mono (gro_but he6 k7)
  have b7 := b6.putE h7 k7 d7
  have eq : bx.flag i n fs = { { bx with n := bx.n, c := bx.c + 1 } with es := bx.es.set i ⟨n, y.ls, fs, bx.c + 1⟩ } := by
    unfold Bx.flag
    rw [hy] <;> rfl
  exact k1 i fs hp so1 H7 (by rw [eq]; exact b7) (((Chg.same s1).trans ((f2.chg (by simp)).snd s26)).trans (but_chg k7 he6 (by simp)))
theorem use_set_flags {K : PySem.W.Frag} {p A G t : Addr} {bx : Bx} {n : Int} {ss : List Str} {H : Hp} {Q : VK} {E : XK} (h1 : BxAt K H p A G bx) (h2 : H t = some (.tup (ss.map V.str))) (h3 : ss.length < 64) (k1 : ∀ i fs, placeM bx.es n = some i → SortOf fs ss → ∀ H', BxAt K H' p A G (bx.flag i n fs) → Chg (boxP p A G) (boxP p A G) H H' → Q .non H')
    (k2 : placeM bx.es n = none → ∀ H', Same H H' → E (.ref (He.ga K "NoSuchEntry")) none H') : sp_Box_set_flags K [.ref p, .int n, .ref t] H Q E :=
  ⟨p, A, G, bx, n, t, ss, rfl, rfl, rfl, h1, h2, h3, k1, k2⟩

/-! ### Box.expunge -/
abbrev s_Box_expunge : Stmt := inClass (top 5) 4
abbrev N_Box_expunge : List Str := ["self", "number", "index"]
theorem sc_Box_expunge : FnScope N_Box_expunge ["self", "number"] (defScope s_Box_expunge) := ⟨rfl, rfl, rfl, by decide +kernel, rfl, by decide +kernel, by decide +kernel⟩
theorem bi_Box_expunge : BindQ "expunge" "Box.expunge" s_Box_expunge ["self", "number"] := fun _ _ _ _ _ _ us hl => match us, hl with | [_, _], _ => rfl
def sp_Box_expunge (K : PySem.W.Frag) : Sp := sp2 fun x y H Q E => ∃ p A G bx n, x = .ref p ∧ y = .int n ∧ BxAt K H p A G bx ∧ bx.es.length ≤ 100000 ∧ bx.gs.length ≤ 100000 ∧
  (∀ i, placeM bx.es n = some i → ∀ H', BxAt K H' p A G (bx.cut i n) → Chg (boxP p A G) (boxP p A G) H H' → Q .non H') ∧ (placeM bx.es n = none → ∀ H', Same H H' → E (.ref (He.ga K "NoSuchEntry")) none H')
theorem ok_Box_expunge {e : Wd} (D : MethAt e (He.ga e.K "Box") "expunge" "Box.expunge" s_Box_expunge) (B : Bl e.mg) (kc_Box : Cls e.K (He.ga e.K "Box")) (kc_Copy : Cls e.K (He.ga e.K "Copy")) (kn_Box_change : NoAttr e.K (He.ga e.K "Box") "change") (kn_Box_entries : NoAttr e.K (He.ga e.K "Box") "entries") (kn_Copy_entries : NoAttr e.K (He.ga e.K "Copy") "entries") (kn_Box_gone : NoAttr e.K (He.ga e.K "Box") "gone") (c_Box_place : CanM e 1 (He.ga e.K "Box") "place" ["self", "number"] (sp_Box_place e.K)) : CanM e 2 (He.ga e.K "Box") "expunge" ["self", "number"] (sp_Box_expunge e.K) := by
  refine canMX_of D sc_Box_expunge bi_Box_expunge (fun _ _ _ _ h => sp2_len h) (fun cdv f A outer s H vs Q E hr h tk po => ?_)
  obtain ⟨v0, v1, rfl, h⟩ := sp2_ex h
  have nd := sc_Box_expunge.nd
  obtain ⟨p, A', G, bx, n, rfl, rfl, b, hl, hg, k1, k2⟩ := h
  have hi := b.ins
  refine ⟨_, (pss_cons (ps_set (i := 2) nd rfl (by first | exact Or.inl rfl | exact Or.inr rfl) (pe_canMX tk c_Box_place (hr.mono (by decide)) (pv 0) (pa_cons (pv 1) pa_nil)))
    (pss_cons (ps_fldaugU (K := e.K) (pv 0) pe_int in_add)
    (pss_cons (ps_delL (pe_fldU (K := e.K) (pv 0)) (pv 2))
    (pss_one (ps_expr (pe_bmU (K := e.K) PySem.F.plainAttrs_list PySem.F.slot_list_append PySem.F.type_list_append mt_append (pe_fldU (K := e.K) (pv 0)) (pa_cons (pe_tup (pa_cons (pv 1) (pa_cons (pe_fldU (K := e.K) (pv 0)) pa_nil))) pa_nil))))))), ?_⟩
  walk_at "go"
  refine use_place b (fun i hp H1 s1 => ?_) (fun hp H1 s1 => k2 hp H1 s1)
  obtain ⟨y, hy, en, hy2⟩ := place_at hp
  have b1 := b.same s1
  have hi1 := b1.ins
  obtain ⟨ys, he, hd⟩ := b1.es
  have ly := hd.len_map
  clear hi
  walk_at "go"
  rename_i H2 i2 f2
  have he2 := f2.lst he
  refine r_delv he2 (by omega) (by omega) (fun H3 h3 k3 => ?_)
  have b2 := b1.fput f2 i2
  have g12 := f2.gro
  have d3 : Dqs H3 (ys.eraseIdx i) ((bx.es.eraseIdx i).map entD) := by
    rw [map_eraseG]
    exact ((hd.mono g12).erase i).mono (gro_but he2 k3)
  have b3 := b2.putE h3 k3 d3
  have hi3 := b3.ins
  obtain ⟨zs, hz, dz⟩ := b3.gs
  have lz : zs.length ≤ 100000 := by rw [dz.len_map]; exact hg
  have ch3 := ((Chg.same s1).trans (f2.chg (fp := boxP p A' G) (by simp))).trans (but_chg k3 he2 (by simp))
  clear hi1 i2 f2 h3 k3 he2 b2 s1
  walk_at "go"
  rename_i t H4 n4 m4 h4 H5 h5 k5
  have d5 : Dqs H5 (zs ++ [.ref t]) ((bx.gs ++ [(n, bx.c + 1)]).map gonD) := by
    rw [List.map_append]
    exact ((dz.mono (Gro.same m4)).app (.cons (gon_mk h4) .nil)).mono (gro_but (m4 _ _ hz) k5)
  exact k1 i hp H5 ((b3.same m4).putG h5 k5 d5) ((ch3.snd m4).trans (but_chg k5 (m4 _ _ hz) (by simp)))
theorem use_expunge {K : PySem.W.Frag} {p A G : Addr} {bx : Bx} {n : Int} {H : Hp} {Q : VK} {E : XK} (h1 : BxAt K H p A G bx) (h2 : bx.es.length ≤ 100000) (h3 : bx.gs.length ≤ 100000) (k1 : ∀ i, placeM bx.es n = some i → ∀ H', BxAt K H' p A G (bx.cut i n) → Chg (boxP p A G) (boxP p A G) H H' → Q .non H')
    (k2 : placeM bx.es n = none → ∀ H', Same H H' → E (.ref (He.ga K "NoSuchEntry")) none H') : sp_Box_expunge K [.ref p, .int n] H Q E :=
  ⟨p, A, G, bx, n, rfl, rfl, h1, h2, h3, k1, k2⟩

/-! ### Copy.update -/
abbrev s_Copy_update : Stmt := inClass (top 6) 1
abbrev N_Copy_update : List Str := ["self", "news", "mark", "entries", "gone", "changed", "kept", "entry"]
theorem sc_Copy_update : FnScope N_Copy_update ["self", "news"] (defScope s_Copy_update) := ⟨rfl, rfl, rfl, by decide +kernel, rfl, by decide +kernel, by decide +kernel⟩
theorem bi_Copy_update : BindQ "update" "Copy.update" s_Copy_update ["self", "news"] := fun _ _ _ _ _ _ us hl => match us, hl with | [_, _], _ => rfl
abbrev tabU (K : PySem.W.Frag) : Addr := (He.cT K (("Copy", some "update") : Str × Option Str)).2
abbrev lamU : Str := Str.ofString "Copy.update" ++ ".<locals>." ++ "<lambda>"
def sp_Copy_update (K : PySem.W.Frag) : Sp := sp2 fun x y H Q _ => ∃ c A m o bx mk ns, x = .ref c ∧ CpAt K H c A m o ∧ Dq H y (newsD bx mk ns) ∧ o.length ≤ 100000 ∧ bx.es.length ≤ 100000 ∧ LamX.TabS H (tabU K) lamU ∧
  ∀ H' A' es', es'.Perm (stays o ns ((newsEs bx mk).map (·.n)) ++ newsEs bx mk) → (es'.Pairwise fun x y => x.n ≤ y.n) → CpAt K H' c A' bx.c es' → H A' = none → Chg [c, tabU K] [c, A', tabU K] H H' → LamX.TabS H' (tabU K) lamU → Q .non H'
theorem ok_Copy_update {e : Wd} (D : MethAtL e (He.ga e.K "Copy") "update" "Copy.update" s_Copy_update (He.cT e.K (("Copy", some "update") : Str × Option Str)).1 (He.cT e.K (("Copy", some "update") : Str × Option Str)).2) (B : Bl e.mg) (kc_Box : Cls e.K (He.ga e.K "Box")) (kc_Copy : Cls e.K (He.ga e.K "Copy")) (kn_Box_entries : NoAttr e.K (He.ga e.K "Box") "entries") (kn_Copy_entries : NoAttr e.K (He.ga e.K "Copy") "entries") (kn_Copy_mark : NoAttr e.K (He.ga e.K "Copy") "mark") : CanM e 2 (He.ga e.K "Copy") "update" ["self", "news"] (sp_Copy_update e.K) := by
  refine canML_of D sc_Copy_update bi_Copy_update (fun _ _ _ _ h => sp2_len h) (fun tb f A outer s H vs Q E hr h => ?_)
  obtain ⟨v0, v1, rfl, h⟩ := sp2_ex h
  have nd := sc_Copy_update.nd
  obtain ⟨c, A', m, o, bx, mk, ns, rfl, ca, dn, ho, hb, tab, k⟩ := h
  have hi := ca.ins
  obtain ⟨us, he, hd⟩ := ca.es
  obtain ⟨t, ta, tg, ys, zs, rfl, ht, hta, htg, dy, rfl⟩ := news_at dn
  have lu := hd.len_map
  have ly := dy.len_map
  have ln : (newsEs bx mk).length ≤ bx.es.length := List.length_filter_le _ _
  refine ⟨_, (pss_cons (ps_asg (pv 1) (pg_tupU (K := e.K) (n := 3) rfl (pgs_cons (pg_name (i := 2) nd rfl (by first | exact Or.inl rfl | exact Or.inr rfl)) (pgs_cons (pg_name (i := 3) nd rfl (by first | exact Or.inl rfl | exact Or.inr rfl)) (pgs_cons (pg_name (i := 4) nd rfl (by first | exact Or.inl rfl | exact Or.inr rfl)) pgs_nil)))))
    (pss_cons (ps_set (i := 5) nd rfl (by first | exact Or.inl rfl | exact Or.inr rfl) (pe_lc (own := [("entry", 7)]) (tt := tYes) rfl nd (pi_U (K := e.K) (pv 3)) (blkOk_by (N := N_Copy_update) (sc := defScope s_Copy_update) (by decide +kernel)) (fun _ _ _ _ _ => (pg_name (i := 7) nd rfl (by first | exact Or.inl rfl | exact Or.inr rfl))) (fun _ _ _ _ _ => pts_nil) (fun _ _ _ _ _ => (pe_ix (ix_U (K := e.K)) (pv 7) pe_int (fun _ _ => rfl)))))
    (pss_cons (ps_setLc (i := 6) (own := [("entry", 7)]) rfl nd rfl rfl (sw_true rfl rfl rfl (by decide +kernel)) (pi_U (K := e.K) (pe_fldU (K := e.K) (pv 0))) (blkOk_by (N := N_Copy_update) (sc := defScope s_Copy_update) (by decide +kernel)) (fun _ _ _ _ _ => (pg_name (i := 7) nd rfl (by first | exact Or.inl rfl | exact Or.inr rfl))) (fun _ _ _ _ _ => (pts_one (PW.pt (pw_and (pt_cmpR (op_notInU (K := e.K) hr) (pe_ix (ix_U (K := e.K)) (pv 7) pe_int (fun _ _ => rfl)) (pv 4) rfl) (pw_and1 (pt_cmpR (op_notInU (K := e.K) hr) (pe_ix (ix_U (K := e.K)) (pv 7) pe_int (fun _ _ => rfl)) (pv 5) rfl)))))) (fun _ _ _ _ _ => (pv 7)))
    (pss_cons (ps_fldU (K := e.K) (pv 0) (pe_sortK0 (K := e.K) hr B.b_sorted tb rfl (pa_cons (pe_op (op_addU (K := e.K)) (pv 6) (pe_callTy (call_listU (K := e.K)) (by rfl) B.b_list bt_list (pa_cons (pv 3) pa_nil))) pa_nil)))
    (pss_one (ps_fldU (K := e.K) (pv 0) (pv 2))))))), ?_⟩
  walk_at "go"
  refine lc_T hta (sr_same H) (fun i ds => ds = ((newsEs bx mk).take i).map fun x => PyData.int x.n) (by omega) rfl (hw1 rfl) ?_ ?_
  · intro i x H1 ds Q1 Qn hx s1 rv q1 q2
    obtain ⟨y, hy, dy1⟩ := dy.at_map hx
    obtain ⟨te, vl, vf, rfl, hte, _, _⟩ := ent_at (dy1.mono (Gro.same s1))
    have tk := take_one hy
    refine r_tyes ?_
    walk_at "go"
    refine q1 _ (.int y.n) H1 (Same.refl _) (.int _) ?_
    rw [tk, List.map_append, ← rv] <;> rfl
  · intro q H1 es1 ds nq s1 hq dq rv
    rw [ly, List.take_length] at rv
    have e2 : ds = ((newsEs bx mk).map (·.n)).map PyData.int := by rw [rv, List.map_map] <;> rfl
    subst e2
    rw [dqs_ints dq] at hq
    have hi1 := hi.same s1
    have he1 := s1 _ _ he
    clear hi rv
    walk_at "go"
    have ha1 := s1 _ _ hta
    have hg1 := s1 _ _ htg
    refine lc_L he1 (fun H' s => s _ _ he1) (sr_same H1) (fun i ds => ds = (stays (o.take i) ns ((newsEs bx mk).map (·.n))).map entD) (by omega) rfl (hw1 rfl) ?_ ?_
    · intro i x H2 ds Q1 Qn hx s2 rv q1 q2
      obtain ⟨y, hy, dy1⟩ := hd.at_map hx
      have dy2 := dy1.mono (Gro.same (s1.trans s2))
      obtain ⟨te, vl, vf, rfl, hte, _, _⟩ := ent_at dy2
      have tk := take_one hy
      have st : stays (o.take (i + 1)) ns ((newsEs bx mk).map (·.n)) = stays (o.take i) ns ((newsEs bx mk).map (·.n)) ++ stays [y] ns ((newsEs bx mk).map (·.n)) := by
        unfold stays
        rw [tk, List.filter_append]
      have hq2 := s2 _ _ hq
      have hg2 := s2 _ _ hg1
      walk_at "go"
      have no : (!decide (y.n ∈ ns) && !decide (y.n ∈ (newsEs bx mk).map (·.n))) = false → Qn H2 := fun z => by
        refine q2 H2 (Same.refl _) ?_
        rw [st, rv]
        unfold stays
        rw [List.filter_cons, z] <;> simp
      refine r_iten (fun c1 => ?_) (fun c1 => ?_)
      · walk_at "go"
        refine r_iten (fun c2 => ?_) (fun c2 => ?_)
        · walk_at "go"
          refine q1 _ (entD y) H2 (Same.refl _) dy2 ?_
          rw [st, rv, List.map_append]
          unfold stays
          rw [List.filter_cons, decide_eq_false c1, decide_eq_false c2] <;> rfl
        · exact no (by rw [decide_eq_true c2, Bool.not_true, Bool.and_false])
      · refine r_iteF ?_
        exact no (by rw [decide_eq_true c1, Bool.not_true, Bool.false_and])
    · intro kp H2 ws ds nk s2 hk dk rv
      rw [lu, List.take_length] at rv
      subst rv
      have hi2 := hi1.same s2
      have ha2 := s2 _ _ ha1
      have lk := dk.len_map
      have lw : ws.length ≤ 100000 := by
        have : (stays o ns ((newsEs bx mk).map (·.n))).length ≤ o.length := List.length_filter_le _ _
        omega
      have ly2 : ys.length ≤ 100000 := by omega
      clear hi1
      walk_at "go"
      rename_i le H3 n3 m3 h3 lq H4 n4 m4 h4
      have s4 := ((s1.trans s2).trans m3).trans m4
      have d4 : Dqs H4 (ws ++ ys) ((stays o ns ((newsEs bx mk).map (·.n)) ++ newsEs bx mk).map entD) := by
        rw [List.map_append]
        exact (dk.mono (Gro.same (m3.trans m4))).app (dy.mono (Gro.same s4))
      obtain ⟨z1, z2, z3⟩ := zip_fst d4
      have tab4 := tab.ext s4
      refine ⟨Ent, (·.n), lq, (ws ++ ys).zip (stays o ns ((newsEs bx mk).map (·.n)) ++ newsEs bx mk), rfl, by rw [z1]; exact SqL.of h4, fun x hx => ?_, tab4, fun H5 p es' ts np pm pw => ?_⟩
      · obtain ⟨te, vl, vf, e1, hte, _, _⟩ := ent_at (z3 x hx)
        exact ⟨te, _, e1, hte⟩
      · have ts : TStp (tabU e.K) lamU H4 H5 := ts
        have g5 := ts.gro tab4
        have hi4 := (hi2.same m3).same m4
        have hi5 : Ins H5 c (He.ga e.K "Copy") [("mark", .int m), ("entries", .ref A')] := by
          obtain ⟨dx, q⟩ := hi4
          exact ⟨dx, ts.kp c _ (tab_ne tab4 q fun _ z => by cases z) q⟩
        have s6 := same_new (H := H5) (o := .lst (es'.map (·.1))) np
        have h6 : upd H5 p (.lst (es'.map (·.1))) p = some (.lst (es'.map (·.1))) := upd_same
        generalize upd H5 p (.lst (es'.map (·.1))) = H6 at s6 h6 ⊢
        have hi6 := hi5.same s6
        have d6 : Dqs H6 (es'.map (·.1)) ((es'.map (·.2)).map entD) := of_zip fun x hx => (z3 x (pm.mem_iff.mp hx)).mono (g5.trans (Gro.same s6))
        clear hi5 hi4 hi2
        walk_at "go"
        rename_i H7 i7 f7 H8 i8 f8
        have p1 : (es'.map (·.2)).Perm (stays o ns ((newsEs bx mk).map (·.n)) ++ newsEs bx mk) := by
          have := pm.map (·.2)
          rw [z2] at this
          exact this
        have np0 : H p = none := by
          cases q : H p with
          | none => rfl
          | some u =>
            by_cases eP : p = tabU e.K
            · obtain ⟨ps, w, _⟩ := ts.tab
              rw [← eP, np] at w
              cases w
            · have := ts.kp p u eP (s4 _ _ q)
              rw [np] at this
              cases this
        refine k H8 p (es'.map (·.2)) p1 (List.pairwise_map.mpr pw) ⟨i8, ⟨_, f8.lst (f7.lst h6), (d6.mono f7.gro).mono f8.gro⟩⟩ np0 ⟨fun b u hb n => ?_, fun b hb => ?_, ((((Gro.same s4).trans g5).trans (Gro.same s6)).trans f7.gro).trans f8.gro⟩ (tab_fput (tab_fput (ts.tab.ext s6) f7) f8)
        · have n1 : b ≠ c := fun z => n (by rw [z]; simp)
          have n2 : b ≠ tabU e.K := fun z => n (by rw [z]; simp)
          rw [f8.kp b n1, f7.kp b n1]
          exact s6 _ _ (ts.kp b u n2 (s4 _ _ hb))
        · simp only [List.mem_cons, List.not_mem_nil, or_false] at hb
          rcases hb with rfl | rfl | rfl
          · exact .inl (by simp)
          · exact .inr np0
          · exact .inl (by simp)
theorem use_update {K : PySem.W.Frag} {c A : Addr} {m mk : Int} {o : List Ent} {bx : Bx} {ns : List Int} {y : V} {H : Hp} {Q : VK} {E : XK} (h1 : CpAt K H c A m o) (h2 : Dq H y (newsD bx mk ns)) (h3 : o.length ≤ 100000) (h4 : bx.es.length ≤ 100000) (h5 : LamX.TabS H (tabU K) lamU)
    (k : ∀ H' A' es', es'.Perm (stays o ns ((newsEs bx mk).map (·.n)) ++ newsEs bx mk) → (es'.Pairwise fun x y => x.n ≤ y.n) → CpAt K H' c A' bx.c es' → H A' = none → Chg [c, tabU K] [c, A', tabU K] H H' → LamX.TabS H' (tabU K) lamU → Q .non H') : sp_Copy_update K [.ref c, y] H Q E :=
  ⟨c, A, m, o, bx, mk, ns, rfl, h1, h2, h3, h4, h5, k⟩

/-! ### _law_draw -/
abbrev s_l_draw : Stmt := top 10
abbrev N_l_draw : List Str := ["_law_state", "_law_script", "_law_size", "_law_digit"]
theorem sc_l_draw : FnScope N_l_draw ["_law_state", "_law_script", "_law_size"] (defScope s_l_draw) := ⟨rfl, rfl, rfl, by decide +kernel, rfl, by decide +kernel, by decide +kernel⟩
theorem bi_l_draw : BindOk "_law_draw" s_l_draw ["_law_state", "_law_script", "_law_size"] := fun _ _ _ _ _ _ us hl => match us, hl with | [_, _, _], _ => rfl
def sp_l_draw (K : PySem.W.Frag) : Sp := sp3 fun st sc n H Q _ => ∃ a b m, st = .ref a ∧ sc = .ref b ∧ n = .int m ∧ Drw H a ∧ Scr K H b ∧ (0 < m ∧ m < 1073741824) ∧ ∀ d H', 0 ≤ d → d < m → Stp a H H' → Q (.int d) H'
theorem ok_l_draw {e : Wd} (D : DefAt e "_law_draw" s_l_draw) (B : Bl e.mg) (c_l_refill : Can e 1 "_law_refill" ["_law_script", "_law_k"] (sp_l_refill e.K)) : Can e 2 "_law_draw" ["_law_state", "_law_script", "_law_size"] (sp_l_draw e.K) := by
  refine can_of D sc_l_draw bi_l_draw (fun _ _ _ _ h => sp3_len h) (fun cdv f A outer s H vs Q E hr h => ?_)
  obtain ⟨v0, v1, v2, rfl, h⟩ := sp3_ex h
  have nd := sc_l_draw.nd
  obtain ⟨a, b, m, rfl, rfl, rfl, ⟨x, y, ha⟩, hs, hm, k⟩ := h
  have dr : Drw H a := ⟨x, y, ha⟩
  refine ⟨_, (Evl.pss_cut (ps_if (pt_cmpR (op_eqU (K := e.K) hr) (pe_ix (ix_U (K := e.K)) (pv 0) pe_int (fun _ _ => rfl)) pe_int (nomark _)) (pss_cons (ps_asg (pe_can c_l_refill (hr.mono (by decide)) passL (pa_cons (pv 1) (pa_cons (pe_ix (ix_U (K := e.K)) (pv 0) pe_int (fun _ _ => rfl)) pa_nil))) (pg_sub (pv 0) pe_int set_list))
    (pss_one (ps_asg (pe_op (op_addU (K := e.K)) (pe_ix (ix_U (K := e.K)) (pv 0) pe_int (fun _ _ => rfl)) pe_int) (pg_sub (pv 0) pe_int set_list)))) pss_nil)
    (pss_cons (ps_set (i := 3) nd rfl (by first | exact Or.inl rfl | exact Or.inr rfl) (pe_op op_modU (pe_callTy call_intU (by rfl) B.b_int bt_int (pa_cons (pe_ix (ix_U (K := e.K)) (pv 0) pe_int (fun _ _ => rfl)) pa_nil)) (pv 2)))
    (pss_cons (ps_asg (pe_op op_divU (pe_ix (ix_U (K := e.K)) (pv 0) pe_int (fun _ _ => rfl)) (pv 2)) (pg_sub (pv 0) pe_int set_list))
    (pss_one (ps_ret (pv 3)))))), ?_⟩
  walk_at "go"
  refine r_cut (fun σ' H' => ∃ x y : Int, σ' = [some (.ref a), some (.ref b), some (.int m), none] ∧ Stp a H H' ∧ H' a = some (.lst [.int x, .int y])) ?_ ?_
  · walk_at "go"
    refine r_ite (fun _ => ?_) (fun _ => ?_)
    · walk_at "go"
      refine ⟨b, x, rfl, rfl, hs, fun d => ?_⟩
      walk_at "go"
      rename_i H1 hp1 kp1 H2 hp2 kp2
      exact ⟨x + 1, d, rfl, ((Stp.refl dr).but hp1 kp1).but hp2 kp2, hp2⟩
    · walk_at "go"
      exact ⟨x, y, rfl, Stp.refl dr, ha⟩
  · rintro σ' H' ⟨x, y, rfl, s1, h1⟩
    walk_at "go"
    rename_i H2 hp2 kp2
    exact k _ _ (Int.emod_nonneg _ (by omega)) (Int.emod_lt_of_pos _ hm.1) (s1.but hp2 kp2)
theorem use_draw {K : PySem.W.Frag} {a b : Addr} {m : Int} {H : Hp} {Q : VK} {E : XK} (h1 : Drw H a) (h2 : Scr K H b) (h3 : 0 < m) (h4 : m < 1073741824) (k : ∀ d H', 0 ≤ d → d < m → Stp a H H' → Q (.int d) H') : sp_l_draw K [.ref a, .ref b, .int m] H Q E :=
  ⟨a, b, m, rfl, rfl, rfl, h1, h2, ⟨h3, h4⟩, k⟩
local macro_rules | `(tactic| walk_at "call") => `(tactic| ((with_reducible refine' use_draw ?h1 ?h2 ?h3 ?h4 ?_); (case h1 => walk_at "hp"); (case h2 => walk_at "hp"); (case h3 => walk_at "nat"); (case h4 => walk_at "nat"); intro d H' d0 d1 st))

/-! ### law -/
abbrev s_law : Stmt := top 13
abbrev N_law : List Str := ["_law_script", "_law_state", "_law_box", "_law_copies", "_law_kept", "_law_k", "_law_kind", "_law_numbers", "_law_which", "_law_news", "_law_entry"]
theorem sc_law : FnScope N_law ["_law_script"] (defScope s_law) := ⟨rfl, rfl, rfl, by decide +kernel, rfl, by decide +kernel, by decide +kernel⟩
theorem bi_law : BindOk "law" s_law ["_law_script"] := fun _ _ _ _ _ _ us hl => match us, hl with | [_], _ => rfl
def sp_law (K : PySem.W.Frag) : Sp := sp1 fun x H Q _ => ∃ b, x = .ref b ∧ Scr K H b ∧ LamX.TabS H (tabU K) lamU ∧ ∀ H', Q (.bl true) H'
abbrev WL (K : PySem.W.Frag) (a b p A G cl kl : Addr) (bx : Bx) (N : Nat) (x y : Cpy) (H : Hp) : Prop := WK K (tabU K) lamU a b p A G cl kl [.ref x.c, .ref y.c] [.ref x.k, .ref y.k] bx N x y H
/-- the variables between the turns -/
def SC (K : PySem.W.Frag) (a b p A G cl kl : Addr) (N : Nat) (σ : L2.St) (H : Hp) : Prop := ∃ bx x y x5 x6 x7 x8 x9 x10, σ = [some (.ref b), some (.ref a), some (.ref p), some (.ref cl), some (.ref kl), x5, x6, x7, x8, x9, x10] ∧ WL K a b p A G cl kl bx N x y H ∧ x.ko = x.o ∧ y.ko = y.o
theorem ok_law {e : Wd} {f0 : Addr} {fd : FuncData} (D : FunD e.K "law" "law" (defArgs s_law) (defBody s_law) (defScope s_law) [] [] f0 fd) (B : Bl e.mg) (kc_Box : Cls e.K (He.ga e.K "Box")) (kc_Copy : Cls e.K (He.ga e.K "Copy")) (kn_Box_entries : NoAttr e.K (He.ga e.K "Box") "entries") (kn_Copy_entries : NoAttr e.K (He.ga e.K "Copy") "entries") (kn_Copy_mark : NoAttr e.K (He.ga e.K "Copy") "mark") (kn_Box_change : NoAttr e.K (He.ga e.K "Box") "change") (c_Box___init__ : CanN e 1 (He.ga e.K "Box") "Box" ["self"] (sp_Box___init__ e.K)) (c_Copy___init__ : CanN e 1 (He.ga e.K "Copy") "Copy" ["self"] (sp_Copy___init__ e.K)) (c_l_draw : Can e 2 "_law_draw" ["_law_state", "_law_script", "_law_size"] (sp_l_draw e.K)) (c_Box_deliver : CanM e 1 (He.ga e.K "Box") "deliver" ["self", "lines"] (sp_Box_deliver e.K)) (c_Box_set_flags : CanM e 2 (He.ga e.K "Box") "set_flags" ["self", "number", "flags"] (sp_Box_set_flags e.K)) (c_Box_expunge : CanM e 2 (He.ga e.K "Box") "expunge" ["self", "number"] (sp_Box_expunge e.K)) (c_Box_news : CanM e 1 (He.ga e.K "Box") "news" ["self", "mark"] (sp_Box_news e.K)) (c_Copy_update : CanM e 2 (He.ga e.K "Copy") "update" ["self", "news"] (sp_Copy_update e.K)) : FnOk e.P e.w e.K e.mg e.base (L2.CX e.P e.w) 3 f0 fd ["_law_script"] (sp_law e.K) := by
  refine fnok_of D sc_law (fun _ _ _ _ h => sp1_len h) (fun cdv f A outer s H vs Q E hr h => ?_)
  obtain ⟨v0, rfl, h⟩ := sp1_ex h
  have nd := sc_law.nd
  obtain ⟨b, rfl, hs, tab, k⟩ := h
  refine ⟨_, (pss_cons (ps_set (i := 1) nd rfl (by first | exact Or.inl rfl | exact Or.inr rfl) (pe_lst (pa_cons pe_int (pa_cons pe_int pa_nil))))
    (pss_cons (ps_set (i := 2) nd rfl (by first | exact Or.inl rfl | exact Or.inr rfl) (pe_canN0 c_Box___init__ (hr.mono (by decide)) passL))
    (pss_cons (ps_set (i := 3) nd rfl (by first | exact Or.inl rfl | exact Or.inr rfl) (pe_lst (pa_cons (pe_canN0 c_Copy___init__ (hr.mono (by decide)) passL) (pa_cons (pe_canN0 c_Copy___init__ (hr.mono (by decide)) passL) pa_nil))))
    (pss_cons (ps_set (i := 4) nd rfl (by first | exact Or.inl rfl | exact Or.inr rfl) (pe_lst (pa_cons (pe_lst pa_nil) (pa_cons (pe_lst pa_nil) pa_nil))))
    (pss_cons (ps_if (PW.pt (pw_or (pt_cmpR (op_neU (K := e.K) hr) (pe_fldU (K := e.K) (pe_ix (ix_U (K := e.K)) (pv 3) pe_int (fun _ _ => rfl))) (pe_lst pa_nil) (nomark _)) (pw_or1 (pt_cmpR (op_neU (K := e.K) hr) (pe_fldU (K := e.K) (pe_ix (ix_U (K := e.K)) (pv 3) pe_int (fun _ _ => rfl))) pe_int (nomark _))))) (pss_one (ps_ret pe_bl)) pss_nil)
    (pss_cons (ps_for PassesOwn.never rfl (pi_range1 rfl B.b_range (pa_cons (pe_can c_l_draw (hr.mono (by decide)) passL (pa_cons (pv 1) (pa_cons (pv 0) (pa_cons pe_int pa_nil)))) pa_nil)) (pg_name (i := 5) nd rfl (by first | exact Or.inl rfl | exact Or.inr rfl)) (pss_cons (ps_set (i := 6) nd rfl (by first | exact Or.inl rfl | exact Or.inr rfl) (pe_can c_l_draw (hr.mono (by decide)) passL (pa_cons (pv 1) (pa_cons (pv 0) (pa_cons pe_int pa_nil)))))
    (pss_cons (ps_setLc (i := 7) (own := [("_law_entry", 10)]) (tt := tYes) rfl nd rfl rfl (sw_true rfl rfl rfl (by decide +kernel)) (pi_U (K := e.K) (pe_fldU (K := e.K) (pv 2))) (blkOk_by (N := N_law) (sc := defScope s_law) (by decide +kernel)) (fun _ _ _ _ _ => (pg_name (i := 10) nd rfl (by first | exact Or.inl rfl | exact Or.inr rfl))) (fun _ _ _ _ _ => pts_nil) (fun _ _ _ _ _ => (pe_ix (ix_U (K := e.K)) (pv 10) pe_int (fun _ _ => rfl))))
    (Evl.pss_cut (ps_if (PW.pt (pw_or (pt_cmpR op_leU (pv 6) pe_int (nomark _)) (pw_or1 (pt_not (pt_tru (K := e.K) (pv 7)))))) (pss_one (ps_expr (pe_canM c_Box_deliver (hr.mono (by decide)) passL (pv 2) (pa_cons (pe_tup (pa_cons (pe_op (op_addU (K := e.K)) pe_str (pe_callTy call_strU (by rfl) B.b_str bt_str (pa_cons (pv 5) pa_nil))) pa_nil)) pa_nil)))) (pss_one (ps_if (pt_cmpR (op_eqU (K := e.K) hr) (pv 6) pe_int (nomark _)) (pss_one (ps_expr (pe_canM c_Box_set_flags (hr.mono (by decide)) passL (pv 2) (pa_cons (pe_ix (ix_U (K := e.K)) (pv 7) (pe_can c_l_draw (hr.mono (by decide)) passL (pa_cons (pv 1) (pa_cons (pv 0) (pa_cons (pe_callB (call_lenU (K := e.K)) (by rfl) B.b_len bt_len (pa_cons (pv 7) pa_nil)) pa_nil)))) (fun _ _ => rfl)) (pa_cons (pe_tup (pa_cons (pe_op (op_addU (K := e.K)) pe_str (pe_ix (ix_U (K := e.K)) pe_str (pe_can c_l_draw (hr.mono (by decide)) passL (pa_cons (pv 1) (pa_cons (pv 0) (pa_cons pe_int pa_nil)))) (fun _ _ => rfl))) pa_nil)) pa_nil))))) (pss_one (ps_if (pt_cmpR (op_eqU (K := e.K) hr) (pv 6) pe_int (nomark _)) (pss_one (ps_expr (pe_canM c_Box_expunge (hr.mono (by decide)) passL (pv 2) (pa_cons (pe_ix (ix_U (K := e.K)) (pv 7) (pe_can c_l_draw (hr.mono (by decide)) passL (pa_cons (pv 1) (pa_cons (pv 0) (pa_cons (pe_callB (call_lenU (K := e.K)) (by rfl) B.b_len bt_len (pa_cons (pv 7) pa_nil)) pa_nil)))) (fun _ _ => rfl)) pa_nil)))) (pss_cons (ps_set (i := 8) nd rfl (by first | exact Or.inl rfl | exact Or.inr rfl) (pe_can c_l_draw (hr.mono (by decide)) passL (pa_cons (pv 1) (pa_cons (pv 0) (pa_cons pe_int pa_nil)))))
    (pss_cons (ps_set (i := 9) nd rfl (by first | exact Or.inl rfl | exact Or.inr rfl) (pe_canM c_Box_news (hr.mono (by decide)) passL (pv 2) (pa_cons (pe_fldU (K := e.K) (pe_ix (ix_U (K := e.K)) (pv 3) (pv 8) (fun _ _ => rfl))) pa_nil)))
    (pss_cons (ps_expr (pe_canM c_Copy_update (hr.mono (by decide)) passL (pe_ix (ix_U (K := e.K)) (pv 3) (pv 8) (fun _ _ => rfl)) (pa_cons (pv 9) pa_nil)))
    (Evl.pss_cut (ps_if (pt_cmpR (op_eqU (K := e.K) hr) (pe_can c_l_draw (hr.mono (by decide)) passL (pa_cons (pv 1) (pa_cons (pv 0) (pa_cons pe_int pa_nil)))) pe_int (nomark _)) (pss_one (ps_expr (pe_canM c_Copy_update (hr.mono (by decide)) passL (pe_ix (ix_U (K := e.K)) (pv 3) (pv 8) (fun _ _ => rfl)) (pa_cons (pv 9) pa_nil)))) pss_nil)
    (pss_cons (ps_asg (pe_callTy (call_listU (K := e.K)) (by rfl) B.b_list bt_list (pa_cons (pe_fldU (K := e.K) (pv 2)) pa_nil)) (pg_sub (pv 4) (pv 8) set_list))
    (pss_one (ps_if (PW.pt (pw_or (pt_cmpR (op_neU (K := e.K) hr) (pe_fldU (K := e.K) (pe_ix (ix_U (K := e.K)) (pv 3) (pv 8) (fun _ _ => rfl))) (pe_fldU (K := e.K) (pv 2)) (nomark _)) (pw_or1 (pt_not (pt_tru (K := e.K) (pe_callB (call_isiU (K := e.K)) (by rfl) B.b_isinstance bt_isinstance (pa_cons (pe_fldU (K := e.K) (pe_ix (ix_U (K := e.K)) (pv 3) (pv 8) (fun _ _ => rfl))) (pa_cons (pe_bltn (v := .ty "list") (by rfl) B.b_list bt_list rfl) pa_nil)))))))) (pss_one (ps_ret pe_bl)) pss_nil))))))))))))
    (pss_one (ps_if (PW.pt (pw_or (pt_cmpR (op_neU (K := e.K) hr) (pe_fldU (K := e.K) (pe_ix (ix_U (K := e.K)) (pv 3) pe_int (fun _ _ => rfl))) (pe_ix (ix_U (K := e.K)) (pv 4) pe_int (fun _ _ => rfl)) (nomark _)) (pw_or1 (pt_cmpR (op_neU (K := e.K) hr) (pe_fldU (K := e.K) (pe_ix (ix_U (K := e.K)) (pv 3) pe_int (fun _ _ => rfl))) (pe_ix (ix_U (K := e.K)) (pv 4) pe_int (fun _ _ => rfl)) (nomark _))))) (pss_one (ps_ret pe_bl)) pss_nil))))))
    (pss_cons (ps_for PassesOwn.never rfl (pi_range1 rfl B.b_range (pa_cons pe_int pa_nil)) (pg_name (i := 8) nd rfl (by first | exact Or.inl rfl | exact Or.inr rfl)) (pss_cons (ps_expr (pe_canM c_Copy_update (hr.mono (by decide)) passL (pe_ix (ix_U (K := e.K)) (pv 3) (pv 8) (fun _ _ => rfl)) (pa_cons (pe_canM c_Box_news (hr.mono (by decide)) passL (pv 2) (pa_cons (pe_fldU (K := e.K) (pe_ix (ix_U (K := e.K)) (pv 3) (pv 8) (fun _ _ => rfl))) pa_nil)) pa_nil)))
    (pss_one (ps_if (PW.pt (pw_or (pt_cmpR (op_neU (K := e.K) hr) (pe_fldU (K := e.K) (pe_ix (ix_U (K := e.K)) (pv 3) (pv 8) (fun _ _ => rfl))) (pe_fldU (K := e.K) (pv 2)) (nomark _)) (pw_or1 (pt_cmpR (op_neU (K := e.K) hr) (pe_fldU (K := e.K) (pe_ix (ix_U (K := e.K)) (pv 3) (pv 8) (fun _ _ => rfl))) (pe_fldU (K := e.K) (pv 2)) (nomark _))))) (pss_one (ps_ret pe_bl)) pss_nil))))
    (pss_one (ps_ret (pe_cmpR (op_eqU (K := e.K) hr) (pe_fldU (K := e.K) (pe_ix (ix_U (K := e.K)) (pv 3) pe_int (fun _ _ => rfl))) (pe_fldU (K := e.K) (pe_ix (ix_U (K := e.K)) (pv 3) pe_int (fun _ _ => rfl))) (nomark _))))))))))), ?_⟩
  walk_at "go"
  rename_i a H1 n1 m1 h1 p A1 G1 H2 np nA nG m2 b2 c0 E0 H3 nc0 nE0 m3 k3 c1 E1 H4 nc1 nE1 m4 k4 cl H5 n5 m5 h5 q0 H6 n6 m6 h6 q1 H7 n7 m7 h7 kl H8 n8 m8 h8
  have w8 : WL e.K a b p A1 G1 cl kl ⟨0, 0, [], []⟩ 0 ⟨c0, E0, q0, 0, [], []⟩ ⟨c1, E1, q1, 0, [], []⟩ H8 := by
    have s28 := (((((m3.trans m4).trans m5).trans m6).trans m7).trans m8)
    have s48 := (((m5.trans m6).trans m7).trans m8)
    have s18 := m2.trans s28
    have l1 := (Lv.nil H).add n1 m1 h1
    obtain ⟨dx, e1⟩ := b2.ins
    obtain ⟨_, e2, _⟩ := b2.es
    obtain ⟨_, e3, _⟩ := b2.gs
    have l2 := l1.add3 np nA nG b2.pE b2.pG b2.ne m2 e1 e2 e3
    obtain ⟨dx3, e4⟩ := k3.ins
    obtain ⟨_, e5, _⟩ := k3.es
    have l3 := l2.add2 nc0 nE0 (ins_ne k3.ins e5) m3 e4 e5
    obtain ⟨dx4, e6⟩ := k4.ins
    obtain ⟨_, e7, _⟩ := k4.es
    have l4 := l3.add2 nc1 nE1 (ins_ne k4.ins e7) m4 e6 e7
    have l8 := (((l4.add n5 m5 h5).add n6 m6 h6).add n7 m7 h7).add n8 m8 h8
    have r0 : Rel [] 0 ⟨0, 0, [], []⟩ := ⟨(fun _ h => absurd h List.not_mem_nil), (fun _ h => absurd h List.not_mem_nil), Int.le_refl _, List.Pairwise.nil⟩
    exact ⟨⟨0, 0, s18 _ _ h1⟩, hs.mono (Gro.same (m1.trans s18)), b2.same s28, InvB.zero, InvC.zero, (m6.trans (m7.trans m8)) _ _ h5, h8, (k3.same m4).same s48, ⟨[], (m7.trans m8) _ _ h6, .nil⟩, r0, Nat.le_refl _, (fun _ h => absurd h List.not_mem_nil),
      k4.same s48, ⟨[], m8 _ _ h7, .nil⟩, r0, Nat.le_refl _, (fun _ h => absurd h List.not_mem_nil), tab.ext (m1.trans s18), perm12 l8.nd⟩
  clear hs tab n1 m1 h1 np nA nG m2 b2 nc0 nE0 m3 k3 nc1 nE1 m4 k4 n5 m5 h5 n6 m6 h6 n7 m7 h7 n8 m8 h8
  have hc8 := w8.hc
  have ci8 := w8.cx.ins
  obtain ⟨ys8, ce8, cd8⟩ := w8.cx.es
  cases cd8
  walk_at "go"
  rename_i t1 H9 n9 m9 h9
  refine r_neLay (d := .list []) (n := 1) (.lst (SqL.of (m9 _ _ ce8)) .nil) (.lst (SqL.of h9) .nil) (Lay.lst fun _ h => absurd h List.not_mem_nil) (by omega) ?_
  have w9 := w8.same m9
  have hc9 := w9.hc
  have ci9 := w9.cx.ins
  have dr9 := w9.dr
  have sc9 := w9.sc
  clear hc8 ci8 ce8 m9 n9 h9 w8
  walk_at "go"
  refine r_iten (fun c => absurd rfl c) (fun _ => ?_)
  clear hc9 ci9
  walk_at "go"
  rename_i nn H10 o0 o1 st10
  have w10 := w9.stp st10
  clear dr9 sc9 st10 w9
  refine for_rng (fun i σ' H' => SC e.K a b p A1 G1 cl kl i σ' H') (by omega) (by omega) ⟨_, _, _, _, _, _, _, _, _, rfl, w10, rfl, rfl⟩ ?_ ?_
  · rintro i σ' H1 hi ⟨bx, x, y, x5, x6, x7, x8, x9, x10, rfl, w, kx, ky⟩
    have dr := w.dr
    have sc := w.sc
    have iv := w.iv
    have i25 : i ≤ 24 := by omega
    walk_at "go"
    rename_i kd H2 k0 k1 st2
    have w2 := w.stp st2
    clear dr sc st2 w
    have bi2 := w2.bb.ins
    obtain ⟨us, he, hd⟩ := w2.bb.es
    have lu := hd.len_map
    have le := iv.le
    walk_at "go"
    refine lc_L he (fun H' s => s _ _ he) (sr_same H2) (fun i ds => ds = (bx.es.take i).map fun x => PyData.int x.n) (by omega) rfl (hw1 rfl) ?_ ?_
    · intro j z H3 ds Q1 Qn hz s3 rv r1 r2
      obtain ⟨v, hv, dv⟩ := hd.at_map hz
      obtain ⟨te, vl, vf, rfl, hte, _, _⟩ := ent_at (dv.mono (Gro.same s3))
      have tk := take_one hv
      refine r_tyes ?_
      walk_at "go"
      refine r1 _ (.int v.n) H3 (Same.refl _) (.int _) ?_
      rw [tk, List.map_append, ← rv] <;> rfl
    · intro nl H3 es1 ds nq s3 hq dq rv
      rw [lu, List.take_length] at rv
      have e2 : ds = (bx.es.map (·.n)).map PyData.int := by rw [rv, List.map_map] <;> rfl
      subst e2
      rw [dqs_ints dq] at hq
      have w3 := w2.same s3
      obtain ⟨vs, evs⟩ : ∃ vs, vs = (bx.es.map (·.n)).map V.int := ⟨_, rfl⟩
      have vl : vs.length = bx.es.length := by rw [evs, List.length_map, List.length_map]
      have vv : ∀ (j : Nat) v, vs[j]? = some v → ∃ y, bx.es[j]? = some y ∧ v = .int y.n := fun j v hv => by
        rw [evs] at hv
        obtain ⟨n, hn, e1⟩ := get_mapG hv
        obtain ⟨y, hy, e3⟩ := get_mapG hn
        exact ⟨y, hy, by rw [← e1, ← e3]⟩
      rw [← evs] at hq
      have nl_a : nl ≠ a := ne_drw w2.dr nq
      clear bi2 he hd lu w2 s3 dq rv nq evs
      have bi3 := w3.bb.ins
      have dr3 := w3.dr
      have sc3 := w3.sc
      refine r_cut (fun σ' H' => ∃ bx x y x8 x9, σ' = [some (.ref b), some (.ref a), some (.ref p), some (.ref cl), some (.ref kl), some (.int i), some (.int kd), some (.ref nl), x8, x9, x10] ∧ WL e.K a b p A1 G1 cl kl bx (i + 1) x y H' ∧ x.ko = x.o ∧ y.ko = y.o) ?_ ?_
      · walk_at "go"
        have lg : (i : Int).natAbs.log2 < 1920 := Nat.lt_of_le_of_lt (Nat.log2_le_self _) (by omega)
        have l5 : (Str.ofString "line ").length = 5 := by decide +kernel
        have l2 : (Str.ofString (toString (i : Int))).length ≤ 2 := num_len ⟨i, by omega⟩
        refine r_ite (fun c => ?_) (fun c => ?_)
        · walk_at "go"
          rename_i t H4 n4 m4 h4
          refine use_deliver (ls := [Str.ofString "line " ++ Str.ofString (toString (i : Int))]) (w3.bb.same m4) h4 (by omega) (fun H5 b5 c5 => ?_)
          have ok : ∀ z ∈ [Str.ofString "line " ++ Str.ofString (toString (i : Int))], Asc z := fun z hz => by
            rw [List.mem_singleton.mp hz]
            exact line_asc.app (num_asc ⟨i, by omega⟩)
          walk_at "go"
          exact ⟨_, x, y, _, _, rfl, (w3.same m4).box c5 b5 (iv.dlv ok) (w3.ic.dlv iv _) (w3.rx.dlv _) (w3.ry.dlv _) (Nat.le_succ _), kx, ky⟩
        · walk_at "go"
          by_cases ez : bx.es = []
          · refine r_dnT (by rw [List.isEmpty_iff]; exact List.eq_nil_of_length_eq_zero (by rw [vl, ez] <;> rfl)) ?_
            walk_at "go"
            rename_i t H4 n4 m4 h4
            refine use_deliver (ls := [Str.ofString "line " ++ Str.ofString (toString (i : Int))]) (w3.bb.same m4) h4 (by omega) (fun H5 b5 c5 => ?_)
            have ok : ∀ z ∈ [Str.ofString "line " ++ Str.ofString (toString (i : Int))], Asc z := fun z hz => by
              rw [List.mem_singleton.mp hz]
              exact line_asc.app (num_asc ⟨i, by omega⟩)
            walk_at "go"
            exact ⟨_, x, y, _, _, rfl, (w3.same m4).box c5 b5 (iv.dlv ok) (w3.ic.dlv iv _) (w3.rx.dlv _) (w3.ry.dlv _) (Nat.le_succ _), kx, ky⟩
          · have pos : 0 < bx.es.length := List.length_pos_iff.mpr ez
            refine r_dnF (by rw [List.isEmpty_eq_false_iff]; exact fun z => by rw [z] at vl; rw [← vl] at pos; exact absurd pos (Nat.lt_irrefl _)) ?_
            walk_at "go"
            refine r_ite (fun c2 => ?_) (fun c2 => ?_)
            · have vp : 0 < (vs.length : Int) := by omega
              have vm : (vs.length : Int) < 1073741824 := by omega
              iterate 19 (walk_at "s")
              have nna : nl ≠ a := fun z => nl_a z
              refine use_draw dr3 sc3 vp vm (fun d H4 d0 d1 st4 => ?_)
              obtain ⟨v, hv, hm⟩ := atI_get (xs := vs) d0 d1
              obtain ⟨j, hj⟩ := List.getElem?_of_mem hm
              obtain ⟨y0, hy0, rfl⟩ := vv j v hj
              have w4 := w3.stp st4
              have bi4 := w4.bb.ins
              have dr4 := w4.dr
              have sc4 := w4.sc
              clear bi3 dr3 sc3
              refine r_ixL (SqL.of (st4.at_ hq nna)) hv ?_
              iterate 14 (walk_at "s")
              refine use_draw dr4 sc4 (by omega) (by omega) (fun d2 H5 d20 d21 st5 => ?_)
              refine r_ixAB d20 d21 (fun cc hcc => ?_)
              have w5 := w4.stp st5
              have bi5 := w5.bb.ins
              have l1 : (Str.ofString "f").length = 1 := by decide +kernel
              have fa := fl_asc cc hcc
              have l2 : (Str.mk #[cc]).length = 1 := rfl
              generalize Str.mk #[cc] = zc at fa l2 ⊢
              clear bi4 dr4 sc4
              walk_at "go"
              rename_i t H6 n6 m6 h6
              refine use_set_flags (ss := [Str.ofString "f" ++ zc]) (w5.bb.same m6) h6 (show 1 < 64 by decide) (fun j fs hp so H7 b7 c7 => ?_) (fun hp => ?_)
              · have okf : ∀ z ∈ fs, Asc z := fun z hz => by
                  have := (so.mem z).mp hz
                  rw [List.mem_singleton.mp this]
                  exact fa
                walk_at "go"
                exact ⟨_, x, y, _, _, rfl, (w5.same m6).box c7 b7 (iv.flag hp okf) (w3.ic.flag hp fs) (w3.rx.flag hp fs) (w3.ry.flag hp fs) (Nat.le_succ _), kx, ky⟩
              · exact absurd rfl (place_not hp y0 (List.mem_of_getElem? hy0))
            · walk_at "go"
              refine r_ite (fun c3 => ?_) (fun c3 => ?_)
              · have vp : 0 < (vs.length : Int) := by omega
                have vm : (vs.length : Int) < 1073741824 := by omega
                iterate 19 (walk_at "s")
                refine use_draw dr3 sc3 vp vm (fun d H4 d0 d1 st4 => ?_)
                obtain ⟨v, hv, hm⟩ := atI_get (xs := vs) d0 d1
                obtain ⟨j, hj⟩ := List.getElem?_of_mem hm
                obtain ⟨y0, hy0, rfl⟩ := vv j v hj
                have w4 := w3.stp st4
                refine r_ixL (SqL.of (st4.at_ hq nl_a)) hv ?_
                walk_at "go"
                refine use_expunge w4.bb (by omega) (by have := iv.lg; omega) (fun j hp H7 b7 c7 => ?_) (fun hp => ?_)
                · walk_at "go"
                  exact ⟨_, x, y, _, _, rfl, w4.box c7 b7 (iv.cut j _) (w3.ic.cut iv hp) (w3.rx.cut hp) (w3.ry.cut hp) (Nat.le_succ _), kx, ky⟩
                · exact absurd rfl (place_not hp y0 (List.mem_of_getElem? hy0))
              · walk_at "go"
                rename_i wh H4 d0 d1 st4
                obtain ⟨n, cs, ks, x', y', rfl, n2, kl2, w4, hcx, kx4, ky4, back⟩ := (w3.stp st4).sel d0 d1 kx ky
                have hc4 := w4.hc
                have ci4 := w4.cx.ins
                have bi4 := w4.bb.ins
                have lg2 := iv.lg
                have ic := w4.ic
                have rx := w4.rx
                clear bi3 dr3 sc3 st4 hq vv vl w3 kx ky lg l5 l2
                refine r_ixL (SqL.of hc4) hcx ?_
                walk_at "go"
                refine use_news w4.bb (by omega) (by omega) (fun v H5 ns s5 pm pw dn => ?_)
                have w5 := w4.same s5
                have hc5 := w5.hc
                have ci5 := w5.cx.ins
                have lx5 := w5.lx
                clear hc4 ci4 bi4 w4 s5
                walk_at "go"
                refine use_update w5.cx dn (by omega) (by omega) w5.tb (fun H6 E6 es6 pm6 pw6 c6 nE6 ch6 tb6 => ?_)
                have e6 : es6 = bx.es := upd_law w5.rx iv ic pm pm6 pw6
                subst e6
                have w6 := w5.upd ch6 c6 nE6 tb6 (Rel.all iv.asc (Int.le_refl _)) le iv.ok
                have dn6 := dn.mono ch6.gro
                have dr6 := w6.dr
                have sc6 := w6.sc
                clear hc5 ci5 w5 dn pm6 pw6 c6 nE6 ch6 tb6
                walk_at "go"
                refine r_cut (fun σ' H' => ∃ E7, σ' = [some (.ref b), some (.ref a), some (.ref p), some (.ref cl), some (.ref kl), some (.int i), some (.int kd), some (.ref nl), some (.int n), some v, x10] ∧ WK e.K (tabU e.K) lamU a b p A1 G1 cl kl cs ks bx i ⟨x'.c, E7, x'.k, bx.c, bx.es, x'.ko⟩ y' H') ?_ ?_
                · walk_at "go"
                  rename_i d3 H7 d30 d31 st7
                  have w7 := w6.stp st7
                  have dn7 := dn6.mono st7.gro
                  have hc7 := w7.hc
                  have ci7 := w7.cx.ins
                  clear w6 dn6 dr6 sc6 st7
                  refine r_ite (fun c4 => ?_) (fun c4 => ?_)
                  · walk_at "go"
                    refine use_update w7.cx dn7 (by have := w7.lx; omega) (by omega) w7.tb (fun H8 E8 es8 pm8 pw8 c8 nE8 ch8 tb8 => ?_)
                    have e8 : es8 = bx.es := upd_law (Rel.all iv.asc rx.le) iv ic pm pm8 pw8
                    rw [e8] at c8
                    walk_at "go"
                    exact ⟨_, rfl, w7.upd ch8 c8 nE8 tb8 (Rel.all iv.asc (Int.le_refl _)) le iv.ok⟩
                  · walk_at "go"
                    exact ⟨_, rfl, w7⟩
                · rintro σ' H7 ⟨E7, rfl, w7⟩
                  have bi7 := w7.bb.ins
                  obtain ⟨us7, he7, hd7⟩ := w7.bb.es
                  have hk7 := w7.hk
                  walk_at "go"
                  rename_i k8 H8 n8 m8 h8
                  have iy := ixN_nat (n := ks.length) (i := n) (by omega)
                  refine r_setL (m8 _ _ hk7) iy (fun H9 h9 k9 => ?_)
                  have w9 := w7.kput n8 m8 ⟨us7, h8, hd7.mono (Gro.same m8)⟩ h9 k9
                  have hc9 := w9.hc
                  have ci9 := w9.cx.ins
                  have bi9 := w9.bb.ins
                  obtain ⟨ux, hE9, _⟩ := w9.cx.es
                  clear w6 w7 bi7 he7 hd7 hk7 m8 h8 h9 k9 dr6 sc6
                  walk_at "go"
                  refine r_iten (fun c => absurd rfl c) (fun _ => ?_)
                  walk_at "go"
                  obtain ⟨X, Y, wX, k1, k2⟩ := back bx i ⟨x'.c, E7, k8, bx.c, bx.es, bx.es⟩ H9 rfl w9 rfl
                  exact ⟨bx, X, Y, _, _, rfl, wX.box (Chg.refl _ _) wX.bb (iv.le' (Nat.le_succ _)) wX.ic wX.rx wX.ry (Nat.le_succ _), k1, k2⟩
      · rintro σ' H4 ⟨bx, x, y, x8, x9, rfl, w4, kx, ky⟩
        have hc4 := w4.hc
        have hk4 := w4.hk
        have cx4 := w4.cx.ins
        have cy4 := w4.cy.ins
        walk_at "go"
        refine r_neC w4.cx.es w4.kx kx w4.ox ?_
        walk_at "go"
        refine r_neC w4.cy.es w4.ky ky w4.oy ?_
        walk_at "go"
        exact ⟨bx, x, y, _, _, _, _, _, _, rfl, w4, kx, ky⟩
  · rintro σ' H1 ⟨bx, x, y, x5, x6, x7, x8, x9, x10, rfl, w, kx, ky⟩
    have iv := w.iv
    walk_at "go"
    refine for_rng (fun i σ' H' => ∃ x y x8, σ' = [some (.ref b), some (.ref a), some (.ref p), some (.ref cl), some (.ref kl), x5, x6, x7, x8, x9, x10] ∧ WL e.K a b p A1 G1 cl kl bx nn.toNat x y H' ∧ (1 ≤ i → x.o = bx.es) ∧ (2 ≤ i → y.o = bx.es)) (by omega) (by omega) ⟨x, y, x8, rfl, w, fun h => absurd h (by omega), fun h => absurd h (by omega)⟩ ?_ ?_
    · rintro i σ' H2 hi ⟨x, y, x8, rfl, w2, ex, ey⟩
      have le := iv.le
      have lg2 := iv.lg
      have i2 : i = 0 ∨ i = 1 := by omega
      have hc2 := w2.hc
      have bi2 := w2.bb.ins
      have cx2 := w2.cx.ins
      have cy2 := w2.cy.ins
      rcases i2 with rfl | rfl
      · walk_at "go"
        refine use_news w2.bb (by omega) (by omega) (fun v H3 ns s3 pm pw dn => ?_)
        have w3 := (w2).same s3
        walk_at "go"
        refine use_update w3.cx dn (by have := w3.lx; omega) (by omega) w3.tb (fun H4 E4 es4 pm4 pw4 c4 nE4 ch4 tb4 => ?_)
        have e4 : es4 = bx.es := upd_law w3.rx iv w3.ic pm pm4 pw4
        subst e4
        have w4 := w3.upd ch4 c4 nE4 tb4 (Rel.all iv.asc (Int.le_refl _)) le iv.ok
        have hc4 := w4.hc
        have cx4 := w4.cx.ins
        have bi4 := w4.bb.ins
        clear hc2 bi2 cx2 cy2 w2
        walk_at "go"
        refine r_neC w4.cx.es w4.bb.es rfl w4.ox ?_
        walk_at "go"
        refine r_iten (fun c => absurd rfl c) (fun _ => ?_)
        walk_at "go"
        exact ⟨⟨x.c, E4, x.k, bx.c, bx.es, x.ko⟩, y, _, rfl, w4, fun _ => rfl, fun h => absurd h (by omega)⟩
      · walk_at "go"
        refine use_news w2.bb (by omega) (by omega) (fun v H3 ns s3 pm pw dn => ?_)
        have w3 := (w2.swap).same s3
        walk_at "go"
        refine use_update w3.cx dn (by have := w3.lx; omega) (by omega) w3.tb (fun H4 E4 es4 pm4 pw4 c4 nE4 ch4 tb4 => ?_)
        have e4 : es4 = bx.es := upd_law w3.rx iv w3.ic pm pm4 pw4
        subst e4
        have w4 := w3.upd ch4 c4 nE4 tb4 (Rel.all iv.asc (Int.le_refl _)) le iv.ok
        have hc4 := w4.hc
        have cx4 := w4.cx.ins
        have bi4 := w4.bb.ins
        clear hc2 bi2 cx2 cy2 w2
        walk_at "go"
        refine r_neC w4.cx.es w4.bb.es rfl w4.ox ?_
        walk_at "go"
        refine r_iten (fun c => absurd rfl c) (fun _ => ?_)
        walk_at "go"
        exact ⟨x, ⟨y.c, E4, y.k, bx.c, bx.es, y.ko⟩, _, rfl, w4.swap, fun _ => ex (by omega), fun _ => rfl⟩
    · rintro σ' H2 ⟨x, y, x8, rfl, w2, ex, ey⟩
      have hc2 := w2.hc
      have cx2 := w2.cx.ins
      have cy2 := w2.cy.ins
      walk_at "go"
      refine r_eqC w2.cx.es w2.cy.es (by rw [ex (by decide), ey (by decide)]) w2.ox ?_
      walk_at "go"
      exact k _

def d_Box___init__ : He.DefD := ⟨("Box", some "__init__"), "__init__", "Box.__init__", defArgs s_Box___init__, defBody s_Box___init__, defScope s_Box___init__, [], []⟩
def d_Box_deliver : He.DefD := ⟨("Box", some "deliver"), "deliver", "Box.deliver", defArgs s_Box_deliver, defBody s_Box_deliver, defScope s_Box_deliver, [], []⟩
def d_Box_place : He.DefD := ⟨("Box", some "place"), "place", "Box.place", defArgs s_Box_place, defBody s_Box_place, defScope s_Box_place, [], []⟩
def d_Box_set_flags : He.DefD := ⟨("Box", some "set_flags"), "set_flags", "Box.set_flags", defArgs s_Box_set_flags, defBody s_Box_set_flags, defScope s_Box_set_flags, [], []⟩
def d_Box_expunge : He.DefD := ⟨("Box", some "expunge"), "expunge", "Box.expunge", defArgs s_Box_expunge, defBody s_Box_expunge, defScope s_Box_expunge, [], []⟩
def d_Box_news : He.DefD := ⟨("Box", some "news"), "news", "Box.news", defArgs s_Box_news, defBody s_Box_news, defScope s_Box_news, [], []⟩
def d_Copy___init__ : He.DefD := ⟨("Copy", some "__init__"), "__init__", "Copy.__init__", defArgs s_Copy___init__, defBody s_Copy___init__, defScope s_Copy___init__, [], []⟩
def d_Copy_update : He.DefD := ⟨("Copy", some "update"), "update", "Copy.update", defArgs s_Copy_update, defBody s_Copy_update, defScope s_Copy_update, [], []⟩
def d_l_refill : He.DefD := ⟨("_law_refill", none), "_law_refill", "_law_refill", defArgs s_l_refill, defBody s_l_refill, defScope s_l_refill, [], []⟩
def d_l_draw : He.DefD := ⟨("_law_draw", none), "_law_draw", "_law_draw", defArgs s_l_draw, defBody s_l_draw, defScope s_l_draw, [], []⟩
def d_law : He.DefD := ⟨("law", none), "law", "law", defArgs s_law, defBody s_law, defScope s_law, [], []⟩
def fnL : List He.DefD := [d_Box___init__, d_Box_deliver, d_Box_place, d_Box_set_flags, d_Box_expunge, d_Box_news, d_Copy___init__, d_Copy_update, d_l_refill, d_l_draw, d_law]
def faL0 : List He.Fa := [.glo "_law_refill", .glo "_law_draw", .glo "law", .free "len", .free "int", .free "str", .free "bool", .free "tuple", .free "list", .free "isinstance", .free "range", .free "ord", .free "sorted", .free "min", .free "max", .free "sum", .free "all", .free "any", .free "enumerate", .free "set", .free "zip", .free "dict", .free "reversed", .glo "Box", .cls "Box", .glo "Copy", .cls "Copy", .mkr "Box", .noat "Box" "number", .noat "Box" "change", .noat "Box" "entries", .noat "Copy" "entries", .noat "Box" "gone", .meth "Box" "deliver", .meth "Box" "place", .meth "Box" "set_flags", .meth "Box" "expunge", .meth "Box" "news", .mkr "Copy", .noat "Copy" "mark"]
def faL1 : List He.Fa := [.meth "Copy" "update", .glo "NoSuchEntry", .exc "NoSuchEntry"]
def faL : List He.Fa := faL0 ++ faL1
def tfL : List He.Defn := [(("Copy", some "update") : Str × Option Str)]
def fbL : List Prd := []
abbrev Rr : PySem.W.OpenRow := PySem.W.OpenLaw.row PySem.Challenge.rw_dawkline_k11_copies_follow_boxes
abbrev exL : PySem.W.Frag → Bool := fun K => fbL.all fun p => p K
abbrev hkL : PySem.W.Hook := He.hookX 4 faL fnL [] tfL exL
def obL (s : PySem.W.SharedT) : He.AlX := He.obsX 4 faL fnL [] tfL exL (HandSHeadRun.getT s)
theorem obL_eq (s : PySem.W.SharedT) : obL s = hkL.obs s.abs := He.obsX_eq (HandSHeadRun.getT_eq s)
def looseL0 : List Str := ["_wall", "_law_is_integer", "_law_refill", "_law_draw", "_law_wide", "_law_junk", "MailError", "NoSuchEntry", "Box", "Copy"]
def looseL : List Str := looseL0
theorem runL (w : World) : HandSHeadRun.RunEq Rr (PySem.W.view Rr.prog [13]) hkL obL 1500 looseL w := by
  intro os
  kernel_rfl
theorem factsL {P : Program} {w : World} {K : PySem.W.Frag} {h : Heap} {mg : Str → Option Value} {f : Addr} (X : K.In h) (G : h.Ns mainGlobals mg) (hfa : mg ("law" : Str) = some (.ref f)) (c : He.SaysX faL fnL [] tfL exL w h K) :
    ∃ fd : FuncData, (∀ (s : Shared) (v : Value), BindsTo s fd ⟨[v], []⟩ [("_law_script", v)]) ∧ ∀ base : Heap, K.In base → base.Ns mainGlobals mg → (∀ p ∈ tfL.map (He.cT K), LamX.TabB base mg p.1 p.2) → FnOk P w K mg base CX0 3 f fd ["_law_script"] (spZ (sp_law K)) := by
  have cb := SaysX_b c
  replace c : He.SaysD faL fnL K := c.t.d
  have B : Bl mg := ⟨He.free_ok X G (c.fact 3 (f := .free "len") rfl), He.free_ok X G (c.fact 4 (f := .free "int") rfl), He.free_ok X G (c.fact 5 (f := .free "str") rfl), He.free_ok X G (c.fact 6 (f := .free "bool") rfl), He.free_ok X G (c.fact 7 (f := .free "tuple") rfl), He.free_ok X G (c.fact 8 (f := .free "list") rfl), He.free_ok X G (c.fact 9 (f := .free "isinstance") rfl), He.free_ok X G (c.fact 10 (f := .free "range") rfl), He.free_ok X G (c.fact 11 (f := .free "ord") rfl), He.free_ok X G (c.fact 12 (f := .free "sorted") rfl), He.free_ok X G (c.fact 13 (f := .free "min") rfl), He.free_ok X G (c.fact 14 (f := .free "max") rfl), He.free_ok X G (c.fact 15 (f := .free "sum") rfl), He.free_ok X G (c.fact 16 (f := .free "all") rfl), He.free_ok X G (c.fact 17 (f := .free "any") rfl), He.free_ok X G (c.fact 18 (f := .free "enumerate") rfl), He.free_ok X G (c.fact 19 (f := .free "set") rfl), He.free_ok X G (c.fact 20 (f := .free "zip") rfl), He.free_ok X G (c.fact 21 (f := .free "dict") rfl), He.free_ok X G (c.fact 22 (f := .free "reversed") rfl)⟩
  have gl_Box := He.glo_ok X G (c.fact 23 (f := .glo "Box") rfl)
  have kc_Box := He.cls_ok (c.fact 24 (f := .cls "Box") rfl)
  have gl_Copy := He.glo_ok X G (c.fact 25 (f := .glo "Copy") rfl)
  have kc_Copy := He.cls_ok (c.fact 26 (f := .cls "Copy") rfl)
  have kn_Box_number := He.noat_ok (c.fact 28 (f := .noat "Box" "number") rfl)
  have kn_Box_change := He.noat_ok (c.fact 29 (f := .noat "Box" "change") rfl)
  have kn_Box_entries := He.noat_ok (c.fact 30 (f := .noat "Box" "entries") rfl)
  have kn_Copy_entries := He.noat_ok (c.fact 31 (f := .noat "Copy" "entries") rfl)
  have kn_Box_gone := He.noat_ok (c.fact 32 (f := .noat "Box" "gone") rfl)
  have kn_Copy_mark := He.noat_ok (c.fact 39 (f := .noat "Copy" "mark") rfl)
  have gm_NoSuchEntry := He.glo_ok X G (c.fact 41 (f := .glo "NoSuchEntry") rfl)
  have xo_NoSuchEntry : Xco K (He.ga K "NoSuchEntry") := He.exc_ok (c.fact 42 (f := .exc "NoSuchEntry") rfl)
  obtain ⟨fd_Box___init__, F_Box___init__⟩ := c.def_ 0 (d := d_Box___init__) rfl
  obtain ⟨fd_Box_deliver, F_Box_deliver⟩ := c.def_ 1 (d := d_Box_deliver) rfl
  obtain ⟨fd_Box_place, F_Box_place⟩ := c.def_ 2 (d := d_Box_place) rfl
  obtain ⟨fd_Box_set_flags, F_Box_set_flags⟩ := c.def_ 3 (d := d_Box_set_flags) rfl
  obtain ⟨fd_Box_expunge, F_Box_expunge⟩ := c.def_ 4 (d := d_Box_expunge) rfl
  obtain ⟨fd_Box_news, F_Box_news⟩ := c.def_ 5 (d := d_Box_news) rfl
  obtain ⟨fd_Copy___init__, F_Copy___init__⟩ := c.def_ 6 (d := d_Copy___init__) rfl
  obtain ⟨fd_Copy_update, F_Copy_update⟩ := c.def_ 7 (d := d_Copy_update) rfl
  obtain ⟨fd_l_refill, F_l_refill⟩ := c.def_ 8 (d := d_l_refill) rfl
  have m_l_refill : mg "_law_refill" = some (.ref _) := He.glo_ok X G (c.fact 0 (f := .glo "_law_refill") rfl)
  obtain ⟨fd_l_draw, F_l_draw⟩ := c.def_ 9 (d := d_l_draw) rfl
  have m_l_draw : mg "_law_draw" = some (.ref _) := He.glo_ok X G (c.fact 1 (f := .glo "_law_draw") rfl)
  obtain ⟨fd_law, F_law⟩ := c.def_ 10 (d := d_law) rfl
  have m_law : mg "law" = some (.ref _) := He.glo_ok X G (c.fact 2 (f := .glo "law") rfl)
  have e := hfa.symm.trans m_law
  cases e
  have b := FunD.bindsA (ps := ["_law_script"]) F_law fun _ _ _ _ _ _ us hl => match us, hl with | [_], _ => rfl
  refine ⟨fd_law, fun s v => b s [v] rfl, fun base KB GB TBL => ?_⟩
  let e : Wd := ⟨P, w, K, mg, base⟩
  have c_Box___init__ : CanN e 1 (He.ga e.K "Box") "Box" ["self"] (sp_Box___init__ e.K) := ok_Box___init__ (e := e) ⟨_, _, F_Box___init__, He.mkr_ok (c.fact 27 (f := .mkr "Box") rfl), gl_Box⟩ B kc_Box kc_Copy kn_Box_number kn_Box_change kn_Box_entries kn_Copy_entries kn_Box_gone
  have c_Box_deliver : CanM e 1 (He.ga e.K "Box") "deliver" ["self", "lines"] (sp_Box_deliver e.K) := ok_Box_deliver (e := e) ⟨_, _, F_Box_deliver, He.meth_ok (c.fact 33 (f := .meth "Box" "deliver") rfl), kc_Box⟩ B kc_Box kc_Copy kn_Box_number kn_Box_change kn_Box_entries kn_Copy_entries
  have c_Box_place : CanM e 1 (He.ga e.K "Box") "place" ["self", "number"] (sp_Box_place e.K) := ok_Box_place (e := e) ⟨_, _, F_Box_place, He.meth_ok (c.fact 34 (f := .meth "Box" "place") rfl), kc_Box⟩ B kc_Box kc_Copy kn_Box_entries kn_Copy_entries gm_NoSuchEntry xo_NoSuchEntry
  have c_Box_news : CanM e 1 (He.ga e.K "Box") "news" ["self", "mark"] (sp_Box_news e.K) := ok_Box_news (e := e) ⟨_, _, F_Box_news, He.meth_ok (c.fact 37 (f := .meth "Box" "news") rfl), kc_Box⟩ B kc_Box kc_Copy kn_Box_entries kn_Copy_entries kn_Box_gone kn_Box_change
  have c_Copy___init__ : CanN e 1 (He.ga e.K "Copy") "Copy" ["self"] (sp_Copy___init__ e.K) := ok_Copy___init__ (e := e) ⟨_, _, F_Copy___init__, He.mkr_ok (c.fact 38 (f := .mkr "Copy") rfl), gl_Copy⟩ B kc_Box kc_Copy kn_Copy_mark kn_Box_entries kn_Copy_entries
  have c_l_refill : Can e 1 "_law_refill" ["_law_script", "_law_k"] (sp_l_refill e.K) := ok_l_refill (e := e) ⟨_, _, F_l_refill, m_l_refill⟩ B
  have c_Box_set_flags : CanM e 2 (He.ga e.K "Box") "set_flags" ["self", "number", "flags"] (sp_Box_set_flags e.K) := ok_Box_set_flags (e := e) ⟨_, _, F_Box_set_flags, He.meth_ok (c.fact 35 (f := .meth "Box" "set_flags") rfl), kc_Box⟩ B kc_Box kc_Copy kn_Box_change kn_Box_entries kn_Copy_entries c_Box_place
  have c_Box_expunge : CanM e 2 (He.ga e.K "Box") "expunge" ["self", "number"] (sp_Box_expunge e.K) := ok_Box_expunge (e := e) ⟨_, _, F_Box_expunge, He.meth_ok (c.fact 36 (f := .meth "Box" "expunge") rfl), kc_Box⟩ B kc_Box kc_Copy kn_Box_change kn_Box_entries kn_Copy_entries kn_Box_gone c_Box_place
  have c_Copy_update : CanM e 2 (He.ga e.K "Copy") "update" ["self", "news"] (sp_Copy_update e.K) := ok_Copy_update (e := e) ⟨_, _, F_Copy_update, He.meth_ok (c.fact 40 (f := .meth "Copy" "update") rfl), kc_Copy, code_of (p := (("Copy", some "update") : Str × Option Str)) F_Copy_update, TBL (He.cT K (("Copy", some "update") : Str × Option Str)) (List.mem_map_of_mem (by unfold tfL; simp))⟩ B kc_Box kc_Copy kn_Box_entries kn_Copy_entries kn_Copy_mark
  have c_l_draw : Can e 2 "_law_draw" ["_law_state", "_law_script", "_law_size"] (sp_l_draw e.K) := ok_l_draw (e := e) ⟨_, _, F_l_draw, m_l_draw⟩ B c_l_refill
  exact fn_frz (fnok_0 (ok_law (e := e) F_law B kc_Box kc_Copy kn_Box_entries kn_Copy_entries kn_Copy_mark kn_Box_change c_Box___init__ c_Copy___init__ c_l_draw c_Box_deliver c_Box_set_flags c_Box_expunge c_Box_news c_Copy_update) (fun vs H Q E h => by
    obtain ⟨v0, rfl, h⟩ := sp1_ex h
    exact h))
end Dk
open PySem PySem.W PySem.Calls PyProof.Rows
set_option maxRecDepth 100000 in
set_option maxHeartbeats 0 in
theorem PySem.Challenge.cw_dawkline_k11_copies_follow_boxes_holds : PySem.Challenge.rw_dawkline_k11_copies_follow_boxes.Holds := by
  w_on; o_law
  refine HandSHeadRun.head_any (r := OpenLaw.row PySem.Challenge.rw_dawkline_k11_copies_follow_boxes) (q := view (OpenLaw.row PySem.Challenge.rw_dawkline_k11_copies_follow_boxes).prog [13]) (H := Dk.hkL) (ob := Dk.obL) (M := 1500) (loose := Dk.looseL) (d := HandSHeadRun.topDef (OpenLaw.row PySem.Challenge.rw_dawkline_k11_copies_follow_boxes).prog 13) (kwd := []) Dk.obL_eq
    (by kernel_rfl) (fun s => by kernel_rfl) Dk.runL (by kernel_rfl) (by kernel_rfl) (by kernel_rfl) (by rfl) (by first | assumption | decide +kernel) (by decide +kernel) ⟨rfl, rfl, rfl, rfl, rfl, by decide +kernel⟩ ?hw ?hc
  case hw => w_witness2
  case hc =>
    refine LamX.walk_ofTsE (l := PySem.Challenge.rw_dawkline_k11_copies_follow_boxes) (n := 63) (k := 3) (x := "_law_script") (CX := fun _ => L2.CX0) rfl (by decide) (by kernel_rfl) ⟨rfl, by decide, by decide⟩ ?F (fun _ _ _ _ _ z => z)
    case F =>
      intro w mg fa h Y G hmg0
      obtain ⟨K, KX, c⟩ := Y
      have hmg : mg ("law" : PySem.Str) = some (.ref fa) := by
        have e : (HandSHeadRun.topDef (OpenLaw.row PySem.Challenge.rw_dawkline_k11_copies_follow_boxes).prog 13).name = ("law" : PySem.Str) := by kernel_rfl
        rw [← e]
        exact hmg0
      obtain ⟨fd, hb, hF⟩ := Dk.factsL (P := (PySem.Challenge.rw_dawkline_k11_copies_follow_boxes).prog) (w := w) KX G hmg c
      refine ⟨K, KX, fd, Dk.tfL.map (He.cT K), Dk.spZ (Dk.sp_law K), fun p hp => ?_, fun p hp => ?_, fun p hp => ?_, hb, fun H a ns hl _ hT hS => ?_, hF⟩
      · obtain ⟨d, hd, rfl⟩ := List.mem_map.mp hp
        exact c.empty d hd
      · obtain ⟨d, hd, rfl⟩ := List.mem_map.mp hp
        exact c.out d hd
      · obtain ⟨d, hd, rfl⟩ := List.mem_map.mp hp
        exact PySem.W.codeHd_of_K KX (c.hd d hd)
      · refine Dk.spZ_of hl hS fun H1 sc kt => ⟨a, rfl, sc, LamX.TabS.nil (kt _ _ (hT (He.cT K (("Copy", some "update") : PySem.Str × Option PySem.Str)) (List.mem_map_of_mem (by unfold Dk.tfL; simp)))), fun _ => rfl⟩
