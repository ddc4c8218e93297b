import PyProof.Rows.All
import Wide.All
import OpenK.AllK
import Wide.FinOn
import KE.KStateDown
import HandS.ForMost
import HandS.ForSpec
import HandS.IsInst
import HandS.StrMore
import HandS.TupAny
import HandS.Deep
import HandS.TupLe
import HandS.Defaults
import HandS.More
import HandS.Conv
import HandS.Walk
import HandS.Flow
import HandS.Iter
import HandS.Evl
import HandS.Text
import HandS.HeadHook1
import HandS.HeadHook2
import HandS.RaiseMore
import Lean
import HandS.Head0
import HandS.Head1
import HandS.Head2
import HandS.HeadEnd
import PySem.Challenge.RW_dawkline_k09_directories_and_routes
set_option Elab.async false
set_option linter.all false
set_option maxRecDepth 100000
set_option maxHeartbeats 4000000

/-! Own layer over HandS: data that never change, steps of the heap, rules that take any kind of value, a walk of readings. -/
namespace Dk
open PySem PySem.Spec PyProof.Rows L2

/-! ### data that never change -/
mutual
inductive Dq (H : Hp) : V → PyData → Prop
  | non : Dq H .non .none
  | bl (b : Bool) : Dq H (.bl b) (.bool b)
  | int (i : Int) : Dq H (.int i) (.int i)
  | str (x : Str) : Dq H (.str x) (.str x)
  | tup {a : Addr} {xs : List V} {ds : List PyData} : H a = some (.tup xs) → Dqs H xs ds → Dq H (.ref a) (.tuple ds)
inductive Dqs (H : Hp) : List V → List PyData → Prop
  | nil : Dqs H [] []
  | cons {v : V} {vs : List V} {d : PyData} {ds : List PyData} : Dq H v d → Dqs H vs ds → Dqs H (v :: vs) (d :: ds)
end

/-- tuples and what is locked stand as they were -/
structure Gro (H H' : Hp) : Prop where
  tup : ∀ a xs, H a = some (.tup xs) → H' a = some (.tup xs)
  frz : ∀ a o u, H a = some (.frz o u) → H' a = some (.frz o u)
theorem Gro.refl (H : Hp) : Gro H H := ⟨fun _ _ h => h, fun _ _ _ h => h⟩
theorem Gro.trans {H H1 H2 : Hp} (a : Gro H H1) (b : Gro H1 H2) : Gro H H2 := ⟨fun p xs h => b.tup p xs (a.tup p xs h), fun p o u h => b.frz p o u (a.frz p o u h)⟩
theorem Gro.same {H H' : Hp} (s : Same H H') : Gro H H' := ⟨fun p _ h => s p _ h, fun p _ _ h => s p _ h⟩

mutual
theorem Dq.mono {H H' : Hp} (g : Gro H H') : ∀ {d : PyData} {v : V}, Dq H v d → Dq H' v d
  | .none, _, h => by cases h; exact .non
  | .bool b, _, h => by cases h; exact .bl b
  | .int i, _, h => by cases h; exact .int i
  | .str x, _, h => by cases h; exact .str x
  | .tuple ds, _, h => by
    cases h with
    | tup ha hs => exact .tup (g.tup _ _ ha) (Dqs.mono g hs)
  | .list _, _, h => by cases h
  | .dict _, _, h => by cases h
theorem Dqs.mono {H H' : Hp} (g : Gro H H') : ∀ {ds : List PyData} {vs : List V}, Dqs H vs ds → Dqs H' vs ds
  | [], _, h => by cases h; exact .nil
  | d :: ds, _, h => by
    cases h with
    | cons h1 h2 => exact .cons (Dq.mono g h1) (Dqs.mono g h2)
end
mutual
theorem Dq.dp {K : PySem.W.Frag} {H : Hp} : ∀ {d : PyData} {v : V}, Dq H v d → Dp K H v d
  | .none, _, h => by cases h; exact .non
  | .bool b, _, h => by cases h; exact .bl b
  | .int i, _, h => by cases h; exact .int i
  | .str x, _, h => by cases h; exact .str x
  | .tuple ds, _, h => by
    cases h with
    | tup ha hs => exact .tup (SqT.of ha) (Dqs.dp hs)
  | .list _, _, h => by cases h
  | .dict _, _, h => by cases h
theorem Dqs.dp {K : PySem.W.Frag} {H : Hp} : ∀ {ds : List PyData} {vs : List V}, Dqs H vs ds → DpAll K H vs ds
  | [], _, h => by cases h; exact .nil
  | d :: ds, _, h => by
    cases h with
    | cons h1 h2 => exact .cons (Dq.dp h1) (Dqs.dp h2)
end
theorem Dqs.length {H : Hp} : ∀ {ds : List PyData} {vs : List V}, Dqs H vs ds → vs.length = ds.length
  | [], _, h => by cases h; rfl
  | d :: ds, _, h => by
    cases h with
    | cons h1 h2 => rw [List.length_cons, List.length_cons, Dqs.length h2]
theorem Dqs.get {H : Hp} : ∀ {ds : List PyData} {vs : List V} {i : Nat} {v : V}, Dqs H vs ds → vs[i]? = some v → ∃ d, ds[i]? = some d ∧ Dq H v d
  | [], _, i, v, h, e => by
    cases h
    simp at e
  | d :: ds, _, 0, v, h, e => by
    cases h with
    | cons h1 h2 =>
      simp only [List.getElem?_cons_zero, Option.some.injEq] at e
      subst e
      exact ⟨d, rfl, h1⟩
  | d :: ds, _, i + 1, v, h, e => by
    cases h with
    | cons h1 h2 =>
      simp only [List.getElem?_cons_succ] at e
      obtain ⟨d', e1, e2⟩ := Dqs.get h2 e
      exact ⟨d', by simpa using e1, e2⟩
theorem Dqs.snoc {H : Hp} {d : PyData} {v : V} (hv : Dq H v d) : ∀ {ds : List PyData} {vs : List V}, Dqs H vs ds → Dqs H (vs ++ [v]) (ds ++ [d])
  | [], _, h => by
    cases h
    exact .cons hv .nil
  | d :: ds, _, h => by
    cases h with
    | cons h1 h2 => exact .cons h1 (Dqs.snoc hv h2)
/-- texts -/
theorem Dqs.strs {H : Hp} : ∀ (ss : List Str), Dqs H (ss.map V.str) (ss.map PyData.str)
  | [] => .nil
  | s :: ss => .cons (.str s) (Dqs.strs ss)
theorem Dqs.strs_of {H : Hp} : ∀ {ss : List Str} {vs : List V}, Dqs H vs (ss.map PyData.str) → vs = ss.map V.str
  | [], _, h => by cases h; rfl
  | s :: ss, _, h => by
    cases h with
    | cons h1 h2 =>
      cases h1
      rw [Dqs.strs_of h2] <;> rfl

/-! ### steps of the heap -/
/-- all but what stands at the places of F is as it was -/
def Fr (F : Addr → Prop) (H H' : Hp) : Prop := ∀ b o, H b = some o → ¬ F b → H' b = some o
theorem Fr.refl (F : Addr → Prop) (H : Hp) : Fr F H H := fun _ _ h _ => h
theorem Fr.trans {F : Addr → Prop} {H H1 H2 : Hp} (a : Fr F H H1) (b : Fr F H1 H2) : Fr F H H2 := fun p o h n => b p o (a p o h n) n
theorem Fr.same {F : Addr → Prop} {H H' : Hp} (s : Same H H') : Fr F H H' := fun b o h _ => s b o h
/-- the law's own state: a list of two ints -/
def Drw (H : Hp) (a : Addr) : Prop := ∃ x y : Int, H a = some (.lst [.int x, .int y])
/-- a step that changes the list at a alone, which stays such a list -/
structure Stp (a : Addr) (H H' : Hp) : Prop where
  fr : ∀ b o, H b = some o → b ≠ a → H' b = some o
  gro : Gro H H'
  drw : Drw H' a
theorem Stp.refl {a : Addr} {H : Hp} (h : Drw H a) : Stp a H H := ⟨fun _ _ h _ => h, Gro.refl H, h⟩
theorem Stp.trans {a : Addr} {H H1 H2 : Hp} (x : Stp a H H1) (y : Stp a H1 H2) : Stp a H H2 := ⟨fun b o h n => y.fr b o (x.fr b o h n) n, x.gro.trans y.gro, y.drw⟩
theorem Stp.same {a : Addr} {H H' : Hp} (h : Drw H a) (s : Same H H') : Stp a H H' := ⟨fun b o e _ => s b o e, Gro.same s, let ⟨x, y, e⟩ := h; ⟨x, y, s _ _ e⟩⟩
theorem Stp.snd {a : Addr} {H H1 H2 : Hp} (x : Stp a H H1) (s : Same H1 H2) : Stp a H H2 := x.trans (Stp.same x.drw s)
theorem Stp.free {a : Addr} {H H' : Hp} (x : Stp a H H') {p : Addr} (hp : H' p = none) (ha : ∃ o, H a = some o) : H p = none := by
  by_cases e : p = a
  · obtain ⟨u, v, q⟩ := x.drw
    rw [e, q] at hp
    cases hp
  · cases q : H p with
    | none => rfl
    | some o =>
      rw [x.fr p o q e] at hp
      cases hp
theorem Stp.new {a : Addr} {H H' : Hp} (x : Stp a H H') {p : Addr} {o : HO} (hp : H p = none) (hd : Drw H a) : Stp a H (upd H' p o) := by
  have pa : a ≠ p := by
    intro e
    obtain ⟨u, v, q⟩ := hd
    rw [e, hp] at q
    cases q
  refine ⟨fun b u h n => ?_, ⟨fun b xs h => ?_, fun b u z h => ?_⟩, ?_⟩
  · rw [upd_ne (ne_of_none h hp)]
    exact x.fr b u h n
  · rw [upd_ne (ne_of_none h hp)]
    exact x.gro.tup b xs h
  · rw [upd_ne (ne_of_none h hp)]
    exact x.gro.frz b u z h
  · obtain ⟨u, v, q⟩ := x.drw
    exact ⟨u, v, by rw [upd_ne pa]; exact q⟩
theorem same_new {H : Hp} {p : Addr} {o : HO} (h : H p = none) : Same H (upd H p o) := fun a u e => by
  rw [upd_ne (ne_of_none e h)]
  exact e
/-- the script -/
def Scr (K : PySem.W.Frag) (H : Hp) (a : Addr) : Prop := ∃ ns : List Int, ns.length ≤ 63 ∧ ((∃ o, H a = some (.frz o (.lst (ns.map V.int)))) ∨
  ∃ (o : Obj) (its : Array Value) (n : Nat), K.lookup a = some o ∧ o.cls = .type "list" ∧ o.dict = none ∧ o.data = .seq its n ∧ its.size ≤ sizeLine ∧ Vals (ns.map V.int) its.toList)
theorem Scr.mono {K : PySem.W.Frag} {H H' : Hp} {a : Addr} (g : Gro H H') (h : Scr K H a) : Scr K H' a := by
  obtain ⟨ns, l, h⟩ := h
  refine ⟨ns, l, ?_⟩
  rcases h with ⟨o, h⟩ | h
  · exact .inl ⟨o, g.frz _ _ _ h⟩
  · exact .inr h
theorem Scr.seq {K : PySem.W.Frag} {H : Hp} {a : Addr} (h : Scr K H a) : ∃ ns : List Int, ns.length ≤ 63 ∧ SqL K H a (ns.map V.int) := by
  obtain ⟨ns, l, h⟩ := h
  refine ⟨ns, l, ?_⟩
  rcases h with ⟨o, h⟩ | h
  · exact .inl (.inr ⟨o, h⟩)
  · exact .inr h
theorem Scr.of {K : PySem.W.Frag} {H : Hp} {a : Addr} {ns : List Int} (hl : ns.length ≤ 63) (O : Only H) (h : SqL K H a (ns.map V.int)) : Scr K H a := by
  refine ⟨ns, hl, ?_⟩
  rcases h with (h | ⟨o, h⟩) | h
  · rcases O a with e | ⟨o, xs, e⟩
    · rw [e] at h
      cases h
    · rw [e] at h
      cases h
  · exact .inl ⟨o, h⟩
  · exact .inr h
end Dk

/-! Rules that take any kind of value: a match on the values says what is asked. -/
namespace Dk
open PySem PySem.Spec PyProof.Rows L2
section
variable {X : Cx} {K : PySem.W.Frag}
theorem opw {f : Value → Value → Sem Value} {r r' : R2} (h : OpR X f r) (w : ∀ x y H Q, r' x y H Q → r x y H Q) : OpR X f r' :=
  fun pins s σ H x y v u Q I rx ry q => h pins s σ H x y v u Q I rx ry (w _ _ _ _ q)
theorem callw {f : Value} {r r' : List V → Hp → VK → Prop} (h : CallR X f r) (w : ∀ xs H Q, r' xs H Q → r xs H Q) : CallR X f r' :=
  fun pins s σ H xs us Q I r q => h pins s σ H xs us Q I r (w _ _ _ q)
theorem mtw {id : String} {r r' : V → List V → Hp → VK → Prop} (h : MtR X id r) (w : ∀ x xs H Q, r' x xs H Q → r x xs H Q) : MtR X id r' :=
  fun pins s σ H x xs v us Q I rx r q => h pins s σ H x xs v us Q I rx r (w _ _ _ _ q)
/-- a + b -/
def uAdd (K : PySem.W.Frag) : R2 := fun x y H Q => match x, y with
  | .int i, .int j => Q (.int (i + j)) H
  | .str a, .str b => a.length + b.length ≤ sizeLine ∧ Q (.str (a ++ b)) H
  | .ref a, .ref b => rCat (.ref a) (.ref b) H Q ∨ rCatA K (.ref a) (.ref b) H Q
  | _, _ => False
theorem op_addU (hK : X.K = K := by rfl) : OpR X (binaryOp .Add) (uAdd K) := by
  subst hK
  refine opw ((op_add).or (op_add_str.or (op_cat.or op_catA))) fun x y H Q h => ?_
  cases x <;> cases y <;> first
    | exact .inl ⟨_, _, rfl, rfl, h⟩
    | exact .inr (.inl ⟨_, _, rfl, rfl, h.1, h.2⟩)
    | exact .inr (.inr h)
    | exact False.elim h
def uI (C : Int → Int → Prop) (g : Int → Int → V) : R2 := fun x y H Q => match x, y with
  | .int i, .int j => C i j ∧ Q (g i j) H
  | _, _ => False
def uI0 (g : Int → Int → V) : R2 := fun x y H Q => match x, y with
  | .int i, .int j => Q (g i j) H
  | _, _ => False
theorem uI_w {C : Int → Int → Prop} {g : Int → Int → V} {f : Value → Value → Sem Value} (h : OpR X f (rI C g)) : OpR X f (uI C g) := by
  refine opw h fun x y H Q h => ?_
  cases x <;> cases y <;> first
    | exact ⟨_, _, rfl, rfl, h.1, h.2⟩
    | exact False.elim h
theorem uI0_w {g : Int → Int → V} {f : Value → Value → Sem Value} (h : OpR X f (rI0 g)) : OpR X f (uI0 g) := by
  refine opw h fun x y H Q h => ?_
  cases x <;> cases y <;> first
    | exact ⟨_, _, rfl, rfl, h⟩
    | exact False.elim h
abbrev uSub : R2 := uI0 fun i j => .int (i - j)
theorem op_subU : OpR X (binaryOp .Sub) uSub := uI0_w op_sub
/-- a * b: ints, one of them small; a list some times -/
def uMul : R2 := fun x y H Q => match x, y with
  | .int i, .int j => CMul i j ∧ Q (.int (i * j)) H
  | .ref a, .int j => rRep (.ref a) (.int j) H Q
  | _, _ => False
theorem op_mulU : OpR X (binaryOp .Mult) uMul := by
  refine opw (op_mul.or op_rep) fun x y H Q h => ?_
  cases x <;> cases y <;> first
    | exact .inl ⟨_, _, rfl, rfl, h.1, h.2⟩
    | exact .inr h
    | exact False.elim h
abbrev uMod : R2 := uI (fun _ j => 0 < j) fun i j => .int (i % j)
theorem op_modU : OpR X (binaryOp .Mod) uMod := uI_w op_mod
abbrev uDiv : R2 := uI CDiv fun i j => .int (i / j)
theorem op_divU : OpR X (binaryOp .FloorDiv) uDiv := uI_w op_fdiv
abbrev uPow : R2 := uI CPow fun i j => .int (i ^ j.toNat)
theorem op_powU : OpR X (binaryOp .Pow) uPow := uI_w op_pow
abbrev uShl : R2 := uI CPow fun i j => .int (i * 2 ^ j.toNat)
theorem op_shlU : OpR X (binaryOp .LShift) uShl := uI_w op_shl
abbrev uShr : R2 := uI (fun _ j => 0 ≤ j) fun i j => .int (i / 2 ^ j.toNat)
theorem op_shrU : OpR X (binaryOp .RShift) uShr := uI_w op_shr
abbrev uAnd : R2 := uI0 fun i j => .int (Builtin.bitAnd i j)
theorem op_andU : OpR X (binaryOp .BitAnd) uAnd := uI0_w op_and
abbrev uLt : R2 := uI0 fun i j => .bl (decide (i < j))
theorem op_ltU : OpR X (compareOp .Lt) uLt := uI0_w op_lt
abbrev uLe : R2 := uI0 fun i j => .bl (decide (i ≤ j))
theorem op_leU : OpR X (compareOp .LtE) uLe := uI0_w op_le
abbrev uGt : R2 := uI0 fun i j => .bl (decide (j < i))
theorem op_gtU : OpR X (compareOp .Gt) uGt := uI0_w op_gt
abbrev uGe : R2 := uI0 fun i j => .bl (decide (j ≤ i))
theorem op_geU : OpR X (compareOp .GtE) uGe := uI0_w op_ge
theorem dec_i {i j : Int} : decide (V.int i = V.int j) = decide (i = j) := by
  by_cases h : i = j
  · rw [h, decide_eq_true rfl, decide_eq_true rfl]
  · rw [decide_eq_false h, decide_eq_false fun e => h (V.int.inj e)]
theorem dec_s {i j : Str} : decide (V.str i = V.str j) = decide (i = j) := by
  by_cases h : i = j
  · rw [h, decide_eq_true rfl, decide_eq_true rfl]
  · rw [decide_eq_false h, decide_eq_false fun e => h (V.str.inj e)]
/-- a == b -/
def uEq (K : PySem.W.Frag) : R2 := fun x y H Q => match x, y with
  | .int i, .int j => Q (.bl (decide (i = j))) H
  | .str i, .str j => Q (.bl (decide (i = j))) H
  | x, y => rEq x y H Q ∨ rEqD K x y H Q
def uNe (K : PySem.W.Frag) : R2 := fun x y H Q => match x, y with
  | .int i, .int j => Q (.bl (!decide (i = j))) H
  | .str i, .str j => Q (.bl (!decide (i = j))) H
  | x, y => rNe x y H Q ∨ rNeD K x y H Q
theorem op_eqU {k : Nat} (hr : Room k X.A) (hK : X.K = K := by rfl) : OpR X (compareOp .Eq) (uEq K) := by
  subst hK
  refine opw (op_eq.or (op_eqD hr.units)) fun x y H Q h => ?_
  cases x <;> cases y <;> first
    | exact .inl ⟨rfl, by rw [dec_i]; exact h⟩
    | exact .inl ⟨rfl, by rw [dec_s]; exact h⟩
    | exact h
theorem op_neU {k : Nat} (hr : Room k X.A) (hK : X.K = K := by rfl) : OpR X (compareOp .NotEq) (uNe K) := by
  subst hK
  refine opw (op_ne.or (op_neD hr.units)) fun x y H Q h => ?_
  cases x <;> cases y <;> first
    | exact .inl ⟨rfl, by rw [dec_i]; exact h⟩
    | exact .inl ⟨rfl, by rw [dec_s]; exact h⟩
    | exact h
/-- a is None, a is True -/
def uIs : R2 := fun x y H Q => match y with
  | .non => Q (.bl (decide (x = .non))) H
  | .bl b => (match x with
    | .bl a => Q (.bl (decide (a = b))) H
    | _ => False)
  | _ => False
def uIsNot : R2 := fun x y H Q => match y with
  | .non => Q (.bl (!decide (x = .non))) H
  | .bl b => (match x with
    | .bl a => Q (.bl (!decide (a = b))) H
    | _ => False)
  | _ => False
theorem op_isU : OpR X (compareOp .Is) uIs := by
  refine opw (op_isN.or op_is_bl) fun x y H Q h => ?_
  cases y with
  | non => exact .inl ⟨rfl, h⟩
  | bl b => cases x <;> first
    | exact .inr ⟨_, _, rfl, rfl, h⟩
    | exact False.elim h
  | _ => exact False.elim h
theorem op_isNotU : OpR X (compareOp .IsNot) uIsNot := by
  refine opw (op_notN.or op_isnot_bl) fun x y H Q h => ?_
  cases y with
  | non => exact .inl ⟨rfl, h⟩
  | bl b => cases x <;> first
    | exact .inr ⟨_, _, rfl, rfl, h⟩
    | exact False.elim h
  | _ => exact False.elim h
/-- a in b -/
def occ (i j : Str) : Bool := !(Builtin.Str.occurrences j i 0 j.length 1).isEmpty
def uIn (K : PySem.W.Frag) : R2 := fun x y H Q => match y with
  | .str j => (match x with
    | .str i => Q (.bl (occ i j)) H
    | _ => False)
  | y => rIn K false x y H Q ∨ rInD K x y H Q
def uNotIn (K : PySem.W.Frag) : R2 := fun x y H Q => match y with
  | .str j => (match x with
    | .str i => Q (.bl (!occ i j)) H
    | _ => False)
  | y => rIn K true x y H Q ∨ rNotInD K x y H Q
theorem op_inU {k : Nat} (hr : Room (k + 1) X.A) (hK : X.K = K := by rfl) : OpR X (compareOp .In) (uIn K) := by
  subst hK
  refine opw (op_in_str.or (op_in_seq.or (op_inD (by have := hr.un; omega)))) fun x y H Q h => ?_
  cases y with
  | str j => cases x <;> first
    | exact .inl ⟨_, _, rfl, rfl, h⟩
    | exact False.elim h
  | _ => exact .inr h
theorem op_notInU {k : Nat} (hr : Room (k + 1) X.A) (hK : X.K = K := by rfl) : OpR X (compareOp .NotIn) (uNotIn K) := by
  subst hK
  refine opw (op_notin_str.or (op_notIn_seq.or (op_notInD (by have := hr.un; omega)))) fun x y H Q h => ?_
  cases y with
  | str j => cases x <;> first
    | exact .inl ⟨_, _, rfl, rfl, h⟩
    | exact False.elim h
  | _ => exact .inr h
end
end Dk

namespace Dk
open PySem PySem.Spec PyProof.Rows L2
/-! ### built-in names -/
theorem bt_len : bootBuiltins "len" = some (.builtin "len") := by decide +kernel
theorem bt_int : bootBuiltins "int" = some (.type "int") := by decide +kernel
theorem bt_str : bootBuiltins "str" = some (.type "str") := by decide +kernel
theorem bt_bool : bootBuiltins "bool" = some (.type "bool") := by decide +kernel
theorem bt_tuple : bootBuiltins "tuple" = some (.type "tuple") := by decide +kernel
theorem bt_list : bootBuiltins "list" = some (.type "list") := by decide +kernel
theorem bt_isinstance : bootBuiltins "isinstance" = some (.builtin "isinstance") := by decide +kernel
theorem bt_ord : bootBuiltins "ord" = some (.builtin "ord") := by decide +kernel
theorem bt_sorted : bootBuiltins "sorted" = some (.builtin "sorted") := by decide +kernel
theorem bt_min : bootBuiltins "min" = some (.builtin "min") := by decide +kernel
theorem bt_max : bootBuiltins "max" = some (.builtin "max") := by decide +kernel
theorem bt_sum : bootBuiltins "sum" = some (.builtin "sum") := by decide +kernel
theorem bt_all : bootBuiltins "all" = some (.builtin "all") := by decide +kernel
theorem bt_any : bootBuiltins "any" = some (.builtin "any") := by decide +kernel
section
variable {X : Cx} {K : PySem.W.Frag}
/-- len(x) -/
def uLen (K : PySem.W.Frag) : List V → Hp → VK → Prop := fun xs H Q => match xs with
  | [.str z] => z.length ≤ sizeLine ∧ Q (.int z.length) H
  | [x] => ∃ n, LenV K x H n ∧ Q (.int n) H
  | _ => False
theorem call_lenU (hK : X.K = K := by rfl) : CallR X (.builtin "len") (uLen K) := by
  subst hK
  refine callw call_len fun xs H Q h => ?_
  match xs, h with
  | [.str z], h => exact ⟨_, z.length, rfl, ⟨h.1, rfl⟩, h.2⟩
  | [.non], h => exact ⟨_, h.choose, rfl, h.choose_spec.1, h.choose_spec.2⟩
  | [.bl _], h => exact ⟨_, h.choose, rfl, h.choose_spec.1, h.choose_spec.2⟩
  | [.int _], h => exact ⟨_, h.choose, rfl, h.choose_spec.1, h.choose_spec.2⟩
  | [.byt _], h => exact ⟨_, h.choose, rfl, h.choose_spec.1, h.choose_spec.2⟩
  | [.flt _], h => exact ⟨_, h.choose, rfl, h.choose_spec.1, h.choose_spec.2⟩
  | [.ref _], h => exact ⟨_, h.choose, rfl, h.choose_spec.1, h.choose_spec.2⟩
  | [.ty _], h => exact ⟨_, h.choose, rfl, h.choose_spec.1, h.choose_spec.2⟩
/-- int(x) -/
def uInt : List V → Hp → VK → Prop := fun xs H Q => match xs with
  | [.int i] => Q (.int i) H
  | [.bl b] => Q (.int (if b then 1 else 0)) H
  | [.str a] => ∃ n, PySem.intText? a = some n ∧ a.length ≤ 640 ∧ Q (.int n) H
  | _ => False
theorem call_intU : CallR X (.type "int") uInt := by
  refine callw (call_int1.or call_int_str) fun xs H Q h => ?_
  match xs, h with
  | [.int i], h => exact .inl (.inl ⟨_, rfl, h⟩)
  | [.bl i], h => exact .inl (.inr ⟨_, rfl, h⟩)
  | [.str a], h => exact .inr ⟨_, _, rfl, h.choose_spec.1, h.choose_spec.2.1, h.choose_spec.2.2⟩
/-- tuple(x) -/
def uTuple (K : PySem.W.Frag) : List V → Hp → VK → Prop := fun xs H Q => match xs with
  | [.ref p] => ∃ ys, (SqL K H p ys ∧ ∀ l, H l = none → Q (.ref l) (upd H l (.tup ys))) ∨ (SqT K H p ys ∧ Q (.ref p) H)
  | _ => False
theorem call_tupleU (hK : X.K = K := by rfl) : CallR X (.type "tuple") (uTuple K) := by
  subst hK
  refine callw call_tuple_of fun xs H Q h => ?_
  match xs, h with
  | [.ref p], h => exact ⟨p, h.choose, rfl, h.choose_spec⟩
/-- list(x) -/
def uList (K : PySem.W.Frag) : List V → Hp → VK → Prop := fun xs H Q => match xs with
  | [.ref p] => ∃ ys, (SqL K H p ys ∨ SqT K H p ys) ∧ ∀ l, H l = none → Q (.ref l) (upd H l (.lst ys))
  | _ => False
theorem call_listU (hK : X.K = K := by rfl) : CallR X (.type "list") (uList K) := by
  subst hK
  refine callw call_list_of fun xs H Q h => ?_
  match xs, h with
  | [.ref p], h => exact ⟨p, h.choose, rfl, h.choose_spec⟩
/-- isinstance(x, a built-in class) -/
def tyO : Option HO → Option String
  | some (.lst _) => some "list"
  | some (.tup _) => some "tuple"
  | some (.dK _) => some "dict"
  | some (.dT _) => some "dict"
  | _ => none
def tyN (H : Hp) : V → Option String
  | .non => some "NoneType"
  | .bl _ => some "bool"
  | .int _ => some "int"
  | .str _ => some "str"
  | .ref a => tyO (H a)
  | _ => none
theorem tyN_ok {K : PySem.W.Frag} {H : Hp} {x : V} {n : String} (h : tyN H x = some n) : TyX K H x (.type n) := by
  cases x with
  | non => cases h; exact .base .non
  | bl b => cases h; exact .base (.bl b)
  | int b => cases h; exact .base (.int b)
  | str b => cases h; exact .base (.str b)
  | ref a =>
    have h : tyO (H a) = some n := h
    cases e : H a with
    | none =>
      rw [e] at h
      cases h
    | some o =>
      rw [e] at h
      cases o with
      | lst xs => cases h; exact .base (.lst e)
      | tup xs => cases h; exact .base (.tup e)
      | dK xs => cases h; exact .base (.dK e)
      | dT xs => cases h; exact .base (.dT e)
      | _ => cases h
  | _ => cases h
def uIsi (K : PySem.W.Frag) : List V → Hp → VK → Prop := fun xs H Q => match xs with
  | [x, .ty m] => ∃ n b, tyN H x = some n ∧ kitB n m = some b ∧ Q (.bl b) H
  | _ => False
theorem call_isiU (hK : X.K = K := by rfl) : CallR X (.builtin "isinstance") (uIsi K) := by
  subst hK
  refine callw call_isi fun xs H Q h => ?_
  match xs, h with
  | [x, .ty m], h =>
    obtain ⟨n, b, h1, h2, h3⟩ := h
    exact ⟨x, .ty m, .type n, .type m, b, rfl, .ty m, tyN_ok h1, kit_ty h2, h3⟩
/-- x[i] -/
def uIx (K : PySem.W.Frag) : R2 := fun x y H Q => match x, y with
  | .ref p, .int i => ∃ xs v, (SqL K H p xs ∨ SqT K H p xs) ∧ atI xs i = some v ∧ Q v H
  | .str z, .int i => ∃ c, z.length ≤ sizeLine ∧ atI z.cps.toList i = some c ∧ Q (.str ⟨#[c]⟩) H
  | _, _ => False
theorem ix_U (hK : X.K = K := by rfl) : IxR X (uIx K) := by
  subst hK
  intro va sl pins s σ H x y v u Q I rx ry h hs
  refine ix_seq va sl pins s σ H x y v u Q I rx ry ?_ hs
  match x, y, h with
  | .ref p, .int i, h =>
    obtain ⟨xs, w, h1, h2, h3⟩ := h
    rcases h1 with h1 | h1
    · exact .inl ⟨p, xs, i, w, rfl, rfl, h1, h2, h3⟩
    · exact .inr (.inl ⟨p, xs, i, w, rfl, rfl, h1, h2, h3⟩)
  | .str z, .int i, h =>
    obtain ⟨c, h1, h2, h3⟩ := h
    exact .inr (.inr ⟨z, i, c, rfl, rfl, h1, h2, h3⟩)
/-- x[lo:hi] -/
def uSl (K : PySem.W.Frag) : V → Option Int → Option Int → Hp → VK → Prop := fun x lo hi H Q => match x with
  | .str z => z.length ≤ sizeLine ∧ Q (.str (cutS z lo hi)) H
  | x => rSlL K x lo hi H Q ∨ rSlA K x lo hi H Q
theorem sl_U (hK : X.K = K := by rfl) : SlR X (uSl K) := by
  subst hK
  intro pins s σ H x v vl vu lo hi sl Q I rx hs pl pu h
  refine (sl_str.or (sl_list.or sl_tupA)) pins s σ H x v vl vu lo hi sl Q I rx hs pl pu ?_
  cases x with
  | str z => exact .inl ⟨z, rfl, h.1, h.2⟩
  | _ => exact .inr h
/-- methods of texts with one text -/
def uS1 (f : Str → Str → V) : V → List V → Hp → VK → Prop := fun x xs H Q => match x, xs with
  | .str a, [.str b] => Q (f a b) H
  | _, _ => False
theorem mt_startsU : MtR X "str.startswith" (uS1 fun a b => .bl (Txt.startswith a b)) := by
  refine mtw mt_startswith fun x xs H Q h => ?_
  match x, xs, h with
  | .str a, [.str b], h => exact ⟨a, b, rfl, rfl, h⟩
theorem mt_endsU : MtR X "str.endswith" (uS1 fun a b => .bl (Txt.endswith a b)) := by
  refine mtw mt_endswith fun x xs H Q h => ?_
  match x, xs, h with
  | .str a, [.str b], h => exact ⟨a, b, rfl, rfl, h⟩
theorem mt_findU : MtR X "str.find" (uS1 fun a b => .int (Txt.find a b)) := by
  refine mtw mt_find fun x xs H Q h => ?_
  match x, xs, h with
  | .str a, [.str b], h => exact ⟨a, b, rfl, rfl, h⟩
def uS1l (f : Str → Str → V) : V → List V → Hp → VK → Prop := fun x xs H Q => match x, xs with
  | .str a, [.str b] => a.length ≤ sizeLine ∧ Q (f a b) H
  | _, _ => False
theorem mt_rstripU : MtR X "str.rstrip" (uS1l fun a b => .str (Txt.rstripChars a b)) := by
  refine mtw mt_rstripChars fun x xs H Q h => ?_
  match x, xs, h with
  | .str a, [.str b], h => exact ⟨a, b, rfl, rfl, h.1, h.2⟩
def uSplit : V → List V → Hp → VK → Prop := fun x xs H Q => match x, xs with
  | .str a, [.str b] => (b.length == 0) = false ∧ a.length + 2 ≤ sizeLine ∧ rNewStrs (Txt.split a b) H Q
  | _, _ => False
theorem mt_splitU : MtR X "str.split" uSplit := by
  refine mtw mt_split fun x xs H Q h => ?_
  match x, xs, h with
  | .str a, [.str b], h => exact ⟨a, b, rfl, rfl, h.1, h.2.1, h.2.2⟩
def uJoin (K : PySem.W.Frag) : V → List V → Hp → VK → Prop := fun x xs H Q => match x, xs with
  | .str a, [.ref p] => ∃ ys : List Str, (SqL K H p (ys.map V.str) ∨ SqT K H p (ys.map V.str)) ∧ (ys.map (·.length)).sum + ys.length * a.length ≤ 16777216 ∧ Q (.str (Txt.join a ys)) H
  | _, _ => False
theorem mt_joinU (hK : X.K = K := by rfl) : MtR X "str.join" (uJoin K) := by
  subst hK
  refine mtw mt_join fun x xs H Q h => ?_
  match x, xs, h with
  | .str a, [.ref p], h => exact ⟨a, p, h.choose, rfl, rfl, h.choose_spec.1, h.choose_spec.2.1, h.choose_spec.2.2⟩
def uS0 (f : Str → V) : V → List V → Hp → VK → Prop := fun x xs H Q => match x, xs with
  | .str a, [] => a.length ≤ 5592405 ∧ Q (f a) H
  | _, _ => False
theorem mt_lowerU : MtR X "str.lower" (uS0 fun a => .str (Txt.lower a)) := by
  refine mtw mt_lower fun x xs H Q h => ?_
  match x, xs, h with
  | .str a, [], h => exact ⟨a, rfl, rfl, h.1, h.2⟩
theorem mt_upperU : MtR X "str.upper" (uS0 fun a => .str (Txt.upper a)) := by
  refine mtw mt_upper fun x xs H Q h => ?_
  match x, xs, h with
  | .str a, [], h => exact ⟨a, rfl, rfl, h.1, h.2⟩
/-- str(x) -/
def uStr : List V → Hp → VK → Prop := fun xs H Q => match xs with
  | [.int i] => i.natAbs.log2 < 1920 ∧ Q (.str (toString i)) H
  | [.str a] => Q (.str a) H
  | _ => False
/-! ### defs by their names -/
structure Wd where
  P : Program
  w : World
  K : PySem.W.Frag
  mg : Str → Option Value
  base : Heap
/-- the def that the module's name x holds keeps the promise sp -/
def Can (e : Wd) (k : Nat) (x : Str) (ps : List Str) (sp : Sp) : Prop :=
  ∃ f fd, FnOk e.P e.w e.K e.mg e.base (L2.CX e.P e.w) k f fd ps sp ∧ e.mg x = some (.ref f) ∧ PySem.W.keepIn e.K (.ref f) = true ∧ Binds e.K fd ps []
theorem Can.imp {e : Wd} {k j : Nat} {x : Str} {ps : List Str} {sp sp' : Sp} (c : Can e k x ps sp) (h : ∀ vs H Q E, sp' vs H Q E → sp vs H Q E) (hk : k ≤ j := by decide) : Can e j x ps sp' := by
  obtain ⟨f, fd, F, m, kp, b⟩ := c
  exact ⟨f, fd, (F.imp h).mono hk, m, kp, b⟩
abbrev wdOf (X : Cx) : Wd := ⟨X.prog, X.w, X.K, X.mg, X.base⟩
theorem pe_can {k : Nat} {x : Str} {ps : List Str} {sp : Sp} {E : XK} {p pos : Pos} {e : Expr} {es : List Expr} {t : TA} (c : Can (wdOf X) k x ps sp) (hr : Room k X.A) (hx : Passes (L2.CX X.prog X.w) X E) (ha : PA X (e :: es) t) (hg : Gl X x := by rfl)
    (hdb : (x == ("__debug__" : Str)) = false := by decide) (he : starEach (e :: es) X.env = (false, eval e X.env) :: starEach es X.env := by rfl) (hpl : (backTo pos (starEach es X.env)).any (·.1) = false := by rfl) : PE X (.Call (.Name x p) (e :: es) [] pos) (tCall sp [] E t) := by
  obtain ⟨f, fd, F, m, kp, b⟩ := c
  exact pe_call F hr hg m kp b .nil hx ha hdb he hpl
theorem pe_can0 {k : Nat} {x : Str} {ps : List Str} {sp : Sp} {E : XK} {p pos : Pos} (c : Can (wdOf X) k x ps sp) (hr : Room k X.A) (hx : Passes (L2.CX X.prog X.w) X E) (hg : Gl X x := by rfl)
    (hdb : (x == ("__debug__" : Str)) = false := by decide) : PE X (.Call (.Name x p) [] [] pos) (tCall sp [] E tNil) := by
  obtain ⟨f, fd, F, m, kp, b⟩ := c
  exact pe_call0 F hr hg m kp b .nil hx hdb
def DefAt (e : Wd) (x : Str) (st : Stmt) : Prop := ∃ f fd, FunD e.K x x (defArgs st) (defBody st) (defScope st) [] [] f fd ∧ e.mg x = some (.ref f)
/-- how its arguments bind -/
abbrev BindOk (x : Str) (st : Stmt) (ps : List Str) : Prop := ∀ (kV doc pm : Value) (an : Option Addr) (cdv ct : Value) (us : List Value), us.length = ps.length → bindArgs (PySem.W.fnOf x x (defArgs st) (defBody st) (defScope st) .none kV doc pm an cdv ct) ⟨us, []⟩ = pure (ps.zip us)
/-- a def that lets no error out -/
theorem fnok_of {e : Wd} {x : Str} {st : Stmt} {N ps : List Str} {k : Nat} {sp : Sp} {f : Addr} {fd : FuncData} (F : FunD e.K x x (defArgs st) (defBody st) (defScope st) [] [] f fd) (S : FnScope N ps (defScope st)) (len : ∀ vs H Q E, sp vs H Q E → vs.length = ps.length)
    (hbody : ∀ (cdv : Value) (f : Addr) (A : Around) (outer : List Env) (s : Shared) (H : Hp) (vs : List V) (Q : VK) (E : XK), Room k (A.deeper (envOfC x (defScope st) s.heap.objs.size f cdv)) → sp vs H Q E →
      ∃ t, PSs (cxOf (L2.CX e.P e.w) e.P e.w e.K e.mg e.base N x (defScope st) f cdv A outer s H E).nox (defBody st) t ∧ t { nx := fun _ H' => Q .non H', rt := Q } (start N vs) H) : FnOk e.P e.w e.K e.mg e.base (L2.CX e.P e.w) (k + 1) f fd ps sp :=
  F.ok S len fun cdv A outer s H vs Q E hr h => by
    obtain ⟨t, h1, h2⟩ := hbody cdv f A outer s H vs Q E hr h
    exact ⟨t, h1.nox, h2⟩
theorem can_of {e : Wd} {x : Str} {st : Stmt} {N ps : List Str} {k : Nat} {sp : Sp} (D : DefAt e x st) (S : FnScope N ps (defScope st)) (B : BindOk x st ps) (len : ∀ vs H Q E, sp vs H Q E → vs.length = ps.length)
    (hbody : ∀ (cdv : Value) (f : Addr) (A : Around) (outer : List Env) (s : Shared) (H : Hp) (vs : List V) (Q : VK) (E : XK), Room k (A.deeper (envOfC x (defScope st) s.heap.objs.size f cdv)) → sp vs H Q E →
      ∃ t, PSs (cxOf (L2.CX e.P e.w) e.P e.w e.K e.mg e.base N x (defScope st) f cdv A outer s H E).nox (defBody st) t ∧ t { nx := fun _ H' => Q .non H', rt := Q } (start N vs) H) : Can e (k + 1) x ps sp := by
  obtain ⟨f, fd, F, m⟩ := D
  exact ⟨f, fd, fnok_of F S len hbody, m, F.kp, F.bindsN B⟩
/-- a text, an int of the module's -/
theorem pe_gs {x z : Str} {pos : Pos} (h : ∃ t, X.mg x = some (.str z t)) (hg : Gl X x := by rfl) (hd : (x == ("__debug__" : Str)) = false := by decide) : PE X (.Name x pos) (tC (.str z)) := by
  obtain ⟨t, h⟩ := h
  exact pe_glob hg h ⟨t, rfl⟩ hd
theorem pe_gi {x : Str} {i : Int} {pos : Pos} (h : ∃ t, X.mg x = some (.int i t)) (hg : Gl X x := by rfl) (hd : (x == ("__debug__" : Str)) = false := by decide) : PE X (.Name x pos) (tC (.int i)) := by
  obtain ⟨t, h⟩ := h
  exact pe_glob hg h ⟨t, rfl⟩ hd
end
end Dk

/-! What a reading asks, word by word; a walk over readings. -/
namespace Dk
open PySem PySem.Spec PyProof.Rows L2
section
variable {X : Cx} {K : PySem.W.Frag} {σ : L2.St} {H : Hp} {Q : VK} {QB : Bool → Hp → Prop} {D : Ends} {ta tb tc te : TE} {t u c : TT} {r r' : R2} {i : Nat} {x y v : V} {tA tA' : TA} {tS uS : TS}
/-! ### rules that are lacking in the modules: a value's truth; what a for walks, of any kind -/
def tTru (K : PySem.W.Frag) (te : TE) : TT := fun σ H Q => te σ H fun x H' => ∃ k, TruV K x H' k ∧ Q k H'
theorem pt_tru {a : Expr} (ha : PE X a te) (hK : X.K = K := by rfl) (he : ∀ whole, isTrue a X.env whole = (do let v ← whole; standAt a.pos; holding [v] (truthy v)) := by intro _; rfl) : PT X a (tTru K te) := by
  subst hK
  exact pt_truth ha he
theorem pior {tg e : Expr} {w1 w2 : TI} (h1 : PI X tg e w1) (h2 : PI X tg e w2) : PI X tg e (fun σ H R => w1 σ H R ∨ w2 σ H R) :=
  ⟨fun pins s σ H R I h => h.elim (h1.run pins s σ H R I) (h2.run pins s σ H R I)⟩
theorem peor {e : Expr} {w1 w2 : TE} (h1 : PE X e w1) (h2 : PE X e w2) : PE X e (fun σ H R => w1 σ H R ∨ w2 σ H R) :=
  ⟨fun pins s σ H R I h => h.elim (h1.run pins s σ H R I) (h2.run pins s σ H R I)⟩
/-- a list, a tuple, a text -/
def iU (K : PySem.W.Frag) (te : TE) : TI := fun σ H R => te σ H fun x H1 => match x with
  | .ref a => ((∃ xs, SqL K H1 a xs) ∧ R (Itl K a) H1) ∨ ((∃ xs, SqT K H1 a xs) ∧ R (Itt K a) H1)
  | .str z => R (Its z) H1
  | _ => False
theorem pi_U {tg l : Expr} (hl : PE X l te) (hK : X.K = K := by rfl) : PI X tg l (iU K te) := by
  subst hK
  refine ⟨fun pins s σ H R I h => ?_⟩
  refine thn (hl.run pins s σ H _ I h) fun v s1 ⟨x, H1, I1, r1, q1⟩ => ?_
  cases x with
  | ref a =>
    cases r1
    rcases q1 with ⟨⟨xs, hq⟩, q⟩ | ⟨⟨xs, hq⟩, q⟩
    · obtain ⟨its, rv, p, hz⟩ := I1.list hq
      refine wpAny_pyIter_list p.isList ?_
      refine ⟨s1.heap.objs.size, [s1.heap.objs.size], _, _, H1, rfl, I1.kept (t' := s1.toks) fun b o e => Heap.get?_push_of_some _ e, turn_list a _, ⟨_, Heap.get?_push_size _ rfl, rfl, rfl⟩, fun b hb => ?_, q⟩
      have e : b = s1.heap.objs.size := by simpa using hb
      subst e
      exact I1.fpOk (Nat.le_refl _) (I1.hok.fresh (Nat.le_refl _))
    · obtain ⟨its, rv, p, hz⟩ := I1.tuple hq
      refine wpAny_pyIter_tuple (show s1.heap.IsTuple a its.toArray from p) ?_
      refine ⟨s1.heap.objs.size, [s1.heap.objs.size], _, _, H1, rfl, I1.kept (t' := s1.toks) fun b o e => Heap.get?_push_of_some _ e, turn_tuple a _, ⟨_, Heap.get?_push_size _ rfl, rfl, rfl⟩, fun b hb => ?_, q⟩
      have e : b = s1.heap.objs.size := by simpa using hb
      subst e
      exact I1.fpOk (Nat.le_refl _) (I1.hok.fresh (Nat.le_refl _))
  | str z =>
    obtain ⟨t, rfl⟩ := r1
    cases ha : z.cps.all (· < 128)
    · exact wpAny_pyIter_wide ha (pi_one (tk := s1.toks) I1 _ (turn_str _ z t "str_iterator" (.inr rfl)) ⟨_, Heap.get?_push_size _ rfl, rfl, rfl⟩ q1)
    · exact wpAny_pyIter_ascii ha (pi_one (tk := s1.toks) I1 _ (turn_str _ z t "str_ascii_iterator" (.inl rfl)) ⟨_, Heap.get?_push_size _ rfl, rfl, rfl⟩ q1)
  | _ => exact False.elim q1
theorem pe_notU {a : Expr} {pos : Pos} (ha : PE X a ta) (hK : X.K = K := by rfl) : PE X (.UnaryOp .Not a pos) (tNotT K ta) := by
  subst hK
  exact pe_notT ha
theorem pe_andU {a b : Expr} {rest : List Expr} {pos : Pos} (ha : PE X a ta) (hb : PE X (.BoolOp .And (b :: rest) pos) tb) (hK : X.K = K := by rfl) : PE X (.BoolOp .And (a :: b :: rest) pos) (tAndT K ta tb) := by
  subst hK
  exact pe_andT ha hb
theorem pe_orU {a b : Expr} {rest : List Expr} {pos : Pos} (ha : PE X a ta) (hb : PE X (.BoolOp .Or (b :: rest) pos) tb) (hK : X.K = K := by rfl) : PE X (.BoolOp .Or (a :: b :: rest) pos) (tOrT K ta tb) := by
  subst hK
  exact pe_orT ha hb
theorem pg_tupU {es : List Expr} {k : Nat} {t : TGs} {n : Nat} {pos : Pos} (hc : X.calm = true) (h : PGs X es t) (hK : X.K = K := by rfl)
    (hn : (assignEach es X.env).length = n := by rfl) (hst : (assignEach es X.env).findIdx? (·.1) = none := by rfl) : PG X (.Tuple es k pos) (gTup K n t) := by
  subst hK
  exact pg_tup hc h hn hst
theorem pe_bmU {T id : String} {name : Str} {r : V → List V → Hp → VK → Prop} {o e : Expr} {es : List Expr} {apos cpos : Pos} (pa : PlainAttrs T) (slot : Slot T name id) (hty : typeOf (.builtin id) = pure (.type "method_descriptor")) (hm : MtR X id r) (ho : PE X o te) (ha : PA X (e :: es) tA)
    (hK : X.K = K := by rfl) (hbase : attributeBase o name X.env (eval o X.env) = eval o X.env := by rfl)
    (hfew : ((backTo cpos (starEach (e :: es) X.env)).all (fun x => !x.1) && (backToKw cpos (keywordEach [] X.env)).all (fun x => x.1.isSome)
      && decide ((e :: es).length + ([] : List Keyword).length + (if ([] : List Keyword).isEmpty then 0 else 1) < 30)) = true := by rfl)
    (hline : (apos.endLine == cpos.line) = true := by rfl) (hs : starEach (e :: es) X.env = (false, eval e X.env) :: starEach es X.env := by rfl) (hplain : (backTo cpos (starEach es X.env)).any (·.1) = false := by rfl) :
    PE X (.Call (.Attribute o name apos) (e :: es) [] cpos) (tBM K T r te tA) := by
  subst hK
  exact pe_bm pa slot hty hm ho ha hbase hfew hline hs hplain
theorem pe_bm0U {T id : String} {name : Str} {r : V → List V → Hp → VK → Prop} {o : Expr} {apos cpos : Pos} (pa : PlainAttrs T) (slot : Slot T name id) (hty : typeOf (.builtin id) = pure (.type "method_descriptor")) (hm : MtR X id r) (ho : PE X o te)
    (hK : X.K = K := by rfl) (hbase : attributeBase o name X.env (eval o X.env) = eval o X.env := by rfl) (hline : (apos.endLine == cpos.line) = true := by rfl) : PE X (.Call (.Attribute o name apos) [] [] cpos) (tBM0 K T r te) := by
  subst hK
  exact pe_bm0 pa slot hty hm ho hbase hline
/-! ### readings: expressions -/
/-- a truth value is wanted, an int is wanted -/
def bq (x : V) (H : Hp) (QB : Bool → Hp → Prop) : Prop := ∃ k, x = .bl k ∧ QB k H
def trq (K : PySem.W.Frag) (x : V) (H : Hp) (QB : Bool → Hp → Prop) : Prop := ∃ k, TruV K x H k ∧ QB k H
def newq (n : Nat) (o : HO) (H : Hp) (Q : VK) : Prop := n ≤ sizeLine ∧ ∀ p, H p = none → Q (.ref p) (upd H p o)
def parq (a b : Nat) (vs : List V) (σ : L2.St) (D : Ends) (H : Hp) : Prop := ∃ v w, vs = [v, w] ∧ D.nx ((σ.set a (some v)).set b (some w)) H
def iq (x : V) (P : Int → Prop) : Prop := ∃ n, x = .int n ∧ P n
theorem r_var (h : σ[i]? = some (some v)) (q : Q v H) : tVar i σ H Q := ⟨v, h, q⟩
theorem r_c (q : Q v H) : tC v σ H Q := q
theorem r_op (q : ta σ H fun x H1 => tb σ H1 fun y H2 => r x y H2 Q) : tOp r ta tb σ H Q := q
theorem r_un {f : V → Hp → VK → Prop} (q : ta σ H fun x H1 => f x H1 Q) : tUn f ta σ H Q := q
theorem r_neg {g : Int → V} {n : Int} (q : Q (g n) H) : rU g (.int n) H Q := ⟨n, rfl, q⟩
theorem r_test (q : te σ H fun x H1 => bq x H1 QB) : tTest te σ H QB := q
theorem r_tB (q : te σ H fun x H1 => bq x H1 QB) : tB te σ H QB := q
theorem r_bl {b : Bool} {H : Hp} (q : QB b H) : bq (.bl b) H QB := ⟨b, rfl, q⟩
theorem r_tru (q : te σ H fun x H1 => trq K x H1 QB) : tTru K te σ H QB := q
theorem r_trub {b : Bool} (q : QB b H) : trq K (.bl b) H QB := ⟨b, rfl, q⟩
theorem r_trui {n : Int} (q : QB (n != 0) H) : trq K (.int n) H QB := ⟨_, rfl, q⟩
theorem r_trun (q : QB false H) : trq K .non H QB := ⟨_, rfl, q⟩
theorem r_trus {z : Str} (hz : z.length ≤ sizeLine) (q : QB ((z.length : Int) != 0) H) : trq K (.str z) H QB := ⟨_, ⟨hz, rfl⟩, q⟩
theorem r_trul {p : Addr} {xs : List V} (h : SqL K H p xs) (q : QB (!xs.isEmpty) H) : trq K (.ref p) H QB := ⟨_, .inl ⟨xs, h, rfl⟩, q⟩
theorem r_trut {p : Addr} {xs : List V} (h : SqT K H p xs) (q : QB (!xs.isEmpty) H) : trq K (.ref p) H QB := ⟨_, .inr (.inl ⟨xs, h, rfl⟩), q⟩
theorem r_and (q : t σ H fun b H1 => if b = true then u σ H1 QB else QB false H1) : tAnd t u σ H QB := q
theorem r_or (q : t σ H fun b H1 => if b = true then QB true H1 else u σ H1 QB) : tOr t u σ H QB := q
theorem r_not (q : t σ H fun b H1 => QB (!b) H1) : tNot t σ H QB := q
theorem r_andT (q : ta σ H fun x H1 => trq K x H1 fun k H2 => if k = true then tb σ H2 Q else Q x H2) : tAndT K ta tb σ H Q := q
theorem r_orT (q : ta σ H fun x H1 => trq K x H1 fun k H2 => if k = true then Q x H2 else tb σ H2 Q) : tOrT K ta tb σ H Q := q
theorem r_notT (q : ta σ H fun x H1 => trq K x H1 fun k H2 => Q (.bl (!k)) H2) : tNotT K ta σ H Q := q
theorem r_ifx (q : t σ H fun b H1 => if b = true then ta σ H1 Q else tb σ H1 Q) : tIf t ta tb σ H Q := q
theorem r_chain (q : ta σ H fun x H1 => tb σ H1 fun y H2 => r x y H2 fun z H3 => bq z H3 fun k H4 => if k = true then tc σ H4 (fun w H5 => r' y w H5 Q) else Q (.bl false) H4) : tChain r r' ta tb tc σ H Q := q
theorem r_nil {QA : List V → Hp → Prop} (q : QA [] H) : tNil σ H QA := q
theorem r_cons {QA : List V → Hp → Prop} (q : ta σ H fun x H1 => tA σ H1 fun xs H2 => QA (x :: xs) H2) : tCons ta tA σ H QA := q
theorem r_tup (q : tA σ H fun xs H1 => newq xs.length (.tup xs) H1 Q) : tTup tA σ H Q := q
theorem r_lst (q : tA σ H fun xs H1 => newq xs.length (.lst xs) H1 Q) : tLst tA σ H Q := q
/-- a new object: the heap behind it by what is known of it -/
theorem r_new {o : HO} {n : Nat} (hn : n ≤ sizeLine) (k : ∀ p H', H p = none → Same H H' → H' p = some o → Q (.ref p) H') : newq n o H Q :=
  ⟨hn, fun p np => k p _ np (same_new np) upd_same⟩
theorem r_new0 {o : HO} (k : ∀ p H', H p = none → Same H H' → H' p = some o → Q (.ref p) H') : ∀ p, H p = none → Q (.ref p) (upd H p o) :=
  fun p np => k p _ np (same_new np) upd_same
theorem r_cb {f : List V → Hp → VK → Prop} (q : tA σ H fun vs H1 => f vs H1 Q) : tCB f tA σ H Q := q
theorem r_call {sp : Sp} {E : XK} (q : tA σ H fun vs H1 => sp vs H1 Q E) : tCall sp [] E tA σ H Q := by
  show tA σ H fun vs H1 => sp (vs ++ []) H1 Q E
  have e : (fun vs H1 => sp (vs ++ []) H1 Q E) = fun (vs : List V) H1 => sp vs H1 Q E := by
    funext vs H1
    rw [List.append_nil]
  rw [e]
  exact q
theorem r_bm {T : String} {f : V → List V → Hp → VK → Prop} (q : ta σ H fun x H1 => tyV K T x H1 ∧ tA σ H1 fun xs H2 => f x xs H2 Q) : tBM K T f ta tA σ H Q := q
theorem r_bm0 {T : String} {f : V → List V → Hp → VK → Prop} (q : ta σ H fun x H1 => tyV K T x H1 ∧ f x [] H1 Q) : tBM0 K T f ta σ H Q := q
theorem r_tys {z : Str} {P : Prop} (q : P) : tyV K "str" (.str z) H ∧ P := ⟨rfl, q⟩
theorem r_tyl {p : Addr} {xs : List V} {P : Prop} (h : H p = some (.lst xs)) (q : P) : tyV K "list" (.ref p) H ∧ P := ⟨.inl ⟨rfl, xs, SqL.of h⟩, q⟩
theorem r_sl {f : V → Option Int → Option Int → Hp → VK → Prop} {tl th : TO} (q : te σ H fun x H1 => tl σ H1 fun l H2 => th σ H2 fun h H3 => f x l h H3 Q) : tSl f te tl th σ H Q := q
theorem r_part {QO : Option Int → Hp → Prop} (q : te σ H fun x H1 => iq x fun n => QO (some n) H1) : tPart te σ H QO := q
theorem r_nopart {QO : Option Int → Hp → Prop} (q : QO none H) : tNoPart σ H QO := q
/-! values -/
theorem r_addI {n m : Int} (q : Q (.int (n + m)) H) : uAdd K (.int n) (.int m) H Q := q
theorem r_addS {a b : Str} (h : a.length + b.length ≤ sizeLine) (q : Q (.str (a ++ b)) H) : uAdd K (.str a) (.str b) H Q := ⟨h, q⟩
theorem r_addT {a b : Addr} {xs ys : List V} (ha : H a = some (.tup xs)) (hb : H b = some (.tup ys)) (hl : xs.length + ys.length ≤ sizeLine) (k : ∀ p H', Same H H' → H' p = some (.tup (xs ++ ys)) → Q (.ref p) H') : uAdd K (.ref a) (.ref b) H Q := by
  refine .inr ⟨a, b, xs, ys, rfl, rfl, SqT.of ha, SqT.of hb, hl, fun e => ?_, fun _ e => ?_, fun _ _ p np => k p _ (same_new np) upd_same⟩
  · exact k b H (Same.refl H) (by rw [e, List.nil_append]; exact hb)
  · exact k a H (Same.refl H) (by rw [e, List.append_nil]; exact ha)
theorem r_addL {a b : Addr} {xs ys : List V} (ha : H a = some (.lst xs)) (hb : H b = some (.lst ys)) (hl : xs.length + ys.length ≤ sizeLine) (k : ∀ p H', H p = none → Same H H' → H' p = some (.lst (xs ++ ys)) → Q (.ref p) H') : uAdd K (.ref a) (.ref b) H Q :=
  .inl ⟨a, b, xs, ys, rfl, rfl, ha, hb, hl, fun p np => k p _ np (same_new np) upd_same⟩
theorem r_I {C : Int → Int → Prop} {g : Int → Int → V} {n m : Int} (h : C n m) (q : Q (g n m) H) : uI C g (.int n) (.int m) H Q := ⟨h, q⟩
theorem r_I0 {g : Int → Int → V} {n m : Int} (q : Q (g n m) H) : uI0 g (.int n) (.int m) H Q := q
theorem r_mulI {n m : Int} (h : CMul n m) (q : Q (.int (n * m)) H) : uMul (.int n) (.int m) H Q := ⟨h, q⟩
theorem r_mulL {a : Addr} {n : Int} {xs : List V} (ha : H a = some (.lst xs)) (h0 : -(2 ^ 63) ≤ n) (h1 : n < 2 ^ 63) (hl : xs.length * n.toNat ≤ sizeLine) (k : ∀ p H', H p = none → Same H H' → H' p = some (.lst (List.replicate n.toNat xs).flatten) → Q (.ref p) H') : uMul (.ref a) (.int n) H Q :=
  ⟨a, n, xs, rfl, rfl, ha, h0, h1, hl, fun p np => k p _ np (same_new np) upd_same⟩
theorem r_eqI {n m : Int} (q : Q (.bl (decide (n = m))) H) : uEq K (.int n) (.int m) H Q := q
theorem r_eqS {n m : Str} (q : Q (.bl (decide (n = m))) H) : uEq K (.str n) (.str m) H Q := q
theorem r_neI {n m : Int} (q : Q (.bl (!decide (n = m))) H) : uNe K (.int n) (.int m) H Q := q
theorem r_neS {n m : Str} (q : Q (.bl (!decide (n = m))) H) : uNe K (.str n) (.str m) H Q := q
theorem r_eqB {n m : Bool} (q : Q (.bl (decide (V.bl n = V.bl m))) H) : uEq K (.bl n) (.bl m) H Q := .inl ⟨rfl, q⟩
theorem r_eqD {a : Addr} {y : V} {d f : PyData} (hx : Dq H (.ref a) d) (hy : Dq H y f) (sd : SeqAt.shaped d = true) (sf : SeqAt.shaped f = true) (q : Q (.bl (PyData.eqv d f)) H) : uEq K (.ref a) y H Q := by
  have z : rEqD K (.ref a) y H Q := ⟨d, f, hx.dp, hy.dp, sd, sf, q⟩
  cases y <;> exact .inr z
theorem r_eqD2 {a : Addr} {x : V} {d f : PyData} (hx : Dq H x d) (hy : Dq H (.ref a) f) (sd : SeqAt.shaped d = true) (sf : SeqAt.shaped f = true) (q : Q (.bl (PyData.eqv d f)) H) : uEq K x (.ref a) H Q := by
  have z : rEqD K x (.ref a) H Q := ⟨d, f, hx.dp, hy.dp, sd, sf, q⟩
  cases x <;> exact .inr z
theorem r_neD {a : Addr} {y : V} {d f : PyData} (hx : Dq H (.ref a) d) (hy : Dq H y f) (sd : SeqAt.shaped d = true) (sf : SeqAt.shaped f = true) (q : Q (.bl (!PyData.eqv d f)) H) : uNe K (.ref a) y H Q := by
  have z : rNeD K (.ref a) y H Q := ⟨d, f, hx.dp, hy.dp, sd, sf, q⟩
  cases y <;> exact .inr z
theorem r_neD2 {a : Addr} {x : V} {d f : PyData} (hx : Dq H x d) (hy : Dq H (.ref a) f) (sd : SeqAt.shaped d = true) (sf : SeqAt.shaped f = true) (q : Q (.bl (!PyData.eqv d f)) H) : uNe K x (.ref a) H Q := by
  have z : rNeD K x (.ref a) H Q := ⟨d, f, hx.dp, hy.dp, sd, sf, q⟩
  cases x <;> exact .inr z
theorem r_isN (q : Q (.bl (decide (x = .non))) H) : uIs x .non H Q := q
theorem r_isB {a b : Bool} (q : Q (.bl (decide (a = b))) H) : uIs (.bl a) (.bl b) H Q := q
theorem r_isnotN (q : Q (.bl (!decide (x = .non))) H) : uIsNot x .non H Q := q
theorem r_isnotB {a b : Bool} (q : Q (.bl (!decide (a = b))) H) : uIsNot (.bl a) (.bl b) H Q := q
theorem r_inS {a b : Str} (q : Q (.bl (occ a b)) H) : uIn K (.str a) (.str b) H Q := q
theorem r_notinS {a b : Str} (q : Q (.bl (!occ a b)) H) : uNotIn K (.str a) (.str b) H Q := q
theorem r_inT {p : Addr} {xs : List V} (h : H p = some (.tup xs)) (hx : flatV x = true) (ha : xs.all flatV = true) (q : Q (.bl (inV x xs)) H) : uIn K x (.ref p) H Q := .inl ⟨p, xs, rfl, .inr (SqT.of h), hx, ha, q⟩
theorem r_inL {p : Addr} {xs : List V} (h : H p = some (.lst xs)) (hx : flatV x = true) (ha : xs.all flatV = true) (q : Q (.bl (inV x xs)) H) : uIn K x (.ref p) H Q := .inl ⟨p, xs, rfl, .inl (SqL.of h), hx, ha, q⟩
theorem r_notinT {p : Addr} {xs : List V} (h : H p = some (.tup xs)) (hx : flatV x = true) (ha : xs.all flatV = true) (q : Q (.bl (!inV x xs)) H) : uNotIn K x (.ref p) H Q := .inl ⟨p, xs, rfl, .inr (SqT.of h), hx, ha, q⟩
theorem r_lenS {z : Str} (h : z.length ≤ sizeLine) (q : Q (.int z.length) H) : uLen K [.str z] H Q := ⟨h, q⟩
theorem r_lenT {p : Addr} {xs : List V} (h : H p = some (.tup xs)) (q : Q (.int xs.length) H) : uLen K [.ref p] H Q := ⟨xs.length, .inr ⟨xs, SqT.of h, rfl⟩, q⟩
theorem r_lenL {p : Addr} {xs : List V} (h : SqL K H p xs) (q : Q (.int xs.length) H) : uLen K [.ref p] H Q := ⟨xs.length, .inl ⟨xs, h, rfl⟩, q⟩
theorem r_intI {n : Int} (q : Q (.int n) H) : uInt [.int n] H Q := q
theorem r_intB {b : Bool} (q : Q (.int (if b then 1 else 0)) H) : uInt [.bl b] H Q := q
theorem r_tupleL {p : Addr} {xs : List V} (h : H p = some (.lst xs)) (k : ∀ p H', H p = none → Same H H' → H' p = some (.tup xs) → Q (.ref p) H') : uTuple K [.ref p] H Q := ⟨xs, .inl ⟨SqL.of h, r_new0 k⟩⟩
theorem r_tupleT {p : Addr} {xs : List V} (h : H p = some (.tup xs)) (q : Q (.ref p) H) : uTuple K [.ref p] H Q := ⟨xs, .inr ⟨SqT.of h, q⟩⟩
theorem r_listT {p : Addr} {xs : List V} (h : H p = some (.tup xs)) (k : ∀ p H', H p = none → Same H H' → H' p = some (.lst xs) → Q (.ref p) H') : uList K [.ref p] H Q := ⟨xs, .inr (SqT.of h), r_new0 k⟩
theorem r_listL {p : Addr} {xs : List V} (h : H p = some (.lst xs)) (k : ∀ p H', H p = none → Same H H' → H' p = some (.lst xs) → Q (.ref p) H') : uList K [.ref p] H Q := ⟨xs, .inl (SqL.of h), r_new0 k⟩
theorem r_isi {n m : String} {b : Bool} (h : tyN H x = some n) (hk : kitB n m = some b) (q : Q (.bl b) H) : uIsi K [x, .ty m] H Q := ⟨n, b, h, hk, q⟩
theorem tyN_t {p : Addr} {xs : List V} (h : H p = some (.tup xs)) : tyN H (.ref p) = some "tuple" := by
  show tyO (H p) = some "tuple"
  rw [h] <;> rfl
theorem tyN_l {p : Addr} {xs : List V} (h : H p = some (.lst xs)) : tyN H (.ref p) = some "list" := by
  show tyO (H p) = some "list"
  rw [h] <;> rfl
theorem r_ixT {p : Addr} {xs : List V} {n : Int} (h : H p = some (.tup xs)) (ha : atI xs n = some v) (q : Q v H) : uIx K (.ref p) (.int n) H Q := ⟨xs, v, .inr (SqT.of h), ha, q⟩
theorem r_ixL {p : Addr} {xs : List V} {n : Int} (h : SqL K H p xs) (ha : atI xs n = some v) (q : Q v H) : uIx K (.ref p) (.int n) H Q := ⟨xs, v, .inl h, ha, q⟩
theorem r_slS {z : Str} {lo hi : Option Int} (h : z.length ≤ sizeLine) (q : Q (.str (cutS z lo hi)) H) : uSl K (.str z) lo hi H Q := ⟨h, q⟩
theorem r_slL {p : Addr} {xs : List V} {lo hi : Option Int} (h : H p = some (.lst xs)) (k : ∀ p H', H p = none → Same H H' → H' p = some (.lst (cutV xs lo hi)) → Q (.ref p) H') : uSl K (.ref p) lo hi H Q := .inl ⟨p, xs, rfl, SqL.of h, r_new0 k⟩
theorem r_S1 {f : Str → Str → V} {a b : Str} (q : Q (f a b) H) : uS1 f (.str a) [.str b] H Q := q
theorem r_S1l {f : Str → Str → V} {a b : Str} (h : a.length ≤ sizeLine) (q : Q (f a b) H) : uS1l f (.str a) [.str b] H Q := ⟨h, q⟩
theorem r_S0 {f : Str → V} {a : Str} (h : a.length ≤ 5592405) (q : Q (f a) H) : uS0 f (.str a) [] H Q := ⟨h, q⟩
theorem r_split {a b : Str} (hb : (b.length == 0) = false) (ha : a.length + 2 ≤ sizeLine) (k : ∀ p H', H p = none → Same H H' → H' p = some (.lst ((Txt.split a b).map V.str)) → Q (.ref p) H') : uSplit (.str a) [.str b] H Q := ⟨hb, ha, r_new0 k⟩
theorem r_join {a : Str} {p : Addr} {ys : List Str} (h : H p = some (.lst (ys.map V.str))) (hl : (ys.map (·.length)).sum + ys.length * a.length ≤ 16777216) (q : Q (.str (Txt.join a ys)) H) : uJoin K (.str a) [.ref p] H Q := ⟨ys, .inl (SqL.of h), hl, q⟩
theorem r_joinT {a : Str} {p : Addr} {ys : List Str} (h : H p = some (.tup (ys.map V.str))) (hl : (ys.map (·.length)).sum + ys.length * a.length ≤ 16777216) (q : Q (.str (Txt.join a ys)) H) : uJoin K (.str a) [.ref p] H Q := ⟨ys, .inr (SqT.of h), hl, q⟩
/-! ### statements -/
theorem r_seq (q : tS (Ends.mk (uS D) D.rt D.bk D.ct) σ H) : tSeq tS uS D σ H := q
theorem r_set (q : te σ H fun x H1 => D.nx (σ.set i (some x)) H1) : tAsg te (gName i) D σ H := q
theorem r_asg {g : TG} (q : te σ H fun x H1 => g x σ H1 D.nx) : tAsg te g D σ H := q
theorem r_gname {QG : L2.St → Hp → Prop} (q : QG (σ.set i (some v)) H) : gName i v σ H QG := q
theorem r_gsub {ts : TSet} {QG : L2.St → Hp → Prop} (q : ta σ H fun o H1 => tb σ H1 fun j H2 => ts o j v H2 fun H3 => QG σ H3) : gSub ta tb ts v σ H QG := q
theorem r_gtup {ts : TGs} {n : Nat} {QG : L2.St → Hp → Prop} {p : Addr} {xs : List V} (h : H p = some (.tup xs)) (hl : xs.length = n) (q : ts xs σ H QG) : gTup K n ts (.ref p) σ H QG := ⟨p, xs, rfl, SqT.of h, hl, q⟩
theorem r_gcons {g : TG} {ts : TGs} {xs : List V} {QG : L2.St → Hp → Prop} (q : g x σ H fun σ' H' => ts xs σ' H' QG) : gCons g ts (x :: xs) σ H QG := ⟨x, xs, rfl, q⟩
theorem r_gnil {QG : L2.St → Hp → Prop} (q : QG σ H) : gNil [] σ H QG := ⟨rfl, q⟩
/-- xs[j] = v, the place known -/
theorem r_setL {a : Addr} {n : Int} {xs : List V} {j : Nat} {Qh : Hp → Prop} (h : H a = some (.lst xs)) (hj : ixN xs.length n = some j) (k : ∀ H', H' a = some (.lst (xs.set j v)) → (∀ b, b ≠ a → H' b = H b) → Qh H') : rSetL (.ref a) (.int n) v H Qh :=
  ⟨a, xs, n, j, rfl, rfl, h, hj, k _ upd_same fun b hb => upd_ne hb⟩
theorem r_par {a b : Nat} (q : tA σ H fun vs H1 => parq a b vs σ D H1) : tPar a b tA D σ H := q
theorem r_par2 {a b : Nat} {v w : V} (q : D.nx ((σ.set a (some v)).set b (some w)) H) : parq a b [v, w] σ D H := ⟨v, w, rfl, q⟩
theorem r_drop (q : te σ H fun _ H1 => D.nx σ H1) : tDrop te D σ H := q
theorem r_ret (q : te σ H D.rt) : tRet te D σ H := q
theorem r_retN (q : D.rt .non H) : tRetN D σ H := q
theorem r_if (q : t σ H fun b H1 => if b = true then tS D σ H1 else uS D σ H1) : tIfS t tS uS D σ H := q
theorem r_next (q : D.nx σ H) : tNext D σ H := q
theorem r_break (q : D.bk σ H) : tBreak D σ H := q
theorem r_cont (q : D.ct σ H) : tCont D σ H := q
theorem r_augI {f : Int → Int → Int} {n : Int} (h : σ[i]? = some (some (.int n))) (q : te σ H fun y H1 => iq y fun m => D.nx (σ.set i (some (.int (f n m)))) H1) : tAug i te (ipI f) D σ H := by
  refine ⟨_, h, ?_⟩
  have e : (fun y H1 => iq y fun m => D.nx (σ.set i (some (.int (f n m)))) H1) = fun y H1 => (ipI f) (.int n) y H1 fun z H2 => D.nx (σ.set i (some z)) H2 := by
    funext y H1
    refine propext ⟨fun ⟨m, e, q⟩ => ⟨n, m, rfl, e, q⟩, fun ⟨a, b, e1, e2, q⟩ => ⟨b, e2, ?_⟩⟩
    cases e1
    exact q
  rw [← e]
  exact q
theorem r_ex1 {P : Int → Prop} {n : Int} (q : P n) : iq (.int n) P := ⟨n, rfl, q⟩
/-- xs.append(v) -/
theorem r_app {l : Addr} {xs : List V} (h : H l = some (.lst xs)) (hl : xs.length < sizeLine) (k : ∀ H', H' l = some (.lst (xs ++ [v])) → (∀ b, b ≠ l → H' b = H b) → Q .non H') : rAppend (.ref l) [v] H Q :=
  ⟨l, xs, v, rfl, rfl, h, hl, k _ upd_same fun b hb => upd_ne hb⟩
/-! ### ways -/
theorem r_ite {p A B : Prop} [Decidable p] (h1 : p → A) (h2 : ¬ p → B) : if decide p = true then A else B := by
  by_cases h : p
  · rw [if_pos (decide_eq_true h)]
    exact h1 h
  · rw [if_neg (by rw [decide_eq_false h]; exact Bool.false_ne_true)]
    exact h2 h
theorem r_iten {p A B : Prop} [Decidable p] (h1 : ¬ p → A) (h2 : p → B) : if (!decide p) = true then A else B := by
  by_cases h : p
  · rw [if_neg (by rw [decide_eq_true h]; exact Bool.false_ne_true)]
    exact h2 h
  · rw [if_pos (by rw [decide_eq_false h] <;> rfl)]
    exact h1 h
theorem r_itb {b : Bool} {A B : Prop} (h1 : b = true → A) (h2 : b = false → B) : if b = true then A else B := by
  cases b with
  | true => exact h1 rfl
  | false => exact h2 rfl
theorem r_iteT {A B : Prop} (h : A) : if true = true then A else B := h
theorem r_iteF {A B : Prop} (h : B) : if false = true then A else B := by
  rw [if_neg Bool.false_ne_true]
  exact h
theorem r_itnT {A B : Prop} (h : B) : if (!true) = true then A else B := by
  rw [if_neg (by decide)]
  exact h
theorem r_itnF {A B : Prop} (h : A) : if (!false) = true then A else B := h
end
end Dk

namespace Dk
open PySem PySem.Spec PyProof.Rows L2
theorem Drw.mono {H H' : Hp} {a : Addr} (s : Same H H') (h : Drw H a) : Drw H' a := let ⟨x, y, e⟩ := h; ⟨x, y, s _ _ e⟩
theorem same_at {H H' : Hp} {a : Addr} {o : HO} (s : Same H H') (h : H a = some o) : H' a = some o := s a o h
theorem Stp.at_ {a b : Addr} {H H' : Hp} {o : HO} (s : Stp a H H') (h : H b = some o) (n : b ≠ a) : H' b = some o := s.fr b o h n
/-- what the top leaves of built-in names: none is hidden -/
structure Bl (mg : Str → Option Value) : Prop where
  b_len : mg "len" = none
  b_int : mg "int" = none
  b_str : mg "str" = none
  b_bool : mg "bool" = none
  b_tuple : mg "tuple" = none
  b_list : mg "list" = none
  b_isinstance : mg "isinstance" = none
  b_range : mg "range" = none
  b_ord : mg "ord" = none
  b_sorted : mg "sorted" = none
  b_min : mg "min" = none
  b_max : mg "max" = none
  b_sum : mg "sum" = none
  b_all : mg "all" = none
  b_any : mg "any" = none
  b_enumerate : mg "enumerate" = none
  b_set : mg "set" = none
  b_zip : mg "zip" = none
  b_dict : mg "dict" = none
  b_reversed : mg "reversed" = none
theorem r_cut {tS uS : TS} {D : Ends} {σ : L2.St} {H : Hp} (M : L2.St → Hp → Prop) (h1 : tS (Ends.mk M D.rt D.bk D.ct) σ H) (h2 : ∀ σ' H', M σ' H' → uS D σ' H') : Evl.tCut tS uS D σ H := ⟨M, h1, h2⟩
theorem atI_nn {α : Type} {xs : List α} {j : Nat} {x : α} (h : xs[j]? = some x) : atI xs (j : Int) = some x := by
  have hl := (List.getElem?_eq_some_iff.mp h).1
  unfold atI ixN
  rw [if_pos (by omega), if_pos (by omega)]
  simpa using h
theorem atI_mod {ns : List Int} (h : 0 < ns.length) (n : Int) : ∃ v, atI (ns.map V.int) (n % (ns.length : Int)) = some (.int v) := by
  have h1 : 0 ≤ n % (ns.length : Int) := Int.emod_nonneg _ (by omega)
  have h2 : n % (ns.length : Int) < ns.length := Int.emod_lt_of_pos _ (by omega)
  obtain ⟨j, hj⟩ : ∃ j : Nat, n % (ns.length : Int) = j := ⟨(n % (ns.length : Int)).toNat, by omega⟩
  rw [hj]
  have hl : j < ns.length := by omega
  exact ⟨ns[j], atI_nn (by rw [List.getElem?_map, List.getElem?_eq_getElem hl] <;> rfl)⟩
/-- a list is changed that is the law's own state -/
theorem Stp.but {a : Addr} {H H1 H2 : Hp} (s : Stp a H H1) {x y : Int} (h : H2 a = some (.lst [.int x, .int y])) (k : ∀ b, b ≠ a → H2 b = H1 b) : Stp a H H2 := by
  obtain ⟨u, v, e⟩ := s.drw
  have na : ∀ b o, H1 b = some o → (∀ xs, o ≠ .lst xs) → b ≠ a := fun b o q n z => by
    rw [z, e] at q
    exact n _ (Option.some.inj q).symm
  exact ⟨fun b o q n => by rw [k b n]; exact s.fr b o q n,
    ⟨fun b xs q => by rw [k b (na _ _ (s.gro.tup b xs q) fun _ z => by cases z)]; exact s.gro.tup b xs q, fun b o u q => by rw [k b (na _ _ (s.gro.frz b o u q) fun _ z => by cases z)]; exact s.gro.frz b o u q⟩, ⟨x, y, h⟩⟩
theorem from_ {H H' : Hp} {a : Addr} {o : HO} (h : H a = some o) (s : H a = some o → H' a = some o) : H' a = some o := s h
/-- a promise that no error is asked of: nothing leaves the def -/
theorem fnok_0 {P : Program} {w : World} {K : PySem.W.Frag} {mg : Str → Option Value} {base : Heap} {k : Nat} {f : Addr} {fd : FuncData} {ps : List Str} {sp : Sp} (F : FnOk P w K mg base (L2.CX P w) k f fd ps sp) (hE : ∀ vs H Q E, sp vs H Q E → sp vs H Q E0) :
    FnOk P w K mg base CX0 k f fd ps sp :=
  ⟨F.len, fun A outer s H args us vs Q E hr e0 hb r h => codeAny_mono (F.run A outer s H args us vs Q E0 hr e0 hb r (hE _ _ _ _ h)) fun r s' hq => by
    cases r with
    | error e =>
      obtain ⟨_, _, _, _, _, _, _, _, _, _, _, _, z⟩ := hq
      exact z.elim
    | ok fl => cases fl <;> exact hq⟩
/-! short texts -/
abbrev trS : Str := Str.ofString "Received: by "
abbrev atS : Str := Str.ofString "@"
abbrev eS : Str := Str.ofString ""
abbrev dotS : Str := Str.ofString "."
theorem trS_len : (Str.ofString "Received: by ").length = 13 := by decide +kernel
theorem atS_len : (Str.ofString "@").length = 1 := by decide +kernel
theorem eS_len : (Str.ofString "").length = 0 := by decide +kernel
theorem dotS_len : (Str.ofString ".").length = 1 := by decide +kernel
/-! isinstance of built-in values -/
theorem kit_NoneType_int : kitB "NoneType" "int" = some false := by decide +kernel
theorem kit_NoneType_bool : kitB "NoneType" "bool" = some false := by decide +kernel
theorem kit_NoneType_tuple : kitB "NoneType" "tuple" = some false := by decide +kernel
theorem kit_NoneType_str : kitB "NoneType" "str" = some false := by decide +kernel
theorem kit_NoneType_list : kitB "NoneType" "list" = some false := by decide +kernel
theorem kit_bool_int : kitB "bool" "int" = some true := by decide +kernel
theorem kit_bool_bool : kitB "bool" "bool" = some true := by decide +kernel
theorem kit_bool_tuple : kitB "bool" "tuple" = some false := by decide +kernel
theorem kit_bool_str : kitB "bool" "str" = some false := by decide +kernel
theorem kit_bool_list : kitB "bool" "list" = some false := by decide +kernel
theorem kit_int_int : kitB "int" "int" = some true := by decide +kernel
theorem kit_int_bool : kitB "int" "bool" = some false := by decide +kernel
theorem kit_int_tuple : kitB "int" "tuple" = some false := by decide +kernel
theorem kit_int_str : kitB "int" "str" = some false := by decide +kernel
theorem kit_int_list : kitB "int" "list" = some false := by decide +kernel
theorem kit_str_int : kitB "str" "int" = some false := by decide +kernel
theorem kit_str_bool : kitB "str" "bool" = some false := by decide +kernel
theorem kit_str_tuple : kitB "str" "tuple" = some false := by decide +kernel
theorem kit_str_str : kitB "str" "str" = some true := by decide +kernel
theorem kit_str_list : kitB "str" "list" = some false := by decide +kernel
theorem kit_list_int : kitB "list" "int" = some false := by decide +kernel
theorem kit_list_bool : kitB "list" "bool" = some false := by decide +kernel
theorem kit_list_tuple : kitB "list" "tuple" = some false := by decide +kernel
theorem kit_list_str : kitB "list" "str" = some false := by decide +kernel
theorem kit_list_list : kitB "list" "list" = some true := by decide +kernel
theorem kit_tuple_int : kitB "tuple" "int" = some false := by decide +kernel
theorem kit_tuple_bool : kitB "tuple" "bool" = some false := by decide +kernel
theorem kit_tuple_tuple : kitB "tuple" "tuple" = some true := by decide +kernel
theorem kit_tuple_str : kitB "tuple" "str" = some false := by decide +kernel
theorem kit_tuple_list : kitB "tuple" "list" = some false := by decide +kernel
/-! promises by the number of the arguments -/
def sp1 (f : V → Hp → VK → XK → Prop) : Sp := fun vs H Q E => match vs with
  | [v0] => f v0 H Q E
  | _ => False
theorem sp1_ex {f : V → Hp → VK → XK → Prop} {vs : List V} {H : Hp} {Q : VK} {E : XK} (h : sp1 f vs H Q E) : ∃ v0, vs = [v0] ∧ f v0 H Q E := by
  match vs, h with
  | [v0], h => exact ⟨_, rfl, h⟩
theorem sp1_len {f : V → Hp → VK → XK → Prop} {vs : List V} {H : Hp} {Q : VK} {E : XK} (h : sp1 f vs H Q E) : vs.length = 1 := by
  match vs, h with
  | [v0], h => rfl
def sp2 (f : V → V → Hp → VK → XK → Prop) : Sp := fun vs H Q E => match vs with
  | [v0, v1] => f v0 v1 H Q E
  | _ => False
theorem sp2_ex {f : V → V → Hp → VK → XK → Prop} {vs : List V} {H : Hp} {Q : VK} {E : XK} (h : sp2 f vs H Q E) : ∃ v0 v1, vs = [v0, v1] ∧ f v0 v1 H Q E := by
  match vs, h with
  | [v0, v1], h => exact ⟨_, _, rfl, h⟩
theorem sp2_len {f : V → V → Hp → VK → XK → Prop} {vs : List V} {H : Hp} {Q : VK} {E : XK} (h : sp2 f vs H Q E) : vs.length = 2 := by
  match vs, h with
  | [v0, v1], h => rfl
def sp3 (f : V → V → V → Hp → VK → XK → Prop) : Sp := fun vs H Q E => match vs with
  | [v0, v1, v2] => f v0 v1 v2 H Q E
  | _ => False
theorem sp3_ex {f : V → V → V → Hp → VK → XK → Prop} {vs : List V} {H : Hp} {Q : VK} {E : XK} (h : sp3 f vs H Q E) : ∃ v0 v1 v2, vs = [v0, v1, v2] ∧ f v0 v1 v2 H Q E := by
  match vs, h with
  | [v0, v1, v2], h => exact ⟨_, _, _, rfl, h⟩
theorem sp3_len {f : V → V → V → Hp → VK → XK → Prop} {vs : List V} {H : Hp} {Q : VK} {E : XK} (h : sp3 f vs H Q E) : vs.length = 3 := by
  match vs, h with
  | [v0, v1, v2], h => rfl
def sp4 (f : V → V → V → V → Hp → VK → XK → Prop) : Sp := fun vs H Q E => match vs with
  | [v0, v1, v2, v3] => f v0 v1 v2 v3 H Q E
  | _ => False
theorem sp4_ex {f : V → V → V → V → Hp → VK → XK → Prop} {vs : List V} {H : Hp} {Q : VK} {E : XK} (h : sp4 f vs H Q E) : ∃ v0 v1 v2 v3, vs = [v0, v1, v2, v3] ∧ f v0 v1 v2 v3 H Q E := by
  match vs, h with
  | [v0, v1, v2, v3], h => exact ⟨_, _, _, _, rfl, h⟩
theorem sp4_len {f : V → V → V → V → Hp → VK → XK → Prop} {vs : List V} {H : Hp} {Q : VK} {E : XK} (h : sp4 f vs H Q E) : vs.length = 4 := by
  match vs, h with
  | [v0, v1, v2, v3], h => rfl
def sp5 (f : V → V → V → V → V → Hp → VK → XK → Prop) : Sp := fun vs H Q E => match vs with
  | [v0, v1, v2, v3, v4] => f v0 v1 v2 v3 v4 H Q E
  | _ => False
theorem sp5_ex {f : V → V → V → V → V → Hp → VK → XK → Prop} {vs : List V} {H : Hp} {Q : VK} {E : XK} (h : sp5 f vs H Q E) : ∃ v0 v1 v2 v3 v4, vs = [v0, v1, v2, v3, v4] ∧ f v0 v1 v2 v3 v4 H Q E := by
  match vs, h with
  | [v0, v1, v2, v3, v4], h => exact ⟨_, _, _, _, _, rfl, h⟩
theorem sp5_len {f : V → V → V → V → V → Hp → VK → XK → Prop} {vs : List V} {H : Hp} {Q : VK} {E : XK} (h : sp5 f vs H Q E) : vs.length = 5 := by
  match vs, h with
  | [v0, v1, v2, v3, v4], h => rfl
def sp6 (f : V → V → V → V → V → V → Hp → VK → XK → Prop) : Sp := fun vs H Q E => match vs with
  | [v0, v1, v2, v3, v4, v5] => f v0 v1 v2 v3 v4 v5 H Q E
  | _ => False
theorem sp6_ex {f : V → V → V → V → V → V → Hp → VK → XK → Prop} {vs : List V} {H : Hp} {Q : VK} {E : XK} (h : sp6 f vs H Q E) : ∃ v0 v1 v2 v3 v4 v5, vs = [v0, v1, v2, v3, v4, v5] ∧ f v0 v1 v2 v3 v4 v5 H Q E := by
  match vs, h with
  | [v0, v1, v2, v3, v4, v5], h => exact ⟨_, _, _, _, _, _, rfl, h⟩
theorem sp6_len {f : V → V → V → V → V → V → Hp → VK → XK → Prop} {vs : List V} {H : Hp} {Q : VK} {E : XK} (h : sp6 f vs H Q E) : vs.length = 6 := by
  match vs, h with
  | [v0, v1, v2, v3, v4, v5], h => rfl
def sp7 (f : V → V → V → V → V → V → V → Hp → VK → XK → Prop) : Sp := fun vs H Q E => match vs with
  | [v0, v1, v2, v3, v4, v5, v6] => f v0 v1 v2 v3 v4 v5 v6 H Q E
  | _ => False
theorem sp7_ex {f : V → V → V → V → V → V → V → Hp → VK → XK → Prop} {vs : List V} {H : Hp} {Q : VK} {E : XK} (h : sp7 f vs H Q E) : ∃ v0 v1 v2 v3 v4 v5 v6, vs = [v0, v1, v2, v3, v4, v5, v6] ∧ f v0 v1 v2 v3 v4 v5 v6 H Q E := by
  match vs, h with
  | [v0, v1, v2, v3, v4, v5, v6], h => exact ⟨_, _, _, _, _, _, _, rfl, h⟩
theorem sp7_len {f : V → V → V → V → V → V → V → Hp → VK → XK → Prop} {vs : List V} {H : Hp} {Q : VK} {E : XK} (h : sp7 f vs H Q E) : vs.length = 7 := by
  match vs, h with
  | [v0, v1, v2, v3, v4, v5, v6], h => rfl
def sp8 (f : V → V → V → V → V → V → V → V → Hp → VK → XK → Prop) : Sp := fun vs H Q E => match vs with
  | [v0, v1, v2, v3, v4, v5, v6, v7] => f v0 v1 v2 v3 v4 v5 v6 v7 H Q E
  | _ => False
theorem sp8_ex {f : V → V → V → V → V → V → V → V → Hp → VK → XK → Prop} {vs : List V} {H : Hp} {Q : VK} {E : XK} (h : sp8 f vs H Q E) : ∃ v0 v1 v2 v3 v4 v5 v6 v7, vs = [v0, v1, v2, v3, v4, v5, v6, v7] ∧ f v0 v1 v2 v3 v4 v5 v6 v7 H Q E := by
  match vs, h with
  | [v0, v1, v2, v3, v4, v5, v6, v7], h => exact ⟨_, _, _, _, _, _, _, _, rfl, h⟩
theorem sp8_len {f : V → V → V → V → V → V → V → V → Hp → VK → XK → Prop} {vs : List V} {H : Hp} {Q : VK} {E : XK} (h : sp8 f vs H Q E) : vs.length = 8 := by
  match vs, h with
  | [v0, v1, v2, v3, v4, v5, v6, v7], h => rfl
def sp9 (f : V → V → V → V → V → V → V → V → V → Hp → VK → XK → Prop) : Sp := fun vs H Q E => match vs with
  | [v0, v1, v2, v3, v4, v5, v6, v7, v8] => f v0 v1 v2 v3 v4 v5 v6 v7 v8 H Q E
  | _ => False
theorem sp9_ex {f : V → V → V → V → V → V → V → V → V → Hp → VK → XK → Prop} {vs : List V} {H : Hp} {Q : VK} {E : XK} (h : sp9 f vs H Q E) : ∃ v0 v1 v2 v3 v4 v5 v6 v7 v8, vs = [v0, v1, v2, v3, v4, v5, v6, v7, v8] ∧ f v0 v1 v2 v3 v4 v5 v6 v7 v8 H Q E := by
  match vs, h with
  | [v0, v1, v2, v3, v4, v5, v6, v7, v8], h => exact ⟨_, _, _, _, _, _, _, _, _, rfl, h⟩
theorem sp9_len {f : V → V → V → V → V → V → V → V → V → Hp → VK → XK → Prop} {vs : List V} {H : Hp} {Q : VK} {E : XK} (h : sp9 f vs H Q E) : vs.length = 9 := by
  match vs, h with
  | [v0, v1, v2, v3, v4, v5, v6, v7, v8], h => rfl
def sp10 (f : V → V → V → V → V → V → V → V → V → V → Hp → VK → XK → Prop) : Sp := fun vs H Q E => match vs with
  | [v0, v1, v2, v3, v4, v5, v6, v7, v8, v9] => f v0 v1 v2 v3 v4 v5 v6 v7 v8 v9 H Q E
  | _ => False
theorem sp10_ex {f : V → V → V → V → V → V → V → V → V → V → Hp → VK → XK → Prop} {vs : List V} {H : Hp} {Q : VK} {E : XK} (h : sp10 f vs H Q E) : ∃ v0 v1 v2 v3 v4 v5 v6 v7 v8 v9, vs = [v0, v1, v2, v3, v4, v5, v6, v7, v8, v9] ∧ f v0 v1 v2 v3 v4 v5 v6 v7 v8 v9 H Q E := by
  match vs, h with
  | [v0, v1, v2, v3, v4, v5, v6, v7, v8, v9], h => exact ⟨_, _, _, _, _, _, _, _, _, _, rfl, h⟩
theorem sp10_len {f : V → V → V → V → V → V → V → V → V → V → Hp → VK → XK → Prop} {vs : List V} {H : Hp} {Q : VK} {E : XK} (h : sp10 f vs H Q E) : vs.length = 10 := by
  match vs, h with
  | [v0, v1, v2, v3, v4, v5, v6, v7, v8, v9], h => rfl
end Dk

/-! Comprehensions and loops whose turns draw; texts as lists of codes. -/
namespace Dk
open PySem PySem.Spec PyProof.Rows L2 TL
section
variable {K : PySem.W.Frag} {σ : L2.St} {H : Hp} {Q : VK} {te : TE} {tt : TT} {vs : List Nat} {j : Nat} {tA : TA} {a : Addr}
theorem r_tyes {QB : Bool → Hp → Prop} (q : QB true H) : tYes σ H QB := q
/-- [e for j in range(n)], n known -/
def rlq (xs : List V) (j : Nat) (tt : TT) (te : TE) (vs : List Nat) (σ : L2.St) (H : Hp) (Q : VK) : Prop := tLc (iRng1 fun _ H1 QA => QA xs H1) (gName j) tt te vs σ H Q
theorem r_lcr (q : tA σ H fun xs H1 => rlq xs j tt te vs σ H1 Q) : tLc (iRng1 tA) (gName j) tt te vs σ H Q := q
theorem Dqs.all_strs {H : Hp} {P : Str → Prop} : ∀ {ds : List PyData} {ys : List V}, Dqs H ys ds → (∀ (i : Nat) d, ds[i]? = some d → ∃ s, d = PyData.str s ∧ P s) → ∃ ss : List Str, ys = ss.map V.str ∧ ss.length = ds.length ∧ ∀ s ∈ ss, P s
  | [], _, h, _ => by
    cases h
    exact ⟨[], rfl, rfl, fun _ z => nomatch z⟩
  | d :: ds, _, h, hp => by
    cases h with
    | cons h1 h2 =>
      obtain ⟨s, e, p⟩ := hp 0 d rfl
      subst e
      cases h1
      obtain ⟨ss, e1, e2, e3⟩ := Dqs.all_strs h2 fun i d q => hp (i + 1) d (by simpa using q)
      refine ⟨s :: ss, by rw [e1] <;> rfl, by simp [e2], fun z hz => ?_⟩
      rcases List.mem_cons.mp hz with e | hz
      · rw [e]
        exact p
      · exact e3 z hz
/-- each turn draws and gives a datum -/
theorem lcr_draw {n : Int} (PP : Nat → PyData → Prop) (hd : Drw H a) (h1 : -(2 ^ 62) ≤ n) (h2 : n < 10000000) (hw : ∀ x, wipe ((wipe σ vs).set j (some x)) vs = wipe σ vs)
    (el : ∀ (i : Nat) (H1 : Hp) (Q1 : VK), (i : Int) < n → Stp a H H1 → (∀ y d H2, Stp a H1 H2 → Dq H2 y d → PP i d → Q1 y H2) → te ((wipe σ vs).set j (some (.int i))) H1 Q1)
    (k : ∀ D H' ys ds, H D = none → Stp a H H' → H' D = some (.lst ys) → Dqs H' ys ds → ds.length = n.toNat → (∀ (i : Nat) d, ds[i]? = some d → PP i d) → Q (.ref D) H') : rlq [.int n] j tYes te vs σ H Q := by
  refine ⟨n, rfl, h1, by omega, fun D hD => ?_⟩
  have aD : a ≠ D := by
    intro e
    obtain ⟨u, v, q⟩ := hd
    rw [e, hD] at q
    cases q
  refine lc_range (lo := 0) (n := n.toNat) (fun i H' => ∃ ys ds, Stp a H H' ∧ H' D = some (.lst ys) ∧ Dqs H' ys ds ∧ ds.length = i ∧ ∀ (i : Nat) d, ds[i]? = some d → PP i d) ?_ ?_ ?_
  · exact ⟨[], [], (Stp.refl hd).new hD hd, upd_same, .nil, rfl, fun i d e => by simp at e⟩
  · rintro i H' hi ⟨ys, ds, s1, hl, dq, el1, pp⟩
    have e0 : (0 : Int) + (i : Int) = (i : Int) := Int.zero_add _
    rw [e0]
    refine ⟨hw _, r_tyes (r_iteT ?_)⟩
    refine el i H' _ (by omega) s1 fun y d H2 s2 hy p => ?_
    have s12 := s1.trans s2
    refine ⟨ys, s2.at_ hl (Ne.symm aD), ?_, ?_⟩
    · have hlen := dq.length
      rw [sizeLine_eq]
      omega
    · have s3 : Stp a H (upd H2 D (.lst (ys ++ [y]))) := s12.new hD hd
      have g : Gro H2 (upd H2 D (.lst (ys ++ [y]))) := by
        have hD2 : H2 D = some (.lst ys) := s2.at_ hl (Ne.symm aD)
        refine ⟨fun b xs e => ?_, fun b o u e => ?_⟩
        · rw [upd_ne (ne_of e hD2 (by intro z; cases z))]
          exact e
        · rw [upd_ne (ne_of e hD2 (by intro z; cases z))]
          exact e
      refine ⟨ys ++ [y], ds ++ [d], s3, upd_same, ((dq.mono (s2.gro)).snoc hy).mono g, by simp [el1], fun i' d' e => ?_⟩
      rw [List.getElem?_append] at e
      split at e
      · exact pp i' d' e
      · rename_i hge
        have hi' : i' - ds.length = 0 := by
          cases hh : i' - ds.length with
          | zero => rfl
          | succ m =>
            rw [hh] at e
            simp at e
        rw [hi'] at e
        simp only [List.getElem?_cons_zero, Option.some.injEq] at e
        have hii : i' = i := by omega
        rw [hii, ← e]
        exact p
  · rintro H' ⟨ys, ds, s1, hl, dq, el1, pp⟩
    exact k D H' ys ds hD s1 hl dq el1 pp
end
section
variable {K : PySem.W.Frag} {σ : L2.St} {H : Hp} {Q : VK} {te tl' : TE} {tt : TT} {vs : List Nat} {j : Nat} {tA : TA} {tb : TS} {D : Ends} {g : TG} {x : V}
/-- for j in range(n) -/
def rfq (xs : List V) (g : TG) (tb : TS) (D : Ends) (σ : L2.St) (H : Hp) : Prop := tFor (iRng1 fun _ H1 QA => QA xs H1) g tb D σ H
theorem r_forr (q : tA σ H fun xs H1 => rfq xs g tb D σ H1) : tFor (iRng1 tA) g tb D σ H := q
theorem for_rng {n : Int} (Pv : Nat → L2.St → Hp → Prop) (h1 : -(2 ^ 62) ≤ n) (h2 : n < 2 ^ 62) (h0 : Pv 0 σ H)
    (hs : ∀ (i : Nat) σ' H', (i : Int) < n → Pv i σ' H' → tb (Ends.mk (Pv (i + 1)) D.rt D.nx (Pv (i + 1))) (σ'.set j (some (.int i))) H') (hd : ∀ σ' H', Pv n.toNat σ' H' → D.nx σ' H') : rfq [.int n] (gName j) tb D σ H := by
  refine ⟨n, rfl, h1, h2, for_range (lo := 0) (n := n.toNat) Pv h0 (fun i σ' H' hi hp => ?_) hd⟩
  have e0 : (0 : Int) + (i : Int) = (i : Int) := Int.zero_add _
  rw [e0]
  exact hs i σ' H' (by omega) hp
/-- for .. in a list, a tuple, a text -/
def fuq (K : PySem.W.Frag) (x : V) (g : TG) (tb : TS) (D : Ends) (σ : L2.St) (H : Hp) : Prop := tFor (iU K (tC x)) g tb D σ H
theorem r_foru (q : te σ H fun x H1 => fuq K x g tb D σ H1) : tFor (iU K te) g tb D σ H := q
theorem for_T {p : Addr} {xs : List V} (Pv : Nat → L2.St → Hp → Prop) (h : H p = some (.tup xs)) (h0 : Pv 0 σ H) (hl : ∀ i σ' H', i ≤ xs.length → Pv i σ' H' → H' p = some (.tup xs))
    (hs : ∀ (i : Nat) x σ' H', xs[i]? = some x → Pv i σ' H' → g x σ' H' fun σ2 H2 => tb (Ends.mk (Pv (i + 1)) D.rt D.nx (Pv (i + 1))) σ2 H2) (hd : ∀ σ' H', Pv xs.length σ' H' → D.nx σ' H') : fuq K (.ref p) g tb D σ H :=
  .inr ⟨⟨xs, SqT.of h⟩, for_tup (xs := xs) Pv h0 (fun i σ' H' hi q => SqT.of (hl i σ' H' hi q)) hs hd⟩
theorem for_L {p : Addr} {xs : List V} (Pv : Nat → L2.St → Hp → Prop) (h : SqL K H p xs) (h0 : Pv 0 σ H) (hl : ∀ i σ' H', i ≤ xs.length → Pv i σ' H' → SqL K H' p xs)
    (hs : ∀ (i : Nat) x σ' H', xs[i]? = some x → Pv i σ' H' → g x σ' H' fun σ2 H2 => tb (Ends.mk (Pv (i + 1)) D.rt D.nx (Pv (i + 1))) σ2 H2) (hd : ∀ σ' H', Pv xs.length σ' H' → D.nx σ' H') : fuq K (.ref p) g tb D σ H :=
  .inl ⟨⟨xs, h⟩, for_list (xs := xs) Pv h0 hl hs hd⟩
/-- [e for .. in a list, a tuple, a text] -/
def luq (K : PySem.W.Frag) (x : V) (g : TG) (tt : TT) (te : TE) (vs : List Nat) (σ : L2.St) (H : Hp) (Q : VK) : Prop := tLc (iU K (tC x)) g tt te vs σ H Q
theorem r_lcu (q : tl' σ H fun x H1 => luq K x g tt te vs σ H1 Q) : tLc (iU K tl') g tt te vs σ H Q := q
end
/-- a kind of step of the heap, from H on -/
structure Sr (H : Hp) (S : Hp → Hp → Prop) : Prop where
  refl : S H H
  trans : ∀ {H1 H2 : Hp}, S H H1 → S H1 H2 → S H H2
  gro : ∀ {H1 H2 : Hp}, S H1 H2 → Gro H1 H2
  chg : ∀ {H' : Hp} {D : Addr} {o : HO}, S H H' → H D = none → S H (upd H' D o)
  keep : ∀ {H1 H2 : Hp} {D : Addr} {o : HO}, H D = none → S H H1 → S H1 H2 → H1 D = some o → H2 D = some o
theorem sr_same (H : Hp) : Sr H Same :=
  ⟨Same.refl H, fun a b => a.trans b, fun s => Gro.same s, fun s hD b u e => by rw [upd_ne (ne_of_none e hD)]; exact s b u e, fun _ _ s h => s _ _ h⟩
theorem ne_drw {H : Hp} {a D : Addr} (hd : Drw H a) (hD : H D = none) : D ≠ a := by
  intro e
  obtain ⟨u, v, q⟩ := hd
  rw [← e, hD] at q
  cases q
theorem ne_drw' {H : Hp} {a D : Addr} (hD : H D = none) (hd : Drw H a) : D ≠ a := ne_drw hd hD
theorem sr_stp {H : Hp} {a : Addr} (hd : Drw H a) : Sr H (Stp a) :=
  ⟨Stp.refl hd, fun a b => a.trans b, fun s => s.gro, fun s hD => s.new hD hd, fun hD _ s h => s.at_ h (ne_drw hd hD)⟩
section
variable {K : PySem.W.Frag} {σ : L2.St} {H : Hp} {Q : VK} {te tl' : TE} {tt : TT} {vs : List Nat} {j : Nat} {g : TG} {J : It} {n : Nat} {G : Hp → Prop} {Y : Nat → Hp → V → Hp → Prop} {S : Hp → Hp → Prop}
theorem lc_gen (w : Walk J n G Y) (sr : Sr H S) (Rv : Nat → List PyData → Prop) (hG : ∀ H', S H H' → G H') (hn : n < 10000000) (h0 : Rv 0 [])
    (el : ∀ (i : Nat) x (H1 H1' : Hp) (ds : List PyData) (Q1 : VK) (Qn : Hp → Prop), i < n → S H H1 → Y i H1 x H1' → Rv i ds →
      (∀ y d H2, S H1 H2 → Dq H2 y d → Rv (i + 1) (ds ++ [d]) → Q1 y H2) → (∀ H2, S H1 H2 → Rv (i + 1) ds → Qn H2) →
      g x (wipe σ vs) H1' fun σ2 H2 => wipe σ2 vs = wipe σ vs ∧ tt σ2 H2 fun b H3 => if b = true then te σ2 H3 Q1 else Qn H3)
    (k : ∀ D H' ys ds, H D = none → S H H' → H' D = some (.lst ys) → Dqs H' ys ds → Rv n ds → Q (.ref D) H') :
    ∀ D, H D = none → ∃ W : Nat → Nat → Hp → Prop, (∃ m, W 0 m (upd H D (.lst []))) ∧ ∀ i m H, W i m H →
      (J.stop i H ∧ Q (.ref D) H) ∨ (J.go i H ∧ ∃ Nx : Hp → Prop, (∀ H', Nx H' → ∃ m', m' < m ∧ W (i + 1) m' H') ∧ ∀ x H', J.yld i H x H' → g x (wipe σ vs) H' fun σ2 H2 => wipe σ2 vs = wipe σ vs ∧ tt σ2 H2 fun b H3 =>
        if b = true then te σ2 H3 fun y H4 => ∃ acc, H4 D = some (.lst acc) ∧ acc.length < sizeLine ∧ Nx (upd H4 D (.lst (acc ++ [y]))) else Nx H3) := by
  intro D hD
  refine lc_it w (Qd := fun H' => Q (.ref D) H') (fun i H' => ∃ ys ds, S H H' ∧ H' D = some (.lst ys) ∧ Dqs H' ys ds ∧ ds.length ≤ i ∧ Rv i ds) ?_ (fun i H' _ ⟨_, _, s, _⟩ => hG H' s) ?_ ?_
  · exact ⟨[], [], sr.chg sr.refl hD, upd_same, .nil, Nat.le_refl _, h0⟩
  · rintro i x H1 H1' hi ⟨ys, ds, s1, hl, dq, hle, rv⟩ hy
    refine el i x H1 H1' ds _ _ hi s1 hy rv (fun y d H2 s2 hyd r2 => ?_) (fun H2 s2 r2 => ?_)
    · have hD2 := sr.keep hD s1 s2 hl
      have s12 := sr.trans s1 s2
      have gg : Gro H2 (upd H2 D (.lst (ys ++ [y]))) := by
        refine ⟨fun b xs e => ?_, fun b o u e => ?_⟩
        · rw [upd_ne (ne_of e hD2 (by intro z; cases z))]
          exact e
        · rw [upd_ne (ne_of e hD2 (by intro z; cases z))]
          exact e
      have hlen := dq.length
      refine ⟨ys, hD2, by rw [sizeLine_eq]; omega, ys ++ [y], ds ++ [d], sr.chg s12 hD, upd_same, ((dq.mono (sr.gro s2)).snoc hyd).mono gg, by simp; omega, r2⟩
    · exact ⟨ys, ds, sr.trans s1 s2, sr.keep hD s1 s2 hl, dq.mono (sr.gro s2), by omega, r2⟩
  · rintro H' ⟨ys, ds, s1, hl, dq, hle, rv⟩
    exact k D H' ys ds hD s1 hl dq rv
/-- over a tuple, a list that stands: the target a name -/
theorem lc_T {p : Addr} {xs : List V} (h : H p = some (.tup xs)) (sr : Sr H S) (Rv : Nat → List PyData → Prop) (hn : xs.length < 10000000) (h0 : Rv 0 []) (hw : ∀ x, wipe ((wipe σ vs).set j (some x)) vs = wipe σ vs)
    (el : ∀ (i : Nat) x (H1 : Hp) (ds : List PyData) (Q1 : VK) (Qn : Hp → Prop), xs[i]? = some x → S H H1 → Rv i ds →
      (∀ y d H2, S H1 H2 → Dq H2 y d → Rv (i + 1) (ds ++ [d]) → Q1 y H2) → (∀ H2, S H1 H2 → Rv (i + 1) ds → Qn H2) → tt ((wipe σ vs).set j (some x)) H1 fun b H3 => if b = true then te ((wipe σ vs).set j (some x)) H3 Q1 else Qn H3)
    (k : ∀ D H' ys ds, H D = none → S H H' → H' D = some (.lst ys) → Dqs H' ys ds → Rv xs.length ds → Q (.ref D) H') : luq K (.ref p) (gName j) tt te vs σ H Q :=
  .inr ⟨⟨xs, SqT.of h⟩, lc_gen (walk_tup (xs := xs)) sr Rv (fun H' s => SqT.of ((sr.gro s).tup _ _ h)) hn h0 (fun i x H1 H1' ds Q1 Qn hi s1 hy rv k1 k2 => by
    obtain ⟨rfl, hy⟩ := hy
    exact ⟨hw x, el i x H1' ds Q1 Qn hy s1 rv k1 k2⟩) k⟩
theorem lc_L {p : Addr} {xs : List V} (h : H p = some (.lst xs)) (hk : ∀ H', S H H' → H' p = some (.lst xs)) (sr : Sr H S) (Rv : Nat → List PyData → Prop) (hn : xs.length < 10000000) (h0 : Rv 0 []) (hw : ∀ x, wipe ((wipe σ vs).set j (some x)) vs = wipe σ vs)
    (el : ∀ (i : Nat) x (H1 : Hp) (ds : List PyData) (Q1 : VK) (Qn : Hp → Prop), xs[i]? = some x → S H H1 → Rv i ds →
      (∀ y d H2, S H1 H2 → Dq H2 y d → Rv (i + 1) (ds ++ [d]) → Q1 y H2) → (∀ H2, S H1 H2 → Rv (i + 1) ds → Qn H2) → tt ((wipe σ vs).set j (some x)) H1 fun b H3 => if b = true then te ((wipe σ vs).set j (some x)) H3 Q1 else Qn H3)
    (k : ∀ D H' ys ds, H D = none → S H H' → H' D = some (.lst ys) → Dqs H' ys ds → Rv xs.length ds → Q (.ref D) H') : luq K (.ref p) (gName j) tt te vs σ H Q :=
  .inl ⟨⟨xs, SqL.of h⟩, lc_gen (walk_list (xs := xs)) sr Rv (fun H' s => SqL.of (hk H' s)) hn h0 (fun i x H1 H1' ds Q1 Qn hi s1 hy rv k1 k2 => by
    obtain ⟨rfl, hy⟩ := hy
    exact ⟨hw x, el i x H1' ds Q1 Qn hy s1 rv k1 k2⟩) k⟩
/-- over the signs of a text -/
theorem lc_S {z : Str} (sr : Sr H S) (Rv : Nat → List PyData → Prop) (hn : z.length < 10000000) (h0 : Rv 0 []) (hw : ∀ x, wipe ((wipe σ vs).set j (some x)) vs = wipe σ vs)
    (el : ∀ (i : Nat) (c : Nat) (H1 : Hp) (ds : List PyData) (Q1 : VK) (Qn : Hp → Prop), (tl z)[i]? = some c → S H H1 → Rv i ds →
      (∀ y d H2, S H1 H2 → Dq H2 y d → Rv (i + 1) (ds ++ [d]) → Q1 y H2) → (∀ H2, S H1 H2 → Rv (i + 1) ds → Qn H2) → tt ((wipe σ vs).set j (some (.str ⟨#[c]⟩))) H1 fun b H3 => if b = true then te ((wipe σ vs).set j (some (.str ⟨#[c]⟩))) H3 Q1 else Qn H3)
    (k : ∀ D H' ys ds, H D = none → S H H' → H' D = some (.lst ys) → Dqs H' ys ds → Rv z.length ds → Q (.ref D) H') : luq K (.str z) (gName j) tt te vs σ H Q :=
  lc_gen (walk_str (z := z)) sr Rv (fun H' s => trivial) hn h0 (fun i x H1 H1' ds Q1 Qn hi s1 hy rv k1 k2 => by
    obtain ⟨rfl, c, hc, rfl⟩ := hy
    exact ⟨hw _, el i c H1' ds Q1 Qn (by rw [Array.getElem?_toList]; exact hc) s1 rv k1 k2⟩) k
/-- over range(n) -/
theorem lc_R {m : Int} (sr : Sr H S) (Rv : Nat → List PyData → Prop) (h1 : -(2 ^ 62) ≤ m) (h2 : m < 10000000) (h0 : Rv 0 []) (hw : ∀ x, wipe ((wipe σ vs).set j (some x)) vs = wipe σ vs)
    (el : ∀ (i : Nat) (H1 : Hp) (ds : List PyData) (Q1 : VK) (Qn : Hp → Prop), (i : Int) < m → S H H1 → Rv i ds →
      (∀ y d H2, S H1 H2 → Dq H2 y d → Rv (i + 1) (ds ++ [d]) → Q1 y H2) → (∀ H2, S H1 H2 → Rv (i + 1) ds → Qn H2) → tt ((wipe σ vs).set j (some (.int i))) H1 fun b H3 => if b = true then te ((wipe σ vs).set j (some (.int i))) H3 Q1 else Qn H3)
    (k : ∀ D H' ys ds, H D = none → S H H' → H' D = some (.lst ys) → Dqs H' ys ds → Rv m.toNat ds → Q (.ref D) H') : rlq [.int m] j tt te vs σ H Q :=
  ⟨m, rfl, h1, by omega, lc_gen (walk_range (lo := 0) (n := m.toNat)) sr Rv (fun H' s => trivial) (by omega) h0 (fun i x H1 H1' ds Q1 Qn hi s1 hy rv k1 k2 => by
    obtain ⟨rfl, rfl⟩ := hy
    have e0 : (0 : Int) + (i : Int) = (i : Int) := Int.zero_add _
    show gName j (V.int ((0 : Int) + (i : Int))) (wipe σ vs) H1' _
    rw [e0]
    exact ⟨hw _, el i H1' ds Q1 Qn (by omega) s1 rv k1 k2⟩) k⟩
end
theorem atI_get {α : Type} {xs : List α} {d : Int} (h0 : 0 ≤ d) (h1 : d < xs.length) : ∃ v, atI xs d = some v ∧ v ∈ xs := by
  obtain ⟨j, rfl⟩ : ∃ j : Nat, d = j := ⟨d.toNat, by omega⟩
  have hj : j < xs.length := by omega
  exact ⟨xs[j], atI_nn (List.getElem?_eq_getElem hj), List.getElem_mem hj⟩
/-! ### texts as lists of codes -/
theorem len_cut0 {z : Str} {n : Nat} : (cutS z none (some (n : Int))).length ≤ n := by
  show (((z.cps.toList.drop 0).take (HT.sIx z.length z.length (some (n : Int)) - 0)).toArray).size ≤ n
  rw [List.size_toArray, List.length_take]
  have : HT.sIx z.length z.length (some (n : Int)) ≤ n := by
    unfold HT.sIx
    simp only
    split <;> omega
  omega
theorem cut_one {z : Str} {d : Int} (h0 : 0 ≤ d) (h1 : d < z.length) : ∃ c, c ∈ tl z ∧ cutS z (some d) (some (d + 1)) = ⟨#[c]⟩ := by
  obtain ⟨n, rfl⟩ : ∃ n : Nat, d = n := ⟨d.toNat, by omega⟩
  have hn : n < (tl z).length := by rw [← len_tl]; omega
  refine ⟨(tl z)[n], List.getElem_mem hn, ?_⟩
  have e1 : HT.sIx z.length 0 (some (n : Int)) = n := by rw [HT.sIx_nat]; rw [len_tl] at *; omega
  have e2 : HT.sIx z.length z.length (some ((n : Int) + 1)) = n + 1 := by
    rw [show (n : Int) + 1 = ((n + 1 : Nat) : Int) by omega, HT.sIx_nat]
    rw [len_tl] at *
    omega
  unfold cutS
  rw [e1, e2]
  have e3 : ((tl z).drop n).take (n + 1 - n) = [(tl z)[n]] := by
    rw [show n + 1 - n = 1 by omega, List.drop_eq_getElem_cons hn]
    rfl
  show (⟨(((tl z).drop n).take (n + 1 - n)).toArray⟩ : Str) = _
  rw [e3] <;> rfl
/-- a text of signs of S, between lo and hi of them -/
structure Wrd (S : List Nat) (lo hi : Nat) (s : Str) : Prop where
  lo : lo ≤ (tl s).length
  hi : (tl s).length ≤ hi
  sg : ∀ c ∈ tl s, c ∈ S
theorem Wrd.len {S : List Nat} {lo hi : Nat} {s : Str} (h : Wrd S lo hi s) : s.length ≤ hi := by rw [len_tl]; exact h.hi
theorem joinL_nil : ∀ parts : List (List Nat), joinL [] parts = parts.flatten
  | [] => rfl
  | [p] => by simp [joinL]
  | p :: q :: r => by
    show p ++ ([] ++ joinL [] (q :: r)) = (p :: q :: r).flatten
    rw [joinL_nil (q :: r)]
    simp
theorem tl_join0 (parts : List Str) : tl (Txt.join (Str.ofString "") parts) = (parts.map tl).flatten := by
  rw [join_eq, tl_join]
  have e : tl (Str.ofString "") = [] := by decide +kernel
  rw [e, joinL_nil]
/-- signs one by one make a word -/
theorem wrd_join {S : List Nat} {n : Nat} {ss : List Str} (h : ∀ s ∈ ss, ∃ c, c ∈ S ∧ s = ⟨#[c]⟩) (hl : ss.length = n) : Wrd S n n (Txt.join (Str.ofString "") ss) := by
  subst hl
  have key : ∀ ss : List Str, (∀ s ∈ ss, ∃ c, c ∈ S ∧ s = ⟨#[c]⟩) → (ss.map tl).flatten.length = ss.length ∧ ∀ c ∈ (ss.map tl).flatten, c ∈ S := by
    intro ss
    induction ss with
    | nil => exact fun _ => ⟨rfl, fun c hc => nomatch hc⟩
    | cons s r ih =>
      intro h
      obtain ⟨c, hc, e⟩ := h s List.mem_cons_self
      obtain ⟨i1, i2⟩ := ih fun s hs => h s (List.mem_cons_of_mem _ hs)
      have et : tl s = [c] := by rw [e]
      refine ⟨by rw [List.map_cons, List.flatten_cons, List.length_append, i1, et, List.length_cons]; simp; omega, fun d hd => ?_⟩
      rw [List.map_cons, List.flatten_cons, et] at hd
      rcases List.mem_append.mp hd with hd | hd
      · rw [List.mem_singleton.mp hd]
        exact hc
      · exact i2 d hd
  obtain ⟨k1, k2⟩ := key ss h
  rw [← tl_join0] at k1 k2
  exact ⟨Nat.le_of_eq k1.symm, Nat.le_of_eq k1, k2⟩
/-- what a join of signs weighs -/
theorem sum_ones {S : List Nat} : ∀ {ss : List Str}, (∀ s ∈ ss, ∃ c, c ∈ S ∧ s = ⟨#[c]⟩) → (ss.map (·.length)).sum = ss.length
  | [], _ => rfl
  | s :: r, h => by
    obtain ⟨c, _, e⟩ := h s List.mem_cons_self
    rw [List.map_cons, List.sum_cons, sum_ones fun s hs => h s (List.mem_cons_of_mem _ hs), e, List.length_cons]
    show 1 + r.length = r.length + 1
    omega
theorem sum_le {n : Nat} : ∀ {ss : List Str}, (∀ s ∈ ss, s.length ≤ n) → (ss.map (·.length)).sum ≤ n * ss.length
  | [], _ => Nat.zero_le _
  | s :: r, h => by
    rw [List.map_cons, List.sum_cons, List.length_cons, Nat.mul_succ]
    have h1 := h s List.mem_cons_self
    have h2 := sum_le (n := n) fun s hs => h s (List.mem_cons_of_mem _ hs)
    omega
end Dk

/-! The texts that the laws draw: local parts, domains. -/
namespace Dk
open PySem PySem.Spec PyProof.Rows L2 TL
/-- what is left of a text behind rstrip of one sign -/
theorem rstrip_facts (x : Str) (c : Nat) : ∃ h, h ≤ (tl x).length ∧ tl (Txt.rstripChars x ⟨#[c]⟩) = (tl x).take h ∧ (h = 0 ∨ (tl x)[h - 1]? ≠ some c) ∧ ∀ k, h ≤ k → k < (tl x).length → (tl x)[k]? = some c := by
  have h0 : PySem.stripLo (#[c] : Array Nat).contains false x = 0 := rfl
  obtain ⟨h1, h2, h3, h4⟩ := hi_facts (#[c] : Array Nat).contains x 0 (Nat.zero_le _)
  have gc : ∀ d, (#[c] : Array Nat).contains d = true ↔ d = c := fun d => by
    rw [Array.contains_iff_mem]
    simp
  have getd : ∀ k, k < (tl x).length → (tl x)[k]? = some (x.cps.getD k 0) := fun k hk => by
    rw [← getD_list]
    rw [List.getElem?_eq_getElem hk]
    simp [List.getD, List.getElem?_eq_getElem hk]
  refine ⟨stripHi (#[c] : Array Nat).contains true x 0, by rw [← len_tl]; exact h2, ?_, ?_, fun k hk hl => ?_⟩
  · show tl (Txt.stripBy (#[c] : Array Nat).contains false true x) = _
    rw [stripBy_eq, h0, tl_strSub, List.drop_zero, Nat.sub_zero]
  · by_cases hz : stripHi (#[c] : Array Nat).contains true x 0 = 0
    · exact .inl hz
    · right
      rcases h4 with h4 | h4
      · exact absurd h4 hz
      · rw [getd _ (by rw [← len_tl]; omega)]
        intro e
        have e1 := (gc _).mpr (Option.some.inj e)
        rw [h4] at e1
        cases e1
  · rw [getd k hl]
    exact congrArg some ((gc _).mp (h3 k hk (by rw [len_tl]; exact hl)))
/-- signs of S, dots between them: none ahead (p), none behind another -/
def okL (S : List Nat) : Bool → List Nat → Bool
  | _, [] => true
  | p, c :: r => if c = 46 then !p && okL S true r else decide (c ∈ S) && okL S false r
theorem okL_take {S : List Nat} : ∀ {l : List Nat} {p : Bool} {n : Nat}, okL S p l = true → okL S p (l.take n) = true
  | [], p, n, _ => by cases n <;> rfl
  | c :: r, p, 0, _ => rfl
  | c :: r, p, n + 1, h => by
    rw [List.take_succ_cons]
    unfold okL at h ⊢
    by_cases e : c = 46
    · rw [if_pos e, Bool.and_eq_true] at h ⊢
      exact ⟨h.1, okL_take h.2⟩
    · rw [if_neg e, Bool.and_eq_true] at h ⊢
      exact ⟨h.1, okL_take h.2⟩
theorem okL_word {S : List Nat} (hS : 46 ∉ S) : ∀ {w r : List Nat} {p : Bool}, (∀ c ∈ w, c ∈ S) → w ≠ [] → okL S p (w ++ r) = okL S false r
  | [], _, _, _, h => absurd rfl h
  | c :: w, r, p, h, _ => by
    have hc := h c List.mem_cons_self
    have nc : c ≠ 46 := fun e => hS (e ▸ hc)
    have e : okL S p (c :: (w ++ r)) = okL S false (w ++ r) := by
      rw [okL, if_neg nc, decide_eq_true hc, Bool.true_and]
    show okL S p (c :: (w ++ r)) = okL S false r
    rw [e]
    cases w with
    | nil => rfl
    | cons d w => exact okL_word hS (fun c hc => h c (List.mem_cons_of_mem _ hc)) (by simp)
theorem okL_join {S : List Nat} (hS : 46 ∉ S) : ∀ {ps : List (List Nat)} {p : Bool}, (∀ w ∈ ps, w ≠ [] ∧ ∀ c ∈ w, c ∈ S) → ps ≠ [] → okL S p (joinL [46] ps) = true
  | [], _, _, h => absurd rfl h
  | [w], p, h, _ => by
    obtain ⟨h1, h2⟩ := h w List.mem_cons_self
    show okL S p w = true
    rw [← List.append_nil w, okL_word hS h2 h1] <;> rfl
  | w :: v :: r, p, h, _ => by
    obtain ⟨h1, h2⟩ := h w List.mem_cons_self
    show okL S p (w ++ ([46] ++ joinL [46] (v :: r))) = true
    rw [okL_word hS h2 h1]
    show okL S false (46 :: joinL [46] (v :: r)) = true
    unfold okL
    rw [if_pos rfl, okL_join hS (fun w hw => h w (List.mem_cons_of_mem _ hw)) (by simp)] <;> rfl
theorem okL_head {S : List Nat} {l : List Nat} (h : okL S true l = true) : l.head? ≠ some 46 := by
  cases l with
  | nil => simp
  | cons c r =>
    unfold okL at h
    intro e
    have e1 : c = 46 := by simpa using e
    rw [if_pos e1] at h
    cases h
/-- a local part -/
structure Loc1 (S : List Nat) (l : List Nat) : Prop where
  ok : okL S true l = true
  lo : 1 ≤ l.length
  hi : l.length ≤ 40
  last : l.getLast? ≠ some 46
theorem dot_eq : Str.ofString "." = ⟨#[46]⟩ := by decide +kernel
theorem tl_joinDot (parts : List Str) : tl (Txt.join (Str.ofString ".") parts) = joinL [46] (parts.map tl) := by
  rw [join_eq, tl_join]
  have e : tl (Str.ofString ".") = [46] := by decide +kernel
  rw [e]
theorem tl_cut0 (z : Str) (n : Nat) : tl (cutS z none (some (n : Int))) = (tl z).take n := by
  unfold cutS
  rw [HT.sIx_none, HT.sIx_nat, Nat.sub_zero, List.drop_zero]
  show (tl z).take (min n z.length) = (tl z).take n
  rw [len_tl, List.take_eq_take_iff]
  omega
theorem joinL_pos {S : List Nat} {ps : List (List Nat)} (h : ∀ w ∈ ps, w ≠ []) (hn : ps ≠ []) : joinL S ps ≠ [] := by
  cases ps with
  | nil => exact absurd rfl hn
  | cons w r =>
    have hw := h w List.mem_cons_self
    cases r with
    | nil => exact hw
    | cons v r =>
      show w ++ (S ++ joinL S (v :: r)) ≠ []
      simp [hw]
theorem loc_of {S : List Nat} (hS : 46 ∉ S) {parts : List Str} (h : ∀ s ∈ parts, tl s ≠ [] ∧ ∀ c ∈ tl s, c ∈ S) (hn : parts ≠ []) :
    Loc1 S (tl (Txt.rstripChars (cutS (Txt.join (Str.ofString ".") parts) none (some (40 : Int))) (Str.ofString "."))) := by
  have e40 : tl (cutS (Txt.join (Str.ofString ".") parts) none (some (40 : Int))) = (joinL [46] (parts.map tl)).take 40 := by
    rw [← tl_joinDot]
    exact tl_cut0 _ 40
  have hw : ∀ w ∈ parts.map tl, w ≠ [] ∧ ∀ c ∈ w, c ∈ S := fun w hw => by
    obtain ⟨s, hs, e⟩ := List.mem_map.mp hw
    rw [← e]
    exact h s hs
  have hne : parts.map tl ≠ [] := fun e => hn (List.map_eq_nil_iff.mp e)
  have ok : okL S true ((joinL [46] (parts.map tl)).take 40) = true := okL_take (okL_join hS hw hne)
  have pos : joinL [46] (parts.map tl) ≠ [] := joinL_pos (fun w q => (hw w q).1) hne
  generalize cutS (Txt.join (Str.ofString ".") parts) none (some (40 : Int)) = x at *
  rw [dot_eq]
  obtain ⟨k, k1, k2, k3, k4⟩ := rstrip_facts x 46
  rw [e40] at k1 k2 k3 k4
  generalize hL : (joinL [46] (parts.map tl)).take 40 = L at *
  have Lne : L ≠ [] := by
    rw [← hL]
    intro e
    rcases List.take_eq_nil_iff.mp e with e | e
    · cases e
    · exact pos e
  have L40 : L.length ≤ 40 := by
    rw [← hL, List.length_take]
    omega
  have kpos : 1 ≤ k := by
    cases k with
    | zero =>
      have h0 := k4 0 (Nat.le_refl _) (List.length_pos_iff.mpr Lne)
      exact absurd (by rw [List.head?_eq_getElem?]; exact h0) (okL_head ok)
    | succ k => exact Nat.succ_pos _
  rw [k2]
  refine ⟨okL_take ok, by rw [List.length_take]; omega, by rw [List.length_take]; omega, ?_⟩
  rw [List.getLast?_eq_getElem?, List.length_take, Nat.min_eq_left k1, List.getElem?_take_of_lt (by omega)]
  rcases k3 with k3 | k3
  · omega
  · exact k3
theorem joinL_len (S : List Nat) : ∀ ps : List (List Nat), (joinL S ps).length ≤ (ps.map List.length).sum + ps.length * S.length
  | [] => Nat.zero_le _
  | [w] => by
    show w.length ≤ _
    rw [List.map_singleton, List.sum_singleton]
    omega
  | w :: v :: r => by
    show (w ++ (S ++ joinL S (v :: r))).length ≤ _
    have ih := joinL_len S (v :: r)
    rw [List.length_append, List.length_append, List.map_cons, List.sum_cons, List.length_cons, Nat.succ_mul]
    omega
theorem joinDot_len (parts : List Str) : (Txt.join (Str.ofString ".") parts).length ≤ (parts.map (·.length)).sum + parts.length := by
  rw [len_tl, tl_joinDot]
  have h := joinL_len [46] (parts.map tl)
  have e : ((parts.map tl).map List.length) = parts.map (·.length) := by
    rw [List.map_map]
    exact List.map_congr_left fun s _ => (len_tl s).symm
  rw [e, List.length_map] at h
  simp only [List.length_cons, List.length_nil] at h
  omega
theorem rep_strs (n : Nat) (s : Str) : (List.replicate n [V.str s]).flatten = (List.replicate n s).map V.str := by
  induction n with
  | zero => rfl
  | succ n ih => rw [List.replicate_succ, List.flatten_cons, ih, List.replicate_succ, List.map_cons] <;> rfl
theorem rep_wrd {S : List Nat} {c n : Nat} (hc : c ∈ S) : Wrd S n n (Txt.join (Str.ofString "") (List.replicate n ⟨#[c]⟩)) :=
  wrd_join (fun s hs => ⟨c, hc, (List.mem_replicate.mp hs).2⟩) (List.length_replicate ..)
/-- the signs of a drawn word, a drawn label -/
abbrev lEnds : Str := Str.ofString "abcdefghijklmnopqrstuvwxyz0123456789-_+"
abbrev dEnds : Str := Str.ofString "abcdefghijklmnopqrstuvwxyz0123456789"
theorem lEnds_dot : 46 ∉ tl lEnds := by decide +kernel
/-- a label -/
structure Lab (l : List Nat) : Prop where
  lo : 2 ≤ l.length
  hi : l.length ≤ 5
  sg : ∀ c ∈ l, c ∈ 45 :: tl dEnds
  fst : l.head? ≠ some 45
  lst : l.getLast? ≠ some 45
/-- a domain -/
structure Dom (l : List Nat) : Prop where
  ex : ∃ ls : List (List Nat), l = joinL [46] ls ∧ 1 ≤ ls.length ∧ ls.length ≤ 3 ∧ ∀ w ∈ ls, Lab w
theorem Dom.len {s : Str} (h : Dom (tl s)) : s.length ≤ 18 := by
  obtain ⟨ls, e, h1, h2, h3⟩ := h.ex
  rw [len_tl, e]
  have q := joinL_len [46] ls
  have r : ∀ ps : List (List Nat), (∀ w ∈ ps, Lab w) → (ps.map List.length).sum ≤ 5 * ps.length := by
    intro ps
    induction ps with
    | nil => exact fun _ => Nat.zero_le _
    | cons w r ih =>
      intro h
      rw [List.map_cons, List.sum_cons, List.length_cons]
      have a := (h w List.mem_cons_self).hi
      have b := ih fun w hw => h w (List.mem_cons_of_mem _ hw)
      omega
  have r1 := r ls h3
  simp only [List.length_cons, List.length_nil] at q
  omega
theorem Loc1.len {S : List Nat} {s : Str} (h : Loc1 S (tl s)) : s.length ≤ 40 := by
  rw [len_tl]
  exact h.hi
theorem lab_of {c d : Nat} {m : Str} (hc : c ∈ tl dEnds) (hd : d ∈ tl dEnds) (hm : m ∈ ["", "-", "--", "x-y", "z9"].map Str.ofString) : Lab (tl (((⟨#[c]⟩ : Str) ++ m) ++ (⟨#[d]⟩ : Str))) := by
  have e : tl (((⟨#[c]⟩ : Str) ++ m) ++ (⟨#[d]⟩ : Str)) = c :: (tl m ++ [d]) := by
    rw [tl_append, tl_append] <;> rfl
  have n45 : 45 ∉ tl dEnds := by decide +kernel
  have key : ∀ z ∈ ["", "-", "--", "x-y", "z9"].map Str.ofString, (tl z).length ≤ 3 ∧ ∀ x ∈ tl z, x ∈ 45 :: tl dEnds := by decide +kernel
  obtain ⟨k1, k2⟩ := key m hm
  rw [e]
  refine ⟨by simp, by simp; omega, fun x hx => ?_, ?_, ?_⟩
  · rcases List.mem_cons.mp hx with hx | hx
    · rw [hx]
      exact List.mem_cons_of_mem _ hc
    · rcases List.mem_append.mp hx with hx | hx
      · exact k2 x hx
      · rw [List.mem_singleton.mp hx]
        exact List.mem_cons_of_mem _ hd
  · intro q
    have : c = 45 := by simpa using q
    exact n45 (this ▸ hc)
  · rw [show c :: (tl m ++ [d]) = (c :: tl m) ++ [d] from rfl, List.getLast?_concat]
    intro q
    have : d = 45 := by simpa using q
    exact n45 (this ▸ hd)
/-- a line: a short text of the signs that are allowed -/
structure Lin (s : Str) : Prop where
  len : s.length ≤ 18
  sg : ∀ c ∈ tl s, 32 ≤ c ∧ c ≤ 126 ∧ c ≠ 37
def pool : List Str := ["", ".", "..", ". x", "Received: by ", "Received: by q.r", "received: by x", " Received: by y", "To: a", "~"].map Str.ofString
abbrev signs : Str := Str.ofString " !\"#$&'()*+,-./0123456789:;<=>?@ABCDEFGHIJKLMNOPQRSTUVWXYZ[\\]^_`abcdefghijklmnopqrstuvwxyz{|}~"
theorem pool_lin : ∀ s ∈ pool, Lin s := by
  have key : ∀ s ∈ pool, s.length ≤ 18 ∧ ∀ c ∈ tl s, 32 ≤ c ∧ c ≤ 126 ∧ c ≠ 37 := by decide +kernel
  exact fun s hs => ⟨(key s hs).1, (key s hs).2⟩
theorem signs_lin : ∀ c ∈ tl signs, 32 ≤ c ∧ c ≤ 126 ∧ c ≠ 37 := by decide +kernel
end Dk

/-! Messages as lists of texts. -/
namespace Dk
open PySem PySem.Spec PyProof.Rows L2 TL
def hopsM : List Str → Nat
  | [] => 0
  | s :: r => if s = eS then 0 else (if Txt.startswith s trS = true then 1 else 0) + hopsM r
theorem hopsM_le : ∀ ss : List Str, hopsM ss ≤ ss.length
  | [] => Nat.le_refl _
  | s :: r => by
    unfold hopsM
    have := hopsM_le r
    rw [List.length_cons]
    split
    · omega
    · split <;> omega
def stuffM (s : Str) : Str := if Txt.startswith s dotS = true then dotS ++ s else s
def unstuffM (s : Str) : Str := if Txt.startswith s dotS = true then cutS s (some 1) none else s
theorem starts_iff (x y : Str) : Txt.startswith x y = ((tl x).take (tl y).length == tl y) := by
  unfold Txt.startswith
  rw [PySem.StrLaws.subAt_eq, List.drop_zero, Nat.zero_add, len_tl, len_tl]
  by_cases h : (tl y).length ≤ (tl x).length
  · rw [decide_eq_true h, Bool.true_and]
  · rw [decide_eq_false h, Bool.false_and]
    symm
    rw [beq_eq_false_iff_ne]
    intro e
    have e2 := congrArg List.length e
    rw [List.length_take] at e2
    omega
theorem tl_dot : tl dotS = [46] := by decide +kernel
theorem tl_cut1 (s : Str) : tl (cutS s (some 1) none) = (tl s).drop 1 := by
  unfold cutS
  rw [HT.sIx_none, show (1 : Int) = ((1 : Nat) : Int) from rfl, HT.sIx_nat]
  show ((tl s).drop (min 1 s.length)).take (s.length - min 1 s.length) = (tl s).drop 1
  rw [len_tl]
  by_cases h : 1 ≤ (tl s).length
  · rw [Nat.min_eq_left h, List.take_of_length_le (by rw [List.length_drop]; omega)]
  · have e : tl s = [] := List.length_eq_zero_iff.mp (by omega)
    rw [e] <;> rfl
theorem tl_cutN (s : Str) (n : Nat) : tl (cutS s none (some (n : Int))) = (tl s).take n := tl_cut0 s n
theorem starts_dot (s : Str) : Txt.startswith s dotS = decide ((tl s).head? = some 46) := by
  rw [starts_iff, tl_dot]
  cases e : tl s with
  | nil => rfl
  | cons c r =>
    show ([c] == [46]) = decide (some c = some 46)
    by_cases h : c = 46
    · subst h
      rfl
    · rw [decide_eq_false (fun q => h (Option.some.inj q)), beq_eq_false_iff_ne]
      exact fun q => h (List.cons.inj q).1
theorem unstuff_stuff (s : Str) : unstuffM (stuffM s) = s := by
  unfold stuffM
  by_cases h : Txt.startswith s dotS = true
  · rw [if_pos h]
    have e : tl (dotS ++ s) = 46 :: tl s := by rw [tl_append, tl_dot] <;> rfl
    unfold unstuffM
    rw [if_pos (by rw [starts_dot, e] <;> rfl)]
    refine ext_tl ?_
    rw [tl_cut1, e] <;> rfl
  · rw [if_neg h]
    unfold unstuffM
    rw [if_neg h]
theorem stuff_ne (s : Str) : stuffM s ≠ dotS := by
  intro e
  unfold stuffM at e
  by_cases h : Txt.startswith s dotS = true
  · rw [if_pos h] at e
    have e2 := congrArg tl e
    rw [tl_append, tl_dot] at e2
    have e3 : tl s = [] := by simpa using e2
    rw [starts_dot, e3] at h
    cases h
  · rw [if_neg h] at e
    rw [e] at h
    exact h (by decide +kernel)
theorem stuff_len (s : Str) : (stuffM s).length ≤ s.length + 1 := by
  unfold stuffM
  split
  · rw [PySem.Str.length_append, dotS_len]
    omega
  · omega
theorem drop_of_get {α : Type} {xs : List α} {i : Nat} {x : α} (h : xs[i]? = some x) : xs.drop i = x :: xs.drop (i + 1) := by
  obtain ⟨hl, e⟩ := List.getElem?_eq_some_iff.mp h
  rw [List.drop_eq_getElem_cons hl, e]
theorem get_map {xs : List Str} {i : Nat} {x : V} (h : (xs.map V.str)[i]? = some x) : ∃ s, xs[i]? = some s ∧ x = .str s := by
  rw [List.getElem?_map] at h
  cases e : xs[i]? with
  | none =>
    rw [e] at h
    cases h
  | some s =>
    rw [e] at h
    exact ⟨s, rfl, (Option.some.inj h).symm⟩
theorem mem_of_get {α : Type} {xs : List α} {i : Nat} {x : α} (h : xs[i]? = some x) : x ∈ xs := List.mem_of_getElem? h
/-- a comprehension over texts that gives texts -/
theorem Dqs.strs_eq {H : Hp} {ss : List Str} {ys : List V} (h : Dqs H ys (ss.map PyData.str)) : ys = ss.map V.str := h.strs_of
theorem take_snoc {α : Type} {xs : List α} {i : Nat} {x : α} (h : xs[i]? = some x) : xs.take (i + 1) = xs.take i ++ [x] := by
  rw [List.take_add_one, h] <;> rfl
def reportM (l d r : Str) : List Str := [Str.ofString "Subject: undelivered", eS, Str.ofString "Recipient: " ++ (l ++ atS ++ d), Str.ofString "Reason: " ++ r]
theorem cut13 (s : Str) : decide (cutS s none (some 13) = trS) = Txt.startswith s trS := by
  rw [starts_iff]
  have e13 : (tl trS).length = 13 := by decide +kernel
  have e := tl_cutN s 13
  by_cases h : cutS s none (some 13) = trS
  · rw [decide_eq_true h, e13]
    have h2 : tl (cutS s none (some ((13 : Nat) : Int))) = tl trS := congrArg tl h
    rw [← e, h2]
    exact (beq_self_eq_true _).symm
  · rw [decide_eq_false h, e13]
    symm
    rw [beq_eq_false_iff_ne]
    intro q
    rw [← e] at q
    exact h (ext_tl q)
theorem cut_dot (s : Str) : decide (cutS s none (some 1) = dotS) = Txt.startswith s dotS := by
  rw [starts_iff]
  have e1 : (tl dotS).length = 1 := by decide +kernel
  have e := tl_cutN s 1
  by_cases h : cutS s none (some 1) = dotS
  · rw [decide_eq_true h, e1]
    have h2 : tl (cutS s none (some ((1 : Nat) : Int))) = tl dotS := congrArg tl h
    rw [← e, h2]
    exact (beq_self_eq_true _).symm
  · rw [decide_eq_false h, e1]
    symm
    rw [beq_eq_false_iff_ne]
    intro q
    rw [← e] at q
    exact h (ext_tl q)
theorem str_assoc (a b c : Str) : a ++ b ++ c = a ++ (b ++ c) := ext_tl (by rw [tl_append, tl_append, tl_append, tl_append, List.append_assoc])
theorem hops_cons (d : Str) (ss : List Str) : hopsM ((trS ++ d) :: ss) = hopsM ss + 1 := by
  have h1 : trS ++ d ≠ eS := fun e => by
    have e2 := congrArg (fun z => (tl z).length) e
    simp only [tl_append, List.length_append] at e2
    have e3 : (tl trS).length = 13 := by decide +kernel
    have e4 : (tl eS).length = 0 := by decide +kernel
    omega
  have h2 : Txt.startswith (trS ++ d) trS = true := by
    rw [starts_iff, tl_append, List.take_left]
    exact beq_self_eq_true _
  rw [hopsM, if_neg h1, if_pos h2]
  omega
end Dk

/-! Data compared. -/
namespace Dk
open PySem PySem.Spec PyProof.Rows L2 TL
mutual
/-- data without truth values, lists, dicts -/
def nb : PyData → Bool
  | .none => true
  | .int _ => true
  | .str s => PyData.strOk s
  | .tuple ds => nbs ds
  | _ => false
def nbs : List PyData → Bool
  | [] => true
  | d :: ds => nb d && nbs ds
end
mutual
theorem nb_lay : ∀ d : PyData, nb d = true → d.canLay0 = true
  | .none, _ => by simp [PyData.canLay0]
  | .int i, _ => by simp [PyData.canLay0]
  | .str s, h => by
    rw [PyData.canLay0]
    rw [nb] at h
    exact h
  | .tuple ds, h => by
    rw [PyData.canLay0]
    rw [nb] at h
    exact nbs_lay ds h
  | .bool _, h => by simp [nb] at h
  | .list _, h => by simp [nb] at h
  | .dict _, h => by simp [nb] at h
theorem nbs_lay : ∀ ds : List PyData, nbs ds = true → PyData.canLayAll0 ds = true
  | [], _ => by simp [PyData.canLayAll0]
  | d :: ds, h => by
    rw [nbs, Bool.and_eq_true] at h
    rw [PyData.canLayAll0, nb_lay d h.1, nbs_lay ds h.2] <;> rfl
end
theorem nb_shaped {d : PyData} (h : nb d = true) (hd : d.depth ≤ 64) : SeqAt.shaped d = true := by
  unfold SeqAt.shaped
  rw [nb_lay d h, decide_eq_true hd] <;> rfl
mutual
theorem eqv_nb : ∀ d e : PyData, nb d = true → PyData.eqv d e = true → nb e = true → d = e
  | .none, e, _, h, he => by
    cases e <;> first
      | rfl
      | simp [PyData.eqv] at h
  | .int i, e, _, h, he => by
    cases e <;> first
      | (simp [PyData.eqv] at h; done)
      | (simp [nb] at he; done)
      | (simp [PyData.eqv] at h; rw [h])
  | .str i, e, _, h, he => by
    cases e <;> first
      | (simp [PyData.eqv] at h; done)
      | (simp [PyData.eqv] at h; rw [h])
  | .tuple ds, e, hd, h, he => by
    cases e with
    | tuple es =>
      rw [PyData.eqv] at h
      rw [nb] at hd he
      rw [eqvs_nb ds es hd h he]
    | _ => simp [PyData.eqv] at h
  | .bool _, _, h, _, _ => by simp [nb] at h
  | .list _, _, h, _, _ => by simp [nb] at h
  | .dict _, _, h, _, _ => by simp [nb] at h
theorem eqvs_nb : ∀ ds es : List PyData, nbs ds = true → PyData.eqvAll ds es = true → nbs es = true → ds = es
  | [], es, _, h, _ => by
    cases es with
    | nil => rfl
    | cons e es => simp [PyData.eqvAll] at h
  | d :: ds, es, hd, h, he => by
    cases es with
    | nil => simp [PyData.eqvAll] at h
    | cons e es =>
      rw [PyData.eqvAll, Bool.and_eq_true] at h
      rw [nbs, Bool.and_eq_true] at hd he
      rw [eqv_nb d e hd.1 h.1 he.1, eqvs_nb ds es hd.2 h.2 he.2]
end
theorem eqv_self {d : PyData} (h : nb d = true) : PyData.eqv d d = true := SeqAt.eqv_refl d (nb_lay d h)
theorem eqv_ne {d e : PyData} (h : nb d = true) (he : nb e = true) (n : d ≠ e) : PyData.eqv d e = false := by
  cases q : PyData.eqv d e with
  | false => rfl
  | true => exact absurd (eqv_nb d e h q he) n
theorem nbs_strs : ∀ {ss : List Str}, (∀ s ∈ ss, PyData.strOk s = true) → nbs (ss.map PyData.str) = true
  | [], _ => by simp [nbs]
  | s :: ss, h => by
    rw [List.map_cons, nbs, nb, h s List.mem_cons_self, nbs_strs fun s hs => h s (List.mem_cons_of_mem _ hs)] <;> rfl
theorem depth_strs : ∀ ss : List Str, PyData.depthAll (ss.map PyData.str) = 0
  | [] => by simp [PyData.depthAll]
  | s :: ss => by
    rw [List.map_cons, PyData.depthAll, depth_strs ss, PyData.depth] <;> rfl
/-- plain signs -/
def Asc (s : Str) : Prop := ∀ c ∈ tl s, c < 128
theorem Asc.ok {s : Str} (h : Asc s) : PyData.strOk s = true := by
  unfold PyData.strOk
  rw [Array.all_eq_true']
  intro c hc
  have := h c (by simpa using hc)
  simp only [decide_eq_true_eq]
  omega
theorem Asc.app {a b : Str} (ha : Asc a) (hb : Asc b) : Asc (a ++ b) := fun c hc => by
  rw [tl_append] at hc
  rcases List.mem_append.mp hc with hc | hc
  · exact ha c hc
  · exact hb c hc
theorem Lin.asc {s : Str} (h : Lin s) : Asc s := fun c hc => by
  have := h.sg c hc
  omega
theorem okL_mem {S : List Nat} : ∀ {l : List Nat} {p : Bool}, okL S p l = true → ∀ c ∈ l, c = 46 ∨ c ∈ S
  | [], _, _, c, hc => nomatch hc
  | d :: r, p, h, c, hc => by
    unfold okL at h
    by_cases e : d = 46
    · rw [if_pos e, Bool.and_eq_true] at h
      rcases List.mem_cons.mp hc with q | q
      · exact .inl (q.trans e)
      · exact okL_mem h.2 c q
    · rw [if_neg e, Bool.and_eq_true] at h
      rcases List.mem_cons.mp hc with q | q
      · exact .inr (q ▸ of_decide_eq_true h.1)
      · exact okL_mem h.2 c q
theorem ends_asc : ∀ c ∈ tl lEnds, c < 128 := by decide +kernel
theorem dends_asc : ∀ c ∈ tl dEnds, c < 128 := by decide +kernel
theorem Loc1.asc {s : Str} (h : Loc1 (tl lEnds) (tl s)) : Asc s := fun c hc => by
  rcases okL_mem h.ok c hc with e | e
  · omega
  · exact ends_asc c e
theorem joinL_mem {S : List Nat} : ∀ {ps : List (List Nat)} {c : Nat}, c ∈ joinL S ps → c ∈ S ∨ ∃ w ∈ ps, c ∈ w
  | [], c, h => nomatch h
  | [w], c, h => .inr ⟨w, List.mem_cons_self, h⟩
  | w :: v :: r, c, h => by
    have h : c ∈ w ++ (S ++ joinL S (v :: r)) := h
    rcases List.mem_append.mp h with h | h
    · exact .inr ⟨w, List.mem_cons_self, h⟩
    · rcases List.mem_append.mp h with h | h
      · exact .inl h
      · rcases joinL_mem h with h | ⟨u, hu, hc⟩
        · exact .inl h
        · exact .inr ⟨u, List.mem_cons_of_mem _ hu, hc⟩
theorem Dom.asc {s : Str} (h : Dom (tl s)) : Asc s := fun c hc => by
  obtain ⟨ls, e, _, _, h3⟩ := h.ex
  rw [e] at hc
  rcases joinL_mem hc with q | ⟨w, hw, q⟩
  · have := List.mem_singleton.mp q
    omega
  · rcases List.mem_cons.mp ((h3 w hw).sg c q) with q | q
    · omega
    · exact dends_asc c q
theorem tr_asc : Asc trS := by unfold Asc; decide +kernel
theorem at_asc : Asc atS := by unfold Asc; decide +kernel
theorem e_asc : Asc eS := by unfold Asc; decide +kernel
theorem dot_asc : Asc dotS := by unfold Asc; decide +kernel
theorem stuff_asc {s : Str} (h : Asc s) : Asc (stuffM s) := by
  unfold stuffM
  split
  · exact dot_asc.app h
  · exact h
/-- a tuple of texts as a datum -/
abbrev sD (ss : List Str) : PyData := .tuple (ss.map PyData.str)
theorem sD_nb {ss : List Str} (h : ∀ s ∈ ss, Asc s) : nb (sD ss) = true := by
  rw [nb]
  exact nbs_strs fun s hs => (h s hs).ok
theorem sD_shaped {ss : List Str} (h : ∀ s ∈ ss, Asc s) : SeqAt.shaped (sD ss) = true := by
  refine nb_shaped (sD_nb h) ?_
  rw [PyData.depth, depth_strs]
  omega
theorem Dq.strs {H : Hp} {p : Addr} {ss : List Str} (h : H p = some (.tup (ss.map V.str))) : Dq H (.ref p) (sD ss) := .tup h (Dqs.strs ss)
theorem flat_strs (ss : List Str) : (ss.map V.str).all flatV = true := by
  rw [List.all_eq_true]
  intro x hx
  obtain ⟨s, _, rfl⟩ := List.mem_map.mp hx
  rfl
theorem inV_no {ss : List Str} {z : Str} (h : ∀ s ∈ ss, s ≠ z) : inV (.str z) (ss.map V.str) = false := by
  unfold inV
  rw [List.any_eq_false]
  intro x hx
  obtain ⟨s, hs, rfl⟩ := List.mem_map.mp hx
  intro e
  exact h s hs (by simpa [eqV] using e)
end Dk

/-! Own classes: instances, attributes, methods. -/
namespace Dk
open PySem PySem.Spec PyProof.Rows L2
/-- the def of a method -/
def MethAt (e : Wd) (C : Addr) (m qual : Str) (st : Stmt) : Prop := ∃ f fd, FunD e.K m qual (defArgs st) (defBody st) (defScope st) [] [] f fd ∧ Meth e.K C m f ∧ Cls e.K C
/-- the def of __init__ -/
def InitAt (e : Wd) (C : Addr) (x qual : Str) (st : Stmt) : Prop := ∃ f fd, FunD e.K "__init__" qual (defArgs st) (defBody st) (defScope st) [] [] f fd ∧ Mk e.K C f ∧ e.mg x = some (.ref C)
def CanM (e : Wd) (k : Nat) (C : Addr) (m : Str) (ps : List Str) (sp : Sp) : Prop :=
  ∃ f fd, FnOk e.P e.w e.K e.mg e.base (L2.CX e.P e.w) k f fd ps sp ∧ Cls e.K C ∧ Meth e.K C m f ∧ Binds e.K fd ps []
def CanN (e : Wd) (k : Nat) (C : Addr) (x : Str) (ps : List Str) (sp : Sp) : Prop :=
  ∃ f fd, FnOk e.P e.w e.K e.mg e.base (L2.CX e.P e.w) k f fd ps sp ∧ Mk e.K C f ∧ e.mg x = some (.ref C) ∧ Binds e.K fd ps []
abbrev BindQ (x qual : Str) (st : Stmt) (ps : List Str) : Prop := ∀ (kV doc pm : Value) (an : Option Addr) (cdv ct : Value) (us : List Value), us.length = ps.length → bindArgs (PySem.W.fnOf x qual (defArgs st) (defBody st) (defScope st) .none kV doc pm an cdv ct) ⟨us, []⟩ = pure (ps.zip us)
section
variable {e : Wd} {C : Addr} {m x qual : Str} {st : Stmt} {N ps : List Str} {k : Nat} {sp : Sp}
theorem fnokQ {f : Addr} {fd : FuncData} (F : FunD e.K x qual (defArgs st) (defBody st) (defScope st) [] [] f fd) (S : FnScope N ps (defScope st)) (len : ∀ vs H Q E, sp vs H Q E → vs.length = ps.length)
    (hbody : ∀ (cdv : Value) (f : Addr) (A : Around) (outer : List Env) (s : Shared) (H : Hp) (vs : List V) (Q : VK) (E : XK), Room k (A.deeper (envOfC qual (defScope st) s.heap.objs.size f cdv)) → sp vs H Q E →
      ∃ t, PSs (cxOf (L2.CX e.P e.w) e.P e.w e.K e.mg e.base N qual (defScope st) f cdv A outer s H E).nox (defBody st) t ∧ t { nx := fun _ H' => Q .non H', rt := Q } (start N vs) H) : FnOk e.P e.w e.K e.mg e.base (L2.CX e.P e.w) (k + 1) f fd ps sp :=
  F.ok S len fun cdv A outer s H vs Q E hr h => by
    obtain ⟨t, h1, h2⟩ := hbody cdv f A outer s H vs Q E hr h
    exact ⟨t, h1.nox, h2⟩
theorem canM_of (D : MethAt e C m qual st) (S : FnScope N ps (defScope st)) (B : BindQ m qual st ps) (len : ∀ vs H Q E, sp vs H Q E → vs.length = ps.length)
    (hbody : ∀ (cdv : Value) (f : Addr) (A : Around) (outer : List Env) (s : Shared) (H : Hp) (vs : List V) (Q : VK) (E : XK), Room k (A.deeper (envOfC qual (defScope st) s.heap.objs.size f cdv)) → sp vs H Q E →
      ∃ t, PSs (cxOf (L2.CX e.P e.w) e.P e.w e.K e.mg e.base N qual (defScope st) f cdv A outer s H E).nox (defBody st) t ∧ t { nx := fun _ H' => Q .non H', rt := Q } (start N vs) H) : CanM e (k + 1) C m ps sp := by
  obtain ⟨f, fd, F, M, c⟩ := D
  exact ⟨f, fd, fnokQ F S len hbody, c, M, F.bindsN B⟩
theorem canN_of (D : InitAt e C x qual st) (S : FnScope N ps (defScope st)) (B : BindQ "__init__" qual st ps) (len : ∀ vs H Q E, sp vs H Q E → vs.length = ps.length)
    (hbody : ∀ (cdv : Value) (f : Addr) (A : Around) (outer : List Env) (s : Shared) (H : Hp) (vs : List V) (Q : VK) (E : XK), Room k (A.deeper (envOfC qual (defScope st) s.heap.objs.size f cdv)) → sp vs H Q E →
      ∃ t, PSs (cxOf (L2.CX e.P e.w) e.P e.w e.K e.mg e.base N qual (defScope st) f cdv A outer s H E).nox (defBody st) t ∧ t { nx := fun _ H' => Q .non H', rt := Q } (start N vs) H) : CanN e (k + 1) C x ps sp := by
  obtain ⟨f, fd, F, M, g⟩ := D
  exact ⟨f, fd, fnokQ F S len hbody, M, g, F.bindsN B⟩
end
section
variable {X : Cx} {E : XK} {k : Nat} {C : Addr} {m x : Str} {ps : List Str} {sp : Sp} {o e : Expr} {es : List Expr} {p pos apos : Pos} {ta : TE} {t : TA}
theorem pe_canM {pl : Sem Bool} (c : CanM (wdOf X) k C m ps sp) (hr : Room k X.A) (hx : Passes (L2.CX X.prog X.w) X E) (he : PE X o ta) (ha : PA X (e :: es) t)
    (hst : starEach (e :: es) X.env = (false, eval e X.env) :: starEach es X.env := by rfl) (hpl : (backTo pos (starEach es X.env)).any (·.1) = false := by rfl)
    (ht : eval (.Call (.Attribute o m apos) (e :: es) [] pos) X.env = (do
      let ov ← eval o X.env
      standAt apos.atName
      let (f, first) ← holding [ov] (getMethod ov m pl)
      callWith pos f first (backTo pos (starEach (e :: es) X.env)) (backToKw pos (keywordEach [] X.env))) := by rfl) : PE X (.Call (.Attribute o m apos) (e :: es) [] pos) (tMeth C m sp [] E ta t) := by
  obtain ⟨f, fd, F, c, M, b⟩ := c
  exact pe_meth he c M F hr b .nil hx ha hst hpl ht
theorem pe_canM0 {pl : Sem Bool} (c : CanM (wdOf X) k C m ps sp) (hr : Room k X.A) (hx : Passes (L2.CX X.prog X.w) X E) (he : PE X o ta)
    (ht : eval (.Call (.Attribute o m apos) [] [] pos) X.env = (do
      let ov ← eval o X.env
      standAt apos.atName
      let (f, first) ← holding [ov] (getMethod ov m pl)
      callWith pos f first (backTo pos (starEach [] X.env)) (backToKw pos (keywordEach [] X.env))) := by rfl) : PE X (.Call (.Attribute o m apos) [] [] pos) (tMeth C m sp [] E ta tNil) := by
  obtain ⟨f, fd, F, c, M, b⟩ := c
  exact pe_meth0 he c M F hr b .nil hx ht
theorem pe_canN (c : CanN (wdOf X) k C x ps sp) (hr : Room (k + 1) X.A) (hx : Passes (L2.CX X.prog X.w) X E) (ha : PA X (e :: es) t) (hg : Gl X x := by rfl) (hdb : (x == ("__debug__" : Str)) = false := by decide)
    (he : starEach (e :: es) X.env = (false, eval e X.env) :: starEach es X.env := by rfl) (hpl : (backTo pos (starEach es X.env)).any (·.1) = false := by rfl) : PE X (.Call (.Name x p) (e :: es) [] pos) (tMake C sp [] E t) := by
  obtain ⟨f, fd, F, M, g, b⟩ := c
  exact pe_make M F hr hg g b .nil hx ha hdb he hpl
theorem pe_canN0 (c : CanN (wdOf X) k C x ps sp) (hr : Room (k + 1) X.A) (hx : Passes (L2.CX X.prog X.w) X E) (hg : Gl X x := by rfl) (hdb : (x == ("__debug__" : Str)) = false := by decide) : PE X (.Call (.Name x p) [] [] pos) (tMake C sp [] E tNil) := by
  obtain ⟨f, fd, F, M, g, b⟩ := c
  exact pe_make0 M F hr hg g b .nil hx hdb
variable {K : PySem.W.Frag} {tv : TE} {value : Expr} {f : Str} {pos' : Pos}
theorem pe_fldU (he : PE X e ta) (hK : X.K = K := by rfl) (hb : attributeBase e f X.env (eval e X.env) = eval e X.env := by rfl) : PE X (.Attribute e f pos) (tFld K ta f) := by
  subst hK
  exact pe_fld he hb
theorem ps_fldU (ha : PE X o ta) (hv : PE X value tv) (hK : X.K = K := by rfl) (hs : swapsWith value (some (.Attribute o f pos')) pos.line X.env = pure false := by rfl) : PS X (.Assign [.Attribute o f pos'] value pos) (sFld K ta tv f) := by
  subst hK
  exact ps_fld ha hv hs
theorem ps_fldaugU {op : Operator} {rd : V → V → Hp → VK → Prop} {tpos : Pos} (ha : PE X o ta) (hv : PE X value tv) (hop : InOp X op rd) (hK : X.K = K := by rfl) : PS X (.AugAssign (.Attribute o f tpos) op value pos) (sFldAug K ta tv rd f) := by
  subst hK
  exact ps_fldaug ha hv hop
end
section
variable {K : PySem.W.Frag} {σ : L2.St} {H : Hp} {Q : VK} {D : Ends} {ta tb tv : TE} {t : TA} {C a dx : Addr} {f m : Str} {fs fs' : List (Str × V)} {v x y : V} {sp : Sp} {E : XK} {P : Prop}
/-- an instance of C with these attributes -/
def Ins (H : Hp) (a C : Addr) (fs : List (Str × V)) : Prop := ∃ dx, H a = some (.ins C dx fs)
theorem Ins.mono {H' : Hp} (h : Ins H a C fs) (k : ∀ o, H a = some o → H' a = some o) : Ins H' a C fs := let ⟨dx, e⟩ := h; ⟨dx, k _ e⟩
theorem Ins.same {H' : Hp} (s : Same H H') (h : Ins H a C fs) : Ins H' a C fs := let ⟨dx, e⟩ := h; ⟨dx, s _ _ e⟩
theorem Ins.stp {H' : Hp} {b : Addr} (s : Stp b H H') (hd : Drw H b) (h : Ins H a C fs) : Ins H' a C fs := by
  obtain ⟨dx, e⟩ := h
  refine ⟨dx, s.at_ e fun q => ?_⟩
  obtain ⟨u, w, z⟩ := hd
  rw [← q, e] at z
  cases z
def fldq (K : PySem.W.Frag) (f : Str) (x : V) (H : Hp) (Q : VK) : Prop := ∃ a C dx fs v, x = .ref a ∧ H a = some (.ins C dx fs) ∧ Cls K C ∧ NoAttr K C f ∧ fs.lookup f = some v ∧ Q v H
theorem r_fld (q : ta σ H fun x H1 => fldq K f x H1 Q) : tFld K ta f σ H Q := q
theorem r_fldv (h : Ins H a C fs) (c : Cls K C) (n : NoAttr K C f) (l : fs.lookup f = some v) (q : Q v H) : fldq K f (.ref a) H Q := let ⟨dx, e⟩ := h; ⟨a, C, dx, fs, v, rfl, e, c, n, l, q⟩
def sfldq (K : PySem.W.Frag) (f : Str) (y x : V) (σ : L2.St) (D : Ends) (H : Hp) : Prop := ∃ a C dx fs, x = .ref a ∧ H a = some (.ins C dx fs) ∧ Cls K C ∧ NoAttr K C f ∧ fs.length < 1000 ∧ D.nx σ (upd H a (.ins C dx (putF f y fs)))
theorem r_sfld (q : tv σ H fun y H1 => ta σ H1 fun x H2 => sfldq K f y x σ D H2) : sFld K ta tv f D σ H := q
theorem r_sfldv (h : Ins H a C fs) (c : Cls K C) (n : NoAttr K C f) (hl : fs.length < 1000) (e : putF f y fs = fs') (k : ∀ H', Ins H' a C fs' → (∀ b, b ≠ a → H' b = H b) → D.nx σ H') : sfldq K f y (.ref a) σ D H := by
  obtain ⟨dx, he⟩ := h
  subst e
  exact ⟨a, C, dx, fs, rfl, he, c, n, hl, k _ ⟨dx, upd_same⟩ fun b hb => upd_ne hb⟩
def methq (C : Addr) (m : Str) (x : V) (H : Hp) (P : Prop) : Prop := ∃ a dx fs, x = .ref a ∧ H a = some (.ins C dx fs) ∧ fs.lookup m = none ∧ P
theorem r_meth (q : ta σ H fun x H1 => methq C m x H1 (t σ H1 fun vs H2 => sp (x :: vs) H2 Q E)) : tMeth C m sp [] E ta t σ H Q := by
  show ta σ H fun x H1 => ∃ a dx fs, x = .ref a ∧ H1 a = some (.ins C dx fs) ∧ fs.lookup m = none ∧ t σ H1 fun vs H2 => sp (x :: (vs ++ [])) H2 Q E
  have e : (fun (x : V) H1 => ∃ a dx fs, x = .ref a ∧ H1 a = some (.ins C dx fs) ∧ fs.lookup m = none ∧ t σ H1 fun vs H2 => sp (x :: (vs ++ [])) H2 Q E) = fun (x : V) H1 => methq C m x H1 (t σ H1 fun vs H2 => sp (x :: vs) H2 Q E) := by
    funext x H1
    have e2 : (fun (vs : List V) H2 => sp (x :: (vs ++ [])) H2 Q E) = fun vs H2 => sp (x :: vs) H2 Q E := by
      funext vs H2
      rw [List.append_nil]
    rw [e2]
    rfl
  rw [e]
  exact q
theorem r_methv (h : Ins H a C fs) (l : fs.lookup m = none) (q : P) : methq C m (.ref a) H P := let ⟨dx, e⟩ := h; ⟨a, dx, fs, rfl, e, l, q⟩
/-- a new instance, then __init__ -/
def makeq (C : Addr) (sp : Sp) (E : XK) (vs : List V) (H : Hp) (Q : VK) : Prop := ∀ x dx, H x = none → H dx = none → dx ≠ x → sp (.ref x :: vs) (upd (upd H dx (.own x)) x (.ins C dx [])) (fun v H2 => v = .non ∧ Q (.ref x) H2) E
theorem r_make (q : t σ H fun vs H1 => makeq C sp E vs H1 Q) : tMake C sp [] E t σ H Q := by
  have e : (fun (vs : List V) (H1 : Hp) => ∀ x dx, H1 x = none → H1 dx = none → dx ≠ x → sp (.ref x :: (vs ++ [])) (upd (upd H1 dx (.own x)) x (.ins C dx [])) (fun v H2 => v = .non ∧ Q (.ref x) H2) E) = fun (vs : List V) (H1 : Hp) => makeq C sp E vs H1 Q := by
    funext vs H1
    rw [List.append_nil]
    rfl
  show t σ H fun (vs : List V) (H1 : Hp) => ∀ x dx, H1 x = none → H1 dx = none → dx ≠ x → sp (.ref x :: (vs ++ [])) (upd (upd H1 dx (.own x)) x (.ins C dx [])) (fun v H2 => v = .non ∧ Q (.ref x) H2) E
  rw [e]
  exact q
theorem r_makev {vs : List V} (k : ∀ x H', H x = none → Same H H' → Ins H' x C [] → sp (.ref x :: vs) H' (fun v H2 => v = .non ∧ Q (.ref x) H2) E) : makeq C sp E vs H Q := fun x dx nx nd ne =>
  k x _ nx (fun b o e => by rw [upd_ne (ne_of_none e nx), upd_ne (ne_of_none e nd)]; exact e) ⟨dx, upd_same⟩
theorem r_non (q : P) : V.non = V.non ∧ P := ⟨rfl, q⟩
end
/-! looking up in short lists of attributes -/
theorem lk_hd {f : Str} {v : V} {r : List (Str × V)} : List.lookup f ((f, v) :: r) = some v := by
  have e : (f == f) = true := beq_self_eq_true f
  simp only [List.lookup, e]
theorem lk_tl {f g : Str} {v : V} {r : List (Str × V)} {o : Option V} (h : (f == g) = false) (e : r.lookup f = o) : List.lookup f ((g, v) :: r) = o := by
  simp only [List.lookup, h]
  exact e
theorem lk_nil {f : Str} : List.lookup f ([] : List (Str × V)) = none := rfl
theorem pf_nil {f : Str} {v : V} : putF f v [] = [(f, v)] := rfl
theorem pf_hd {f : Str} {v x : V} {r : List (Str × V)} : putF f v ((f, x) :: r) = (f, v) :: r := by
  rw [putF, if_pos rfl]
theorem pf_tl {f g : Str} {v x : V} {r r' : List (Str × V)} (h : (g == f) = false) (e : putF f v r = r') : putF f v ((g, x) :: r) = (g, x) :: r' := by
  rw [putF, if_neg (beq_eq_false_iff_ne.mp h), e]
section
variable {X : Cx} {K : PySem.W.Frag} {H : Hp} {Q : VK}
theorem call_strU : CallR X (.type "str") uStr := by
  refine callw (call_str_int.or SkE.call_str_str) fun xs H Q h => ?_
  match xs, h with
  | [.int i], h => exact .inl ⟨_, rfl, h.1, h.2⟩
  | [.str a], h => exact .inr ⟨_, rfl, h⟩
theorem r_strI {n : Int} (h : n.natAbs.log2 < 1920) (q : Q (.str (toString n)) H) : uStr [.int n] H Q := ⟨h, q⟩
theorem r_strS {s : Str} (q : Q (.str s) H) : uStr [.str s] H Q := q
end
theorem inV_str (ss : List Str) (z : Str) : inV (.str z) (ss.map V.str) = decide (z ∈ ss) := by
  by_cases h : z ∈ ss
  · rw [decide_eq_true h]
    unfold inV
    rw [List.any_eq_true]
    exact ⟨.str z, List.mem_map_of_mem h, by simp [eqV]⟩
  · rw [decide_eq_false h]
    exact inV_no fun s hs e => h (e ▸ hs)
section
variable {K : PySem.W.Frag} {H : Hp} {Q : VK} {p : Addr} {ss : List Str} {z : Str}
theorem r_inTs (h : H p = some (.tup (ss.map V.str))) (q : Q (.bl (decide (z ∈ ss))) H) : uIn K (.str z) (.ref p) H Q := r_inT h rfl (flat_strs _) (by rw [inV_str]; exact q)
theorem r_inLs (h : H p = some (.lst (ss.map V.str))) (q : Q (.bl (decide (z ∈ ss))) H) : uIn K (.str z) (.ref p) H Q := r_inL h rfl (flat_strs _) (by rw [inV_str]; exact q)
end
section
variable {K : PySem.W.Frag} {H : Hp} {Q : VK} {p : Addr} {z : Str} {n : Int} {b : Bool}
theorem r_isNN (q : Q (.bl true) H) : uIs .non .non H Q := q
theorem r_isNS (q : Q (.bl false) H) : uIs (.str z) .non H Q := q
theorem r_isNI (q : Q (.bl false) H) : uIs (.int n) .non H Q := q
theorem r_isNR (q : Q (.bl false) H) : uIs (.ref p) .non H Q := q
theorem r_isNB (q : Q (.bl false) H) : uIs (.bl b) .non H Q := q
theorem r_isnotNN (q : Q (.bl false) H) : uIsNot .non .non H Q := q
theorem r_isnotNS (q : Q (.bl true) H) : uIsNot (.str z) .non H Q := q
theorem r_isnotNI (q : Q (.bl true) H) : uIsNot (.int n) .non H Q := q
theorem r_isnotNR (q : Q (.bl true) H) : uIsNot (.ref p) .non H Q := q
theorem r_isnotNB (q : Q (.bl true) H) : uIsNot (.bl b) .non H Q := q
end
/-! data that may be compared -/
structure Okd (n : Nat) (d : PyData) : Prop where
  nb : nb d = true
  dp : d.depth ≤ n
theorem Okd.le {n m : Nat} {d : PyData} (h : Okd n d) (k : n ≤ m) : Okd m d := ⟨h.nb, Nat.le_trans h.dp k⟩
theorem Okd.str {n : Nat} {s : Str} (h : Asc s) : Okd n (.str s) := ⟨by rw [Dk.nb]; exact h.ok, by simp [PyData.depth]⟩
theorem Okd.non {n : Nat} : Okd n .none := ⟨by simp [Dk.nb], by simp [PyData.depth]⟩
theorem Okd.int {n : Nat} (i : Int) : Okd n (.int i) := ⟨by simp [Dk.nb], by simp [PyData.depth]⟩
theorem okd_all {n : Nat} : ∀ {ds : List PyData}, (∀ d ∈ ds, Okd n d) → nbs ds = true ∧ PyData.depthAll ds ≤ n
  | [], _ => ⟨by simp [nbs], by simp [PyData.depthAll]⟩
  | d :: ds, h => by
    have h1 := h d List.mem_cons_self
    have h2 := okd_all fun e he => h e (List.mem_cons_of_mem _ he)
    refine ⟨by rw [nbs, h1.nb, h2.1] <;> rfl, ?_⟩
    rw [PyData.depthAll]
    have := h1.dp
    omega
theorem Okd.tup {n : Nat} {ds : List PyData} (h : ∀ d ∈ ds, Okd n d) : Okd (n + 1) (.tuple ds) := by
  have q := okd_all h
  refine ⟨by rw [Dk.nb]; exact q.1, ?_⟩
  rw [PyData.depth]
  omega
theorem Okd.shaped {n : Nat} {d : PyData} (h : Okd n d) (k : n ≤ 64) : SeqAt.shaped d = true := nb_shaped h.nb (Nat.le_trans h.dp k)
theorem Okd.sD {n : Nat} {ss : List Str} (h : ∀ s ∈ ss, Asc s) : Okd (n + 1) (sD ss) := by
  refine .tup fun d hd => ?_
  obtain ⟨s, hs, rfl⟩ := List.mem_map.mp hd
  exact .str (h s hs)
section
variable {K : PySem.W.Frag} {H : Hp} {Q : VK} {p : Addr} {y : V} {d f : PyData} {n : Nat}
theorem r_neOk (hx : Dq H (.ref p) d) (hy : Dq H y d) (ok : Okd n d) (hn : n ≤ 64) (q : Q (.bl false) H) : uNe K (.ref p) y H Q := by
  refine r_neD hx hy (ok.shaped hn) (ok.shaped hn) ?_
  rw [eqv_self ok.nb]
  exact q
theorem r_eqOk (hx : Dq H (.ref p) d) (hy : Dq H y d) (ok : Okd n d) (hn : n ≤ 64) (q : Q (.bl true) H) : uEq K (.ref p) y H Q := by
  refine r_eqD hx hy (ok.shaped hn) (ok.shaped hn) ?_
  rw [eqv_self ok.nb]
  exact q
end
theorem len_cut (z : Str) (lo hi : Option Int) : (cutS z lo hi).length ≤ z.length := by
  show (((z.cps.toList.drop _).take _).toArray).size ≤ z.cps.size
  rw [List.size_toArray, List.length_take, List.length_drop, Array.length_toList]
  omega
/-- a list alone is changed -/
theorem gro_but {H H' : Hp} {a : Addr} {xs : List V} (h : H a = some (.lst xs)) (k : ∀ b, b ≠ a → H' b = H b) : Gro H H' := by
  refine ⟨fun b ys q => ?_, fun b o u q => ?_⟩
  · rw [k b (ne_of q h (by intro z; cases z))]
    exact q
  · rw [k b (ne_of q h (by intro z; cases z))]
    exact q
end Dk

/-! Directories and routes: the plain law. -/
namespace Dk
open PySem PySem.Spec PyProof.Rows L2 TL
/-- x[-n - 1:] -/
theorem tl_cutEnd (z : Str) (n : Nat) : tl (cutS z (some (-(n : Int) - 1)) none) = (tl z).drop ((tl z).length - (n + 1)) := by
  unfold cutS
  rw [HT.sIx_none]
  have e : HT.sIx z.length 0 (some (-(n : Int) - 1)) = (tl z).length - (n + 1) := by
    show (if (-(n : Int) - 1) < 0 then ((-(n : Int) - 1) + (z.length : Int)).toNat else _) = _
    rw [if_pos (by omega), len_tl]
    omega
  rw [e]
  show ((tl z).drop ((tl z).length - (n + 1))).take (z.length - ((tl z).length - (n + 1))) = _
  rw [List.take_of_length_le]
  rw [List.length_drop, len_tl]
  omega
theorem ends_cut (d s : Str) : decide (cutS d (some (-(s.length : Int) - 1)) none = dotS ++ s) = Txt.endswith d (dotS ++ s) := by
  have el : (dotS ++ s).length = s.length + 1 := by rw [Str.length_append, dotS_len]; omega
  have en : tl (cutS d (some (-(s.length : Int) - 1)) none) = (tl d).drop ((tl d).length - (s.length + 1)) := tl_cutEnd d s.length
  unfold Txt.endswith
  rw [PySem.StrLaws.subAt_eq, Nat.zero_add, el, len_tl d]
  have l2 : (tl (dotS ++ s)).length = s.length + 1 := by rw [← len_tl]; exact el
  by_cases h : s.length + 1 ≤ (tl d).length
  · rw [decide_eq_true h, Bool.true_and]
    have et : (List.drop ((tl d).length - (s.length + 1)) d.cps.toList).take (s.length + 1) = (tl d).drop ((tl d).length - (s.length + 1)) := by
      rw [List.take_of_length_le]
      rw [List.length_drop]
      show (tl d).length - _ ≤ _
      omega
    rw [et]
    by_cases q : cutS d (some (-(s.length : Int) - 1)) none = dotS ++ s
    · rw [decide_eq_true q, ← en, q]
      exact (beq_self_eq_true _).symm
    · rw [decide_eq_false q]
      symm
      rw [beq_eq_false_iff_ne]
      intro z
      exact q (ext_tl (en.trans z))
  · rw [decide_eq_false h, Bool.false_and]
    rw [decide_eq_false_iff_not]
    intro q
    have e2 : (tl (cutS d (some (-(s.length : Int) - 1)) none)).length = (tl (dotS ++ s)).length := congrArg (fun z => (tl z).length) q
    rw [en, List.length_drop, l2] at e2
    omega
/-! lists of a directory -/
abbrev Lst : Type := Str × PyData × PyData
def entD (x : Lst) : PyData := .tuple [.str x.1, x.2.1, x.2.2]
def listD (x : Lst) : PyData := .tuple [.str "list", x.2.1, x.2.2]
def findM (l : Str) : List Lst → PyData
  | [] => .tuple [.str "unknown"]
  | x :: r => if x.1 = l then listD x else findM l r
def lookupM (dm : Str) (users : List Str) (L : List Lst) (l d : Str) : PyData :=
  if d = dm then (if l ∈ users then .tuple [.str "box", .str l] else findM l L) else .tuple [.str "remote"]
/-- the law's own search: the last one found -/
def lastM (l : Str) (b : PyData) : List Lst → PyData
  | [] => b
  | x :: r => lastM l (if x.1 = l then listD x else b) r
theorem lastM_snoc (l : Str) (x : Lst) : ∀ (L : List Lst) (b : PyData), lastM l b (L ++ [x]) = if x.1 = l then listD x else lastM l b L
  | [], _ => rfl
  | y :: r, b => lastM_snoc l x r _
theorem lastM_no {l : Str} : ∀ {L : List Lst} {b : PyData}, l ∉ L.map (·.1) → lastM l b L = b
  | [], _, _ => rfl
  | x :: r, b, h => by
    rw [List.map_cons, List.mem_cons] at h
    rw [lastM, if_neg (fun e => h (.inl e.symm)), lastM_no fun z => h (.inr z)]
theorem findM_no {l : Str} : ∀ {L : List Lst}, l ∉ L.map (·.1) → findM l L = .tuple [.str "unknown"]
  | [], _ => rfl
  | x :: r, h => by
    rw [List.map_cons, List.mem_cons] at h
    rw [findM, if_neg (fun e => h (.inl e.symm)), findM_no fun z => h (.inr z)]
theorem lastM_find {l : Str} : ∀ {L : List Lst} {b : PyData}, (L.map (·.1)).Nodup → l ∈ L.map (·.1) → lastM l b L = findM l L
  | [], _, _, h => nomatch h
  | x :: r, b, hn, h => by
    rw [List.map_cons, List.nodup_cons] at hn
    rw [lastM, findM]
    by_cases e : x.1 = l
    · rw [if_pos e, if_pos e, lastM_no (e ▸ hn.1)]
    · rw [if_neg e, if_neg e]
      rw [List.map_cons, List.mem_cons] at h
      exact lastM_find hn.2 (h.resolve_left fun z => e z.symm)
/-- names of users, of lists: a letter, a figure, at most six signs -/
structure NmL (z : Nat) (ss : List Str) : Prop where
  at_ : ∀ (i : Nat) s, ss[i]? = some s → ∃ w, tl s = z :: (48 + i) :: w ∧ w.length ≤ 6 ∧ Asc s
theorem NmL.len {z : Nat} {ss : List Str} (h : NmL z ss) : ∀ s ∈ ss, s.length ≤ 8 ∧ Asc s := fun s hs => by
  obtain ⟨i, hi⟩ := List.getElem?_of_mem hs
  obtain ⟨w, e, hw, ha⟩ := h.at_ i s hi
  exact ⟨by rw [len_tl, e]; simp; omega, ha⟩
theorem NmL.nodup {z : Nat} {ss : List Str} (h : NmL z ss) : ss.Nodup := by
  rw [List.nodup_iff_pairwise_ne, List.pairwise_iff_getElem]
  intro i j hi hj hij e
  obtain ⟨w, e1, _⟩ := h.at_ i ss[i] (List.getElem?_eq_getElem hi)
  obtain ⟨w', e2, _⟩ := h.at_ j ss[i] (by rw [e]; exact List.getElem?_eq_getElem hj)
  rw [e1] at e2
  have := (List.cons.inj (List.cons.inj e2).2).1
  omega
theorem NmL.fst {z : Nat} {ss : List Str} (h : NmL z ss) {s : Str} (hs : s ∈ ss) : (tl s).head? = some z := by
  obtain ⟨i, hi⟩ := List.getElem?_of_mem hs
  obtain ⟨w, e, _⟩ := h.at_ i s hi
  rw [e] <;> rfl
theorem find_last {dm : Str} {users : List Str} {L : List Lst} (hu : NmL 117 users) (hl : NmL 108 (L.map (·.1))) (l : Str) :
    lookupM dm users L l dm = lastM l (if l ∈ users then .tuple [.str "box", .str l] else .tuple [.str "unknown"]) L := by
  unfold lookupM
  rw [if_pos rfl]
  by_cases h1 : l ∈ users
  · rw [if_pos h1, if_pos h1, lastM_no]
    intro h2
    have := hu.fst h1
    rw [hl.fst h2] at this
    cases this
  · rw [if_neg h1, if_neg h1]
    by_cases h2 : l ∈ L.map (·.1)
    · rw [lastM_find hl.nodup h2]
    · rw [lastM_no h2, findM_no h2]
/-! routes -/
def tailM (s d : Str) : Bool := s = eS || d = s || Txt.endswith d (dotS ++ s)
def stepR (d : Str) (a : Option Str × PyData) (x : Str × PyData) : Option Str × PyData :=
  if (tailM x.1 d && (match a.1 with | none => true | some b => decide (b.length < x.1.length))) = true then (some x.1, x.2) else a
def routeM (d : Str) (R : List (Str × PyData)) : Option Str × PyData := R.foldl (stepR d) (none, .tuple [])
theorem routeM_snoc (d : Str) (R : List (Str × PyData)) (x : Str × PyData) : routeM d (R ++ [x]) = stepR d (routeM d R) x := by
  unfold routeM
  rw [List.foldl_append] <;> rfl
theorem routeM_P {P : PyData → Prop} (d : Str) (h0 : P (.tuple [])) {R : List (Str × PyData)} (hR : ∀ x ∈ R, P x.2) : P (routeM d R).2 := by
  have key : ∀ (R : List (Str × PyData)) (a : Option Str × PyData), P a.2 → (∀ x ∈ R, P x.2) → P (R.foldl (stepR d) a).2 := by
    intro R
    induction R with
    | nil => exact fun a h _ => h
    | cons x r ih =>
      intro a h hr
      refine ih _ ?_ fun y hy => hr y (List.mem_cons_of_mem _ hy)
      unfold stepR
      by_cases c : (tailM x.1 d && (match a.1 with | none => true | some b => decide (b.length < x.1.length))) = true
      · rw [if_pos c]
        exact hr x List.mem_cons_self
      · rw [if_neg c]
        exact h
  exact key R (none, .tuple []) h0 hR
def bestV : Option Str → V
  | none => .non
  | some b => .str b
theorem get_mapG {α β : Type} {f : α → β} {xs : List α} {i : Nat} {y : β} (h : (xs.map f)[i]? = some y) : ∃ x, xs[i]? = some x ∧ f x = y := by
  rw [List.getElem?_map] at h
  cases e : xs[i]? with
  | none =>
    rw [e] at h
    cases h
  | some x =>
    rw [e] at h
    exact ⟨x, rfl, Option.some.inj h⟩
def rowD (x : Str × PyData) : PyData := .tuple [.str x.1, x.2]
/-- the entries of the lists may be compared -/
structure LsOk (L : List Lst) : Prop where
  nm : ∀ x ∈ L, Asc x.1
  ow : ∀ x ∈ L, Okd 2 x.2.1
  mb : ∀ x ∈ L, Okd 2 x.2.2
theorem LsOk.nil : LsOk [] := ⟨(fun _ h => absurd h List.not_mem_nil), (fun _ h => absurd h List.not_mem_nil), (fun _ h => absurd h List.not_mem_nil)⟩
theorem LsOk.snoc {L : List Lst} {x : Lst} (h : LsOk L) (h1 : Asc x.1) (h2 : Okd 2 x.2.1) (h3 : Okd 2 x.2.2) : LsOk (L ++ [x]) := by
  refine ⟨fun y hy => ?_, fun y hy => ?_, fun y hy => ?_⟩ <;> rcases List.mem_append.mp hy with hy | hy
  · exact h.nm y hy
  · rw [List.mem_singleton.mp hy]; exact h1
  · exact h.ow y hy
  · rw [List.mem_singleton.mp hy]; exact h2
  · exact h.mb y hy
  · rw [List.mem_singleton.mp hy]; exact h3
theorem LsOk.ok {L : List Lst} (h : LsOk L) : Okd 4 (.tuple (L.map entD)) := by
  refine .tup fun d hd => ?_
  obtain ⟨x, hx, rfl⟩ := List.mem_map.mp hd
  refine .tup fun d hd => ?_
  simp only [List.mem_cons, List.not_mem_nil, or_false] at hd
  rcases hd with rfl | rfl | rfl
  · exact .str (h.nm x hx)
  · exact h.ow x hx
  · exact h.mb x hx
theorem LsOk.find {L : List Lst} (h : LsOk L) (l : Str) : Okd 3 (findM l L) := by
  induction L with
  | nil => exact .tup fun d hd => by rw [List.mem_singleton.mp hd]; exact .str (by unfold Asc; decide +kernel)
  | cons x r ih =>
    rw [findM]
    by_cases e : x.1 = l
    · rw [if_pos e]
      refine .tup fun d hd => ?_
      simp only [List.mem_cons, List.not_mem_nil, or_false] at hd
      rcases hd with rfl | rfl | rfl
      · exact .str (by unfold Asc; decide +kernel)
      · exact h.ow x List.mem_cons_self
      · exact h.mb x List.mem_cons_self
    · rw [if_neg e]
      exact ih ⟨fun y hy => h.nm y (List.mem_cons_of_mem _ hy), fun y hy => h.ow y (List.mem_cons_of_mem _ hy), fun y hy => h.mb y (List.mem_cons_of_mem _ hy)⟩
theorem LsOk.look {L : List Lst} (h : LsOk L) {dm : Str} {us : List Str} {l d : Str} (hl : Asc l) : Okd 3 (lookupM dm us L l d) := by
  unfold lookupM
  by_cases c : d = dm
  · rw [if_pos c]
    by_cases c2 : l ∈ us
    · rw [if_pos c2]
      refine .tup fun d hd => ?_
      simp only [List.mem_cons, List.not_mem_nil, or_false] at hd
      rcases hd with rfl | rfl
      · exact .str (by unfold Asc; decide +kernel)
      · exact .str hl
    · rw [if_neg c2]
      exact h.find l
  · rw [if_neg c]
    exact .tup fun d hd => by rw [List.mem_singleton.mp hd]; exact .str (by unfold Asc; decide +kernel)
/-- an entry as it stands -/
theorem ent_at {H : Hp} {v : V} {x : Lst} (h : Dq H v (entD x)) : ∃ a o m, v = .ref a ∧ H a = some (.tup [.str x.1, o, m]) ∧ Dq H o x.2.1 ∧ Dq H m x.2.2 := by
  unfold entD at h
  cases h with
  | tup ht hs =>
  cases hs with
  | cons h1 hs =>
  cases hs with
  | cons h2 hs =>
  cases hs with
  | cons h3 hs =>
  cases hs
  cases h1
  exact ⟨_, _, _, rfl, ht, h2, h3⟩
end Dk

namespace Dk
open PySem PySem.Spec PyProof.Rows L2
/-! steps of the walk -/
local macro_rules | `(tactic| walk_at "sz") => `(tactic| first | assumption | (rw [sizeLine_eq]; (try simp only [PySem.Str.length_append, trS_len, atS_len, eS_len, dotS_len, List.length_append, List.length_cons, List.length_nil, List.length_map]); omega) | ((try simp only [PySem.Str.length_append, trS_len, atS_len, eS_len, dotS_len, List.length_append, List.length_cons, List.length_nil, List.length_map]); omega))
local macro_rules | `(tactic| walk_at "gr") => `(tactic| first
  | assumption
  | ((with_reducible refine' Stp.gro ?f1); (case f1 => assumption))
  | ((with_reducible refine' Gro.same ?f1); (case f1 => assumption)))
local macro_rules | `(tactic| walk_at "grs") => `(tactic| first | with_reducible exact Gro.refl _ | ((with_reducible refine' Gro.trans ?_ ?g2); (case g2 => walk_at "gr")))
local macro_rules | `(tactic| walk_at "grc") => `(tactic| repeat (walk_at "grs"))
local macro_rules | `(tactic| walk_at "chs") => `(tactic| first
  | assumption
  | ((with_reducible refine' same_at ?e1 ?_); (case e1 => assumption))
  | ((with_reducible refine' Stp.at_ ?e1 ?_ ?e3); (case e1 => assumption); (case e3 => walk_at "hp")))
local macro_rules | `(tactic| walk_at "ch") => `(tactic| repeat (walk_at "chs"))
local macro_rules | `(tactic| walk_at "hp") => `(tactic| first
  | assumption
  | ((with_reducible refine' Stp.drw ?e1); (case e1 => assumption))
  | ((with_reducible refine' SqL.of ?e1); (case e1 => walk_at "hp"))
  | ((with_reducible refine' Drw.mono ?e1 ?e2); (case e1 => assumption); (case e2 => walk_at "hp"))
  | ((with_reducible refine' Scr.mono ?e1 ?e2); (case e2 => assumption); (case e1 => walk_at "grc"))
  | ((with_reducible refine' Dq.mono ?e1 ?e2); (case e2 => assumption); (case e1 => walk_at "grc"))
  | ((with_reducible refine' Dqs.mono ?e1 ?e2); (case e2 => assumption); (case e1 => walk_at "grc"))
  | ((with_reducible refine' Gro.tup ?e1 _ _ ?e2); (case e2 => assumption); (case e1 => walk_at "grc"))
  | ((with_reducible refine' ne_drw' ?e1 ?e2); (case e1 => assumption); (case e2 => walk_at "hp"))
  | ((with_reducible refine' from_ ?e1 ?e2); (case e1 => assumption); (case e2 => (intro hh; walk_at "ch"))))
local macro_rules | `(tactic| walk_at "st") => `(tactic| first
  | with_reducible refine' r_seq ?_
  | with_reducible refine' r_set ?_
  | with_reducible refine' r_if ?_
  | with_reducible refine' r_ret ?_
  | with_reducible refine' r_drop ?_
  | with_reducible refine' r_next ?_
  | with_reducible refine' r_asg ?_
  | with_reducible refine' r_break ?_
  | with_reducible refine' r_cont ?_
  | with_reducible refine' r_retN ?_
  | with_reducible refine' r_par ?_
  | with_reducible refine' r_par2 ?_
  | ((with_reducible refine' r_augI ?h ?_); (case h => rfl)))
local macro_rules | `(tactic| walk_at "ex") => `(tactic| first
  | ((with_reducible refine' r_var ?h ?_); (case h => rfl))
  | with_reducible refine' r_c ?_
  | with_reducible refine' r_op ?_
  | with_reducible refine' r_test ?_
  | with_reducible refine' r_tru ?_
  | with_reducible refine' r_cons ?_
  | with_reducible refine' r_nil ?_
  | with_reducible refine' r_cb ?_
  | with_reducible refine' r_call ?_
  | with_reducible refine' r_bm ?_
  | with_reducible refine' r_bm0 ?_
  | with_reducible refine' r_sl ?_
  | with_reducible refine' r_part ?_
  | with_reducible refine' r_nopart ?_
  | with_reducible refine' r_tup ?_
  | with_reducible refine' r_lst ?_
  | with_reducible refine' r_and ?_
  | with_reducible refine' r_or ?_
  | with_reducible refine' r_not ?_
  | with_reducible refine' r_andT ?_
  | with_reducible refine' r_orT ?_
  | with_reducible refine' r_notT ?_
  | with_reducible refine' r_ifx ?_
  | with_reducible refine' r_un ?_
  | with_reducible refine' r_chain ?_
  | with_reducible refine' r_tB ?_
  | with_reducible refine' r_gname ?_
  | with_reducible refine' r_gsub ?_)
local macro_rules | `(tactic| walk_at "va") => `(tactic| first
  | with_reducible refine' r_bl ?_
  | with_reducible refine' r_trub ?_
  | with_reducible refine' r_trui ?_
  | with_reducible refine' r_trun ?_
  | with_reducible refine' r_ex1 ?_
  | with_reducible refine' r_tys ?_
  | with_reducible refine' r_addI ?_
  | ((with_reducible refine' r_addS ?h ?_); (case h => walk_at "sz"))
  | with_reducible refine' r_eqI ?_
  | with_reducible refine' r_eqS ?_
  | with_reducible refine' r_neI ?_
  | with_reducible refine' r_neS ?_
  | with_reducible refine' r_I0 ?_
  | ((with_reducible refine' r_I ?h ?_); (case h => first | assumption | omega | (refine ⟨?_, ?_⟩ <;> omega) | exact ⟨by omega, by omega, by decide⟩))
  | ((with_reducible refine' r_mulI ?h ?_); (case h => first | exact .inl ⟨by decide, by decide⟩ | exact .inr ⟨by decide, by decide⟩ | exact .inl ⟨by omega, by omega⟩ | exact .inr ⟨by omega, by omega⟩))
  | with_reducible refine' r_intI ?_
  | with_reducible refine' r_intB ?_
  | with_reducible refine' r_S1 ?_
  | ((with_reducible refine' r_S1l ?h ?_); (case h => walk_at "sz"))
  | ((with_reducible refine' r_S0 ?h ?_); (case h => walk_at "sz"))
  | ((with_reducible refine' r_slS ?h ?_); (case h => walk_at "sz"))
  | ((with_reducible refine' r_lenS ?h ?_); (case h => walk_at "sz"))
  | with_reducible refine' r_isN ?_
  | with_reducible refine' r_isB ?_
  | with_reducible refine' r_isnotN ?_
  | with_reducible refine' r_isnotB ?_
  | with_reducible refine' r_inS ?_
  | with_reducible refine' r_notinS ?_
  | with_reducible refine' r_neg ?_
  | ((with_reducible refine' r_isi ?h ?h2 ?_); (case h => first | rfl | exact tyN_t (by walk_at "hp") | exact tyN_l (by walk_at "hp")); (case h2 => first | exact kit_NoneType_int | exact kit_NoneType_bool | exact kit_NoneType_tuple | exact kit_NoneType_str | exact kit_NoneType_list | exact kit_bool_int | exact kit_bool_bool | exact kit_bool_tuple | exact kit_bool_str | exact kit_bool_list | exact kit_int_int | exact kit_int_bool | exact kit_int_tuple | exact kit_int_str | exact kit_int_list | exact kit_str_int | exact kit_str_bool | exact kit_str_tuple | exact kit_str_str | exact kit_str_list | exact kit_list_int | exact kit_list_bool | exact kit_list_tuple | exact kit_list_str | exact kit_list_list | exact kit_tuple_int | exact kit_tuple_bool | exact kit_tuple_tuple | exact kit_tuple_str | exact kit_tuple_list))
  | with_reducible refine' r_iteT ?_
  | with_reducible refine' r_iteF ?_
  | with_reducible refine' r_itnT ?_
  | with_reducible refine' r_itnF ?_
  | ((with_reducible refine' r_new ?h ?_); (case h => walk_at "sz"); intro p H' np sm hp))
local macro_rules | `(tactic| walk_at "hv") => `(tactic| first
  | ((with_reducible refine' r_ixT ?h ?h2 ?_); (case h => walk_at "hp"); (case h2 => first | assumption | rfl | exact atI_nat (j := 0) rfl | exact atI_nat (j := 1) rfl | exact atI_nat (j := 2) rfl | exact atI_nat (j := 3) rfl | exact atI_nat (j := 4) rfl))
  | ((with_reducible refine' r_ixL ?h ?h2 ?_); (case h => walk_at "hp"); (case h2 => first | assumption | rfl | exact atI_nat (j := 0) rfl | exact atI_nat (j := 1) rfl | exact atI_nat (j := 2) rfl | exact atI_nat (j := 3) rfl | exact atI_nat (j := 4) rfl))
  | ((with_reducible refine' r_lenT ?h ?_); (case h => walk_at "hp"))
  | ((with_reducible refine' r_lenL ?h ?_); (case h => walk_at "hp"))
  | ((with_reducible refine' r_tyl ?h ?_); (case h => walk_at "hp"))
  | ((with_reducible refine' r_trul ?h ?_); (case h => walk_at "hp"))
  | ((with_reducible refine' r_trut ?h ?_); (case h => exact SqT.of (by walk_at "hp")))
  | ((with_reducible refine' r_setL ?h ?h2 ?_); (case h => walk_at "hp"); (case h2 => rfl); intro H' hp kp)
  | ((with_reducible refine' r_app ?h ?h2 ?_); (case h => walk_at "hp"); (case h2 => walk_at "sz"); intro H' hp kp)
  | ((with_reducible refine' r_addT ?h ?h1 ?h2 ?_); (case h => walk_at "hp"); (case h1 => walk_at "hp"); (case h2 => walk_at "sz"); intro p H' sm hp)
  | ((with_reducible refine' r_addL ?h ?h1 ?h2 ?_); (case h => walk_at "hp"); (case h1 => walk_at "hp"); (case h2 => walk_at "sz"); intro p H' np sm hp)
  | ((with_reducible refine' r_tupleL ?h ?_); (case h => walk_at "hp"); intro p H' np sm hp)
  | ((with_reducible refine' r_tupleT ?h ?_); (case h => walk_at "hp"))
  | ((with_reducible refine' r_listT ?h ?_); (case h => walk_at "hp"); intro p H' np sm hp)
  | ((with_reducible refine' r_listL ?h ?_); (case h => walk_at "hp"); intro p H' np sm hp)
  | ((with_reducible refine' r_gtup ?h ?h2 ?_); (case h => walk_at "hp"); (case h2 => rfl))
  | with_reducible refine' r_gcons ?_
  | with_reducible refine' r_gnil ?_)
local macro_rules | `(tactic| walk_at "call") => `(tactic| fail "no call")
local macro_rules | `(tactic| walk_at "s") => `(tactic| first | walk_at "st" | walk_at "ex" | walk_at "va" | walk_at "hv" | walk_at "call")
local macro_rules | `(tactic| walk_at "go") => `(tactic| repeat (walk_at "s"))
local macro_rules | `(tactic| walk_at "br") => `(tactic| first
  | ((with_reducible refine' r_ite ?_ ?_) <;> intro hc)
  | ((with_reducible refine' r_iten ?_ ?_) <;> intro hc)
  | ((with_reducible refine' r_itb ?_ ?_) <;> intro hc))
local macro_rules | `(tactic| walk_at "all") => `(tactic| repeat' (first | walk_at "s" | walk_at "br"))
local macro_rules | `(tactic| walk_at "nat") => `(tactic| first | assumption | decide | omega | ((try simp only [List.length_map, List.length_cons, List.length_nil]); omega))
local macro_rules | `(tactic| walk_at "ex") => `(tactic| first | with_reducible refine' r_lcr ?_ | with_reducible refine' r_lcu ?_ | with_reducible refine' r_forr ?_ | with_reducible refine' r_foru ?_)
/-! own classes -/
local macro_rules | `(tactic| walk_at "lk") => `(tactic| first | with_reducible exact lk_hd | ((with_reducible refine' lk_tl ?h1 ?h2); (case h1 => decide +kernel); (case h2 => walk_at "lk")) | with_reducible exact lk_nil)
local macro_rules | `(tactic| walk_at "pf") => `(tactic| first | with_reducible exact pf_nil | with_reducible exact pf_hd | ((with_reducible refine' pf_tl ?h1 ?h2); (case h1 => decide +kernel); (case h2 => walk_at "pf")))
local macro_rules | `(tactic| walk_at "hp") => `(tactic| first
  | ((with_reducible refine' Ins.same ?e1 ?e2); (case e1 => assumption); (case e2 => walk_at "hp"))
  | ((with_reducible refine' Ins.stp ?e1 ?e2 ?e3); (case e1 => assumption); (case e2 => walk_at "hp"); (case e3 => walk_at "hp")))
local macro_rules | `(tactic| walk_at "ex") => `(tactic| first
  | with_reducible refine' r_fld ?_
  | with_reducible refine' r_sfld ?_
  | with_reducible refine' r_meth ?_
  | with_reducible refine' r_make ?_
  | with_reducible refine' r_strS ?_
  | ((with_reducible refine' r_strI ?h ?_); (case h => walk_at "nat")))
local macro_rules | `(tactic| walk_at "hv") => `(tactic| first
  | ((with_reducible refine' r_fldv ?h ?h2 ?h3 ?h4 ?_); (case h => walk_at "hp"); (case h2 => assumption); (case h3 => assumption); (case h4 => walk_at "lk"))
  | ((with_reducible refine' r_methv ?h ?h2 ?_); (case h => walk_at "hp"); (case h2 => walk_at "lk"))
  | ((with_reducible refine' r_sfldv ?h ?h2 ?h3 ?h4 ?h5 ?_); (case h => walk_at "hp"); (case h2 => assumption); (case h3 => assumption); (case h4 => first | decide | (simp only [List.length_cons, List.length_nil]; decide)); (case h5 => walk_at "pf"); intro H' hi hk))
local macro_rules | `(tactic| walk_at "hv") => `(tactic| first
  | ((with_reducible refine' r_inTs ?h ?_); (case h => walk_at "hp"))
  | ((with_reducible refine' r_inLs ?h ?_); (case h => walk_at "hp")))
local macro_rules | `(tactic| walk_at "va") => `(tactic| first
  | with_reducible refine' r_isNN ?_
  | with_reducible refine' r_isNS ?_
  | with_reducible refine' r_isNI ?_
  | with_reducible refine' r_isNR ?_
  | with_reducible refine' r_isNB ?_
  | with_reducible refine' r_isnotNN ?_
  | with_reducible refine' r_isnotNS ?_
  | with_reducible refine' r_isnotNI ?_
  | with_reducible refine' r_isnotNR ?_
  | with_reducible refine' r_isnotNB ?_)

def top (i : Nat) : Stmt := PySem.Challenge.pw_dawkline_k09_directories_and_routes.main.body.getD i (.Pass ⟨0, 0, 0, 0⟩)

/-! ### Directory.__init__ -/
abbrev s_Directory___init__ : Stmt := inClass (top 1) 0
abbrev N_Directory___init__ : List Str := ["self", "domain", "users", "lists"]
theorem sc_Directory___init__ : FnScope N_Directory___init__ ["self", "domain", "users", "lists"] (defScope s_Directory___init__) := ⟨rfl, rfl, rfl, by decide +kernel, rfl, by decide +kernel, by decide +kernel⟩
theorem bi_Directory___init__ : BindQ "__init__" "Directory.__init__" s_Directory___init__ ["self", "domain", "users", "lists"] := fun _ _ _ _ _ _ us hl => match us, hl with | [_, _, _, _], _ => rfl
def sp_Directory___init__ (K : PySem.W.Frag) : Sp := sp4 fun self d u l H Q _ => ∃ a, self = .ref a ∧ Ins H a (He.ga K "Directory") [] ∧ ∀ H', Ins H' a (He.ga K "Directory") [("domain", d), ("users", u), ("lists", l)] → (∀ b, b ≠ a → H' b = H b) → Q .non H'
theorem ok_Directory___init__ {e : Wd} (D : InitAt e (He.ga e.K "Directory") "Directory" "Directory.__init__" s_Directory___init__) (B : Bl e.mg) (kc_Directory : Cls e.K (He.ga e.K "Directory")) (kn_Directory_domain : NoAttr e.K (He.ga e.K "Directory") "domain") (kn_Directory_users : NoAttr e.K (He.ga e.K "Directory") "users") (kn_Directory_lists : NoAttr e.K (He.ga e.K "Directory") "lists") : CanN e 1 (He.ga e.K "Directory") "Directory" ["self", "domain", "users", "lists"] (sp_Directory___init__ e.K) := by
  refine canN_of D sc_Directory___init__ bi_Directory___init__ (fun _ _ _ _ h => sp4_len h) (fun cdv f A outer s H vs Q E hr h => ?_)
  obtain ⟨v0, v1, v2, v3, rfl, h⟩ := sp4_ex h
  have nd := sc_Directory___init__.nd
  obtain ⟨a, rfl, hi, k⟩ := h
  refine ⟨_, (pss_cons (ps_fldU (K := e.K) (pv 0) (pv 1))
    (pss_cons (ps_fldU (K := e.K) (pv 0) (pv 2))
    (pss_one (ps_fldU (K := e.K) (pv 0) (pv 3))))), ?_⟩
  walk_at "go"
  rename_i H1 hi1 k1 H2 hi2 k2 H3 hi3 k3
  exact k _ hi3 fun b hb => by rw [k3 b hb, k2 b hb, k1 b hb]
theorem use_Directory {K : PySem.W.Frag} {d u l : V} {H : Hp} {Q : VK} {E : XK} (k : ∀ x H', H x = none → Same H H' → Ins H' x (He.ga K "Directory") [("domain", d), ("users", u), ("lists", l)] → Q (.ref x) H') : makeq (He.ga K "Directory") (sp_Directory___init__ K) E [d, u, l] H Q :=
  r_makev fun x H1 nx sm hi => ⟨x, rfl, hi, fun H2 h2 hb => ⟨rfl, k x H2 nx (fun b o e => by rw [hb b (ne_of_none e nx)]; exact sm b o e) h2⟩⟩
local macro_rules | `(tactic| walk_at "call") => `(tactic| ((with_reducible refine' use_Directory ?_); intro x H' nx sm hi))

/-! ### matches -/
abbrev s_matches : Stmt := top 2
abbrev N_matches : List Str := ["suffix", "domain"]
theorem sc_matches : FnScope N_matches ["suffix", "domain"] (defScope s_matches) := ⟨rfl, rfl, rfl, by decide +kernel, rfl, by decide +kernel, by decide +kernel⟩
theorem bi_matches : BindOk "matches" s_matches ["suffix", "domain"] := fun _ _ _ _ _ _ us hl => match us, hl with | [_, _], _ => rfl
def sp_matches (K : PySem.W.Frag) : Sp := sp2 fun x y H Q _ => ∃ s d, x = .str s ∧ y = .str d ∧ s.length ≤ 100000 ∧ Q (.bl (tailM s d)) H
theorem ok_matches {e : Wd} (D : DefAt e "matches" s_matches) (B : Bl e.mg) : Can e 1 "matches" ["suffix", "domain"] (sp_matches e.K) := by
  refine can_of D sc_matches bi_matches (fun _ _ _ _ h => sp2_len h) (fun cdv f A outer s H vs Q E hr h => ?_)
  obtain ⟨v0, v1, rfl, h⟩ := sp2_ex h
  have nd := sc_matches.nd
  obtain ⟨s, d, rfl, rfl, hl, k⟩ := h
  unfold tailM at k
  refine ⟨_, (pss_one (ps_ret (pe_orU (K := e.K) (pe_cmpR (op_eqU (K := e.K) hr) (pv 0) pe_str (nomark _)) (pe_orU (K := e.K) (pe_cmpR (op_eqU (K := e.K) hr) (pv 1) (pv 0) (nomark _)) (pe_one (pe_bmU (K := e.K) PySem.F.plainAttrs_str PySem.F.slot_str_endswith PySem.F.type_str_endswith mt_endsU (pv 1) (pa_cons (pe_op (op_addU (K := e.K)) pe_str (pv 0)) pa_nil))))))), ?_⟩
  walk_at "go"
  refine r_itb (fun c => ?_) (fun c => ?_)
  · have c' : s = eS := of_decide_eq_true c
    rw [decide_eq_true c', Bool.true_or, Bool.true_or] at k
    rw [c]
    exact k
  have c' : s ≠ eS := of_decide_eq_false c
  rw [decide_eq_false c', Bool.false_or] at k
  walk_at "go"
  refine r_itb (fun c2 => ?_) (fun c2 => ?_)
  · rw [c2, Bool.true_or] at k
    rw [c2]
    exact k
  rw [c2, Bool.false_or] at k
  walk_at "go"
  exact k
theorem use_matches {K : PySem.W.Frag} {s d : Str} {H : Hp} {Q : VK} {E : XK} (h1 : s.length ≤ 100000) (k : Q (.bl (tailM s d)) H) : sp_matches K [.str s, .str d] H Q E :=
  ⟨s, d, rfl, rfl, h1, k⟩
local macro_rules | `(tactic| walk_at "call") => `(tactic| ((with_reducible refine' use_matches ?h1 ?_); (case h1 => walk_at "nat")))

/-! ### _law_refill -/
abbrev s_l_refill : Stmt := top 6
abbrev N_l_refill : List Str := ["_law_script", "_law_k", "_law_cell"]
theorem sc_l_refill : FnScope N_l_refill ["_law_script", "_law_k"] (defScope s_l_refill) := ⟨rfl, rfl, rfl, by decide +kernel, rfl, by decide +kernel, by decide +kernel⟩
theorem bi_l_refill : BindOk "_law_refill" s_l_refill ["_law_script", "_law_k"] := fun _ _ _ _ _ _ us hl => match us, hl with | [_, _], _ => rfl
def sp_l_refill (K : PySem.W.Frag) : Sp := sp2 fun sc k H Q _ => ∃ b n, sc = .ref b ∧ k = .int n ∧ Scr K H b ∧ ∀ d, Q (.int d) H
theorem ok_l_refill {e : Wd} (D : DefAt e "_law_refill" s_l_refill) (B : Bl e.mg) : Can e 1 "_law_refill" ["_law_script", "_law_k"] (sp_l_refill e.K) := by
  refine can_of D sc_l_refill bi_l_refill (fun _ _ _ _ h => sp2_len h) (fun cdv f A outer s H vs Q E hr h => ?_)
  obtain ⟨v0, v1, rfl, h⟩ := sp2_ex h
  have nd := sc_l_refill.nd
  obtain ⟨b, n, rfl, rfl, hs, k⟩ := h
  obtain ⟨ns, hl, hq⟩ := hs.seq
  refine ⟨_, (pss_cons (ps_set (i := 2) nd rfl (by first | exact Or.inl rfl | exact Or.inr rfl) pe_int)
    (Evl.pss_cut (ps_if (pt_tru (K := e.K) (pv 0)) (pss_one (ps_set (i := 2) nd rfl (by first | exact Or.inl rfl | exact Or.inr rfl) (pe_ix (ix_U (K := e.K)) (pv 0) (pe_op op_modU (pv 1) (pe_callB (call_lenU (K := e.K)) (by rfl) B.b_len bt_len (pa_cons (pv 0) pa_nil))) (fun _ _ => rfl)))) pss_nil)
    (Evl.pss_cut (ps_if (pt_cmpR op_ltU (pv 2) pe_int (nomark _)) (pss_one (ps_set (i := 2) nd rfl (by first | exact Or.inl rfl | exact Or.inr rfl) (pe_op op_subU pe_int (pe_op op_mulU pe_int (pv 2))))) pss_nil)
    (pss_cons (ps_if (PW.pt (pw_and (pt_cmpR op_geU (pv 2) (pe_op op_powU pe_int pe_int) (nomark _)) (pw_and1 (pt_cmpR op_ltU (pv 1) (pe_callB (call_lenU (K := e.K)) (by rfl) B.b_len bt_len (pa_cons (pv 0) pa_nil)) (nomark _))))) (pss_one (ps_ret (pv 2))) pss_nil)
    (pss_one (ps_ret (pe_op op_modU (pe_callTy call_intU (by rfl) B.b_int bt_int (pa_cons (pe_op (op_addU (K := e.K)) (pe_op op_mulU (pe_callTy call_intU (by rfl) B.b_int bt_int (pa_cons (pe_op (op_addU (K := e.K)) (pe_op (op_addU (K := e.K)) (pe_op op_mulU (pv 2) pe_int) (pe_op op_mulU (pv 1) pe_int)) pe_int) pa_nil)) pe_int) pe_int) pa_nil)) pe_int))))))), ?_⟩
  walk_at "go"
  refine r_cut (fun σ' H' => ∃ c : Int, σ' = [some (.ref b), some (.int n), some (.int c)] ∧ H = H') ?_ ?_
  · walk_at "go"
    refine r_itb (fun c => ?_) (fun _ => ?_)
    · have h0 : 0 < ns.length := by
        cases ns with
        | nil => cases c
        | cons x r => exact Nat.succ_pos _
      walk_at "go"
      refine r_I (by simp only [List.length_map]; omega) ?_
      obtain ⟨v, hv⟩ := atI_mod h0 n
      refine r_ixL hq (by simp only [List.length_map]; exact hv) ?_
      exact ⟨_, rfl, rfl⟩
    · walk_at "go"
      exact ⟨_, rfl, rfl⟩
  · rintro σ' H' ⟨c, rfl, rfl⟩
    refine r_cut (fun σ' H' => ∃ c : Int, σ' = [some (.ref b), some (.int n), some (.int c)] ∧ H = H') ?_ ?_
    · walk_at "all"
      all_goals exact ⟨_, rfl, rfl⟩
    · rintro σ' H' ⟨c, rfl, rfl⟩
      walk_at "all"
      all_goals exact k _

/-! ### _law_tail -/
abbrev s_l_tail : Stmt := top 17
abbrev N_l_tail : List Str := ["_law_domain_here", "_law_suffix"]
theorem sc_l_tail : FnScope N_l_tail ["_law_domain_here", "_law_suffix"] (defScope s_l_tail) := ⟨rfl, rfl, rfl, by decide +kernel, rfl, by decide +kernel, by decide +kernel⟩
theorem bi_l_tail : BindOk "_law_tail" s_l_tail ["_law_domain_here", "_law_suffix"] := fun _ _ _ _ _ _ us hl => match us, hl with | [_, _], _ => rfl
def sp_l_tail (K : PySem.W.Frag) : Sp := sp2 fun y x H Q _ => ∃ s d, x = .str s ∧ y = .str d ∧ s.length ≤ 100000 ∧ d.length ≤ 100000 ∧ Q (.bl (tailM s d)) H
theorem ok_l_tail {e : Wd} (D : DefAt e "_law_tail" s_l_tail) (B : Bl e.mg) : Can e 1 "_law_tail" ["_law_domain_here", "_law_suffix"] (sp_l_tail e.K) := by
  refine can_of D sc_l_tail bi_l_tail (fun _ _ _ _ h => sp2_len h) (fun cdv f A outer s H vs Q E hr h => ?_)
  obtain ⟨v0, v1, rfl, h⟩ := sp2_ex h
  have nd := sc_l_tail.nd
  obtain ⟨s, d, rfl, rfl, hl, hl2, k⟩ := h
  unfold tailM at k
  refine ⟨_, (pss_one (ps_ret (pe_orU (K := e.K) (pe_cmpR (op_eqU (K := e.K) hr) (pv 1) pe_str (nomark _)) (pe_orU (K := e.K) (pe_cmpR (op_eqU (K := e.K) hr) (pv 0) (pv 1) (nomark _)) (pe_one (pe_cmpR (op_eqU (K := e.K) hr) (pe_slice (sl_U (K := e.K)) (pv 0) (po_some (pe_op op_subU (pe_un un_neg (pe_callB (call_lenU (K := e.K)) (by rfl) B.b_len bt_len (pa_cons (pv 1) pa_nil))) pe_int)) po_none) (pe_op (op_addU (K := e.K)) pe_str (pv 1)) (nomark _))))))), ?_⟩
  walk_at "go"
  refine r_itb (fun c => ?_) (fun c => ?_)
  · have c' : s = eS := of_decide_eq_true c
    rw [decide_eq_true c', Bool.true_or, Bool.true_or] at k
    rw [c]
    exact k
  have c' : s ≠ eS := of_decide_eq_false c
  rw [decide_eq_false c', Bool.false_or] at k
  walk_at "go"
  refine r_itb (fun c2 => ?_) (fun c2 => ?_)
  · rw [c2, Bool.true_or] at k
    rw [c2]
    exact k
  rw [c2, Bool.false_or, ← ends_cut] at k
  walk_at "go"
  exact k
theorem use_tail {K : PySem.W.Frag} {s d : Str} {H : Hp} {Q : VK} {E : XK} (h1 : s.length ≤ 100000) (h2 : d.length ≤ 100000) (k : Q (.bl (tailM s d)) H) : sp_l_tail K [.str d, .str s] H Q E :=
  ⟨s, d, rfl, rfl, h1, h2, k⟩
local macro_rules | `(tactic| walk_at "call") => `(tactic| ((with_reducible refine' use_tail ?h1 ?h2 ?_); (case h1 => walk_at "nat"); (case h2 => walk_at "nat")))

/-! ### Directory.lookup -/
abbrev s_Directory_lookup : Stmt := inClass (top 1) 1
abbrev N_Directory_lookup : List Str := ["self", "address", "local", "domain", "name", "owner", "members"]
theorem sc_Directory_lookup : FnScope N_Directory_lookup ["self", "address"] (defScope s_Directory_lookup) := ⟨rfl, rfl, rfl, by decide +kernel, rfl, by decide +kernel, by decide +kernel⟩
theorem bi_Directory_lookup : BindQ "lookup" "Directory.lookup" s_Directory_lookup ["self", "address"] := fun _ _ _ _ _ _ us hl => match us, hl with | [_, _], _ => rfl
def sp_Directory_lookup (K : PySem.W.Frag) : Sp := sp2 fun self ad H Q _ => ∃ p q u w dm users L l d, self = .ref p ∧ ad = .ref q ∧ Ins H p (He.ga K "Directory") [("domain", .str dm), ("users", .ref u), ("lists", .ref w)] ∧ H u = some (.tup (users.map V.str)) ∧ Dq H (.ref w) (.tuple (L.map entD)) ∧ H q = some (.tup [.str l, .str d]) ∧
  ∀ r H', Same H H' → Dq H' (.ref r) (lookupM dm users L l d) → Q (.ref r) H'
theorem ok_Directory_lookup {e : Wd} (D : MethAt e (He.ga e.K "Directory") "lookup" "Directory.lookup" s_Directory_lookup) (B : Bl e.mg) (kc_Directory : Cls e.K (He.ga e.K "Directory")) (kn_Directory_domain : NoAttr e.K (He.ga e.K "Directory") "domain") (kn_Directory_users : NoAttr e.K (He.ga e.K "Directory") "users") (kn_Directory_lists : NoAttr e.K (He.ga e.K "Directory") "lists") : CanM e 2 (He.ga e.K "Directory") "lookup" ["self", "address"] (sp_Directory_lookup e.K) := by
  refine canM_of D sc_Directory_lookup bi_Directory_lookup (fun _ _ _ _ h => sp2_len h) (fun cdv f A outer s H vs Q E hr h => ?_)
  obtain ⟨v0, v1, rfl, h⟩ := sp2_ex h
  have nd := sc_Directory_lookup.nd
  obtain ⟨p, q, u, w, dm, users, L, l, d, rfl, rfl, hi, hu, hw, hq, k⟩ := h
  refine ⟨_, (pss_cons (ps_asg (pv 1) (pg_tupU (K := e.K) rfl (pgs_cons (pg_name (i := 2) nd rfl (by first | exact Or.inl rfl | exact Or.inr rfl)) (pgs_cons (pg_name (i := 3) nd rfl (by first | exact Or.inl rfl | exact Or.inr rfl)) pgs_nil))))
    (pss_cons (ps_if (pt_cmpR (op_neU (K := e.K) hr) (pv 3) (pe_fldU (K := e.K) (pv 0)) (nomark _)) (pss_one (ps_ret (pe_tup (pa_cons pe_str pa_nil)))) pss_nil)
    (pss_cons (ps_if (pt_cmpR (op_inU (K := e.K) hr) (pv 2) (pe_fldU (K := e.K) (pv 0)) rfl) (pss_one (ps_ret (pe_tup (pa_cons pe_str (pa_cons (pv 2) pa_nil))))) pss_nil)
    (pss_cons (ps_for PassesOwn.never rfl (pi_U (K := e.K) (pe_fldU (K := e.K) (pv 0))) (pg_tupU (K := e.K) rfl (pgs_cons (pg_name (i := 4) nd rfl (by first | exact Or.inl rfl | exact Or.inr rfl)) (pgs_cons (pg_name (i := 5) nd rfl (by first | exact Or.inl rfl | exact Or.inr rfl)) (pgs_cons (pg_name (i := 6) nd rfl (by first | exact Or.inl rfl | exact Or.inr rfl)) pgs_nil)))) (pss_one (ps_if (pt_cmpR (op_eqU (K := e.K) hr) (pv 4) (pv 2) (nomark _)) (pss_one (ps_ret (pe_tup (pa_cons pe_str (pa_cons (pv 5) (pa_cons (pv 6) pa_nil)))))) pss_nil)))
    (pss_one (ps_ret (pe_tup (pa_cons pe_str pa_nil)))))))), ?_⟩
  unfold lookupM at k
  walk_at "go"
  refine r_iten (fun c => ?_) (fun c => ?_)
  · rw [if_neg c] at k
    walk_at "go"
    rename_i r H1 np sm hr
    exact k _ _ sm (.tup hr (.cons (.str _) .nil))
  rw [if_pos c] at k
  walk_at "go"
  refine r_ite (fun c2 => ?_) (fun c2 => ?_)
  · rw [if_pos c2] at k
    walk_at "go"
    rename_i r H1 np sm hr
    exact k _ _ sm (.tup hr (.cons (.str _) (.cons (.str _) .nil)))
  rw [if_neg c2] at k
  walk_at "go"
  cases hw with
  | tup hw1 hw2 =>
  rename_i ws
  refine for_T (fun i σ' H' => ∃ x y z, σ' = [some (.ref p), some (.ref q), some (.str l), some (.str d), x, y, z] ∧ H = H' ∧ findM l (L.drop i) = findM l L) hw1 ?_ ?_ ?_ ?_
  · exact ⟨_, _, _, rfl, rfl, by rw [List.drop_zero]⟩
  · rintro i σ' H' _ ⟨x, y, z, rfl, rfl, _⟩
    exact hw1
  · rintro i x σ' H' hx ⟨x1, y1, z1, rfl, rfl, hc⟩
    obtain ⟨dd, hd, hx2⟩ := hw2.get hx
    rw [List.getElem?_map] at hd
    obtain ⟨z, hz, rfl⟩ : ∃ z, L[i]? = some z ∧ entD z = dd := by
      cases e : L[i]? with
      | none =>
        rw [e] at hd
        cases hd
      | some z =>
        rw [e] at hd
        exact ⟨z, rfl, Option.some.inj hd⟩
    rw [drop_of_get hz, findM] at hc
    cases hx2 with
    | tup ht hs =>
    cases hs with
    | cons h1 hs =>
    cases hs with
    | cons h2 hs =>
    cases hs with
    | cons h3 hs =>
    cases hs
    cases h1
    walk_at "go"
    refine r_ite (fun c3 => ?_) (fun c3 => ?_)
    · rw [if_pos c3] at hc
      walk_at "go"
      rename_i r H1 np sm hr
      refine k _ _ sm (hc ▸ .tup hr (.cons (.str _) (.cons (h2.mono (Gro.same sm)) (.cons (h3.mono (Gro.same sm)) .nil))))
    · rw [if_neg c3] at hc
      walk_at "go"
      exact ⟨_, _, _, rfl, rfl, hc⟩
  · rintro σ' H' ⟨x, y, z, rfl, rfl, hc⟩
    have hl : ws.length = L.length := by rw [hw2.length, List.length_map]
    rw [hl, List.drop_length, findM] at hc
    walk_at "go"
    rename_i r H1 np sm hr
    exact k _ _ sm (hc ▸ .tup hr (.cons (.str _) .nil))
theorem use_lookup {K : PySem.W.Frag} {p q u w : Addr} {dm l d : Str} {users : List Str} {L : List Lst} {H : Hp} {Q : VK} {E : XK} (h1 : Ins H p (He.ga K "Directory") [("domain", .str dm), ("users", .ref u), ("lists", .ref w)]) (h2 : H u = some (.tup (users.map V.str))) (h3 : Dq H (.ref w) (.tuple (L.map entD))) (h4 : H q = some (.tup [.str l, .str d]))
    (k : ∀ r H', Same H H' → Dq H' (.ref r) (lookupM dm users L l d) → Q (.ref r) H') : sp_Directory_lookup K [.ref p, .ref q] H Q E :=
  ⟨p, q, u, w, dm, users, L, l, d, rfl, rfl, h1, h2, h3, h4, k⟩
local macro_rules | `(tactic| walk_at "call") => `(tactic| ((with_reducible refine' use_lookup ?h1 ?h2 ?h3 ?h4 ?_); (case h1 => walk_at "hp"); (case h2 => walk_at "hp"); (case h3 => walk_at "hp"); (case h4 => walk_at "hp"); intro r H' sm hr))

/-! ### route -/
abbrev s_route : Stmt := top 3
abbrev N_route : List Str := ["routes", "domain", "best", "hosts", "suffix", "way"]
theorem sc_route : FnScope N_route ["routes", "domain"] (defScope s_route) := ⟨rfl, rfl, rfl, by decide +kernel, rfl, by decide +kernel, by decide +kernel⟩
theorem bi_route : BindOk "route" s_route ["routes", "domain"] := fun _ _ _ _ _ _ us hl => match us, hl with | [_, _], _ => rfl
def sp_route (K : PySem.W.Frag) : Sp := sp2 fun x y H Q _ => ∃ p d vs R, x = .ref p ∧ y = .str d ∧ H p = some (.tup vs) ∧ Dqs H vs (R.map rowD) ∧ (∀ x ∈ R, x.1.length ≤ 100000) ∧ ∀ v H', Same H H' → Dq H' v (routeM d R).2 → Q v H'
theorem ok_route {e : Wd} (D : DefAt e "route" s_route) (B : Bl e.mg) (c_matches : Can e 1 "matches" ["suffix", "domain"] (sp_matches e.K)) : Can e 2 "route" ["routes", "domain"] (sp_route e.K) := by
  refine can_of D sc_route bi_route (fun _ _ _ _ h => sp2_len h) (fun cdv f A outer s H vs Q E hr h => ?_)
  obtain ⟨v0, v1, rfl, h⟩ := sp2_ex h
  have nd := sc_route.nd
  obtain ⟨p, d, vs, R, rfl, rfl, hp, hq, hR, k⟩ := h
  refine ⟨_, (pss_cons (ps_set (i := 2) nd rfl (by first | exact Or.inl rfl | exact Or.inr rfl) pe_non)
    (pss_cons (ps_set (i := 3) nd rfl (by first | exact Or.inl rfl | exact Or.inr rfl) (pe_tup pa_nil))
    (pss_cons (ps_for PassesOwn.never rfl (pi_U (K := e.K) (pv 0)) (pg_tupU (K := e.K) rfl (pgs_cons (pg_name (i := 4) nd rfl (by first | exact Or.inl rfl | exact Or.inr rfl)) (pgs_cons (pg_name (i := 5) nd rfl (by first | exact Or.inl rfl | exact Or.inr rfl)) pgs_nil))) (pss_one (ps_if (PW.pt (pw_and (pt_tru (K := e.K) (pe_can c_matches (hr.mono (by decide)) passL (pa_cons (pv 4) (pa_cons (pv 1) pa_nil)))) (pw_and1 (PW.pt (pw_or (pt_cmpR op_isU (pv 2) pe_non (nomark _)) (pw_or1 (pt_cmpR op_gtU (pe_callB (call_lenU (K := e.K)) (by rfl) B.b_len bt_len (pa_cons (pv 4) pa_nil)) (pe_callB (call_lenU (K := e.K)) (by rfl) B.b_len bt_len (pa_cons (pv 2) pa_nil)) (nomark _)))))))) (pss_cons (ps_set (i := 2) nd rfl (by first | exact Or.inl rfl | exact Or.inr rfl) (pv 4))
    (pss_one (ps_set (i := 3) nd rfl (by first | exact Or.inl rfl | exact Or.inr rfl) (pv 5)))) pss_nil)))
    (pss_one (ps_ret (pv 3)))))), ?_⟩
  walk_at "go"
  rename_i r H1 np sm hr
  have hp1 := sm _ _ hp
  have hq1 := hq.mono (Gro.same sm)
  refine for_T (fun i σ' H' => ∃ bv hv y z ob wd, σ' = [some (.ref p), some (.str d), some bv, some hv, y, z] ∧ H1 = H' ∧ routeM d (R.take i) = (ob, wd) ∧ Dq H1 hv wd ∧ ((bv = .non ∧ ob = none) ∨ ∃ b, bv = .str b ∧ ob = some b ∧ b.length ≤ 100000)) hp1 ?_ ?_ ?_ ?_
  · exact ⟨_, _, _, _, _, _, rfl, rfl, rfl, .tup hr .nil, .inl ⟨rfl, rfl⟩⟩
  · rintro i σ' H' _ ⟨bv, hv, y, z, ob, wd, rfl, rfl, _⟩
    exact hp1
  · rintro i x σ' H' hx ⟨bv, hv, y, z, ob, wd, rfl, rfl, hm, hd, hb⟩
    obtain ⟨dd, hdd, hx2⟩ := hq1.get hx
    obtain ⟨⟨s, w⟩, hz, rfl⟩ := get_mapG hdd
    have hs : s.length ≤ 100000 := hR _ (mem_of_get hz)
    rw [take_snoc hz, routeM_snoc, hm]
    clear hdd
    unfold rowD at hx2
    cases hx2 with
    | tup ht hs2 =>
    cases hs2 with
    | cons h1 hs2 =>
    cases hs2 with
    | cons h2 hs2 =>
    cases hs2
    cases h1
    unfold stepR
    walk_at "go"
    refine r_itb (fun c => ?_) (fun c => ?_)
    · rw [c, Bool.true_and]
      rcases hb with ⟨rfl, rfl⟩ | ⟨b, rfl, rfl, hbl⟩
      · walk_at "go"
        exact ⟨_, _, _, _, _, _, rfl, rfl, rfl, h2, .inr ⟨_, rfl, rfl, hs⟩⟩
      · walk_at "go"
        refine r_ite (fun c2 => ?_) (fun c2 => ?_)
        · have c2 : (b.length : Int) < (s.length : Int) := c2
          walk_at "go"
          exact ⟨_, _, _, _, _, _, rfl, rfl, if_pos (decide_eq_true (by show b.length < s.length; omega)), h2, .inr ⟨_, rfl, rfl, hs⟩⟩
        · have c2 : ¬ (b.length : Int) < (s.length : Int) := c2
          walk_at "go"
          exact ⟨_, _, _, _, _, _, rfl, rfl, if_neg (fun e => c2 (by have e : b.length < s.length := of_decide_eq_true e; omega)), hd, .inr ⟨_, rfl, rfl, hbl⟩⟩
    · rw [c, Bool.false_and]
      walk_at "go"
      exact ⟨_, _, _, _, _, _, rfl, rfl, rfl, hd, hb⟩
  · rintro σ' H' ⟨bv, hv, y, z, ob, wd, rfl, rfl, hm, hd, hb⟩
    have hl : vs.length = R.length := by rw [hq.length, List.length_map]
    rw [hl, List.take_length] at hm
    walk_at "go"
    exact k _ _ sm (by rw [hm]; exact hd)
theorem use_route {K : PySem.W.Frag} {p : Addr} {d : Str} {vs : List V} {R : List (Str × PyData)} {H : Hp} {Q : VK} {E : XK} (h1 : H p = some (.tup vs)) (h2 : Dqs H vs (R.map rowD)) (h3 : ∀ x ∈ R, x.1.length ≤ 100000) (k : ∀ v H', Same H H' → Dq H' v (routeM d R).2 → Q v H') : sp_route K [.ref p, .str d] H Q E :=
  ⟨p, d, vs, R, rfl, rfl, h1, h2, h3, k⟩
local macro_rules | `(tactic| walk_at "call") => `(tactic| ((with_reducible refine' use_route ?h1 ?h2 ?h3 ?_); (case h1 => walk_at "hp"); (case h2 => walk_at "hp"); (case h3 => assumption); intro v H' sm hv))

/-! ### _law_draw -/
abbrev s_l_draw : Stmt := top 7
abbrev N_l_draw : List Str := ["_law_state", "_law_script", "_law_size", "_law_digit"]
theorem sc_l_draw : FnScope N_l_draw ["_law_state", "_law_script", "_law_size"] (defScope s_l_draw) := ⟨rfl, rfl, rfl, by decide +kernel, rfl, by decide +kernel, by decide +kernel⟩
theorem bi_l_draw : BindOk "_law_draw" s_l_draw ["_law_state", "_law_script", "_law_size"] := fun _ _ _ _ _ _ us hl => match us, hl with | [_, _, _], _ => rfl
def sp_l_draw (K : PySem.W.Frag) : Sp := sp3 fun st sc n H Q _ => ∃ a b m, st = .ref a ∧ sc = .ref b ∧ n = .int m ∧ Drw H a ∧ Scr K H b ∧ (0 < m ∧ m < 1073741824) ∧ ∀ d H', 0 ≤ d → d < m → Stp a H H' → Q (.int d) H'
theorem ok_l_draw {e : Wd} (D : DefAt e "_law_draw" s_l_draw) (B : Bl e.mg) (c_l_refill : Can e 1 "_law_refill" ["_law_script", "_law_k"] (sp_l_refill e.K)) : Can e 2 "_law_draw" ["_law_state", "_law_script", "_law_size"] (sp_l_draw e.K) := by
  refine can_of D sc_l_draw bi_l_draw (fun _ _ _ _ h => sp3_len h) (fun cdv f A outer s H vs Q E hr h => ?_)
  obtain ⟨v0, v1, v2, rfl, h⟩ := sp3_ex h
  have nd := sc_l_draw.nd
  obtain ⟨a, b, m, rfl, rfl, rfl, ⟨x, y, ha⟩, hs, hm, k⟩ := h
  have dr : Drw H a := ⟨x, y, ha⟩
  refine ⟨_, (Evl.pss_cut (ps_if (pt_cmpR (op_eqU (K := e.K) hr) (pe_ix (ix_U (K := e.K)) (pv 0) pe_int (fun _ _ => rfl)) pe_int (nomark _)) (pss_cons (ps_asg (pe_can c_l_refill (hr.mono (by decide)) passL (pa_cons (pv 1) (pa_cons (pe_ix (ix_U (K := e.K)) (pv 0) pe_int (fun _ _ => rfl)) pa_nil))) (pg_sub (pv 0) pe_int set_list))
    (pss_one (ps_asg (pe_op (op_addU (K := e.K)) (pe_ix (ix_U (K := e.K)) (pv 0) pe_int (fun _ _ => rfl)) pe_int) (pg_sub (pv 0) pe_int set_list)))) pss_nil)
    (pss_cons (ps_set (i := 3) nd rfl (by first | exact Or.inl rfl | exact Or.inr rfl) (pe_op op_modU (pe_callTy call_intU (by rfl) B.b_int bt_int (pa_cons (pe_ix (ix_U (K := e.K)) (pv 0) pe_int (fun _ _ => rfl)) pa_nil)) (pv 2)))
    (pss_cons (ps_asg (pe_op op_divU (pe_ix (ix_U (K := e.K)) (pv 0) pe_int (fun _ _ => rfl)) (pv 2)) (pg_sub (pv 0) pe_int set_list))
    (pss_one (ps_ret (pv 3)))))), ?_⟩
  walk_at "go"
  refine r_cut (fun σ' H' => ∃ x y : Int, σ' = [some (.ref a), some (.ref b), some (.int m), none] ∧ Stp a H H' ∧ H' a = some (.lst [.int x, .int y])) ?_ ?_
  · walk_at "go"
    refine r_ite (fun _ => ?_) (fun _ => ?_)
    · walk_at "go"
      refine ⟨b, x, rfl, rfl, hs, fun d => ?_⟩
      walk_at "go"
      rename_i H1 hp1 kp1 H2 hp2 kp2
      exact ⟨x + 1, d, rfl, ((Stp.refl dr).but hp1 kp1).but hp2 kp2, hp2⟩
    · walk_at "go"
      exact ⟨x, y, rfl, Stp.refl dr, ha⟩
  · rintro σ' H' ⟨x, y, rfl, s1, h1⟩
    walk_at "go"
    rename_i H2 hp2 kp2
    exact k _ _ (Int.emod_nonneg _ (by omega)) (Int.emod_lt_of_pos _ hm.1) (s1.but hp2 kp2)
theorem use_draw {K : PySem.W.Frag} {a b : Addr} {m : Int} {H : Hp} {Q : VK} {E : XK} (h1 : Drw H a) (h2 : Scr K H b) (h3 : 0 < m) (h4 : m < 1073741824) (k : ∀ d H', 0 ≤ d → d < m → Stp a H H' → Q (.int d) H') : sp_l_draw K [.ref a, .ref b, .int m] H Q E :=
  ⟨a, b, m, rfl, rfl, rfl, h1, h2, ⟨h3, h4⟩, k⟩
local macro_rules | `(tactic| walk_at "call") => `(tactic| ((with_reducible refine' use_draw ?h1 ?h2 ?h3 ?h4 ?_); (case h1 => walk_at "hp"); (case h2 => walk_at "hp"); (case h3 => walk_at "nat"); (case h4 => walk_at "nat"); intro d H' d0 d1 st))

/-! ### _law_route -/
abbrev s_l_route : Stmt := top 18
abbrev N_l_route : List Str := ["_law_routes", "_law_domain_here", "_law_found", "_law_k"]
theorem sc_l_route : FnScope N_l_route ["_law_routes", "_law_domain_here"] (defScope s_l_route) := ⟨rfl, rfl, rfl, by decide +kernel, rfl, by decide +kernel, by decide +kernel⟩
theorem bi_l_route : BindOk "_law_route" s_l_route ["_law_routes", "_law_domain_here"] := fun _ _ _ _ _ _ us hl => match us, hl with | [_, _], _ => rfl
def sp_l_route (K : PySem.W.Frag) : Sp := sp2 fun x y H Q _ => ∃ p d vs R, x = .ref p ∧ y = .str d ∧ H p = some (.lst vs) ∧ Dqs H vs (R.map rowD) ∧ (∀ x ∈ R, x.1.length ≤ 100000) ∧ d.length ≤ 100000 ∧ R.length ≤ 100000 ∧ ∀ v H', Same H H' → Dq H' v (routeM d R).2 → Q v H'
theorem ok_l_route {e : Wd} (D : DefAt e "_law_route" s_l_route) (B : Bl e.mg) (c_l_tail : Can e 1 "_law_tail" ["_law_domain_here", "_law_suffix"] (sp_l_tail e.K)) : Can e 2 "_law_route" ["_law_routes", "_law_domain_here"] (sp_l_route e.K) := by
  refine can_of D sc_l_route bi_l_route (fun _ _ _ _ h => sp2_len h) (fun cdv f A outer s H vs Q E hr h => ?_)
  obtain ⟨v0, v1, rfl, h⟩ := sp2_ex h
  have nd := sc_l_route.nd
  obtain ⟨p, d, vs, R, rfl, rfl, hp, hq, hR, hdl, hRl, k⟩ := h
  have hl : vs.length = R.length := by rw [hq.length, List.length_map]
  have hg : ∀ (j : Nat) x, R[j]? = some x → ∃ a w, atI vs (j : Int) = some (.ref a) ∧ H a = some (.tup [.str x.1, w]) ∧ Dq H w x.2 := by
    intro j x hj
    have hj' : j < vs.length := by rw [hl]; exact (List.getElem?_eq_some_iff.mp hj).1
    obtain ⟨dd, hdd, hx2⟩ := hq.get (List.getElem?_eq_getElem hj')
    rw [List.getElem?_map, hj] at hdd
    cases hdd
    generalize hv : vs[j] = v at hx2
    cases hx2 with
    | tup ht hs2 =>
    cases hs2 with
    | cons h1 hs2 =>
    cases hs2 with
    | cons h2 hs2 =>
    cases hs2
    cases h1
    exact ⟨_, _, atI_nn (by rw [List.getElem?_eq_getElem hj', hv]), ht, h2⟩
  refine ⟨_, (pss_cons (ps_set (i := 2) nd rfl (by first | exact Or.inl rfl | exact Or.inr rfl) pe_non)
    (pss_cons (ps_for PassesOwn.never rfl (pi_range1 rfl B.b_range (pa_cons (pe_callB (call_lenU (K := e.K)) (by rfl) B.b_len bt_len (pa_cons (pv 0) pa_nil)) pa_nil)) (pg_name (i := 3) nd rfl (by first | exact Or.inl rfl | exact Or.inr rfl)) (pss_one (ps_if (pt_tru (K := e.K) (pe_can c_l_tail (hr.mono (by decide)) passL (pa_cons (pv 1) (pa_cons (pe_ix (ix_U (K := e.K)) (pe_ix (ix_U (K := e.K)) (pv 0) (pv 3) (fun _ _ => rfl)) pe_int (fun _ _ => rfl)) pa_nil)))) (pss_one (ps_if (PW.pt (pw_or (pt_cmpR op_isU (pv 2) pe_non (nomark _)) (pw_or1 (pt_cmpR op_gtU (pe_callB (call_lenU (K := e.K)) (by rfl) B.b_len bt_len (pa_cons (pe_ix (ix_U (K := e.K)) (pe_ix (ix_U (K := e.K)) (pv 0) (pv 3) (fun _ _ => rfl)) pe_int (fun _ _ => rfl)) pa_nil)) (pe_callB (call_lenU (K := e.K)) (by rfl) B.b_len bt_len (pa_cons (pe_ix (ix_U (K := e.K)) (pe_ix (ix_U (K := e.K)) (pv 0) (pv 2) (fun _ _ => rfl)) pe_int (fun _ _ => rfl)) pa_nil)) (nomark _))))) (pss_one (ps_set (i := 2) nd rfl (by first | exact Or.inl rfl | exact Or.inr rfl) (pv 3))) pss_nil)) pss_nil)))
    (pss_cons (ps_if (pt_cmpR op_isU (pv 2) pe_non (nomark _)) (pss_one (ps_ret (pe_tup pa_nil))) pss_nil)
    (pss_one (ps_ret (pe_ix (ix_U (K := e.K)) (pe_ix (ix_U (K := e.K)) (pv 0) (pv 2) (fun _ _ => rfl)) pe_int (fun _ _ => rfl))))))), ?_⟩
  walk_at "go"
  refine for_rng (fun i σ' H' => ∃ fv y, σ' = [some (.ref p), some (.str d), some fv, y] ∧ H = H' ∧ ((fv = .non ∧ routeM d (R.take i) = (none, .tuple [])) ∨ ∃ (j : Nat) (x : Str × PyData), fv = .int j ∧ R[j]? = some x ∧ routeM d (R.take i) = (some x.1, x.2))) (by omega) (by omega) ?_ ?_ ?_
  · exact ⟨_, _, rfl, rfl, .inl ⟨rfl, rfl⟩⟩
  · rintro i σ' H' hi ⟨fv, y, rfl, rfl, hf⟩
    have hi' : i < R.length := by omega
    obtain ⟨x, hx⟩ : ∃ x, R[i]? = some x := ⟨_, List.getElem?_eq_getElem hi'⟩
    obtain ⟨a1, w1, ha1, hw1, hd1⟩ := hg i x hx
    have hs1 := hR _ (mem_of_get hx)
    rw [take_snoc hx, routeM_snoc]
    generalize routeM d (R.take i) = acc at *
    unfold stepR
    walk_at "go"
    refine r_itb (fun c => ?_) (fun c => ?_)
    · rw [c, Bool.true_and]
      rcases hf with ⟨rfl, rfl⟩ | ⟨j, x2, rfl, hx2, rfl⟩
      · walk_at "go"
        rw [if_pos rfl]
        exact ⟨_, _, rfl, rfl, .inr ⟨i, x, rfl, hx, rfl⟩⟩
      · obtain ⟨a2, w2, ha2, hw2, hd2⟩ := hg j x2 hx2
        have hs2 := hR _ (mem_of_get hx2)
        walk_at "go"
        refine r_ite (fun c2 => ?_) (fun c2 => ?_)
        · walk_at "go"
          rw [if_pos (decide_eq_true (by show x2.1.length < x.1.length; omega))]
          exact ⟨_, _, rfl, rfl, .inr ⟨i, x, rfl, hx, rfl⟩⟩
        · walk_at "go"
          rw [if_neg (fun e => c2 (by have := of_decide_eq_true e; omega))]
          exact ⟨_, _, rfl, rfl, .inr ⟨j, x2, rfl, hx2, rfl⟩⟩
    · rw [c, Bool.false_and]
      walk_at "go"
      exact ⟨_, _, rfl, rfl, hf⟩
  · rintro σ' H' ⟨fv, y, rfl, rfl, hf⟩
    have e : (vs.length : Int).toNat = R.length := by omega
    rw [e, List.take_length] at hf
    rcases hf with ⟨rfl, hf⟩ | ⟨j, x2, rfl, hx2, hf⟩
    · walk_at "go"
      rename_i r H1 np sm hr
      exact k _ _ sm (by rw [hf]; exact .tup hr .nil)
    · obtain ⟨a2, w2, ha2, hw2, hd2⟩ := hg j x2 hx2
      walk_at "go"
      exact k _ _ (Same.refl _) (by rw [hf]; exact hd2)
theorem use_lroute {K : PySem.W.Frag} {p : Addr} {d : Str} {vs : List V} {R : List (Str × PyData)} {H : Hp} {Q : VK} {E : XK} (h1 : H p = some (.lst vs)) (h2 : Dqs H vs (R.map rowD)) (h3 : ∀ x ∈ R, x.1.length ≤ 100000) (h4 : d.length ≤ 100000) (h5 : R.length ≤ 100000) (k : ∀ v H', Same H H' → Dq H' v (routeM d R).2 → Q v H') : sp_l_route K [.ref p, .str d] H Q E :=
  ⟨p, d, vs, R, rfl, rfl, h1, h2, h3, h4, h5, k⟩
local macro_rules | `(tactic| walk_at "call") => `(tactic| ((with_reducible refine' use_lroute ?h1 ?h2 ?h3 ?h4 ?h5 ?_); (case h1 => walk_at "hp"); (case h2 => walk_at "hp"); (case h3 => assumption); (case h4 => walk_at "nat"); (case h5 => walk_at "nat"); intro v H' sm hv))

/-! ### _law_pick -/
abbrev s_l_pick : Stmt := top 10
abbrev N_l_pick : List Str := ["_law_state", "_law_script", "_law_signs", "_law_k"]
theorem sc_l_pick : FnScope N_l_pick ["_law_state", "_law_script", "_law_signs"] (defScope s_l_pick) := ⟨rfl, rfl, rfl, by decide +kernel, rfl, by decide +kernel, by decide +kernel⟩
theorem bi_l_pick : BindOk "_law_pick" s_l_pick ["_law_state", "_law_script", "_law_signs"] := fun _ _ _ _ _ _ us hl => match us, hl with | [_, _, _], _ => rfl
def sp_l_pick (K : PySem.W.Frag) : Sp := sp3 fun st sc n H Q _ => ∃ a b z, st = .ref a ∧ sc = .ref b ∧ n = .str z ∧ Drw H a ∧ Scr K H b ∧ (0 < z.length ∧ z.length ≤ 1000) ∧ ∀ s H', (∃ c, c ∈ TL.tl z ∧ s = ⟨#[c]⟩) → Stp a H H' → Q (.str s) H'
theorem ok_l_pick {e : Wd} (D : DefAt e "_law_pick" s_l_pick) (B : Bl e.mg) (c_l_draw : Can e 2 "_law_draw" ["_law_state", "_law_script", "_law_size"] (sp_l_draw e.K)) : Can e 3 "_law_pick" ["_law_state", "_law_script", "_law_signs"] (sp_l_pick e.K) := by
  refine can_of D sc_l_pick bi_l_pick (fun _ _ _ _ h => sp3_len h) (fun cdv f A outer s H vs Q E hr h => ?_)
  obtain ⟨v0, v1, v2, rfl, h⟩ := sp3_ex h
  have nd := sc_l_pick.nd
  obtain ⟨a, b, z, rfl, rfl, rfl, dr, hs, ⟨hz1, hz2⟩, k⟩ := h
  refine ⟨_, (pss_cons (ps_set (i := 3) nd rfl (by first | exact Or.inl rfl | exact Or.inr rfl) (pe_can c_l_draw (hr.mono (by decide)) passL (pa_cons (pv 0) (pa_cons (pv 1) (pa_cons (pe_callB (call_lenU (K := e.K)) (by rfl) B.b_len bt_len (pa_cons (pv 2) pa_nil)) pa_nil)))))
    (pss_one (ps_ret (pe_slice (sl_U (K := e.K)) (pv 2) (po_some (pv 3)) (po_some (pe_op (op_addU (K := e.K)) (pv 3) pe_int)))))), ?_⟩
  walk_at "go"
  rename_i d H' d0 d1 st
  obtain ⟨c, h1, h2⟩ := cut_one d0 d1
  exact k _ _ ⟨c, h1, h2⟩ st
theorem use_pick {K : PySem.W.Frag} {a b : Addr} {z : Str} {H : Hp} {Q : VK} {E : XK} (h1 : Drw H a) (h2 : Scr K H b) (h3 : 0 < z.length) (h4 : z.length ≤ 1000) (k : ∀ s H', (∃ c, c ∈ TL.tl z ∧ s = ⟨#[c]⟩) → Stp a H H' → Q (.str s) H') : sp_l_pick K [.ref a, .ref b, .str z] H Q E :=
  ⟨a, b, z, rfl, rfl, rfl, h1, h2, ⟨h3, h4⟩, k⟩
local macro_rules | `(tactic| walk_at "call") => `(tactic| ((with_reducible refine' use_pick ?h1 ?h2 ?h3 ?h4 ?_); (case h1 => walk_at "hp"); (case h2 => walk_at "hp"); (case h3 => walk_at "nat"); (case h4 => walk_at "nat"); intro s H' hs st))

/-! ### _law_word -/
abbrev s_l_word : Stmt := top 11
abbrev N_l_word : List Str := ["_law_state", "_law_script", "_law_signs", "_law_most", "_law_k"]
theorem sc_l_word : FnScope N_l_word ["_law_state", "_law_script", "_law_signs", "_law_most"] (defScope s_l_word) := ⟨rfl, rfl, rfl, by decide +kernel, rfl, by decide +kernel, by decide +kernel⟩
theorem bi_l_word : BindOk "_law_word" s_l_word ["_law_state", "_law_script", "_law_signs", "_law_most"] := fun _ _ _ _ _ _ us hl => match us, hl with | [_, _, _, _], _ => rfl
def sp_l_word (K : PySem.W.Frag) : Sp := sp4 fun st sc n m H Q _ => ∃ a b z i, st = .ref a ∧ sc = .ref b ∧ n = .str z ∧ m = .int i ∧ Drw H a ∧ Scr K H b ∧ (0 < z.length ∧ z.length ≤ 1000) ∧ (0 < i ∧ i ≤ 1000) ∧ ∀ s H', Wrd (TL.tl z) 1 i.toNat s → Stp a H H' → Q (.str s) H'
theorem ok_l_word {e : Wd} (D : DefAt e "_law_word" s_l_word) (B : Bl e.mg) (c_l_pick : Can e 3 "_law_pick" ["_law_state", "_law_script", "_law_signs"] (sp_l_pick e.K)) (c_l_draw : Can e 2 "_law_draw" ["_law_state", "_law_script", "_law_size"] (sp_l_draw e.K)) : Can e 4 "_law_word" ["_law_state", "_law_script", "_law_signs", "_law_most"] (sp_l_word e.K) := by
  refine can_of D sc_l_word bi_l_word (fun _ _ _ _ h => sp4_len h) (fun cdv f A outer s H vs Q E hr h => ?_)
  obtain ⟨v0, v1, v2, v3, rfl, h⟩ := sp4_ex h
  have nd := sc_l_word.nd
  obtain ⟨a, b, z, i, rfl, rfl, rfl, rfl, dr, hs, ⟨hz1, hz2⟩, ⟨hi1, hi2⟩, k⟩ := h
  refine ⟨_, (pss_one (ps_ret (pe_bmU (K := e.K) PySem.F.plainAttrs_str PySem.F.slot_str_join PySem.F.type_str_join (mt_joinU (K := e.K)) pe_str (pa_cons (pe_lc (own := [("_law_k", 4)]) (tt := tYes) rfl nd (pi_range1 rfl B.b_range (pa_cons (pe_op (op_addU (K := e.K)) pe_int (pe_can c_l_draw (hr.mono (by decide)) passL (pa_cons (pv 0) (pa_cons (pv 1) (pa_cons (pv 3) pa_nil))))) pa_nil)) (blkOk_by (N := N_l_word) (sc := defScope s_l_word) (by decide +kernel)) (fun _ _ _ _ _ => (pg_name (i := 4) nd rfl (by first | exact Or.inl rfl | exact Or.inr rfl))) (fun _ _ _ _ _ => pts_nil) (fun _ _ _ _ _ => (pe_can c_l_pick (hr.mono (by decide)) passL (pa_cons (pv 0) (pa_cons (pv 1) (pa_cons (pv 2) pa_nil)))))) pa_nil)))), ?_⟩
  walk_at "go"
  rename_i d H1 d0 d1 s1
  refine lcr_draw (a := a) (fun _ q => ∃ s, q = PyData.str s ∧ ∃ c, c ∈ TL.tl z ∧ s = ⟨#[c]⟩) s1.drw (by omega) (by omega) (fun _ => rfl) (fun j H2 Q1 _ s2 k1 => ?_) fun D H2 ys ds hD s2 hl dq el pp => ?_
  · walk_at "go"
    exact k1 _ _ _ (by assumption) (.str _) ⟨_, rfl, by assumption⟩
  · obtain ⟨ss, e1, e2, e3⟩ := dq.all_strs pp
    subst e1
    have hn : ss.length = (1 + d).toNat := by omega
    walk_at "go"
    refine r_join hl ?_ ?_
    · rw [sum_ones e3]
      have : (Str.ofString "").length = 0 := by decide +kernel
      rw [this]
      omega
    · have w := wrd_join e3 rfl
      exact k _ _ ⟨by have := w.lo; omega, by have := w.hi; omega, w.sg⟩ (s1.trans s2)
theorem use_word {K : PySem.W.Frag} {a b : Addr} {z : Str} {i : Int} {H : Hp} {Q : VK} {E : XK} (h1 : Drw H a) (h2 : Scr K H b) (h3 : 0 < z.length) (h4 : z.length ≤ 1000) (h5 : 0 < i) (h6 : i ≤ 1000) (k : ∀ s H', Wrd (TL.tl z) 1 i.toNat s → Stp a H H' → Q (.str s) H') : sp_l_word K [.ref a, .ref b, .str z, .int i] H Q E :=
  ⟨a, b, z, i, rfl, rfl, rfl, rfl, h1, h2, ⟨h3, h4⟩, ⟨h5, h6⟩, k⟩
local macro_rules | `(tactic| walk_at "call") => `(tactic| ((with_reducible refine' use_word ?h1 ?h2 ?h3 ?h4 ?h5 ?h6 ?_); (case h1 => walk_at "hp"); (case h2 => walk_at "hp"); (case h3 => walk_at "nat"); (case h4 => walk_at "nat"); (case h5 => walk_at "nat"); (case h6 => walk_at "nat"); intro s H' hs st))

/-! ### _law_domain -/
abbrev s_l_domain : Stmt := top 13
abbrev N_l_domain : List Str := ["_law_state", "_law_script", "_law_ends", "_law_labels", "_law_k", "_law_middle"]
theorem sc_l_domain : FnScope N_l_domain ["_law_state", "_law_script"] (defScope s_l_domain) := ⟨rfl, rfl, rfl, by decide +kernel, rfl, by decide +kernel, by decide +kernel⟩
theorem bi_l_domain : BindOk "_law_domain" s_l_domain ["_law_state", "_law_script"] := fun _ _ _ _ _ _ us hl => match us, hl with | [_, _], _ => rfl
def sp_l_domain (K : PySem.W.Frag) : Sp := sp2 fun st sc H Q _ => ∃ a b, st = .ref a ∧ sc = .ref b ∧ Drw H a ∧ Scr K H b ∧ ∀ s H', Dom (TL.tl s) → Stp a H H' → Q (.str s) H'
theorem ok_l_domain {e : Wd} (D : DefAt e "_law_domain" s_l_domain) (B : Bl e.mg) (c_l_draw : Can e 2 "_law_draw" ["_law_state", "_law_script", "_law_size"] (sp_l_draw e.K)) (c_l_pick : Can e 3 "_law_pick" ["_law_state", "_law_script", "_law_signs"] (sp_l_pick e.K)) : Can e 4 "_law_domain" ["_law_state", "_law_script"] (sp_l_domain e.K) := by
  refine can_of D sc_l_domain bi_l_domain (fun _ _ _ _ h => sp2_len h) (fun cdv f A outer s H vs Q E hr h => ?_)
  obtain ⟨v0, v1, rfl, h⟩ := sp2_ex h
  have nd := sc_l_domain.nd
  obtain ⟨a, b, rfl, rfl, dr, hs, k⟩ := h
  have n1 : (Str.ofString ".").length = 1 := by decide +kernel
  have z1 : 0 < dEnds.length := by decide +kernel
  have z2 : dEnds.length ≤ 1000 := by decide +kernel
  refine ⟨_, (pss_cons (ps_set (i := 2) nd rfl (by first | exact Or.inl rfl | exact Or.inr rfl) pe_str)
    (pss_cons (ps_set (i := 3) nd rfl (by first | exact Or.inl rfl | exact Or.inr rfl) (pe_lst pa_nil))
    (pss_cons (ps_for PassesOwn.never rfl (pi_range1 rfl B.b_range (pa_cons (pe_op (op_addU (K := e.K)) pe_int (pe_can c_l_draw (hr.mono (by decide)) passL (pa_cons (pv 0) (pa_cons (pv 1) (pa_cons pe_int pa_nil))))) pa_nil)) (pg_name (i := 4) nd rfl (by first | exact Or.inl rfl | exact Or.inr rfl)) (pss_cons (ps_set (i := 5) nd rfl (by first | exact Or.inl rfl | exact Or.inr rfl) (pe_ix (ix_U (K := e.K)) (pe_lst (pa_cons pe_str (pa_cons pe_str (pa_cons pe_str (pa_cons pe_str (pa_cons pe_str pa_nil)))))) (pe_can c_l_draw (hr.mono (by decide)) passL (pa_cons (pv 0) (pa_cons (pv 1) (pa_cons pe_int pa_nil)))) (fun _ _ => rfl)))
    (pss_one (ps_expr (pe_bmU (K := e.K) PySem.F.plainAttrs_list PySem.F.slot_list_append PySem.F.type_list_append mt_append (pv 3) (pa_cons (pe_op (op_addU (K := e.K)) (pe_op (op_addU (K := e.K)) (pe_can c_l_pick (hr.mono (by decide)) passL (pa_cons (pv 0) (pa_cons (pv 1) (pa_cons (pv 2) pa_nil)))) (pv 5)) (pe_can c_l_pick (hr.mono (by decide)) passL (pa_cons (pv 0) (pa_cons (pv 1) (pa_cons (pv 2) pa_nil))))) pa_nil))))))
    (pss_one (ps_ret (pe_bmU (K := e.K) PySem.F.plainAttrs_str PySem.F.slot_str_join PySem.F.type_str_join (mt_joinU (K := e.K)) pe_str (pa_cons (pv 3) pa_nil))))))), ?_⟩
  walk_at "go"
  rename_i D H0 np0 sm0 hp0 d H1 d0 d1 s1
  have s01 : Stp a H H1 := (Stp.same dr sm0).trans s1
  refine for_rng (fun i σ' H' => ∃ (ss : List Str) (x y : Option V), σ' = [some (.ref a), some (.ref b), some (.str dEnds), some (.ref D), x, y] ∧ Stp a H H' ∧ H' D = some (.lst (ss.map V.str)) ∧ ss.length = i ∧ ∀ s ∈ ss, Lab (TL.tl s)) (by omega) (by omega) ?_ ?_ ?_
  · exact ⟨[], none, none, rfl, s01, s1.at_ hp0 (ne_drw dr np0), rfl, fun s hs => nomatch hs⟩
  · rintro i σ' H' hi ⟨ss, x, y, rfl, s2, hD, hl, hw⟩
    have hs' : Scr e.K H' b := hs.mono s2.gro
    have na : D ≠ a := ne_drw dr np0
    have dr' : Drw H' a := s2.drw
    walk_at "go"
    rename_i p3 H3 np3 sm3 hp3 d4 H4 d40 d41 s4
    have h4 := s4.at_ hp3 (ne_drw' np3 dr')
    obtain ⟨v, hv, hm0⟩ := atI_get (xs := [V.str "", V.str "-", V.str "--", V.str "x-y", V.str "z9"]) d40 (by simpa using d41)
    obtain ⟨m, rfl, hm⟩ : ∃ m, v = V.str m ∧ m ∈ ["", "-", "--", "x-y", "z9"].map Str.ofString := by
      simp only [List.mem_cons, List.not_mem_nil, or_false] at hm0
      rcases hm0 with h | h | h | h | h <;> exact ⟨_, h, by simp⟩
    refine r_ixL (SqL.of h4) hv ?_
    have ml : m.length ≤ 3 := by
      have key : ∀ z ∈ ["", "-", "--", "x-y", "z9"].map Str.ofString, z.length ≤ 3 := by decide +kernel
      exact key m hm
    have hD4 : H4 D = some (.lst (ss.map V.str)) := s4.at_ (sm3 _ _ hD) na
    walk_at "go"
    rename_i s5 H5 hs5 st5
    obtain ⟨c5, hc5, rfl⟩ := hs5
    have o1 : ∀ c : Nat, (⟨#[c]⟩ : Str).length = 1 := fun _ => rfl
    have oc := o1 c5
    walk_at "go"
    rename_i s6 H6 hs6 st6
    obtain ⟨c6, hc6, rfl⟩ := hs6
    have oc6 := o1 c6
    have hD6 : H6 D = some (.lst (ss.map V.str)) := st6.at_ (st5.at_ hD4 na) na
    have hl3 : ss.length ≤ 3 := by omega
    walk_at "go"
    rename_i H7 hp7 kp7
    refine ⟨ss ++ [((⟨#[c5]⟩ : Str) ++ m) ++ (⟨#[c6]⟩ : Str)], _, _, rfl, ?_, by rw [hp7, List.map_append] <;> rfl, by simp [hl], fun s hs => ?_⟩
    · have s6 : Stp a H H6 := ((((s2.snd sm3).trans s4).trans st5).trans st6)
      refine ⟨fun q o h n => ?_, ⟨fun q xs h => ?_, fun q o u h => ?_⟩, ?_⟩
      · have nq : q ≠ D := fun e => by
          rw [e, np0] at h
          cases h
        rw [kp7 q nq]
        exact s6.fr q o h n
      · rw [kp7 q (ne_of (s6.gro.tup q xs h) hD6 (by intro z; cases z))]
        exact s6.gro.tup q xs h
      · rw [kp7 q (ne_of (s6.gro.frz q o u h) hD6 (by intro z; cases z))]
        exact s6.gro.frz q o u h
      · obtain ⟨u, v, q⟩ := s6.drw
        exact ⟨u, v, by rw [kp7 a (Ne.symm na)]; exact q⟩
    · rcases List.mem_append.mp hs with hs | hs
      · exact hw s hs
      · rw [List.mem_singleton.mp hs]
        exact lab_of hc5 hc6 hm
  · rintro σ' H' ⟨ss, x, y, rfl, s2, hD, hl, hw⟩
    walk_at "go"
    have hsum : (ss.map (·.length)).sum ≤ 5 * ss.length := sum_le fun s hs => by
      rw [TL.len_tl]
      exact (hw s hs).hi
    refine r_join hD (by rw [n1]; omega) ?_
    refine k _ _ ⟨⟨ss.map TL.tl, tl_joinDot ss, by simp; omega, by simp; omega, fun w h => ?_⟩⟩ s2
    obtain ⟨s, hs, rfl⟩ := List.mem_map.mp h
    exact hw s hs
theorem use_domain {K : PySem.W.Frag} {a b : Addr} {H : Hp} {Q : VK} {E : XK} (h1 : Drw H a) (h2 : Scr K H b) (k : ∀ s H', Dom (TL.tl s) → Stp a H H' → Q (.str s) H') : sp_l_domain K [.ref a, .ref b] H Q E :=
  ⟨a, b, rfl, rfl, h1, h2, k⟩
local macro_rules | `(tactic| walk_at "call") => `(tactic| ((with_reducible refine' use_domain ?h1 ?h2 ?_); (case h1 => walk_at "hp"); (case h2 => walk_at "hp"); intro s H' hs st))

/-! ### _law_local -/
abbrev s_l_local : Stmt := top 12
abbrev N_l_local : List Str := ["_law_state", "_law_script", "_law_ends", "_law_parts", "_law_k"]
theorem sc_l_local : FnScope N_l_local ["_law_state", "_law_script"] (defScope s_l_local) := ⟨rfl, rfl, rfl, by decide +kernel, rfl, by decide +kernel, by decide +kernel⟩
theorem bi_l_local : BindOk "_law_local" s_l_local ["_law_state", "_law_script"] := fun _ _ _ _ _ _ us hl => match us, hl with | [_, _], _ => rfl
def sp_l_local (K : PySem.W.Frag) : Sp := sp2 fun st sc H Q _ => ∃ a b, st = .ref a ∧ sc = .ref b ∧ Drw H a ∧ Scr K H b ∧ ∀ s H', Loc1 (TL.tl lEnds) (TL.tl s) → Stp a H H' → Q (.str s) H'
theorem ok_l_local {e : Wd} (D : DefAt e "_law_local" s_l_local) (B : Bl e.mg) (c_l_word : Can e 4 "_law_word" ["_law_state", "_law_script", "_law_signs", "_law_most"] (sp_l_word e.K)) (c_l_draw : Can e 2 "_law_draw" ["_law_state", "_law_script", "_law_size"] (sp_l_draw e.K)) (c_l_pick : Can e 3 "_law_pick" ["_law_state", "_law_script", "_law_signs"] (sp_l_pick e.K)) : Can e 5 "_law_local" ["_law_state", "_law_script"] (sp_l_local e.K) := by
  refine can_of D sc_l_local bi_l_local (fun _ _ _ _ h => sp2_len h) (fun cdv f A outer s H vs Q E hr h => ?_)
  obtain ⟨v0, v1, rfl, h⟩ := sp2_ex h
  have nd := sc_l_local.nd
  obtain ⟨a, b, rfl, rfl, dr, hs, k⟩ := h
  have n0 : (Str.ofString "").length = 0 := by decide +kernel
  have n1 : (Str.ofString ".").length = 1 := by decide +kernel
  have z1 : 0 < lEnds.length := by decide +kernel
  have z2 : lEnds.length ≤ 1000 := by decide +kernel
  refine ⟨_, (pss_cons (ps_set (i := 2) nd rfl (by first | exact Or.inl rfl | exact Or.inr rfl) pe_str)
    (pss_cons (ps_setLc (i := 3) (own := [("_law_k", 4)]) (tt := tYes) rfl nd rfl rfl (sw_true rfl rfl rfl (by decide +kernel)) (pi_range1 rfl B.b_range (pa_cons (pe_op (op_addU (K := e.K)) pe_int (pe_can c_l_draw (hr.mono (by decide)) passL (pa_cons (pv 0) (pa_cons (pv 1) (pa_cons pe_int pa_nil))))) pa_nil)) (blkOk_by (N := N_l_local) (sc := defScope s_l_local) (by decide +kernel)) (fun _ _ _ _ _ => (pg_name (i := 4) nd rfl (by first | exact Or.inl rfl | exact Or.inr rfl))) (fun _ _ _ _ _ => pts_nil) (fun _ _ _ _ _ => (pe_can c_l_word (hr.mono (by decide)) passL (pa_cons (pv 0) (pa_cons (pv 1) (pa_cons (pv 2) (pa_cons pe_int pa_nil)))))))
    (Evl.pss_cut (ps_if (pt_cmpR (op_eqU (K := e.K) hr) (pe_can c_l_draw (hr.mono (by decide)) passL (pa_cons (pv 0) (pa_cons (pv 1) (pa_cons pe_int pa_nil)))) pe_int (nomark _)) (pss_one (ps_set (i := 3) nd rfl (by first | exact Or.inl rfl | exact Or.inr rfl) (pe_lst (pa_cons (pe_bmU (K := e.K) PySem.F.plainAttrs_str PySem.F.slot_str_join PySem.F.type_str_join (mt_joinU (K := e.K)) pe_str (pa_cons (pe_op op_mulU (pe_lst (pa_cons (pe_can c_l_pick (hr.mono (by decide)) passL (pa_cons (pv 0) (pa_cons (pv 1) (pa_cons (pv 2) pa_nil)))) pa_nil)) (pe_op (op_addU (K := e.K)) pe_int (pe_can c_l_draw (hr.mono (by decide)) passL (pa_cons (pv 0) (pa_cons (pv 1) (pa_cons pe_int pa_nil)))))) pa_nil)) (pa_cons (pe_ix (ix_U (K := e.K)) (pv 3) pe_int (fun _ _ => rfl)) pa_nil))))) pss_nil)
    (pss_one (ps_ret (pe_bmU (K := e.K) PySem.F.plainAttrs_str PySem.F.slot_str_rstrip PySem.F.type_str_rstrip mt_rstripU (pe_slice (sl_U (K := e.K)) (pe_bmU (K := e.K) PySem.F.plainAttrs_str PySem.F.slot_str_join PySem.F.type_str_join (mt_joinU (K := e.K)) pe_str (pa_cons (pv 3) pa_nil)) po_none (po_some pe_int)) (pa_cons pe_str pa_nil))))))), ?_⟩
  walk_at "go"
  rename_i d H1 d0 d1 s1
  refine lcr_draw (a := a) (fun _ q => ∃ s, q = PyData.str s ∧ Wrd (TL.tl lEnds) 1 5 s) s1.drw (by omega) (by omega) (fun _ => rfl) (fun j H2 Q1 _ s2 k1 => ?_) fun D H2 ys ds hD s2 hl dq el pp => ?_
  · walk_at "go"
    exact k1 _ _ _ (by assumption) (.str _) ⟨_, rfl, by assumption⟩
  · obtain ⟨ss, e1, e2, e3⟩ := dq.all_strs pp
    subst e1
    have hn : ss.length ≤ 3 := by omega
    have hp : 0 < ss.length := by omega
    walk_at "go"
    refine r_cut (fun σ' H' => ∃ (p : Addr) (ss : List Str), σ' = [some (.ref a), some (.ref b), some (.str lEnds), some (.ref p), none] ∧ Stp a H H' ∧ H' p = some (.lst (ss.map V.str)) ∧ ss ≠ [] ∧ ss.length ≤ 3 ∧ ∀ s ∈ ss, Wrd (TL.tl lEnds) 1 20 s) ?_ ?_
    · walk_at "go"
      rename_i d3 H3 d30 d31 s3
      refine r_ite (fun _ => ?_) (fun _ => ?_)
      · walk_at "go"
        rename_i s H4 hs4 s4 p4 H5 np5 sm5 hp5 d6 H6 d60 d61 s6
        obtain ⟨c, hc, rfl⟩ := hs4
        have h6 : H6 p4 = some (.lst [V.str ⟨#[c]⟩]) := s6.at_ hp5 (by
          obtain ⟨u, v, q⟩ := s4.drw
          intro e
          rw [e, q] at np5
          cases np5)
        refine r_mulL h6 (by omega) (by omega) (by rw [sizeLine_eq]; simp only [List.length_cons, List.length_nil]; omega) fun p7 H7 np7 sm7 hp7 => ?_
        rw [rep_strs] at hp7
        walk_at "go"
        refine r_join hp7 ?_ ?_
        · rw [sum_ones (S := TL.tl lEnds) fun s hs => ⟨c, hc, (List.mem_replicate.mp hs).2⟩, n0, List.length_replicate]
          omega
        · have w := rep_wrd (n := (18 + d6).toNat) hc
          walk_at "go"
          have hL : H7 D = some (.lst (ss.map V.str)) := by
            have na : D ≠ a := by
              obtain ⟨u, v, q⟩ := s1.drw
              intro e
              rw [e, q] at hD
              cases hD
            exact sm7 _ _ (s6.at_ (sm5 _ _ (s4.at_ (s3.at_ hl na) na)) na)
          obtain ⟨s0, r0, rfl⟩ : ∃ s0 r0, ss = s0 :: r0 := by
            cases ss with
            | nil => cases hp
            | cons s r => exact ⟨s, r, rfl⟩
          refine r_ixL (v := V.str s0) (SqL.of hL) (atI_nat (j := 0) rfl) ?_
          walk_at "go"
          rename_i p8 H8 np8 sm8 hp8
          have s8 : Stp a H H8 := ((((((s1.trans s2).trans s3).trans s4).snd sm5).trans s6).snd sm7).snd sm8
          refine ⟨p8, [Txt.join (Str.ofString "") (List.replicate (18 + d6).toNat ⟨#[c]⟩), s0], rfl, s8, hp8, by simp, by simp, fun s hs => ?_⟩
          rcases List.mem_cons.mp hs with e | hs
          · rw [e]
            exact ⟨by have := w.lo; omega, by have := w.hi; omega, w.sg⟩
          · rw [List.mem_singleton.mp hs]
            have w0 := e3 s0 List.mem_cons_self
            exact ⟨w0.lo, by have := w0.hi; omega, w0.sg⟩
      · walk_at "go"
        refine ⟨D, ss, rfl, (s1.trans s2).trans s3, s3.at_ hl ?_, (fun e => by rw [e] at hp; cases hp), hn, fun s hs => ⟨(e3 s hs).lo, by have := (e3 s hs).hi; omega, (e3 s hs).sg⟩⟩
        obtain ⟨u, v, q⟩ := s1.drw
        intro e
        rw [e, q] at hD
        cases hD
    · rintro σ' H' ⟨p, ss, rfl, s4, hl, hne, hle, hw⟩
      walk_at "go"
      have hsum : (ss.map (·.length)).sum ≤ 20 * ss.length := sum_le fun s hs => (hw s hs).len
      refine r_join hl ?_ ?_
      · rw [n1]
        omega
      · have hj : (Txt.join (Str.ofString ".") ss).length ≤ 100 := by
          have := joinDot_len ss
          omega
        have hc : (cutS (Txt.join (Str.ofString ".") ss) none (some 40)).length ≤ 100 := Nat.le_trans (cutS_length _ _ _) hj
        walk_at "go"
        refine k _ _ (loc_of lEnds_dot (fun s hs => ⟨fun e => ?_, (hw s hs).sg⟩) hne) s4
        have := (hw s hs).lo
        rw [e] at this
        cases this
theorem use_local {K : PySem.W.Frag} {a b : Addr} {H : Hp} {Q : VK} {E : XK} (h1 : Drw H a) (h2 : Scr K H b) (k : ∀ s H', Loc1 (TL.tl lEnds) (TL.tl s) → Stp a H H' → Q (.str s) H') : sp_l_local K [.ref a, .ref b] H Q E :=
  ⟨a, b, rfl, rfl, h1, h2, k⟩
local macro_rules | `(tactic| walk_at "call") => `(tactic| ((with_reducible refine' use_local ?h1 ?h2 ?_); (case h1 => walk_at "hp"); (case h2 => walk_at "hp"); intro s H' hs st))

/-! ### _law_names -/
abbrev s_l_names : Stmt := top 16
abbrev N_l_names : List Str := ["_law_state", "_law_script", "_law_count", "_law_letter", "_law_k"]
theorem sc_l_names : FnScope N_l_names ["_law_state", "_law_script", "_law_count", "_law_letter"] (defScope s_l_names) := ⟨rfl, rfl, rfl, by decide +kernel, rfl, by decide +kernel, by decide +kernel⟩
theorem bi_l_names : BindOk "_law_names" s_l_names ["_law_state", "_law_script", "_law_count", "_law_letter"] := fun _ _ _ _ _ _ us hl => match us, hl with | [_, _, _, _], _ => rfl
def sp_l_names (K : PySem.W.Frag) : Sp := sp4 fun st sc ct lt H Q _ => ∃ a b n z, st = .ref a ∧ sc = .ref b ∧ ct = .int n ∧ lt = .str ⟨#[z]⟩ ∧ z < 128 ∧ Drw H a ∧ Scr K H b ∧ (0 ≤ n ∧ n < 4) ∧ ∀ D H' ss, H D = none → Stp a H H' → H' D = some (.lst (ss.map V.str)) → NmL z ss → (ss.length : Int) = n → Q (.ref D) H'
theorem ok_l_names {e : Wd} (D : DefAt e "_law_names" s_l_names) (B : Bl e.mg) (c_l_local : Can e 5 "_law_local" ["_law_state", "_law_script"] (sp_l_local e.K)) : Can e 6 "_law_names" ["_law_state", "_law_script", "_law_count", "_law_letter"] (sp_l_names e.K) := by
  refine can_of D sc_l_names bi_l_names (fun _ _ _ _ h => sp4_len h) (fun cdv f A outer s H vs Q E hr h => ?_)
  obtain ⟨v0, v1, v2, v3, rfl, h⟩ := sp4_ex h
  have nd := sc_l_names.nd
  obtain ⟨a, b, n, z, rfl, rfl, rfl, rfl, hz, dr, hs, hn, k⟩ := h
  have nz : (⟨#[z]⟩ : Str).length = 1 := rfl
  refine ⟨_, (pss_one (ps_ret (pe_lc (own := [("_law_k", 4)]) (tt := tYes) rfl nd (pi_range1 rfl B.b_range (pa_cons (pv 2) pa_nil)) (blkOk_by (N := N_l_names) (sc := defScope s_l_names) (by decide +kernel)) (fun _ _ _ _ _ => (pg_name (i := 4) nd rfl (by first | exact Or.inl rfl | exact Or.inr rfl))) (fun _ _ _ _ _ => pts_nil) (fun _ _ _ _ _ => (pe_op (op_addU (K := e.K)) (pe_op (op_addU (K := e.K)) (pv 3) (pe_callTy call_strU (by rfl) B.b_str bt_str (pa_cons (pv 4) pa_nil))) (pe_bmU (K := e.K) PySem.F.plainAttrs_str PySem.F.slot_str_rstrip PySem.F.type_str_rstrip mt_rstripU (pe_slice (sl_U (K := e.K)) (pe_can c_l_local (hr.mono (by decide)) passL (pa_cons (pv 0) (pa_cons (pv 1) pa_nil))) po_none (po_some pe_int)) (pa_cons pe_str pa_nil))))))), ?_⟩
  walk_at "go"
  refine lcr_draw (a := a) (fun i q => ∃ s, q = PyData.str s ∧ ∃ w, TL.tl s = z :: (48 + i) :: w ∧ w.length ≤ 6 ∧ Asc s) dr (by omega) (by omega) (fun _ => rfl) (fun j H2 Q1 hj s2 k1 => ?_) fun D H2 ys ds hD s2 hl dq el pp => ?_
  · have dr2 := s2.drw
    have hs2 : Scr e.K H2 b := hs.mono s2.gro
    have j4 : j < 4 := by omega
    have hlog : ((j : Int)).natAbs.log2 < 1920 := by
      rw [Int.natAbs_natCast]
      match j, j4 with
      | 0, _ => decide
      | 1, _ => decide
      | 2, _ => decide
      | 3, _ => decide
    have htj : TL.tl (Str.ofString (toString (j : Int))) = [48 + j] := by
      match j, j4 with
      | 0, _ => decide +kernel
      | 1, _ => decide +kernel
      | 2, _ => decide +kernel
      | 3, _ => decide +kernel
    have hlj : (Str.ofString (toString (j : Int))).length = 1 := by rw [TL.len_tl, htj] <;> rfl
    walk_at "go"
    rename_i s3 H3 hs3 s3'
    have l3 := hs3.len
    have h6 : (cutS s3 none (some 6)).length ≤ 6 := len_cut0 (n := 6)
    obtain ⟨hh, _, ht, _⟩ := rstrip_facts (cutS s3 none (some 6)) 46
    rw [← dot_eq] at ht
    have l4 : (Txt.rstripChars (cutS s3 none (some 6)) (Str.ofString ".")).length ≤ 6 := by
      rw [TL.len_tl, ht, List.length_take]
      have := TL.len_tl (cutS s3 none (some 6))
      omega
    walk_at "go"
    refine k1 _ _ _ s3' (.str _) ⟨_, rfl, TL.tl (Txt.rstripChars (cutS s3 none (some 6)) (Str.ofString ".")), ?_, by rw [← TL.len_tl]; exact l4, ?_⟩
    · rw [TL.tl_append, TL.tl_append, htj] <;> rfl
    · refine Asc.app (Asc.app (fun c hc => ?_) (fun c hc => ?_)) (fun c hc => ?_)
      · have : c = z := by simpa [TL.tl] using hc
        omega
      · rw [htj] at hc
        have := List.mem_singleton.mp hc
        omega
      · rw [ht] at hc
        have hc2 := List.mem_of_mem_take hc
        rw [show (6 : Int) = ((6 : Nat) : Int) from rfl, tl_cutN] at hc2
        exact hs3.asc c (List.mem_of_mem_take hc2)
  · obtain ⟨ss, e1, e2, _⟩ := dq.all_strs (P := fun _ => True) (fun i d hd => let ⟨s, e, _⟩ := pp i d hd; ⟨s, e, trivial⟩)
    subst e1
    refine k D H2 ss hD s2 hl ⟨fun i s hi => ?_⟩ (by omega)
    have hd : ds[i]? = some (.str s) := by
      obtain ⟨d, hd, hq⟩ := dq.get (i := i) (v := .str s) (by rw [List.getElem?_map, hi] <;> rfl)
      cases hq
      exact hd
    obtain ⟨s', e, w⟩ := pp i _ hd
    cases e
    exact w
theorem use_names {K : PySem.W.Frag} {a b : Addr} {n : Int} {z : Nat} {H : Hp} {Q : VK} {E : XK} (h1 : Drw H a) (h2 : Scr K H b) (h3 : 0 ≤ n) (h4 : n < 4) (hz : z < 128) (k : ∀ D H' ss, H D = none → Stp a H H' → H' D = some (.lst (ss.map V.str)) → NmL z ss → (ss.length : Int) = n → Q (.ref D) H') : sp_l_names K [.ref a, .ref b, .int n, .str ⟨#[z]⟩] H Q E :=
  ⟨a, b, n, z, rfl, rfl, rfl, rfl, hz, h1, h2, ⟨h3, h4⟩, k⟩

/-! ### law -/
abbrev s_law : Stmt := top 19
abbrev N_law : List Str := ["_law_script", "_law_state", "_law_domain_here", "_law_users", "_law_lists", "_law_name", "_law_owner", "_law_k", "_law_members", "_law_directory", "_law_one", "_law_expected", "_law_other", "_law_ends", "_law_routes", "_law_hosts", "_law_told", "_law_j"]
theorem sc_law : FnScope N_law ["_law_script"] (defScope s_law) := ⟨rfl, rfl, rfl, by decide +kernel, rfl, by decide +kernel, by decide +kernel⟩
theorem bi_law : BindOk "law" s_law ["_law_script"] := fun _ _ _ _ _ _ us hl => match us, hl with | [_], _ => rfl
def sp_law (K : PySem.W.Frag) : Sp := sp1 fun x H Q _ => ∃ b, x = .ref b ∧ Scr K H b ∧ ∀ H', Q (.bl true) H'
/-- what stands from the directory on -/
structure G9 (K : PySem.W.Frag) (a b u w D p : Addr) (dm : Str) (us : List Str) (L : List Lst) (vs : List V) (H : Hp) : Prop where
  dr : Drw H a
  sc : Scr K H b
  us : H u = some (.tup (us.map V.str))
  ls : H D = some (.lst vs)
  lq : Dqs H vs (L.map entD)
  wq : Dq H (.ref w) (.tuple (L.map entD))
  di : Ins H p (He.ga K "Directory") [("domain", .str dm), ("users", .ref u), ("lists", .ref w)]
theorem ok_law {e : Wd} {f0 : Addr} {fd : FuncData} (D : FunD e.K "law" "law" (defArgs s_law) (defBody s_law) (defScope s_law) [] [] f0 fd) (B : Bl e.mg) (kc_Directory : Cls e.K (He.ga e.K "Directory")) (kn_Directory_domain : NoAttr e.K (He.ga e.K "Directory") "domain") (kn_Directory_users : NoAttr e.K (He.ga e.K "Directory") "users") (kn_Directory_lists : NoAttr e.K (He.ga e.K "Directory") "lists") (c_l_domain : Can e 4 "_law_domain" ["_law_state", "_law_script"] (sp_l_domain e.K)) (c_l_names : Can e 6 "_law_names" ["_law_state", "_law_script", "_law_count", "_law_letter"] (sp_l_names e.K)) (c_l_draw : Can e 2 "_law_draw" ["_law_state", "_law_script", "_law_size"] (sp_l_draw e.K)) (c_l_local : Can e 5 "_law_local" ["_law_state", "_law_script"] (sp_l_local e.K)) (c_Directory___init__ : CanN e 1 (He.ga e.K "Directory") "Directory" ["self", "domain", "users", "lists"] (sp_Directory___init__ e.K)) (c_Directory_lookup : CanM e 2 (He.ga e.K "Directory") "lookup" ["self", "address"] (sp_Directory_lookup e.K)) (c_route : Can e 2 "route" ["routes", "domain"] (sp_route e.K)) (c_l_route : Can e 2 "_law_route" ["_law_routes", "_law_domain_here"] (sp_l_route e.K)) : FnOk e.P e.w e.K e.mg e.base (L2.CX e.P e.w) 7 f0 fd ["_law_script"] (sp_law e.K) := by
  refine fnok_of D sc_law (fun _ _ _ _ h => sp1_len h) (fun cdv f A outer s H vs Q E hr h => ?_)
  obtain ⟨v0, rfl, h⟩ := sp1_ex h
  have nd := sc_law.nd
  obtain ⟨b, rfl, hs, k⟩ := h
  have hu : Str.ofString "u" = ⟨#[117]⟩ := by decide +kernel
  have hl : Str.ofString "l" = ⟨#[108]⟩ := by decide +kernel
  refine ⟨_, (pss_cons (ps_set (i := 1) nd rfl (by first | exact Or.inl rfl | exact Or.inr rfl) (pe_lst (pa_cons pe_int (pa_cons pe_int pa_nil))))
    (pss_cons (ps_set (i := 2) nd rfl (by first | exact Or.inl rfl | exact Or.inr rfl) (pe_can c_l_domain (hr.mono (by decide)) passL (pa_cons (pv 1) (pa_cons (pv 0) pa_nil))))
    (pss_cons (ps_set (i := 3) nd rfl (by first | exact Or.inl rfl | exact Or.inr rfl) (pe_callTy (call_tupleU (K := e.K)) (by rfl) B.b_tuple bt_tuple (pa_cons (pe_can c_l_names (hr.mono (by decide)) passL (pa_cons (pv 1) (pa_cons (pv 0) (pa_cons (pe_can c_l_draw (hr.mono (by decide)) passL (pa_cons (pv 1) (pa_cons (pv 0) (pa_cons pe_int pa_nil)))) (pa_cons pe_str pa_nil))))) pa_nil)))
    (pss_cons (ps_set (i := 4) nd rfl (by first | exact Or.inl rfl | exact Or.inr rfl) (pe_lst pa_nil))
    (pss_cons (ps_for PassesOwn.never rfl (pi_U (K := e.K) (pe_can c_l_names (hr.mono (by decide)) passL (pa_cons (pv 1) (pa_cons (pv 0) (pa_cons (pe_can c_l_draw (hr.mono (by decide)) passL (pa_cons (pv 1) (pa_cons (pv 0) (pa_cons pe_int pa_nil)))) (pa_cons pe_str pa_nil)))))) (pg_name (i := 5) nd rfl (by first | exact Or.inl rfl | exact Or.inr rfl)) (pss_cons (ps_set (i := 6) nd rfl (by first | exact Or.inl rfl | exact Or.inr rfl) (pe_ix (ix_U (K := e.K)) (pe_lst (pa_cons pe_non (pa_cons (pe_tup (pa_cons pe_str (pa_cons (pv 2) pa_nil))) pa_nil))) (pe_can c_l_draw (hr.mono (by decide)) passL (pa_cons (pv 1) (pa_cons (pv 0) (pa_cons pe_int pa_nil)))) (fun _ _ => rfl)))
    (pss_cons (ps_set (i := 8) nd rfl (by first | exact Or.inl rfl | exact Or.inr rfl) (pe_callTy (call_tupleU (K := e.K)) (by rfl) B.b_tuple bt_tuple (pa_cons (pe_lc (own := [("_law_k", 7)]) (tt := tYes) rfl nd (pi_range1 rfl B.b_range (pa_cons (pe_can c_l_draw (hr.mono (by decide)) passL (pa_cons (pv 1) (pa_cons (pv 0) (pa_cons pe_int pa_nil)))) pa_nil)) (blkOk_by (N := N_law) (sc := defScope s_law) (by decide +kernel)) (fun _ _ _ _ _ => (pg_name (i := 7) nd rfl (by first | exact Or.inl rfl | exact Or.inr rfl))) (fun _ _ _ _ _ => pts_nil) (fun _ _ _ _ _ => (pe_tup (pa_cons (pe_can c_l_local (hr.mono (by decide)) passL (pa_cons (pv 1) (pa_cons (pv 0) pa_nil))) (pa_cons (pe_can c_l_domain (hr.mono (by decide)) passL (pa_cons (pv 1) (pa_cons (pv 0) pa_nil))) pa_nil))))) pa_nil)))
    (pss_one (ps_expr (pe_bmU (K := e.K) PySem.F.plainAttrs_list PySem.F.slot_list_append PySem.F.type_list_append mt_append (pv 4) (pa_cons (pe_tup (pa_cons (pv 5) (pa_cons (pv 6) (pa_cons (pv 8) pa_nil)))) pa_nil)))))))
    (pss_cons (ps_set (i := 9) nd rfl (by first | exact Or.inl rfl | exact Or.inr rfl) (pe_canN c_Directory___init__ (hr.mono (by decide)) passL (pa_cons (pv 2) (pa_cons (pv 3) (pa_cons (pe_callTy (call_tupleU (K := e.K)) (by rfl) B.b_tuple bt_tuple (pa_cons (pv 4) pa_nil)) pa_nil)))))
    (pss_cons (ps_if (PW.pt (pw_or (pt_cmpR (op_neU (K := e.K) hr) (pe_fldU (K := e.K) (pv 9)) (pv 2) (nomark _)) (pw_or (pt_cmpR (op_neU (K := e.K) hr) (pe_fldU (K := e.K) (pv 9)) (pv 3) (nomark _)) (pw_or1 (pt_cmpR (op_neU (K := e.K) hr) (pe_fldU (K := e.K) (pv 9)) (pe_callTy (call_tupleU (K := e.K)) (by rfl) B.b_tuple bt_tuple (pa_cons (pv 4) pa_nil)) (nomark _)))))) (pss_one (ps_ret pe_bl)) pss_nil)
    (pss_cons (ps_for PassesOwn.never rfl (pi_U (K := e.K) (pe_op (op_addU (K := e.K)) (pe_op (op_addU (K := e.K)) (pe_callTy (call_listU (K := e.K)) (by rfl) B.b_list bt_list (pa_cons (pv 3) pa_nil)) (pe_lc (own := [("_law_one", 10)]) (tt := tYes) rfl nd (pi_U (K := e.K) (pv 4)) (blkOk_by (N := N_law) (sc := defScope s_law) (by decide +kernel)) (fun _ _ _ _ _ => (pg_name (i := 10) nd rfl (by first | exact Or.inl rfl | exact Or.inr rfl))) (fun _ _ _ _ _ => pts_nil) (fun _ _ _ _ _ => (pe_ix (ix_U (K := e.K)) (pv 10) pe_int (fun _ _ => rfl))))) (pe_lst (pa_cons (pe_can c_l_local (hr.mono (by decide)) passL (pa_cons (pv 1) (pa_cons (pv 0) pa_nil))) (pa_cons pe_str pa_nil))))) (pg_name (i := 5) nd rfl (by first | exact Or.inl rfl | exact Or.inr rfl)) (pss_cons (ps_set (i := 11) nd rfl (by first | exact Or.inl rfl | exact Or.inr rfl) (pe_tup (pa_cons pe_str pa_nil)))
    (Evl.pss_cut (ps_if (pt_cmpR (op_inU (K := e.K) hr) (pv 5) (pv 3) rfl) (pss_one (ps_set (i := 11) nd rfl (by first | exact Or.inl rfl | exact Or.inr rfl) (pe_tup (pa_cons pe_str (pa_cons (pv 5) pa_nil))))) pss_nil)
    (pss_cons (ps_for PassesOwn.never rfl (pi_U (K := e.K) (pv 4)) (pg_name (i := 10) nd rfl (by first | exact Or.inl rfl | exact Or.inr rfl)) (pss_one (ps_if (pt_cmpR (op_eqU (K := e.K) hr) (pe_ix (ix_U (K := e.K)) (pv 10) pe_int (fun _ _ => rfl)) (pv 5) (nomark _)) (pss_one (ps_set (i := 11) nd rfl (by first | exact Or.inl rfl | exact Or.inr rfl) (pe_tup (pa_cons pe_str (pa_cons (pe_ix (ix_U (K := e.K)) (pv 10) pe_int (fun _ _ => rfl)) (pa_cons (pe_ix (ix_U (K := e.K)) (pv 10) pe_int (fun _ _ => rfl)) pa_nil)))))) pss_nil)))
    (pss_cons (ps_if (pt_cmpR (op_neU (K := e.K) hr) (pe_canM c_Directory_lookup (hr.mono (by decide)) passL (pv 9) (pa_cons (pe_tup (pa_cons (pv 5) (pa_cons (pv 2) pa_nil))) pa_nil)) (pv 11) (nomark _)) (pss_one (ps_ret pe_bl)) pss_nil)
    (pss_cons (ps_set (i := 12) nd rfl (by first | exact Or.inl rfl | exact Or.inr rfl) (pe_ix (ix_U (K := e.K)) (pe_lst (pa_cons (pe_op (op_addU (K := e.K)) (pv 2) pe_str) (pa_cons (pe_op (op_addU (K := e.K)) pe_str (pv 2)) (pa_cons (pe_op (op_addU (K := e.K)) (pe_can c_l_domain (hr.mono (by decide)) passL (pa_cons (pv 1) (pa_cons (pv 0) pa_nil))) pe_str) pa_nil)))) (pe_can c_l_draw (hr.mono (by decide)) passL (pa_cons (pv 1) (pa_cons (pv 0) (pa_cons pe_int pa_nil)))) (fun _ _ => rfl)))
    (pss_one (ps_if (PW.pt (pw_and (pt_cmpR (op_neU (K := e.K) hr) (pv 12) (pv 2) (nomark _)) (pw_and1 (pt_cmpR (op_neU (K := e.K) hr) (pe_canM c_Directory_lookup (hr.mono (by decide)) passL (pv 9) (pa_cons (pe_tup (pa_cons (pv 5) (pa_cons (pv 12) pa_nil))) pa_nil)) (pe_tup (pa_cons pe_str pa_nil)) (nomark _))))) (pss_one (ps_ret pe_bl)) pss_nil))))))))
    (pss_cons (ps_set (i := 13) nd rfl (by first | exact Or.inl rfl | exact Or.inr rfl) (pe_lst (pa_cons pe_str (pa_cons (pv 2) (pa_cons (pe_slice (sl_U (K := e.K)) (pv 2) (po_some pe_int) po_none) (pa_cons (pe_op (op_addU (K := e.K)) pe_str (pv 2)) (pa_cons (pe_op (op_addU (K := e.K)) pe_str (pv 2)) (pa_cons (pe_slice (sl_U (K := e.K)) (pv 2) (po_some (pe_op (op_addU (K := e.K)) (pe_bmU (K := e.K) PySem.F.plainAttrs_str PySem.F.slot_str_find PySem.F.type_str_find mt_findU (pv 2) (pa_cons pe_str pa_nil)) pe_int)) po_none) (pa_cons (pe_can c_l_domain (hr.mono (by decide)) passL (pa_cons (pv 1) (pa_cons (pv 0) pa_nil))) pa_nil)))))))))
    (pss_cons (ps_set (i := 14) nd rfl (by first | exact Or.inl rfl | exact Or.inr rfl) (pe_lst pa_nil))
    (pss_cons (ps_for PassesOwn.never rfl (pi_range1 rfl B.b_range (pa_cons (pe_can c_l_draw (hr.mono (by decide)) passL (pa_cons (pv 1) (pa_cons (pv 0) (pa_cons pe_int pa_nil)))) pa_nil)) (pg_name (i := 7) nd rfl (by first | exact Or.inl rfl | exact Or.inr rfl)) (pss_cons (ps_set (i := 15) nd rfl (by first | exact Or.inl rfl | exact Or.inr rfl) (pe_callTy (call_tupleU (K := e.K)) (by rfl) B.b_tuple bt_tuple (pa_cons (pe_lc (own := [("_law_j", 17)]) (tt := tYes) rfl nd (pi_range1 rfl B.b_range (pa_cons (pe_can c_l_draw (hr.mono (by decide)) passL (pa_cons (pv 1) (pa_cons (pv 0) (pa_cons pe_int pa_nil)))) pa_nil)) (blkOk_by (N := N_law) (sc := defScope s_law) (by decide +kernel)) (fun _ _ _ _ _ => (pg_name (i := 17) nd rfl (by first | exact Or.inl rfl | exact Or.inr rfl))) (fun _ _ _ _ _ => pts_nil) (fun _ _ _ _ _ => (pe_can c_l_domain (hr.mono (by decide)) passL (pa_cons (pv 1) (pa_cons (pv 0) pa_nil))))) pa_nil)))
    (pss_one (ps_expr (pe_bmU (K := e.K) PySem.F.plainAttrs_list PySem.F.slot_list_append PySem.F.type_list_append mt_append (pv 14) (pa_cons (pe_tup (pa_cons (pe_ix (ix_U (K := e.K)) (pv 13) (pe_can c_l_draw (hr.mono (by decide)) passL (pa_cons (pv 1) (pa_cons (pv 0) (pa_cons pe_int pa_nil)))) (fun _ _ => rfl)) (pa_cons (pv 15) pa_nil))) pa_nil))))))
    (pss_cons (ps_for PassesOwn.never rfl (pi_U (K := e.K) (pe_lst (pa_cons (pv 2) (pa_cons (pe_op (op_addU (K := e.K)) pe_str (pv 2)) (pa_cons (pe_op (op_addU (K := e.K)) pe_str (pv 2)) (pa_cons (pe_op (op_addU (K := e.K)) pe_str (pv 2)) (pa_cons (pe_can c_l_domain (hr.mono (by decide)) passL (pa_cons (pv 1) (pa_cons (pv 0) pa_nil))) pa_nil))))))) (pg_name (i := 10) nd rfl (by first | exact Or.inl rfl | exact Or.inr rfl)) (pss_cons (ps_set (i := 16) nd rfl (by first | exact Or.inl rfl | exact Or.inr rfl) (pe_can c_route (hr.mono (by decide)) passL (pa_cons (pe_callTy (call_tupleU (K := e.K)) (by rfl) B.b_tuple bt_tuple (pa_cons (pv 14) pa_nil)) (pa_cons (pv 10) pa_nil))))
    (pss_one (ps_if (PW.pt (pw_or (pt_not (pt_tru (K := e.K) (pe_callB (call_isiU (K := e.K)) (by rfl) B.b_isinstance bt_isinstance (pa_cons (pv 16) (pa_cons (pe_bltn (v := .ty "tuple") (by rfl) B.b_tuple bt_tuple rfl) pa_nil))))) (pw_or1 (pt_cmpR (op_neU (K := e.K) hr) (pv 16) (pe_can c_l_route (hr.mono (by decide)) passL (pa_cons (pv 14) (pa_cons (pv 10) pa_nil))) (nomark _))))) (pss_one (ps_ret pe_bl)) pss_nil))))
    (pss_one (ps_ret pe_bl)))))))))))))), ?_⟩
  walk_at "go"
  rename_i a H1 np1 sm1 hp1
  have dr : Drw H1 a := ⟨0, 0, hp1⟩
  walk_at "go"
  rename_i dm H2 hdm s2 d3 H3 d30 d31 s3
  have hdl := hdm.len
  rw [hu]
  refine use_names (by walk_at "hp") (by walk_at "hp") d30 d31 (by decide) (fun D4 H4 us hD4 s4 hl4 hnu hlu => ?_)
  walk_at "go"
  rename_i u H5 np5 sm5 hp5 D6 H6 np6 sm6 hp6 d7 H7 d70 d71 s7
  rw [hl]
  have hsH5 : Scr e.K H5 b := by walk_at "hp"
  have drH5 : Drw H5 a := by walk_at "hp"
  have nD6 : D6 ≠ a := ne_drw drH5 np6
  refine use_names (by walk_at "hp") (by walk_at "hp") d70 d71 (by decide) (fun D8 H8 nl hD8 s8 hl8 hnl hll => ?_)
  have hu8 : H8 u = some (.tup (us.map V.str)) := by walk_at "hp"
  have h68 : H8 D6 = some (.lst []) := by walk_at "hp"
  have dr8 : Drw H8 a := s8.drw
  have sc8 : Scr e.K H8 b := by walk_at "hp"
  have nD8 : D8 ≠ a := ne_drw s7.drw hD8
  have n68 : D6 ≠ D8 := fun q => by
    have := s7.at_ hp6 nD6
    rw [q, hD8] at this
    cases this
  have nu6 : u ≠ D6 := fun q => by
    rw [q, np6] at hp5
    cases hp5
  clear hs hp1 sm1 np1 s2 s3 s4 sm5 hp5 np5 sm6 np6 hp6 s7 s8 hD8 hD4 hl4 hsH5 drH5 dr
  have nox : Str.ofString "o" = ⟨#[111]⟩ := by decide +kernel
  refine for_L (fun i σ' H' => ∃ (L : List Lst) (vs : List V) (x5 x6 x7 x8 : Option V), σ' = [some (.ref b), some (.ref a), some (.str dm), some (.ref u), some (.ref D6), x5, x6, x7, x8, none, none, none, none, none, none, none, none, none] ∧ L.map (·.1) = nl.take i ∧ LsOk L ∧
    H' D6 = some (.lst vs) ∧ Dqs H' vs (L.map entD) ∧ H' u = some (.tup (us.map V.str)) ∧ H' D8 = some (.lst (nl.map V.str)) ∧ Drw H' a ∧ Scr e.K H' b) (SqL.of hl8) ?_ ?_ ?_ ?_
  · exact ⟨[], [], none, none, none, none, rfl, rfl, LsOk.nil, h68, .nil, hu8, hl8, dr8, sc8⟩
  · rintro i σ' H' _ ⟨L, vs, x5, x6, x7, x8, rfl, _, _, _, _, _, h8', _⟩
    exact SqL.of h8'
  · rintro i x σ' H' hx ⟨L, vs, x5, x6, x7, x8, rfl, hnm, hok, h6', hq', hu', h8', dr', sc'⟩
    obtain ⟨n, hn, rfl⟩ := get_map hx
    clear hu8 h68 hl8 dr8 sc8
    walk_at "go"
    rename_i p9 H9 np9 sm9 hp9 p10 H10 np10 sm10 hp10 d11 H11 d110 d111 s11
    have n10 : p10 ≠ a := by
      have : Drw H9 a := by walk_at "hp"
      exact ne_drw this np10
    obtain ⟨o, ho, ho2⟩ := atI_get (xs := [V.non, V.ref p9]) d110 (by simpa using d111)
    have h10 : H11 p10 = some (.lst [V.non, V.ref p9]) := by walk_at "hp"
    have hp911 : H11 p9 = some (.tup [.str (Str.ofString "o"), .str dm]) := by walk_at "hp"
    have dr11 : Drw H11 a := s11.drw
    have od : ∃ q, Dq H11 o q ∧ Okd 2 q := by
      simp only [List.mem_cons, List.not_mem_nil, or_false] at ho2
      rcases ho2 with rfl | rfl
      · exact ⟨_, .non, Okd.non⟩
      · refine ⟨_, .tup hp911 (.cons (.str _) (.cons (.str _) .nil)), .tup fun d hd => ?_⟩
        simp only [List.mem_cons, List.not_mem_nil, or_false] at hd
        rcases hd with rfl | rfl
        · exact .str (by rw [nox]; intro c hc; simp [TL.tl] at hc; omega)
        · exact .str hdm.asc
    obtain ⟨q, hoq, oq⟩ := od
    clear ho2 hp911
    have hvl : vs.length ≤ 4 := by
      have e1 : (L.map (·.1)).length = (nl.take i).length := by rw [hnm]
      rw [List.length_map, List.length_take] at e1
      have e2 := hq'.length
      rw [List.length_map] at e2
      omega
    have ha : Asc n := (hnl.len n (mem_of_get hn)).2
    walk_at "go"
    rename_i d12 H12 d120 d121 s12
    refine lcr_draw (a := a) (fun _ q => Okd 1 q) s12.drw (by omega) (by omega) (fun _ => rfl) (fun j H13 Q1 _ s13 k1 => ?_) fun D13 H13 ys ds hD13 s13 hl13 dq13 el13 pp13 => ?_
    · have dr13 : Drw H13 a := s13.drw
      have sc13 : Scr e.K H13 b := by walk_at "hp"
      clear s13
      walk_at "go"
      rename_i l14 H14 hl14 s14 e15 H15 he15 s15 p16 H16 np16 sm16 hp16
      refine k1 _ _ _ ((s14.trans s15).snd sm16) (.tup hp16 (.cons (.str _) (.cons (.str _) .nil))) (.tup fun d hd => ?_)
      simp only [List.mem_cons, List.not_mem_nil, or_false] at hd
      rcases hd with rfl | rfl
      · exact .str hl14.asc
      · exact .str he15.asc
    · have od : Okd 2 (.tuple ds) := .tup fun d hd => by
        obtain ⟨j, hj⟩ := List.getElem?_of_mem hd
        exact pp13 j d hj
      have h613 : H13 D6 = some (.lst vs) := by walk_at "hp"
      have hu13 : H13 u = some (.tup (us.map V.str)) := by walk_at "hp"
      have h813 : H13 D8 = some (.lst (nl.map V.str)) := by walk_at "hp"
      have sc13 : Scr e.K H13 b := by walk_at "hp"
      have dr13 : Drw H13 a := by walk_at "hp"
      have hq13 : Dqs H13 vs (L.map entD) := by walk_at "hp"
      have ho13 : Dq H13 o q := by walk_at "hp"
      clear sc' dr' h8' hu' h6' sm9 sm10 s11 s12 s13 h10 hp9 hp10 np9 np10 dr11 hq' hoq
      walk_at "go"
      rename_i p14 H14 np14 sm14 hp14 p15 H15 np15 sm15 hp15 H16 h16 k16
      have h615 : H15 D6 = some (.lst vs) := sm15 _ _ (sm14 _ _ h613)
      have g16 : Gro H15 H16 := gro_but h615 k16
      refine ⟨L ++ [(n, q, .tuple ds)], _, _, _, _, _, rfl, by rw [List.map_append, hnm, take_snoc hn] <;> rfl, hok.snoc ha oq od, h16, ?_, ?_, ?_, ?_, ?_⟩
      · rw [List.map_append]
        have q1 : Dq H15 (.ref p15) (entD (n, q, .tuple ds)) := .tup hp15 (.cons (.str _) (.cons (by walk_at "hp") (.cons ((Dq.tup hp14 (dq13.mono (Gro.same sm14))).mono (Gro.same sm15)) .nil)))
        have q2 : Dqs H15 vs (L.map entD) := by walk_at "hp"
        exact (q2.mono g16).snoc (q1.mono g16)
      · rw [k16 _ nu6]
        walk_at "hp"
      · rw [k16 _ (Ne.symm n68)]
        walk_at "hp"
      · have : Drw H15 a := by walk_at "hp"
        obtain ⟨x, y, z⟩ := this
        exact ⟨x, y, by rw [k16 _ (Ne.symm nD6)]; exact z⟩
      · have : Scr e.K H15 b := by walk_at "hp"
        exact this.mono g16
  · rintro σ' H' ⟨L, vs, x5, x6, x7, x8, rfl, hnm, hok, h6', hq', hu', h8', dr', sc'⟩
    rw [List.length_map, List.take_length] at hnm
    have hLn : NmL 108 (L.map (·.1)) := by rw [hnm]; exact hnl
    have hL4 : L.length ≤ 4 := by
      have e1 := congrArg List.length hnm
      rw [List.length_map] at e1
      omega
    have hvl : vs.length ≤ 4 := by
      have e2 := hq'.length
      rw [List.length_map] at e2
      omega
    clear hu8 h68 hl8 dr8 sc8 h8'
    walk_at "go"
    rename_i w H9 np9 sm9 hp9 p H10 np10 sm10 hi10
    refine r_iten (fun h => absurd rfl h) (fun _ => ?_)
    walk_at "go"
    have hus : ∀ s ∈ us, Asc s := fun s hs => (hnu.len s hs).2
    have hu10 : H10 u = some (.tup (us.map V.str)) := by walk_at "hp"
    refine r_neOk (Dq.strs hu10) (Dq.strs hu10) (Okd.sD (n := 0) hus) (by decide) ?_
    walk_at "go"
    rename_i w2 H11 np11 sm11 hp11
    have q11 : Dqs H11 vs (L.map entD) := by walk_at "hp"
    have w11 : H11 w = some (.tup vs) := by walk_at "hp"
    refine r_neOk (.tup w11 q11) (.tup hp11 q11) hok.ok (by decide) ?_
    walk_at "go"
    rename_i p12 H12 np12 sm12 hp12
    have h612 : H12 D6 = some (.lst vs) := by walk_at "hp"
    have q12 : Dqs H12 vs (L.map entD) := by walk_at "hp"
    refine lc_L h612 (fun H' s => s _ _ h612) (sr_same H12) (fun i ds => ds = ((L.take i).map (·.1)).map PyData.str) (by omega) rfl (fun _ => rfl) (fun i x H13 ds Q1 Qn hx s13 rv k1 k2 => ?_) (fun D13 H13 ys ds hD13 s13 hl13 dq13 rv => ?_)
    · obtain ⟨dd, hdd, hx2⟩ := q12.get hx
      obtain ⟨z, hz, rfl⟩ := get_mapG hdd
      obtain ⟨ax, ox, mx, rfl, hax, _, _⟩ := ent_at hx2
      refine r_tyes (r_iteT ?_)
      walk_at "go"
      exact k1 _ (.str z.1) _ (Same.refl _) (.str _) (by rw [rv, take_snoc hz, List.map_append, List.map_append] <;> rfl)
    · have evl : vs.length = L.length := by rw [q12.length, List.length_map]
      rw [evl, List.take_length, hnm] at rv
      subst rv
      rw [dq13.strs_of] at hl13
      have hu3 : us.length ≤ 3 := by omega
      have hn3 : nl.length ≤ 3 := by omega
      walk_at "go"
      rename_i p14 H14 np14 sm14 hp14 lo H15 hlo s15 p16 H16 np16 sm16 hp16 p17 H17 np17 sm17 hp17
      have n17 : p17 ≠ a := by
        have : Drw H16 a := by walk_at "hp"
        exact ne_drw this np17
      have eN : us.map V.str ++ nl.map V.str ++ [V.str lo, V.str (Str.ofString "u0")] = (us ++ nl ++ [lo, Str.ofString "u0"]).map V.str := by
        rw [List.map_append, List.map_append] <;> rfl
      rw [eN] at hp17
      have hNa : ∀ s ∈ us ++ nl ++ [lo, Str.ofString "u0"], Asc s := by
        intro s hs
        simp only [List.mem_append, List.mem_cons, List.not_mem_nil, or_false] at hs
        rcases hs with (hs | hs) | rfl | rfl
        · exact hus s hs
        · exact (hnl.len s hs).2
        · exact hlo.asc
        · unfold Asc; decide +kernel
      generalize us ++ nl ++ [lo, Str.ofString "u0"] = N at hp17 hNa
      have G17 : G9 e.K a b u w D6 p dm us L vs H17 := ⟨by walk_at "hp", by walk_at "hp", by walk_at "hp", by walk_at "hp", by walk_at "hp", .tup (by walk_at "hp") (by walk_at "hp"), by walk_at "hp"⟩
      clear h6' hq' hu' dr' sc' np9 sm9 hp9 np10 sm10 hi10 hu10 np11 sm11 hp11 q11 w11 np12 sm12 hp12 h612 q12 hD13 s13 hl13 dq13 np14 sm14 hp14 s15 np16 sm16 hp16 np17 sm17
      have nx : (Str.ofString "x").length = 1 := by decide +kernel
      have nxd : (Str.ofString "x.").length = 2 := by decide +kernel
      have n9 : (Str.ofString "9").length = 1 := by decide +kernel
      refine for_L (fun i σ' H' => ∃ x5 x10 x11 x12, σ' = [some (.ref b), some (.ref a), some (.str dm), some (.ref u), some (.ref D6), x5, x6, x7, x8, some (.ref p), x10, x11, x12, none, none, none, none, none] ∧ G9 e.K a b u w D6 p dm us L vs H' ∧ H' p17 = some (.lst (N.map V.str))) (SqL.of hp17) ?_ ?_ ?_ ?_
      · exact ⟨_, _, _, _, rfl, G17, hp17⟩
      · rintro i σ' H' _ ⟨_, _, _, _, rfl, _, h⟩
        exact SqL.of h
      · rintro i x σ' H' hx ⟨x5, x10, x11, x12, rfl, G, hN⟩
        obtain ⟨n, hn, rfl⟩ := get_map hx
        have ha : Asc n := hNa n (mem_of_get hn)
        clear G17 hp17
        obtain ⟨dr, sc, hu, h6, q6, wq, di⟩ := G
        walk_at "go"
        rename_i y1 H1 np1 sm1 hp1
        refine r_cut (fun σ' H' => ∃ x, σ' = [some (.ref b), some (.ref a), some (.str dm), some (.ref u), some (.ref D6), some (.str n), x6, x7, x8, some (.ref p), x10, some (.ref x), x12, none, none, none, none, none] ∧ Same H1 H' ∧ Dq H' (.ref x) (if n ∈ us then .tuple [.str "box", .str n] else .tuple [.str "unknown"])) ?_ ?_
        · walk_at "go"
          refine r_ite (fun c => ?_) (fun c => ?_)
          · walk_at "go"
            rename_i y2 H2 np2 sm2 hp2
            exact ⟨_, rfl, sm2, by rw [if_pos c]; exact .tup hp2 (.cons (.str _) (.cons (.str _) .nil))⟩
          · walk_at "go"
            exact ⟨_, rfl, Same.refl _, by rw [if_neg c]; exact .tup hp1 (.cons (.str _) .nil)⟩
        rintro σ2 H2 ⟨y2, rfl, sm2, dq2⟩
        walk_at "go"
        have h62 : H2 D6 = some (.lst vs) := by walk_at "hp"
        have q62 : Dqs H2 vs (L.map entD) := by walk_at "hp"
        refine for_L (fun i σ' H' => ∃ x10 x, σ' = [some (.ref b), some (.ref a), some (.str dm), some (.ref u), some (.ref D6), some (.str n), x6, x7, x8, some (.ref p), x10, some (.ref x), x12, none, none, none, none, none] ∧ Same H2 H' ∧ Dq H' (.ref x) (lastM n (if n ∈ us then .tuple [.str "box", .str n] else .tuple [.str "unknown"]) (L.take i))) (SqL.of h62) ?_ ?_ ?_ ?_
        · exact ⟨_, _, rfl, Same.refl _, dq2⟩
        · rintro j σ' H' _ ⟨_, _, rfl, sm, _⟩
          exact SqL.of (sm _ _ h62)
        · rintro j x σ' H3 hx ⟨z10, y3, rfl, sm3, dq3⟩
          obtain ⟨dd, hdd, hx2⟩ := q62.get hx
          obtain ⟨z, hz, rfl⟩ := get_mapG hdd
          obtain ⟨ax, ox, mx, rfl, hax, hox, hmx⟩ := ent_at hx2
          rw [take_snoc hz, lastM_snoc]
          walk_at "go"
          refine r_ite (fun c => ?_) (fun c => ?_)
          · walk_at "go"
            rename_i y4 H4 np4 sm4 hp4
            refine ⟨_, _, rfl, sm3.trans sm4, ?_⟩
            rw [if_pos c]
            exact .tup hp4 (.cons (.str _) (.cons (by walk_at "hp") (.cons (by walk_at "hp") .nil)))
          · walk_at "go"
            refine ⟨_, _, rfl, sm3, ?_⟩
            rw [if_neg c]
            exact dq3
        · rintro σ' H3 ⟨z10, y3, rfl, sm3, dq3⟩
          have evl : vs.length = L.length := by rw [q62.length, List.length_map]
          rw [evl, List.take_length, ← find_last (dm := dm) hnu hLn] at dq3
          clear q62 h62 dq2
          walk_at "go"
          rename_i p4 H4 np4 sm4 hp4 r5 H5 sm5 hr5
          refine r_neOk hr5 (by walk_at "hp") (hok.look ha) (by decide) ?_
          walk_at "go"
          rename_i ot H6 hot s6 
          have hotl := hot.len
          walk_at "go"
          rename_i p7 J7 np7 sm7 hp7 d8 J8 d80 d81 s8
          have n7 : p7 ≠ a := by
            have : Drw H6 a := s6.drw
            exact ne_drw this np7
          have h78 : J8 p7 = some (.lst [.str (dm ++ Str.ofString "x"), .str (Str.ofString "x." ++ dm), .str (ot ++ Str.ofString "9")]) := by walk_at "hp"
          obtain ⟨ov, hv, ho2⟩ := atI_get (xs := [V.str (dm ++ Str.ofString "x"), V.str (Str.ofString "x." ++ dm), V.str (ot ++ Str.ofString "9")]) d80 (by simpa using d81)
          obtain ⟨o, rfl⟩ : ∃ o, ov = V.str o := by
            simp only [List.mem_cons, List.not_mem_nil, or_false] at ho2
            rcases ho2 with rfl | rfl | rfl <;> exact ⟨_, rfl⟩
          refine r_ixL (SqL.of h78) hv ?_
          clear hv ho2 h78 dq3 hr5
          have w8 : Dq J8 (.ref w) (.tuple (L.map entD)) := by walk_at "hp"
          have i8 : Ins J8 p (He.ga e.K "Directory") [("domain", .str dm), ("users", .ref u), ("lists", .ref w)] := by walk_at "hp"
          have u8 : J8 u = some (.tup (us.map V.str)) := by walk_at "hp"
          walk_at "go"
          refine r_iten (fun c => ?_) (fun c => ?_)
          · walk_at "go"
            rename_i p9 J9 np9 sm9 hp9 r10 J10 sm10 hr10 q11 J11 np11 sm11 hq11
            have hr11 : Dq J11 (.ref r10) (lookupM dm us L n o) := by walk_at "hp"
            unfold lookupM at hr11
            rw [if_neg c] at hr11
            refine r_neOk (n := 1) hr11 (.tup hq11 (.cons (.str _) .nil)) (.tup fun d hd => by rw [List.mem_singleton.mp hd]; exact .str (by unfold Asc; decide +kernel)) (by decide) ?_
            walk_at "go"
            exact ⟨_, _, _, _, rfl, ⟨by walk_at "hp", by walk_at "hp", by walk_at "hp", by walk_at "hp", by walk_at "hp", by walk_at "hp", by walk_at "hp"⟩, by walk_at "hp"⟩
          · walk_at "go"
            exact ⟨_, _, _, _, rfl, ⟨by walk_at "hp", by walk_at "hp", by walk_at "hp", by walk_at "hp", by walk_at "hp", by walk_at "hp", by walk_at "hp"⟩, by walk_at "hp"⟩
      · rintro σ' H' ⟨x5, x10, x11, x12, rfl, G, hN⟩
        clear G17 hp17
        obtain ⟨dr, sc, hu, h6, q6, wq, di⟩ := G
        clear h6 q6 wq di hN hu
        have nq : (Str.ofString "q").length = 1 := by decide +kernel
        have nqd : (Str.ofString "q.").length = 2 := by decide +kernel
        have nqq : (Str.ofString "qq.").length = 3 := by decide +kernel
        walk_at "go"
        rename_i f1 J1 hf1 s1 E J2 npE smE hpE Dr J3 npR smR hpR d4 J4 d40 d41 s4
        have hfl := hf1.len
        have nE : E ≠ a := ne_drw s1.drw npE
        have nRE : Dr ≠ E := fun q => by
          rw [q] at npR
          rw [npR] at hpE
          cases hpE
        have nR : Dr ≠ a := by
          have : Drw J2 a := by walk_at "hp"
          exact ne_drw this npR
        generalize hES : [Str.ofString "", dm, cutS dm (some 1) none, Str.ofString "q" ++ dm, Str.ofString "q." ++ dm, cutS dm (some (Txt.find dm (Str.ofString ".") + 1)) none, f1] = ES
        have hE4 : J4 E = some (.lst (ES.map V.str)) := by
          rw [← hES]
          show J4 E = some (.lst [.str (Str.ofString ""), .str dm, .str (cutS dm (some 1) none), .str (Str.ofString "q" ++ dm), .str (Str.ofString "q." ++ dm), .str (cutS dm (some (Txt.find dm (Str.ofString ".") + 1)) none), .str f1])
          walk_at "hp"
        have hEl : ES.length = 7 := by rw [← hES] <;> rfl
        have hEs : ∀ s ∈ ES, s.length ≤ 100000 := by
          intro s hs
          have c1 := len_cut dm (some 1) none
          have c2 := len_cut dm (some (Txt.find dm (Str.ofString ".") + 1)) none
          rw [← hES] at hs
          simp only [List.mem_cons, List.not_mem_nil, or_false] at hs
          rcases hs with rfl | rfl | rfl | rfl | rfl | rfl | rfl
          · rw [eS_len]; omega
          · omega
          · omega
          · rw [Str.length_append, nq]; omega
          · rw [Str.length_append, nqd]; omega
          · omega
          · omega
        have hR4 : J4 Dr = some (.lst []) := by walk_at "hp"
        have dr4 : Drw J4 a := s4.drw
        have sc4 : Scr e.K J4 b := by walk_at "hp"
        clear hES dr sc s1 npE smE hpE npR smR hpR s4
        refine for_rng (fun i σ' H' => ∃ (R : List (Str × PyData)) (vs : List V) (x7 x15 x17 : Option V), σ' = [some (.ref b), some (.ref a), some (.str dm), some (.ref u), some (.ref D6), x5, x6, x7, x8, some (.ref p), x10, x11, x12, some (.ref E), some (.ref Dr), x15, none, x17] ∧ H' Dr = some (.lst vs) ∧ Dqs H' vs (R.map rowD) ∧ R.length = i ∧ (∀ x ∈ R, x.1.length ≤ 100000) ∧ (∀ x ∈ R, ∃ ss, x.2 = sD ss ∧ ∀ s ∈ ss, Asc s) ∧ H' E = some (.lst (ES.map V.str)) ∧ Drw H' a ∧ Scr e.K H' b) (by omega) (by omega) ?_ ?_ ?_
        · exact ⟨[], [], _, _, _, rfl, hR4, .nil, rfl, (fun _ h => absurd h List.not_mem_nil), (fun _ h => absurd h List.not_mem_nil), hE4, dr4, sc4⟩
        · rintro i σ' J5 hi ⟨R, vs5, x7, x15, x17, rfl, hR5, hq5, hRl, hR1, hR2, hE5, dr5, sc5⟩
          have hvl5 : vs5.length ≤ 7 := by
            have e2 := hq5.length
            rw [List.length_map] at e2
            omega
          clear hR4 hE4 dr4 sc4
          walk_at "go"
          rename_i d12 J12 d120 d121 s12
          refine lcr_draw (a := a) (fun _ q => ∃ s, q = PyData.str s ∧ Asc s) s12.drw (by omega) (by omega) (fun _ => rfl) (fun j J13 Q1 _ s13 k1 => ?_) fun D13 J13 ys ds hD13 s13 hl13 dq13 el13 pp13 => ?_
          · have dr13 : Drw J13 a := s13.drw
            have sc13 : Scr e.K J13 b := by walk_at "hp"
            clear s13
            walk_at "go"
            rename_i l14 J14 hl14 s14
            exact k1 _ _ _ s14 (.str _) ⟨_, rfl, hl14.asc⟩
          · obtain ⟨ss, rfl, e2, hss⟩ := dq13.all_strs pp13
            have n13 : D13 ≠ a := ne_drw s12.drw hD13
            walk_at "go"
            rename_i p14 J14 np14 sm14 hp14 d15 J15 d150 d151 s15
            have hE15 : J15 E = some (.lst (ES.map V.str)) := by walk_at "hp"
            obtain ⟨ov, hv, ho2⟩ := atI_get (xs := ES.map V.str) d150 (by rw [List.length_map]; omega)
            obtain ⟨o, ho, rfl⟩ := List.mem_map.mp ho2
            refine r_ixL (SqL.of hE15) hv ?_
            have hR15 : J15 Dr = some (.lst vs5) := by walk_at "hp"
            have hp15 : J15 p14 = some (.tup (ss.map V.str)) := by walk_at "hp"
            have hq15 : Dqs J15 vs5 (R.map rowD) := by walk_at "hp"
            have dr15 : Drw J15 a := s15.drw
            have sc15 : Scr e.K J15 b := by walk_at "hp"
            clear hR5 hq5 hE5 dr5 sc5 s12 s13 hl13 dq13 sm14 hp14 np14 s15
            walk_at "go"
            rename_i p16 J16 np16 sm16 hp16 J17 h17 k17
            have g17 : Gro J16 J17 := gro_but (sm16 _ _ hR15) k17
            refine ⟨R ++ [(o, sD ss)], _, _, _, _, rfl, h17, ?_, by simp [hRl], ?_, ?_, ?_, ?_, ?_⟩
            · rw [List.map_append]
              have q1 : Dq J16 (.ref p16) (rowD (o, sD ss)) := .tup hp16 (.cons (.str _) (.cons ((Dq.strs hp15).mono (Gro.same sm16)) .nil))
              exact ((hq15.mono (Gro.same sm16)).mono g17).snoc (q1.mono g17)
            · intro x hx
              rcases List.mem_append.mp hx with hx | hx
              · exact hR1 x hx
              · rw [List.mem_singleton.mp hx]
                exact hEs o ho
            · intro x hx
              rcases List.mem_append.mp hx with hx | hx
              · exact hR2 x hx
              · rw [List.mem_singleton.mp hx]
                exact ⟨ss, rfl, hss⟩
            · rw [k17 _ (Ne.symm nRE)]
              exact sm16 _ _ hE15
            · obtain ⟨x, y, z⟩ := dr15
              exact ⟨x, y, by rw [k17 _ (Ne.symm nR)]; exact sm16 _ _ z⟩
            · exact (sc15.mono (Gro.same sm16)).mono g17
        · rintro σ' J5 ⟨R, vs5, x7, x15, x17, rfl, hR5, hq5, hRl, hR1, hR2, hE5, dr5, sc5⟩
          clear hR4 hE4 dr4 sc4 hE5
          walk_at "go"
          rename_i g6 J6 hg6 s6 T J7 npT smT hpT
          have hgl := hg6.len
          generalize hTS : [dm, Str.ofString "q." ++ dm, Str.ofString "qq." ++ dm, Str.ofString "q" ++ dm, g6] = TS
          have hT7 : J7 T = some (.lst (TS.map V.str)) := by
            rw [← hTS]
            exact hpT
          have hTs : ∀ s ∈ TS, s.length ≤ 100000 := by
            intro s hs
            rw [← hTS] at hs
            simp only [List.mem_cons, List.not_mem_nil, or_false] at hs
            rcases hs with rfl | rfl | rfl | rfl | rfl
            · omega
            · rw [Str.length_append, nqd]; omega
            · rw [Str.length_append, nqq]; omega
            · rw [Str.length_append, nq]; omega
            · omega
          have hR7 : J7 Dr = some (.lst vs5) := by walk_at "hp"
          have hq7 : Dqs J7 vs5 (R.map rowD) := by walk_at "hp"
          clear hTS s6 npT smT hpT hR5 hq5 dr5 sc5
          refine for_L (fun i σ' H' => ∃ (x7 x10 x16 : Option V), σ' = [some (.ref b), some (.ref a), some (.str dm), some (.ref u), some (.ref D6), x5, x6, x7, x8, some (.ref p), x10, x11, x12, some (.ref E), some (.ref Dr), x15, x16, x17] ∧ Same J7 H') (SqL.of hT7) ?_ ?_ ?_ ?_
          · exact ⟨_, _, _, rfl, Same.refl _⟩
          · rintro i σ' H' _ ⟨_, _, _, rfl, sm⟩
            exact SqL.of (sm _ _ hT7)
          · rintro i x σ' J8 hx ⟨x7, x10, x16, rfl, sm8⟩
            obtain ⟨t, ht, rfl⟩ := get_map hx
            have htl := hTs t (mem_of_get ht)
            have hRl2 : R.length ≤ 100000 := by omega
            walk_at "go"
            rename_i T9 J9 np9 sm9 hp9 v10 J10 sm10 hv10
            obtain ⟨ss, hss, hsa⟩ := routeM_P (P := fun d => ∃ ss, d = sD ss ∧ ∀ s ∈ ss, Asc s) t ⟨[], rfl, fun _ h => absurd h List.not_mem_nil⟩ hR2
            rw [hss] at hv10
            obtain ⟨q10, rfl⟩ : ∃ q, v10 = V.ref q := by
              unfold sD at hv10
              cases hv10
              exact ⟨_, rfl⟩
            have ht10 : J10 q10 = some (.tup (ss.map V.str)) := by
              unfold sD at hv10
              cases hv10 with
              | tup h1 h2 => rw [← h2.strs_of]; exact h1
            walk_at "go"
            rename_i v11 J11 sm11 hv11
            rw [hss] at hv11
            refine r_neOk (n := 1) (by walk_at "hp") hv11 (Okd.sD hsa) (by decide) ?_
            walk_at "go"
            exact ⟨_, _, _, rfl, by exact ((sm8.trans sm9).trans sm10).trans sm11⟩
          · rintro σ' J8 ⟨x7, x10, x16, rfl, sm8⟩
            walk_at "go"
            exact k _

def d_Directory___init__ : He.DefD := ⟨("Directory", some "__init__"), "__init__", "Directory.__init__", defArgs s_Directory___init__, defBody s_Directory___init__, defScope s_Directory___init__, [], []⟩
def d_Directory_lookup : He.DefD := ⟨("Directory", some "lookup"), "lookup", "Directory.lookup", defArgs s_Directory_lookup, defBody s_Directory_lookup, defScope s_Directory_lookup, [], []⟩
def d_matches : He.DefD := ⟨("matches", none), "matches", "matches", defArgs s_matches, defBody s_matches, defScope s_matches, [], []⟩
def d_route : He.DefD := ⟨("route", none), "route", "route", defArgs s_route, defBody s_route, defScope s_route, [], []⟩
def d_l_refill : He.DefD := ⟨("_law_refill", none), "_law_refill", "_law_refill", defArgs s_l_refill, defBody s_l_refill, defScope s_l_refill, [], []⟩
def d_l_draw : He.DefD := ⟨("_law_draw", none), "_law_draw", "_law_draw", defArgs s_l_draw, defBody s_l_draw, defScope s_l_draw, [], []⟩
def d_l_pick : He.DefD := ⟨("_law_pick", none), "_law_pick", "_law_pick", defArgs s_l_pick, defBody s_l_pick, defScope s_l_pick, [], []⟩
def d_l_word : He.DefD := ⟨("_law_word", none), "_law_word", "_law_word", defArgs s_l_word, defBody s_l_word, defScope s_l_word, [], []⟩
def d_l_local : He.DefD := ⟨("_law_local", none), "_law_local", "_law_local", defArgs s_l_local, defBody s_l_local, defScope s_l_local, [], []⟩
def d_l_domain : He.DefD := ⟨("_law_domain", none), "_law_domain", "_law_domain", defArgs s_l_domain, defBody s_l_domain, defScope s_l_domain, [], []⟩
def d_l_names : He.DefD := ⟨("_law_names", none), "_law_names", "_law_names", defArgs s_l_names, defBody s_l_names, defScope s_l_names, [], []⟩
def d_l_tail : He.DefD := ⟨("_law_tail", none), "_law_tail", "_law_tail", defArgs s_l_tail, defBody s_l_tail, defScope s_l_tail, [], []⟩
def d_l_route : He.DefD := ⟨("_law_route", none), "_law_route", "_law_route", defArgs s_l_route, defBody s_l_route, defScope s_l_route, [], []⟩
def d_law : He.DefD := ⟨("law", none), "law", "law", defArgs s_law, defBody s_law, defScope s_law, [], []⟩
def fnL : List He.DefD := [d_Directory___init__, d_Directory_lookup, d_matches, d_route, d_l_refill, d_l_draw, d_l_pick, d_l_word, d_l_local, d_l_domain, d_l_names, d_l_tail, d_l_route, d_law]
def faL0 : List He.Fa := [.glo "matches", .glo "route", .glo "_law_refill", .glo "_law_draw", .glo "_law_pick", .glo "_law_word", .glo "_law_local", .glo "_law_domain", .glo "_law_names", .glo "_law_tail", .glo "_law_route", .glo "law", .free "len", .free "int", .free "str", .free "bool", .free "tuple", .free "list", .free "isinstance", .free "range", .free "ord", .free "sorted", .free "min", .free "max", .free "sum", .free "all", .free "any", .free "enumerate", .free "set", .free "zip", .free "dict", .free "reversed", .glo "Directory", .cls "Directory", .mkr "Directory", .noat "Directory" "domain", .noat "Directory" "users", .noat "Directory" "lists", .meth "Directory" "lookup"]
def faL : List He.Fa := faL0
abbrev Rr : PySem.W.OpenRow := PySem.W.OpenLaw.row PySem.Challenge.rw_dawkline_k09_directories_and_routes
abbrev hkL : PySem.W.Hook := He.hookD 4 faL fnL
def obL (s : PySem.W.SharedT) : He.AlD := He.obsDG 4 faL fnL (HandSHeadRun.getT s)
theorem obL_eq (s : PySem.W.SharedT) : obL s = hkL.obs s.abs := He.obsDG_eq (HandSHeadRun.getT_eq s)
def looseL0 : List Str := ["matches", "route", "_law_is_integer", "_law_refill", "_law_draw", "_law_wide", "_law_junk", "_law_pick", "_law_word", "_law_local", "_law_domain", "_law_line", "_law_lines", "_law_names", "_law_tail", "_law_route", "Directory"]
def looseL : List Str := looseL0
theorem runL (w : World) : HandSHeadRun.RunEq Rr (PySem.W.view Rr.prog [19]) hkL obL 1500 looseL w := by
  intro os
  kernel_rfl
theorem factsL {P : Program} {w : World} {K : PySem.W.Frag} {h : Heap} {mg : Str → Option Value} {f : Addr} (X : K.In h) (G : h.Ns mainGlobals mg) (hfa : mg ("law" : Str) = some (.ref f)) (c : He.SaysD faL fnL K) :
    ∃ fd : FuncData, (∀ (s : Shared) (v : Value), BindsTo s fd ⟨[v], []⟩ [("_law_script", v)]) ∧ ∀ base : Heap, K.In base → base.Ns mainGlobals mg → FnOk P w K mg base CX0 7 f fd ["_law_script"] (sp_law K) := by
  have B : Bl mg := ⟨He.free_ok X G (c.fact 12 (f := .free "len") rfl), He.free_ok X G (c.fact 13 (f := .free "int") rfl), He.free_ok X G (c.fact 14 (f := .free "str") rfl), He.free_ok X G (c.fact 15 (f := .free "bool") rfl), He.free_ok X G (c.fact 16 (f := .free "tuple") rfl), He.free_ok X G (c.fact 17 (f := .free "list") rfl), He.free_ok X G (c.fact 18 (f := .free "isinstance") rfl), He.free_ok X G (c.fact 19 (f := .free "range") rfl), He.free_ok X G (c.fact 20 (f := .free "ord") rfl), He.free_ok X G (c.fact 21 (f := .free "sorted") rfl), He.free_ok X G (c.fact 22 (f := .free "min") rfl), He.free_ok X G (c.fact 23 (f := .free "max") rfl), He.free_ok X G (c.fact 24 (f := .free "sum") rfl), He.free_ok X G (c.fact 25 (f := .free "all") rfl), He.free_ok X G (c.fact 26 (f := .free "any") rfl), He.free_ok X G (c.fact 27 (f := .free "enumerate") rfl), He.free_ok X G (c.fact 28 (f := .free "set") rfl), He.free_ok X G (c.fact 29 (f := .free "zip") rfl), He.free_ok X G (c.fact 30 (f := .free "dict") rfl), He.free_ok X G (c.fact 31 (f := .free "reversed") rfl)⟩
  have gl_Directory := He.glo_ok X G (c.fact 32 (f := .glo "Directory") rfl)
  have kc_Directory := He.cls_ok (c.fact 33 (f := .cls "Directory") rfl)
  have kn_Directory_domain := He.noat_ok (c.fact 35 (f := .noat "Directory" "domain") rfl)
  have kn_Directory_users := He.noat_ok (c.fact 36 (f := .noat "Directory" "users") rfl)
  have kn_Directory_lists := He.noat_ok (c.fact 37 (f := .noat "Directory" "lists") rfl)
  obtain ⟨fd_Directory___init__, F_Directory___init__⟩ := c.def_ 0 (d := d_Directory___init__) rfl
  obtain ⟨fd_Directory_lookup, F_Directory_lookup⟩ := c.def_ 1 (d := d_Directory_lookup) rfl
  obtain ⟨fd_matches, F_matches⟩ := c.def_ 2 (d := d_matches) rfl
  have m_matches : mg "matches" = some (.ref _) := He.glo_ok X G (c.fact 0 (f := .glo "matches") rfl)
  obtain ⟨fd_route, F_route⟩ := c.def_ 3 (d := d_route) rfl
  have m_route : mg "route" = some (.ref _) := He.glo_ok X G (c.fact 1 (f := .glo "route") rfl)
  obtain ⟨fd_l_refill, F_l_refill⟩ := c.def_ 4 (d := d_l_refill) rfl
  have m_l_refill : mg "_law_refill" = some (.ref _) := He.glo_ok X G (c.fact 2 (f := .glo "_law_refill") rfl)
  obtain ⟨fd_l_draw, F_l_draw⟩ := c.def_ 5 (d := d_l_draw) rfl
  have m_l_draw : mg "_law_draw" = some (.ref _) := He.glo_ok X G (c.fact 3 (f := .glo "_law_draw") rfl)
  obtain ⟨fd_l_pick, F_l_pick⟩ := c.def_ 6 (d := d_l_pick) rfl
  have m_l_pick : mg "_law_pick" = some (.ref _) := He.glo_ok X G (c.fact 4 (f := .glo "_law_pick") rfl)
  obtain ⟨fd_l_word, F_l_word⟩ := c.def_ 7 (d := d_l_word) rfl
  have m_l_word : mg "_law_word" = some (.ref _) := He.glo_ok X G (c.fact 5 (f := .glo "_law_word") rfl)
  obtain ⟨fd_l_local, F_l_local⟩ := c.def_ 8 (d := d_l_local) rfl
  have m_l_local : mg "_law_local" = some (.ref _) := He.glo_ok X G (c.fact 6 (f := .glo "_law_local") rfl)
  obtain ⟨fd_l_domain, F_l_domain⟩ := c.def_ 9 (d := d_l_domain) rfl
  have m_l_domain : mg "_law_domain" = some (.ref _) := He.glo_ok X G (c.fact 7 (f := .glo "_law_domain") rfl)
  obtain ⟨fd_l_names, F_l_names⟩ := c.def_ 10 (d := d_l_names) rfl
  have m_l_names : mg "_law_names" = some (.ref _) := He.glo_ok X G (c.fact 8 (f := .glo "_law_names") rfl)
  obtain ⟨fd_l_tail, F_l_tail⟩ := c.def_ 11 (d := d_l_tail) rfl
  have m_l_tail : mg "_law_tail" = some (.ref _) := He.glo_ok X G (c.fact 9 (f := .glo "_law_tail") rfl)
  obtain ⟨fd_l_route, F_l_route⟩ := c.def_ 12 (d := d_l_route) rfl
  have m_l_route : mg "_law_route" = some (.ref _) := He.glo_ok X G (c.fact 10 (f := .glo "_law_route") rfl)
  obtain ⟨fd_law, F_law⟩ := c.def_ 13 (d := d_law) rfl
  have m_law : mg "law" = some (.ref _) := He.glo_ok X G (c.fact 11 (f := .glo "law") rfl)
  have e := hfa.symm.trans m_law
  cases e
  have b := FunD.bindsA (ps := ["_law_script"]) F_law fun _ _ _ _ _ _ us hl => match us, hl with | [_], _ => rfl
  refine ⟨fd_law, fun s v => b s [v] rfl, fun base KB GB => ?_⟩
  let e : Wd := ⟨P, w, K, mg, base⟩
  have c_Directory___init__ : CanN e 1 (He.ga e.K "Directory") "Directory" ["self", "domain", "users", "lists"] (sp_Directory___init__ e.K) := ok_Directory___init__ (e := e) ⟨_, _, F_Directory___init__, He.mkr_ok (c.fact 34 (f := .mkr "Directory") rfl), gl_Directory⟩ B kc_Directory kn_Directory_domain kn_Directory_users kn_Directory_lists
  have c_matches : Can e 1 "matches" ["suffix", "domain"] (sp_matches e.K) := ok_matches (e := e) ⟨_, _, F_matches, m_matches⟩ B
  have c_l_refill : Can e 1 "_law_refill" ["_law_script", "_law_k"] (sp_l_refill e.K) := ok_l_refill (e := e) ⟨_, _, F_l_refill, m_l_refill⟩ B
  have c_l_tail : Can e 1 "_law_tail" ["_law_domain_here", "_law_suffix"] (sp_l_tail e.K) := ok_l_tail (e := e) ⟨_, _, F_l_tail, m_l_tail⟩ B
  have c_Directory_lookup : CanM e 2 (He.ga e.K "Directory") "lookup" ["self", "address"] (sp_Directory_lookup e.K) := ok_Directory_lookup (e := e) ⟨_, _, F_Directory_lookup, He.meth_ok (c.fact 38 (f := .meth "Directory" "lookup") rfl), kc_Directory⟩ B kc_Directory kn_Directory_domain kn_Directory_users kn_Directory_lists
  have c_route : Can e 2 "route" ["routes", "domain"] (sp_route e.K) := ok_route (e := e) ⟨_, _, F_route, m_route⟩ B c_matches
  have c_l_draw : Can e 2 "_law_draw" ["_law_state", "_law_script", "_law_size"] (sp_l_draw e.K) := ok_l_draw (e := e) ⟨_, _, F_l_draw, m_l_draw⟩ B c_l_refill
  have c_l_route : Can e 2 "_law_route" ["_law_routes", "_law_domain_here"] (sp_l_route e.K) := ok_l_route (e := e) ⟨_, _, F_l_route, m_l_route⟩ B c_l_tail
  have c_l_pick : Can e 3 "_law_pick" ["_law_state", "_law_script", "_law_signs"] (sp_l_pick e.K) := ok_l_pick (e := e) ⟨_, _, F_l_pick, m_l_pick⟩ B c_l_draw
  have c_l_word : Can e 4 "_law_word" ["_law_state", "_law_script", "_law_signs", "_law_most"] (sp_l_word e.K) := ok_l_word (e := e) ⟨_, _, F_l_word, m_l_word⟩ B c_l_pick c_l_draw
  have c_l_domain : Can e 4 "_law_domain" ["_law_state", "_law_script"] (sp_l_domain e.K) := ok_l_domain (e := e) ⟨_, _, F_l_domain, m_l_domain⟩ B c_l_draw c_l_pick
  have c_l_local : Can e 5 "_law_local" ["_law_state", "_law_script"] (sp_l_local e.K) := ok_l_local (e := e) ⟨_, _, F_l_local, m_l_local⟩ B c_l_word c_l_draw c_l_pick
  have c_l_names : Can e 6 "_law_names" ["_law_state", "_law_script", "_law_count", "_law_letter"] (sp_l_names e.K) := ok_l_names (e := e) ⟨_, _, F_l_names, m_l_names⟩ B c_l_local
  exact fnok_0 (ok_law (e := e) F_law B kc_Directory kn_Directory_domain kn_Directory_users kn_Directory_lists c_l_domain c_l_names c_l_draw c_l_local c_Directory___init__ c_Directory_lookup c_route c_l_route) (fun vs H Q E h => by
    obtain ⟨v0, rfl, h⟩ := sp1_ex h
    exact h)
end Dk
open PySem PySem.W PySem.Calls PyProof.Rows
set_option maxRecDepth 100000 in
set_option maxHeartbeats 0 in
theorem PySem.Challenge.cw_dawkline_k09_directories_and_routes_holds : PySem.Challenge.rw_dawkline_k09_directories_and_routes.Holds := by
  w_on; o_law
  refine HandSHeadRun.head_any (r := OpenLaw.row PySem.Challenge.rw_dawkline_k09_directories_and_routes) (q := view (OpenLaw.row PySem.Challenge.rw_dawkline_k09_directories_and_routes).prog [19]) (H := Dk.hkL) (ob := Dk.obL) (M := 1500) (loose := Dk.looseL) (d := HandSHeadRun.topDef (OpenLaw.row PySem.Challenge.rw_dawkline_k09_directories_and_routes).prog 19) (kwd := []) Dk.obL_eq
    (by kernel_rfl) (fun s => by kernel_rfl) Dk.runL (by kernel_rfl) (by kernel_rfl) (by kernel_rfl) (by rfl) (by first | assumption | decide +kernel) (by decide +kernel) ⟨rfl, rfl, rfl, rfl, rfl, by decide +kernel⟩ ?hw ?hc
  case hw => w_witness2
  case hc =>
    refine L2.walk_ofE (l := PySem.Challenge.rw_dawkline_k09_directories_and_routes) (n := 63) (k := 7) (x := "_law_script") (CX := L2.CX0) rfl (by decide) (by kernel_rfl) ⟨rfl, by decide, by decide⟩ ?F (fun _ _ _ _ z => z)
    case F =>
      intro w mg fa h Y G hmg0
      obtain ⟨K, KX, c⟩ := Y
      have hmg : mg ("law" : PySem.Str) = some (.ref fa) := by
        have e : (HandSHeadRun.topDef (OpenLaw.row PySem.Challenge.rw_dawkline_k09_directories_and_routes).prog 19).name = ("law" : PySem.Str) := by kernel_rfl
        rw [← e]
        exact hmg0
      obtain ⟨fd, hb, hF⟩ := Dk.factsL (P := (PySem.Challenge.rw_dawkline_k09_directories_and_routes).prog) (w := w) KX G hmg c
      exact ⟨K, fd, Dk.sp_law K, KX, hb, fun H a ns hl hO hS => ⟨a, rfl, Dk.Scr.of hl hO hS, fun _ => rfl⟩, hF⟩
