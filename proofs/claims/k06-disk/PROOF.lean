import PyProof.Rows.All
import Wide.All
import OpenK.AllK
import Wide.FinOn
import KE.KStateDown
import HandS.ForMost
import HandS.ForSpec
import HandS.IsInst
import HandS.StrMore
import HandS.TupAny
import HandS.Deep
import HandS.TupLe
import HandS.Defaults
import HandS.More
import HandS.Conv
import HandS.Walk
import HandS.Flow
import HandS.Iter
import HandS.Evl
import HandS.Text
import HandS.HeadHook1
import HandS.HeadHook2
import HandS.RaiseMore
import HandS.ExcOwn
import HandS.ExcIs
import HandS.TryOnly
import HandS.WordsExc
import Lean
import HandS.Head0
import HandS.Head1
import HandS.Head2
import HandS.HeadEnd
import PySem.Challenge.RW_dawkline_k06_disk
set_option Elab.async false
set_option linter.all false
set_option maxRecDepth 100000
set_option maxHeartbeats 4000000

/-! Own layer over HandS: data that never change, steps of the heap, rules that take any kind of value, a walk of readings. -/
namespace Dk
open PySem PySem.Spec PyProof.Rows L2

/-! ### data that never change -/
mutual
inductive Dq (H : Hp) : V → PyData → Prop
  | non : Dq H .non .none
  | bl (b : Bool) : Dq H (.bl b) (.bool b)
  | int (i : Int) : Dq H (.int i) (.int i)
  | str (x : Str) : Dq H (.str x) (.str x)
  | tup {a : Addr} {xs : List V} {ds : List PyData} : H a = some (.tup xs) → Dqs H xs ds → Dq H (.ref a) (.tuple ds)
inductive Dqs (H : Hp) : List V → List PyData → Prop
  | nil : Dqs H [] []
  | cons {v : V} {vs : List V} {d : PyData} {ds : List PyData} : Dq H v d → Dqs H vs ds → Dqs H (v :: vs) (d :: ds)
end

/-- tuples and what is locked stand as they were -/
structure Gro (H H' : Hp) : Prop where
  tup : ∀ a xs, H a = some (.tup xs) → H' a = some (.tup xs)
  frz : ∀ a o u, H a = some (.frz o u) → H' a = some (.frz o u)
theorem Gro.refl (H : Hp) : Gro H H := ⟨fun _ _ h => h, fun _ _ _ h => h⟩
theorem Gro.trans {H H1 H2 : Hp} (a : Gro H H1) (b : Gro H1 H2) : Gro H H2 := ⟨fun p xs h => b.tup p xs (a.tup p xs h), fun p o u h => b.frz p o u (a.frz p o u h)⟩
theorem Gro.same {H H' : Hp} (s : Same H H') : Gro H H' := ⟨fun p _ h => s p _ h, fun p _ _ h => s p _ h⟩

mutual
theorem Dq.mono {H H' : Hp} (g : Gro H H') : ∀ {d : PyData} {v : V}, Dq H v d → Dq H' v d
  | .none, _, h => by cases h; exact .non
  | .bool b, _, h => by cases h; exact .bl b
  | .int i, _, h => by cases h; exact .int i
  | .str x, _, h => by cases h; exact .str x
  | .tuple ds, _, h => by
    cases h with
    | tup ha hs => exact .tup (g.tup _ _ ha) (Dqs.mono g hs)
  | .list _, _, h => by cases h
  | .dict _, _, h => by cases h
theorem Dqs.mono {H H' : Hp} (g : Gro H H') : ∀ {ds : List PyData} {vs : List V}, Dqs H vs ds → Dqs H' vs ds
  | [], _, h => by cases h; exact .nil
  | d :: ds, _, h => by
    cases h with
    | cons h1 h2 => exact .cons (Dq.mono g h1) (Dqs.mono g h2)
end
mutual
theorem Dq.dp {K : PySem.W.Frag} {H : Hp} : ∀ {d : PyData} {v : V}, Dq H v d → Dp K H v d
  | .none, _, h => by cases h; exact .non
  | .bool b, _, h => by cases h; exact .bl b
  | .int i, _, h => by cases h; exact .int i
  | .str x, _, h => by cases h; exact .str x
  | .tuple ds, _, h => by
    cases h with
    | tup ha hs => exact .tup (SqT.of ha) (Dqs.dp hs)
  | .list _, _, h => by cases h
  | .dict _, _, h => by cases h
theorem Dqs.dp {K : PySem.W.Frag} {H : Hp} : ∀ {ds : List PyData} {vs : List V}, Dqs H vs ds → DpAll K H vs ds
  | [], _, h => by cases h; exact .nil
  | d :: ds, _, h => by
    cases h with
    | cons h1 h2 => exact .cons (Dq.dp h1) (Dqs.dp h2)
end
theorem Dqs.length {H : Hp} : ∀ {ds : List PyData} {vs : List V}, Dqs H vs ds → vs.length = ds.length
  | [], _, h => by cases h; rfl
  | d :: ds, _, h => by
    cases h with
    | cons h1 h2 => rw [List.length_cons, List.length_cons, Dqs.length h2]
theorem Dqs.get {H : Hp} : ∀ {ds : List PyData} {vs : List V} {i : Nat} {v : V}, Dqs H vs ds → vs[i]? = some v → ∃ d, ds[i]? = some d ∧ Dq H v d
  | [], _, i, v, h, e => by
    cases h
    simp at e
  | d :: ds, _, 0, v, h, e => by
    cases h with
    | cons h1 h2 =>
      simp only [List.getElem?_cons_zero, Option.some.injEq] at e
      subst e
      exact ⟨d, rfl, h1⟩
  | d :: ds, _, i + 1, v, h, e => by
    cases h with
    | cons h1 h2 =>
      simp only [List.getElem?_cons_succ] at e
      obtain ⟨d', e1, e2⟩ := Dqs.get h2 e
      exact ⟨d', by simpa using e1, e2⟩
theorem Dqs.snoc {H : Hp} {d : PyData} {v : V} (hv : Dq H v d) : ∀ {ds : List PyData} {vs : List V}, Dqs H vs ds → Dqs H (vs ++ [v]) (ds ++ [d])
  | [], _, h => by
    cases h
    exact .cons hv .nil
  | d :: ds, _, h => by
    cases h with
    | cons h1 h2 => exact .cons h1 (Dqs.snoc hv h2)
/-- texts -/
theorem Dqs.strs {H : Hp} : ∀ (ss : List Str), Dqs H (ss.map V.str) (ss.map PyData.str)
  | [] => .nil
  | s :: ss => .cons (.str s) (Dqs.strs ss)
theorem Dqs.strs_of {H : Hp} : ∀ {ss : List Str} {vs : List V}, Dqs H vs (ss.map PyData.str) → vs = ss.map V.str
  | [], _, h => by cases h; rfl
  | s :: ss, _, h => by
    cases h with
    | cons h1 h2 =>
      cases h1
      rw [Dqs.strs_of h2] <;> rfl

/-! ### steps of the heap -/
/-- all but what stands at the places of F is as it was -/
def Fr (F : Addr → Prop) (H H' : Hp) : Prop := ∀ b o, H b = some o → ¬ F b → H' b = some o
theorem Fr.refl (F : Addr → Prop) (H : Hp) : Fr F H H := fun _ _ h _ => h
theorem Fr.trans {F : Addr → Prop} {H H1 H2 : Hp} (a : Fr F H H1) (b : Fr F H1 H2) : Fr F H H2 := fun p o h n => b p o (a p o h n) n
theorem Fr.same {F : Addr → Prop} {H H' : Hp} (s : Same H H') : Fr F H H' := fun b o h _ => s b o h
/-- the law's own state: a list of two ints -/
def Drw (H : Hp) (a : Addr) : Prop := ∃ x y : Int, H a = some (.lst [.int x, .int y])
/-- a step that changes the list at a alone, which stays such a list -/
structure Stp (a : Addr) (H H' : Hp) : Prop where
  fr : ∀ b o, H b = some o → b ≠ a → H' b = some o
  gro : Gro H H'
  drw : Drw H' a
theorem Stp.refl {a : Addr} {H : Hp} (h : Drw H a) : Stp a H H := ⟨fun _ _ h _ => h, Gro.refl H, h⟩
theorem Stp.trans {a : Addr} {H H1 H2 : Hp} (x : Stp a H H1) (y : Stp a H1 H2) : Stp a H H2 := ⟨fun b o h n => y.fr b o (x.fr b o h n) n, x.gro.trans y.gro, y.drw⟩
theorem Stp.same {a : Addr} {H H' : Hp} (h : Drw H a) (s : Same H H') : Stp a H H' := ⟨fun b o e _ => s b o e, Gro.same s, let ⟨x, y, e⟩ := h; ⟨x, y, s _ _ e⟩⟩
theorem Stp.snd {a : Addr} {H H1 H2 : Hp} (x : Stp a H H1) (s : Same H1 H2) : Stp a H H2 := x.trans (Stp.same x.drw s)
theorem Stp.free {a : Addr} {H H' : Hp} (x : Stp a H H') {p : Addr} (hp : H' p = none) (ha : ∃ o, H a = some o) : H p = none := by
  by_cases e : p = a
  · obtain ⟨u, v, q⟩ := x.drw
    rw [e, q] at hp
    cases hp
  · cases q : H p with
    | none => rfl
    | some o =>
      rw [x.fr p o q e] at hp
      cases hp
theorem Stp.new {a : Addr} {H H' : Hp} (x : Stp a H H') {p : Addr} {o : HO} (hp : H p = none) (hd : Drw H a) : Stp a H (upd H' p o) := by
  have pa : a ≠ p := by
    intro e
    obtain ⟨u, v, q⟩ := hd
    rw [e, hp] at q
    cases q
  refine ⟨fun b u h n => ?_, ⟨fun b xs h => ?_, fun b u z h => ?_⟩, ?_⟩
  · rw [upd_ne (ne_of_none h hp)]
    exact x.fr b u h n
  · rw [upd_ne (ne_of_none h hp)]
    exact x.gro.tup b xs h
  · rw [upd_ne (ne_of_none h hp)]
    exact x.gro.frz b u z h
  · obtain ⟨u, v, q⟩ := x.drw
    exact ⟨u, v, by rw [upd_ne pa]; exact q⟩
theorem same_new {H : Hp} {p : Addr} {o : HO} (h : H p = none) : Same H (upd H p o) := fun a u e => by
  rw [upd_ne (ne_of_none e h)]
  exact e
/-- the script -/
def Scr (K : PySem.W.Frag) (H : Hp) (a : Addr) : Prop := ∃ ns : List Int, ns.length ≤ 63 ∧ ((∃ o, H a = some (.frz o (.lst (ns.map V.int)))) ∨
  ∃ (o : Obj) (its : Array Value) (n : Nat), K.lookup a = some o ∧ o.cls = .type "list" ∧ o.dict = none ∧ o.data = .seq its n ∧ its.size ≤ sizeLine ∧ Vals (ns.map V.int) its.toList)
theorem Scr.mono {K : PySem.W.Frag} {H H' : Hp} {a : Addr} (g : Gro H H') (h : Scr K H a) : Scr K H' a := by
  obtain ⟨ns, l, h⟩ := h
  refine ⟨ns, l, ?_⟩
  rcases h with ⟨o, h⟩ | h
  · exact .inl ⟨o, g.frz _ _ _ h⟩
  · exact .inr h
theorem Scr.seq {K : PySem.W.Frag} {H : Hp} {a : Addr} (h : Scr K H a) : ∃ ns : List Int, ns.length ≤ 63 ∧ SqL K H a (ns.map V.int) := by
  obtain ⟨ns, l, h⟩ := h
  refine ⟨ns, l, ?_⟩
  rcases h with ⟨o, h⟩ | h
  · exact .inl (.inr ⟨o, h⟩)
  · exact .inr h
theorem Scr.of {K : PySem.W.Frag} {H : Hp} {a : Addr} {ns : List Int} (hl : ns.length ≤ 63) (O : Only H) (h : SqL K H a (ns.map V.int)) : Scr K H a := by
  refine ⟨ns, hl, ?_⟩
  rcases h with (h | ⟨o, h⟩) | h
  · rcases O a with e | ⟨o, xs, e⟩
    · rw [e] at h
      cases h
    · rw [e] at h
      cases h
  · exact .inl ⟨o, h⟩
  · exact .inr h
end Dk

/-! Rules that take any kind of value: a match on the values says what is asked. -/
namespace Dk
open PySem PySem.Spec PyProof.Rows L2
section
variable {X : Cx} {K : PySem.W.Frag}
theorem opw {f : Value → Value → Sem Value} {r r' : R2} (h : OpR X f r) (w : ∀ x y H Q, r' x y H Q → r x y H Q) : OpR X f r' :=
  fun pins s σ H x y v u Q I rx ry q => h pins s σ H x y v u Q I rx ry (w _ _ _ _ q)
theorem callw {f : Value} {r r' : List V → Hp → VK → Prop} (h : CallR X f r) (w : ∀ xs H Q, r' xs H Q → r xs H Q) : CallR X f r' :=
  fun pins s σ H xs us Q I r q => h pins s σ H xs us Q I r (w _ _ _ q)
theorem mtw {id : String} {r r' : V → List V → Hp → VK → Prop} (h : MtR X id r) (w : ∀ x xs H Q, r' x xs H Q → r x xs H Q) : MtR X id r' :=
  fun pins s σ H x xs v us Q I rx r q => h pins s σ H x xs v us Q I rx r (w _ _ _ _ q)
/-- a + b -/
def uAdd (K : PySem.W.Frag) : R2 := fun x y H Q => match x, y with
  | .int i, .int j => Q (.int (i + j)) H
  | .str a, .str b => a.length + b.length ≤ sizeLine ∧ Q (.str (a ++ b)) H
  | .ref a, .ref b => rCat (.ref a) (.ref b) H Q ∨ rCatA K (.ref a) (.ref b) H Q
  | _, _ => False
theorem op_addU (hK : X.K = K := by rfl) : OpR X (binaryOp .Add) (uAdd K) := by
  subst hK
  refine opw ((op_add).or (op_add_str.or (op_cat.or op_catA))) fun x y H Q h => ?_
  cases x <;> cases y <;> first
    | exact .inl ⟨_, _, rfl, rfl, h⟩
    | exact .inr (.inl ⟨_, _, rfl, rfl, h.1, h.2⟩)
    | exact .inr (.inr h)
    | exact False.elim h
def uI (C : Int → Int → Prop) (g : Int → Int → V) : R2 := fun x y H Q => match x, y with
  | .int i, .int j => C i j ∧ Q (g i j) H
  | _, _ => False
def uI0 (g : Int → Int → V) : R2 := fun x y H Q => match x, y with
  | .int i, .int j => Q (g i j) H
  | _, _ => False
theorem uI_w {C : Int → Int → Prop} {g : Int → Int → V} {f : Value → Value → Sem Value} (h : OpR X f (rI C g)) : OpR X f (uI C g) := by
  refine opw h fun x y H Q h => ?_
  cases x <;> cases y <;> first
    | exact ⟨_, _, rfl, rfl, h.1, h.2⟩
    | exact False.elim h
theorem uI0_w {g : Int → Int → V} {f : Value → Value → Sem Value} (h : OpR X f (rI0 g)) : OpR X f (uI0 g) := by
  refine opw h fun x y H Q h => ?_
  cases x <;> cases y <;> first
    | exact ⟨_, _, rfl, rfl, h⟩
    | exact False.elim h
abbrev uSub : R2 := uI0 fun i j => .int (i - j)
theorem op_subU : OpR X (binaryOp .Sub) uSub := uI0_w op_sub
/-- a * b: ints, one of them small; a list some times -/
def uMul : R2 := fun x y H Q => match x, y with
  | .int i, .int j => CMul i j ∧ Q (.int (i * j)) H
  | .ref a, .int j => rRep (.ref a) (.int j) H Q
  | _, _ => False
theorem op_mulU : OpR X (binaryOp .Mult) uMul := by
  refine opw (op_mul.or op_rep) fun x y H Q h => ?_
  cases x <;> cases y <;> first
    | exact .inl ⟨_, _, rfl, rfl, h.1, h.2⟩
    | exact .inr h
    | exact False.elim h
abbrev uMod : R2 := uI (fun _ j => 0 < j) fun i j => .int (i % j)
theorem op_modU : OpR X (binaryOp .Mod) uMod := uI_w op_mod
abbrev uDiv : R2 := uI CDiv fun i j => .int (i / j)
theorem op_divU : OpR X (binaryOp .FloorDiv) uDiv := uI_w op_fdiv
abbrev uPow : R2 := uI CPow fun i j => .int (i ^ j.toNat)
theorem op_powU : OpR X (binaryOp .Pow) uPow := uI_w op_pow
abbrev uShl : R2 := uI CPow fun i j => .int (i * 2 ^ j.toNat)
theorem op_shlU : OpR X (binaryOp .LShift) uShl := uI_w op_shl
abbrev uShr : R2 := uI (fun _ j => 0 ≤ j) fun i j => .int (i / 2 ^ j.toNat)
theorem op_shrU : OpR X (binaryOp .RShift) uShr := uI_w op_shr
abbrev uAnd : R2 := uI0 fun i j => .int (Builtin.bitAnd i j)
theorem op_andU : OpR X (binaryOp .BitAnd) uAnd := uI0_w op_and
abbrev uLt : R2 := uI0 fun i j => .bl (decide (i < j))
theorem op_ltU : OpR X (compareOp .Lt) uLt := uI0_w op_lt
abbrev uLe : R2 := uI0 fun i j => .bl (decide (i ≤ j))
theorem op_leU : OpR X (compareOp .LtE) uLe := uI0_w op_le
abbrev uGt : R2 := uI0 fun i j => .bl (decide (j < i))
theorem op_gtU : OpR X (compareOp .Gt) uGt := uI0_w op_gt
abbrev uGe : R2 := uI0 fun i j => .bl (decide (j ≤ i))
theorem op_geU : OpR X (compareOp .GtE) uGe := uI0_w op_ge
theorem dec_i {i j : Int} : decide (V.int i = V.int j) = decide (i = j) := by
  by_cases h : i = j
  · rw [h, decide_eq_true rfl, decide_eq_true rfl]
  · rw [decide_eq_false h, decide_eq_false fun e => h (V.int.inj e)]
theorem dec_s {i j : Str} : decide (V.str i = V.str j) = decide (i = j) := by
  by_cases h : i = j
  · rw [h, decide_eq_true rfl, decide_eq_true rfl]
  · rw [decide_eq_false h, decide_eq_false fun e => h (V.str.inj e)]
/-- a == b -/
def uEq (K : PySem.W.Frag) : R2 := fun x y H Q => match x, y with
  | .int i, .int j => Q (.bl (decide (i = j))) H
  | .str i, .str j => Q (.bl (decide (i = j))) H
  | x, y => rEq x y H Q ∨ rEqD K x y H Q
def uNe (K : PySem.W.Frag) : R2 := fun x y H Q => match x, y with
  | .int i, .int j => Q (.bl (!decide (i = j))) H
  | .str i, .str j => Q (.bl (!decide (i = j))) H
  | x, y => rNe x y H Q ∨ rNeD K x y H Q
theorem op_eqU {k : Nat} (hr : Room k X.A) (hK : X.K = K := by rfl) : OpR X (compareOp .Eq) (uEq K) := by
  subst hK
  refine opw (op_eq.or (op_eqD hr.units)) fun x y H Q h => ?_
  cases x <;> cases y <;> first
    | exact .inl ⟨rfl, by rw [dec_i]; exact h⟩
    | exact .inl ⟨rfl, by rw [dec_s]; exact h⟩
    | exact h
theorem op_neU {k : Nat} (hr : Room k X.A) (hK : X.K = K := by rfl) : OpR X (compareOp .NotEq) (uNe K) := by
  subst hK
  refine opw (op_ne.or (op_neD hr.units)) fun x y H Q h => ?_
  cases x <;> cases y <;> first
    | exact .inl ⟨rfl, by rw [dec_i]; exact h⟩
    | exact .inl ⟨rfl, by rw [dec_s]; exact h⟩
    | exact h
/-- a is None, a is True -/
def uIs : R2 := fun x y H Q => match y with
  | .non => Q (.bl (decide (x = .non))) H
  | .bl b => (match x with
    | .bl a => Q (.bl (decide (a = b))) H
    | _ => False)
  | _ => False
def uIsNot : R2 := fun x y H Q => match y with
  | .non => Q (.bl (!decide (x = .non))) H
  | .bl b => (match x with
    | .bl a => Q (.bl (!decide (a = b))) H
    | _ => False)
  | _ => False
theorem op_isU : OpR X (compareOp .Is) uIs := by
  refine opw (op_isN.or op_is_bl) fun x y H Q h => ?_
  cases y with
  | non => exact .inl ⟨rfl, h⟩
  | bl b => cases x <;> first
    | exact .inr ⟨_, _, rfl, rfl, h⟩
    | exact False.elim h
  | _ => exact False.elim h
theorem op_isNotU : OpR X (compareOp .IsNot) uIsNot := by
  refine opw (op_notN.or op_isnot_bl) fun x y H Q h => ?_
  cases y with
  | non => exact .inl ⟨rfl, h⟩
  | bl b => cases x <;> first
    | exact .inr ⟨_, _, rfl, rfl, h⟩
    | exact False.elim h
  | _ => exact False.elim h
/-- a in b -/
def occ (i j : Str) : Bool := !(Builtin.Str.occurrences j i 0 j.length 1).isEmpty
def uIn (K : PySem.W.Frag) : R2 := fun x y H Q => match y with
  | .str j => (match x with
    | .str i => Q (.bl (occ i j)) H
    | _ => False)
  | y => rIn K false x y H Q ∨ rInD K x y H Q
def uNotIn (K : PySem.W.Frag) : R2 := fun x y H Q => match y with
  | .str j => (match x with
    | .str i => Q (.bl (!occ i j)) H
    | _ => False)
  | y => rIn K true x y H Q ∨ rNotInD K x y H Q
theorem op_inU {k : Nat} (hr : Room (k + 1) X.A) (hK : X.K = K := by rfl) : OpR X (compareOp .In) (uIn K) := by
  subst hK
  refine opw (op_in_str.or (op_in_seq.or (op_inD (by have := hr.un; omega)))) fun x y H Q h => ?_
  cases y with
  | str j => cases x <;> first
    | exact .inl ⟨_, _, rfl, rfl, h⟩
    | exact False.elim h
  | _ => exact .inr h
theorem op_notInU {k : Nat} (hr : Room (k + 1) X.A) (hK : X.K = K := by rfl) : OpR X (compareOp .NotIn) (uNotIn K) := by
  subst hK
  refine opw (op_notin_str.or (op_notIn_seq.or (op_notInD (by have := hr.un; omega)))) fun x y H Q h => ?_
  cases y with
  | str j => cases x <;> first
    | exact .inl ⟨_, _, rfl, rfl, h⟩
    | exact False.elim h
  | _ => exact .inr h
end
end Dk

namespace Dk
open PySem PySem.Spec PyProof.Rows L2
/-! ### built-in names -/
theorem bt_len : bootBuiltins "len" = some (.builtin "len") := by decide +kernel
theorem bt_int : bootBuiltins "int" = some (.type "int") := by decide +kernel
theorem bt_str : bootBuiltins "str" = some (.type "str") := by decide +kernel
theorem bt_bool : bootBuiltins "bool" = some (.type "bool") := by decide +kernel
theorem bt_tuple : bootBuiltins "tuple" = some (.type "tuple") := by decide +kernel
theorem bt_list : bootBuiltins "list" = some (.type "list") := by decide +kernel
theorem bt_isinstance : bootBuiltins "isinstance" = some (.builtin "isinstance") := by decide +kernel
theorem bt_ord : bootBuiltins "ord" = some (.builtin "ord") := by decide +kernel
theorem bt_sorted : bootBuiltins "sorted" = some (.builtin "sorted") := by decide +kernel
theorem bt_min : bootBuiltins "min" = some (.builtin "min") := by decide +kernel
theorem bt_max : bootBuiltins "max" = some (.builtin "max") := by decide +kernel
theorem bt_sum : bootBuiltins "sum" = some (.builtin "sum") := by decide +kernel
theorem bt_all : bootBuiltins "all" = some (.builtin "all") := by decide +kernel
theorem bt_any : bootBuiltins "any" = some (.builtin "any") := by decide +kernel
section
variable {X : Cx} {K : PySem.W.Frag}
/-- len(x) -/
def uLen (K : PySem.W.Frag) : List V → Hp → VK → Prop := fun xs H Q => match xs with
  | [.str z] => z.length ≤ sizeLine ∧ Q (.int z.length) H
  | [x] => ∃ n, LenV K x H n ∧ Q (.int n) H
  | _ => False
theorem call_lenU (hK : X.K = K := by rfl) : CallR X (.builtin "len") (uLen K) := by
  subst hK
  refine callw call_len fun xs H Q h => ?_
  match xs, h with
  | [.str z], h => exact ⟨_, z.length, rfl, ⟨h.1, rfl⟩, h.2⟩
  | [.non], h => exact ⟨_, h.choose, rfl, h.choose_spec.1, h.choose_spec.2⟩
  | [.bl _], h => exact ⟨_, h.choose, rfl, h.choose_spec.1, h.choose_spec.2⟩
  | [.int _], h => exact ⟨_, h.choose, rfl, h.choose_spec.1, h.choose_spec.2⟩
  | [.byt _], h => exact ⟨_, h.choose, rfl, h.choose_spec.1, h.choose_spec.2⟩
  | [.flt _], h => exact ⟨_, h.choose, rfl, h.choose_spec.1, h.choose_spec.2⟩
  | [.ref _], h => exact ⟨_, h.choose, rfl, h.choose_spec.1, h.choose_spec.2⟩
  | [.ty _], h => exact ⟨_, h.choose, rfl, h.choose_spec.1, h.choose_spec.2⟩
/-- int(x) -/
def uInt : List V → Hp → VK → Prop := fun xs H Q => match xs with
  | [.int i] => Q (.int i) H
  | [.bl b] => Q (.int (if b then 1 else 0)) H
  | [.str a] => ∃ n, PySem.intText? a = some n ∧ a.length ≤ 640 ∧ Q (.int n) H
  | _ => False
theorem call_intU : CallR X (.type "int") uInt := by
  refine callw (call_int1.or call_int_str) fun xs H Q h => ?_
  match xs, h with
  | [.int i], h => exact .inl (.inl ⟨_, rfl, h⟩)
  | [.bl i], h => exact .inl (.inr ⟨_, rfl, h⟩)
  | [.str a], h => exact .inr ⟨_, _, rfl, h.choose_spec.1, h.choose_spec.2.1, h.choose_spec.2.2⟩
/-- tuple(x) -/
def uTuple (K : PySem.W.Frag) : List V → Hp → VK → Prop := fun xs H Q => match xs with
  | [.ref p] => ∃ ys, (SqL K H p ys ∧ ∀ l, H l = none → Q (.ref l) (upd H l (.tup ys))) ∨ (SqT K H p ys ∧ Q (.ref p) H)
  | _ => False
theorem call_tupleU (hK : X.K = K := by rfl) : CallR X (.type "tuple") (uTuple K) := by
  subst hK
  refine callw call_tuple_of fun xs H Q h => ?_
  match xs, h with
  | [.ref p], h => exact ⟨p, h.choose, rfl, h.choose_spec⟩
/-- list(x) -/
def uList (K : PySem.W.Frag) : List V → Hp → VK → Prop := fun xs H Q => match xs with
  | [.ref p] => ∃ ys, (SqL K H p ys ∨ SqT K H p ys) ∧ ∀ l, H l = none → Q (.ref l) (upd H l (.lst ys))
  | _ => False
theorem call_listU (hK : X.K = K := by rfl) : CallR X (.type "list") (uList K) := by
  subst hK
  refine callw call_list_of fun xs H Q h => ?_
  match xs, h with
  | [.ref p], h => exact ⟨p, h.choose, rfl, h.choose_spec⟩
/-- isinstance(x, a built-in class) -/
def tyO : Option HO → Option String
  | some (.lst _) => some "list"
  | some (.tup _) => some "tuple"
  | some (.dK _) => some "dict"
  | some (.dT _) => some "dict"
  | _ => none
def tyN (H : Hp) : V → Option String
  | .non => some "NoneType"
  | .bl _ => some "bool"
  | .int _ => some "int"
  | .str _ => some "str"
  | .ref a => tyO (H a)
  | _ => none
theorem tyN_ok {K : PySem.W.Frag} {H : Hp} {x : V} {n : String} (h : tyN H x = some n) : TyX K H x (.type n) := by
  cases x with
  | non => cases h; exact .base .non
  | bl b => cases h; exact .base (.bl b)
  | int b => cases h; exact .base (.int b)
  | str b => cases h; exact .base (.str b)
  | ref a =>
    have h : tyO (H a) = some n := h
    cases e : H a with
    | none =>
      rw [e] at h
      cases h
    | some o =>
      rw [e] at h
      cases o with
      | lst xs => cases h; exact .base (.lst e)
      | tup xs => cases h; exact .base (.tup e)
      | dK xs => cases h; exact .base (.dK e)
      | dT xs => cases h; exact .base (.dT e)
      | _ => cases h
  | _ => cases h
def uIsi (K : PySem.W.Frag) : List V → Hp → VK → Prop := fun xs H Q => match xs with
  | [x, .ty m] => ∃ n b, tyN H x = some n ∧ kitB n m = some b ∧ Q (.bl b) H
  | _ => False
theorem call_isiU (hK : X.K = K := by rfl) : CallR X (.builtin "isinstance") (uIsi K) := by
  subst hK
  refine callw call_isi fun xs H Q h => ?_
  match xs, h with
  | [x, .ty m], h =>
    obtain ⟨n, b, h1, h2, h3⟩ := h
    exact ⟨x, .ty m, .type n, .type m, b, rfl, .ty m, tyN_ok h1, kit_ty h2, h3⟩
/-- x[i] -/
def uIx (K : PySem.W.Frag) : R2 := fun x y H Q => match x, y with
  | .ref p, .int i => ∃ xs v, (SqL K H p xs ∨ SqT K H p xs) ∧ atI xs i = some v ∧ Q v H
  | .str z, .int i => ∃ c, z.length ≤ sizeLine ∧ atI z.cps.toList i = some c ∧ Q (.str ⟨#[c]⟩) H
  | _, _ => False
theorem ix_U (hK : X.K = K := by rfl) : IxR X (uIx K) := by
  subst hK
  intro va sl pins s σ H x y v u Q I rx ry h hs
  refine ix_seq va sl pins s σ H x y v u Q I rx ry ?_ hs
  match x, y, h with
  | .ref p, .int i, h =>
    obtain ⟨xs, w, h1, h2, h3⟩ := h
    rcases h1 with h1 | h1
    · exact .inl ⟨p, xs, i, w, rfl, rfl, h1, h2, h3⟩
    · exact .inr (.inl ⟨p, xs, i, w, rfl, rfl, h1, h2, h3⟩)
  | .str z, .int i, h =>
    obtain ⟨c, h1, h2, h3⟩ := h
    exact .inr (.inr ⟨z, i, c, rfl, rfl, h1, h2, h3⟩)
/-- x[lo:hi] -/
def uSl (K : PySem.W.Frag) : V → Option Int → Option Int → Hp → VK → Prop := fun x lo hi H Q => match x with
  | .str z => z.length ≤ sizeLine ∧ Q (.str (cutS z lo hi)) H
  | x => rSlL K x lo hi H Q ∨ rSlA K x lo hi H Q
theorem sl_U (hK : X.K = K := by rfl) : SlR X (uSl K) := by
  subst hK
  intro pins s σ H x v vl vu lo hi sl Q I rx hs pl pu h
  refine (sl_str.or (sl_list.or sl_tupA)) pins s σ H x v vl vu lo hi sl Q I rx hs pl pu ?_
  cases x with
  | str z => exact .inl ⟨z, rfl, h.1, h.2⟩
  | _ => exact .inr h
/-- methods of texts with one text -/
def uS1 (f : Str → Str → V) : V → List V → Hp → VK → Prop := fun x xs H Q => match x, xs with
  | .str a, [.str b] => Q (f a b) H
  | _, _ => False
theorem mt_startsU : MtR X "str.startswith" (uS1 fun a b => .bl (Txt.startswith a b)) := by
  refine mtw mt_startswith fun x xs H Q h => ?_
  match x, xs, h with
  | .str a, [.str b], h => exact ⟨a, b, rfl, rfl, h⟩
theorem mt_endsU : MtR X "str.endswith" (uS1 fun a b => .bl (Txt.endswith a b)) := by
  refine mtw mt_endswith fun x xs H Q h => ?_
  match x, xs, h with
  | .str a, [.str b], h => exact ⟨a, b, rfl, rfl, h⟩
theorem mt_findU : MtR X "str.find" (uS1 fun a b => .int (Txt.find a b)) := by
  refine mtw mt_find fun x xs H Q h => ?_
  match x, xs, h with
  | .str a, [.str b], h => exact ⟨a, b, rfl, rfl, h⟩
def uS1l (f : Str → Str → V) : V → List V → Hp → VK → Prop := fun x xs H Q => match x, xs with
  | .str a, [.str b] => a.length ≤ sizeLine ∧ Q (f a b) H
  | _, _ => False
theorem mt_rstripU : MtR X "str.rstrip" (uS1l fun a b => .str (Txt.rstripChars a b)) := by
  refine mtw mt_rstripChars fun x xs H Q h => ?_
  match x, xs, h with
  | .str a, [.str b], h => exact ⟨a, b, rfl, rfl, h.1, h.2⟩
def uSplit : V → List V → Hp → VK → Prop := fun x xs H Q => match x, xs with
  | .str a, [.str b] => (b.length == 0) = false ∧ a.length + 2 ≤ sizeLine ∧ rNewStrs (Txt.split a b) H Q
  | _, _ => False
theorem mt_splitU : MtR X "str.split" uSplit := by
  refine mtw mt_split fun x xs H Q h => ?_
  match x, xs, h with
  | .str a, [.str b], h => exact ⟨a, b, rfl, rfl, h.1, h.2.1, h.2.2⟩
def uJoin (K : PySem.W.Frag) : V → List V → Hp → VK → Prop := fun x xs H Q => match x, xs with
  | .str a, [.ref p] => ∃ ys : List Str, (SqL K H p (ys.map V.str) ∨ SqT K H p (ys.map V.str)) ∧ (ys.map (·.length)).sum + ys.length * a.length ≤ 16777216 ∧ Q (.str (Txt.join a ys)) H
  | _, _ => False
theorem mt_joinU (hK : X.K = K := by rfl) : MtR X "str.join" (uJoin K) := by
  subst hK
  refine mtw mt_join fun x xs H Q h => ?_
  match x, xs, h with
  | .str a, [.ref p], h => exact ⟨a, p, h.choose, rfl, rfl, h.choose_spec.1, h.choose_spec.2.1, h.choose_spec.2.2⟩
def uS0 (f : Str → V) : V → List V → Hp → VK → Prop := fun x xs H Q => match x, xs with
  | .str a, [] => a.length ≤ 5592405 ∧ Q (f a) H
  | _, _ => False
theorem mt_lowerU : MtR X "str.lower" (uS0 fun a => .str (Txt.lower a)) := by
  refine mtw mt_lower fun x xs H Q h => ?_
  match x, xs, h with
  | .str a, [], h => exact ⟨a, rfl, rfl, h.1, h.2⟩
theorem mt_upperU : MtR X "str.upper" (uS0 fun a => .str (Txt.upper a)) := by
  refine mtw mt_upper fun x xs H Q h => ?_
  match x, xs, h with
  | .str a, [], h => exact ⟨a, rfl, rfl, h.1, h.2⟩
/-- str(x) -/
def uStr : List V → Hp → VK → Prop := fun xs H Q => match xs with
  | [.int i] => i.natAbs.log2 < 1920 ∧ Q (.str (toString i)) H
  | [.str a] => Q (.str a) H
  | _ => False
/-! ### defs by their names -/
structure Wd where
  P : Program
  w : World
  K : PySem.W.Frag
  mg : Str → Option Value
  base : Heap
/-- the def that the module's name x holds keeps the promise sp -/
def Can (e : Wd) (k : Nat) (x : Str) (ps : List Str) (sp : Sp) : Prop :=
  ∃ f fd, FnOk e.P e.w e.K e.mg e.base (L2.CX e.P e.w) k f fd ps sp ∧ e.mg x = some (.ref f) ∧ PySem.W.keepIn e.K (.ref f) = true ∧ Binds e.K fd ps []
theorem Can.imp {e : Wd} {k j : Nat} {x : Str} {ps : List Str} {sp sp' : Sp} (c : Can e k x ps sp) (h : ∀ vs H Q E, sp' vs H Q E → sp vs H Q E) (hk : k ≤ j := by decide) : Can e j x ps sp' := by
  obtain ⟨f, fd, F, m, kp, b⟩ := c
  exact ⟨f, fd, (F.imp h).mono hk, m, kp, b⟩
abbrev wdOf (X : Cx) : Wd := ⟨X.prog, X.w, X.K, X.mg, X.base⟩
theorem pe_can {k : Nat} {x : Str} {ps : List Str} {sp : Sp} {E : XK} {p pos : Pos} {e : Expr} {es : List Expr} {t : TA} (c : Can (wdOf X) k x ps sp) (hr : Room k X.A) (hx : Passes (L2.CX X.prog X.w) X E) (ha : PA X (e :: es) t) (hg : Gl X x := by rfl)
    (hdb : (x == ("__debug__" : Str)) = false := by decide) (he : starEach (e :: es) X.env = (false, eval e X.env) :: starEach es X.env := by rfl) (hpl : (backTo pos (starEach es X.env)).any (·.1) = false := by rfl) : PE X (.Call (.Name x p) (e :: es) [] pos) (tCall sp [] E t) := by
  obtain ⟨f, fd, F, m, kp, b⟩ := c
  exact pe_call F hr hg m kp b .nil hx ha hdb he hpl
theorem pe_can0 {k : Nat} {x : Str} {ps : List Str} {sp : Sp} {E : XK} {p pos : Pos} (c : Can (wdOf X) k x ps sp) (hr : Room k X.A) (hx : Passes (L2.CX X.prog X.w) X E) (hg : Gl X x := by rfl)
    (hdb : (x == ("__debug__" : Str)) = false := by decide) : PE X (.Call (.Name x p) [] [] pos) (tCall sp [] E tNil) := by
  obtain ⟨f, fd, F, m, kp, b⟩ := c
  exact pe_call0 F hr hg m kp b .nil hx hdb
def DefAt (e : Wd) (x : Str) (st : Stmt) : Prop := ∃ f fd, FunD e.K x x (defArgs st) (defBody st) (defScope st) [] [] f fd ∧ e.mg x = some (.ref f)
/-- how its arguments bind -/
abbrev BindOk (x : Str) (st : Stmt) (ps : List Str) : Prop := ∀ (kV doc pm : Value) (an : Option Addr) (cdv ct : Value) (us : List Value), us.length = ps.length → bindArgs (PySem.W.fnOf x x (defArgs st) (defBody st) (defScope st) .none kV doc pm an cdv ct) ⟨us, []⟩ = pure (ps.zip us)
/-- a def that lets no error out -/
theorem fnok_of {e : Wd} {x : Str} {st : Stmt} {N ps : List Str} {k : Nat} {sp : Sp} {f : Addr} {fd : FuncData} (F : FunD e.K x x (defArgs st) (defBody st) (defScope st) [] [] f fd) (S : FnScope N ps (defScope st)) (len : ∀ vs H Q E, sp vs H Q E → vs.length = ps.length)
    (hbody : ∀ (cdv : Value) (f : Addr) (A : Around) (outer : List Env) (s : Shared) (H : Hp) (vs : List V) (Q : VK) (E : XK), Room k (A.deeper (envOfC x (defScope st) s.heap.objs.size f cdv)) → sp vs H Q E →
      ∃ t, PSs (cxOf (L2.CX e.P e.w) e.P e.w e.K e.mg e.base N x (defScope st) f cdv A outer s H E).nox (defBody st) t ∧ t { nx := fun _ H' => Q .non H', rt := Q } (start N vs) H) : FnOk e.P e.w e.K e.mg e.base (L2.CX e.P e.w) (k + 1) f fd ps sp :=
  F.ok S len fun cdv A outer s H vs Q E hr h => by
    obtain ⟨t, h1, h2⟩ := hbody cdv f A outer s H vs Q E hr h
    exact ⟨t, h1.nox, h2⟩
theorem can_of {e : Wd} {x : Str} {st : Stmt} {N ps : List Str} {k : Nat} {sp : Sp} (D : DefAt e x st) (S : FnScope N ps (defScope st)) (B : BindOk x st ps) (len : ∀ vs H Q E, sp vs H Q E → vs.length = ps.length)
    (hbody : ∀ (cdv : Value) (f : Addr) (A : Around) (outer : List Env) (s : Shared) (H : Hp) (vs : List V) (Q : VK) (E : XK), Room k (A.deeper (envOfC x (defScope st) s.heap.objs.size f cdv)) → sp vs H Q E →
      ∃ t, PSs (cxOf (L2.CX e.P e.w) e.P e.w e.K e.mg e.base N x (defScope st) f cdv A outer s H E).nox (defBody st) t ∧ t { nx := fun _ H' => Q .non H', rt := Q } (start N vs) H) : Can e (k + 1) x ps sp := by
  obtain ⟨f, fd, F, m⟩ := D
  exact ⟨f, fd, fnok_of F S len hbody, m, F.kp, F.bindsN B⟩
/-- a text, an int of the module's -/
theorem pe_gs {x z : Str} {pos : Pos} (h : ∃ t, X.mg x = some (.str z t)) (hg : Gl X x := by rfl) (hd : (x == ("__debug__" : Str)) = false := by decide) : PE X (.Name x pos) (tC (.str z)) := by
  obtain ⟨t, h⟩ := h
  exact pe_glob hg h ⟨t, rfl⟩ hd
theorem pe_gi {x : Str} {i : Int} {pos : Pos} (h : ∃ t, X.mg x = some (.int i t)) (hg : Gl X x := by rfl) (hd : (x == ("__debug__" : Str)) = false := by decide) : PE X (.Name x pos) (tC (.int i)) := by
  obtain ⟨t, h⟩ := h
  exact pe_glob hg h ⟨t, rfl⟩ hd
end
end Dk

/-! What a reading asks, word by word; a walk over readings. -/
namespace Dk
open PySem PySem.Spec PyProof.Rows L2
section
variable {X : Cx} {K : PySem.W.Frag} {σ : L2.St} {H : Hp} {Q : VK} {QB : Bool → Hp → Prop} {D : Ends} {ta tb tc te : TE} {t u c : TT} {r r' : R2} {i : Nat} {x y v : V} {tA tA' : TA} {tS uS : TS}
/-! ### rules that are lacking in the modules: a value's truth; what a for walks, of any kind -/
def tTru (K : PySem.W.Frag) (te : TE) : TT := fun σ H Q => te σ H fun x H' => ∃ k, TruV K x H' k ∧ Q k H'
theorem pt_tru {a : Expr} (ha : PE X a te) (hK : X.K = K := by rfl) (he : ∀ whole, isTrue a X.env whole = (do let v ← whole; standAt a.pos; holding [v] (truthy v)) := by intro _; rfl) : PT X a (tTru K te) := by
  subst hK
  exact pt_truth ha he
theorem pior {tg e : Expr} {w1 w2 : TI} (h1 : PI X tg e w1) (h2 : PI X tg e w2) : PI X tg e (fun σ H R => w1 σ H R ∨ w2 σ H R) :=
  ⟨fun pins s σ H R I h => h.elim (h1.run pins s σ H R I) (h2.run pins s σ H R I)⟩
theorem peor {e : Expr} {w1 w2 : TE} (h1 : PE X e w1) (h2 : PE X e w2) : PE X e (fun σ H R => w1 σ H R ∨ w2 σ H R) :=
  ⟨fun pins s σ H R I h => h.elim (h1.run pins s σ H R I) (h2.run pins s σ H R I)⟩
/-- a list, a tuple, a text -/
def iU (K : PySem.W.Frag) (te : TE) : TI := fun σ H R => te σ H fun x H1 => match x with
  | .ref a => ((∃ xs, SqL K H1 a xs) ∧ R (Itl K a) H1) ∨ ((∃ xs, SqT K H1 a xs) ∧ R (Itt K a) H1)
  | .str z => R (Its z) H1
  | _ => False
theorem pi_U {tg l : Expr} (hl : PE X l te) (hK : X.K = K := by rfl) : PI X tg l (iU K te) := by
  subst hK
  refine ⟨fun pins s σ H R I h => ?_⟩
  refine thn (hl.run pins s σ H _ I h) fun v s1 ⟨x, H1, I1, r1, q1⟩ => ?_
  cases x with
  | ref a =>
    cases r1
    rcases q1 with ⟨⟨xs, hq⟩, q⟩ | ⟨⟨xs, hq⟩, q⟩
    · obtain ⟨its, rv, p, hz⟩ := I1.list hq
      refine wpAny_pyIter_list p.isList ?_
      refine ⟨s1.heap.objs.size, [s1.heap.objs.size], _, _, H1, rfl, I1.kept (t' := s1.toks) fun b o e => Heap.get?_push_of_some _ e, turn_list a _, ⟨_, Heap.get?_push_size _ rfl, rfl, rfl⟩, fun b hb => ?_, q⟩
      have e : b = s1.heap.objs.size := by simpa using hb
      subst e
      exact I1.fpOk (Nat.le_refl _) (I1.hok.fresh (Nat.le_refl _))
    · obtain ⟨its, rv, p, hz⟩ := I1.tuple hq
      refine wpAny_pyIter_tuple (show s1.heap.IsTuple a its.toArray from p) ?_
      refine ⟨s1.heap.objs.size, [s1.heap.objs.size], _, _, H1, rfl, I1.kept (t' := s1.toks) fun b o e => Heap.get?_push_of_some _ e, turn_tuple a _, ⟨_, Heap.get?_push_size _ rfl, rfl, rfl⟩, fun b hb => ?_, q⟩
      have e : b = s1.heap.objs.size := by simpa using hb
      subst e
      exact I1.fpOk (Nat.le_refl _) (I1.hok.fresh (Nat.le_refl _))
  | str z =>
    obtain ⟨t, rfl⟩ := r1
    cases ha : z.cps.all (· < 128)
    · exact wpAny_pyIter_wide ha (pi_one (tk := s1.toks) I1 _ (turn_str _ z t "str_iterator" (.inr rfl)) ⟨_, Heap.get?_push_size _ rfl, rfl, rfl⟩ q1)
    · exact wpAny_pyIter_ascii ha (pi_one (tk := s1.toks) I1 _ (turn_str _ z t "str_ascii_iterator" (.inl rfl)) ⟨_, Heap.get?_push_size _ rfl, rfl, rfl⟩ q1)
  | _ => exact False.elim q1
theorem pe_notU {a : Expr} {pos : Pos} (ha : PE X a ta) (hK : X.K = K := by rfl) : PE X (.UnaryOp .Not a pos) (tNotT K ta) := by
  subst hK
  exact pe_notT ha
theorem pe_andU {a b : Expr} {rest : List Expr} {pos : Pos} (ha : PE X a ta) (hb : PE X (.BoolOp .And (b :: rest) pos) tb) (hK : X.K = K := by rfl) : PE X (.BoolOp .And (a :: b :: rest) pos) (tAndT K ta tb) := by
  subst hK
  exact pe_andT ha hb
theorem pe_orU {a b : Expr} {rest : List Expr} {pos : Pos} (ha : PE X a ta) (hb : PE X (.BoolOp .Or (b :: rest) pos) tb) (hK : X.K = K := by rfl) : PE X (.BoolOp .Or (a :: b :: rest) pos) (tOrT K ta tb) := by
  subst hK
  exact pe_orT ha hb
theorem pg_tupU {es : List Expr} {k : Nat} {t : TGs} {n : Nat} {pos : Pos} (hc : X.calm = true) (h : PGs X es t) (hK : X.K = K := by rfl)
    (hn : (assignEach es X.env).length = n := by rfl) (hst : (assignEach es X.env).findIdx? (·.1) = none := by rfl) : PG X (.Tuple es k pos) (gTup K n t) := by
  subst hK
  exact pg_tup hc h hn hst
theorem pe_bmU {T id : String} {name : Str} {r : V → List V → Hp → VK → Prop} {o e : Expr} {es : List Expr} {apos cpos : Pos} (pa : PlainAttrs T) (slot : Slot T name id) (hty : typeOf (.builtin id) = pure (.type "method_descriptor")) (hm : MtR X id r) (ho : PE X o te) (ha : PA X (e :: es) tA)
    (hK : X.K = K := by rfl) (hbase : attributeBase o name X.env (eval o X.env) = eval o X.env := by rfl)
    (hfew : ((backTo cpos (starEach (e :: es) X.env)).all (fun x => !x.1) && (backToKw cpos (keywordEach [] X.env)).all (fun x => x.1.isSome)
      && decide ((e :: es).length + ([] : List Keyword).length + (if ([] : List Keyword).isEmpty then 0 else 1) < 30)) = true := by rfl)
    (hline : (apos.endLine == cpos.line) = true := by rfl) (hs : starEach (e :: es) X.env = (false, eval e X.env) :: starEach es X.env := by rfl) (hplain : (backTo cpos (starEach es X.env)).any (·.1) = false := by rfl) :
    PE X (.Call (.Attribute o name apos) (e :: es) [] cpos) (tBM K T r te tA) := by
  subst hK
  exact pe_bm pa slot hty hm ho ha hbase hfew hline hs hplain
theorem pe_bm0U {T id : String} {name : Str} {r : V → List V → Hp → VK → Prop} {o : Expr} {apos cpos : Pos} (pa : PlainAttrs T) (slot : Slot T name id) (hty : typeOf (.builtin id) = pure (.type "method_descriptor")) (hm : MtR X id r) (ho : PE X o te)
    (hK : X.K = K := by rfl) (hbase : attributeBase o name X.env (eval o X.env) = eval o X.env := by rfl) (hline : (apos.endLine == cpos.line) = true := by rfl) : PE X (.Call (.Attribute o name apos) [] [] cpos) (tBM0 K T r te) := by
  subst hK
  exact pe_bm0 pa slot hty hm ho hbase hline
/-! ### readings: expressions -/
/-- a truth value is wanted, an int is wanted -/
def bq (x : V) (H : Hp) (QB : Bool → Hp → Prop) : Prop := ∃ k, x = .bl k ∧ QB k H
def trq (K : PySem.W.Frag) (x : V) (H : Hp) (QB : Bool → Hp → Prop) : Prop := ∃ k, TruV K x H k ∧ QB k H
def newq (n : Nat) (o : HO) (H : Hp) (Q : VK) : Prop := n ≤ sizeLine ∧ ∀ p, H p = none → Q (.ref p) (upd H p o)
def parq (a b : Nat) (vs : List V) (σ : L2.St) (D : Ends) (H : Hp) : Prop := ∃ v w, vs = [v, w] ∧ D.nx ((σ.set a (some v)).set b (some w)) H
def iq (x : V) (P : Int → Prop) : Prop := ∃ n, x = .int n ∧ P n
theorem r_var (h : σ[i]? = some (some v)) (q : Q v H) : tVar i σ H Q := ⟨v, h, q⟩
theorem r_c (q : Q v H) : tC v σ H Q := q
theorem r_op (q : ta σ H fun x H1 => tb σ H1 fun y H2 => r x y H2 Q) : tOp r ta tb σ H Q := q
theorem r_un {f : V → Hp → VK → Prop} (q : ta σ H fun x H1 => f x H1 Q) : tUn f ta σ H Q := q
theorem r_neg {g : Int → V} {n : Int} (q : Q (g n) H) : rU g (.int n) H Q := ⟨n, rfl, q⟩
theorem r_test (q : te σ H fun x H1 => bq x H1 QB) : tTest te σ H QB := q
theorem r_tB (q : te σ H fun x H1 => bq x H1 QB) : tB te σ H QB := q
theorem r_bl {b : Bool} {H : Hp} (q : QB b H) : bq (.bl b) H QB := ⟨b, rfl, q⟩
theorem r_tru (q : te σ H fun x H1 => trq K x H1 QB) : tTru K te σ H QB := q
theorem r_trub {b : Bool} (q : QB b H) : trq K (.bl b) H QB := ⟨b, rfl, q⟩
theorem r_trui {n : Int} (q : QB (n != 0) H) : trq K (.int n) H QB := ⟨_, rfl, q⟩
theorem r_trun (q : QB false H) : trq K .non H QB := ⟨_, rfl, q⟩
theorem r_trus {z : Str} (hz : z.length ≤ sizeLine) (q : QB ((z.length : Int) != 0) H) : trq K (.str z) H QB := ⟨_, ⟨hz, rfl⟩, q⟩
theorem r_trul {p : Addr} {xs : List V} (h : SqL K H p xs) (q : QB (!xs.isEmpty) H) : trq K (.ref p) H QB := ⟨_, .inl ⟨xs, h, rfl⟩, q⟩
theorem r_trut {p : Addr} {xs : List V} (h : SqT K H p xs) (q : QB (!xs.isEmpty) H) : trq K (.ref p) H QB := ⟨_, .inr (.inl ⟨xs, h, rfl⟩), q⟩
theorem r_and (q : t σ H fun b H1 => if b = true then u σ H1 QB else QB false H1) : tAnd t u σ H QB := q
theorem r_or (q : t σ H fun b H1 => if b = true then QB true H1 else u σ H1 QB) : tOr t u σ H QB := q
theorem r_not (q : t σ H fun b H1 => QB (!b) H1) : tNot t σ H QB := q
theorem r_andT (q : ta σ H fun x H1 => trq K x H1 fun k H2 => if k = true then tb σ H2 Q else Q x H2) : tAndT K ta tb σ H Q := q
theorem r_orT (q : ta σ H fun x H1 => trq K x H1 fun k H2 => if k = true then Q x H2 else tb σ H2 Q) : tOrT K ta tb σ H Q := q
theorem r_notT (q : ta σ H fun x H1 => trq K x H1 fun k H2 => Q (.bl (!k)) H2) : tNotT K ta σ H Q := q
theorem r_ifx (q : t σ H fun b H1 => if b = true then ta σ H1 Q else tb σ H1 Q) : tIf t ta tb σ H Q := q
theorem r_chain (q : ta σ H fun x H1 => tb σ H1 fun y H2 => r x y H2 fun z H3 => bq z H3 fun k H4 => if k = true then tc σ H4 (fun w H5 => r' y w H5 Q) else Q (.bl false) H4) : tChain r r' ta tb tc σ H Q := q
theorem r_nil {QA : List V → Hp → Prop} (q : QA [] H) : tNil σ H QA := q
theorem r_cons {QA : List V → Hp → Prop} (q : ta σ H fun x H1 => tA σ H1 fun xs H2 => QA (x :: xs) H2) : tCons ta tA σ H QA := q
theorem r_tup (q : tA σ H fun xs H1 => newq xs.length (.tup xs) H1 Q) : tTup tA σ H Q := q
theorem r_lst (q : tA σ H fun xs H1 => newq xs.length (.lst xs) H1 Q) : tLst tA σ H Q := q
/-- a new object: the heap behind it by what is known of it -/
theorem r_new {o : HO} {n : Nat} (hn : n ≤ sizeLine) (k : ∀ p H', H p = none → Same H H' → H' p = some o → Q (.ref p) H') : newq n o H Q :=
  ⟨hn, fun p np => k p _ np (same_new np) upd_same⟩
theorem r_new0 {o : HO} (k : ∀ p H', H p = none → Same H H' → H' p = some o → Q (.ref p) H') : ∀ p, H p = none → Q (.ref p) (upd H p o) :=
  fun p np => k p _ np (same_new np) upd_same
theorem r_cb {f : List V → Hp → VK → Prop} (q : tA σ H fun vs H1 => f vs H1 Q) : tCB f tA σ H Q := q
theorem r_call {sp : Sp} {E : XK} (q : tA σ H fun vs H1 => sp vs H1 Q E) : tCall sp [] E tA σ H Q := by
  show tA σ H fun vs H1 => sp (vs ++ []) H1 Q E
  have e : (fun vs H1 => sp (vs ++ []) H1 Q E) = fun (vs : List V) H1 => sp vs H1 Q E := by
    funext vs H1
    rw [List.append_nil]
  rw [e]
  exact q
theorem r_bm {T : String} {f : V → List V → Hp → VK → Prop} (q : ta σ H fun x H1 => tyV K T x H1 ∧ tA σ H1 fun xs H2 => f x xs H2 Q) : tBM K T f ta tA σ H Q := q
theorem r_bm0 {T : String} {f : V → List V → Hp → VK → Prop} (q : ta σ H fun x H1 => tyV K T x H1 ∧ f x [] H1 Q) : tBM0 K T f ta σ H Q := q
theorem r_tys {z : Str} {P : Prop} (q : P) : tyV K "str" (.str z) H ∧ P := ⟨rfl, q⟩
theorem r_tyl {p : Addr} {xs : List V} {P : Prop} (h : H p = some (.lst xs)) (q : P) : tyV K "list" (.ref p) H ∧ P := ⟨.inl ⟨rfl, xs, SqL.of h⟩, q⟩
theorem r_sl {f : V → Option Int → Option Int → Hp → VK → Prop} {tl th : TO} (q : te σ H fun x H1 => tl σ H1 fun l H2 => th σ H2 fun h H3 => f x l h H3 Q) : tSl f te tl th σ H Q := q
theorem r_part {QO : Option Int → Hp → Prop} (q : te σ H fun x H1 => iq x fun n => QO (some n) H1) : tPart te σ H QO := q
theorem r_nopart {QO : Option Int → Hp → Prop} (q : QO none H) : tNoPart σ H QO := q
/-! values -/
theorem r_addI {n m : Int} (q : Q (.int (n + m)) H) : uAdd K (.int n) (.int m) H Q := q
theorem r_addS {a b : Str} (h : a.length + b.length ≤ sizeLine) (q : Q (.str (a ++ b)) H) : uAdd K (.str a) (.str b) H Q := ⟨h, q⟩
theorem r_addT {a b : Addr} {xs ys : List V} (ha : H a = some (.tup xs)) (hb : H b = some (.tup ys)) (hl : xs.length + ys.length ≤ sizeLine) (k : ∀ p H', Same H H' → H' p = some (.tup (xs ++ ys)) → Q (.ref p) H') : uAdd K (.ref a) (.ref b) H Q := by
  refine .inr ⟨a, b, xs, ys, rfl, rfl, SqT.of ha, SqT.of hb, hl, fun e => ?_, fun _ e => ?_, fun _ _ p np => k p _ (same_new np) upd_same⟩
  · exact k b H (Same.refl H) (by rw [e, List.nil_append]; exact hb)
  · exact k a H (Same.refl H) (by rw [e, List.append_nil]; exact ha)
theorem r_addL {a b : Addr} {xs ys : List V} (ha : H a = some (.lst xs)) (hb : H b = some (.lst ys)) (hl : xs.length + ys.length ≤ sizeLine) (k : ∀ p H', H p = none → Same H H' → H' p = some (.lst (xs ++ ys)) → Q (.ref p) H') : uAdd K (.ref a) (.ref b) H Q :=
  .inl ⟨a, b, xs, ys, rfl, rfl, ha, hb, hl, fun p np => k p _ np (same_new np) upd_same⟩
theorem r_I {C : Int → Int → Prop} {g : Int → Int → V} {n m : Int} (h : C n m) (q : Q (g n m) H) : uI C g (.int n) (.int m) H Q := ⟨h, q⟩
theorem r_I0 {g : Int → Int → V} {n m : Int} (q : Q (g n m) H) : uI0 g (.int n) (.int m) H Q := q
theorem r_mulI {n m : Int} (h : CMul n m) (q : Q (.int (n * m)) H) : uMul (.int n) (.int m) H Q := ⟨h, q⟩
theorem r_mulL {a : Addr} {n : Int} {xs : List V} (ha : H a = some (.lst xs)) (h0 : -(2 ^ 63) ≤ n) (h1 : n < 2 ^ 63) (hl : xs.length * n.toNat ≤ sizeLine) (k : ∀ p H', H p = none → Same H H' → H' p = some (.lst (List.replicate n.toNat xs).flatten) → Q (.ref p) H') : uMul (.ref a) (.int n) H Q :=
  ⟨a, n, xs, rfl, rfl, ha, h0, h1, hl, fun p np => k p _ np (same_new np) upd_same⟩
theorem r_eqI {n m : Int} (q : Q (.bl (decide (n = m))) H) : uEq K (.int n) (.int m) H Q := q
theorem r_eqS {n m : Str} (q : Q (.bl (decide (n = m))) H) : uEq K (.str n) (.str m) H Q := q
theorem r_neI {n m : Int} (q : Q (.bl (!decide (n = m))) H) : uNe K (.int n) (.int m) H Q := q
theorem r_neS {n m : Str} (q : Q (.bl (!decide (n = m))) H) : uNe K (.str n) (.str m) H Q := q
theorem r_eqB {n m : Bool} (q : Q (.bl (decide (V.bl n = V.bl m))) H) : uEq K (.bl n) (.bl m) H Q := .inl ⟨rfl, q⟩
theorem r_eqD {a : Addr} {y : V} {d f : PyData} (hx : Dq H (.ref a) d) (hy : Dq H y f) (sd : SeqAt.shaped d = true) (sf : SeqAt.shaped f = true) (q : Q (.bl (PyData.eqv d f)) H) : uEq K (.ref a) y H Q := by
  have z : rEqD K (.ref a) y H Q := ⟨d, f, hx.dp, hy.dp, sd, sf, q⟩
  cases y <;> exact .inr z
theorem r_eqD2 {a : Addr} {x : V} {d f : PyData} (hx : Dq H x d) (hy : Dq H (.ref a) f) (sd : SeqAt.shaped d = true) (sf : SeqAt.shaped f = true) (q : Q (.bl (PyData.eqv d f)) H) : uEq K x (.ref a) H Q := by
  have z : rEqD K x (.ref a) H Q := ⟨d, f, hx.dp, hy.dp, sd, sf, q⟩
  cases x <;> exact .inr z
theorem r_neD {a : Addr} {y : V} {d f : PyData} (hx : Dq H (.ref a) d) (hy : Dq H y f) (sd : SeqAt.shaped d = true) (sf : SeqAt.shaped f = true) (q : Q (.bl (!PyData.eqv d f)) H) : uNe K (.ref a) y H Q := by
  have z : rNeD K (.ref a) y H Q := ⟨d, f, hx.dp, hy.dp, sd, sf, q⟩
  cases y <;> exact .inr z
theorem r_neD2 {a : Addr} {x : V} {d f : PyData} (hx : Dq H x d) (hy : Dq H (.ref a) f) (sd : SeqAt.shaped d = true) (sf : SeqAt.shaped f = true) (q : Q (.bl (!PyData.eqv d f)) H) : uNe K x (.ref a) H Q := by
  have z : rNeD K x (.ref a) H Q := ⟨d, f, hx.dp, hy.dp, sd, sf, q⟩
  cases x <;> exact .inr z
theorem r_isN (q : Q (.bl (decide (x = .non))) H) : uIs x .non H Q := q
theorem r_isB {a b : Bool} (q : Q (.bl (decide (a = b))) H) : uIs (.bl a) (.bl b) H Q := q
theorem r_isnotN (q : Q (.bl (!decide (x = .non))) H) : uIsNot x .non H Q := q
theorem r_isnotB {a b : Bool} (q : Q (.bl (!decide (a = b))) H) : uIsNot (.bl a) (.bl b) H Q := q
theorem r_inS {a b : Str} (q : Q (.bl (occ a b)) H) : uIn K (.str a) (.str b) H Q := q
theorem r_notinS {a b : Str} (q : Q (.bl (!occ a b)) H) : uNotIn K (.str a) (.str b) H Q := q
theorem r_inT {p : Addr} {xs : List V} (h : H p = some (.tup xs)) (hx : flatV x = true) (ha : xs.all flatV = true) (q : Q (.bl (inV x xs)) H) : uIn K x (.ref p) H Q := .inl ⟨p, xs, rfl, .inr (SqT.of h), hx, ha, q⟩
theorem r_inL {p : Addr} {xs : List V} (h : H p = some (.lst xs)) (hx : flatV x = true) (ha : xs.all flatV = true) (q : Q (.bl (inV x xs)) H) : uIn K x (.ref p) H Q := .inl ⟨p, xs, rfl, .inl (SqL.of h), hx, ha, q⟩
theorem r_notinT {p : Addr} {xs : List V} (h : H p = some (.tup xs)) (hx : flatV x = true) (ha : xs.all flatV = true) (q : Q (.bl (!inV x xs)) H) : uNotIn K x (.ref p) H Q := .inl ⟨p, xs, rfl, .inr (SqT.of h), hx, ha, q⟩
theorem r_lenS {z : Str} (h : z.length ≤ sizeLine) (q : Q (.int z.length) H) : uLen K [.str z] H Q := ⟨h, q⟩
theorem r_lenT {p : Addr} {xs : List V} (h : H p = some (.tup xs)) (q : Q (.int xs.length) H) : uLen K [.ref p] H Q := ⟨xs.length, .inr ⟨xs, SqT.of h, rfl⟩, q⟩
theorem r_lenL {p : Addr} {xs : List V} (h : SqL K H p xs) (q : Q (.int xs.length) H) : uLen K [.ref p] H Q := ⟨xs.length, .inl ⟨xs, h, rfl⟩, q⟩
theorem r_intI {n : Int} (q : Q (.int n) H) : uInt [.int n] H Q := q
theorem r_intB {b : Bool} (q : Q (.int (if b then 1 else 0)) H) : uInt [.bl b] H Q := q
theorem r_tupleL {p : Addr} {xs : List V} (h : H p = some (.lst xs)) (k : ∀ p H', H p = none → Same H H' → H' p = some (.tup xs) → Q (.ref p) H') : uTuple K [.ref p] H Q := ⟨xs, .inl ⟨SqL.of h, r_new0 k⟩⟩
theorem r_tupleT {p : Addr} {xs : List V} (h : H p = some (.tup xs)) (q : Q (.ref p) H) : uTuple K [.ref p] H Q := ⟨xs, .inr ⟨SqT.of h, q⟩⟩
theorem r_listT {p : Addr} {xs : List V} (h : H p = some (.tup xs)) (k : ∀ p H', H p = none → Same H H' → H' p = some (.lst xs) → Q (.ref p) H') : uList K [.ref p] H Q := ⟨xs, .inr (SqT.of h), r_new0 k⟩
theorem r_listL {p : Addr} {xs : List V} (h : H p = some (.lst xs)) (k : ∀ p H', H p = none → Same H H' → H' p = some (.lst xs) → Q (.ref p) H') : uList K [.ref p] H Q := ⟨xs, .inl (SqL.of h), r_new0 k⟩
theorem r_isi {n m : String} {b : Bool} (h : tyN H x = some n) (hk : kitB n m = some b) (q : Q (.bl b) H) : uIsi K [x, .ty m] H Q := ⟨n, b, h, hk, q⟩
theorem tyN_t {p : Addr} {xs : List V} (h : H p = some (.tup xs)) : tyN H (.ref p) = some "tuple" := by
  show tyO (H p) = some "tuple"
  rw [h] <;> rfl
theorem tyN_l {p : Addr} {xs : List V} (h : H p = some (.lst xs)) : tyN H (.ref p) = some "list" := by
  show tyO (H p) = some "list"
  rw [h] <;> rfl
theorem r_ixT {p : Addr} {xs : List V} {n : Int} (h : H p = some (.tup xs)) (ha : atI xs n = some v) (q : Q v H) : uIx K (.ref p) (.int n) H Q := ⟨xs, v, .inr (SqT.of h), ha, q⟩
theorem r_ixL {p : Addr} {xs : List V} {n : Int} (h : SqL K H p xs) (ha : atI xs n = some v) (q : Q v H) : uIx K (.ref p) (.int n) H Q := ⟨xs, v, .inl h, ha, q⟩
theorem r_slS {z : Str} {lo hi : Option Int} (h : z.length ≤ sizeLine) (q : Q (.str (cutS z lo hi)) H) : uSl K (.str z) lo hi H Q := ⟨h, q⟩
theorem r_slL {p : Addr} {xs : List V} {lo hi : Option Int} (h : H p = some (.lst xs)) (k : ∀ p H', H p = none → Same H H' → H' p = some (.lst (cutV xs lo hi)) → Q (.ref p) H') : uSl K (.ref p) lo hi H Q := .inl ⟨p, xs, rfl, SqL.of h, r_new0 k⟩
theorem r_S1 {f : Str → Str → V} {a b : Str} (q : Q (f a b) H) : uS1 f (.str a) [.str b] H Q := q
theorem r_S1l {f : Str → Str → V} {a b : Str} (h : a.length ≤ sizeLine) (q : Q (f a b) H) : uS1l f (.str a) [.str b] H Q := ⟨h, q⟩
theorem r_S0 {f : Str → V} {a : Str} (h : a.length ≤ 5592405) (q : Q (f a) H) : uS0 f (.str a) [] H Q := ⟨h, q⟩
theorem r_split {a b : Str} (hb : (b.length == 0) = false) (ha : a.length + 2 ≤ sizeLine) (k : ∀ p H', H p = none → Same H H' → H' p = some (.lst ((Txt.split a b).map V.str)) → Q (.ref p) H') : uSplit (.str a) [.str b] H Q := ⟨hb, ha, r_new0 k⟩
theorem r_join {a : Str} {p : Addr} {ys : List Str} (h : H p = some (.lst (ys.map V.str))) (hl : (ys.map (·.length)).sum + ys.length * a.length ≤ 16777216) (q : Q (.str (Txt.join a ys)) H) : uJoin K (.str a) [.ref p] H Q := ⟨ys, .inl (SqL.of h), hl, q⟩
theorem r_joinT {a : Str} {p : Addr} {ys : List Str} (h : H p = some (.tup (ys.map V.str))) (hl : (ys.map (·.length)).sum + ys.length * a.length ≤ 16777216) (q : Q (.str (Txt.join a ys)) H) : uJoin K (.str a) [.ref p] H Q := ⟨ys, .inr (SqT.of h), hl, q⟩
/-! ### statements -/
theorem r_seq (q : tS (Ends.mk (uS D) D.rt D.bk D.ct) σ H) : tSeq tS uS D σ H := q
theorem r_set (q : te σ H fun x H1 => D.nx (σ.set i (some x)) H1) : tAsg te (gName i) D σ H := q
theorem r_asg {g : TG} (q : te σ H fun x H1 => g x σ H1 D.nx) : tAsg te g D σ H := q
theorem r_gname {QG : L2.St → Hp → Prop} (q : QG (σ.set i (some v)) H) : gName i v σ H QG := q
theorem r_gsub {ts : TSet} {QG : L2.St → Hp → Prop} (q : ta σ H fun o H1 => tb σ H1 fun j H2 => ts o j v H2 fun H3 => QG σ H3) : gSub ta tb ts v σ H QG := q
theorem r_gtup {ts : TGs} {n : Nat} {QG : L2.St → Hp → Prop} {p : Addr} {xs : List V} (h : H p = some (.tup xs)) (hl : xs.length = n) (q : ts xs σ H QG) : gTup K n ts (.ref p) σ H QG := ⟨p, xs, rfl, SqT.of h, hl, q⟩
theorem r_gcons {g : TG} {ts : TGs} {xs : List V} {QG : L2.St → Hp → Prop} (q : g x σ H fun σ' H' => ts xs σ' H' QG) : gCons g ts (x :: xs) σ H QG := ⟨x, xs, rfl, q⟩
theorem r_gnil {QG : L2.St → Hp → Prop} (q : QG σ H) : gNil [] σ H QG := ⟨rfl, q⟩
/-- xs[j] = v, the place known -/
theorem r_setL {a : Addr} {n : Int} {xs : List V} {j : Nat} {Qh : Hp → Prop} (h : H a = some (.lst xs)) (hj : ixN xs.length n = some j) (k : ∀ H', H' a = some (.lst (xs.set j v)) → (∀ b, b ≠ a → H' b = H b) → Qh H') : rSetL (.ref a) (.int n) v H Qh :=
  ⟨a, xs, n, j, rfl, rfl, h, hj, k _ upd_same fun b hb => upd_ne hb⟩
theorem r_par {a b : Nat} (q : tA σ H fun vs H1 => parq a b vs σ D H1) : tPar a b tA D σ H := q
theorem r_par2 {a b : Nat} {v w : V} (q : D.nx ((σ.set a (some v)).set b (some w)) H) : parq a b [v, w] σ D H := ⟨v, w, rfl, q⟩
theorem r_drop (q : te σ H fun _ H1 => D.nx σ H1) : tDrop te D σ H := q
theorem r_ret (q : te σ H D.rt) : tRet te D σ H := q
theorem r_retN (q : D.rt .non H) : tRetN D σ H := q
theorem r_if (q : t σ H fun b H1 => if b = true then tS D σ H1 else uS D σ H1) : tIfS t tS uS D σ H := q
theorem r_next (q : D.nx σ H) : tNext D σ H := q
theorem r_break (q : D.bk σ H) : tBreak D σ H := q
theorem r_cont (q : D.ct σ H) : tCont D σ H := q
theorem r_augI {f : Int → Int → Int} {n : Int} (h : σ[i]? = some (some (.int n))) (q : te σ H fun y H1 => iq y fun m => D.nx (σ.set i (some (.int (f n m)))) H1) : tAug i te (ipI f) D σ H := by
  refine ⟨_, h, ?_⟩
  have e : (fun y H1 => iq y fun m => D.nx (σ.set i (some (.int (f n m)))) H1) = fun y H1 => (ipI f) (.int n) y H1 fun z H2 => D.nx (σ.set i (some z)) H2 := by
    funext y H1
    refine propext ⟨fun ⟨m, e, q⟩ => ⟨n, m, rfl, e, q⟩, fun ⟨a, b, e1, e2, q⟩ => ⟨b, e2, ?_⟩⟩
    cases e1
    exact q
  rw [← e]
  exact q
theorem r_ex1 {P : Int → Prop} {n : Int} (q : P n) : iq (.int n) P := ⟨n, rfl, q⟩
/-- xs.append(v) -/
theorem r_app {l : Addr} {xs : List V} (h : H l = some (.lst xs)) (hl : xs.length < sizeLine) (k : ∀ H', H' l = some (.lst (xs ++ [v])) → (∀ b, b ≠ l → H' b = H b) → Q .non H') : rAppend (.ref l) [v] H Q :=
  ⟨l, xs, v, rfl, rfl, h, hl, k _ upd_same fun b hb => upd_ne hb⟩
/-! ### ways -/
theorem r_ite {p A B : Prop} [Decidable p] (h1 : p → A) (h2 : ¬ p → B) : if decide p = true then A else B := by
  by_cases h : p
  · rw [if_pos (decide_eq_true h)]
    exact h1 h
  · rw [if_neg (by rw [decide_eq_false h]; exact Bool.false_ne_true)]
    exact h2 h
theorem r_iten {p A B : Prop} [Decidable p] (h1 : ¬ p → A) (h2 : p → B) : if (!decide p) = true then A else B := by
  by_cases h : p
  · rw [if_neg (by rw [decide_eq_true h]; exact Bool.false_ne_true)]
    exact h2 h
  · rw [if_pos (by rw [decide_eq_false h] <;> rfl)]
    exact h1 h
theorem r_itb {b : Bool} {A B : Prop} (h1 : b = true → A) (h2 : b = false → B) : if b = true then A else B := by
  cases b with
  | true => exact h1 rfl
  | false => exact h2 rfl
theorem r_iteT {A B : Prop} (h : A) : if true = true then A else B := h
theorem r_iteF {A B : Prop} (h : B) : if false = true then A else B := by
  rw [if_neg Bool.false_ne_true]
  exact h
theorem r_itnT {A B : Prop} (h : B) : if (!true) = true then A else B := by
  rw [if_neg (by decide)]
  exact h
theorem r_itnF {A B : Prop} (h : A) : if (!false) = true then A else B := h
end
end Dk

namespace Dk
open PySem PySem.Spec PyProof.Rows L2
theorem Drw.mono {H H' : Hp} {a : Addr} (s : Same H H') (h : Drw H a) : Drw H' a := let ⟨x, y, e⟩ := h; ⟨x, y, s _ _ e⟩
theorem same_at {H H' : Hp} {a : Addr} {o : HO} (s : Same H H') (h : H a = some o) : H' a = some o := s a o h
theorem Stp.at_ {a b : Addr} {H H' : Hp} {o : HO} (s : Stp a H H') (h : H b = some o) (n : b ≠ a) : H' b = some o := s.fr b o h n
/-- what the top leaves of built-in names: none is hidden -/
structure Bl (mg : Str → Option Value) : Prop where
  b_len : mg "len" = none
  b_int : mg "int" = none
  b_str : mg "str" = none
  b_bool : mg "bool" = none
  b_tuple : mg "tuple" = none
  b_list : mg "list" = none
  b_isinstance : mg "isinstance" = none
  b_range : mg "range" = none
  b_ord : mg "ord" = none
  b_sorted : mg "sorted" = none
  b_min : mg "min" = none
  b_max : mg "max" = none
  b_sum : mg "sum" = none
  b_all : mg "all" = none
  b_any : mg "any" = none
  b_enumerate : mg "enumerate" = none
  b_set : mg "set" = none
  b_zip : mg "zip" = none
  b_dict : mg "dict" = none
  b_reversed : mg "reversed" = none
theorem r_cut {tS uS : TS} {D : Ends} {σ : L2.St} {H : Hp} (M : L2.St → Hp → Prop) (h1 : tS (Ends.mk M D.rt D.bk D.ct) σ H) (h2 : ∀ σ' H', M σ' H' → uS D σ' H') : Evl.tCut tS uS D σ H := ⟨M, h1, h2⟩
theorem atI_nn {α : Type} {xs : List α} {j : Nat} {x : α} (h : xs[j]? = some x) : atI xs (j : Int) = some x := by
  have hl := (List.getElem?_eq_some_iff.mp h).1
  unfold atI ixN
  rw [if_pos (by omega), if_pos (by omega)]
  simpa using h
theorem atI_mod {ns : List Int} (h : 0 < ns.length) (n : Int) : ∃ v, atI (ns.map V.int) (n % (ns.length : Int)) = some (.int v) := by
  have h1 : 0 ≤ n % (ns.length : Int) := Int.emod_nonneg _ (by omega)
  have h2 : n % (ns.length : Int) < ns.length := Int.emod_lt_of_pos _ (by omega)
  obtain ⟨j, hj⟩ : ∃ j : Nat, n % (ns.length : Int) = j := ⟨(n % (ns.length : Int)).toNat, by omega⟩
  rw [hj]
  have hl : j < ns.length := by omega
  exact ⟨ns[j], atI_nn (by rw [List.getElem?_map, List.getElem?_eq_getElem hl] <;> rfl)⟩
/-- a list is changed that is the law's own state -/
theorem Stp.but {a : Addr} {H H1 H2 : Hp} (s : Stp a H H1) {x y : Int} (h : H2 a = some (.lst [.int x, .int y])) (k : ∀ b, b ≠ a → H2 b = H1 b) : Stp a H H2 := by
  obtain ⟨u, v, e⟩ := s.drw
  have na : ∀ b o, H1 b = some o → (∀ xs, o ≠ .lst xs) → b ≠ a := fun b o q n z => by
    rw [z, e] at q
    exact n _ (Option.some.inj q).symm
  exact ⟨fun b o q n => by rw [k b n]; exact s.fr b o q n,
    ⟨fun b xs q => by rw [k b (na _ _ (s.gro.tup b xs q) fun _ z => by cases z)]; exact s.gro.tup b xs q, fun b o u q => by rw [k b (na _ _ (s.gro.frz b o u q) fun _ z => by cases z)]; exact s.gro.frz b o u q⟩, ⟨x, y, h⟩⟩
theorem from_ {H H' : Hp} {a : Addr} {o : HO} (h : H a = some o) (s : H a = some o → H' a = some o) : H' a = some o := s h
/-- a promise that no error is asked of: nothing leaves the def -/
theorem fnok_0 {P : Program} {w : World} {K : PySem.W.Frag} {mg : Str → Option Value} {base : Heap} {k : Nat} {f : Addr} {fd : FuncData} {ps : List Str} {sp : Sp} (F : FnOk P w K mg base (L2.CX P w) k f fd ps sp) (hE : ∀ vs H Q E, sp vs H Q E → sp vs H Q E0) :
    FnOk P w K mg base CX0 k f fd ps sp :=
  ⟨F.len, fun A outer s H args us vs Q E hr e0 hb r h => codeAny_mono (F.run A outer s H args us vs Q E0 hr e0 hb r (hE _ _ _ _ h)) fun r s' hq => by
    cases r with
    | error e =>
      obtain ⟨_, _, _, _, _, _, _, _, _, _, _, _, z⟩ := hq
      exact z.elim
    | ok fl => cases fl <;> exact hq⟩
/-! short texts -/
abbrev trS : Str := Str.ofString "Received: by "
abbrev atS : Str := Str.ofString "@"
abbrev eS : Str := Str.ofString ""
abbrev dotS : Str := Str.ofString "."
theorem trS_len : (Str.ofString "Received: by ").length = 13 := by decide +kernel
theorem atS_len : (Str.ofString "@").length = 1 := by decide +kernel
theorem eS_len : (Str.ofString "").length = 0 := by decide +kernel
theorem dotS_len : (Str.ofString ".").length = 1 := by decide +kernel
/-! isinstance of built-in values -/
theorem kit_NoneType_int : kitB "NoneType" "int" = some false := by decide +kernel
theorem kit_NoneType_bool : kitB "NoneType" "bool" = some false := by decide +kernel
theorem kit_NoneType_tuple : kitB "NoneType" "tuple" = some false := by decide +kernel
theorem kit_NoneType_str : kitB "NoneType" "str" = some false := by decide +kernel
theorem kit_NoneType_list : kitB "NoneType" "list" = some false := by decide +kernel
theorem kit_bool_int : kitB "bool" "int" = some true := by decide +kernel
theorem kit_bool_bool : kitB "bool" "bool" = some true := by decide +kernel
theorem kit_bool_tuple : kitB "bool" "tuple" = some false := by decide +kernel
theorem kit_bool_str : kitB "bool" "str" = some false := by decide +kernel
theorem kit_bool_list : kitB "bool" "list" = some false := by decide +kernel
theorem kit_int_int : kitB "int" "int" = some true := by decide +kernel
theorem kit_int_bool : kitB "int" "bool" = some false := by decide +kernel
theorem kit_int_tuple : kitB "int" "tuple" = some false := by decide +kernel
theorem kit_int_str : kitB "int" "str" = some false := by decide +kernel
theorem kit_int_list : kitB "int" "list" = some false := by decide +kernel
theorem kit_str_int : kitB "str" "int" = some false := by decide +kernel
theorem kit_str_bool : kitB "str" "bool" = some false := by decide +kernel
theorem kit_str_tuple : kitB "str" "tuple" = some false := by decide +kernel
theorem kit_str_str : kitB "str" "str" = some true := by decide +kernel
theorem kit_str_list : kitB "str" "list" = some false := by decide +kernel
theorem kit_list_int : kitB "list" "int" = some false := by decide +kernel
theorem kit_list_bool : kitB "list" "bool" = some false := by decide +kernel
theorem kit_list_tuple : kitB "list" "tuple" = some false := by decide +kernel
theorem kit_list_str : kitB "list" "str" = some false := by decide +kernel
theorem kit_list_list : kitB "list" "list" = some true := by decide +kernel
theorem kit_tuple_int : kitB "tuple" "int" = some false := by decide +kernel
theorem kit_tuple_bool : kitB "tuple" "bool" = some false := by decide +kernel
theorem kit_tuple_tuple : kitB "tuple" "tuple" = some true := by decide +kernel
theorem kit_tuple_str : kitB "tuple" "str" = some false := by decide +kernel
theorem kit_tuple_list : kitB "tuple" "list" = some false := by decide +kernel
/-! promises by the number of the arguments -/
def sp1 (f : V → Hp → VK → XK → Prop) : Sp := fun vs H Q E => match vs with
  | [v0] => f v0 H Q E
  | _ => False
theorem sp1_ex {f : V → Hp → VK → XK → Prop} {vs : List V} {H : Hp} {Q : VK} {E : XK} (h : sp1 f vs H Q E) : ∃ v0, vs = [v0] ∧ f v0 H Q E := by
  match vs, h with
  | [v0], h => exact ⟨_, rfl, h⟩
theorem sp1_len {f : V → Hp → VK → XK → Prop} {vs : List V} {H : Hp} {Q : VK} {E : XK} (h : sp1 f vs H Q E) : vs.length = 1 := by
  match vs, h with
  | [v0], h => rfl
def sp2 (f : V → V → Hp → VK → XK → Prop) : Sp := fun vs H Q E => match vs with
  | [v0, v1] => f v0 v1 H Q E
  | _ => False
theorem sp2_ex {f : V → V → Hp → VK → XK → Prop} {vs : List V} {H : Hp} {Q : VK} {E : XK} (h : sp2 f vs H Q E) : ∃ v0 v1, vs = [v0, v1] ∧ f v0 v1 H Q E := by
  match vs, h with
  | [v0, v1], h => exact ⟨_, _, rfl, h⟩
theorem sp2_len {f : V → V → Hp → VK → XK → Prop} {vs : List V} {H : Hp} {Q : VK} {E : XK} (h : sp2 f vs H Q E) : vs.length = 2 := by
  match vs, h with
  | [v0, v1], h => rfl
def sp3 (f : V → V → V → Hp → VK → XK → Prop) : Sp := fun vs H Q E => match vs with
  | [v0, v1, v2] => f v0 v1 v2 H Q E
  | _ => False
theorem sp3_ex {f : V → V → V → Hp → VK → XK → Prop} {vs : List V} {H : Hp} {Q : VK} {E : XK} (h : sp3 f vs H Q E) : ∃ v0 v1 v2, vs = [v0, v1, v2] ∧ f v0 v1 v2 H Q E := by
  match vs, h with
  | [v0, v1, v2], h => exact ⟨_, _, _, rfl, h⟩
theorem sp3_len {f : V → V → V → Hp → VK → XK → Prop} {vs : List V} {H : Hp} {Q : VK} {E : XK} (h : sp3 f vs H Q E) : vs.length = 3 := by
  match vs, h with
  | [v0, v1, v2], h => rfl
def sp4 (f : V → V → V → V → Hp → VK → XK → Prop) : Sp := fun vs H Q E => match vs with
  | [v0, v1, v2, v3] => f v0 v1 v2 v3 H Q E
  | _ => False
theorem sp4_ex {f : V → V → V → V → Hp → VK → XK → Prop} {vs : List V} {H : Hp} {Q : VK} {E : XK} (h : sp4 f vs H Q E) : ∃ v0 v1 v2 v3, vs = [v0, v1, v2, v3] ∧ f v0 v1 v2 v3 H Q E := by
  match vs, h with
  | [v0, v1, v2, v3], h => exact ⟨_, _, _, _, rfl, h⟩
theorem sp4_len {f : V → V → V → V → Hp → VK → XK → Prop} {vs : List V} {H : Hp} {Q : VK} {E : XK} (h : sp4 f vs H Q E) : vs.length = 4 := by
  match vs, h with
  | [v0, v1, v2, v3], h => rfl
def sp5 (f : V → V → V → V → V → Hp → VK → XK → Prop) : Sp := fun vs H Q E => match vs with
  | [v0, v1, v2, v3, v4] => f v0 v1 v2 v3 v4 H Q E
  | _ => False
theorem sp5_ex {f : V → V → V → V → V → Hp → VK → XK → Prop} {vs : List V} {H : Hp} {Q : VK} {E : XK} (h : sp5 f vs H Q E) : ∃ v0 v1 v2 v3 v4, vs = [v0, v1, v2, v3, v4] ∧ f v0 v1 v2 v3 v4 H Q E := by
  match vs, h with
  | [v0, v1, v2, v3, v4], h => exact ⟨_, _, _, _, _, rfl, h⟩
theorem sp5_len {f : V → V → V → V → V → Hp → VK → XK → Prop} {vs : List V} {H : Hp} {Q : VK} {E : XK} (h : sp5 f vs H Q E) : vs.length = 5 := by
  match vs, h with
  | [v0, v1, v2, v3, v4], h => rfl
def sp6 (f : V → V → V → V → V → V → Hp → VK → XK → Prop) : Sp := fun vs H Q E => match vs with
  | [v0, v1, v2, v3, v4, v5] => f v0 v1 v2 v3 v4 v5 H Q E
  | _ => False
theorem sp6_ex {f : V → V → V → V → V → V → Hp → VK → XK → Prop} {vs : List V} {H : Hp} {Q : VK} {E : XK} (h : sp6 f vs H Q E) : ∃ v0 v1 v2 v3 v4 v5, vs = [v0, v1, v2, v3, v4, v5] ∧ f v0 v1 v2 v3 v4 v5 H Q E := by
  match vs, h with
  | [v0, v1, v2, v3, v4, v5], h => exact ⟨_, _, _, _, _, _, rfl, h⟩
theorem sp6_len {f : V → V → V → V → V → V → Hp → VK → XK → Prop} {vs : List V} {H : Hp} {Q : VK} {E : XK} (h : sp6 f vs H Q E) : vs.length = 6 := by
  match vs, h with
  | [v0, v1, v2, v3, v4, v5], h => rfl
def sp7 (f : V → V → V → V → V → V → V → Hp → VK → XK → Prop) : Sp := fun vs H Q E => match vs with
  | [v0, v1, v2, v3, v4, v5, v6] => f v0 v1 v2 v3 v4 v5 v6 H Q E
  | _ => False
theorem sp7_ex {f : V → V → V → V → V → V → V → Hp → VK → XK → Prop} {vs : List V} {H : Hp} {Q : VK} {E : XK} (h : sp7 f vs H Q E) : ∃ v0 v1 v2 v3 v4 v5 v6, vs = [v0, v1, v2, v3, v4, v5, v6] ∧ f v0 v1 v2 v3 v4 v5 v6 H Q E := by
  match vs, h with
  | [v0, v1, v2, v3, v4, v5, v6], h => exact ⟨_, _, _, _, _, _, _, rfl, h⟩
theorem sp7_len {f : V → V → V → V → V → V → V → Hp → VK → XK → Prop} {vs : List V} {H : Hp} {Q : VK} {E : XK} (h : sp7 f vs H Q E) : vs.length = 7 := by
  match vs, h with
  | [v0, v1, v2, v3, v4, v5, v6], h => rfl
def sp8 (f : V → V → V → V → V → V → V → V → Hp → VK → XK → Prop) : Sp := fun vs H Q E => match vs with
  | [v0, v1, v2, v3, v4, v5, v6, v7] => f v0 v1 v2 v3 v4 v5 v6 v7 H Q E
  | _ => False
theorem sp8_ex {f : V → V → V → V → V → V → V → V → Hp → VK → XK → Prop} {vs : List V} {H : Hp} {Q : VK} {E : XK} (h : sp8 f vs H Q E) : ∃ v0 v1 v2 v3 v4 v5 v6 v7, vs = [v0, v1, v2, v3, v4, v5, v6, v7] ∧ f v0 v1 v2 v3 v4 v5 v6 v7 H Q E := by
  match vs, h with
  | [v0, v1, v2, v3, v4, v5, v6, v7], h => exact ⟨_, _, _, _, _, _, _, _, rfl, h⟩
theorem sp8_len {f : V → V → V → V → V → V → V → V → Hp → VK → XK → Prop} {vs : List V} {H : Hp} {Q : VK} {E : XK} (h : sp8 f vs H Q E) : vs.length = 8 := by
  match vs, h with
  | [v0, v1, v2, v3, v4, v5, v6, v7], h => rfl
def sp9 (f : V → V → V → V → V → V → V → V → V → Hp → VK → XK → Prop) : Sp := fun vs H Q E => match vs with
  | [v0, v1, v2, v3, v4, v5, v6, v7, v8] => f v0 v1 v2 v3 v4 v5 v6 v7 v8 H Q E
  | _ => False
theorem sp9_ex {f : V → V → V → V → V → V → V → V → V → Hp → VK → XK → Prop} {vs : List V} {H : Hp} {Q : VK} {E : XK} (h : sp9 f vs H Q E) : ∃ v0 v1 v2 v3 v4 v5 v6 v7 v8, vs = [v0, v1, v2, v3, v4, v5, v6, v7, v8] ∧ f v0 v1 v2 v3 v4 v5 v6 v7 v8 H Q E := by
  match vs, h with
  | [v0, v1, v2, v3, v4, v5, v6, v7, v8], h => exact ⟨_, _, _, _, _, _, _, _, _, rfl, h⟩
theorem sp9_len {f : V → V → V → V → V → V → V → V → V → Hp → VK → XK → Prop} {vs : List V} {H : Hp} {Q : VK} {E : XK} (h : sp9 f vs H Q E) : vs.length = 9 := by
  match vs, h with
  | [v0, v1, v2, v3, v4, v5, v6, v7, v8], h => rfl
def sp10 (f : V → V → V → V → V → V → V → V → V → V → Hp → VK → XK → Prop) : Sp := fun vs H Q E => match vs with
  | [v0, v1, v2, v3, v4, v5, v6, v7, v8, v9] => f v0 v1 v2 v3 v4 v5 v6 v7 v8 v9 H Q E
  | _ => False
theorem sp10_ex {f : V → V → V → V → V → V → V → V → V → V → Hp → VK → XK → Prop} {vs : List V} {H : Hp} {Q : VK} {E : XK} (h : sp10 f vs H Q E) : ∃ v0 v1 v2 v3 v4 v5 v6 v7 v8 v9, vs = [v0, v1, v2, v3, v4, v5, v6, v7, v8, v9] ∧ f v0 v1 v2 v3 v4 v5 v6 v7 v8 v9 H Q E := by
  match vs, h with
  | [v0, v1, v2, v3, v4, v5, v6, v7, v8, v9], h => exact ⟨_, _, _, _, _, _, _, _, _, _, rfl, h⟩
theorem sp10_len {f : V → V → V → V → V → V → V → V → V → V → Hp → VK → XK → Prop} {vs : List V} {H : Hp} {Q : VK} {E : XK} (h : sp10 f vs H Q E) : vs.length = 10 := by
  match vs, h with
  | [v0, v1, v2, v3, v4, v5, v6, v7, v8, v9], h => rfl
end Dk

/-! Comprehensions and loops whose turns draw; texts as lists of codes. -/
namespace Dk
open PySem PySem.Spec PyProof.Rows L2 TL
section
variable {K : PySem.W.Frag} {σ : L2.St} {H : Hp} {Q : VK} {te : TE} {tt : TT} {vs : List Nat} {j : Nat} {tA : TA} {a : Addr}
theorem r_tyes {QB : Bool → Hp → Prop} (q : QB true H) : tYes σ H QB := q
/-- [e for j in range(n)], n known -/
def rlq (xs : List V) (j : Nat) (tt : TT) (te : TE) (vs : List Nat) (σ : L2.St) (H : Hp) (Q : VK) : Prop := tLc (iRng1 fun _ H1 QA => QA xs H1) (gName j) tt te vs σ H Q
theorem r_lcr (q : tA σ H fun xs H1 => rlq xs j tt te vs σ H1 Q) : tLc (iRng1 tA) (gName j) tt te vs σ H Q := q
theorem Dqs.all_strs {H : Hp} {P : Str → Prop} : ∀ {ds : List PyData} {ys : List V}, Dqs H ys ds → (∀ (i : Nat) d, ds[i]? = some d → ∃ s, d = PyData.str s ∧ P s) → ∃ ss : List Str, ys = ss.map V.str ∧ ss.length = ds.length ∧ ∀ s ∈ ss, P s
  | [], _, h, _ => by
    cases h
    exact ⟨[], rfl, rfl, fun _ z => nomatch z⟩
  | d :: ds, _, h, hp => by
    cases h with
    | cons h1 h2 =>
      obtain ⟨s, e, p⟩ := hp 0 d rfl
      subst e
      cases h1
      obtain ⟨ss, e1, e2, e3⟩ := Dqs.all_strs h2 fun i d q => hp (i + 1) d (by simpa using q)
      refine ⟨s :: ss, by rw [e1] <;> rfl, by simp [e2], fun z hz => ?_⟩
      rcases List.mem_cons.mp hz with e | hz
      · rw [e]
        exact p
      · exact e3 z hz
/-- each turn draws and gives a datum -/
theorem lcr_draw {n : Int} (PP : Nat → PyData → Prop) (hd : Drw H a) (h1 : -(2 ^ 62) ≤ n) (h2 : n < 10000000) (hw : ∀ x, wipe ((wipe σ vs).set j (some x)) vs = wipe σ vs)
    (el : ∀ (i : Nat) (H1 : Hp) (Q1 : VK), (i : Int) < n → Stp a H H1 → (∀ y d H2, Stp a H1 H2 → Dq H2 y d → PP i d → Q1 y H2) → te ((wipe σ vs).set j (some (.int i))) H1 Q1)
    (k : ∀ D H' ys ds, H D = none → Stp a H H' → H' D = some (.lst ys) → Dqs H' ys ds → ds.length = n.toNat → (∀ (i : Nat) d, ds[i]? = some d → PP i d) → Q (.ref D) H') : rlq [.int n] j tYes te vs σ H Q := by
  refine ⟨n, rfl, h1, by omega, fun D hD => ?_⟩
  have aD : a ≠ D := by
    intro e
    obtain ⟨u, v, q⟩ := hd
    rw [e, hD] at q
    cases q
  refine lc_range (lo := 0) (n := n.toNat) (fun i H' => ∃ ys ds, Stp a H H' ∧ H' D = some (.lst ys) ∧ Dqs H' ys ds ∧ ds.length = i ∧ ∀ (i : Nat) d, ds[i]? = some d → PP i d) ?_ ?_ ?_
  · exact ⟨[], [], (Stp.refl hd).new hD hd, upd_same, .nil, rfl, fun i d e => by simp at e⟩
  · rintro i H' hi ⟨ys, ds, s1, hl, dq, el1, pp⟩
    have e0 : (0 : Int) + (i : Int) = (i : Int) := Int.zero_add _
    rw [e0]
    refine ⟨hw _, r_tyes (r_iteT ?_)⟩
    refine el i H' _ (by omega) s1 fun y d H2 s2 hy p => ?_
    have s12 := s1.trans s2
    refine ⟨ys, s2.at_ hl (Ne.symm aD), ?_, ?_⟩
    · have hlen := dq.length
      rw [sizeLine_eq]
      omega
    · have s3 : Stp a H (upd H2 D (.lst (ys ++ [y]))) := s12.new hD hd
      have g : Gro H2 (upd H2 D (.lst (ys ++ [y]))) := by
        have hD2 : H2 D = some (.lst ys) := s2.at_ hl (Ne.symm aD)
        refine ⟨fun b xs e => ?_, fun b o u e => ?_⟩
        · rw [upd_ne (ne_of e hD2 (by intro z; cases z))]
          exact e
        · rw [upd_ne (ne_of e hD2 (by intro z; cases z))]
          exact e
      refine ⟨ys ++ [y], ds ++ [d], s3, upd_same, ((dq.mono (s2.gro)).snoc hy).mono g, by simp [el1], fun i' d' e => ?_⟩
      rw [List.getElem?_append] at e
      split at e
      · exact pp i' d' e
      · rename_i hge
        have hi' : i' - ds.length = 0 := by
          cases hh : i' - ds.length with
          | zero => rfl
          | succ m =>
            rw [hh] at e
            simp at e
        rw [hi'] at e
        simp only [List.getElem?_cons_zero, Option.some.injEq] at e
        have hii : i' = i := by omega
        rw [hii, ← e]
        exact p
  · rintro H' ⟨ys, ds, s1, hl, dq, el1, pp⟩
    exact k D H' ys ds hD s1 hl dq el1 pp
end
section
variable {K : PySem.W.Frag} {σ : L2.St} {H : Hp} {Q : VK} {te tl' : TE} {tt : TT} {vs : List Nat} {j : Nat} {tA : TA} {tb : TS} {D : Ends} {g : TG} {x : V}
/-- for j in range(n) -/
def rfq (xs : List V) (g : TG) (tb : TS) (D : Ends) (σ : L2.St) (H : Hp) : Prop := tFor (iRng1 fun _ H1 QA => QA xs H1) g tb D σ H
theorem r_forr (q : tA σ H fun xs H1 => rfq xs g tb D σ H1) : tFor (iRng1 tA) g tb D σ H := q
theorem for_rng {n : Int} (Pv : Nat → L2.St → Hp → Prop) (h1 : -(2 ^ 62) ≤ n) (h2 : n < 2 ^ 62) (h0 : Pv 0 σ H)
    (hs : ∀ (i : Nat) σ' H', (i : Int) < n → Pv i σ' H' → tb (Ends.mk (Pv (i + 1)) D.rt D.nx (Pv (i + 1))) (σ'.set j (some (.int i))) H') (hd : ∀ σ' H', Pv n.toNat σ' H' → D.nx σ' H') : rfq [.int n] (gName j) tb D σ H := by
  refine ⟨n, rfl, h1, h2, for_range (lo := 0) (n := n.toNat) Pv h0 (fun i σ' H' hi hp => ?_) hd⟩
  have e0 : (0 : Int) + (i : Int) = (i : Int) := Int.zero_add _
  rw [e0]
  exact hs i σ' H' (by omega) hp
/-- for .. in a list, a tuple, a text -/
def fuq (K : PySem.W.Frag) (x : V) (g : TG) (tb : TS) (D : Ends) (σ : L2.St) (H : Hp) : Prop := tFor (iU K (tC x)) g tb D σ H
theorem r_foru (q : te σ H fun x H1 => fuq K x g tb D σ H1) : tFor (iU K te) g tb D σ H := q
theorem for_T {p : Addr} {xs : List V} (Pv : Nat → L2.St → Hp → Prop) (h : H p = some (.tup xs)) (h0 : Pv 0 σ H) (hl : ∀ i σ' H', i ≤ xs.length → Pv i σ' H' → H' p = some (.tup xs))
    (hs : ∀ (i : Nat) x σ' H', xs[i]? = some x → Pv i σ' H' → g x σ' H' fun σ2 H2 => tb (Ends.mk (Pv (i + 1)) D.rt D.nx (Pv (i + 1))) σ2 H2) (hd : ∀ σ' H', Pv xs.length σ' H' → D.nx σ' H') : fuq K (.ref p) g tb D σ H :=
  .inr ⟨⟨xs, SqT.of h⟩, for_tup (xs := xs) Pv h0 (fun i σ' H' hi q => SqT.of (hl i σ' H' hi q)) hs hd⟩
theorem for_L {p : Addr} {xs : List V} (Pv : Nat → L2.St → Hp → Prop) (h : SqL K H p xs) (h0 : Pv 0 σ H) (hl : ∀ i σ' H', i ≤ xs.length → Pv i σ' H' → SqL K H' p xs)
    (hs : ∀ (i : Nat) x σ' H', xs[i]? = some x → Pv i σ' H' → g x σ' H' fun σ2 H2 => tb (Ends.mk (Pv (i + 1)) D.rt D.nx (Pv (i + 1))) σ2 H2) (hd : ∀ σ' H', Pv xs.length σ' H' → D.nx σ' H') : fuq K (.ref p) g tb D σ H :=
  .inl ⟨⟨xs, h⟩, for_list (xs := xs) Pv h0 hl hs hd⟩
/-- [e for .. in a list, a tuple, a text] -/
def luq (K : PySem.W.Frag) (x : V) (g : TG) (tt : TT) (te : TE) (vs : List Nat) (σ : L2.St) (H : Hp) (Q : VK) : Prop := tLc (iU K (tC x)) g tt te vs σ H Q
theorem r_lcu (q : tl' σ H fun x H1 => luq K x g tt te vs σ H1 Q) : tLc (iU K tl') g tt te vs σ H Q := q
end
/-- a kind of step of the heap, from H on -/
structure Sr (H : Hp) (S : Hp → Hp → Prop) : Prop where
  refl : S H H
  trans : ∀ {H1 H2 : Hp}, S H H1 → S H1 H2 → S H H2
  gro : ∀ {H1 H2 : Hp}, S H1 H2 → Gro H1 H2
  chg : ∀ {H' : Hp} {D : Addr} {o : HO}, S H H' → H D = none → S H (upd H' D o)
  keep : ∀ {H1 H2 : Hp} {D : Addr} {o : HO}, H D = none → S H H1 → S H1 H2 → H1 D = some o → H2 D = some o
theorem sr_same (H : Hp) : Sr H Same :=
  ⟨Same.refl H, fun a b => a.trans b, fun s => Gro.same s, fun s hD b u e => by rw [upd_ne (ne_of_none e hD)]; exact s b u e, fun _ _ s h => s _ _ h⟩
theorem ne_drw {H : Hp} {a D : Addr} (hd : Drw H a) (hD : H D = none) : D ≠ a := by
  intro e
  obtain ⟨u, v, q⟩ := hd
  rw [← e, hD] at q
  cases q
theorem ne_drw' {H : Hp} {a D : Addr} (hD : H D = none) (hd : Drw H a) : D ≠ a := ne_drw hd hD
theorem sr_stp {H : Hp} {a : Addr} (hd : Drw H a) : Sr H (Stp a) :=
  ⟨Stp.refl hd, fun a b => a.trans b, fun s => s.gro, fun s hD => s.new hD hd, fun hD _ s h => s.at_ h (ne_drw hd hD)⟩
section
variable {K : PySem.W.Frag} {σ : L2.St} {H : Hp} {Q : VK} {te tl' : TE} {tt : TT} {vs : List Nat} {j : Nat} {g : TG} {J : It} {n : Nat} {G : Hp → Prop} {Y : Nat → Hp → V → Hp → Prop} {S : Hp → Hp → Prop}
theorem lc_gen (w : Walk J n G Y) (sr : Sr H S) (Rv : Nat → List PyData → Prop) (hG : ∀ H', S H H' → G H') (hn : n < 10000000) (h0 : Rv 0 [])
    (el : ∀ (i : Nat) x (H1 H1' : Hp) (ds : List PyData) (Q1 : VK) (Qn : Hp → Prop), i < n → S H H1 → Y i H1 x H1' → Rv i ds →
      (∀ y d H2, S H1 H2 → Dq H2 y d → Rv (i + 1) (ds ++ [d]) → Q1 y H2) → (∀ H2, S H1 H2 → Rv (i + 1) ds → Qn H2) →
      g x (wipe σ vs) H1' fun σ2 H2 => wipe σ2 vs = wipe σ vs ∧ tt σ2 H2 fun b H3 => if b = true then te σ2 H3 Q1 else Qn H3)
    (k : ∀ D H' ys ds, H D = none → S H H' → H' D = some (.lst ys) → Dqs H' ys ds → Rv n ds → Q (.ref D) H') :
    ∀ D, H D = none → ∃ W : Nat → Nat → Hp → Prop, (∃ m, W 0 m (upd H D (.lst []))) ∧ ∀ i m H, W i m H →
      (J.stop i H ∧ Q (.ref D) H) ∨ (J.go i H ∧ ∃ Nx : Hp → Prop, (∀ H', Nx H' → ∃ m', m' < m ∧ W (i + 1) m' H') ∧ ∀ x H', J.yld i H x H' → g x (wipe σ vs) H' fun σ2 H2 => wipe σ2 vs = wipe σ vs ∧ tt σ2 H2 fun b H3 =>
        if b = true then te σ2 H3 fun y H4 => ∃ acc, H4 D = some (.lst acc) ∧ acc.length < sizeLine ∧ Nx (upd H4 D (.lst (acc ++ [y]))) else Nx H3) := by
  intro D hD
  refine lc_it w (Qd := fun H' => Q (.ref D) H') (fun i H' => ∃ ys ds, S H H' ∧ H' D = some (.lst ys) ∧ Dqs H' ys ds ∧ ds.length ≤ i ∧ Rv i ds) ?_ (fun i H' _ ⟨_, _, s, _⟩ => hG H' s) ?_ ?_
  · exact ⟨[], [], sr.chg sr.refl hD, upd_same, .nil, Nat.le_refl _, h0⟩
  · rintro i x H1 H1' hi ⟨ys, ds, s1, hl, dq, hle, rv⟩ hy
    refine el i x H1 H1' ds _ _ hi s1 hy rv (fun y d H2 s2 hyd r2 => ?_) (fun H2 s2 r2 => ?_)
    · have hD2 := sr.keep hD s1 s2 hl
      have s12 := sr.trans s1 s2
      have gg : Gro H2 (upd H2 D (.lst (ys ++ [y]))) := by
        refine ⟨fun b xs e => ?_, fun b o u e => ?_⟩
        · rw [upd_ne (ne_of e hD2 (by intro z; cases z))]
          exact e
        · rw [upd_ne (ne_of e hD2 (by intro z; cases z))]
          exact e
      have hlen := dq.length
      refine ⟨ys, hD2, by rw [sizeLine_eq]; omega, ys ++ [y], ds ++ [d], sr.chg s12 hD, upd_same, ((dq.mono (sr.gro s2)).snoc hyd).mono gg, by simp; omega, r2⟩
    · exact ⟨ys, ds, sr.trans s1 s2, sr.keep hD s1 s2 hl, dq.mono (sr.gro s2), by omega, r2⟩
  · rintro H' ⟨ys, ds, s1, hl, dq, hle, rv⟩
    exact k D H' ys ds hD s1 hl dq rv
/-- over a tuple, a list that stands: the target a name -/
theorem lc_T {p : Addr} {xs : List V} (h : H p = some (.tup xs)) (sr : Sr H S) (Rv : Nat → List PyData → Prop) (hn : xs.length < 10000000) (h0 : Rv 0 []) (hw : ∀ x, wipe ((wipe σ vs).set j (some x)) vs = wipe σ vs)
    (el : ∀ (i : Nat) x (H1 : Hp) (ds : List PyData) (Q1 : VK) (Qn : Hp → Prop), xs[i]? = some x → S H H1 → Rv i ds →
      (∀ y d H2, S H1 H2 → Dq H2 y d → Rv (i + 1) (ds ++ [d]) → Q1 y H2) → (∀ H2, S H1 H2 → Rv (i + 1) ds → Qn H2) → tt ((wipe σ vs).set j (some x)) H1 fun b H3 => if b = true then te ((wipe σ vs).set j (some x)) H3 Q1 else Qn H3)
    (k : ∀ D H' ys ds, H D = none → S H H' → H' D = some (.lst ys) → Dqs H' ys ds → Rv xs.length ds → Q (.ref D) H') : luq K (.ref p) (gName j) tt te vs σ H Q :=
  .inr ⟨⟨xs, SqT.of h⟩, lc_gen (walk_tup (xs := xs)) sr Rv (fun H' s => SqT.of ((sr.gro s).tup _ _ h)) hn h0 (fun i x H1 H1' ds Q1 Qn hi s1 hy rv k1 k2 => by
    obtain ⟨rfl, hy⟩ := hy
    exact ⟨hw x, el i x H1' ds Q1 Qn hy s1 rv k1 k2⟩) k⟩
theorem lc_L {p : Addr} {xs : List V} (h : H p = some (.lst xs)) (hk : ∀ H', S H H' → H' p = some (.lst xs)) (sr : Sr H S) (Rv : Nat → List PyData → Prop) (hn : xs.length < 10000000) (h0 : Rv 0 []) (hw : ∀ x, wipe ((wipe σ vs).set j (some x)) vs = wipe σ vs)
    (el : ∀ (i : Nat) x (H1 : Hp) (ds : List PyData) (Q1 : VK) (Qn : Hp → Prop), xs[i]? = some x → S H H1 → Rv i ds →
      (∀ y d H2, S H1 H2 → Dq H2 y d → Rv (i + 1) (ds ++ [d]) → Q1 y H2) → (∀ H2, S H1 H2 → Rv (i + 1) ds → Qn H2) → tt ((wipe σ vs).set j (some x)) H1 fun b H3 => if b = true then te ((wipe σ vs).set j (some x)) H3 Q1 else Qn H3)
    (k : ∀ D H' ys ds, H D = none → S H H' → H' D = some (.lst ys) → Dqs H' ys ds → Rv xs.length ds → Q (.ref D) H') : luq K (.ref p) (gName j) tt te vs σ H Q :=
  .inl ⟨⟨xs, SqL.of h⟩, lc_gen (walk_list (xs := xs)) sr Rv (fun H' s => SqL.of (hk H' s)) hn h0 (fun i x H1 H1' ds Q1 Qn hi s1 hy rv k1 k2 => by
    obtain ⟨rfl, hy⟩ := hy
    exact ⟨hw x, el i x H1' ds Q1 Qn hy s1 rv k1 k2⟩) k⟩
/-- over the signs of a text -/
theorem lc_S {z : Str} (sr : Sr H S) (Rv : Nat → List PyData → Prop) (hn : z.length < 10000000) (h0 : Rv 0 []) (hw : ∀ x, wipe ((wipe σ vs).set j (some x)) vs = wipe σ vs)
    (el : ∀ (i : Nat) (c : Nat) (H1 : Hp) (ds : List PyData) (Q1 : VK) (Qn : Hp → Prop), (tl z)[i]? = some c → S H H1 → Rv i ds →
      (∀ y d H2, S H1 H2 → Dq H2 y d → Rv (i + 1) (ds ++ [d]) → Q1 y H2) → (∀ H2, S H1 H2 → Rv (i + 1) ds → Qn H2) → tt ((wipe σ vs).set j (some (.str ⟨#[c]⟩))) H1 fun b H3 => if b = true then te ((wipe σ vs).set j (some (.str ⟨#[c]⟩))) H3 Q1 else Qn H3)
    (k : ∀ D H' ys ds, H D = none → S H H' → H' D = some (.lst ys) → Dqs H' ys ds → Rv z.length ds → Q (.ref D) H') : luq K (.str z) (gName j) tt te vs σ H Q :=
  lc_gen (walk_str (z := z)) sr Rv (fun H' s => trivial) hn h0 (fun i x H1 H1' ds Q1 Qn hi s1 hy rv k1 k2 => by
    obtain ⟨rfl, c, hc, rfl⟩ := hy
    exact ⟨hw _, el i c H1' ds Q1 Qn (by rw [Array.getElem?_toList]; exact hc) s1 rv k1 k2⟩) k
/-- over range(n) -/
theorem lc_R {m : Int} (sr : Sr H S) (Rv : Nat → List PyData → Prop) (h1 : -(2 ^ 62) ≤ m) (h2 : m < 10000000) (h0 : Rv 0 []) (hw : ∀ x, wipe ((wipe σ vs).set j (some x)) vs = wipe σ vs)
    (el : ∀ (i : Nat) (H1 : Hp) (ds : List PyData) (Q1 : VK) (Qn : Hp → Prop), (i : Int) < m → S H H1 → Rv i ds →
      (∀ y d H2, S H1 H2 → Dq H2 y d → Rv (i + 1) (ds ++ [d]) → Q1 y H2) → (∀ H2, S H1 H2 → Rv (i + 1) ds → Qn H2) → tt ((wipe σ vs).set j (some (.int i))) H1 fun b H3 => if b = true then te ((wipe σ vs).set j (some (.int i))) H3 Q1 else Qn H3)
    (k : ∀ D H' ys ds, H D = none → S H H' → H' D = some (.lst ys) → Dqs H' ys ds → Rv m.toNat ds → Q (.ref D) H') : rlq [.int m] j tt te vs σ H Q :=
  ⟨m, rfl, h1, by omega, lc_gen (walk_range (lo := 0) (n := m.toNat)) sr Rv (fun H' s => trivial) (by omega) h0 (fun i x H1 H1' ds Q1 Qn hi s1 hy rv k1 k2 => by
    obtain ⟨rfl, rfl⟩ := hy
    have e0 : (0 : Int) + (i : Int) = (i : Int) := Int.zero_add _
    show gName j (V.int ((0 : Int) + (i : Int))) (wipe σ vs) H1' _
    rw [e0]
    exact ⟨hw _, el i H1' ds Q1 Qn (by omega) s1 rv k1 k2⟩) k⟩
end
theorem atI_get {α : Type} {xs : List α} {d : Int} (h0 : 0 ≤ d) (h1 : d < xs.length) : ∃ v, atI xs d = some v ∧ v ∈ xs := by
  obtain ⟨j, rfl⟩ : ∃ j : Nat, d = j := ⟨d.toNat, by omega⟩
  have hj : j < xs.length := by omega
  exact ⟨xs[j], atI_nn (List.getElem?_eq_getElem hj), List.getElem_mem hj⟩
/-! ### texts as lists of codes -/
theorem len_cut0 {z : Str} {n : Nat} : (cutS z none (some (n : Int))).length ≤ n := by
  show (((z.cps.toList.drop 0).take (HT.sIx z.length z.length (some (n : Int)) - 0)).toArray).size ≤ n
  rw [List.size_toArray, List.length_take]
  have : HT.sIx z.length z.length (some (n : Int)) ≤ n := by
    unfold HT.sIx
    simp only
    split <;> omega
  omega
theorem cut_one {z : Str} {d : Int} (h0 : 0 ≤ d) (h1 : d < z.length) : ∃ c, c ∈ tl z ∧ cutS z (some d) (some (d + 1)) = ⟨#[c]⟩ := by
  obtain ⟨n, rfl⟩ : ∃ n : Nat, d = n := ⟨d.toNat, by omega⟩
  have hn : n < (tl z).length := by rw [← len_tl]; omega
  refine ⟨(tl z)[n], List.getElem_mem hn, ?_⟩
  have e1 : HT.sIx z.length 0 (some (n : Int)) = n := by rw [HT.sIx_nat]; rw [len_tl] at *; omega
  have e2 : HT.sIx z.length z.length (some ((n : Int) + 1)) = n + 1 := by
    rw [show (n : Int) + 1 = ((n + 1 : Nat) : Int) by omega, HT.sIx_nat]
    rw [len_tl] at *
    omega
  unfold cutS
  rw [e1, e2]
  have e3 : ((tl z).drop n).take (n + 1 - n) = [(tl z)[n]] := by
    rw [show n + 1 - n = 1 by omega, List.drop_eq_getElem_cons hn]
    rfl
  show (⟨(((tl z).drop n).take (n + 1 - n)).toArray⟩ : Str) = _
  rw [e3] <;> rfl
/-- a text of signs of S, between lo and hi of them -/
structure Wrd (S : List Nat) (lo hi : Nat) (s : Str) : Prop where
  lo : lo ≤ (tl s).length
  hi : (tl s).length ≤ hi
  sg : ∀ c ∈ tl s, c ∈ S
theorem Wrd.len {S : List Nat} {lo hi : Nat} {s : Str} (h : Wrd S lo hi s) : s.length ≤ hi := by rw [len_tl]; exact h.hi
theorem joinL_nil : ∀ parts : List (List Nat), joinL [] parts = parts.flatten
  | [] => rfl
  | [p] => by simp [joinL]
  | p :: q :: r => by
    show p ++ ([] ++ joinL [] (q :: r)) = (p :: q :: r).flatten
    rw [joinL_nil (q :: r)]
    simp
theorem tl_join0 (parts : List Str) : tl (Txt.join (Str.ofString "") parts) = (parts.map tl).flatten := by
  rw [join_eq, tl_join]
  have e : tl (Str.ofString "") = [] := by decide +kernel
  rw [e, joinL_nil]
/-- signs one by one make a word -/
theorem wrd_join {S : List Nat} {n : Nat} {ss : List Str} (h : ∀ s ∈ ss, ∃ c, c ∈ S ∧ s = ⟨#[c]⟩) (hl : ss.length = n) : Wrd S n n (Txt.join (Str.ofString "") ss) := by
  subst hl
  have key : ∀ ss : List Str, (∀ s ∈ ss, ∃ c, c ∈ S ∧ s = ⟨#[c]⟩) → (ss.map tl).flatten.length = ss.length ∧ ∀ c ∈ (ss.map tl).flatten, c ∈ S := by
    intro ss
    induction ss with
    | nil => exact fun _ => ⟨rfl, fun c hc => nomatch hc⟩
    | cons s r ih =>
      intro h
      obtain ⟨c, hc, e⟩ := h s List.mem_cons_self
      obtain ⟨i1, i2⟩ := ih fun s hs => h s (List.mem_cons_of_mem _ hs)
      have et : tl s = [c] := by rw [e]
      refine ⟨by rw [List.map_cons, List.flatten_cons, List.length_append, i1, et, List.length_cons]; simp; omega, fun d hd => ?_⟩
      rw [List.map_cons, List.flatten_cons, et] at hd
      rcases List.mem_append.mp hd with hd | hd
      · rw [List.mem_singleton.mp hd]
        exact hc
      · exact i2 d hd
  obtain ⟨k1, k2⟩ := key ss h
  rw [← tl_join0] at k1 k2
  exact ⟨Nat.le_of_eq k1.symm, Nat.le_of_eq k1, k2⟩
/-- what a join of signs weighs -/
theorem sum_ones {S : List Nat} : ∀ {ss : List Str}, (∀ s ∈ ss, ∃ c, c ∈ S ∧ s = ⟨#[c]⟩) → (ss.map (·.length)).sum = ss.length
  | [], _ => rfl
  | s :: r, h => by
    obtain ⟨c, _, e⟩ := h s List.mem_cons_self
    rw [List.map_cons, List.sum_cons, sum_ones fun s hs => h s (List.mem_cons_of_mem _ hs), e, List.length_cons]
    show 1 + r.length = r.length + 1
    omega
theorem sum_le {n : Nat} : ∀ {ss : List Str}, (∀ s ∈ ss, s.length ≤ n) → (ss.map (·.length)).sum ≤ n * ss.length
  | [], _ => Nat.zero_le _
  | s :: r, h => by
    rw [List.map_cons, List.sum_cons, List.length_cons, Nat.mul_succ]
    have h1 := h s List.mem_cons_self
    have h2 := sum_le (n := n) fun s hs => h s (List.mem_cons_of_mem _ hs)
    omega
end Dk

/-! The texts that the laws draw: local parts, domains. -/
namespace Dk
open PySem PySem.Spec PyProof.Rows L2 TL
/-- what is left of a text behind rstrip of one sign -/
theorem rstrip_facts (x : Str) (c : Nat) : ∃ h, h ≤ (tl x).length ∧ tl (Txt.rstripChars x ⟨#[c]⟩) = (tl x).take h ∧ (h = 0 ∨ (tl x)[h - 1]? ≠ some c) ∧ ∀ k, h ≤ k → k < (tl x).length → (tl x)[k]? = some c := by
  have h0 : PySem.stripLo (#[c] : Array Nat).contains false x = 0 := rfl
  obtain ⟨h1, h2, h3, h4⟩ := hi_facts (#[c] : Array Nat).contains x 0 (Nat.zero_le _)
  have gc : ∀ d, (#[c] : Array Nat).contains d = true ↔ d = c := fun d => by
    rw [Array.contains_iff_mem]
    simp
  have getd : ∀ k, k < (tl x).length → (tl x)[k]? = some (x.cps.getD k 0) := fun k hk => by
    rw [← getD_list]
    rw [List.getElem?_eq_getElem hk]
    simp [List.getD, List.getElem?_eq_getElem hk]
  refine ⟨stripHi (#[c] : Array Nat).contains true x 0, by rw [← len_tl]; exact h2, ?_, ?_, fun k hk hl => ?_⟩
  · show tl (Txt.stripBy (#[c] : Array Nat).contains false true x) = _
    rw [stripBy_eq, h0, tl_strSub, List.drop_zero, Nat.sub_zero]
  · by_cases hz : stripHi (#[c] : Array Nat).contains true x 0 = 0
    · exact .inl hz
    · right
      rcases h4 with h4 | h4
      · exact absurd h4 hz
      · rw [getd _ (by rw [← len_tl]; omega)]
        intro e
        have e1 := (gc _).mpr (Option.some.inj e)
        rw [h4] at e1
        cases e1
  · rw [getd k hl]
    exact congrArg some ((gc _).mp (h3 k hk (by rw [len_tl]; exact hl)))
/-- signs of S, dots between them: none ahead (p), none behind another -/
def okL (S : List Nat) : Bool → List Nat → Bool
  | _, [] => true
  | p, c :: r => if c = 46 then !p && okL S true r else decide (c ∈ S) && okL S false r
theorem okL_take {S : List Nat} : ∀ {l : List Nat} {p : Bool} {n : Nat}, okL S p l = true → okL S p (l.take n) = true
  | [], p, n, _ => by cases n <;> rfl
  | c :: r, p, 0, _ => rfl
  | c :: r, p, n + 1, h => by
    rw [List.take_succ_cons]
    unfold okL at h ⊢
    by_cases e : c = 46
    · rw [if_pos e, Bool.and_eq_true] at h ⊢
      exact ⟨h.1, okL_take h.2⟩
    · rw [if_neg e, Bool.and_eq_true] at h ⊢
      exact ⟨h.1, okL_take h.2⟩
theorem okL_word {S : List Nat} (hS : 46 ∉ S) : ∀ {w r : List Nat} {p : Bool}, (∀ c ∈ w, c ∈ S) → w ≠ [] → okL S p (w ++ r) = okL S false r
  | [], _, _, _, h => absurd rfl h
  | c :: w, r, p, h, _ => by
    have hc := h c List.mem_cons_self
    have nc : c ≠ 46 := fun e => hS (e ▸ hc)
    have e : okL S p (c :: (w ++ r)) = okL S false (w ++ r) := by
      rw [okL, if_neg nc, decide_eq_true hc, Bool.true_and]
    show okL S p (c :: (w ++ r)) = okL S false r
    rw [e]
    cases w with
    | nil => rfl
    | cons d w => exact okL_word hS (fun c hc => h c (List.mem_cons_of_mem _ hc)) (by simp)
theorem okL_join {S : List Nat} (hS : 46 ∉ S) : ∀ {ps : List (List Nat)} {p : Bool}, (∀ w ∈ ps, w ≠ [] ∧ ∀ c ∈ w, c ∈ S) → ps ≠ [] → okL S p (joinL [46] ps) = true
  | [], _, _, h => absurd rfl h
  | [w], p, h, _ => by
    obtain ⟨h1, h2⟩ := h w List.mem_cons_self
    show okL S p w = true
    rw [← List.append_nil w, okL_word hS h2 h1] <;> rfl
  | w :: v :: r, p, h, _ => by
    obtain ⟨h1, h2⟩ := h w List.mem_cons_self
    show okL S p (w ++ ([46] ++ joinL [46] (v :: r))) = true
    rw [okL_word hS h2 h1]
    show okL S false (46 :: joinL [46] (v :: r)) = true
    unfold okL
    rw [if_pos rfl, okL_join hS (fun w hw => h w (List.mem_cons_of_mem _ hw)) (by simp)] <;> rfl
theorem okL_head {S : List Nat} {l : List Nat} (h : okL S true l = true) : l.head? ≠ some 46 := by
  cases l with
  | nil => simp
  | cons c r =>
    unfold okL at h
    intro e
    have e1 : c = 46 := by simpa using e
    rw [if_pos e1] at h
    cases h
/-- a local part -/
structure Loc1 (S : List Nat) (l : List Nat) : Prop where
  ok : okL S true l = true
  lo : 1 ≤ l.length
  hi : l.length ≤ 40
  last : l.getLast? ≠ some 46
theorem dot_eq : Str.ofString "." = ⟨#[46]⟩ := by decide +kernel
theorem tl_joinDot (parts : List Str) : tl (Txt.join (Str.ofString ".") parts) = joinL [46] (parts.map tl) := by
  rw [join_eq, tl_join]
  have e : tl (Str.ofString ".") = [46] := by decide +kernel
  rw [e]
theorem tl_cut0 (z : Str) (n : Nat) : tl (cutS z none (some (n : Int))) = (tl z).take n := by
  unfold cutS
  rw [HT.sIx_none, HT.sIx_nat, Nat.sub_zero, List.drop_zero]
  show (tl z).take (min n z.length) = (tl z).take n
  rw [len_tl, List.take_eq_take_iff]
  omega
theorem joinL_pos {S : List Nat} {ps : List (List Nat)} (h : ∀ w ∈ ps, w ≠ []) (hn : ps ≠ []) : joinL S ps ≠ [] := by
  cases ps with
  | nil => exact absurd rfl hn
  | cons w r =>
    have hw := h w List.mem_cons_self
    cases r with
    | nil => exact hw
    | cons v r =>
      show w ++ (S ++ joinL S (v :: r)) ≠ []
      simp [hw]
theorem loc_of {S : List Nat} (hS : 46 ∉ S) {parts : List Str} (h : ∀ s ∈ parts, tl s ≠ [] ∧ ∀ c ∈ tl s, c ∈ S) (hn : parts ≠ []) :
    Loc1 S (tl (Txt.rstripChars (cutS (Txt.join (Str.ofString ".") parts) none (some (40 : Int))) (Str.ofString "."))) := by
  have e40 : tl (cutS (Txt.join (Str.ofString ".") parts) none (some (40 : Int))) = (joinL [46] (parts.map tl)).take 40 := by
    rw [← tl_joinDot]
    exact tl_cut0 _ 40
  have hw : ∀ w ∈ parts.map tl, w ≠ [] ∧ ∀ c ∈ w, c ∈ S := fun w hw => by
    obtain ⟨s, hs, e⟩ := List.mem_map.mp hw
    rw [← e]
    exact h s hs
  have hne : parts.map tl ≠ [] := fun e => hn (List.map_eq_nil_iff.mp e)
  have ok : okL S true ((joinL [46] (parts.map tl)).take 40) = true := okL_take (okL_join hS hw hne)
  have pos : joinL [46] (parts.map tl) ≠ [] := joinL_pos (fun w q => (hw w q).1) hne
  generalize cutS (Txt.join (Str.ofString ".") parts) none (some (40 : Int)) = x at *
  rw [dot_eq]
  obtain ⟨k, k1, k2, k3, k4⟩ := rstrip_facts x 46
  rw [e40] at k1 k2 k3 k4
  generalize hL : (joinL [46] (parts.map tl)).take 40 = L at *
  have Lne : L ≠ [] := by
    rw [← hL]
    intro e
    rcases List.take_eq_nil_iff.mp e with e | e
    · cases e
    · exact pos e
  have L40 : L.length ≤ 40 := by
    rw [← hL, List.length_take]
    omega
  have kpos : 1 ≤ k := by
    cases k with
    | zero =>
      have h0 := k4 0 (Nat.le_refl _) (List.length_pos_iff.mpr Lne)
      exact absurd (by rw [List.head?_eq_getElem?]; exact h0) (okL_head ok)
    | succ k => exact Nat.succ_pos _
  rw [k2]
  refine ⟨okL_take ok, by rw [List.length_take]; omega, by rw [List.length_take]; omega, ?_⟩
  rw [List.getLast?_eq_getElem?, List.length_take, Nat.min_eq_left k1, List.getElem?_take_of_lt (by omega)]
  rcases k3 with k3 | k3
  · omega
  · exact k3
theorem joinL_len (S : List Nat) : ∀ ps : List (List Nat), (joinL S ps).length ≤ (ps.map List.length).sum + ps.length * S.length
  | [] => Nat.zero_le _
  | [w] => by
    show w.length ≤ _
    rw [List.map_singleton, List.sum_singleton]
    omega
  | w :: v :: r => by
    show (w ++ (S ++ joinL S (v :: r))).length ≤ _
    have ih := joinL_len S (v :: r)
    rw [List.length_append, List.length_append, List.map_cons, List.sum_cons, List.length_cons, Nat.succ_mul]
    omega
theorem joinDot_len (parts : List Str) : (Txt.join (Str.ofString ".") parts).length ≤ (parts.map (·.length)).sum + parts.length := by
  rw [len_tl, tl_joinDot]
  have h := joinL_len [46] (parts.map tl)
  have e : ((parts.map tl).map List.length) = parts.map (·.length) := by
    rw [List.map_map]
    exact List.map_congr_left fun s _ => (len_tl s).symm
  rw [e, List.length_map] at h
  simp only [List.length_cons, List.length_nil] at h
  omega
theorem rep_strs (n : Nat) (s : Str) : (List.replicate n [V.str s]).flatten = (List.replicate n s).map V.str := by
  induction n with
  | zero => rfl
  | succ n ih => rw [List.replicate_succ, List.flatten_cons, ih, List.replicate_succ, List.map_cons] <;> rfl
theorem rep_wrd {S : List Nat} {c n : Nat} (hc : c ∈ S) : Wrd S n n (Txt.join (Str.ofString "") (List.replicate n ⟨#[c]⟩)) :=
  wrd_join (fun s hs => ⟨c, hc, (List.mem_replicate.mp hs).2⟩) (List.length_replicate ..)
/-- the signs of a drawn word, a drawn label -/
abbrev lEnds : Str := Str.ofString "abcdefghijklmnopqrstuvwxyz0123456789-_+"
abbrev dEnds : Str := Str.ofString "abcdefghijklmnopqrstuvwxyz0123456789"
theorem lEnds_dot : 46 ∉ tl lEnds := by decide +kernel
/-- a label -/
structure Lab (l : List Nat) : Prop where
  lo : 2 ≤ l.length
  hi : l.length ≤ 5
  sg : ∀ c ∈ l, c ∈ 45 :: tl dEnds
  fst : l.head? ≠ some 45
  lst : l.getLast? ≠ some 45
/-- a domain -/
structure Dom (l : List Nat) : Prop where
  ex : ∃ ls : List (List Nat), l = joinL [46] ls ∧ 1 ≤ ls.length ∧ ls.length ≤ 3 ∧ ∀ w ∈ ls, Lab w
theorem Dom.len {s : Str} (h : Dom (tl s)) : s.length ≤ 18 := by
  obtain ⟨ls, e, h1, h2, h3⟩ := h.ex
  rw [len_tl, e]
  have q := joinL_len [46] ls
  have r : ∀ ps : List (List Nat), (∀ w ∈ ps, Lab w) → (ps.map List.length).sum ≤ 5 * ps.length := by
    intro ps
    induction ps with
    | nil => exact fun _ => Nat.zero_le _
    | cons w r ih =>
      intro h
      rw [List.map_cons, List.sum_cons, List.length_cons]
      have a := (h w List.mem_cons_self).hi
      have b := ih fun w hw => h w (List.mem_cons_of_mem _ hw)
      omega
  have r1 := r ls h3
  simp only [List.length_cons, List.length_nil] at q
  omega
theorem Loc1.len {S : List Nat} {s : Str} (h : Loc1 S (tl s)) : s.length ≤ 40 := by
  rw [len_tl]
  exact h.hi
theorem lab_of {c d : Nat} {m : Str} (hc : c ∈ tl dEnds) (hd : d ∈ tl dEnds) (hm : m ∈ ["", "-", "--", "x-y", "z9"].map Str.ofString) : Lab (tl (((⟨#[c]⟩ : Str) ++ m) ++ (⟨#[d]⟩ : Str))) := by
  have e : tl (((⟨#[c]⟩ : Str) ++ m) ++ (⟨#[d]⟩ : Str)) = c :: (tl m ++ [d]) := by
    rw [tl_append, tl_append] <;> rfl
  have n45 : 45 ∉ tl dEnds := by decide +kernel
  have key : ∀ z ∈ ["", "-", "--", "x-y", "z9"].map Str.ofString, (tl z).length ≤ 3 ∧ ∀ x ∈ tl z, x ∈ 45 :: tl dEnds := by decide +kernel
  obtain ⟨k1, k2⟩ := key m hm
  rw [e]
  refine ⟨by simp, by simp; omega, fun x hx => ?_, ?_, ?_⟩
  · rcases List.mem_cons.mp hx with hx | hx
    · rw [hx]
      exact List.mem_cons_of_mem _ hc
    · rcases List.mem_append.mp hx with hx | hx
      · exact k2 x hx
      · rw [List.mem_singleton.mp hx]
        exact List.mem_cons_of_mem _ hd
  · intro q
    have : c = 45 := by simpa using q
    exact n45 (this ▸ hc)
  · rw [show c :: (tl m ++ [d]) = (c :: tl m) ++ [d] from rfl, List.getLast?_concat]
    intro q
    have : d = 45 := by simpa using q
    exact n45 (this ▸ hd)
/-- a line: a short text of the signs that are allowed -/
structure Lin (s : Str) : Prop where
  len : s.length ≤ 18
  sg : ∀ c ∈ tl s, 32 ≤ c ∧ c ≤ 126 ∧ c ≠ 37
def pool : List Str := ["", ".", "..", ". x", "Received: by ", "Received: by q.r", "received: by x", " Received: by y", "To: a", "~"].map Str.ofString
abbrev signs : Str := Str.ofString " !\"#$&'()*+,-./0123456789:;<=>?@ABCDEFGHIJKLMNOPQRSTUVWXYZ[\\]^_`abcdefghijklmnopqrstuvwxyz{|}~"
theorem pool_lin : ∀ s ∈ pool, Lin s := by
  have key : ∀ s ∈ pool, s.length ≤ 18 ∧ ∀ c ∈ tl s, 32 ≤ c ∧ c ≤ 126 ∧ c ≠ 37 := by decide +kernel
  exact fun s hs => ⟨(key s hs).1, (key s hs).2⟩
theorem signs_lin : ∀ c ∈ tl signs, 32 ≤ c ∧ c ≤ 126 ∧ c ≠ 37 := by decide +kernel
end Dk

/-! Messages as lists of texts. -/
namespace Dk
open PySem PySem.Spec PyProof.Rows L2 TL
def hopsM : List Str → Nat
  | [] => 0
  | s :: r => if s = eS then 0 else (if Txt.startswith s trS = true then 1 else 0) + hopsM r
theorem hopsM_le : ∀ ss : List Str, hopsM ss ≤ ss.length
  | [] => Nat.le_refl _
  | s :: r => by
    unfold hopsM
    have := hopsM_le r
    rw [List.length_cons]
    split
    · omega
    · split <;> omega
def stuffM (s : Str) : Str := if Txt.startswith s dotS = true then dotS ++ s else s
def unstuffM (s : Str) : Str := if Txt.startswith s dotS = true then cutS s (some 1) none else s
theorem starts_iff (x y : Str) : Txt.startswith x y = ((tl x).take (tl y).length == tl y) := by
  unfold Txt.startswith
  rw [PySem.StrLaws.subAt_eq, List.drop_zero, Nat.zero_add, len_tl, len_tl]
  by_cases h : (tl y).length ≤ (tl x).length
  · rw [decide_eq_true h, Bool.true_and]
  · rw [decide_eq_false h, Bool.false_and]
    symm
    rw [beq_eq_false_iff_ne]
    intro e
    have e2 := congrArg List.length e
    rw [List.length_take] at e2
    omega
theorem tl_dot : tl dotS = [46] := by decide +kernel
theorem tl_cut1 (s : Str) : tl (cutS s (some 1) none) = (tl s).drop 1 := by
  unfold cutS
  rw [HT.sIx_none, show (1 : Int) = ((1 : Nat) : Int) from rfl, HT.sIx_nat]
  show ((tl s).drop (min 1 s.length)).take (s.length - min 1 s.length) = (tl s).drop 1
  rw [len_tl]
  by_cases h : 1 ≤ (tl s).length
  · rw [Nat.min_eq_left h, List.take_of_length_le (by rw [List.length_drop]; omega)]
  · have e : tl s = [] := List.length_eq_zero_iff.mp (by omega)
    rw [e] <;> rfl
theorem tl_cutN (s : Str) (n : Nat) : tl (cutS s none (some (n : Int))) = (tl s).take n := tl_cut0 s n
theorem starts_dot (s : Str) : Txt.startswith s dotS = decide ((tl s).head? = some 46) := by
  rw [starts_iff, tl_dot]
  cases e : tl s with
  | nil => rfl
  | cons c r =>
    show ([c] == [46]) = decide (some c = some 46)
    by_cases h : c = 46
    · subst h
      rfl
    · rw [decide_eq_false (fun q => h (Option.some.inj q)), beq_eq_false_iff_ne]
      exact fun q => h (List.cons.inj q).1
theorem unstuff_stuff (s : Str) : unstuffM (stuffM s) = s := by
  unfold stuffM
  by_cases h : Txt.startswith s dotS = true
  · rw [if_pos h]
    have e : tl (dotS ++ s) = 46 :: tl s := by rw [tl_append, tl_dot] <;> rfl
    unfold unstuffM
    rw [if_pos (by rw [starts_dot, e] <;> rfl)]
    refine ext_tl ?_
    rw [tl_cut1, e] <;> rfl
  · rw [if_neg h]
    unfold unstuffM
    rw [if_neg h]
theorem stuff_ne (s : Str) : stuffM s ≠ dotS := by
  intro e
  unfold stuffM at e
  by_cases h : Txt.startswith s dotS = true
  · rw [if_pos h] at e
    have e2 := congrArg tl e
    rw [tl_append, tl_dot] at e2
    have e3 : tl s = [] := by simpa using e2
    rw [starts_dot, e3] at h
    cases h
  · rw [if_neg h] at e
    rw [e] at h
    exact h (by decide +kernel)
theorem stuff_len (s : Str) : (stuffM s).length ≤ s.length + 1 := by
  unfold stuffM
  split
  · rw [PySem.Str.length_append, dotS_len]
    omega
  · omega
theorem drop_of_get {α : Type} {xs : List α} {i : Nat} {x : α} (h : xs[i]? = some x) : xs.drop i = x :: xs.drop (i + 1) := by
  obtain ⟨hl, e⟩ := List.getElem?_eq_some_iff.mp h
  rw [List.drop_eq_getElem_cons hl, e]
theorem get_map {xs : List Str} {i : Nat} {x : V} (h : (xs.map V.str)[i]? = some x) : ∃ s, xs[i]? = some s ∧ x = .str s := by
  rw [List.getElem?_map] at h
  cases e : xs[i]? with
  | none =>
    rw [e] at h
    cases h
  | some s =>
    rw [e] at h
    exact ⟨s, rfl, (Option.some.inj h).symm⟩
theorem mem_of_get {α : Type} {xs : List α} {i : Nat} {x : α} (h : xs[i]? = some x) : x ∈ xs := List.mem_of_getElem? h
/-- a comprehension over texts that gives texts -/
theorem Dqs.strs_eq {H : Hp} {ss : List Str} {ys : List V} (h : Dqs H ys (ss.map PyData.str)) : ys = ss.map V.str := h.strs_of
theorem take_snoc {α : Type} {xs : List α} {i : Nat} {x : α} (h : xs[i]? = some x) : xs.take (i + 1) = xs.take i ++ [x] := by
  rw [List.take_add_one, h] <;> rfl
def reportM (l d r : Str) : List Str := [Str.ofString "Subject: undelivered", eS, Str.ofString "Recipient: " ++ (l ++ atS ++ d), Str.ofString "Reason: " ++ r]
theorem cut13 (s : Str) : decide (cutS s none (some 13) = trS) = Txt.startswith s trS := by
  rw [starts_iff]
  have e13 : (tl trS).length = 13 := by decide +kernel
  have e := tl_cutN s 13
  by_cases h : cutS s none (some 13) = trS
  · rw [decide_eq_true h, e13]
    have h2 : tl (cutS s none (some ((13 : Nat) : Int))) = tl trS := congrArg tl h
    rw [← e, h2]
    exact (beq_self_eq_true _).symm
  · rw [decide_eq_false h, e13]
    symm
    rw [beq_eq_false_iff_ne]
    intro q
    rw [← e] at q
    exact h (ext_tl q)
theorem cut_dot (s : Str) : decide (cutS s none (some 1) = dotS) = Txt.startswith s dotS := by
  rw [starts_iff]
  have e1 : (tl dotS).length = 1 := by decide +kernel
  have e := tl_cutN s 1
  by_cases h : cutS s none (some 1) = dotS
  · rw [decide_eq_true h, e1]
    have h2 : tl (cutS s none (some ((1 : Nat) : Int))) = tl dotS := congrArg tl h
    rw [← e, h2]
    exact (beq_self_eq_true _).symm
  · rw [decide_eq_false h, e1]
    symm
    rw [beq_eq_false_iff_ne]
    intro q
    rw [← e] at q
    exact h (ext_tl q)
theorem str_assoc (a b c : Str) : a ++ b ++ c = a ++ (b ++ c) := ext_tl (by rw [tl_append, tl_append, tl_append, tl_append, List.append_assoc])
theorem hops_cons (d : Str) (ss : List Str) : hopsM ((trS ++ d) :: ss) = hopsM ss + 1 := by
  have h1 : trS ++ d ≠ eS := fun e => by
    have e2 := congrArg (fun z => (tl z).length) e
    simp only [tl_append, List.length_append] at e2
    have e3 : (tl trS).length = 13 := by decide +kernel
    have e4 : (tl eS).length = 0 := by decide +kernel
    omega
  have h2 : Txt.startswith (trS ++ d) trS = true := by
    rw [starts_iff, tl_append, List.take_left]
    exact beq_self_eq_true _
  rw [hopsM, if_neg h1, if_pos h2]
  omega
end Dk

/-! Data compared. -/
namespace Dk
open PySem PySem.Spec PyProof.Rows L2 TL
mutual
/-- data without truth values, lists, dicts -/
def nb : PyData → Bool
  | .none => true
  | .int _ => true
  | .str s => PyData.strOk s
  | .tuple ds => nbs ds
  | _ => false
def nbs : List PyData → Bool
  | [] => true
  | d :: ds => nb d && nbs ds
end
mutual
theorem nb_lay : ∀ d : PyData, nb d = true → d.canLay0 = true
  | .none, _ => by simp [PyData.canLay0]
  | .int i, _ => by simp [PyData.canLay0]
  | .str s, h => by
    rw [PyData.canLay0]
    rw [nb] at h
    exact h
  | .tuple ds, h => by
    rw [PyData.canLay0]
    rw [nb] at h
    exact nbs_lay ds h
  | .bool _, h => by simp [nb] at h
  | .list _, h => by simp [nb] at h
  | .dict _, h => by simp [nb] at h
theorem nbs_lay : ∀ ds : List PyData, nbs ds = true → PyData.canLayAll0 ds = true
  | [], _ => by simp [PyData.canLayAll0]
  | d :: ds, h => by
    rw [nbs, Bool.and_eq_true] at h
    rw [PyData.canLayAll0, nb_lay d h.1, nbs_lay ds h.2] <;> rfl
end
theorem nb_shaped {d : PyData} (h : nb d = true) (hd : d.depth ≤ 64) : SeqAt.shaped d = true := by
  unfold SeqAt.shaped
  rw [nb_lay d h, decide_eq_true hd] <;> rfl
mutual
theorem eqv_nb : ∀ d e : PyData, nb d = true → PyData.eqv d e = true → nb e = true → d = e
  | .none, e, _, h, he => by
    cases e <;> first
      | rfl
      | simp [PyData.eqv] at h
  | .int i, e, _, h, he => by
    cases e <;> first
      | (simp [PyData.eqv] at h; done)
      | (simp [nb] at he; done)
      | (simp [PyData.eqv] at h; rw [h])
  | .str i, e, _, h, he => by
    cases e <;> first
      | (simp [PyData.eqv] at h; done)
      | (simp [PyData.eqv] at h; rw [h])
  | .tuple ds, e, hd, h, he => by
    cases e with
    | tuple es =>
      rw [PyData.eqv] at h
      rw [nb] at hd he
      rw [eqvs_nb ds es hd h he]
    | _ => simp [PyData.eqv] at h
  | .bool _, _, h, _, _ => by simp [nb] at h
  | .list _, _, h, _, _ => by simp [nb] at h
  | .dict _, _, h, _, _ => by simp [nb] at h
theorem eqvs_nb : ∀ ds es : List PyData, nbs ds = true → PyData.eqvAll ds es = true → nbs es = true → ds = es
  | [], es, _, h, _ => by
    cases es with
    | nil => rfl
    | cons e es => simp [PyData.eqvAll] at h
  | d :: ds, es, hd, h, he => by
    cases es with
    | nil => simp [PyData.eqvAll] at h
    | cons e es =>
      rw [PyData.eqvAll, Bool.and_eq_true] at h
      rw [nbs, Bool.and_eq_true] at hd he
      rw [eqv_nb d e hd.1 h.1 he.1, eqvs_nb ds es hd.2 h.2 he.2]
end
theorem eqv_self {d : PyData} (h : nb d = true) : PyData.eqv d d = true := SeqAt.eqv_refl d (nb_lay d h)
theorem eqv_ne {d e : PyData} (h : nb d = true) (he : nb e = true) (n : d ≠ e) : PyData.eqv d e = false := by
  cases q : PyData.eqv d e with
  | false => rfl
  | true => exact absurd (eqv_nb d e h q he) n
theorem nbs_strs : ∀ {ss : List Str}, (∀ s ∈ ss, PyData.strOk s = true) → nbs (ss.map PyData.str) = true
  | [], _ => by simp [nbs]
  | s :: ss, h => by
    rw [List.map_cons, nbs, nb, h s List.mem_cons_self, nbs_strs fun s hs => h s (List.mem_cons_of_mem _ hs)] <;> rfl
theorem depth_strs : ∀ ss : List Str, PyData.depthAll (ss.map PyData.str) = 0
  | [] => by simp [PyData.depthAll]
  | s :: ss => by
    rw [List.map_cons, PyData.depthAll, depth_strs ss, PyData.depth] <;> rfl
/-- plain signs -/
def Asc (s : Str) : Prop := ∀ c ∈ tl s, c < 128
theorem Asc.ok {s : Str} (h : Asc s) : PyData.strOk s = true := by
  unfold PyData.strOk
  rw [Array.all_eq_true']
  intro c hc
  have := h c (by simpa using hc)
  simp only [decide_eq_true_eq]
  omega
theorem Asc.app {a b : Str} (ha : Asc a) (hb : Asc b) : Asc (a ++ b) := fun c hc => by
  rw [tl_append] at hc
  rcases List.mem_append.mp hc with hc | hc
  · exact ha c hc
  · exact hb c hc
theorem Lin.asc {s : Str} (h : Lin s) : Asc s := fun c hc => by
  have := h.sg c hc
  omega
theorem okL_mem {S : List Nat} : ∀ {l : List Nat} {p : Bool}, okL S p l = true → ∀ c ∈ l, c = 46 ∨ c ∈ S
  | [], _, _, c, hc => nomatch hc
  | d :: r, p, h, c, hc => by
    unfold okL at h
    by_cases e : d = 46
    · rw [if_pos e, Bool.and_eq_true] at h
      rcases List.mem_cons.mp hc with q | q
      · exact .inl (q.trans e)
      · exact okL_mem h.2 c q
    · rw [if_neg e, Bool.and_eq_true] at h
      rcases List.mem_cons.mp hc with q | q
      · exact .inr (q ▸ of_decide_eq_true h.1)
      · exact okL_mem h.2 c q
theorem ends_asc : ∀ c ∈ tl lEnds, c < 128 := by decide +kernel
theorem dends_asc : ∀ c ∈ tl dEnds, c < 128 := by decide +kernel
theorem Loc1.asc {s : Str} (h : Loc1 (tl lEnds) (tl s)) : Asc s := fun c hc => by
  rcases okL_mem h.ok c hc with e | e
  · omega
  · exact ends_asc c e
theorem joinL_mem {S : List Nat} : ∀ {ps : List (List Nat)} {c : Nat}, c ∈ joinL S ps → c ∈ S ∨ ∃ w ∈ ps, c ∈ w
  | [], c, h => nomatch h
  | [w], c, h => .inr ⟨w, List.mem_cons_self, h⟩
  | w :: v :: r, c, h => by
    have h : c ∈ w ++ (S ++ joinL S (v :: r)) := h
    rcases List.mem_append.mp h with h | h
    · exact .inr ⟨w, List.mem_cons_self, h⟩
    · rcases List.mem_append.mp h with h | h
      · exact .inl h
      · rcases joinL_mem h with h | ⟨u, hu, hc⟩
        · exact .inl h
        · exact .inr ⟨u, List.mem_cons_of_mem _ hu, hc⟩
theorem Dom.asc {s : Str} (h : Dom (tl s)) : Asc s := fun c hc => by
  obtain ⟨ls, e, _, _, h3⟩ := h.ex
  rw [e] at hc
  rcases joinL_mem hc with q | ⟨w, hw, q⟩
  · have := List.mem_singleton.mp q
    omega
  · rcases List.mem_cons.mp ((h3 w hw).sg c q) with q | q
    · omega
    · exact dends_asc c q
theorem tr_asc : Asc trS := by unfold Asc; decide +kernel
theorem at_asc : Asc atS := by unfold Asc; decide +kernel
theorem e_asc : Asc eS := by unfold Asc; decide +kernel
theorem dot_asc : Asc dotS := by unfold Asc; decide +kernel
theorem stuff_asc {s : Str} (h : Asc s) : Asc (stuffM s) := by
  unfold stuffM
  split
  · exact dot_asc.app h
  · exact h
/-- a tuple of texts as a datum -/
abbrev sD (ss : List Str) : PyData := .tuple (ss.map PyData.str)
theorem sD_nb {ss : List Str} (h : ∀ s ∈ ss, Asc s) : nb (sD ss) = true := by
  rw [nb]
  exact nbs_strs fun s hs => (h s hs).ok
theorem sD_shaped {ss : List Str} (h : ∀ s ∈ ss, Asc s) : SeqAt.shaped (sD ss) = true := by
  refine nb_shaped (sD_nb h) ?_
  rw [PyData.depth, depth_strs]
  omega
theorem Dq.strs {H : Hp} {p : Addr} {ss : List Str} (h : H p = some (.tup (ss.map V.str))) : Dq H (.ref p) (sD ss) := .tup h (Dqs.strs ss)
theorem flat_strs (ss : List Str) : (ss.map V.str).all flatV = true := by
  rw [List.all_eq_true]
  intro x hx
  obtain ⟨s, _, rfl⟩ := List.mem_map.mp hx
  rfl
theorem inV_no {ss : List Str} {z : Str} (h : ∀ s ∈ ss, s ≠ z) : inV (.str z) (ss.map V.str) = false := by
  unfold inV
  rw [List.any_eq_false]
  intro x hx
  obtain ⟨s, hs, rfl⟩ := List.mem_map.mp hx
  intro e
  exact h s hs (by simpa [eqV] using e)
end Dk

/-! Own classes: instances, attributes, methods. -/
namespace Dk
open PySem PySem.Spec PyProof.Rows L2
/-- the def of a method -/
def MethAt (e : Wd) (C : Addr) (m qual : Str) (st : Stmt) : Prop := ∃ f fd, FunD e.K m qual (defArgs st) (defBody st) (defScope st) [] [] f fd ∧ Meth e.K C m f ∧ Cls e.K C
/-- the def of __init__ -/
def InitAt (e : Wd) (C : Addr) (x qual : Str) (st : Stmt) : Prop := ∃ f fd, FunD e.K "__init__" qual (defArgs st) (defBody st) (defScope st) [] [] f fd ∧ Mk e.K C f ∧ e.mg x = some (.ref C)
def CanM (e : Wd) (k : Nat) (C : Addr) (m : Str) (ps : List Str) (sp : Sp) : Prop :=
  ∃ f fd, FnOk e.P e.w e.K e.mg e.base (L2.CX e.P e.w) k f fd ps sp ∧ Cls e.K C ∧ Meth e.K C m f ∧ Binds e.K fd ps []
def CanN (e : Wd) (k : Nat) (C : Addr) (x : Str) (ps : List Str) (sp : Sp) : Prop :=
  ∃ f fd, FnOk e.P e.w e.K e.mg e.base (L2.CX e.P e.w) k f fd ps sp ∧ Mk e.K C f ∧ e.mg x = some (.ref C) ∧ Binds e.K fd ps []
abbrev BindQ (x qual : Str) (st : Stmt) (ps : List Str) : Prop := ∀ (kV doc pm : Value) (an : Option Addr) (cdv ct : Value) (us : List Value), us.length = ps.length → bindArgs (PySem.W.fnOf x qual (defArgs st) (defBody st) (defScope st) .none kV doc pm an cdv ct) ⟨us, []⟩ = pure (ps.zip us)
section
variable {e : Wd} {C : Addr} {m x qual : Str} {st : Stmt} {N ps : List Str} {k : Nat} {sp : Sp}
theorem fnokQ {f : Addr} {fd : FuncData} (F : FunD e.K x qual (defArgs st) (defBody st) (defScope st) [] [] f fd) (S : FnScope N ps (defScope st)) (len : ∀ vs H Q E, sp vs H Q E → vs.length = ps.length)
    (hbody : ∀ (cdv : Value) (f : Addr) (A : Around) (outer : List Env) (s : Shared) (H : Hp) (vs : List V) (Q : VK) (E : XK), Room k (A.deeper (envOfC qual (defScope st) s.heap.objs.size f cdv)) → sp vs H Q E →
      ∃ t, PSs (cxOf (L2.CX e.P e.w) e.P e.w e.K e.mg e.base N qual (defScope st) f cdv A outer s H E).nox (defBody st) t ∧ t { nx := fun _ H' => Q .non H', rt := Q } (start N vs) H) : FnOk e.P e.w e.K e.mg e.base (L2.CX e.P e.w) (k + 1) f fd ps sp :=
  F.ok S len fun cdv A outer s H vs Q E hr h => by
    obtain ⟨t, h1, h2⟩ := hbody cdv f A outer s H vs Q E hr h
    exact ⟨t, h1.nox, h2⟩
theorem canM_of (D : MethAt e C m qual st) (S : FnScope N ps (defScope st)) (B : BindQ m qual st ps) (len : ∀ vs H Q E, sp vs H Q E → vs.length = ps.length)
    (hbody : ∀ (cdv : Value) (f : Addr) (A : Around) (outer : List Env) (s : Shared) (H : Hp) (vs : List V) (Q : VK) (E : XK), Room k (A.deeper (envOfC qual (defScope st) s.heap.objs.size f cdv)) → sp vs H Q E →
      ∃ t, PSs (cxOf (L2.CX e.P e.w) e.P e.w e.K e.mg e.base N qual (defScope st) f cdv A outer s H E).nox (defBody st) t ∧ t { nx := fun _ H' => Q .non H', rt := Q } (start N vs) H) : CanM e (k + 1) C m ps sp := by
  obtain ⟨f, fd, F, M, c⟩ := D
  exact ⟨f, fd, fnokQ F S len hbody, c, M, F.bindsN B⟩
theorem canN_of (D : InitAt e C x qual st) (S : FnScope N ps (defScope st)) (B : BindQ "__init__" qual st ps) (len : ∀ vs H Q E, sp vs H Q E → vs.length = ps.length)
    (hbody : ∀ (cdv : Value) (f : Addr) (A : Around) (outer : List Env) (s : Shared) (H : Hp) (vs : List V) (Q : VK) (E : XK), Room k (A.deeper (envOfC qual (defScope st) s.heap.objs.size f cdv)) → sp vs H Q E →
      ∃ t, PSs (cxOf (L2.CX e.P e.w) e.P e.w e.K e.mg e.base N qual (defScope st) f cdv A outer s H E).nox (defBody st) t ∧ t { nx := fun _ H' => Q .non H', rt := Q } (start N vs) H) : CanN e (k + 1) C x ps sp := by
  obtain ⟨f, fd, F, M, g⟩ := D
  exact ⟨f, fd, fnokQ F S len hbody, M, g, F.bindsN B⟩
end
section
variable {X : Cx} {E : XK} {k : Nat} {C : Addr} {m x : Str} {ps : List Str} {sp : Sp} {o e : Expr} {es : List Expr} {p pos apos : Pos} {ta : TE} {t : TA}
theorem pe_canM {pl : Sem Bool} (c : CanM (wdOf X) k C m ps sp) (hr : Room k X.A) (hx : Passes (L2.CX X.prog X.w) X E) (he : PE X o ta) (ha : PA X (e :: es) t)
    (hst : starEach (e :: es) X.env = (false, eval e X.env) :: starEach es X.env := by rfl) (hpl : (backTo pos (starEach es X.env)).any (·.1) = false := by rfl)
    (ht : eval (.Call (.Attribute o m apos) (e :: es) [] pos) X.env = (do
      let ov ← eval o X.env
      standAt apos.atName
      let (f, first) ← holding [ov] (getMethod ov m pl)
      callWith pos f first (backTo pos (starEach (e :: es) X.env)) (backToKw pos (keywordEach [] X.env))) := by rfl) : PE X (.Call (.Attribute o m apos) (e :: es) [] pos) (tMeth C m sp [] E ta t) := by
  obtain ⟨f, fd, F, c, M, b⟩ := c
  exact pe_meth he c M F hr b .nil hx ha hst hpl ht
theorem pe_canM0 {pl : Sem Bool} (c : CanM (wdOf X) k C m ps sp) (hr : Room k X.A) (hx : Passes (L2.CX X.prog X.w) X E) (he : PE X o ta)
    (ht : eval (.Call (.Attribute o m apos) [] [] pos) X.env = (do
      let ov ← eval o X.env
      standAt apos.atName
      let (f, first) ← holding [ov] (getMethod ov m pl)
      callWith pos f first (backTo pos (starEach [] X.env)) (backToKw pos (keywordEach [] X.env))) := by rfl) : PE X (.Call (.Attribute o m apos) [] [] pos) (tMeth C m sp [] E ta tNil) := by
  obtain ⟨f, fd, F, c, M, b⟩ := c
  exact pe_meth0 he c M F hr b .nil hx ht
theorem pe_canN (c : CanN (wdOf X) k C x ps sp) (hr : Room (k + 1) X.A) (hx : Passes (L2.CX X.prog X.w) X E) (ha : PA X (e :: es) t) (hg : Gl X x := by rfl) (hdb : (x == ("__debug__" : Str)) = false := by decide)
    (he : starEach (e :: es) X.env = (false, eval e X.env) :: starEach es X.env := by rfl) (hpl : (backTo pos (starEach es X.env)).any (·.1) = false := by rfl) : PE X (.Call (.Name x p) (e :: es) [] pos) (tMake C sp [] E t) := by
  obtain ⟨f, fd, F, M, g, b⟩ := c
  exact pe_make M F hr hg g b .nil hx ha hdb he hpl
theorem pe_canN0 (c : CanN (wdOf X) k C x ps sp) (hr : Room (k + 1) X.A) (hx : Passes (L2.CX X.prog X.w) X E) (hg : Gl X x := by rfl) (hdb : (x == ("__debug__" : Str)) = false := by decide) : PE X (.Call (.Name x p) [] [] pos) (tMake C sp [] E tNil) := by
  obtain ⟨f, fd, F, M, g, b⟩ := c
  exact pe_make0 M F hr hg g b .nil hx hdb
variable {K : PySem.W.Frag} {tv : TE} {value : Expr} {f : Str} {pos' : Pos}
theorem pe_fldU (he : PE X e ta) (hK : X.K = K := by rfl) (hb : attributeBase e f X.env (eval e X.env) = eval e X.env := by rfl) : PE X (.Attribute e f pos) (tFld K ta f) := by
  subst hK
  exact pe_fld he hb
theorem ps_fldU (ha : PE X o ta) (hv : PE X value tv) (hK : X.K = K := by rfl) (hs : swapsWith value (some (.Attribute o f pos')) pos.line X.env = pure false := by rfl) : PS X (.Assign [.Attribute o f pos'] value pos) (sFld K ta tv f) := by
  subst hK
  exact ps_fld ha hv hs
theorem ps_fldaugU {op : Operator} {rd : V → V → Hp → VK → Prop} {tpos : Pos} (ha : PE X o ta) (hv : PE X value tv) (hop : InOp X op rd) (hK : X.K = K := by rfl) : PS X (.AugAssign (.Attribute o f tpos) op value pos) (sFldAug K ta tv rd f) := by
  subst hK
  exact ps_fldaug ha hv hop
end
section
variable {K : PySem.W.Frag} {σ : L2.St} {H : Hp} {Q : VK} {D : Ends} {ta tb tv : TE} {t : TA} {C a dx : Addr} {f m : Str} {fs fs' : List (Str × V)} {v x y : V} {sp : Sp} {E : XK} {P : Prop}
/-- an instance of C with these attributes -/
def Ins (H : Hp) (a C : Addr) (fs : List (Str × V)) : Prop := ∃ dx, H a = some (.ins C dx fs)
theorem Ins.mono {H' : Hp} (h : Ins H a C fs) (k : ∀ o, H a = some o → H' a = some o) : Ins H' a C fs := let ⟨dx, e⟩ := h; ⟨dx, k _ e⟩
theorem Ins.same {H' : Hp} (s : Same H H') (h : Ins H a C fs) : Ins H' a C fs := let ⟨dx, e⟩ := h; ⟨dx, s _ _ e⟩
theorem Ins.stp {H' : Hp} {b : Addr} (s : Stp b H H') (hd : Drw H b) (h : Ins H a C fs) : Ins H' a C fs := by
  obtain ⟨dx, e⟩ := h
  refine ⟨dx, s.at_ e fun q => ?_⟩
  obtain ⟨u, w, z⟩ := hd
  rw [← q, e] at z
  cases z
/-- an attribute of the instance at a is written: all else stands -/
structure Fput (a : Addr) (H H' : Hp) : Prop where
  kp : ∀ b, b ≠ a → H' b = H b
  old : ∃ C fs, Ins H a C fs
theorem Fput.at_ {b : Addr} {o : HO} {H' : Hp} (f : Fput a H H') (h : H b = some o) (n : ∀ C dx fs, o ≠ .ins C dx fs) : H' b = some o := by
  rw [f.kp b fun e => ?_]
  · exact h
  · obtain ⟨C, fs, dx, q⟩ := f.old
    rw [e, q] at h
    exact n C dx fs (Option.some.inj h).symm
theorem Fput.gro {H' : Hp} (f : Fput a H H') : Gro H H' := ⟨(fun b xs e => f.at_ e fun _ _ _ z => by cases z), (fun b o u e => f.at_ e fun _ _ _ z => by cases z)⟩
theorem Fput.lst {b : Addr} {xs : List V} {H' : Hp} (f : Fput a H H') (h : H b = some (.lst xs)) : H' b = some (.lst xs) := f.at_ h fun _ _ _ z => by cases z
theorem Fput.tup {b : Addr} {xs : List V} {H' : Hp} (f : Fput a H H') (h : H b = some (.tup xs)) : H' b = some (.tup xs) := f.at_ h fun _ _ _ z => by cases z
theorem Fput.drw {b : Addr} {H' : Hp} (f : Fput a H H') (h : Drw H b) : Drw H' b := let ⟨x, y, e⟩ := h; ⟨x, y, f.lst e⟩
theorem Fput.fresh {b : Addr} {H' : Hp} {fs' : List (Str × V)} (f : Fput a H H') (hi : Ins H' a C fs') (h : H' b = none) : H b = none := by
  have n : b ≠ a := fun e => by
    obtain ⟨dx, q⟩ := hi
    rw [e, q] at h
    cases h
  rw [← f.kp b n]
  exact h
theorem Ins.fput {b C2 : Addr} {fs2 : List (Str × V)} {H' : Hp} (f : Fput b H H') (n : a ≠ b) (h : Ins H a C2 fs2) : Ins H' a C2 fs2 := let ⟨dx, e⟩ := h; ⟨dx, by rw [f.kp a n]; exact e⟩
def fldq (K : PySem.W.Frag) (f : Str) (x : V) (H : Hp) (Q : VK) : Prop := ∃ a C dx fs v, x = .ref a ∧ H a = some (.ins C dx fs) ∧ Cls K C ∧ NoAttr K C f ∧ fs.lookup f = some v ∧ Q v H
theorem r_fld (q : ta σ H fun x H1 => fldq K f x H1 Q) : tFld K ta f σ H Q := q
theorem r_fldv (h : Ins H a C fs) (c : Cls K C) (n : NoAttr K C f) (l : fs.lookup f = some v) (q : Q v H) : fldq K f (.ref a) H Q := let ⟨dx, e⟩ := h; ⟨a, C, dx, fs, v, rfl, e, c, n, l, q⟩
def sfldq (K : PySem.W.Frag) (f : Str) (y x : V) (σ : L2.St) (D : Ends) (H : Hp) : Prop := ∃ a C dx fs, x = .ref a ∧ H a = some (.ins C dx fs) ∧ Cls K C ∧ NoAttr K C f ∧ fs.length < 1000 ∧ D.nx σ (upd H a (.ins C dx (putF f y fs)))
theorem r_sfld (q : tv σ H fun y H1 => ta σ H1 fun x H2 => sfldq K f y x σ D H2) : sFld K ta tv f D σ H := q
theorem r_sfldv (h : Ins H a C fs) (c : Cls K C) (n : NoAttr K C f) (hl : fs.length < 1000) (e : putF f y fs = fs') (k : ∀ H', Ins H' a C fs' → Fput a H H' → D.nx σ H') : sfldq K f y (.ref a) σ D H := by
  obtain ⟨dx, he⟩ := h
  subst e
  exact ⟨a, C, dx, fs, rfl, he, c, n, hl, k _ ⟨dx, upd_same⟩ ⟨fun b hb => upd_ne hb, C, fs, dx, he⟩⟩
def methq (C : Addr) (m : Str) (x : V) (H : Hp) (P : Prop) : Prop := ∃ a dx fs, x = .ref a ∧ H a = some (.ins C dx fs) ∧ fs.lookup m = none ∧ P
theorem r_meth (q : ta σ H fun x H1 => methq C m x H1 (t σ H1 fun vs H2 => sp (x :: vs) H2 Q E)) : tMeth C m sp [] E ta t σ H Q := by
  show ta σ H fun x H1 => ∃ a dx fs, x = .ref a ∧ H1 a = some (.ins C dx fs) ∧ fs.lookup m = none ∧ t σ H1 fun vs H2 => sp (x :: (vs ++ [])) H2 Q E
  have e : (fun (x : V) H1 => ∃ a dx fs, x = .ref a ∧ H1 a = some (.ins C dx fs) ∧ fs.lookup m = none ∧ t σ H1 fun vs H2 => sp (x :: (vs ++ [])) H2 Q E) = fun (x : V) H1 => methq C m x H1 (t σ H1 fun vs H2 => sp (x :: vs) H2 Q E) := by
    funext x H1
    have e2 : (fun (vs : List V) H2 => sp (x :: (vs ++ [])) H2 Q E) = fun vs H2 => sp (x :: vs) H2 Q E := by
      funext vs H2
      rw [List.append_nil]
    rw [e2]
    rfl
  rw [e]
  exact q
theorem r_methv (h : Ins H a C fs) (l : fs.lookup m = none) (q : P) : methq C m (.ref a) H P := let ⟨dx, e⟩ := h; ⟨a, dx, fs, rfl, e, l, q⟩
/-- a new instance, then __init__ -/
def makeq (C : Addr) (sp : Sp) (E : XK) (vs : List V) (H : Hp) (Q : VK) : Prop := ∀ x dx, H x = none → H dx = none → dx ≠ x → sp (.ref x :: vs) (upd (upd H dx (.own x)) x (.ins C dx [])) (fun v H2 => v = .non ∧ Q (.ref x) H2) E
theorem r_make (q : t σ H fun vs H1 => makeq C sp E vs H1 Q) : tMake C sp [] E t σ H Q := by
  have e : (fun (vs : List V) (H1 : Hp) => ∀ x dx, H1 x = none → H1 dx = none → dx ≠ x → sp (.ref x :: (vs ++ [])) (upd (upd H1 dx (.own x)) x (.ins C dx [])) (fun v H2 => v = .non ∧ Q (.ref x) H2) E) = fun (vs : List V) (H1 : Hp) => makeq C sp E vs H1 Q := by
    funext vs H1
    rw [List.append_nil]
    rfl
  show t σ H fun (vs : List V) (H1 : Hp) => ∀ x dx, H1 x = none → H1 dx = none → dx ≠ x → sp (.ref x :: (vs ++ [])) (upd (upd H1 dx (.own x)) x (.ins C dx [])) (fun v H2 => v = .non ∧ Q (.ref x) H2) E
  rw [e]
  exact q
theorem r_makev {vs : List V} (k : ∀ x H', H x = none → Same H H' → Ins H' x C [] → sp (.ref x :: vs) H' (fun v H2 => v = .non ∧ Q (.ref x) H2) E) : makeq C sp E vs H Q := fun x dx nx nd ne =>
  k x _ nx (fun b o e => by rw [upd_ne (ne_of_none e nx), upd_ne (ne_of_none e nd)]; exact e) ⟨dx, upd_same⟩
theorem r_non (q : P) : V.non = V.non ∧ P := ⟨rfl, q⟩
end
/-! looking up in short lists of attributes -/
theorem lk_hd {f : Str} {v : V} {r : List (Str × V)} : List.lookup f ((f, v) :: r) = some v := by
  have e : (f == f) = true := beq_self_eq_true f
  simp only [List.lookup, e]
theorem lk_tl {f g : Str} {v : V} {r : List (Str × V)} {o : Option V} (h : (f == g) = false) (e : r.lookup f = o) : List.lookup f ((g, v) :: r) = o := by
  simp only [List.lookup, h]
  exact e
theorem lk_nil {f : Str} : List.lookup f ([] : List (Str × V)) = none := rfl
theorem pf_nil {f : Str} {v : V} : putF f v [] = [(f, v)] := rfl
theorem pf_hd {f : Str} {v x : V} {r : List (Str × V)} : putF f v ((f, x) :: r) = (f, v) :: r := by
  rw [putF, if_pos rfl]
theorem pf_tl {f g : Str} {v x : V} {r r' : List (Str × V)} (h : (g == f) = false) (e : putF f v r = r') : putF f v ((g, x) :: r) = (g, x) :: r' := by
  rw [putF, if_neg (beq_eq_false_iff_ne.mp h), e]
section
variable {X : Cx} {K : PySem.W.Frag} {H : Hp} {Q : VK}
theorem call_strU : CallR X (.type "str") uStr := by
  refine callw (call_str_int.or SkE.call_str_str) fun xs H Q h => ?_
  match xs, h with
  | [.int i], h => exact .inl ⟨_, rfl, h.1, h.2⟩
  | [.str a], h => exact .inr ⟨_, rfl, h⟩
theorem r_strI {n : Int} (h : n.natAbs.log2 < 1920) (q : Q (.str (toString n)) H) : uStr [.int n] H Q := ⟨h, q⟩
theorem r_strS {s : Str} (q : Q (.str s) H) : uStr [.str s] H Q := q
end
theorem inV_str (ss : List Str) (z : Str) : inV (.str z) (ss.map V.str) = decide (z ∈ ss) := by
  by_cases h : z ∈ ss
  · rw [decide_eq_true h]
    unfold inV
    rw [List.any_eq_true]
    exact ⟨.str z, List.mem_map_of_mem h, by simp [eqV]⟩
  · rw [decide_eq_false h]
    exact inV_no fun s hs e => h (e ▸ hs)
section
variable {K : PySem.W.Frag} {H : Hp} {Q : VK} {p : Addr} {ss : List Str} {z : Str}
theorem r_inTs (h : H p = some (.tup (ss.map V.str))) (q : Q (.bl (decide (z ∈ ss))) H) : uIn K (.str z) (.ref p) H Q := r_inT h rfl (flat_strs _) (by rw [inV_str]; exact q)
theorem r_inLs (h : H p = some (.lst (ss.map V.str))) (q : Q (.bl (decide (z ∈ ss))) H) : uIn K (.str z) (.ref p) H Q := r_inL h rfl (flat_strs _) (by rw [inV_str]; exact q)
end
section
variable {K : PySem.W.Frag} {H : Hp} {Q : VK} {p : Addr} {z : Str} {n : Int} {b : Bool}
theorem r_isNN (q : Q (.bl true) H) : uIs .non .non H Q := q
theorem r_isNS (q : Q (.bl false) H) : uIs (.str z) .non H Q := q
theorem r_isNI (q : Q (.bl false) H) : uIs (.int n) .non H Q := q
theorem r_isNR (q : Q (.bl false) H) : uIs (.ref p) .non H Q := q
theorem r_isNB (q : Q (.bl false) H) : uIs (.bl b) .non H Q := q
theorem r_isnotNN (q : Q (.bl false) H) : uIsNot .non .non H Q := q
theorem r_isnotNS (q : Q (.bl true) H) : uIsNot (.str z) .non H Q := q
theorem r_isnotNI (q : Q (.bl true) H) : uIsNot (.int n) .non H Q := q
theorem r_isnotNR (q : Q (.bl true) H) : uIsNot (.ref p) .non H Q := q
theorem r_isnotNB (q : Q (.bl true) H) : uIsNot (.bl b) .non H Q := q
end
/-! data that may be compared -/
structure Okd (n : Nat) (d : PyData) : Prop where
  nb : nb d = true
  dp : d.depth ≤ n
theorem Okd.le {n m : Nat} {d : PyData} (h : Okd n d) (k : n ≤ m) : Okd m d := ⟨h.nb, Nat.le_trans h.dp k⟩
theorem Okd.str {n : Nat} {s : Str} (h : Asc s) : Okd n (.str s) := ⟨by rw [Dk.nb]; exact h.ok, by simp [PyData.depth]⟩
theorem Okd.non {n : Nat} : Okd n .none := ⟨by simp [Dk.nb], by simp [PyData.depth]⟩
theorem Okd.int {n : Nat} (i : Int) : Okd n (.int i) := ⟨by simp [Dk.nb], by simp [PyData.depth]⟩
theorem okd_all {n : Nat} : ∀ {ds : List PyData}, (∀ d ∈ ds, Okd n d) → nbs ds = true ∧ PyData.depthAll ds ≤ n
  | [], _ => ⟨by simp [nbs], by simp [PyData.depthAll]⟩
  | d :: ds, h => by
    have h1 := h d List.mem_cons_self
    have h2 := okd_all fun e he => h e (List.mem_cons_of_mem _ he)
    refine ⟨by rw [nbs, h1.nb, h2.1] <;> rfl, ?_⟩
    rw [PyData.depthAll]
    have := h1.dp
    omega
theorem Okd.tup {n : Nat} {ds : List PyData} (h : ∀ d ∈ ds, Okd n d) : Okd (n + 1) (.tuple ds) := by
  have q := okd_all h
  refine ⟨by rw [Dk.nb]; exact q.1, ?_⟩
  rw [PyData.depth]
  omega
theorem Okd.shaped {n : Nat} {d : PyData} (h : Okd n d) (k : n ≤ 64) : SeqAt.shaped d = true := nb_shaped h.nb (Nat.le_trans h.dp k)
theorem Okd.sD {n : Nat} {ss : List Str} (h : ∀ s ∈ ss, Asc s) : Okd (n + 1) (sD ss) := by
  refine .tup fun d hd => ?_
  obtain ⟨s, hs, rfl⟩ := List.mem_map.mp hd
  exact .str (h s hs)
section
variable {K : PySem.W.Frag} {H : Hp} {Q : VK} {p : Addr} {y : V} {d f : PyData} {n : Nat}
theorem r_neOk (hx : Dq H (.ref p) d) (hy : Dq H y d) (ok : Okd n d) (hn : n ≤ 64) (q : Q (.bl false) H) : uNe K (.ref p) y H Q := by
  refine r_neD hx hy (ok.shaped hn) (ok.shaped hn) ?_
  rw [eqv_self ok.nb]
  exact q
theorem r_eqOk (hx : Dq H (.ref p) d) (hy : Dq H y d) (ok : Okd n d) (hn : n ≤ 64) (q : Q (.bl true) H) : uEq K (.ref p) y H Q := by
  refine r_eqD hx hy (ok.shaped hn) (ok.shaped hn) ?_
  rw [eqv_self ok.nb]
  exact q
end
theorem len_cut (z : Str) (lo hi : Option Int) : (cutS z lo hi).length ≤ z.length := by
  show (((z.cps.toList.drop _).take _).toArray).size ≤ z.cps.size
  rw [List.size_toArray, List.length_take, List.length_drop, Array.length_toList]
  omega
/-- a list alone is changed -/
theorem gro_but {H H' : Hp} {a : Addr} {xs : List V} (h : H a = some (.lst xs)) (k : ∀ b, b ≠ a → H' b = H b) : Gro H H' := by
  refine ⟨fun b ys q => ?_, fun b o u q => ?_⟩
  · rw [k b (ne_of q h (by intro z; cases z))]
    exact q
  · rw [k b (ne_of q h (by intro z; cases z))]
    exact q
/-! an attribute changed by an operator -/
section
variable {K : PySem.W.Frag} {σ : L2.St} {H : Hp} {D : Ends} {ta tv : TE} {C a : Addr} {f : Str} {fs fs' : List (Str × V)} {v x y z : V} {rd : V → V → Hp → VK → Prop}
def augq (K : PySem.W.Frag) (f : Str) (tv : TE) (rd : V → V → Hp → VK → Prop) (x : V) (σ : L2.St) (D : Ends) (H1 : Hp) : Prop := ∃ a C dx fs v, x = .ref a ∧ H1 a = some (.ins C dx fs) ∧ Cls K C ∧ NoAttr K C f ∧ fs.lookup f = some v ∧
  tv σ H1 fun y H2 => rd v y H2 fun z H3 => ∃ dx' fs', H3 a = some (.ins C dx' fs') ∧ fs'.length < 1000 ∧ D.nx σ (upd H3 a (.ins C dx' (putF f z fs')))
def putq (a C : Addr) (f : Str) (σ : L2.St) (D : Ends) : VK := fun z H3 => ∃ dx' fs', H3 a = some (.ins C dx' fs') ∧ fs'.length < 1000 ∧ D.nx σ (upd H3 a (.ins C dx' (putF f z fs')))
theorem r_fldaug (q : ta σ H fun x H1 => augq K f tv rd x σ D H1) : sFldAug K ta tv rd f D σ H := q
theorem r_augq (h : Ins H a C fs) (c : Cls K C) (n : NoAttr K C f) (l : fs.lookup f = some v) (q : tv σ H fun y H2 => rd v y H2 (putq a C f σ D)) : augq K f tv rd (.ref a) σ D H := let ⟨dx, e⟩ := h; ⟨a, C, dx, fs, v, rfl, e, c, n, l, q⟩
theorem r_inAdd {i j : Int} {Q : VK} (q : Q (.int (i + j)) H) : rAdd (.int i) (.int j) H Q := ⟨i, j, rfl, rfl, q⟩
theorem r_inSub {i j : Int} {Q : VK} (q : Q (.int (i - j)) H) : rSub (.int i) (.int j) H Q := ⟨i, j, rfl, rfl, q⟩
theorem r_putq (h : Ins H a C fs) (hl : fs.length < 1000) (e : putF f z fs = fs') (k : ∀ H', Ins H' a C fs' → Fput a H H' → D.nx σ H') : putq a C f σ D z H := by
  obtain ⟨dx, he⟩ := h
  subst e
  exact ⟨dx, fs, he, hl, k _ ⟨dx, upd_same⟩ ⟨fun b hb => upd_ne hb, C, fs, dx, he⟩⟩
end
theorem get_mapG {α β : Type} {f : α → β} {xs : List α} {i : Nat} {y : β} (h : (xs.map f)[i]? = some y) : ∃ x, xs[i]? = some x ∧ f x = y := by
  rw [List.getElem?_map] at h
  cases e : xs[i]? with
  | none =>
    rw [e] at h
    cases h
  | some x =>
    rw [e] at h
    exact ⟨x, rfl, Option.some.inj h⟩
end Dk

/-! Defs that raise, own exceptions, except clauses. -/
namespace Dk
open PySem PySem.Spec PyProof.Rows L2
/-- an exception class of the program without its own __init__ -/
def Xco (K : PySem.W.Frag) (C : Addr) : Prop := PySem.W.excIn K C He.veBase "ValueError.__new__" = true ∧ PySem.W.keepIn K (.ref C) = true ∧ PySem.W.subIn K (.ref C) (.type "BaseException") = some true ∧ PySem.W.typeIn K (.ref C) = some (.type "type")
section
variable {e : Wd} {C : Addr} {m x qual : Str} {st : Stmt} {N ps : List Str} {k : Nat} {sp : Sp}
abbrev cxX (e : Wd) (N : List Str) (qual : Str) (scope : Scope) (f : Addr) (cdv : Value) (A : Around) (outer : List Env) (s : Shared) (H : Hp) (E : XK) : Cx := cxOf (L2.CX e.P e.w) e.P e.w e.K e.mg e.base N qual scope f cdv A outer s H E
/-- what a raising body has to show -/
abbrev BodyX (e : Wd) (qual : Str) (st : Stmt) (N : List Str) (k : Nat) (sp : Sp) : Prop :=
  ∀ (cdv : Value) (f : Addr) (A : Around) (outer : List Env) (s : Shared) (H : Hp) (vs : List V) (Q : VK) (E : XK), Room k (A.deeper (envOfC qual (defScope st) s.heap.objs.size f cdv)) → sp vs H Q E →
    Takes (cxX e N qual (defScope st) f cdv A outer s H E) (fun cls d _ H' => E cls d H') → PassesOwn (model e.P e.w) (cxX e N qual (defScope st) f cdv A outer s H E).A (cxX e N qual (defScope st) f cdv A outer s H E).env (cxX e N qual (defScope st) f cdv A outer s H E).xe →
    ∃ t, PSs (cxX e N qual (defScope st) f cdv A outer s H E) (defBody st) t ∧ t { nx := fun _ H' => Q .non H', rt := Q } (start N vs) H
theorem fnokX {f : Addr} {fd : FuncData} (F : FunD e.K x qual (defArgs st) (defBody st) (defScope st) [] [] f fd) (S : FnScope N ps (defScope st)) (len : ∀ vs H Q E, sp vs H Q E → vs.length = ps.length) (hb : BodyX e qual st N k sp) : FnOk e.P e.w e.K e.mg e.base (L2.CX e.P e.w) (k + 1) f fd ps sp :=
  F.ok S len fun cdv A outer s H vs Q E hr h => hb cdv f A outer s H vs Q E hr h (takes_of rfl rfl rfl rfl) (passes_of rfl)
theorem canX_of (D : DefAt e x st) (S : FnScope N ps (defScope st)) (B : BindOk x st ps) (len : ∀ vs H Q E, sp vs H Q E → vs.length = ps.length) (hb : BodyX e x st N k sp) : Can e (k + 1) x ps sp := by
  obtain ⟨f, fd, F, m⟩ := D
  exact ⟨f, fd, fnokX F S len hb, m, F.kp, F.bindsN B⟩
theorem canMX_of (D : MethAt e C m qual st) (S : FnScope N ps (defScope st)) (B : BindQ m qual st ps) (len : ∀ vs H Q E, sp vs H Q E → vs.length = ps.length) (hb : BodyX e qual st N k sp) : CanM e (k + 1) C m ps sp := by
  obtain ⟨f, fd, F, M, c⟩ := D
  exact ⟨f, fd, fnokX F S len hb, c, M, F.bindsN B⟩
end
/-! ### calls that may raise -/
section
variable {X : Cx} {W : WX} {k : Nat} {C : Addr} {m x : Str} {ps : List Str} {sp : Sp} {o e : Expr} {es : List Expr} {p pos apos : Pos} {ta : TE} {t : TA}
theorem pe_canX (tk : Takes X W) (c : Can (wdOf X) k x ps sp) (hr : Room k X.A) (ha : PA X (e :: es) t) (hg : Gl X x := by rfl)
    (hdb : (x == ("__debug__" : Str)) = false := by decide) (he : starEach (e :: es) X.env = (false, eval e X.env) :: starEach es X.env := by rfl) (hpl : (backTo pos (starEach es X.env)).any (·.1) = false := by rfl) : PE X (.Call (.Name x p) (e :: es) [] pos) (tCallS sp (WE W) t) := by
  obtain ⟨f, fd, F, m, kp, b⟩ := c
  exact pe_callS F hr hg m kp b (fun σ => passAt tk σ) ha hdb he hpl
theorem pe_canX0 (tk : Takes X W) (c : Can (wdOf X) k x ps sp) (hr : Room k X.A) (hg : Gl X x := by rfl) (hdb : (x == ("__debug__" : Str)) = false := by decide) : PE X (.Call (.Name x p) [] [] pos) (tCallS sp (WE W) tNil) := by
  obtain ⟨f, fd, F, m, kp, b⟩ := c
  exact ⟨fun pins s σ H Q I h => wpAny_Call_Name_kw (ld_glob I hg m (PySem.W.callWith_K0 I.kIn kp (run_fnS (us := []) F hr b (passAt tk σ) I .nil h)) hdb)⟩
/-- o.m(..) that may raise -/
def tMethX (C : Addr) (m : Str) (sp : Sp) (E : L2.St → XK) (ta : TE) (t : TA) : TE := fun σ H Q => ta σ H fun x H1 => methq C m x H1 (t σ H1 fun vs H2 => sp (x :: vs) H2 Q (E σ))
theorem pe_canMX {pl : Sem Bool} (tk : Takes X W) (c : CanM (wdOf X) k C m ps sp) (hr : Room k X.A) (he : PE X o ta) (ha : PA X (e :: es) t)
    (hst : starEach (e :: es) X.env = (false, eval e X.env) :: starEach es X.env := by rfl) (hpl : (backTo pos (starEach es X.env)).any (·.1) = false := by rfl)
    (ht : eval (.Call (.Attribute o m apos) (e :: es) [] pos) X.env = (do let ov ← eval o X.env; standAt apos.atName; let (f, first) ← holding [ov] (getMethod ov m pl); callWith pos f first (backTo pos (starEach (e :: es) X.env)) (backToKw pos (keywordEach [] X.env))) := by rfl) :
    PE X (.Call (.Attribute o m apos) (e :: es) [] pos) (tMethX C m sp (WE W) ta t) := by
  obtain ⟨f, fd, F, c, M, b⟩ := c
  refine ⟨fun pins s σ H Q I h => PySem.W.methodCall_KW (pl := pl) (thn (he.run pins s σ H _ I h) fun u s1 ⟨x, H1, I1, rx, a, dx, fs, ex, ea, l, q⟩ => ?_) ht⟩
  cases ex
  cases rx
  exact getmeth_ok I1 ea c M l (PySem.W.callWith_K (first := [.ref a]) (h₀ := X.base) I.ok.mod.kin M.kp (thn (ha.run pos pins s1 σ H1 _ I1 q) fun us s2 ⟨vs, H2, I2, r, q2⟩ => ⟨I2.kIn, run_fnS (us := .ref a :: us) (vs := .ref a :: vs) F hr b (passAt tk σ) I2 (.cons rfl r) q2⟩) hst hpl)
theorem pe_canMX0 {pl : Sem Bool} (tk : Takes X W) (c : CanM (wdOf X) k C m ps sp) (hr : Room k X.A) (he : PE X o ta)
    (ht : eval (.Call (.Attribute o m apos) [] [] pos) X.env = (do let ov ← eval o X.env; standAt apos.atName; let (f, first) ← holding [ov] (getMethod ov m pl); callWith pos f first (backTo pos (starEach [] X.env)) (backToKw pos (keywordEach [] X.env))) := by rfl) :
    PE X (.Call (.Attribute o m apos) [] [] pos) (tMethX C m sp (WE W) ta tNil) := by
  obtain ⟨f, fd, F, c, M, b⟩ := c
  refine ⟨fun pins s σ H Q I h => PySem.W.methodCall_KW (pl := pl) (thn (he.run pins s σ H _ I h) fun u s1 ⟨x, H1, I1, rx, a, dx, fs, ex, ea, l, q⟩ => ?_) ht⟩
  cases ex
  cases rx
  exact getmeth_ok I1 ea c M l (PySem.W.callWith_K0 (first := [.ref a]) I1.kIn M.kp (run_fnS (us := [.ref a]) (vs := [.ref a]) F hr b (passAt tk σ) I1 (.cons rfl .nil) q))
end
/-! ### raise -/
section
variable {X : Cx} {W : WX} {K : PySem.W.Frag} {C : Addr} {x : Str} {e : Expr} {p pos : Pos} {ta : TE} {t : L2.St → Hp → XK → Prop} {D : Ends} {σ : L2.St} {H : Hp} {cls : Value} {d : Option Addr} {i : Nat} {ts : Addr → Value → Option Addr → TS} {Wout : WX}
def tMk0 (C : Addr) : L2.St → Hp → XK → Prop := fun _ H Q => Q (.ref C) none H
def tMk1 (C : Addr) (ta : TE) : L2.St → Hp → XK → Prop := fun σ H Q => ta σ H fun _ H1 => Q (.ref C) none H1
theorem mk0 (xo : Xco X.K C) (g : X.mg x = some (.ref C)) (hg : Gl X x := by rfl) (hdb : (x == ("__debug__" : Str)) = false := by decide) : PMk X (.Call (.Name x p) [] [] pos) (tMk0 C) := by
  obtain ⟨h1, h2, h3, h4⟩ := xo
  intro pins s σ H Q I h
  obtain ⟨bm, N, nm, qn, bs, hdct, sn, sub, ab, col, dd, k0, k1, k2, k3, k5, mN, hC, hN, hni, T⟩ := exc_obj I.kIn h1
  refine wpAny_Call_Name_kw (ld_glob I hg g (PySem.W.callWith_K0 I.kIn h2 ?_) hdb)
  show wpAny _ _ (call (.ref C) []) _ _ _
  exact wpAny_call_exc_subT PySem.F.excBase_ValueError T hC hN hni (fun h' e hm => mk_of I hm (raises_own h3 h4) h (I.hok.gone hm.new)) (Nat.zero_le _)
theorem mk1 (xo : Xco X.K C) (g : X.mg x = some (.ref C)) (he : PE X e ta) (hg : Gl X x := by rfl) (hs : starEach [e] X.env = (false, eval e X.env) :: starEach [] X.env := by rfl) (hdb : (x == ("__debug__" : Str)) = false := by decide) :
    PMk X (.Call (.Name x p) [e] [] pos) (tMk1 C ta) := by
  obtain ⟨h1, h2, h3, h4⟩ := xo
  exact SkE.pmk_own1 PySem.F.excBase_ValueError h1 g h2 (raises_own h3 h4) hg he hs hdb
def tRaise (t : L2.St → Hp → XK → Prop) (W : WX) : TS := fun _ σ H => t σ H fun cls d H' => W cls d σ H'
theorem ps_raiseU (hc : X.calm = true) (tk : Takes X W) (he : PMk X e t) : PS X (.Raise (some e) none pos) (tRaise t W) := ps_raise hc tk he
/-- a statement that is not reached -/
theorem ps_never {s : Stmt} : PS X s (fun _ _ _ => False) := ⟨fun _ _ _ _ _ _ h => h.elim⟩
theorem r_raise0 (q : W (.ref C) none σ H) : tRaise (tMk0 C) W D σ H := q
theorem r_raise1 (q : ta σ H fun _ H1 => W (.ref C) none σ H1) : tRaise (tMk1 C ta) W D σ H := q
/-! ### except clauses -/
/-- what an exception finds: the clause, or nothing -/
def tTryA (K : PySem.W.Frag) (c : Value) (i : Nat) (ts : Addr → Value → Option Addr → TS) (Wout : WX) (tb : WX → TS) : TS := fun D σ H => tb (wAs K c i ts Wout D) D σ H
def tTryO (K : PySem.W.Frag) (c : Value) (ts : Addr → Value → Option Addr → TS) (Wout : WX) (tb : WX → TS) : TS := fun D σ H => tb (wOnly K c ts Wout D) D σ H
theorem r_tryA {tb : WX → TS} (q : tb (wAs K (.ref C) i ts Wout D) D σ H) : tTryA K (.ref C) i ts Wout tb D σ H := q
theorem r_tryO {tb : WX → TS} (q : tb (wOnly K (.ref C) ts Wout D) D σ H) : tTryO K (.ref C) ts Wout tb D σ H := q
theorem r_wAsT {c : Value} (h : PySem.W.exmOne K cls c = some true) (k : ∀ a, H a = none → ts a cls d { nx := fun σ' H' => D.nx (σ'.set i none) H', rt := D.rt, bk := fun σ' H' => D.bk (σ'.set i none) H', ct := fun σ' H' => D.ct (σ'.set i none) H' } (σ.set i (some (.ref a))) H) : wAs K c i ts Wout D cls d σ H :=
  ⟨true, h, fun _ => k, (fun z => absurd z.symm Bool.false_ne_true)⟩
theorem r_wAsF {c : Value} (h : PySem.W.exmOne K cls c = some false) (k : Wout cls d σ H) : wAs K c i ts Wout D cls d σ H := ⟨false, h, (fun z => absurd z Bool.false_ne_true), fun _ => k⟩
theorem r_wOnlyT {c : Value} (h : PySem.W.exmOne K cls c = some true) (k : ∀ a, H a = none → ts a cls d D σ H) : wOnly K c ts Wout D cls d σ H := ⟨true, h, fun _ => k, (fun z => absurd z.symm Bool.false_ne_true)⟩
theorem r_wOnlyF {c : Value} (h : PySem.W.exmOne K cls c = some false) (k : Wout cls d σ H) : wOnly K c ts Wout D cls d σ H := ⟨false, h, (fun z => absurd z Bool.false_ne_true), fun _ => k⟩
/-- isinstance(e, a class) of the exception in hand -/
def rIsX (K : PySem.W.Frag) (cls : Value) (d : Option Addr) (a : Addr) : List V → Hp → VK → Prop := fun xs H Q => ∃ D, cls = .ref D ∧ d = none ∧ ExcC K D ∧ rIsE K D a xs H Q
theorem call_isX {a : Addr} {oe : Obj} {pn : List (Addr × Obj)} (hz : Zc cls d oe) (hf : ∃ vs, oe.data = .fields vs) (hK : X.K = K := by rfl) : CallR (X.suite a ((a, oe) :: pn)) (.builtin "isinstance") (rIsX K cls d a) := by
  subst hK
  intro pins s σ H xs us Q I r ⟨D, e1, e2, c, q⟩
  subst e1 e2
  exact call_isE c hz hf pins s σ H xs us Q I r q
theorem r_isX {a D2 : Addr} {b : Bool} {Q : VK} (h : ExcC K C) (hk : PySem.W.kitOne K (.ref C) (.ref D2) = some b) (q : Q (.bl b) H) : rIsX K (.ref C) none a [.ref a, .ref D2] H Q :=
  ⟨C, rfl, rfl, h, .ref D2, .ref D2, b, rfl, fun u r => r, hk, q⟩
theorem r_isXt {a : Addr} {n : String} {b : Bool} {Q : VK} (h : ExcC K C) (hk : PySem.W.kitOne K (.ref C) (.type n) = some b) (q : Q (.bl b) H) : rIsX K (.ref C) none a [.ref a, .ty n] H Q :=
  ⟨C, rfl, rfl, h, .ty n, .type n, b, rfl, fun u r => r, hk, q⟩
end
/-! ### readings of calls that may raise -/
section
variable {σ : L2.St} {H : Hp} {Q : VK} {ta : TE} {t : TA} {C : Addr} {m : Str} {sp : Sp} {E : L2.St → XK} {W : WX}
theorem r_callS (q : t σ H fun vs H1 => sp vs H1 Q (E σ)) : tCallS sp E t σ H Q := q
theorem r_methX (q : ta σ H fun x H1 => methq C m x H1 (t σ H1 fun vs H2 => sp (x :: vs) H2 Q (E σ))) : tMethX C m sp E ta t σ H Q := q
end
section
variable {X : Cx} {K : PySem.W.Frag} {x n : Str} {C : Addr} {i : Nat} {body suite : List Stmt} {b₀ : Stmt} {np pos pos' : Pos} {tb : WX → TS} {ts : Addr → Value → Option Addr → TS} {Wout : WX}
theorem ps_tryA (hs : X.stack = X.env :: X.outer) (hf : X.env.frame = some X.env.locals) (hN : X.N.Nodup) (hi : X.N[i]? = some n) (hln : X.env.kindOf n = some .local) (hc : Names X x (.ref C)) (tk : Takes X Wout)
    (hb : ∀ (W : WX) (pn : List (Addr × Obj)) (xe : Value → Shared → Prop), Takes (X.tr pn xe) W → PassesOwn (model X.prog X.w) X.A X.env xe → PSs (X.tr pn xe) body (tb W))
    (hsu : ∀ (a : Addr) (oe : Obj) (cls : Value) (d : Option Addr) (pn : List (Addr × Obj)), Zc cls d oe → (∃ vs, oe.data = .fields vs) → PSs (X.suite a ((a, oe) :: pn)) (b₀ :: suite) (ts a cls d)) (hK : X.K = K := by rfl) :
    PS X (.Try body [.ExceptHandler (some (.Name x np)) (some n) (b₀ :: suite) pos'] [] [] pos) (tTryA K (.ref C) i ts Wout tb) := by
  subst hK
  exact ps_try_as hs hf hN hi hln hc tk hb hsu
theorem ps_tryO (hs : X.stack = X.env :: X.outer) (hf : X.env.frame = some X.env.locals) (hc : Names X x (.ref C)) (tk : Takes X Wout)
    (hb : ∀ (W : WX) (pn : List (Addr × Obj)) (xe : Value → Shared → Prop), Takes (X.tr pn xe) W → PassesOwn (model X.prog X.w) X.A X.env xe → PSs (X.tr pn xe) body (tb W))
    (hsu : ∀ (a : Addr) (oe : Obj) (cls : Value) (d : Option Addr) (pn : List (Addr × Obj)), Zc cls d oe → (∃ vs, oe.data = .fields vs) → PSs (X.suite a ((a, oe) :: pn)) (b₀ :: suite) (ts a cls d)) (hK : X.K = K := by rfl) :
    PS X (.Try body [.ExceptHandler (some (.Name x np)) none (b₀ :: suite) pos'] [] [] pos) (tTryO K (.ref C) ts Wout tb) := by
  subst hK
  exact ps_try_only hs hf hc tk hb hsu
/-- a class of the module by its name -/
theorem pe_gc (h : X.mg x = some (.ref C)) (hg : Gl X x := by rfl) (hd : (x == ("__debug__" : Str)) = false := by decide) : PE X (.Name x pos) (tC (.ref C)) := pe_glob hg h rfl hd
def uAll (K : PySem.W.Frag) : List V → Hp → VK → Prop := fun vs H Q => ∃ (a : Addr) (bs : List Bool), vs = [V.ref a] ∧ SqL K H a (bs.map V.bl) ∧ Q (.bl (bs.all id)) H
def uAny (K : PySem.W.Frag) : List V → Hp → VK → Prop := fun vs H Q => ∃ (a : Addr) (bs : List Bool), vs = [V.ref a] ∧ SqL K H a (bs.map V.bl) ∧ Q (.bl (bs.any id)) H
theorem call_allU (hc : X.calm = true) (hK : X.K = K := by rfl) : CallR X (.builtin "all") (uAll K) := by
  subst hK
  exact cr_all hc
theorem call_anyU (hc : X.calm = true) (hK : X.K = K := by rfl) : CallR X (.builtin "any") (uAny K) := by
  subst hK
  exact cr_any hc
variable {H : Hp} {Q : VK} {a : Addr} {bs : List Bool}
theorem r_all (h : H a = some (.lst (bs.map V.bl))) (q : Q (.bl (bs.all id)) H) : uAll K [.ref a] H Q := ⟨a, bs, rfl, SqL.of h, q⟩
theorem r_any (h : H a = some (.lst (bs.map V.bl))) (q : Q (.bl (bs.any id)) H) : uAny K [.ref a] H Q := ⟨a, bs, rfl, SqL.of h, q⟩
end
end Dk

/-! The head's facts with tests of one's own beside the kit's. -/
namespace Dk
open PySem PySem.Spec PyProof.Rows L2
abbrev Prd : Type := PySem.W.Frag → Bool
def obsB (fa : List He.Fa) (fb : List Prd) (fn : List He.DefD) (K : PySem.W.Frag) : He.AlD := ((He.obsD fa fn K).1 && fb.all (fun p => p K), (He.obsD fa fn K).2)
def SaysB (fa : List He.Fa) (fb : List Prd) (fn : List He.DefD) (K : PySem.W.Frag) : Prop := obsB fa fb fn K = He.valD fn
def obsBG (n : Nat) (fa : List He.Fa) (fb : List Prd) (fn : List He.DefD) (g : Addr → Option Obj) : He.AlD := obsB fa fb fn (He.frG g (He.asD g n))
def hookB (n : Nat) (fa : List He.Fa) (fb : List Prd) (fn : List He.DefD) : PySem.W.Hook where
  α := He.AlD
  obs := fun s => obsBG n fa fb fn s.heap.get?
  val := fun _ => He.valD fn
  says := fun _ h => ∃ K : PySem.W.Frag, K.In h ∧ SaysB fa fb fn K
  of := fun _ _ q => ⟨_, He.frG_in, q⟩
  keeps := fun _ _ _ ⟨K, i, c⟩ k => ⟨K, PySem.W.Frag.In.keeps i k, c⟩
theorem obsBG_eq {n : Nat} {fa : List He.Fa} {fb : List Prd} {fn : List He.DefD} {g : Addr → Option Obj} {s : Shared} (h : ∀ a, g a = s.heap.get? a) : obsBG n fa fb fn g = (hookB n fa fb fn).obs s := by
  have q : g = s.heap.get? := funext h
  rw [q] <;> rfl
theorem SaysB.d {fa : List He.Fa} {fb : List Prd} {fn : List He.DefD} {K : PySem.W.Frag} (c : SaysB fa fb fn K) : He.SaysD fa fn K ∧ ∀ (i : Nat) (p : Prd), fb[i]? = some p → p K = true := by
  have h1 : ((He.obsD fa fn K).1 && fb.all (fun p => p K)) = true := congrArg (fun z : He.AlD => z.1) c
  have h2 : (He.obsD fa fn K).2 = fn.map He.DefD.val := congrArg (fun z : He.AlD => z.2) c
  obtain ⟨k1, k2⟩ := He.ba h1
  exact ⟨Prod.ext k1 h2, fun i p q => List.all_eq_true.mp k2 p (List.mem_of_getElem? q)⟩
/-! ### what is asked of exception classes -/
def pExcC (x : Str) : Prd := fun K => He.eqO (PySem.W.findIn K (.ref (He.ga K x)) "__getattribute__") (some (some (.builtin "BaseException.__getattribute__"))) && (He.eqO (PySem.W.findIn K (.ref (He.ga K x)) "__getattr__") (some none) &&
  (decide (PySem.W.subIn K (.ref (He.ga K x)) (.type "BaseException") = some true) && (PySem.W.hasDictIn K (He.ga K x) && (He.eqO (PySem.W.findIn K (.ref (He.ga K x)) "__class__") (some (some (.builtin "object.__class__"))) &&
  (He.eqO (PySem.W.specialIn K (.builtin "object.__class__") "__get__") (some (some (.builtin "getset_descriptor.__get__"))) && (decide (PySem.W.takesIn K (.builtin "object.__class__") = some true) && decide (PySem.W.mroIn K (He.ga K x) (.type "object") = some true)))))))
theorem pExcC_ok {K : PySem.W.Frag} {x : Str} (h : pExcC x K = true) : ExcC K (He.ga K x) := by
  obtain ⟨a1, h⟩ := He.ba h
  obtain ⟨a2, h⟩ := He.ba h
  obtain ⟨a3, h⟩ := He.ba h
  obtain ⟨a4, h⟩ := He.ba h
  obtain ⟨a5, h⟩ := He.ba h
  obtain ⟨a6, h⟩ := He.ba h
  obtain ⟨a7, a8⟩ := He.ba h
  exact ⟨He.eqO_ok a1, He.eqO_ok a2, of_decide_eq_true a3, a4, He.eqO_ok a5, He.eqO_ok a6, of_decide_eq_true a7, of_decide_eq_true a8⟩
def pKit (x : Str) (v : PySem.W.Frag → Value) (b : Bool) : Prd := fun K => decide (PySem.W.kitOne K (.ref (He.ga K x)) (v K) = some b)
theorem pKit_ok {K : PySem.W.Frag} {x : Str} {v : PySem.W.Frag → Value} {b : Bool} (h : pKit x v b K = true) : PySem.W.kitOne K (.ref (He.ga K x)) (v K) = some b := of_decide_eq_true h
end Dk

/-! Objects that change: trees of lists and instances, each object once. -/
namespace Dk
open PySem PySem.Spec PyProof.Rows L2
inductive Tr where
  | dat (d : PyData)
  | lst (ts : List Tr)
  | tup (ts : List Tr)
  | ins (C : Addr) (ns : List Str) (ts : List Tr)
mutual
/-- v is the tree t; its own objects stand at fp -/
inductive Own (H : Hp) : V → Tr → List Addr → Prop
  | dat {v : V} {d : PyData} : Dq H v d → Own H v (.dat d) []
  | lst {a : Addr} {vs : List V} {ts : List Tr} {fp : List Addr} : H a = some (.lst vs) → Owns H vs ts fp → a ∉ fp → Own H (.ref a) (.lst ts) (a :: fp)
  | tup {a : Addr} {vs : List V} {ts : List Tr} {fp : List Addr} : H a = some (.tup vs) → Owns H vs ts fp → Own H (.ref a) (.tup ts) fp
  | ins {a dx C : Addr} {fs : List (Str × V)} {ns : List Str} {ts : List Tr} {fp : List Addr} : H a = some (.ins C dx fs) → fs.map (·.1) = ns → Owns H (fs.map (·.2)) ts fp → a ∉ fp → Own H (.ref a) (.ins C ns ts) (a :: fp)
inductive Owns (H : Hp) : List V → List Tr → List Addr → Prop
  | nil : Owns H [] [] []
  | cons {v : V} {t : Tr} {fp : List Addr} {vs : List V} {ts : List Tr} {gp : List Addr} : Own H v t fp → Owns H vs ts gp → (∀ b ∈ fp, b ∉ gp) → Owns H (v :: vs) (t :: ts) (fp ++ gp)
end
/-- no place in common -/
def Dsj (fp gp : List Addr) : Prop := ∀ b ∈ fp, b ∉ gp
theorem Dsj.symm {fp gp : List Addr} (h : Dsj fp gp) : Dsj gp fp := fun b h1 h2 => h b h2 h1
/-- a step that changes what stands at F, which is F' behind it -/
structure Chg (F F' : List Addr) (H H' : Hp) : Prop where
  kp : ∀ b o, H b = some o → b ∉ F → H' b = some o
  nw : ∀ b ∈ F', b ∈ F ∨ H b = none
  gro : Gro H H'
theorem Chg.refl (F : List Addr) (H : Hp) : Chg F F H H := ⟨fun _ _ h _ => h, fun _ h => .inl h, Gro.refl H⟩
theorem Chg.trans {F F1 F2 : List Addr} {H H1 H2 : Hp} (a : Chg F F1 H H1) (b : Chg F1 F2 H1 H2) : Chg F F2 H H2 := by
  refine ⟨fun c o h n => b.kp c o (a.kp c o h n) fun m => ?_, fun c hc => ?_, a.gro.trans b.gro⟩
  · rcases a.nw c m with z | z
    · exact n z
    · rw [z] at h
      cases h
  · rcases b.nw c hc with z | z
    · exact a.nw c z
    · by_cases m : c ∈ F
      · exact .inl m
      · right
        cases q : H c with
        | none => rfl
        | some o =>
          rw [a.kp c o q m] at z
          cases z
theorem Chg.same {F : List Addr} {H H' : Hp} (s : Same H H') : Chg F F H H' := ⟨fun b o h _ => s b o h, fun _ h => .inl h, Gro.same s⟩
theorem Chg.snd {F F' : List Addr} {H H1 H2 : Hp} (a : Chg F F' H H1) (s : Same H1 H2) : Chg F F' H H2 := a.trans (Chg.same s)
theorem Chg.le {F F' G : List Addr} {H H' : Hp} (a : Chg F F' H H') (h : ∀ b ∈ G, b ∈ F') : Chg F G H H' := ⟨a.kp, fun b hb => a.nw b (h b hb), a.gro⟩
/-- more may be changed than is -/
theorem Chg.wide {F F' G : List Addr} {H H' : Hp} (a : Chg F F' H H') : Chg (F ++ G) (F' ++ G) H H' :=
  ⟨fun b o h n => a.kp b o h fun m => n (List.mem_append_left _ m), fun b hb => (List.mem_append.mp hb).elim (fun z => (a.nw b z).elim (fun y => .inl (List.mem_append_left _ y)) .inr) fun z => .inl (List.mem_append_right _ z), a.gro⟩
theorem Chg.at_ {F F' : List Addr} {H H' : Hp} {b : Addr} {o : HO} (c : Chg F F' H H') (h : H b = some o) (n : b ∉ F) : H' b = some o := c.kp b o h n
theorem Chg.drw {F F' : List Addr} {H H' : Hp} {a : Addr} (c : Chg F F' H H') (h : Drw H a) (n : a ∉ F) : Drw H' a := let ⟨x, y, e⟩ := h; ⟨x, y, c.kp a _ e n⟩
theorem Chg.out {F F' : List Addr} {H H' : Hp} {b : Addr} {o : HO} (c : Chg F F' H H') (h : H b = some o) (n : b ∉ F) : b ∉ F' := fun m => by
  rcases c.nw b m with z | z
  · exact n z
  · rw [z] at h
    cases h
theorem Stp.chg {a : Addr} {H H' : Hp} (s : Stp a H H') : Chg [a] [a] H H' := ⟨fun b o h n => s.fr b o h fun e => n (by rw [e]; exact List.mem_singleton.mpr rfl), fun b h => .inl h, s.gro⟩
theorem Chg.stp {a : Addr} {H H' : Hp} (c : Chg [a] [a] H H') (d : Drw H' a) : Stp a H H' := ⟨fun b o h n => c.kp b o h fun m => n (List.mem_singleton.mp m), c.gro, d⟩
mutual
theorem Own.frame {H H' : Hp} (g : Gro H H') : ∀ {t : Tr} {v : V} {fp : List Addr}, Own H v t fp → (∀ b ∈ fp, H' b = H b) → Own H' v t fp
  | .dat d, _, _, h, _ => by
    cases h with
    | dat h => exact .dat (h.mono g)
  | .lst ts, _, _, h, k => by
    cases h with
    | lst ha hs n => exact .lst (by rw [k _ List.mem_cons_self]; exact ha) (Owns.frame g hs fun b hb => k b (List.mem_cons_of_mem _ hb)) n
  | .tup ts, _, _, h, k => by
    cases h with
    | tup ha hs => exact .tup (g.tup _ _ ha) (Owns.frame g hs k)
  | .ins C ns ts, _, _, h, k => by
    cases h with
    | ins ha he hs n => exact .ins (by rw [k _ List.mem_cons_self]; exact ha) he (Owns.frame g hs fun b hb => k b (List.mem_cons_of_mem _ hb)) n
theorem Owns.frame {H H' : Hp} (g : Gro H H') : ∀ {ts : List Tr} {vs : List V} {fp : List Addr}, Owns H vs ts fp → (∀ b ∈ fp, H' b = H b) → Owns H' vs ts fp
  | [], _, _, h, _ => by cases h; exact .nil
  | t :: ts, _, _, h, k => by
    cases h with
    | cons h1 h2 n => exact .cons (Own.frame g h1 fun b hb => k b (List.mem_append_left _ hb)) (Owns.frame g h2 fun b hb => k b (List.mem_append_right _ hb)) n
end
/-- the objects of a tree stand, and are no tuples, nothing that is locked -/
def Mt (o : Option HO) : Prop := ∃ u, o = some u ∧ (∀ xs, u ≠ .tup xs) ∧ ∀ ob w, u ≠ .frz ob w
theorem mt_lst {o : Option HO} {xs : List V} (h : o = some (.lst xs)) : Mt o := ⟨_, h, (fun _ z => by cases z), (fun _ _ z => by cases z)⟩
theorem mt_ins {o : Option HO} {C dx : Addr} {fs : List (Str × V)} (h : o = some (.ins C dx fs)) : Mt o := ⟨_, h, (fun _ z => by cases z), (fun _ _ z => by cases z)⟩
mutual
theorem Own.there {H : Hp} : ∀ {t : Tr} {v : V} {fp : List Addr}, Own H v t fp → ∀ b ∈ fp, Mt (H b)
  | .dat d, _, _, h, b, hb => by
    cases h
    exact absurd hb List.not_mem_nil
  | .lst ts, _, _, h, b, hb => by
    cases h with
    | lst ha hs n =>
      rcases List.mem_cons.mp hb with e | hb
      · exact mt_lst (e ▸ ha)
      · exact Owns.there hs b hb
  | .tup ts, _, _, h, b, hb => by
    cases h with
    | tup ha hs => exact Owns.there hs b hb
  | .ins C ns ts, _, _, h, b, hb => by
    cases h with
    | ins ha he hs n =>
      rcases List.mem_cons.mp hb with e | hb
      · exact mt_ins (e ▸ ha)
      · exact Owns.there hs b hb
theorem Owns.there {H : Hp} : ∀ {ts : List Tr} {vs : List V} {fp : List Addr}, Owns H vs ts fp → ∀ b ∈ fp, Mt (H b)
  | [], _, _, h, b, hb => by
    cases h
    exact absurd hb List.not_mem_nil
  | t :: ts, _, _, h, b, hb => by
    cases h with
    | cons h1 h2 n => exact (List.mem_append.mp hb).elim (fun z => Own.there h1 b z) fun z => Owns.there h2 b z
end
section
variable {H H' : Hp} {v : V} {t : Tr} {F F' fp : List Addr} {vs : List V} {ts : List Tr}
theorem Own.same (s : Same H H') (h : Own H v t fp) : Own H' v t fp := h.frame (Gro.same s) fun b hb => by
  obtain ⟨u, e, _⟩ := h.there b hb
  rw [e]
  exact s b u e
theorem Owns.same (s : Same H H') (h : Owns H vs ts fp) : Owns H' vs ts fp := h.frame (Gro.same s) fun b hb => by
  obtain ⟨u, e, _⟩ := h.there b hb
  rw [e]
  exact s b u e
theorem Own.chg (c : Chg F F' H H') (n : Dsj F fp) (h : Own H v t fp) : Own H' v t fp := h.frame c.gro fun b hb => by
  obtain ⟨u, e, _⟩ := h.there b hb
  rw [e]
  exact c.kp b u e fun m => n b m hb
theorem Owns.chg (c : Chg F F' H H') (n : Dsj F fp) (h : Owns H vs ts fp) : Owns H' vs ts fp := h.frame c.gro fun b hb => by
  obtain ⟨u, e, _⟩ := h.there b hb
  rw [e]
  exact c.kp b u e fun m => n b m hb
/-- the other tree stays apart -/
theorem Own.apart (c : Chg F F' H H') (n : Dsj F fp) (h : Own H v t fp) : Dsj F' fp := fun b hb m => by
  obtain ⟨u, e, _⟩ := h.there b m
  exact c.out e (fun z => n b z m) hb
theorem Owns.apart (c : Chg F F' H H') (n : Dsj F fp) (h : Owns H vs ts fp) : Dsj F' fp := fun b hb m => by
  obtain ⟨u, e, _⟩ := h.there b m
  exact c.out e (fun z => n b z m) hb
theorem Own.stp {a : Addr} (s : Stp a H H') (n : a ∉ fp) (h : Own H v t fp) : Own H' v t fp := h.chg s.chg fun b hb m => n (List.mem_singleton.mp hb ▸ m)
theorem Own.new_out {a : Addr} (h : Own H v t fp) (n : H a = none) : a ∉ fp := fun m => by
  obtain ⟨u, e, _⟩ := h.there a m
  rw [n] at e
  cases e
theorem Owns.new_out {a : Addr} (h : Owns H vs ts fp) (n : H a = none) : a ∉ fp := fun m => by
  obtain ⟨u, e, _⟩ := h.there a m
  rw [n] at e
  cases e
theorem Own.tup_out {a : Addr} {xs : List V} (h : Own H v t fp) (n : H a = some (.tup xs)) : a ∉ fp := fun m => by
  obtain ⟨u, e, k, _⟩ := h.there a m
  rw [n] at e
  cases e
  exact k _ rfl
end
/-- what is changed at F: tuples and what is locked stand -/
theorem Chg.of {F F' : List Addr} {H H' : Hp} (k : ∀ b o, H b = some o → b ∉ F → H' b = some o) (m : ∀ b ∈ F, Mt (H b)) (n : ∀ b ∈ F', b ∈ F ∨ H b = none) : Chg F F' H H' := by
  refine ⟨k, n, ⟨fun b xs e => k b _ e fun hb => ?_, fun b o u e => k b _ e fun hb => ?_⟩⟩
  · obtain ⟨w, e1, e2, _⟩ := m b hb
    rw [e] at e1
    exact e2 xs (Option.some.inj e1).symm
  · obtain ⟨w, e1, _, e2⟩ := m b hb
    rw [e] at e1
    exact e2 o u (Option.some.inj e1).symm
/-- a list of ints -/
def intsT (ns : List Int) : Tr := .lst (ns.map fun n => .dat (.int n))
theorem ownsInts {H : Hp} : ∀ ns : List Int, Owns H (ns.map V.int) (ns.map fun n => Tr.dat (.int n)) []
  | [] => .nil
  | n :: ns => .cons (fp := []) (.dat (.int n)) (ownsInts ns) fun _ h => absurd h List.not_mem_nil
theorem ownsInts_of {H : Hp} : ∀ {ns : List Int} {vs : List V} {fp : List Addr}, Owns H vs (ns.map fun n => Tr.dat (.int n)) fp → vs = ns.map V.int ∧ fp = []
  | [], _, _, h => by cases h; exact ⟨rfl, rfl⟩
  | n :: ns, _, _, h => by
    cases h with
    | cons h1 h2 _ =>
      cases h1 with
      | dat h1 =>
        cases h1
        obtain ⟨e1, e2⟩ := ownsInts_of h2
        rw [e1, e2]
        exact ⟨rfl, rfl⟩
theorem Own.intsAt {H : Hp} {v : V} {ns : List Int} {fp : List Addr} (h : Own H v (intsT ns) fp) : ∃ a, v = .ref a ∧ fp = [a] ∧ H a = some (.lst (ns.map V.int)) := by
  cases h with
  | lst ha hs n =>
    obtain ⟨e1, e2⟩ := ownsInts_of hs
    rw [e1] at ha
    rw [e2]
    exact ⟨_, rfl, rfl, ha⟩
theorem Own.mkInts {H : Hp} {a : Addr} {ns : List Int} (h : H a = some (.lst (ns.map V.int))) : Own H (.ref a) (intsT ns) [a] := .lst h (ownsInts ns) List.not_mem_nil
theorem Same.before {H H' : Hp} {r : Addr} (s : Same H H') (h : H' r = none) : H r = none := by
  cases q : H r with
  | none => rfl
  | some o =>
    rw [s r o q] at h
    cases h
/-- what is changed was new -/
theorem Same.but {H H1 H2 : Hp} {r : Addr} (s : Same H H1) (n : H r = none) (k : ∀ b, b ≠ r → H2 b = H1 b) : Same H H2 := fun b o e => by
  rw [k b (ne_of_none e n)]
  exact s b o e
theorem Same.fput {H H1 H2 : Hp} {r : Addr} (s : Same H H1) (n : H r = none) (k : Fput r H1 H2) : Same H H2 := Same.but s n k.kp
theorem but_at {H H' : Hp} {a b : Addr} {o : HO} (k : ∀ c, c ≠ a → H' c = H c) (h : H b = some o) (n : b ≠ a) : H' b = some o := by
  rw [k b n]
  exact h
/-- [e for j in range(m)], the elements of any kind: Iv by the new list, the turn, what is in it, the heap -/
theorem lc_RG {σ : L2.St} {H : Hp} {Q : VK} {te : TE} {vs : List Nat} {j : Nat} {m : Int} (Iv : Addr → Nat → List V → Hp → Prop) (h1 : -(2 ^ 62) ≤ m) (h2 : m < 10000000) (hw : ∀ x, wipe ((wipe σ vs).set j (some x)) vs = wipe σ vs)
    (h0 : ∀ D H', H D = none → H' D = some (.lst []) → (∀ b, b ≠ D → H' b = H b) → Iv D 0 [] H')
    (el : ∀ D (i : Nat) ys H1 (Q1 : VK), (i : Int) < m → H D = none → H1 D = some (.lst ys) → Iv D i ys H1 → (∀ y H2, H2 D = some (.lst ys) → (∀ H3, H3 D = some (.lst (ys ++ [y])) → (∀ b, b ≠ D → H3 b = H2 b) → Iv D (i + 1) (ys ++ [y]) H3) → Q1 y H2) → te ((wipe σ vs).set j (some (.int i))) H1 Q1)
    (k : ∀ D H' ys, H D = none → H' D = some (.lst ys) → Iv D m.toNat ys H' → Q (.ref D) H') : rlq [.int m] j tYes te vs σ H Q := by
  refine ⟨m, rfl, h1, by omega, fun D hD => ?_⟩
  refine lc_it (walk_range (lo := 0) (n := m.toNat)) (Qd := fun H' => Q (.ref D) H') (fun i H' => ∃ ys, H' D = some (.lst ys) ∧ ys.length ≤ i ∧ Iv D i ys H') ?_ (fun _ _ _ _ => trivial) ?_ ?_
  · exact ⟨[], upd_same, Nat.le_refl _, h0 D _ hD upd_same fun b hb => upd_ne hb⟩
  · rintro i x H1 H1' hi ⟨ys, hl, hle, iv⟩ hy
    obtain ⟨rfl, rfl⟩ := hy
    have e0 : (0 : Int) + (i : Int) = (i : Int) := Int.zero_add _
    show gName j (V.int ((0 : Int) + (i : Int))) (wipe σ vs) H1' _
    rw [e0]
    refine ⟨hw _, r_tyes (r_iteT (el D i ys H1' _ (by omega) hD hl iv fun y H2 hl2 kk => ?_))⟩
    exact ⟨ys, hl2, by rw [sizeLine_eq]; omega, ys ++ [y], upd_same, by simp; omega, kk _ upd_same fun b hb => upd_ne hb⟩
  · rintro H' ⟨ys, hl, _, iv⟩
    exact k D H' ys hD hl iv
/-- part of a tuple -/
theorem r_slT {K : PySem.W.Frag} {H : Hp} {Q : VK} {p : Addr} {xs : List V} {lo hi : Option Int} (h : H p = some (.tup xs)) (k : ∀ p H', Same H H' → H' p = some (.tup (cutV xs lo hi)) → Q (.ref p) H') : uSl K (.ref p) lo hi H Q := by
  refine .inr ⟨p, xs, rfl, SqT.of h, fun ⟨e1, e2⟩ => ?_, fun _ q nq => k q _ (same_new nq) upd_same⟩
  refine k p H (Same.refl _) ?_
  rw [h]
  unfold cutV
  rw [e1, e2, List.drop_zero, Nat.sub_zero, List.take_of_length_le (Nat.le_refl _)]
/-- min, max of two ints -/
def uMin2 : List V → Hp → VK → Prop := fun xs H Q => match xs with
  | [.int i, .int j] => Q (.int (if j < i then j else i)) H
  | _ => False
def uMax2 : List V → Hp → VK → Prop := fun xs H Q => match xs with
  | [.int i, .int j] => Q (.int (if i < j then j else i)) H
  | _ => False
theorem call_min2U {X : Cx} (hc : X.calm = true) : CallR X (.builtin "min") uMin2 := by
  refine callw (call_min2 hc) fun xs H Q h => ?_
  match xs, h with
  | [.int i, .int j], h => exact ⟨i, j, rfl, h⟩
theorem r_min2 {H : Hp} {Q : VK} {i j : Int} (q : Q (.int (if j < i then j else i)) H) : uMin2 [.int i, .int j] H Q := q
end Dk

/-! Disks. -/
namespace Dk
open PySem PySem.Spec PyProof.Rows L2
def pwV : Option Int → V
  | none => .non
  | some n => .int n
def pwD : Option Int → PyData
  | none => .none
  | some n => .int n
/-- a disk: two contents, their pending steps, the power -/
structure Dsk where
  c : Nat → List Int
  s : Nat → List Int
  pw : Option Int
def diskF (L S : V) (pw : Option Int) : List (Str × V) := [("durable", L), ("steps", S), ("power", pwV pw)]
def diskT (K : PySem.W.Frag) (D : Dsk) : Tr := .ins (He.ga K "Disk") ["durable", "steps", "power"] [.lst [intsT (D.c 0), intsT (D.c 1)], .lst [intsT (D.s 0), intsT (D.s 1)], .dat (pwD D.pw)]
/-- a disk as it stands -/
structure DkAt (K : PySem.W.Frag) (H : Hp) (p L S : Addr) (ca sa : Nat → Addr) (D : Dsk) : Prop where
  ins : Ins H p (He.ga K "Disk") (diskF (.ref L) (.ref S) D.pw)
  ld : H L = some (.lst [.ref (ca 0), .ref (ca 1)])
  ls : H S = some (.lst [.ref (sa 0), .ref (sa 1)])
  cs : ∀ i, i < 2 → H (ca i) = some (.lst ((D.c i).map V.int))
  ss : ∀ i, i < 2 → H (sa i) = some (.lst ((D.s i).map V.int))
  ls' : L ≠ S
  cc : ca 0 ≠ ca 1
  sss : sa 0 ≠ sa 1
  xs : ∀ i j, i < 2 → j < 2 → ca i ≠ sa j
abbrev diskP (p L S : Addr) (ca sa : Nat → Addr) : List Addr := [p, L, ca 0, ca 1, S, sa 0, sa 1]
theorem ints_ne {H : Hp} {a b x y : Addr} {ns : List Int} (h : H a = some (.lst [.ref x, .ref y])) (k : H b = some (.lst (ns.map V.int))) : a ≠ b := by
  intro e
  rw [e, k] at h
  cases ns with
  | nil => cases h
  | cons n r => cases h
theorem ins_ne {H : Hp} {a b C : Addr} {fs : List (Str × V)} {xs : List V} (h : Ins H a C fs) (k : H b = some (.lst xs)) : a ≠ b := by
  obtain ⟨dx, h⟩ := h
  intro e
  rw [e, k] at h
  cases h
theorem pw_dq {H : Hp} (o : Option Int) : Dq H (pwV o) (pwD o) := by
  cases o with
  | none => exact .non
  | some n => exact .int n
theorem pw_of {H : Hp} {v : V} {o : Option Int} (h : Dq H v (pwD o)) : v = pwV o := by
  cases o with
  | none => cases h; rfl
  | some n => cases h; rfl
theorem DkAt.nodup {K : PySem.W.Frag} {H : Hp} {p L S : Addr} {ca sa : Nat → Addr} {D : Dsk} (d : DkAt K H p L S ca sa D) : (diskP p L S ca sa).Nodup := by
  have h0 := d.cs 0 (by decide)
  have h1 := d.cs 1 (by decide)
  have g0 := d.ss 0 (by decide)
  have g1 := d.ss 1 (by decide)
  have a1 := ins_ne d.ins d.ld
  have a2 := ins_ne d.ins d.ls
  have a3 := ins_ne d.ins h0
  have a4 := ins_ne d.ins h1
  have a5 := ins_ne d.ins g0
  have a6 := ins_ne d.ins g1
  have b1 := ints_ne d.ld h0
  have b2 := ints_ne d.ld h1
  have b3 := ints_ne d.ld g0
  have b4 := ints_ne d.ld g1
  have c1 := ints_ne d.ls h0
  have c2 := ints_ne d.ls h1
  have c3 := ints_ne d.ls g0
  have c4 := ints_ne d.ls g1
  have e1 := d.xs 0 0 (by decide) (by decide)
  have e2 := d.xs 0 1 (by decide) (by decide)
  have e3 := d.xs 1 0 (by decide) (by decide)
  have e4 := d.xs 1 1 (by decide) (by decide)
  have f1 := d.ls'
  have f2 := d.cc
  have f3 := d.sss
  simp only [List.nodup_cons, List.mem_cons, List.not_mem_nil, or_false, not_or, not_false_eq_true, List.nodup_nil, and_true]
  exact ⟨⟨a1, a3, a4, a2, a5, a6⟩, ⟨b1, b2, f1, b3, b4⟩, ⟨f2, c1.symm, e1, e2⟩, ⟨c2.symm, e3, e4⟩, ⟨c3, c4⟩, f3⟩
theorem owns2 {H : Hp} {vs : List V} {xs ys : List Int} {fp : List Addr} (h : Owns H vs [intsT xs, intsT ys] fp) : ∃ a b, vs = [.ref a, .ref b] ∧ fp = [a, b] ∧ a ≠ b ∧ H a = some (.lst (xs.map V.int)) ∧ H b = some (.lst (ys.map V.int)) := by
  cases h with
  | cons h1 h2 n =>
    obtain ⟨a, rfl, rfl, ha⟩ := h1.intsAt
    cases h2 with
    | cons h2 h3 n2 =>
      obtain ⟨b, rfl, rfl, hb⟩ := h2.intsAt
      cases h3
      exact ⟨a, b, rfl, rfl, fun e => n a List.mem_cons_self (by rw [e]; exact List.mem_cons_self), ha, hb⟩
theorem owns2_mk {H : Hp} {a b : Addr} {xs ys : List Int} (ha : H a = some (.lst (xs.map V.int))) (hb : H b = some (.lst (ys.map V.int))) (n : a ≠ b) : Owns H [.ref a, .ref b] [intsT xs, intsT ys] [a, b] :=
  .cons (fp := [a]) (gp := [b]) (Own.mkInts ha) (.cons (fp := [b]) (gp := []) (Own.mkInts hb) .nil fun _ _ => List.not_mem_nil) fun x hx hy => n ((List.mem_singleton.mp hx).symm.trans (List.mem_singleton.mp hy))
theorem DkAt.own {K : PySem.W.Frag} {H : Hp} {p L S : Addr} {ca sa : Nat → Addr} {D : Dsk} (d : DkAt K H p L S ca sa D) : Own H (.ref p) (diskT K D) (diskP p L S ca sa) := by
  have nd := d.nodup
  simp only [List.nodup_cons, List.mem_cons, List.not_mem_nil, or_false, not_or, not_false_eq_true, List.nodup_nil, and_true] at nd
  obtain ⟨⟨a1, a2, a3, a4, a5, a6⟩, ⟨b1, b2, b3, b4, b5⟩, ⟨c1, c2, c3, c4⟩, ⟨d1, d2, d3⟩, ⟨e1, e2⟩, f⟩ := nd
  obtain ⟨dx, hi⟩ := d.ins
  refine .ins (fp := [L, ca 0, ca 1, S, sa 0, sa 1]) hi rfl ?_ (by simp [a1, a2, a3, a4, a5, a6])
  show Owns H [.ref L, .ref S, pwV D.pw] _ ([L, ca 0, ca 1] ++ ([S, sa 0, sa 1] ++ ([] ++ [])))
  refine .cons (.lst d.ld (owns2_mk (d.cs 0 (by decide)) (d.cs 1 (by decide)) c1) (by simp [b1, b2])) (.cons (.lst d.ls (owns2_mk (d.ss 0 (by decide)) (d.ss 1 (by decide)) f) (by simp [e1, e2])) (.cons (.dat (pw_dq _)) .nil fun _ h => absurd h List.not_mem_nil) fun _ _ => List.not_mem_nil) ?_
  intro x hx hy
  simp only [List.mem_cons, List.not_mem_nil, or_false, List.append_nil] at hx hy
  rcases hx with rfl | rfl | rfl <;> rcases hy with h | h | h <;> first
    | exact b3 h
    | exact b4 h
    | exact b5 h
    | exact c2 h
    | exact c3 h
    | exact c4 h
    | exact d1 h
    | exact d2 h
    | exact d3 h
theorem Own.disk {K : PySem.W.Frag} {H : Hp} {v : V} {D : Dsk} {fp : List Addr} (h : Own H v (diskT K D) fp) : ∃ p L S ca sa, v = .ref p ∧ fp = diskP p L S ca sa ∧ DkAt K H p L S ca sa D := by
  unfold diskT at h
  generalize hn : ([("durable" : Str), "steps", "power"] : List Str) = ns at h
  cases h with
  | @ins p dx C fs ns ts gp hi he hs n =>
    rw [← hn] at he
    match fs, he with
    | [(x1, v1), (x2, v2), (x3, v3)], he =>
      simp only [List.map_cons, List.map_nil, List.cons.injEq, and_true] at he
      obtain ⟨rfl, rfl, rfl⟩ := he
      simp only [List.map_cons, List.map_nil] at hs
      cases hs with
      | cons h1 hs n1 =>
      cases hs with
      | cons h2 hs n2 =>
      cases hs with
      | cons h3 hs n3 =>
      cases hs
      cases h1 with
      | lst hL o1 m1 =>
      cases h2 with
      | lst hS o2 m2 =>
      cases h3 with
      | dat h3 =>
      obtain ⟨c0, c1, rfl, rfl, cc, hc0, hc1⟩ := owns2 o1
      obtain ⟨s0, s1, rfl, rfl, ss, hs0, hs1⟩ := owns2 o2
      rename_i aL aS
      refine ⟨p, aL, aS, (fun i => if i = 0 then c0 else c1), (fun i => if i = 0 then s0 else s1), rfl, rfl, ⟨⟨dx, by rw [pw_of h3] at hi; exact hi⟩, hL, hS, fun i hi => ?_, fun i hi => ?_, fun e => ?_, cc, ss, fun i j hi hj => ?_⟩⟩
      · match i, hi with
        | 0, _ => exact hc0
        | 1, _ => exact hc1
      · match i, hi with
        | 0, _ => exact hs0
        | 1, _ => exact hs1
      · exact n1 aL (by simp) (by rw [e]; simp)
      · match i, j, hi, hj with
        | 0, 0, _, _ => exact fun e => n1 c0 (by simp) (by rw [show c0 = s0 from e]; simp)
        | 0, 1, _, _ => exact fun e => n1 c0 (by simp) (by rw [show c0 = s1 from e]; simp)
        | 1, 0, _, _ => exact fun e => n1 c1 (by simp) (by rw [show c1 = s0 from e]; simp)
        | 1, 1, _, _ => exact fun e => n1 c1 (by simp) (by rw [show c1 = s1 from e]; simp)
/-- after the steps -/
def appliedM (xs st : List Int) : List Int := st.foldl (fun acc x => if x = -1 then [] else acc ++ [x]) xs
theorem applied_snoc (xs st : List Int) (x : Int) : appliedM xs (st ++ [x]) = if x = -1 then [] else appliedM xs st ++ [x] := by
  unfold appliedM
  rw [List.foldl_append] <;> rfl
theorem applied_len (xs : List Int) : ∀ st : List Int, (appliedM xs st).length ≤ xs.length + st.length := by
  unfold appliedM
  intro st
  induction st generalizing xs with
  | nil => exact Nat.le_refl _
  | cons x r ih =>
    rw [List.foldl_cons, List.length_cons]
    refine Nat.le_trans (ih _) ?_
    split
    · simp; omega
    · rw [List.length_append]; simp; omega
/-- an update of one file's list -/
def setF {α : Type} (f : Nat → α) (i : Nat) (x : α) : Nat → α := fun j => if j = i then x else f j
theorem setF_at {α : Type} (f : Nat → α) (i : Nat) (x : α) : setF f i x i = x := if_pos rfl
theorem setF_ne {α : Type} (f : Nat → α) {i j : Nat} (x : α) (h : j ≠ i) : setF f i x j = f j := if_neg h
theorem at2 (g : Nat → Addr) {f : Nat} (h : f < 2) : atI [V.ref (g 0), V.ref (g 1)] (f : Int) = some (.ref (g f)) := by
  match f, h with
  | 0, _ => rfl
  | 1, _ => rfl
def Dsk.add (D : Dsk) (f : Nat) (ys : List Int) : Dsk := { D with s := setF D.s f (D.s f ++ ys) }
def Dsk.use (D : Dsk) (n : Int) : Dsk := { D with pw := D.pw.map (· - n) }
theorem Dsk.ext {D E : Dsk} (h1 : ∀ i, i < 2 → D.c i = E.c i) (h2 : ∀ i, i < 2 → D.s i = E.s i) (h3 : D.pw = E.pw) (K : PySem.W.Frag) : diskT K D = diskT K E := by
  unfold diskT
  rw [h1 0 (by decide), h1 1 (by decide), h2 0 (by decide), h2 1 (by decide), h3]
theorem Fput.chg {p : Addr} {fp : List Addr} {H H' : Hp} (f : Fput p H H') (h : p ∈ fp) : Chg fp fp H H' :=
  ⟨fun b o e n => by rw [f.kp b fun z => n (z ▸ h)]; exact e, fun _ h => .inl h, f.gro⟩
theorem but_chg {p : Addr} {fp : List Addr} {H H' : Hp} {xs : List V} (k : ∀ b, b ≠ p → H' b = H b) (e : H p = some (.lst xs)) (h : p ∈ fp) : Chg fp fp H H' :=
  ⟨fun b o e n => by rw [k b fun z => n (z ▸ h)]; exact e, fun _ h => .inl h, gro_but e k⟩
section
variable {K : PySem.W.Frag} {H H' : Hp} {p L S : Addr} {ca sa : Nat → Addr} {D : Dsk} {f : Nat} {ys : List Int}
theorem DkAt.fput (d : DkAt K H p L S ca sa D) (g : Fput p H H') {pw : Option Int} (hi : Ins H' p (He.ga K "Disk") (diskF (.ref L) (.ref S) pw)) : DkAt K H' p L S ca sa { D with pw := pw } :=
  ⟨hi, g.lst d.ld, g.lst d.ls, fun i h => g.lst (d.cs i h), fun i h => g.lst (d.ss i h), d.ls', d.cc, d.sss, d.xs⟩
theorem DkAt.sne (d : DkAt K H p L S ca sa D) {i j : Nat} (hi : i < 2) (hj : j < 2) (n : i ≠ j) : sa i ≠ sa j := by
  match i, j, hi, hj, n with
  | 0, 1, _, _, _ => exact d.sss
  | 1, 0, _, _, _ => exact Ne.symm d.sss
  | 0, 0, _, _, n => exact absurd rfl n
  | 1, 1, _, _, n => exact absurd rfl n
theorem DkAt.cne (d : DkAt K H p L S ca sa D) {i j : Nat} (hi : i < 2) (hj : j < 2) (n : i ≠ j) : ca i ≠ ca j := by
  match i, j, hi, hj, n with
  | 0, 1, _, _, _ => exact d.cc
  | 1, 0, _, _, _ => exact Ne.symm d.cc
  | 0, 0, _, _, n => exact absurd rfl n
  | 1, 1, _, _, n => exact absurd rfl n
theorem DkAt.put (d : DkAt K H p L S ca sa D) (hf : f < 2) (h : H' (sa f) = some (.lst (ys.map V.int))) (k : ∀ b, b ≠ sa f → H' b = H b) : DkAt K H' p L S ca sa { D with s := setF D.s f ys } := by
  have g := d.ss f hf
  refine ⟨?_, by rw [k _ (ints_ne d.ld g)]; exact d.ld, by rw [k _ (ints_ne d.ls g)]; exact d.ls, fun i hi => ?_, fun i hi => ?_, d.ls', d.cc, d.sss, d.xs⟩
  · obtain ⟨dx, q⟩ := d.ins
    exact ⟨dx, by rw [k _ (ins_ne d.ins g)]; exact q⟩
  · rw [k _ (d.xs i f hi hf)]
    exact d.cs i hi
  · by_cases e : i = f
    · subst e
      show H' (sa i) = some (.lst ((setF D.s i ys i).map V.int))
      rw [setF_at]
      exact h
    · show H' (sa i) = some (.lst ((setF D.s f ys i).map V.int))
      rw [setF_ne _ _ e, k _ (d.sne hi hf e)]
      exact d.ss i hi
theorem diskP_s (p L S : Addr) (ca sa : Nat → Addr) (hf : f < 2) : sa f ∈ diskP p L S ca sa := by
  match f, hf with
  | 0, _ => simp
  | 1, _ => simp
theorem DkAt.chg_s (d : DkAt K H p L S ca sa D) (hf : f < 2) (k : ∀ b, b ≠ sa f → H' b = H b) : Chg (diskP p L S ca sa) (diskP p L S ca sa) H H' := but_chg k (d.ss f hf) (diskP_s p L S ca sa hf)
theorem set2 (g : Nat → Addr) (hf : f < 2) (r : Addr) : [V.ref (g 0), V.ref (g 1)].set f (.ref r) = [.ref (setF g f r 0), .ref (setF g f r 1)] := by
  match f, hf with
  | 0, _ => rfl
  | 1, _ => rfl
theorem ix2 (hf : f < 2) : ixN 2 (f : Int) = some f := by
  match f, hf with
  | 0, _ => rfl
  | 1, _ => rfl
theorem use0 (D : Dsk) : D.use 0 = D := by
  unfold Dsk.use
  obtain ⟨c, s, pw⟩ := D
  cases pw with
  | none => rfl
  | some n => simp
end
theorem setF_setF {α : Type} (g : Nat → α) (f : Nat) (x y : α) : setF (setF g f x) f y = setF g f y := by
  funext j
  unfold setF
  by_cases e : j = f
  · rw [if_pos e, if_pos e]
  · rw [if_neg e, if_neg e, if_neg e]
theorem pw_step (o : Option Int) (i : Int) : (o.map (· - i)).map (· - 1) = o.map (· - (i + 1)) := by
  cases o with
  | none => rfl
  | some n =>
    show some (n - i - 1) = some (n - (i + 1))
    rw [Int.sub_sub]
theorem dsk_step (D : Dsk) (f : Nat) (xs ys : List Int) (i : Int) : (Dsk.mk D.c (setF (setF D.s f (D.s f ++ xs)) f (D.s f ++ ys)) ((D.pw.map (· - i)).map (· - 1))) = (D.add f ys).use (i + 1) := by
  rw [setF_setF, pw_step]
  rfl
section
variable {K : PySem.W.Frag} {H1 H2 H3 H4 H5 : Hp} {p L S r r2 : Addr} {ca sa : Nat → Addr} {D : Dsk} {f : Nat} {xs : List Int}
theorem DkAt.syn (d : DkAt K H1 p L S ca sa D) (hf : f < 2) (nr : H1 r = none) (m2 : Same H1 H2) (hr : H2 r = some (.lst (xs.map V.int))) (h3 : H3 L = some (.lst ([V.ref (ca 0), V.ref (ca 1)].set f (.ref r)))) (k3 : ∀ b, b ≠ L → H3 b = H2 b)
    (nr2 : H3 r2 = none) (m4 : Same H3 H4) (hr2 : H4 r2 = some (.lst [])) (h5 : H5 S = some (.lst ([V.ref (sa 0), V.ref (sa 1)].set f (.ref r2)))) (k5 : ∀ b, b ≠ S → H5 b = H4 b) :
    DkAt K H5 p L S (setF ca f r) (setF sa f r2) { D with c := setF D.c f xs, s := setF D.s f [] } ∧ Chg (diskP p L S ca sa) (diskP p L S (setF ca f r) (setF sa f r2)) H1 H5 := by
  have keep : ∀ b o, H1 b = some o → b ≠ L → b ≠ S → H5 b = some o := fun b o h n1 n2 => by
    rw [k5 b n2]
    refine m4 _ _ ?_
    rw [k3 b n1]
    exact m2 _ _ h
  have rL : r ≠ L := fun z => by
    have := d.ld
    rw [← z, nr] at this
    cases this
  have rS : r ≠ S := fun z => by
    have := d.ls
    rw [← z, nr] at this
    cases this
  have h3S : H3 S = some (.lst [.ref (sa 0), .ref (sa 1)]) := by
    rw [k3 S (Ne.symm d.ls')]
    exact m2 _ _ d.ls
  have r2S : r2 ≠ S := fun z => by
    rw [← z, nr2] at h3S
    cases h3S
  have r2L : r2 ≠ L := fun z => by
    rw [← z, nr2] at h3
    cases h3
  have h3r : H3 r = some (.lst (xs.map V.int)) := by
    rw [k3 r rL]
    exact hr
  have rr2 : r ≠ r2 := fun z => by
    rw [← z, h3r] at nr2
    cases nr2
  have nr2' : H1 r2 = none := by
    have e : H3 r2 = H2 r2 := k3 r2 r2L
    rw [nr2] at e
    exact Same.before m2 e.symm
  have h5L : H5 L = some (.lst [.ref (setF ca f r 0), .ref (setF ca f r 1)]) := by
    rw [k5 L d.ls', ← set2 ca hf]
    exact m4 _ _ h3
  have h5r : H5 r = some (.lst (xs.map V.int)) := by
    rw [k5 r rS]
    exact m4 _ _ h3r
  have h5r2 : H5 r2 = some (.lst []) := by
    rw [k5 r2 r2S]
    exact hr2
  refine ⟨⟨?_, h5L, by rw [← set2 sa hf]; exact h5, fun i hi => ?_, fun i hi => ?_, d.ls', ?_, ?_, fun i j hi hj => ?_⟩, Chg.of (fun b o h n => keep b o h (fun z => n (by rw [z]; simp)) (fun z => n (by rw [z]; simp))) d.own.there fun b hb => ?_⟩
  · obtain ⟨dx, q⟩ := d.ins
    exact ⟨dx, keep _ _ q (ins_ne ⟨dx, q⟩ d.ld) (ins_ne ⟨dx, q⟩ d.ls)⟩
  · by_cases ei : i = f
    · subst ei
      show H5 (setF ca i r i) = some (.lst ((setF D.c i xs i).map V.int))
      rw [setF_at, setF_at]
      exact h5r
    · show H5 (setF ca f r i) = some (.lst ((setF D.c f xs i).map V.int))
      rw [setF_ne _ _ ei, setF_ne _ _ ei]
      exact keep _ _ (d.cs i hi) (Ne.symm (ints_ne d.ld (d.cs i hi))) (Ne.symm (ints_ne d.ls (d.cs i hi)))
  · by_cases ei : i = f
    · subst ei
      show H5 (setF sa i r2 i) = some (.lst ((setF D.s i [] i).map V.int))
      rw [setF_at, setF_at]
      exact h5r2
    · show H5 (setF sa f r2 i) = some (.lst ((setF D.s f [] i).map V.int))
      rw [setF_ne _ _ ei, setF_ne _ _ ei]
      exact keep _ _ (d.ss i hi) (Ne.symm (ints_ne d.ld (d.ss i hi))) (Ne.symm (ints_ne d.ls (d.ss i hi)))
  · match f, hf with
    | 0, _ => exact Ne.symm (ne_of_none (d.cs 1 (by decide)) nr)
    | 1, _ => exact ne_of_none (d.cs 0 (by decide)) nr
  · match f, hf with
    | 0, _ => exact Ne.symm (ne_of_none (d.ss 1 (by decide)) nr2')
    | 1, _ => exact ne_of_none (d.ss 0 (by decide)) nr2'
  · by_cases ei : i = f
    · subst ei
      rw [setF_at]
      by_cases ej : j = i
      · subst ej
        rw [setF_at]
        exact rr2
      · rw [setF_ne _ _ ej]
        exact Ne.symm (ne_of_none (d.ss j hj) nr)
    · rw [setF_ne _ _ ei]
      by_cases ej : j = f
      · subst ej
        rw [setF_at]
        exact ne_of_none (d.cs i hi) nr2'
      · rw [setF_ne _ _ ej]
        exact d.xs i j hi hj
  · match f, hf with
    | 0, _ =>
      have hb : b ∈ [p, L, r, ca 1, S, r2, sa 1] := hb
      simp only [List.mem_cons, List.not_mem_nil, or_false] at hb ⊢
      rcases hb with rfl | rfl | rfl | rfl | rfl | rfl | rfl <;> first
        | exact .inr nr
        | exact .inr nr2'
        | exact .inl (by simp)
    | 1, _ =>
      have hb : b ∈ [p, L, ca 0, r, S, sa 0, r2] := hb
      simp only [List.mem_cons, List.not_mem_nil, or_false] at hb ⊢
      rcases hb with rfl | rfl | rfl | rfl | rfl | rfl | rfl <;> first
        | exact .inr nr
        | exact .inr nr2'
        | exact .inl (by simp)
end
def Dsk.syn (D : Dsk) (f : Nat) : Dsk := { D with c := setF D.c f (appliedM (D.c f) (D.s f)), s := setF D.s f [] }
def Dsk.crash (D : Dsk) (a b : Nat) : Dsk := ⟨fun i => if i = 0 then appliedM (D.c 0) ((D.s 0).take a) else appliedM (D.c 1) ((D.s 1).take b), fun _ => [], none⟩
theorem cutV_take (xs : List V) (n : Nat) : cutV xs none (some (n : Int)) = xs.take n := by
  unfold cutV
  rw [HT.sIx_none, HT.sIx_nat, List.drop_zero, Nat.sub_zero]
  by_cases h : n ≤ xs.length
  · rw [Nat.min_eq_left h]
  · rw [Nat.min_eq_right (by omega), List.take_of_length_le (Nat.le_refl _), List.take_of_length_le (by omega)]
/-! the law's own model of a disk -/
def stepO (acc : List Int) : Option Int → List Int
  | none => []
  | some x => acc ++ [x]
def afterM (xs : List Int) (os : List (Option Int)) : List Int := os.foldl stepO xs
theorem after_snoc (xs : List Int) (os : List (Option Int)) (o : Option Int) : afterM xs (os ++ [o]) = stepO (afterM xs os) o := by
  unfold afterM
  rw [List.foldl_append] <;> rfl
theorem after_len (xs : List Int) : ∀ os : List (Option Int), (afterM xs os).length ≤ xs.length + os.length := by
  unfold afterM
  intro os
  induction os generalizing xs with
  | nil => exact Nat.le_refl _
  | cons o r ih =>
    rw [List.foldl_cons, List.length_cons]
    refine Nat.le_trans (ih _) ?_
    cases o with
    | none => show 0 + r.length ≤ _; omega
    | some x => show (xs ++ [x]).length + r.length ≤ _; rw [List.length_append]; simp; omega
def codeO (o : Option Int) : Int := o.getD (-1)
theorem after_applied (xs : List Int) : ∀ os : List (Option Int), (∀ n, some n ∈ os → 0 ≤ n) → afterM xs os = appliedM xs (os.map codeO) := by
  unfold afterM appliedM
  intro os
  induction os generalizing xs with
  | nil => exact fun _ => rfl
  | cons o r ih =>
    intro h
    rw [List.foldl_cons, List.map_cons, List.foldl_cons]
    have e : (if codeO o = -1 then ([] : List Int) else xs ++ [codeO o]) = stepO xs o := by
      cases o with
      | none => rfl
      | some x =>
        have hx := h x List.mem_cons_self
        show (if x = -1 then ([] : List Int) else xs ++ [x]) = xs ++ [x]
        rw [if_neg (by omega)]
    rw [e]
    exact ih _ fun n hn => h n (List.mem_cons_of_mem _ hn)
theorem dqs_trues {H : Hp} : ∀ {n : Nat} {ys : List V}, Dqs H ys (List.replicate n (.bool true)) → ys = (List.replicate n true).map V.bl
  | 0, _, h => by cases h; rfl
  | n + 1, _, h => by
    cases h with
    | cons h1 h2 =>
      cases h1
      rw [dqs_trues h2] <;> rfl
theorem all_trues (n : Nat) : (List.replicate n true).all id = true := by
  rw [List.all_eq_true]
  intro b hb
  rw [(List.mem_replicate.mp hb).2] <;> rfl
/-! an act: 0 appends, 1 clears, 2 syncs -/
def lenM (k : Nat) (bs : List Int) : Nat := if k = 0 then bs.length else 1
/-- how many of its steps the power is enough for -/
def cntM (pw : Option Int) (n : Nat) : Nat := match pw with
  | none => n
  | some m => min n m.toNat
def doM (D : Dsk) (k f : Nat) (bs : List Int) : Dsk :=
  if k = 0 then (D.add f (bs.take (cntM D.pw bs.length))).use (cntM D.pw bs.length)
  else if cntM D.pw 1 = 0 then D
  else if k = 1 then (D.add f [-1]).use 1
  else (D.syn f).use 1
/-- what the law is told -/
def Told (H : Hp) (v : V) (ok : Bool) : Prop := (ok = true ∧ v = .non) ∨ (ok = false ∧ ∃ r, v = .ref r ∧ H r = some (.tup [.str "cut", .bl true]))
structure Mdl where
  c : Nat → List Int
  s : Nat → List (Option Int)
  pw : Option Int
/-- the law's model as it stands -/
structure MAt (H : Hp) (m F : Addr) (ta ca sa : Nat → Addr) (M : Mdl) : Prop where
  mm : H m = some (.lst [.ref F, pwV M.pw])
  ff : H F = some (.lst [.ref (ta 0), .ref (ta 1)])
  ts : ∀ i, i < 2 → H (ta i) = some (.tup [.ref (ca i), .ref (sa i)])
  cs : ∀ i, i < 2 → H (ca i) = some (.lst ((M.c i).map V.int))
  ss : ∀ i, i < 2 → H (sa i) = some (.lst ((M.s i).map pwV))
abbrev mdlP (m F : Addr) (ca sa : Nat → Addr) : List Addr := [m, F, ca 0, ca 1, sa 0, sa 1]
theorem opts_ne {H : Hp} {a b x : Addr} {r : List V} {ns : List (Option Int)} (h : H a = some (.lst (.ref x :: r))) (k : H b = some (.lst (ns.map pwV))) : a ≠ b := by
  intro e
  rw [e, k] at h
  cases ns with
  | nil => cases h
  | cons n r => cases n <;> cases h
theorem ints_ne' {H : Hp} {a b x : Addr} {r : List V} {ns : List Int} (h : H a = some (.lst (.ref x :: r))) (k : H b = some (.lst (ns.map V.int))) : a ≠ b := by
  intro e
  rw [e, k] at h
  cases ns with
  | nil => cases h
  | cons n r => cases h
theorem pw_nref (o : Option Int) (a : Addr) : pwV o ≠ .ref a := by
  cases o with
  | none => intro h; cases h
  | some n => intro h; cases h
section
variable {H H' : Hp} {m F : Addr} {ta ca sa : Nat → Addr} {M : Mdl} {f : Nat}
theorem MAt.mF (d : MAt H m F ta ca sa M) : m ≠ F := by
  intro e
  have h1 := d.mm
  rw [e, d.ff] at h1
  simp only [Option.some.injEq, HO.lst.injEq, List.cons.injEq, and_true] at h1
  exact pw_nref _ _ h1.2.symm
theorem MAt.keep (d : MAt H m F ta ca sa M) (k : ∀ b o, H b = some o → (b ∈ mdlP m F ca sa ∨ ∃ xs, o = .tup xs) → H' b = some o) : MAt H' m F ta ca sa M := by
  refine ⟨k _ _ d.mm (.inl (by simp)), k _ _ d.ff (.inl (by simp)), fun i hi => k _ _ (d.ts i hi) (.inr ⟨_, rfl⟩), fun i hi => k _ _ (d.cs i hi) (.inl ?_), fun i hi => k _ _ (d.ss i hi) (.inl ?_)⟩
  · match i, hi with
    | 0, _ => simp
    | 1, _ => simp
  · match i, hi with
    | 0, _ => simp
    | 1, _ => simp
theorem MAt.same (s : Same H H') (d : MAt H m F ta ca sa M) : MAt H' m F ta ca sa M := d.keep fun b o h _ => s b o h
theorem MAt.chg {G G' : List Addr} (c : Chg G G' H H') (n : Dsj G (mdlP m F ca sa)) (d : MAt H m F ta ca sa M) : MAt H' m F ta ca sa M := d.keep fun b o h z => by
  rcases z with z | ⟨xs, rfl⟩
  · exact c.kp b o h fun q => n b q z
  · exact c.gro.tup b xs h
theorem MAt.there (d : MAt H m F ta ca sa M) : ∀ b ∈ mdlP m F ca sa, ∃ xs, H b = some (.lst xs) := by
  intro b hb
  simp only [List.mem_cons, List.not_mem_nil, or_false] at hb
  rcases hb with rfl | rfl | rfl | rfl | rfl | rfl
  · exact ⟨_, d.mm⟩
  · exact ⟨_, d.ff⟩
  · exact ⟨_, d.cs 0 (by decide)⟩
  · exact ⟨_, d.cs 1 (by decide)⟩
  · exact ⟨_, d.ss 0 (by decide)⟩
  · exact ⟨_, d.ss 1 (by decide)⟩
theorem MAt.apart {G G' : List Addr} (c : Chg G G' H H') (n : Dsj G (mdlP m F ca sa)) (d : MAt H m F ta ca sa M) : Dsj G' (mdlP m F ca sa) := fun b hb z => by
  obtain ⟨xs, e⟩ := d.there b z
  exact c.out e (fun q => n b q z) hb
/-- the power is written -/
theorem MAt.pow (d : MAt H m F ta ca sa M) {pw : Option Int} (h : H' m = some (.lst [.ref F, pwV pw])) (k : ∀ b, b ≠ m → H' b = H b) : MAt H' m F ta ca sa { M with pw := pw } ∧ Chg (mdlP m F ca sa) (mdlP m F ca sa) H H' := by
  refine ⟨⟨h, by rw [k F d.mF.symm]; exact d.ff, fun i hi => ?_, fun i hi => ?_, fun i hi => ?_⟩, but_chg k d.mm (by simp)⟩
  · rw [k _ (ne_of (d.ts i hi) d.mm (by intro z; cases z))]
    exact d.ts i hi
  · rw [k _ (Ne.symm (ints_ne' d.mm (d.cs i hi)))]
    exact d.cs i hi
  · rw [k _ (Ne.symm (opts_ne d.mm (d.ss i hi)))]
    exact d.ss i hi
/-- one file's pair is written -/
theorem MAt.pair (d : MAt H m F ta ca sa M) (hf : f < 2) {t c s : Addr} {xs : List Int} {os : List (Option Int)} (ht : H t = some (.tup [.ref c, .ref s])) (hc : H c = some (.lst (xs.map V.int))) (hs : H s = some (.lst (os.map pwV))) (h : H' F = some (.lst ([V.ref (ta 0), V.ref (ta 1)].set f (.ref t)))) (k : ∀ b, b ≠ F → H' b = H b) :
    MAt H' m F (setF ta f t) (setF ca f c) (setF sa f s) { M with c := setF M.c f xs, s := setF M.s f os } := by
  have kt : ∀ b xs, H b = some (.tup xs) → H' b = some (.tup xs) := fun b xs e => by
    rw [k b (ne_of e d.ff (by intro z; cases z))]
    exact e
  have ki : ∀ b (ns : List Int), H b = some (.lst (ns.map V.int)) → H' b = some (.lst (ns.map V.int)) := fun b ns e => by
    rw [k b (Ne.symm (ints_ne' d.ff e))]
    exact e
  have ko : ∀ b (ns : List (Option Int)), H b = some (.lst (ns.map pwV)) → H' b = some (.lst (ns.map pwV)) := fun b ns e => by
    rw [k b (Ne.symm (opts_ne d.ff e))]
    exact e
  refine ⟨by rw [k m d.mF]; exact d.mm, by rw [← set2 ta hf]; exact h, fun i hi => ?_, fun i hi => ?_, fun i hi => ?_⟩
  · by_cases e : i = f
    · subst e
      rw [setF_at, setF_at, setF_at]
      exact kt _ _ ht
    · rw [setF_ne _ _ e, setF_ne _ _ e, setF_ne _ _ e]
      exact kt _ _ (d.ts i hi)
  · by_cases e : i = f
    · subst e
      show H' (setF ca i c i) = some (.lst ((setF M.c i xs i).map V.int))
      rw [setF_at, setF_at]
      exact ki _ _ hc
    · show H' (setF ca f c i) = some (.lst ((setF M.c f xs i).map V.int))
      rw [setF_ne _ _ e, setF_ne _ _ e]
      exact ki _ _ (d.cs i hi)
  · by_cases e : i = f
    · subst e
      show H' (setF sa i s i) = some (.lst ((setF M.s i os i).map pwV))
      rw [setF_at, setF_at]
      exact ko _ _ hs
    · show H' (setF sa f s i) = some (.lst ((setF M.s f os i).map pwV))
      rw [setF_ne _ _ e, setF_ne _ _ e]
      exact ko _ _ (d.ss i hi)
end
def stepsM (k : Nat) (bs : List Int) : List (Option Int) := if k = 0 then bs.map some else [none]
theorem stepsM_len (k : Nat) (bs : List Int) : (stepsM k bs).length = lenM k bs := by
  unfold stepsM lenM
  by_cases h : k = 0
  · rw [if_pos h, if_pos h, List.length_map]
  · rw [if_neg h, if_neg h] <;> rfl
/-- the files behind an act, n of its steps performed -/
def mfileM (M : Mdl) (k f : Nat) (bs : List Int) (n : Nat) : Mdl :=
  if k = 2 then (if n = 1 then { M with c := setF M.c f (afterM (M.c f) (M.s f)), s := setF M.s f [] } else M) else { M with s := setF M.s f (M.s f ++ (stepsM k bs).take n) }
def mdoM (M : Mdl) (k f : Nat) (bs : List Int) : Mdl :=
  { mfileM M k f bs (cntM M.pw (lenM k bs)) with pw := M.pw.map (· - (cntM M.pw (lenM k bs) : Int)) }
theorem mfile_pw (M : Mdl) (k f : Nat) (bs : List Int) (n : Nat) : (mfileM M k f bs n).pw = M.pw := by
  unfold mfileM
  by_cases h : k = 2
  · rw [if_pos h]
    by_cases h2 : n = 1
    · rw [if_pos h2]
    · rw [if_neg h2]
  · rw [if_neg h]
theorem cnt_le (pw : Option Int) (n : Nat) : cntM pw n ≤ n := by
  cases pw with
  | none => exact Nat.le_refl _
  | some m => exact Nat.min_le_left _ _
theorem setF_self {α : Type} (g : Nat → α) (f : Nat) : setF g f (g f) = g := by
  funext j
  unfold setF
  by_cases e : j = f
  · rw [if_pos e, e]
  · rw [if_neg e]
theorem MAt.pair_chg {H0 H H' : Hp} {m F c s : Addr} {ta ca sa : Nat → Addr} {M : Mdl} {f : Nat} (d : MAt H m F ta ca sa M) (hf : f < 2) (sm : Same H0 H) (k : ∀ b, b ≠ F → H' b = H b) (c0 : c = ca f ∨ H0 c = none) (s0 : s = sa f ∨ H0 s = none) :
    Chg (mdlP m F ca sa) (mdlP m F (setF ca f c) (setF sa f s)) H0 H' := by
  have base : Chg (mdlP m F ca sa) (mdlP m F ca sa) H0 H' := (Chg.same sm).trans (but_chg k d.ff (by simp))
  refine ⟨base.kp, fun b hb => ?_, base.gro⟩
  match f, hf with
  | 0, _ =>
    have hb : b ∈ [m, F, c, ca 1, s, sa 1] := hb
    simp only [List.mem_cons, List.not_mem_nil, or_false] at hb
    rcases hb with rfl | rfl | rfl | rfl | rfl | rfl
    · exact .inl (by simp)
    · exact .inl (by simp)
    · rcases c0 with z | z
      · exact .inl (by rw [z]; simp)
      · exact .inr z
    · exact .inl (by simp)
    · rcases s0 with z | z
      · exact .inl (by rw [z]; simp)
      · exact .inr z
    · exact .inl (by simp)
  | 1, _ =>
    have hb : b ∈ [m, F, ca 0, c, sa 0, s] := hb
    simp only [List.mem_cons, List.not_mem_nil, or_false] at hb
    rcases hb with rfl | rfl | rfl | rfl | rfl | rfl
    · exact .inl (by simp)
    · exact .inl (by simp)
    · exact .inl (by simp)
    · rcases c0 with z | z
      · exact .inl (by rw [z]; simp)
      · exact .inr z
    · exact .inl (by simp)
    · rcases s0 with z | z
      · exact .inl (by rw [z]; simp)
      · exact .inr z
/-- the disk is as the model says -/
structure RelM (D : Dsk) (M : Mdl) : Prop where
  c : ∀ i, i < 2 → D.c i = M.c i
  s : ∀ i, i < 2 → D.s i = (M.s i).map codeO
  cb : ∀ i, i < 2 → ∀ n ∈ M.c i, 0 ≤ n ∧ n ≤ 255
  sb : ∀ i, i < 2 → ∀ n, some n ∈ M.s i → 0 ≤ n ∧ n ≤ 255
  pw : D.pw = M.pw
theorem after_bytes {xs : List Int} : ∀ {os : List (Option Int)}, (∀ n ∈ xs, 0 ≤ n ∧ n ≤ 255) → (∀ n, some n ∈ os → 0 ≤ n ∧ n ≤ 255) → ∀ n ∈ afterM xs os, 0 ≤ n ∧ n ≤ 255 := by
  intro os
  unfold afterM
  induction os generalizing xs with
  | nil => exact fun h _ => h
  | cons o r ih =>
    intro h1 h2
    rw [List.foldl_cons]
    refine ih (fun n hn => ?_) fun n hn => h2 n (List.mem_cons_of_mem _ hn)
    cases o with
    | none => exact absurd hn List.not_mem_nil
    | some x =>
      have hn : n ∈ xs ++ [x] := hn
      rcases List.mem_append.mp hn with hn | hn
      · exact h1 n hn
      · rw [List.mem_singleton.mp hn]
        exact h2 x List.mem_cons_self
theorem RelM.at_ {D : Dsk} {M : Mdl} (r : RelM D M) {i : Nat} (hi : i < 2) : appliedM (D.c i) (D.s i) = afterM (M.c i) (M.s i) := by
  rw [r.c i hi, r.s i hi, after_applied _ _ fun n hn => (r.sb i hi n hn).1]
/-- lists of ints are compared -/
theorem lay_ints : ∀ ns : List Int, PyData.canLayAll0 (ns.map PyData.int) = true
  | [] => by simp [PyData.canLayAll0]
  | n :: ns => by
    rw [List.map_cons, PyData.canLayAll0, lay_ints ns]
    simp [PyData.canLay0]
theorem depth_ints : ∀ ns : List Int, PyData.depthAll (ns.map PyData.int) = 0
  | [] => by simp [PyData.depthAll]
  | n :: ns => by
    rw [List.map_cons, PyData.depthAll, depth_ints ns, PyData.depth] <;> rfl
theorem dp_ints {K : PySem.W.Frag} {H : Hp} : ∀ ns : List Int, DpAll K H (ns.map V.int) (ns.map PyData.int)
  | [] => .nil
  | n :: ns => .cons (.int n) (dp_ints ns)
theorem r_neInts {K : PySem.W.Frag} {H : Hp} {Q : VK} {a b : Addr} {ns : List Int} (ha : H a = some (.lst (ns.map V.int))) (hb : H b = some (.lst (ns.map V.int))) (q : Q (.bl false) H) : uNe K (.ref a) (.ref b) H Q := by
  have lay : PyData.canLay0 (.list (ns.map PyData.int)) = true := by rw [PyData.canLay0]; exact lay_ints ns
  have sh : SeqAt.shaped (.list (ns.map PyData.int)) = true := by
    unfold SeqAt.shaped
    rw [lay, PyData.depth, depth_ints] <;> rfl
  refine .inr ⟨.list (ns.map PyData.int), .list (ns.map PyData.int), .lst (SqL.of ha) (dp_ints ns), .lst (SqL.of hb) (dp_ints ns), sh, sh, ?_⟩
  rw [SeqAt.eqv_refl _ lay]
  exact q
/-! acts: the disk stays as the model says -/
theorem map_sub0 (o : Option Int) : o.map (· - ((0 : Nat) : Int)) = o := by
  cases o with
  | none => rfl
  | some n => show some (n - 0) = some n; rw [Int.sub_zero]
theorem cnt_one (pw : Option Int) : cntM pw 1 = 0 ∨ cntM pw 1 = 1 := by
  have := cnt_le pw 1
  omega
theorem steps_codes {bs : List Int} {n : Nat} : (((bs.map some).take n).map codeO) = bs.take n := by
  rw [← List.map_take, List.map_map]
  exact List.map_id _
theorem rel_add {D : Dsk} {M : Mdl} {f : Nat} {ys : List Int} {os : List (Option Int)} {n : Int} (r : RelM D M) (hs : os.map codeO = ys) (hb : ∀ n, some n ∈ os → 0 ≤ n ∧ n ≤ 255) : RelM ((D.add f ys).use n) { M with s := setF M.s f (M.s f ++ os), pw := M.pw.map (· - n) } := by
  refine ⟨r.c, fun i hi => ?_, r.cb, fun i hi x hx => ?_, by show D.pw.map _ = M.pw.map _; rw [r.pw]⟩
  · show setF D.s f (D.s f ++ ys) i = (setF M.s f (M.s f ++ os) i).map codeO
    by_cases e : i = f
    · subst e
      rw [setF_at, setF_at, List.map_append, r.s i hi, hs]
    · rw [setF_ne _ _ e, setF_ne _ _ e]
      exact r.s i hi
  · have hx : some x ∈ setF M.s f (M.s f ++ os) i := hx
    by_cases e : i = f
    · subst e
      rw [setF_at] at hx
      exact (List.mem_append.mp hx).elim (r.sb i hi x) (hb x)
    · rw [setF_ne _ _ e] at hx
      exact r.sb i hi x hx
theorem rel_pow {D : Dsk} {M : Mdl} (r : RelM D M) : RelM D { M with pw := M.pw.map (· - ((0 : Nat) : Int)) } := ⟨r.c, r.s, r.cb, r.sb, by show D.pw = M.pw.map _; rw [map_sub0]; exact r.pw⟩
theorem RelM.act {D : Dsk} {M : Mdl} {k f : Nat} {bs : List Int} (r : RelM D M) (hk : k < 3) (hf : f < 2) (hb : ∀ n ∈ bs, 0 ≤ n ∧ n ≤ 255) : RelM (doM D k f bs) (mdoM M k f bs) := by
  unfold doM mdoM mfileM lenM stepsM
  by_cases h0 : k = 0
  · subst h0
    rw [if_pos rfl, if_pos rfl, if_neg (by decide), if_pos rfl, r.pw]
    refine rel_add (n := (cntM M.pw bs.length : Int)) r steps_codes fun n hn => ?_
    have hn := List.mem_of_mem_take hn
    obtain ⟨x, hx, e⟩ := List.mem_map.mp hn
    cases e
    exact hb n hx
  · rw [if_neg h0, if_neg h0, if_neg h0, r.pw]
    rcases cnt_one M.pw with e | e
    · rw [e, if_pos rfl]
      by_cases h2 : k = 2
      · rw [if_pos h2, if_neg (by decide)]
        exact rel_pow r
      · rw [if_neg h2]
        have e2 : setF M.s f (M.s f ++ ([none] : List (Option Int)).take 0) = M.s := by
          show setF M.s f (M.s f ++ []) = M.s
          rw [List.append_nil, setF_self]
        rw [e2]
        exact rel_pow r
    · rw [e, if_neg (by decide)]
      by_cases h2 : k = 2
      · rw [if_pos h2, if_neg (by omega), if_pos rfl]
        refine ⟨fun i hi => ?_, fun i hi => ?_, fun i hi n hn => ?_, fun i hi n hn => ?_, ?_⟩
        · show setF D.c f (appliedM (D.c f) (D.s f)) i = setF M.c f (afterM (M.c f) (M.s f)) i
          by_cases ei : i = f
          · subst ei
            rw [setF_at, setF_at, r.at_ hi]
          · rw [setF_ne _ _ ei, setF_ne _ _ ei]
            exact r.c i hi
        · show setF D.s f [] i = (setF M.s f [] i).map codeO
          by_cases ei : i = f
          · subst ei
            rw [setF_at, setF_at] <;> rfl
          · rw [setF_ne _ _ ei, setF_ne _ _ ei]
            exact r.s i hi
        · have hn : n ∈ setF M.c f (afterM (M.c f) (M.s f)) i := hn
          by_cases ei : i = f
          · subst ei
            rw [setF_at] at hn
            exact after_bytes (r.cb i hi) (r.sb i hi) n hn
          · rw [setF_ne _ _ ei] at hn
            exact r.cb i hi n hn
        · have hn : some n ∈ setF M.s f ([] : List (Option Int)) i := hn
          by_cases ei : i = f
          · subst ei
            rw [setF_at] at hn
            exact absurd hn List.not_mem_nil
          · rw [setF_ne _ _ ei] at hn
            exact r.sb i hi n hn
        · show D.pw.map _ = M.pw.map _
          rw [r.pw] <;> rfl
      · rw [if_neg h2, if_pos (by omega)]
        refine rel_add (n := 1) r rfl fun n hn => ?_
        have hn : some n ∈ ([none] : List (Option Int)) := hn
        exact absurd (List.mem_singleton.mp hn) (fun z => nomatch z)
theorem mdo_len {M : Mdl} {k f n : Nat} {bs : List Int} (hk : k < 3) (hf : f < 2) (hb : bs.length ≤ 5) (hl : ∀ i, i < 2 → (M.c i).length + (M.s i).length ≤ n) : ∀ i, i < 2 → ((mdoM M k f bs).c i).length + ((mdoM M k f bs).s i).length ≤ n + 5 := by
  intro i hi
  have h := hl i hi
  unfold mdoM mfileM
  by_cases h2 : k = 2
  · rw [if_pos h2]
    by_cases h3 : cntM M.pw (lenM k bs) = 1
    · rw [if_pos h3]
      show (setF M.c f (afterM (M.c f) (M.s f)) i).length + (setF M.s f [] i).length ≤ n + 5
      by_cases e : i = f
      · subst e
        rw [setF_at, setF_at]
        have := after_len (M.c i) (M.s i)
        show _ + 0 ≤ _
        omega
      · rw [setF_ne _ _ e, setF_ne _ _ e]
        omega
    · rw [if_neg h3]
      show (M.c i).length + (M.s i).length ≤ n + 5
      omega
  · rw [if_neg h2]
    show (M.c i).length + (setF M.s f (M.s f ++ (stepsM k bs).take (cntM M.pw (lenM k bs))) i).length ≤ n + 5
    by_cases e : i = f
    · subst e
      rw [setF_at, List.length_append, List.length_take, stepsM_len]
      have : lenM k bs ≤ 5 := by
        unfold lenM
        split <;> omega
      omega
    · rw [setF_ne _ _ e]
      omega
theorem mdo_pw {M : Mdl} {k f : Nat} {bs : List Int} (h : ∀ x, M.pw = some x → 0 ≤ x) : ∀ x, (mdoM M k f bs).pw = some x → 0 ≤ x := by
  intro x hx
  have hx : M.pw.map (· - (cntM M.pw (lenM k bs) : Int)) = some x := hx
  cases e : M.pw with
  | none =>
    rw [e] at hx
    cases hx
  | some n =>
    rw [e] at hx
    have h0 := h n e
    have hx : some (n - ((min (lenM k bs) n.toNat : Nat) : Int)) = some x := hx
    have := Option.some.inj hx
    omega
/-- a crash -/
def Mdl.crash (M : Mdl) (a b : Nat) : Mdl := ⟨fun i => if i = 0 then afterM (M.c 0) ((M.s 0).take a) else afterM (M.c 1) ((M.s 1).take b), fun _ => [], none⟩
theorem rel_take {D : Dsk} {M : Mdl} (r : RelM D M) {i : Nat} (hi : i < 2) (n : Nat) : appliedM (D.c i) ((D.s i).take n) = afterM (M.c i) ((M.s i).take n) := by
  rw [r.c i hi, r.s i hi, ← List.map_take, after_applied _ _ fun x hx => (r.sb i hi x (List.mem_of_mem_take hx)).1]
theorem RelM.crash {D : Dsk} {M : Mdl} (r : RelM D M) (a b : Nat) : RelM (D.crash a b) (M.crash a b) := by
  refine ⟨fun i hi => ?_, fun _ _ => rfl, fun i hi n hn => ?_, fun _ _ n hn => absurd hn List.not_mem_nil, rfl⟩
  · match i, hi with
    | 0, _ => exact rel_take r (by decide) a
    | 1, _ => exact rel_take r (by decide) b
  · match i, hi with
    | 0, _ => exact after_bytes (r.cb 0 (by decide)) (fun x hx => r.sb 0 (by decide) x (List.mem_of_mem_take hx)) n hn
    | 1, _ => exact after_bytes (r.cb 1 (by decide)) (fun x hx => r.sb 1 (by decide) x (List.mem_of_mem_take hx)) n hn
theorem crash_len {M : Mdl} {a b n : Nat} (hl : ∀ i, i < 2 → (M.c i).length + (M.s i).length ≤ n) : ∀ i, i < 2 → ((M.crash a b).c i).length + ((M.crash a b).s i).length ≤ n := by
  intro i hi
  match i, hi with
  | 0, _ =>
    have h1 := after_len (M.c 0) ((M.s 0).take a)
    have h2 := hl 0 (by decide)
    have h3 : ((M.s 0).take a).length ≤ (M.s 0).length := by rw [List.length_take]; omega
    show (afterM (M.c 0) ((M.s 0).take a)).length + 0 ≤ n
    omega
  | 1, _ =>
    have h1 := after_len (M.c 1) ((M.s 1).take b)
    have h2 := hl 1 (by decide)
    have h3 : ((M.s 1).take b).length ≤ (M.s 1).length := by rw [List.length_take]; omega
    show (afterM (M.c 1) ((M.s 1).take b)).length + 0 ≤ n
    omega
theorem Dqs.all_ints {H : Hp} {P : Int → Prop} : ∀ {ds : List PyData} {ys : List V}, Dqs H ys ds → (∀ (i : Nat) d, ds[i]? = some d → ∃ n, d = PyData.int n ∧ P n) → ∃ ns : List Int, ys = ns.map V.int ∧ ns.length = ds.length ∧ ∀ n ∈ ns, P n
  | [], _, h, _ => by
    cases h
    exact ⟨[], rfl, rfl, fun _ z => nomatch z⟩
  | d :: ds, _, h, hp => by
    cases h with
    | cons h1 h2 =>
      obtain ⟨s, e, p⟩ := hp 0 d rfl
      subst e
      cases h1
      obtain ⟨ss, e1, e2, e3⟩ := Dqs.all_ints h2 fun i d q => hp (i + 1) d (by simpa using q)
      refine ⟨s :: ss, by rw [e1] <;> rfl, by simp [e2], fun z hz => ?_⟩
      rcases List.mem_cons.mp hz with e | hz
      · rw [e]
        exact p
      · exact e3 z hz
/-- one file's pair of a new model -/
structure Pt (H H' : Hp) (D t c s : Addr) (xs : List Int) : Prop where
  ht : H' t = some (.tup [.ref c, .ref s])
  hc : H' c = some (.lst (xs.map V.int))
  hs : H' s = some (.lst [])
  nc : H c = none
  ns : H s = none
  cD : c ≠ D
  sD : s ≠ D
theorem Pt.same {H H1 H2 : Hp} {D t c s : Addr} {xs : List Int} (m : Same H1 H2) (p : Pt H H1 D t c s xs) : Pt H H2 D t c s xs := ⟨m _ _ p.ht, m _ _ p.hc, m _ _ p.hs, p.nc, p.ns, p.cD, p.sD⟩
theorem Pt.but {H H1 H2 : Hp} {D t c s : Addr} {xs : List Int} {ys : List V} (h : H1 D = some (.lst ys)) (k : ∀ b, b ≠ D → H2 b = H1 b) (p : Pt H H1 D t c s xs) : Pt H H2 D t c s xs :=
  ⟨by rw [k _ (ne_of p.ht h (by intro z; cases z))]; exact p.ht, by rw [k _ p.cD]; exact p.hc, by rw [k _ p.sD]; exact p.hs, p.nc, p.ns, p.cD, p.sD⟩
theorem but_out {H H' : Hp} {a : Addr} {xs : List V} {fp : List Addr} (e : H a = some (.lst xs)) (k : ∀ b, b ≠ a → H' b = H b) : Chg [a] [a] H H' := but_chg k e (List.mem_singleton.mpr rfl)
theorem dsj_one {a : Addr} {fp : List Addr} (h : a ∉ fp) : Dsj [a] fp := fun b hb m => h (List.mem_singleton.mp hb ▸ m)
/-- told what was to be told -/
theorem r_neCut {K : PySem.W.Frag} {H : Hp} {Q : VK} {r t : Addr} (hr : H r = some (.tup [.str "cut", .bl true])) (ht : H t = some (.tup [.str "cut", .bl true])) (q : Q (.bl false) H) : uNe K (.ref r) (.ref t) H Q := by
  have dd : ∀ x, H x = some (.tup [.str "cut", .bl true]) → Dq H (.ref x) (.tuple [.str "cut", .bool true]) := fun x hx => .tup hx (.cons (.str _) (.cons (.bl _) .nil))
  have lay : PyData.canLay0 (.tuple [.str "cut", .bool true]) = true := by decide +kernel
  have sh : SeqAt.shaped (.tuple [.str "cut", .bool true]) = true := by decide +kernel
  refine r_neD (dd r hr) (dd t ht) sh sh ?_
  rw [SeqAt.eqv_refl _ lay]
  exact q
theorem r_neNon {K : PySem.W.Frag} {H : Hp} {Q : VK} (q : Q (.bl false) H) : uNe K .non .non H Q := .inl ⟨rfl, by rw [decide_eq_true rfl]; exact q⟩
/-- the files of a new model, so far -/
def Cv (H H' : Hp) (D : Addr) (M : Mdl) (x y i : Nat) (ys : List V) : Prop := (i = 0 ∧ ys = []) ∨ (i = 1 ∧ ∃ t c s, ys = [.ref t] ∧ Pt H H' D t c s ((M.crash x y).c 0)) ∨
  (i = 2 ∧ ∃ t0 c0 s0 t1 c1 s1, ys = [.ref t0, .ref t1] ∧ Pt H H' D t0 c0 s0 ((M.crash x y).c 0) ∧ Pt H H' D t1 c1 s1 ((M.crash x y).c 1))
theorem Cv.step {H H1 H2 H3 : Hp} {D t c s : Addr} {M : Mdl} {x y i : Nat} {ys : List V} (v : Cv H H1 D M x y i ys) (hi : i < 2) (m : Same H1 H2) (h2 : H2 D = some (.lst ys)) (k : ∀ b, b ≠ D → H3 b = H2 b) (p : Pt H H3 D t c s ((M.crash x y).c i)) : Cv H H3 D M x y (i + 1) (ys ++ [.ref t]) := by
  rcases v with ⟨rfl, rfl⟩ | ⟨rfl, t', c', s', rfl, q⟩ | ⟨rfl, _⟩
  · exact .inr (.inl ⟨rfl, t, c, s, rfl, p⟩)
  · exact .inr (.inr ⟨rfl, t', c', s', t, c, s, rfl, (q.same m).but h2 k, p⟩)
  · omega
theorem Cv.mat {H H' H2 : Hp} {D m : Addr} {M : Mdl} {x y : Nat} {ys : List V} (v : Cv H H' D M x y 2 ys) (hd : H' D = some (.lst ys)) (sm : Same H' H2) (hm : H2 m = some (.lst [.ref D, .non])) :
    ∃ ta ca sa, MAt H2 m D ta ca sa (M.crash x y) ∧ ∀ b ∈ mdlP m D ca sa, b = m ∨ b = D ∨ H b = none := by
  rcases v with ⟨z, _⟩ | ⟨z, _⟩ | ⟨_, t0, c0, s0, t1, c1, s1, rfl, q0, q1⟩
  · omega
  · omega
  · have p0 := q0.same sm
    have p1 := q1.same sm
    refine ⟨fun i => if i = 0 then t0 else t1, fun i => if i = 0 then c0 else c1, fun i => if i = 0 then s0 else s1, ⟨hm, sm _ _ hd, fun i hi => ?_, fun i hi => ?_, fun i hi => ?_⟩, fun b hb => ?_⟩
    · match i, hi with
      | 0, _ => exact p0.ht
      | 1, _ => exact p1.ht
    · match i, hi with
      | 0, _ => exact p0.hc
      | 1, _ => exact p1.hc
    · match i, hi with
      | 0, _ => exact p0.hs
      | 1, _ => exact p1.hs
    · have hb : b ∈ [m, D, c0, c1, s0, s1] := hb
      simp only [List.mem_cons, List.not_mem_nil, or_false] at hb
      rcases hb with rfl | rfl | rfl | rfl | rfl | rfl
      · exact .inl rfl
      · exact .inr (.inl rfl)
      · exact .inr (.inr p0.nc)
      · exact .inr (.inr p1.nc)
      · exact .inr (.inr p0.ns)
      · exact .inr (.inr p1.ns)
theorem crash_c (M : Mdl) (x y : Nat) {i : Nat} (hi : i < 2) : (M.crash x y).c i = afterM (M.c i) ((M.s i).take (if i = 0 then x else y)) := by
  match i, hi with
  | 0, _ => rfl
  | 1, _ => rfl
theorem at2i (x y : Nat) {i : Nat} (hi : i < 2) : atI [V.int x, V.int y] (i : Int) = some (.int ((if i = 0 then x else y : Nat) : Int)) := by
  match i, hi with
  | 0, _ => rfl
  | 1, _ => rfl
end Dk

namespace Dk
open PySem PySem.Spec PyProof.Rows L2
/-! steps of the walk -/
local macro_rules | `(tactic| walk_at "sz") => `(tactic| first | assumption | (rw [sizeLine_eq]; (try simp only [PySem.Str.length_append, trS_len, atS_len, eS_len, dotS_len, List.length_append, List.length_cons, List.length_nil, List.length_map]); omega) | ((try simp only [PySem.Str.length_append, trS_len, atS_len, eS_len, dotS_len, List.length_append, List.length_cons, List.length_nil, List.length_map]); omega))
local macro_rules | `(tactic| walk_at "gr") => `(tactic| first
  | assumption
  | ((with_reducible refine' Stp.gro ?f1); (case f1 => assumption))
  | ((with_reducible refine' Gro.same ?f1); (case f1 => assumption)))
local macro_rules | `(tactic| walk_at "grs") => `(tactic| first | with_reducible exact Gro.refl _ | ((with_reducible refine' Gro.trans ?_ ?g2); (case g2 => walk_at "gr")))
local macro_rules | `(tactic| walk_at "grc") => `(tactic| repeat (walk_at "grs"))
local macro_rules | `(tactic| walk_at "chs") => `(tactic| first
  | assumption
  | ((with_reducible refine' same_at ?e1 ?_); (case e1 => assumption))
  | ((with_reducible refine' Stp.at_ ?e1 ?_ ?e3); (case e1 => assumption); (case e3 => walk_at "hp")))
local macro_rules | `(tactic| walk_at "ch") => `(tactic| repeat (walk_at "chs"))
local macro_rules | `(tactic| walk_at "hp") => `(tactic| first
  | assumption
  | ((with_reducible refine' Stp.drw ?e1); (case e1 => assumption))
  | ((with_reducible refine' SqL.of ?e1); (case e1 => walk_at "hp"))
  | ((with_reducible refine' Drw.mono ?e1 ?e2); (case e1 => assumption); (case e2 => walk_at "hp"))
  | ((with_reducible refine' Scr.mono ?e1 ?e2); (case e2 => assumption); (case e1 => walk_at "grc"))
  | ((with_reducible refine' Dq.mono ?e1 ?e2); (case e2 => assumption); (case e1 => walk_at "grc"))
  | ((with_reducible refine' Dqs.mono ?e1 ?e2); (case e2 => assumption); (case e1 => walk_at "grc"))
  | ((with_reducible refine' Gro.tup ?e1 _ _ ?e2); (case e2 => assumption); (case e1 => walk_at "grc"))
  | ((with_reducible refine' ne_drw' ?e1 ?e2); (case e1 => assumption); (case e2 => walk_at "hp"))
  | ((with_reducible refine' from_ ?e1 ?e2); (case e1 => assumption); (case e2 => (intro hh; walk_at "ch"))))
local macro_rules | `(tactic| walk_at "st") => `(tactic| first
  | with_reducible refine' r_seq ?_
  | with_reducible refine' r_set ?_
  | with_reducible refine' r_if ?_
  | with_reducible refine' r_ret ?_
  | with_reducible refine' r_drop ?_
  | with_reducible refine' r_next ?_
  | with_reducible refine' r_asg ?_
  | with_reducible refine' r_break ?_
  | with_reducible refine' r_cont ?_
  | with_reducible refine' r_retN ?_
  | with_reducible refine' r_par ?_
  | with_reducible refine' r_par2 ?_
  | ((with_reducible refine' r_augI ?h ?_); (case h => rfl)))
local macro_rules | `(tactic| walk_at "ex") => `(tactic| first
  | ((with_reducible refine' r_var ?h ?_); (case h => rfl))
  | with_reducible refine' r_c ?_
  | with_reducible refine' r_op ?_
  | with_reducible refine' r_test ?_
  | with_reducible refine' r_tru ?_
  | with_reducible refine' r_cons ?_
  | with_reducible refine' r_nil ?_
  | with_reducible refine' r_cb ?_
  | with_reducible refine' r_call ?_
  | with_reducible refine' r_bm ?_
  | with_reducible refine' r_bm0 ?_
  | with_reducible refine' r_sl ?_
  | with_reducible refine' r_part ?_
  | with_reducible refine' r_nopart ?_
  | with_reducible refine' r_tup ?_
  | with_reducible refine' r_lst ?_
  | with_reducible refine' r_and ?_
  | with_reducible refine' r_or ?_
  | with_reducible refine' r_not ?_
  | with_reducible refine' r_andT ?_
  | with_reducible refine' r_orT ?_
  | with_reducible refine' r_notT ?_
  | with_reducible refine' r_ifx ?_
  | with_reducible refine' r_un ?_
  | with_reducible refine' r_chain ?_
  | with_reducible refine' r_tB ?_
  | with_reducible refine' r_gname ?_
  | with_reducible refine' r_gsub ?_)
local macro_rules | `(tactic| walk_at "va") => `(tactic| first
  | with_reducible refine' r_bl ?_
  | with_reducible refine' r_trub ?_
  | with_reducible refine' r_trui ?_
  | with_reducible refine' r_trun ?_
  | with_reducible refine' r_ex1 ?_
  | with_reducible refine' r_tys ?_
  | with_reducible refine' r_addI ?_
  | ((with_reducible refine' r_addS ?h ?_); (case h => walk_at "sz"))
  | with_reducible refine' r_eqI ?_
  | with_reducible refine' r_eqS ?_
  | with_reducible refine' r_neI ?_
  | with_reducible refine' r_neS ?_
  | with_reducible refine' r_I0 ?_
  | ((with_reducible refine' r_I ?h ?_); (case h => first | assumption | omega | (refine ⟨?_, ?_⟩ <;> omega) | exact ⟨by omega, by omega, by decide⟩))
  | ((with_reducible refine' r_mulI ?h ?_); (case h => first | exact .inl ⟨by decide, by decide⟩ | exact .inr ⟨by decide, by decide⟩ | exact .inl ⟨by omega, by omega⟩ | exact .inr ⟨by omega, by omega⟩))
  | with_reducible refine' r_intI ?_
  | with_reducible refine' r_intB ?_
  | with_reducible refine' r_S1 ?_
  | ((with_reducible refine' r_S1l ?h ?_); (case h => walk_at "sz"))
  | ((with_reducible refine' r_S0 ?h ?_); (case h => walk_at "sz"))
  | ((with_reducible refine' r_slS ?h ?_); (case h => walk_at "sz"))
  | ((with_reducible refine' r_lenS ?h ?_); (case h => walk_at "sz"))
  | with_reducible refine' r_isN ?_
  | with_reducible refine' r_isB ?_
  | with_reducible refine' r_isnotN ?_
  | with_reducible refine' r_isnotB ?_
  | with_reducible refine' r_inS ?_
  | with_reducible refine' r_notinS ?_
  | with_reducible refine' r_neg ?_
  | ((with_reducible refine' r_isi ?h ?h2 ?_); (case h => first | rfl | exact tyN_t (by walk_at "hp") | exact tyN_l (by walk_at "hp")); (case h2 => first | exact kit_NoneType_int | exact kit_NoneType_bool | exact kit_NoneType_tuple | exact kit_NoneType_str | exact kit_NoneType_list | exact kit_bool_int | exact kit_bool_bool | exact kit_bool_tuple | exact kit_bool_str | exact kit_bool_list | exact kit_int_int | exact kit_int_bool | exact kit_int_tuple | exact kit_int_str | exact kit_int_list | exact kit_str_int | exact kit_str_bool | exact kit_str_tuple | exact kit_str_str | exact kit_str_list | exact kit_list_int | exact kit_list_bool | exact kit_list_tuple | exact kit_list_str | exact kit_list_list | exact kit_tuple_int | exact kit_tuple_bool | exact kit_tuple_tuple | exact kit_tuple_str | exact kit_tuple_list))
  | with_reducible refine' r_iteT ?_
  | with_reducible refine' r_iteF ?_
  | with_reducible refine' r_itnT ?_
  | with_reducible refine' r_itnF ?_
  | ((with_reducible refine' r_new ?h ?_); (case h => walk_at "sz"); intro p H' np sm hp))
local macro_rules | `(tactic| walk_at "hv") => `(tactic| first
  | ((with_reducible refine' r_ixT ?h ?h2 ?_); (case h => walk_at "hp"); (case h2 => first | assumption | rfl | exact atI_nat (j := 0) rfl | exact atI_nat (j := 1) rfl | exact atI_nat (j := 2) rfl | exact atI_nat (j := 3) rfl | exact atI_nat (j := 4) rfl))
  | ((with_reducible refine' r_ixL ?h ?h2 ?_); (case h => walk_at "hp"); (case h2 => first | assumption | rfl | exact atI_nat (j := 0) rfl | exact atI_nat (j := 1) rfl | exact atI_nat (j := 2) rfl | exact atI_nat (j := 3) rfl | exact atI_nat (j := 4) rfl))
  | ((with_reducible refine' r_lenT ?h ?_); (case h => walk_at "hp"))
  | ((with_reducible refine' r_lenL ?h ?_); (case h => walk_at "hp"))
  | ((with_reducible refine' r_tyl ?h ?_); (case h => walk_at "hp"))
  | ((with_reducible refine' r_trul ?h ?_); (case h => walk_at "hp"))
  | ((with_reducible refine' r_trut ?h ?_); (case h => exact SqT.of (by walk_at "hp")))
  | ((with_reducible refine' r_setL ?h ?h2 ?_); (case h => walk_at "hp"); (case h2 => rfl); intro H' hp kp)
  | ((with_reducible refine' r_app ?h ?h2 ?_); (case h => walk_at "hp"); (case h2 => walk_at "sz"); intro H' hp kp)
  | ((with_reducible refine' r_addT ?h ?h1 ?h2 ?_); (case h => walk_at "hp"); (case h1 => walk_at "hp"); (case h2 => walk_at "sz"); intro p H' sm hp)
  | ((with_reducible refine' r_addL ?h ?h1 ?h2 ?_); (case h => walk_at "hp"); (case h1 => walk_at "hp"); (case h2 => walk_at "sz"); intro p H' np sm hp)
  | ((with_reducible refine' r_tupleL ?h ?_); (case h => walk_at "hp"); intro p H' np sm hp)
  | ((with_reducible refine' r_tupleT ?h ?_); (case h => walk_at "hp"))
  | ((with_reducible refine' r_listT ?h ?_); (case h => walk_at "hp"); intro p H' np sm hp)
  | ((with_reducible refine' r_listL ?h ?_); (case h => walk_at "hp"); intro p H' np sm hp)
  | ((with_reducible refine' r_gtup ?h ?h2 ?_); (case h => walk_at "hp"); (case h2 => rfl))
  | with_reducible refine' r_gcons ?_
  | with_reducible refine' r_gnil ?_)
local macro_rules | `(tactic| walk_at "call") => `(tactic| fail "no call")
local macro_rules | `(tactic| walk_at "s") => `(tactic| first | walk_at "st" | walk_at "ex" | walk_at "va" | walk_at "hv" | walk_at "call")
local macro_rules | `(tactic| walk_at "go") => `(tactic| repeat (walk_at "s"))
local macro_rules | `(tactic| walk_at "br") => `(tactic| first
  | ((with_reducible refine' r_ite ?_ ?_) <;> intro hc)
  | ((with_reducible refine' r_iten ?_ ?_) <;> intro hc)
  | ((with_reducible refine' r_itb ?_ ?_) <;> intro hc))
local macro_rules | `(tactic| walk_at "all") => `(tactic| repeat' (first | walk_at "s" | walk_at "br"))
local macro_rules | `(tactic| walk_at "nat") => `(tactic| first | assumption | decide | omega | ((try simp only [List.length_map, List.length_cons, List.length_nil]); omega))
local macro_rules | `(tactic| walk_at "ex") => `(tactic| first | with_reducible refine' r_lcr ?_ | with_reducible refine' r_lcu ?_ | with_reducible refine' r_forr ?_ | with_reducible refine' r_foru ?_)
/-! own classes -/
local macro_rules | `(tactic| walk_at "lk") => `(tactic| first | with_reducible exact lk_hd | ((with_reducible refine' lk_tl ?h1 ?h2); (case h1 => decide +kernel); (case h2 => walk_at "lk")) | with_reducible exact lk_nil)
local macro_rules | `(tactic| walk_at "pf") => `(tactic| first | with_reducible exact pf_nil | with_reducible exact pf_hd | ((with_reducible refine' pf_tl ?h1 ?h2); (case h1 => decide +kernel); (case h2 => walk_at "pf")))
local macro_rules | `(tactic| walk_at "hp") => `(tactic| first
  | ((with_reducible refine' Ins.same ?e1 ?e2); (case e1 => assumption); (case e2 => walk_at "hp"))
  | ((with_reducible refine' Ins.stp ?e1 ?e2 ?e3); (case e1 => assumption); (case e2 => walk_at "hp"); (case e3 => walk_at "hp")))
local macro_rules | `(tactic| walk_at "ex") => `(tactic| first
  | with_reducible refine' r_fld ?_
  | with_reducible refine' r_sfld ?_
  | with_reducible refine' r_meth ?_
  | with_reducible refine' r_make ?_
  | with_reducible refine' r_strS ?_
  | ((with_reducible refine' r_strI ?h ?_); (case h => walk_at "nat")))
local macro_rules | `(tactic| walk_at "hv") => `(tactic| first
  | ((with_reducible refine' r_fldv ?h ?h2 ?h3 ?h4 ?_); (case h => walk_at "hp"); (case h2 => assumption); (case h3 => assumption); (case h4 => walk_at "lk"))
  | ((with_reducible refine' r_methv ?h ?h2 ?_); (case h => walk_at "hp"); (case h2 => walk_at "lk"))
  | ((with_reducible refine' r_sfldv ?h ?h2 ?h3 ?h4 ?h5 ?_); (case h => walk_at "hp"); (case h2 => assumption); (case h3 => assumption); (case h4 => first | decide | (simp only [List.length_cons, List.length_nil]; decide)); (case h5 => walk_at "pf"); intro H' hi hk))
local macro_rules | `(tactic| walk_at "hv") => `(tactic| first
  | ((with_reducible refine' r_inTs ?h ?_); (case h => walk_at "hp"))
  | ((with_reducible refine' r_inLs ?h ?_); (case h => walk_at "hp")))
local macro_rules | `(tactic| walk_at "va") => `(tactic| first
  | with_reducible refine' r_isNN ?_
  | with_reducible refine' r_isNS ?_
  | with_reducible refine' r_isNI ?_
  | with_reducible refine' r_isNR ?_
  | with_reducible refine' r_isNB ?_
  | with_reducible refine' r_isnotNN ?_
  | with_reducible refine' r_isnotNS ?_
  | with_reducible refine' r_isnotNI ?_
  | with_reducible refine' r_isnotNR ?_
  | with_reducible refine' r_isnotNB ?_)
local macro_rules | `(tactic| walk_at "ex") => `(tactic| first
  | with_reducible refine' r_fldaug ?_
  | with_reducible refine' r_inAdd ?_
  | with_reducible refine' r_inSub ?_
  | with_reducible refine' r_callS ?_
  | with_reducible refine' r_methX ?_
  | with_reducible refine' r_raise0 ?_
  | with_reducible refine' r_raise1 ?_
  | with_reducible refine' r_tryA ?_
  | with_reducible refine' r_tryO ?_)
local macro_rules | `(tactic| walk_at "hv") => `(tactic| first
  | ((with_reducible refine' r_augq ?h ?h2 ?h3 ?h4 ?_); (case h => walk_at "hp"); (case h2 => assumption); (case h3 => assumption); (case h4 => walk_at "lk"))
  | ((with_reducible refine' r_putq ?h ?h4 ?h5 ?_); (case h => walk_at "hp"); (case h4 => first | decide | (simp only [List.length_cons, List.length_nil]; decide)); (case h5 => walk_at "pf"); intro H' hi hk))
local macro_rules | `(tactic| walk_at "chs") => `(tactic| first
  | ((with_reducible refine' Fput.lst ?e1 ?_); (case e1 => assumption))
  | ((with_reducible refine' Fput.tup ?e1 ?_); (case e1 => assumption))
  | ((with_reducible refine' but_at ?e1 ?_ ?e3); (case e1 => assumption); (case e3 => first | assumption | exact Ne.symm (by assumption))))
local macro_rules | `(tactic| walk_at "gr") => `(tactic| ((with_reducible refine' Fput.gro ?f1); (case f1 => assumption)))
local macro_rules | `(tactic| walk_at "hp") => `(tactic| first
  | ((with_reducible refine' Ins.fput ?e1 ?e2 ?e3); (case e1 => assumption); (case e2 => first | assumption | exact Ne.symm (by assumption)); (case e3 => walk_at "hp"))
  | ((with_reducible refine' Fput.drw ?e1 ?e2); (case e1 => assumption); (case e2 => walk_at "hp")))
local macro_rules | `(tactic| walk_at "hv") => `(tactic| ((with_reducible refine' r_slL ?h ?_); (case h => walk_at "hp"); intro p H' np sm hp))
local macro_rules | `(tactic| walk_at "va") => `(tactic| first
  | ((with_reducible refine' r_isX ?h ?h2 ?_); (case h => assumption); (case h2 => assumption))
  | ((with_reducible refine' r_isXt ?h ?h2 ?_); (case h => assumption); (case h2 => assumption)))
local macro_rules | `(tactic| walk_at "va") => `(tactic| with_reducible refine' r_min2 ?_)
local macro_rules | `(tactic| walk_at "hv") => `(tactic| ((with_reducible refine' r_slT ?h ?_); (case h => walk_at "hp"); intro p H' sm hp))

def top (i : Nat) : Stmt := PySem.Challenge.pw_dawkline_k06_disk.main.body.getD i (.Pass ⟨0, 0, 0, 0⟩)

/-! ### applied -/
abbrev s_applied : Stmt := top 5
abbrev N_applied : List Str := ["content", "steps", "step"]
theorem sc_applied : FnScope N_applied ["content", "steps"] (defScope s_applied) := ⟨rfl, rfl, rfl, by decide +kernel, rfl, by decide +kernel, by decide +kernel⟩
theorem bi_applied : BindOk "applied" s_applied ["content", "steps"] := fun _ _ _ _ _ _ us hl => match us, hl with | [_, _], _ => rfl
def sp_applied (K : PySem.W.Frag) : Sp := sp2 fun x y H Q _ => ∃ p q xs st, x = .ref p ∧ y = .ref q ∧ H p = some (.lst (xs.map V.int)) ∧ H q = some (.lst (st.map V.int)) ∧ xs.length + st.length ≤ 1000000 ∧
  ∀ r H', H r = none → Same H H' → H' r = some (.lst ((appliedM xs st).map V.int)) → Q (.ref r) H'
theorem ok_applied {e : Wd} (D : DefAt e "applied" s_applied) (B : Bl e.mg) (g_CLEAR : ∃ t, e.mg "CLEAR" = some (.int (-1) t)) : Can e 1 "applied" ["content", "steps"] (sp_applied e.K) := by
  refine can_of D sc_applied bi_applied (fun _ _ _ _ h => sp2_len h) (fun cdv f A outer s H vs Q E hr h => ?_)
  obtain ⟨v0, v1, rfl, h⟩ := sp2_ex h
  have nd := sc_applied.nd
  obtain ⟨p, q, xs, st, rfl, rfl, hp, hq, hl, k⟩ := h
  refine ⟨_, (pss_cons (ps_set (i := 0) nd rfl (by first | exact Or.inl rfl | exact Or.inr rfl) (pe_callTy (call_listU (K := e.K)) (by rfl) B.b_list bt_list (pa_cons (pv 0) pa_nil)))
    (pss_cons (ps_for PassesOwn.never rfl (pi_U (K := e.K) (pv 1)) (pg_name (i := 2) nd rfl (by first | exact Or.inl rfl | exact Or.inr rfl)) (pss_one (ps_if (pt_cmpR (op_eqU (K := e.K) hr) (pv 2) (pe_gi g_CLEAR) (nomark _)) (pss_one (ps_set (i := 0) nd rfl (by first | exact Or.inl rfl | exact Or.inr rfl) (pe_lst pa_nil))) (pss_one (ps_expr (pe_bmU (K := e.K) PySem.F.plainAttrs_list PySem.F.slot_list_append PySem.F.type_list_append mt_append (pv 0) (pa_cons (pv 2) pa_nil)))))))
    (pss_one (ps_ret (pv 0))))), ?_⟩
  walk_at "go"
  rename_i r0 H0 np0 sm0 hr0
  refine for_L (fun i σ' H' => ∃ r y, σ' = [some (.ref r), some (.ref q), y] ∧ H r = none ∧ Same H H' ∧ H' r = some (.lst ((appliedM xs (st.take i)).map V.int))) (SqL.of (sm0 _ _ hq)) ?_ ?_ ?_ ?_
  · exact ⟨r0, none, rfl, np0, sm0, hr0⟩
  · rintro i σ' H' _ ⟨r, y, rfl, nr, sm, hr⟩
    exact SqL.of (sm _ _ hq)
  · rintro i x σ' H' hx ⟨r, y, rfl, nr, sm, hr⟩
    obtain ⟨n, hn, rfl⟩ := get_mapG hx
    have al := applied_len xs (st.take i)
    have tl : (st.take i).length ≤ st.length := by rw [List.length_take]; omega
    rw [take_snoc hn, applied_snoc]
    walk_at "go"
    refine r_ite (fun c => ?_) (fun c => ?_)
    · rw [if_pos c]
      walk_at "go"
      rename_i r1 H1 np1 sm1 hr1
      exact ⟨r1, _, rfl, Same.before sm np1, sm.trans sm1, hr1⟩
    · rw [if_neg c]
      walk_at "go"
      rename_i H1 h1 k1
      exact ⟨r, _, rfl, nr, Same.but sm nr k1, by rw [h1, List.map_append] <;> rfl⟩
  · rintro σ' H' ⟨r, y, rfl, nr, sm, hr⟩
    rw [List.length_map, List.take_length] at hr
    walk_at "go"
    exact k _ _ nr sm hr
theorem use_applied {K : PySem.W.Frag} {p q : Addr} {xs st : List Int} {H : Hp} {Q : VK} {E : XK} (h1 : H p = some (.lst (xs.map V.int))) (h2 : H q = some (.lst (st.map V.int))) (h3 : xs.length + st.length ≤ 1000000) (k : ∀ r H', H r = none → Same H H' → H' r = some (.lst ((appliedM xs st).map V.int)) → Q (.ref r) H') : sp_applied K [.ref p, .ref q] H Q E :=
  ⟨p, q, xs, st, rfl, rfl, h1, h2, h3, k⟩
local macro_rules | `(tactic| walk_at "call") => `(tactic| ((with_reducible refine' use_applied ?h1 ?h2 ?h3 ?_); (case h1 => walk_at "hp"); (case h2 => walk_at "hp"); (case h3 => walk_at "nat"); intro r H' np sm hr))

/-! ### Disk.__init__ -/
abbrev s_Disk___init__ : Stmt := inClass (top 6) 0
abbrev N_Disk___init__ : List Str := ["self"]
theorem sc_Disk___init__ : FnScope N_Disk___init__ ["self"] (defScope s_Disk___init__) := ⟨rfl, rfl, rfl, by decide +kernel, rfl, by decide +kernel, by decide +kernel⟩
theorem bi_Disk___init__ : BindQ "__init__" "Disk.__init__" s_Disk___init__ ["self"] := fun _ _ _ _ _ _ us hl => match us, hl with | [_], _ => rfl
def sp_Disk___init__ (K : PySem.W.Frag) : Sp := sp1 fun x H Q _ => ∃ p, x = .ref p ∧ Ins H p (He.ga K "Disk") [] ∧ ∀ H' L S ca sa, DkAt K H' p L S ca sa ⟨fun _ => [], fun _ => [], none⟩ → (∀ b o, H b = some o → b ≠ p → H' b = some o) → (∀ b ∈ diskP p L S ca sa, b = p ∨ H b = none) → Q .non H'
theorem ok_Disk___init__ {e : Wd} (D : InitAt e (He.ga e.K "Disk") "Disk" "Disk.__init__" s_Disk___init__) (B : Bl e.mg) (kc_Disk : Cls e.K (He.ga e.K "Disk")) (kn_Disk_durable : NoAttr e.K (He.ga e.K "Disk") "durable") (kn_Disk_steps : NoAttr e.K (He.ga e.K "Disk") "steps") (kn_Disk_power : NoAttr e.K (He.ga e.K "Disk") "power") : CanN e 1 (He.ga e.K "Disk") "Disk" ["self"] (sp_Disk___init__ e.K) := by
  refine canN_of D sc_Disk___init__ bi_Disk___init__ (fun _ _ _ _ h => sp1_len h) (fun cdv f A outer s H vs Q E hr h => ?_)
  obtain ⟨v0, rfl, h⟩ := sp1_ex h
  have nd := sc_Disk___init__.nd
  obtain ⟨p, rfl, hi, k⟩ := h
  refine ⟨_, (pss_cons (ps_fldU (K := e.K) (pv 0) (pe_lst (pa_cons (pe_lst pa_nil) (pa_cons (pe_lst pa_nil) pa_nil))))
    (pss_cons (ps_fldU (K := e.K) (pv 0) (pe_lst (pa_cons (pe_lst pa_nil) (pa_cons (pe_lst pa_nil) pa_nil))))
    (pss_one (ps_fldU (K := e.K) (pv 0) pe_non)))), ?_⟩
  walk_at "go"
  rename_i c0 H1 n0 m0 e0 c1 H2 n1 m1 e1 L H3 n2 m2 e2 H4 i4 f4 s0 H5 n5 m5 e5 s1 H6 n6 m6 e6 S H7 n7 m7 e7 H8 i8 f8 H9 i9 f9
  have h0 : H3 c0 = some (.lst []) := by walk_at "hp"
  have h1 : H3 c1 = some (.lst []) := by walk_at "hp"
  have b1 : H c1 = none := Same.before m0 n1
  have b2 : H L = none := Same.before (m0.trans m1) n2
  have b03 : Same H H3 := (m0.trans m1).trans m2
  have b5 : H3 s0 = none := f4.fresh i4 n5
  have b6 : H3 s1 = none := f4.fresh i4 (Same.before m5 n6)
  have b7 : H3 S = none := f4.fresh i4 (Same.before (m5.trans m6) n7)
  refine k H9 L S (fun i => if i = 0 then c0 else c1) (fun i => if i = 0 then s0 else s1) ⟨i9, by walk_at "hp", by walk_at "hp", fun i hi => ?_, fun i hi => ?_, ne_of_none e2 b7, ne_of_none e0 n1, ne_of_none e5 n6, fun i j hi hj => ?_⟩ (fun b o h n => ?_) (fun b hb => ?_)
  · match i, hi with
    | 0, _ => show H9 c0 = some (.lst []); walk_at "hp"
    | 1, _ => show H9 c1 = some (.lst []); walk_at "hp"
  · match i, hi with
    | 0, _ => show H9 s0 = some (.lst []); walk_at "hp"
    | 1, _ => show H9 s1 = some (.lst []); walk_at "hp"
  · match i, j, hi, hj with
    | 0, 0, _, _ => exact ne_of_none h0 b5
    | 0, 1, _, _ => exact ne_of_none h0 b6
    | 1, 0, _, _ => exact ne_of_none h1 b5
    | 1, 1, _, _ => exact ne_of_none h1 b6
  · rw [f9.kp b n, f8.kp b n]
    refine m7 _ _ (m6 _ _ (m5 _ _ ?_))
    rw [f4.kp b n]
    exact b03 _ _ h
  · simp only [List.mem_cons, List.not_mem_nil, or_false] at hb
    rcases hb with rfl | rfl | rfl | rfl | rfl | rfl | rfl
    · exact .inl rfl
    · exact .inr b2
    · exact .inr n0
    · exact .inr b1
    · exact .inr (Same.before b03 b7)
    · exact .inr (Same.before b03 b5)
    · exact .inr (Same.before b03 b6)
theorem use_Disk {K : PySem.W.Frag} {H : Hp} {Q : VK} {E : XK} (k : ∀ p H' fp, H p = none → Same H H' → Own H' (.ref p) (diskT K ⟨fun _ => [], fun _ => [], none⟩) fp → (∀ b ∈ fp, H b = none) → Q (.ref p) H') : makeq (He.ga K "Disk") (sp_Disk___init__ K) E [] H Q :=
  r_makev fun p H1 np sm hi => ⟨p, rfl, hi, fun H2 L S ca sa d kp nw => ⟨rfl, k p H2 _ np (fun b o e => kp b o (sm b o e) (ne_of_none e np)) d.own fun b hb => (nw b hb).elim (fun e => e ▸ np) fun e => Same.before sm e⟩⟩
local macro_rules | `(tactic| walk_at "call") => `(tactic| ((with_reducible refine' use_Disk ?_); intro p H' fp np sm ho hn))

/-! ### Disk.spend -/
abbrev s_Disk_spend : Stmt := inClass (top 6) 1
abbrev N_Disk_spend : List Str := ["self"]
theorem sc_Disk_spend : FnScope N_Disk_spend ["self"] (defScope s_Disk_spend) := ⟨rfl, rfl, rfl, by decide +kernel, rfl, by decide +kernel, by decide +kernel⟩
theorem bi_Disk_spend : BindQ "spend" "Disk.spend" s_Disk_spend ["self"] := fun _ _ _ _ _ _ us hl => match us, hl with | [_], _ => rfl
def sp_Disk_spend (K : PySem.W.Frag) : Sp := sp1 fun x H Q E => ∃ p L S pw, x = .ref p ∧ Ins H p (He.ga K "Disk") (diskF L S pw) ∧ (pw = some 0 → E (.ref (He.ga K "PowerCut")) none H) ∧ (pw = none → Q .non H) ∧
  ∀ n, pw = some n → n ≠ 0 → ∀ H', Ins H' p (He.ga K "Disk") (diskF L S (some (n - 1))) → Fput p H H' → Q .non H'
theorem ok_Disk_spend {e : Wd} (D : MethAt e (He.ga e.K "Disk") "spend" "Disk.spend" s_Disk_spend) (B : Bl e.mg) (kc_Disk : Cls e.K (He.ga e.K "Disk")) (kn_Disk_power : NoAttr e.K (He.ga e.K "Disk") "power") (gm_PowerCut : e.mg "PowerCut" = some (.ref (He.ga e.K "PowerCut"))) (xo_PowerCut : Xco e.K (He.ga e.K "PowerCut")) : CanM e 1 (He.ga e.K "Disk") "spend" ["self"] (sp_Disk_spend e.K) := by
  refine canMX_of D sc_Disk_spend bi_Disk_spend (fun _ _ _ _ h => sp1_len h) (fun cdv f A outer s H vs Q E hr h tk po => ?_)
  obtain ⟨v0, rfl, h⟩ := sp1_ex h
  have nd := sc_Disk_spend.nd
  obtain ⟨p, L, S, pw, rfl, hi, k0, k1, k2⟩ := h
  unfold diskF at hi
  refine ⟨_, (pss_cons (ps_if (pt_cmpR op_isU (pe_fldU (K := e.K) (pv 0)) pe_non (nomark _)) (pss_one ps_retN) pss_nil)
    (pss_cons (ps_if (pt_cmpR (op_eqU (K := e.K) hr) (pe_fldU (K := e.K) (pv 0)) pe_int (nomark _)) (pss_one (ps_raiseU rfl tk (mk0 xo_PowerCut gm_PowerCut))) pss_nil)
    (pss_one (ps_fldaugU (K := e.K) (pv 0) pe_int in_sub)))), ?_⟩
  cases pw with
  | none =>
    walk_at "go"
    exact k1 rfl
  | some n =>
    have hi : Ins H p (He.ga e.K "Disk") [("durable", L), ("steps", S), ("power", .int n)] := hi
    walk_at "go"
    refine r_ite (fun c => ?_) (fun c => ?_)
    · walk_at "go"
      exact k0 (by rw [c])
    · walk_at "go"
      rename_i H1 hi1 f1
      exact k2 n rfl c _ hi1 f1
theorem use_spend {K : PySem.W.Frag} {p : Addr} {L S : V} {pw : Option Int} {H : Hp} {Q : VK} {E : XK} (h1 : Ins H p (He.ga K "Disk") (diskF L S pw)) (k0 : pw = some 0 → E (.ref (He.ga K "PowerCut")) none H) (k : pw ≠ some 0 → ∀ H', Ins H' p (He.ga K "Disk") (diskF L S (pw.map (· - 1))) → (∀ b, b ≠ p → H' b = H b) → Q .non H') : sp_Disk_spend K [.ref p] H Q E := by
  refine ⟨p, L, S, pw, rfl, h1, k0, fun e => ?_, fun n e hn H' hi f => ?_⟩
  · subst e
    exact k (fun z => nomatch z) H h1 fun _ _ => rfl
  · subst e
    exact k (fun z => hn (Option.some.inj z)) H' hi f.kp

/-! ### Disk.pending -/
abbrev s_Disk_pending : Stmt := inClass (top 6) 6
abbrev N_Disk_pending : List Str := ["self", "file"]
theorem sc_Disk_pending : FnScope N_Disk_pending ["self", "file"] (defScope s_Disk_pending) := ⟨rfl, rfl, rfl, by decide +kernel, rfl, by decide +kernel, by decide +kernel⟩
theorem bi_Disk_pending : BindQ "pending" "Disk.pending" s_Disk_pending ["self", "file"] := fun _ _ _ _ _ _ us hl => match us, hl with | [_, _], _ => rfl
def sp_Disk_pending (K : PySem.W.Frag) : Sp := sp2 fun x y H Q _ => ∃ p fp D, ∃ f : Nat, x = .ref p ∧ y = .int f ∧ f < 2 ∧ Own H (.ref p) (diskT K D) fp ∧ Q (.int (D.s f).length) H
theorem ok_Disk_pending {e : Wd} (D : MethAt e (He.ga e.K "Disk") "pending" "Disk.pending" s_Disk_pending) (B : Bl e.mg) (kc_Disk : Cls e.K (He.ga e.K "Disk")) (kn_Disk_steps : NoAttr e.K (He.ga e.K "Disk") "steps") : CanM e 1 (He.ga e.K "Disk") "pending" ["self", "file"] (sp_Disk_pending e.K) := by
  refine canM_of D sc_Disk_pending bi_Disk_pending (fun _ _ _ _ h => sp2_len h) (fun cdv f A outer s H vs Q E hr h => ?_)
  obtain ⟨v0, v1, rfl, h⟩ := sp2_ex h
  have nd := sc_Disk_pending.nd
  obtain ⟨p, fp, D, f, rfl, rfl, hf, ho, k⟩ := h
  obtain ⟨p', L, S, ca, sa, e1, rfl, d⟩ := ho.disk
  cases e1
  have hi : Ins H p (He.ga e.K "Disk") [("durable", .ref L), ("steps", .ref S), ("power", pwV D.pw)] := d.ins
  have hL := d.ld
  have hS := d.ls
  have hs := d.ss f hf
  have a2 := at2 sa hf
  refine ⟨_, (pss_one (ps_ret (pe_callB (call_lenU (K := e.K)) (by rfl) B.b_len bt_len (pa_cons (pe_ix (ix_U (K := e.K)) (pe_fldU (K := e.K) (pv 0)) (pv 1) (fun _ _ => rfl)) pa_nil)))), ?_⟩
  walk_at "go"
  rw [List.length_map]
  exact k
theorem use_pending {K : PySem.W.Frag} {p : Addr} {fp : List Addr} {D : Dsk} {f : Nat} {H : Hp} {Q : VK} {E : XK} (h1 : Own H (.ref p) (diskT K D) fp) (h2 : f < 2) (k : Q (.int (D.s f).length) H) : sp_Disk_pending K [.ref p, .int f] H Q E :=
  ⟨p, fp, D, f, rfl, rfl, h2, h1, k⟩

/-! ### Disk.limit -/
abbrev s_Disk_limit : Stmt := inClass (top 6) 7
abbrev N_Disk_limit : List Str := ["self", "steps"]
theorem sc_Disk_limit : FnScope N_Disk_limit ["self", "steps"] (defScope s_Disk_limit) := ⟨rfl, rfl, rfl, by decide +kernel, rfl, by decide +kernel, by decide +kernel⟩
theorem bi_Disk_limit : BindQ "limit" "Disk.limit" s_Disk_limit ["self", "steps"] := fun _ _ _ _ _ _ us hl => match us, hl with | [_, _], _ => rfl
def sp_Disk_limit (K : PySem.W.Frag) : Sp := sp2 fun x y H Q _ => ∃ p fp D pw, x = .ref p ∧ y = pwV pw ∧ Own H (.ref p) (diskT K D) fp ∧ ∀ H', Own H' (.ref p) (diskT K { D with pw := pw }) fp → Chg fp fp H H' → Q .non H'
theorem ok_Disk_limit {e : Wd} (D : MethAt e (He.ga e.K "Disk") "limit" "Disk.limit" s_Disk_limit) (B : Bl e.mg) (kc_Disk : Cls e.K (He.ga e.K "Disk")) (kn_Disk_power : NoAttr e.K (He.ga e.K "Disk") "power") : CanM e 1 (He.ga e.K "Disk") "limit" ["self", "steps"] (sp_Disk_limit e.K) := by
  refine canM_of D sc_Disk_limit bi_Disk_limit (fun _ _ _ _ h => sp2_len h) (fun cdv f A outer s H vs Q E hr h => ?_)
  obtain ⟨v0, v1, rfl, h⟩ := sp2_ex h
  have nd := sc_Disk_limit.nd
  obtain ⟨p, fp, D, pw, rfl, rfl, ho, k⟩ := h
  obtain ⟨p', L, S, ca, sa, e1, rfl, d⟩ := ho.disk
  cases e1
  have hi : Ins H p (He.ga e.K "Disk") [("durable", .ref L), ("steps", .ref S), ("power", pwV D.pw)] := d.ins
  refine ⟨_, (pss_one (ps_fldU (K := e.K) (pv 0) (pv 1))), ?_⟩
  walk_at "go"
  rename_i H1 hi1 f1
  exact k H1 (d.fput f1 hi1).own (f1.chg (by simp))
theorem use_limit {K : PySem.W.Frag} {p : Addr} {fp : List Addr} {D : Dsk} {pw : Option Int} {H : Hp} {Q : VK} {E : XK} (h1 : Own H (.ref p) (diskT K D) fp) (k : ∀ H', Own H' (.ref p) (diskT K { D with pw := pw }) fp → Chg fp fp H H' → Q .non H') : sp_Disk_limit K [.ref p, pwV pw] H Q E :=
  ⟨p, fp, D, pw, rfl, rfl, h1, k⟩

/-! ### _law_is_integer -/
abbrev s_l_is_integer : Stmt := top 8
abbrev N_l_is_integer : List Str := ["_law_actual"]
theorem sc_l_is_integer : FnScope N_l_is_integer ["_law_actual"] (defScope s_l_is_integer) := ⟨rfl, rfl, rfl, by decide +kernel, rfl, by decide +kernel, by decide +kernel⟩
theorem bi_l_is_integer : BindOk "_law_is_integer" s_l_is_integer ["_law_actual"] := fun _ _ _ _ _ _ us hl => match us, hl with | [_], _ => rfl
def sp_l_is_integer (K : PySem.W.Frag) : Sp := sp1 fun x H Q _ => ∃ n, x = .int n ∧ Q (.bl true) H
theorem ok_l_is_integer {e : Wd} (D : DefAt e "_law_is_integer" s_l_is_integer) (B : Bl e.mg) : Can e 1 "_law_is_integer" ["_law_actual"] (sp_l_is_integer e.K) := by
  refine can_of D sc_l_is_integer bi_l_is_integer (fun _ _ _ _ h => sp1_len h) (fun cdv f A outer s H vs Q E hr h => ?_)
  obtain ⟨v0, rfl, h⟩ := sp1_ex h
  have nd := sc_l_is_integer.nd
  obtain ⟨n, rfl, k⟩ := h
  refine ⟨_, (pss_one (ps_ret (pe_andU (K := e.K) (pe_callB (call_isiU (K := e.K)) (by rfl) B.b_isinstance bt_isinstance (pa_cons (pv 0) (pa_cons (pe_bltn (v := .ty "int") (by rfl) B.b_int bt_int rfl) pa_nil))) (pe_one (pe_notU (K := e.K) (pe_callB (call_isiU (K := e.K)) (by rfl) B.b_isinstance bt_isinstance (pa_cons (pv 0) (pa_cons (pe_bltn (v := .ty "bool") (by rfl) B.b_bool bt_bool rfl) pa_nil)))))))), ?_⟩
  walk_at "go"
  exact k
theorem use_is_integer {K : PySem.W.Frag} {n : Int} {H : Hp} {Q : VK} {E : XK} (k : Q (.bl true) H) : sp_l_is_integer K [.int n] H Q E :=
  ⟨n, rfl, k⟩
local macro_rules | `(tactic| walk_at "call") => `(tactic| with_reducible refine' use_is_integer ?_)

/-! ### _law_refill -/
abbrev s_l_refill : Stmt := top 9
abbrev N_l_refill : List Str := ["_law_script", "_law_k", "_law_cell"]
theorem sc_l_refill : FnScope N_l_refill ["_law_script", "_law_k"] (defScope s_l_refill) := ⟨rfl, rfl, rfl, by decide +kernel, rfl, by decide +kernel, by decide +kernel⟩
theorem bi_l_refill : BindOk "_law_refill" s_l_refill ["_law_script", "_law_k"] := fun _ _ _ _ _ _ us hl => match us, hl with | [_, _], _ => rfl
def sp_l_refill (K : PySem.W.Frag) : Sp := sp2 fun sc k H Q _ => ∃ b n, sc = .ref b ∧ k = .int n ∧ Scr K H b ∧ ∀ d, Q (.int d) H
theorem ok_l_refill {e : Wd} (D : DefAt e "_law_refill" s_l_refill) (B : Bl e.mg) : Can e 1 "_law_refill" ["_law_script", "_law_k"] (sp_l_refill e.K) := by
  refine can_of D sc_l_refill bi_l_refill (fun _ _ _ _ h => sp2_len h) (fun cdv f A outer s H vs Q E hr h => ?_)
  obtain ⟨v0, v1, rfl, h⟩ := sp2_ex h
  have nd := sc_l_refill.nd
  obtain ⟨b, n, rfl, rfl, hs, k⟩ := h
  obtain ⟨ns, hl, hq⟩ := hs.seq
  refine ⟨_, (pss_cons (ps_set (i := 2) nd rfl (by first | exact Or.inl rfl | exact Or.inr rfl) pe_int)
    (Evl.pss_cut (ps_if (pt_tru (K := e.K) (pv 0)) (pss_one (ps_set (i := 2) nd rfl (by first | exact Or.inl rfl | exact Or.inr rfl) (pe_ix (ix_U (K := e.K)) (pv 0) (pe_op op_modU (pv 1) (pe_callB (call_lenU (K := e.K)) (by rfl) B.b_len bt_len (pa_cons (pv 0) pa_nil))) (fun _ _ => rfl)))) pss_nil)
    (Evl.pss_cut (ps_if (pt_cmpR op_ltU (pv 2) pe_int (nomark _)) (pss_one (ps_set (i := 2) nd rfl (by first | exact Or.inl rfl | exact Or.inr rfl) (pe_op op_subU pe_int (pe_op op_mulU pe_int (pv 2))))) pss_nil)
    (pss_cons (ps_if (PW.pt (pw_and (pt_cmpR op_geU (pv 2) (pe_op op_powU pe_int pe_int) (nomark _)) (pw_and1 (pt_cmpR op_ltU (pv 1) (pe_callB (call_lenU (K := e.K)) (by rfl) B.b_len bt_len (pa_cons (pv 0) pa_nil)) (nomark _))))) (pss_one (ps_ret (pv 2))) pss_nil)
    (pss_one (ps_ret (pe_op op_modU (pe_callTy call_intU (by rfl) B.b_int bt_int (pa_cons (pe_op (op_addU (K := e.K)) (pe_op op_mulU (pe_callTy call_intU (by rfl) B.b_int bt_int (pa_cons (pe_op (op_addU (K := e.K)) (pe_op (op_addU (K := e.K)) (pe_op op_mulU (pv 2) pe_int) (pe_op op_mulU (pv 1) pe_int)) pe_int) pa_nil)) pe_int) pe_int) pa_nil)) pe_int))))))), ?_⟩
  walk_at "go"
  refine r_cut (fun σ' H' => ∃ c : Int, σ' = [some (.ref b), some (.int n), some (.int c)] ∧ H = H') ?_ ?_
  · walk_at "go"
    refine r_itb (fun c => ?_) (fun _ => ?_)
    · have h0 : 0 < ns.length := by
        cases ns with
        | nil => cases c
        | cons x r => exact Nat.succ_pos _
      walk_at "go"
      refine r_I (by simp only [List.length_map]; omega) ?_
      obtain ⟨v, hv⟩ := atI_mod h0 n
      refine r_ixL hq (by simp only [List.length_map]; exact hv) ?_
      exact ⟨_, rfl, rfl⟩
    · walk_at "go"
      exact ⟨_, rfl, rfl⟩
  · rintro σ' H' ⟨c, rfl, rfl⟩
    refine r_cut (fun σ' H' => ∃ c : Int, σ' = [some (.ref b), some (.int n), some (.int c)] ∧ H = H') ?_ ?_
    · walk_at "all"
      all_goals exact ⟨_, rfl, rfl⟩
    · rintro σ' H' ⟨c, rfl, rfl⟩
      walk_at "all"
      all_goals exact k _

/-! ### _law_after -/
abbrev s_l_after : Stmt := top 14
abbrev N_l_after : List Str := ["_law_content", "_law_steps", "_law_step"]
theorem sc_l_after : FnScope N_l_after ["_law_content", "_law_steps"] (defScope s_l_after) := ⟨rfl, rfl, rfl, by decide +kernel, rfl, by decide +kernel, by decide +kernel⟩
theorem bi_l_after : BindOk "_law_after" s_l_after ["_law_content", "_law_steps"] := fun _ _ _ _ _ _ us hl => match us, hl with | [_, _], _ => rfl
def sp_l_after (K : PySem.W.Frag) : Sp := sp2 fun x y H Q _ => ∃ p q xs os, x = .ref p ∧ y = .ref q ∧ H p = some (.lst (xs.map V.int)) ∧ H q = some (.lst (os.map pwV)) ∧ xs.length + os.length ≤ 1000000 ∧
  ∀ r H', H r = none → Same H H' → H' r = some (.lst ((afterM xs os).map V.int)) → Q (.ref r) H'
theorem ok_l_after {e : Wd} (D : DefAt e "_law_after" s_l_after) (B : Bl e.mg) : Can e 1 "_law_after" ["_law_content", "_law_steps"] (sp_l_after e.K) := by
  refine can_of D sc_l_after bi_l_after (fun _ _ _ _ h => sp2_len h) (fun cdv f A outer s H vs Q E hr h => ?_)
  obtain ⟨v0, v1, rfl, h⟩ := sp2_ex h
  have nd := sc_l_after.nd
  obtain ⟨p, q, xs, os, rfl, rfl, hp, hq, hl, k⟩ := h
  refine ⟨_, (pss_cons (ps_set (i := 0) nd rfl (by first | exact Or.inl rfl | exact Or.inr rfl) (pe_callTy (call_listU (K := e.K)) (by rfl) B.b_list bt_list (pa_cons (pv 0) pa_nil)))
    (pss_cons (ps_for PassesOwn.never rfl (pi_U (K := e.K) (pv 1)) (pg_name (i := 2) nd rfl (by first | exact Or.inl rfl | exact Or.inr rfl)) (pss_one (ps_if (pt_cmpR op_isU (pv 2) pe_non (nomark _)) (pss_one (ps_set (i := 0) nd rfl (by first | exact Or.inl rfl | exact Or.inr rfl) (pe_lst pa_nil))) (pss_one (ps_expr (pe_bmU (K := e.K) PySem.F.plainAttrs_list PySem.F.slot_list_append PySem.F.type_list_append mt_append (pv 0) (pa_cons (pv 2) pa_nil)))))))
    (pss_one (ps_ret (pv 0))))), ?_⟩
  walk_at "go"
  rename_i r0 H0 np0 sm0 hr0
  refine for_L (fun i σ' H' => ∃ r y, σ' = [some (.ref r), some (.ref q), y] ∧ H r = none ∧ Same H H' ∧ H' r = some (.lst ((afterM xs (os.take i)).map V.int))) (SqL.of (sm0 _ _ hq)) ?_ ?_ ?_ ?_
  · exact ⟨r0, none, rfl, np0, sm0, hr0⟩
  · rintro i σ' H' _ ⟨r, y, rfl, nr, sm, hr⟩
    exact SqL.of (sm _ _ hq)
  · rintro i x σ' H' hx ⟨r, y, rfl, nr, sm, hr⟩
    obtain ⟨o, ho, rfl⟩ := get_mapG hx
    have al := after_len xs (os.take i)
    have tl : (os.take i).length ≤ os.length := by rw [List.length_take]; omega
    rw [take_snoc ho, after_snoc]
    cases o with
    | none =>
      have e1 : pwV none = .non := rfl
      rw [e1]
      walk_at "go"
      rename_i r1 H1 np1 sm1 hr1
      exact ⟨r1, _, rfl, Same.before sm np1, sm.trans sm1, hr1⟩
    | some n =>
      have e1 : pwV (some n) = .int n := rfl
      rw [e1]
      walk_at "go"
      rename_i H1 h1 k1
      exact ⟨r, _, rfl, nr, Same.but sm nr k1, by rw [h1, show stepO (afterM xs (os.take i)) (some n) = afterM xs (os.take i) ++ [n] from rfl, List.map_append] <;> rfl⟩
  · rintro σ' H' ⟨r, y, rfl, nr, sm, hr⟩
    rw [List.length_map, List.take_length] at hr
    walk_at "go"
    exact k _ _ nr sm hr
theorem use_after {K : PySem.W.Frag} {p q : Addr} {xs : List Int} {os : List (Option Int)} {H : Hp} {Q : VK} {E : XK} (h1 : H p = some (.lst (xs.map V.int))) (h2 : H q = some (.lst (os.map pwV))) (h3 : xs.length + os.length ≤ 1000000) (k : ∀ r H', H r = none → Same H H' → H' r = some (.lst ((afterM xs os).map V.int)) → Q (.ref r) H') : sp_l_after K [.ref p, .ref q] H Q E :=
  ⟨p, q, xs, os, rfl, rfl, h1, h2, h3, k⟩
local macro_rules | `(tactic| walk_at "call") => `(tactic| ((with_reducible refine' use_after ?h1 ?h2 ?h3 ?_); (case h1 => walk_at "hp"); (case h2 => walk_at "hp"); (case h3 => walk_at "nat"); intro r H' np sm hr))

/-! ### Disk.append -/
abbrev s_Disk_append : Stmt := inClass (top 6) 2
abbrev N_Disk_append : List Str := ["self", "file", "data", "byte"]
theorem sc_Disk_append : FnScope N_Disk_append ["self", "file", "data"] (defScope s_Disk_append) := ⟨rfl, rfl, rfl, by decide +kernel, rfl, by decide +kernel, by decide +kernel⟩
theorem bi_Disk_append : BindQ "append" "Disk.append" s_Disk_append ["self", "file", "data"] := fun _ _ _ _ _ _ us hl => match us, hl with | [_, _, _], _ => rfl
def sp_Disk_append (K : PySem.W.Frag) : Sp := sp3 fun x y z H Q E => ∃ p fp D q bs, ∃ f : Nat, x = .ref p ∧ y = .int f ∧ z = .ref q ∧ f < 2 ∧ Own H (.ref p) (diskT K D) fp ∧ H q = some (.lst (bs.map V.int)) ∧ q ∉ fp ∧ (D.s f).length + bs.length ≤ 1000000 ∧ (∀ n, D.pw = some n → 0 ≤ n) ∧
  ((∀ n, D.pw = some n → (bs.length : Int) ≤ n) → ∀ H', Own H' (.ref p) (diskT K ((D.add f bs).use bs.length)) fp → Chg fp fp H H' → Q .non H') ∧
  ∀ n : Nat, D.pw = some (n : Int) → n < bs.length → ∀ H', Own H' (.ref p) (diskT K ((D.add f (bs.take n)).use n)) fp → Chg fp fp H H' → E (.ref (He.ga K "PowerCut")) none H'
theorem ok_Disk_append {e : Wd} (D : MethAt e (He.ga e.K "Disk") "append" "Disk.append" s_Disk_append) (B : Bl e.mg) (kc_Disk : Cls e.K (He.ga e.K "Disk")) (kn_Disk_steps : NoAttr e.K (He.ga e.K "Disk") "steps") (c_Disk_spend : CanM e 1 (He.ga e.K "Disk") "spend" ["self"] (sp_Disk_spend e.K)) : CanM e 2 (He.ga e.K "Disk") "append" ["self", "file", "data"] (sp_Disk_append e.K) := by
  refine canMX_of D sc_Disk_append bi_Disk_append (fun _ _ _ _ h => sp3_len h) (fun cdv f A outer s H vs Q E hr h tk po => ?_)
  obtain ⟨v0, v1, v2, rfl, h⟩ := sp3_ex h
  have nd := sc_Disk_append.nd
  obtain ⟨p, fp, D, q, bs, f, rfl, rfl, rfl, hf, ho, hq, nq, hl, hn, k, kE⟩ := h
  obtain ⟨p', L, S, ca, sa, e1, rfl, d⟩ := ho.disk
  cases e1
  have a2 := at2 sa hf
  refine ⟨_, (pss_one (ps_for po rfl (pi_U (K := e.K) (pv 2)) (pg_name (i := 3) nd rfl (by first | exact Or.inl rfl | exact Or.inr rfl)) (pss_cons (ps_expr (pe_canMX0 tk c_Disk_spend (hr.mono (by decide)) (pv 0)))
    (pss_one (ps_expr (pe_bmU (K := e.K) PySem.F.plainAttrs_list PySem.F.slot_list_append PySem.F.type_list_append mt_append (pe_ix (ix_U (K := e.K)) (pe_fldU (K := e.K) (pv 0)) (pv 1) (fun _ _ => rfl)) (pa_cons (pv 3) pa_nil))))))), ?_⟩
  walk_at "go"
  refine for_L (fun i σ' H' => ∃ y, σ' = [some (.ref p), some (.int f), some (.ref q), y] ∧ DkAt e.K H' p L S ca sa ((D.add f (bs.take i)).use i) ∧ Chg (diskP p L S ca sa) (diskP p L S ca sa) H H' ∧ ∀ n, D.pw = some n → (i : Int) ≤ n) (SqL.of hq) ?_ ?_ ?_ ?_
  · refine ⟨_, rfl, ?_, Chg.refl _ _, fun n e => by have := hn n e; simpa using this⟩
    have e0 : (D.add f (bs.take 0)).use ((0 : Nat) : Int) = D.add f [] := by
      rw [List.take_zero]
      exact use0 _
    rw [e0]
    exact ⟨d.ins, d.ld, d.ls, d.cs, fun i hi => by
      have := d.ss i hi
      unfold Dsk.add
      show H (sa i) = some (.lst ((setF D.s f (D.s f ++ []) i).map V.int))
      by_cases e : i = f
      · subst e
        rw [setF_at, List.append_nil]
        exact this
      · rw [setF_ne _ _ e]
        exact this, d.ls', d.cc, d.sss, d.xs⟩
  · rintro i σ' H' _ ⟨y, rfl, _, c, _⟩
    exact SqL.of (c.kp _ _ hq nq)
  · rintro i x σ' H' hx ⟨y, rfl, d', c, hp⟩
    obtain ⟨n, hn', rfl⟩ := get_mapG hx
    have hi' : i < bs.length := (List.getElem?_eq_some_iff.mp hn').1
    have hi2 : Ins H' p (He.ga e.K "Disk") [("durable", .ref L), ("steps", .ref S), ("power", pwV (D.pw.map (· - (i : Int))))] := d'.ins
    walk_at "go"
    refine use_spend d'.ins (fun ez => ?_) (fun ez H1 hi1 f1 => ?_)
    · cases ep : D.pw with
      | none =>
        have ez : (D.pw.map (· - (i : Int))) = some 0 := ez
        rw [ep] at ez
        cases ez
      | some m =>
        have ez : (D.pw.map (· - (i : Int))) = some 0 := ez
        rw [ep] at ez
        have e2 : m - (i : Int) = 0 := Option.some.inj ez
        have e3 : m = (i : Int) := by omega
        exact kE i (by rw [ep, e3]) hi' H' d'.own c
    · have d1 := d'.fput (H' := H1) ⟨f1, _, _, d'.ins⟩ hi1
      have hi3 : Ins H1 p (He.ga e.K "Disk") [("durable", .ref L), ("steps", .ref S), ("power", pwV ((D.pw.map (· - (i : Int))).map (· - 1)))] := hi1
      have hS1 := d1.ls
      have hs1 : H1 (sa f) = some (.lst ((D.s f ++ bs.take i).map V.int)) := by
        have q := d1.ss f hf
        have q : H1 (sa f) = some (.lst ((setF D.s f (D.s f ++ bs.take i) f).map V.int)) := q
        rw [setF_at] at q
        exact q
      have hl1 : (D.s f).length + (bs.take i).length ≤ 1000000 := by
        rw [List.length_take]
        omega
      walk_at "go"
      rename_i H2 h2 k2
      have h2' : H2 (sa f) = some (.lst ((D.s f ++ bs.take (i + 1)).map V.int)) := by
        rw [h2, take_snoc hn', ← List.append_assoc, List.map_append (l₂ := [n])] <;> rfl
      have d2 := d1.put hf h2' k2
      refine ⟨_, rfl, ?_, ?_, fun m em => ?_⟩
      · have e1 := dsk_step D f (bs.take i) (bs.take (i + 1)) i
        have e2 : ((i : Int) + 1) = ((i + 1 : Nat) : Int) := by omega
        rw [e2] at e1
        rw [← e1]
        exact d2
      · exact (c.trans (Fput.chg (p := p) ⟨f1, _, _, d'.ins⟩ (by simp))).trans (d1.chg_s hf k2)
      · have := hp m em
        have ez : (D.pw.map (· - (i : Int))) ≠ some 0 := ez
        rw [em] at ez
        have e2 : m - (i : Int) ≠ 0 := fun z => ez (by rw [← z] <;> rfl)
        omega
  · rintro σ' H' ⟨y, rfl, d', c, hp⟩
    rw [List.length_map, List.take_length] at d'
    walk_at "go"
    exact k (fun n e => by have := hp n e; rw [List.length_map] at this; exact this) H' d'.own c

/-! ### Disk.clear -/
abbrev s_Disk_clear : Stmt := inClass (top 6) 3
abbrev N_Disk_clear : List Str := ["self", "file"]
theorem sc_Disk_clear : FnScope N_Disk_clear ["self", "file"] (defScope s_Disk_clear) := ⟨rfl, rfl, rfl, by decide +kernel, rfl, by decide +kernel, by decide +kernel⟩
theorem bi_Disk_clear : BindQ "clear" "Disk.clear" s_Disk_clear ["self", "file"] := fun _ _ _ _ _ _ us hl => match us, hl with | [_, _], _ => rfl
def sp_Disk_clear (K : PySem.W.Frag) : Sp := sp2 fun x y H Q E => ∃ p fp D, ∃ f : Nat, x = .ref p ∧ y = .int f ∧ f < 2 ∧ Own H (.ref p) (diskT K D) fp ∧ (D.s f).length ≤ 1000000 ∧
  (D.pw ≠ some 0 → ∀ H', Own H' (.ref p) (diskT K ((D.add f [-1]).use 1)) fp → Chg fp fp H H' → Q .non H') ∧ (D.pw = some 0 → E (.ref (He.ga K "PowerCut")) none H)
theorem ok_Disk_clear {e : Wd} (D : MethAt e (He.ga e.K "Disk") "clear" "Disk.clear" s_Disk_clear) (B : Bl e.mg) (g_CLEAR : ∃ t, e.mg "CLEAR" = some (.int (-1) t)) (kc_Disk : Cls e.K (He.ga e.K "Disk")) (kn_Disk_steps : NoAttr e.K (He.ga e.K "Disk") "steps") (c_Disk_spend : CanM e 1 (He.ga e.K "Disk") "spend" ["self"] (sp_Disk_spend e.K)) : CanM e 2 (He.ga e.K "Disk") "clear" ["self", "file"] (sp_Disk_clear e.K) := by
  refine canMX_of D sc_Disk_clear bi_Disk_clear (fun _ _ _ _ h => sp2_len h) (fun cdv f A outer s H vs Q E hr h tk po => ?_)
  obtain ⟨v0, v1, rfl, h⟩ := sp2_ex h
  have nd := sc_Disk_clear.nd
  obtain ⟨p, fp, D, f, rfl, rfl, hf, ho, hl, k, kE⟩ := h
  obtain ⟨p', L, S, ca, sa, e1, rfl, d⟩ := ho.disk
  cases e1
  have a2 := at2 sa hf
  have hi2 : Ins H p (He.ga e.K "Disk") [("durable", .ref L), ("steps", .ref S), ("power", pwV D.pw)] := d.ins
  refine ⟨_, (pss_cons (ps_expr (pe_canMX0 tk c_Disk_spend (hr.mono (by decide)) (pv 0)))
    (pss_one (ps_expr (pe_bmU (K := e.K) PySem.F.plainAttrs_list PySem.F.slot_list_append PySem.F.type_list_append mt_append (pe_ix (ix_U (K := e.K)) (pe_fldU (K := e.K) (pv 0)) (pv 1) (fun _ _ => rfl)) (pa_cons (pe_gi g_CLEAR) pa_nil))))), ?_⟩
  walk_at "go"
  refine use_spend d.ins kE (fun ez H1 hi1 f1 => ?_)
  have d1 := d.fput (H' := H1) ⟨f1, _, _, d.ins⟩ hi1
  have hi3 : Ins H1 p (He.ga e.K "Disk") [("durable", .ref L), ("steps", .ref S), ("power", pwV (D.pw.map (· - 1)))] := hi1
  have hS1 := d1.ls
  have hs1 : H1 (sa f) = some (.lst ((D.s f).map V.int)) := d1.ss f hf
  walk_at "go"
  rename_i H2 h2 k2
  have h2' : H2 (sa f) = some (.lst ((D.s f ++ [-1]).map V.int)) := by
    rw [h2, List.map_append] <;> rfl
  have d2 := d1.put hf h2' k2
  exact k ez H2 d2.own ((Fput.chg (p := p) ⟨f1, _, _, d.ins⟩ (by simp)).trans (d1.chg_s hf k2))

/-! ### Disk.content -/
abbrev s_Disk_content : Stmt := inClass (top 6) 5
abbrev N_Disk_content : List Str := ["self", "file"]
theorem sc_Disk_content : FnScope N_Disk_content ["self", "file"] (defScope s_Disk_content) := ⟨rfl, rfl, rfl, by decide +kernel, rfl, by decide +kernel, by decide +kernel⟩
theorem bi_Disk_content : BindQ "content" "Disk.content" s_Disk_content ["self", "file"] := fun _ _ _ _ _ _ us hl => match us, hl with | [_, _], _ => rfl
def sp_Disk_content (K : PySem.W.Frag) : Sp := sp2 fun x y H Q _ => ∃ p fp D, ∃ f : Nat, x = .ref p ∧ y = .int f ∧ f < 2 ∧ Own H (.ref p) (diskT K D) fp ∧ (D.c f).length + (D.s f).length ≤ 1000000 ∧
  ∀ r H', H r = none → Same H H' → H' r = some (.lst ((appliedM (D.c f) (D.s f)).map V.int)) → Q (.ref r) H'
theorem ok_Disk_content {e : Wd} (D : MethAt e (He.ga e.K "Disk") "content" "Disk.content" s_Disk_content) (B : Bl e.mg) (kc_Disk : Cls e.K (He.ga e.K "Disk")) (kn_Disk_durable : NoAttr e.K (He.ga e.K "Disk") "durable") (kn_Disk_steps : NoAttr e.K (He.ga e.K "Disk") "steps") (c_applied : Can e 1 "applied" ["content", "steps"] (sp_applied e.K)) : CanM e 2 (He.ga e.K "Disk") "content" ["self", "file"] (sp_Disk_content e.K) := by
  refine canM_of D sc_Disk_content bi_Disk_content (fun _ _ _ _ h => sp2_len h) (fun cdv f A outer s H vs Q E hr h => ?_)
  obtain ⟨v0, v1, rfl, h⟩ := sp2_ex h
  have nd := sc_Disk_content.nd
  obtain ⟨p, fp, D, f, rfl, rfl, hf, ho, hl, k⟩ := h
  obtain ⟨p', L, S, ca, sa, e1, rfl, d⟩ := ho.disk
  cases e1
  have hi : Ins H p (He.ga e.K "Disk") [("durable", .ref L), ("steps", .ref S), ("power", pwV D.pw)] := d.ins
  have hL := d.ld
  have hS := d.ls
  have hc := d.cs f hf
  have hs := d.ss f hf
  have a1 := at2 ca hf
  have a2 := at2 sa hf
  refine ⟨_, (pss_one (ps_ret (pe_can c_applied (hr.mono (by decide)) passL (pa_cons (pe_ix (ix_U (K := e.K)) (pe_fldU (K := e.K) (pv 0)) (pv 1) (fun _ _ => rfl)) (pa_cons (pe_ix (ix_U (K := e.K)) (pe_fldU (K := e.K) (pv 0)) (pv 1) (fun _ _ => rfl)) pa_nil))))), ?_⟩
  walk_at "go"
  rename_i r H' np sm hr
  exact k r H' np sm hr
theorem use_content {K : PySem.W.Frag} {p : Addr} {fp : List Addr} {D : Dsk} {f : Nat} {H : Hp} {Q : VK} {E : XK} (h1 : Own H (.ref p) (diskT K D) fp) (h2 : f < 2) (h3 : (D.c f).length + (D.s f).length ≤ 1000000) (k : ∀ r H', H r = none → Same H H' → H' r = some (.lst ((appliedM (D.c f) (D.s f)).map V.int)) → Q (.ref r) H') : sp_Disk_content K [.ref p, .int f] H Q E :=
  ⟨p, fp, D, f, rfl, rfl, h2, h1, h3, k⟩

/-! ### Disk.crash -/
abbrev s_Disk_crash : Stmt := inClass (top 6) 8
abbrev N_Disk_crash : List Str := ["self", "a", "b"]
theorem sc_Disk_crash : FnScope N_Disk_crash ["self", "a", "b"] (defScope s_Disk_crash) := ⟨rfl, rfl, rfl, by decide +kernel, rfl, by decide +kernel, by decide +kernel⟩
theorem bi_Disk_crash : BindQ "crash" "Disk.crash" s_Disk_crash ["self", "a", "b"] := fun _ _ _ _ _ _ us hl => match us, hl with | [_, _, _], _ => rfl
def sp_Disk_crash (K : PySem.W.Frag) : Sp := sp3 fun x y z H Q _ => ∃ p fp D, ∃ a b : Nat, x = .ref p ∧ y = .int a ∧ z = .int b ∧ Own H (.ref p) (diskT K D) fp ∧ (∀ f, f < 2 → (D.c f).length + (D.s f).length ≤ 1000000) ∧
  ∀ H' fp', Own H' (.ref p) (diskT K (D.crash a b)) fp' → Chg fp fp' H H' → Q .non H'
theorem ok_Disk_crash {e : Wd} (D : MethAt e (He.ga e.K "Disk") "crash" "Disk.crash" s_Disk_crash) (B : Bl e.mg) (kc_Disk : Cls e.K (He.ga e.K "Disk")) (kn_Disk_durable : NoAttr e.K (He.ga e.K "Disk") "durable") (kn_Disk_steps : NoAttr e.K (He.ga e.K "Disk") "steps") (kn_Disk_power : NoAttr e.K (He.ga e.K "Disk") "power") (c_applied : Can e 1 "applied" ["content", "steps"] (sp_applied e.K)) : CanM e 2 (He.ga e.K "Disk") "crash" ["self", "a", "b"] (sp_Disk_crash e.K) := by
  refine canM_of D sc_Disk_crash bi_Disk_crash (fun _ _ _ _ h => sp3_len h) (fun cdv f A outer s H vs Q E hr h => ?_)
  obtain ⟨v0, v1, v2, rfl, h⟩ := sp3_ex h
  have nd := sc_Disk_crash.nd
  obtain ⟨p, fp, D, a, b, rfl, rfl, rfl, ho, hl, k⟩ := h
  obtain ⟨p', L, S, ca, sa, e1, rfl, d⟩ := ho.disk
  cases e1
  have hi2 : Ins H p (He.ga e.K "Disk") [("durable", .ref L), ("steps", .ref S), ("power", pwV D.pw)] := d.ins
  have hL := d.ld
  have hS := d.ls
  have c0 := d.cs 0 (by decide)
  have c1 := d.cs 1 (by decide)
  have s0 := d.ss 0 (by decide)
  have s1 := d.ss 1 (by decide)
  refine ⟨_, (pss_cons (ps_fldU (K := e.K) (pv 0) (pe_lst (pa_cons (pe_can c_applied (hr.mono (by decide)) passL (pa_cons (pe_ix (ix_U (K := e.K)) (pe_fldU (K := e.K) (pv 0)) pe_int (fun _ _ => rfl)) (pa_cons (pe_slice (sl_U (K := e.K)) (pe_ix (ix_U (K := e.K)) (pe_fldU (K := e.K) (pv 0)) pe_int (fun _ _ => rfl)) po_none (po_some (pv 1))) pa_nil))) (pa_cons (pe_can c_applied (hr.mono (by decide)) passL (pa_cons (pe_ix (ix_U (K := e.K)) (pe_fldU (K := e.K) (pv 0)) pe_int (fun _ _ => rfl)) (pa_cons (pe_slice (sl_U (K := e.K)) (pe_ix (ix_U (K := e.K)) (pe_fldU (K := e.K) (pv 0)) pe_int (fun _ _ => rfl)) po_none (po_some (pv 2))) pa_nil))) pa_nil))))
    (pss_cons (ps_fldU (K := e.K) (pv 0) (pe_lst (pa_cons (pe_lst pa_nil) (pa_cons (pe_lst pa_nil) pa_nil))))
    (pss_one (ps_fldU (K := e.K) (pv 0) pe_non)))), ?_⟩
  have b0 := hl 0 (by decide)
  have b1 := hl 1 (by decide)
  have t0 : ((D.s 0).take a).length ≤ (D.s 0).length := by rw [List.length_take]; omega
  have t1 : ((D.s 1).take b).length ≤ (D.s 1).length := by rw [List.length_take]; omega
  walk_at "go"
  rename_i q0 H1 nq0 m1 hq0
  rw [cutV_take, ← List.map_take] at hq0
  walk_at "go"
  rename_i r0 H2 nr0 m2 hr0 q1 H3 nq1 m3 hq1
  rw [cutV_take, ← List.map_take] at hq1
  walk_at "go"
  rename_i r1 H4 nr1 m4 hr1 L' H5 nL m5 hL' H6 i6 f6 x0 H7 nx0 m7 hx0 x1 H8 nx1 m8 hx1 S' H9 nS m9 hS' H10 i10 f10 H11 i11 f11
  have r03 : H3 r0 = some (.lst ((appliedM (D.c 0) ((D.s 0).take a)).map V.int)) := by walk_at "hp"
  have r06 : H6 r0 = some (.lst ((appliedM (D.c 0) ((D.s 0).take a)).map V.int)) := by walk_at "hp"
  have r16 : H6 r1 = some (.lst ((appliedM (D.c 1) ((D.s 1).take b)).map V.int)) := by walk_at "hp"
  have r07 : H7 r0 = some (.lst ((appliedM (D.c 0) ((D.s 0).take a)).map V.int)) := by walk_at "hp"
  have r17 : H7 r1 = some (.lst ((appliedM (D.c 1) ((D.s 1).take b)).map V.int)) := by walk_at "hp"
  have L8 : H8 L' = some (.lst [.ref r0, .ref r1]) := by walk_at "hp"
  have L11 : H11 L' = some (.lst [.ref r0, .ref r1]) := by walk_at "hp"
  have S11 : H11 S' = some (.lst [.ref x0, .ref x1]) := by walk_at "hp"
  have g0 : H11 r0 = some (.lst ((appliedM (D.c 0) ((D.s 0).take a)).map V.int)) := by walk_at "hp"
  have g1 : H11 r1 = some (.lst ((appliedM (D.c 1) ((D.s 1).take b)).map V.int)) := by walk_at "hp"
  have y0 : H11 x0 = some (.lst []) := by walk_at "hp"
  have y1 : H11 x1 = some (.lst []) := by walk_at "hp"
  have m14 : Same H H4 := ((m1.trans m2).trans m3).trans m4
  have bx0 : H x0 = none := Same.before (m14.trans m5) (f6.fresh i6 nx0)
  have bx1 : H x1 = none := Same.before (m14.trans m5) (f6.fresh i6 (Same.before m7 nx1))
  have bS : H S' = none := Same.before (m14.trans m5) (f6.fresh i6 (Same.before (m7.trans m8) nS))
  have bL : H L' = none := Same.before m14 nL
  have br0 : H r0 = none := Same.before m1 nr0
  have br1 : H r1 = none := Same.before ((m1.trans m2).trans m3) nr1
  have dd : DkAt e.K H11 p L' S' (fun i => if i = 0 then r0 else r1) (fun i => if i = 0 then x0 else x1) (D.crash a b) := by
    refine ⟨i11, L11, S11, fun i hi => ?_, fun i hi => ?_, ne_of_none L8 nS, ne_of_none r03 nr1, ne_of_none hx0 nx1, fun i j hi hj => ?_⟩
    · match i, hi with
      | 0, _ => exact g0
      | 1, _ => exact g1
    · match i, hi with
      | 0, _ => exact y0
      | 1, _ => exact y1
    · match i, j, hi, hj with
      | 0, 0, _, _ => exact ne_of_none r06 nx0
      | 0, 1, _, _ => exact ne_of_none r07 nx1
      | 1, 0, _, _ => exact ne_of_none r16 nx0
      | 1, 1, _, _ => exact ne_of_none r17 nx1
  refine k H11 _ dd.own (Chg.of (fun z o hz n => ?_) d.own.there fun z hz => ?_)
  · have np : z ≠ p := fun q => n (by rw [q]; simp)
    rw [f11.kp z np, f10.kp z np]
    refine m9 _ _ (m8 _ _ (m7 _ _ ?_))
    rw [f6.kp z np]
    exact m5 _ _ (m14 _ _ hz)
  · have hz : z ∈ [p, L', r0, r1, S', x0, x1] := hz
    simp only [List.mem_cons, List.not_mem_nil, or_false] at hz
    rcases hz with rfl | rfl | rfl | rfl | rfl | rfl | rfl
    · exact .inl (by simp)
    · exact .inr bL
    · exact .inr br0
    · exact .inr br1
    · exact .inr bS
    · exact .inr bx0
    · exact .inr bx1
theorem use_crash {K : PySem.W.Frag} {p : Addr} {fp : List Addr} {D : Dsk} {a b : Nat} {H : Hp} {Q : VK} {E : XK} (h1 : Own H (.ref p) (diskT K D) fp) (h2 : ∀ f, f < 2 → (D.c f).length + (D.s f).length ≤ 1000000) (k : ∀ H' fp', Own H' (.ref p) (diskT K (D.crash a b)) fp' → Chg fp fp' H H' → Q .non H') : sp_Disk_crash K [.ref p, .int a, .int b] H Q E :=
  ⟨p, fp, D, a, b, rfl, rfl, rfl, h1, h2, k⟩

/-! ### _law_draw -/
abbrev s_l_draw : Stmt := top 10
abbrev N_l_draw : List Str := ["_law_state", "_law_script", "_law_size", "_law_digit"]
theorem sc_l_draw : FnScope N_l_draw ["_law_state", "_law_script", "_law_size"] (defScope s_l_draw) := ⟨rfl, rfl, rfl, by decide +kernel, rfl, by decide +kernel, by decide +kernel⟩
theorem bi_l_draw : BindOk "_law_draw" s_l_draw ["_law_state", "_law_script", "_law_size"] := fun _ _ _ _ _ _ us hl => match us, hl with | [_, _, _], _ => rfl
def sp_l_draw (K : PySem.W.Frag) : Sp := sp3 fun st sc n H Q _ => ∃ a b m, st = .ref a ∧ sc = .ref b ∧ n = .int m ∧ Drw H a ∧ Scr K H b ∧ (0 < m ∧ m < 1073741824) ∧ ∀ d H', 0 ≤ d → d < m → Stp a H H' → Q (.int d) H'
theorem ok_l_draw {e : Wd} (D : DefAt e "_law_draw" s_l_draw) (B : Bl e.mg) (c_l_refill : Can e 1 "_law_refill" ["_law_script", "_law_k"] (sp_l_refill e.K)) : Can e 2 "_law_draw" ["_law_state", "_law_script", "_law_size"] (sp_l_draw e.K) := by
  refine can_of D sc_l_draw bi_l_draw (fun _ _ _ _ h => sp3_len h) (fun cdv f A outer s H vs Q E hr h => ?_)
  obtain ⟨v0, v1, v2, rfl, h⟩ := sp3_ex h
  have nd := sc_l_draw.nd
  obtain ⟨a, b, m, rfl, rfl, rfl, ⟨x, y, ha⟩, hs, hm, k⟩ := h
  have dr : Drw H a := ⟨x, y, ha⟩
  refine ⟨_, (Evl.pss_cut (ps_if (pt_cmpR (op_eqU (K := e.K) hr) (pe_ix (ix_U (K := e.K)) (pv 0) pe_int (fun _ _ => rfl)) pe_int (nomark _)) (pss_cons (ps_asg (pe_can c_l_refill (hr.mono (by decide)) passL (pa_cons (pv 1) (pa_cons (pe_ix (ix_U (K := e.K)) (pv 0) pe_int (fun _ _ => rfl)) pa_nil))) (pg_sub (pv 0) pe_int set_list))
    (pss_one (ps_asg (pe_op (op_addU (K := e.K)) (pe_ix (ix_U (K := e.K)) (pv 0) pe_int (fun _ _ => rfl)) pe_int) (pg_sub (pv 0) pe_int set_list)))) pss_nil)
    (pss_cons (ps_set (i := 3) nd rfl (by first | exact Or.inl rfl | exact Or.inr rfl) (pe_op op_modU (pe_callTy call_intU (by rfl) B.b_int bt_int (pa_cons (pe_ix (ix_U (K := e.K)) (pv 0) pe_int (fun _ _ => rfl)) pa_nil)) (pv 2)))
    (pss_cons (ps_asg (pe_op op_divU (pe_ix (ix_U (K := e.K)) (pv 0) pe_int (fun _ _ => rfl)) (pv 2)) (pg_sub (pv 0) pe_int set_list))
    (pss_one (ps_ret (pv 3)))))), ?_⟩
  walk_at "go"
  refine r_cut (fun σ' H' => ∃ x y : Int, σ' = [some (.ref a), some (.ref b), some (.int m), none] ∧ Stp a H H' ∧ H' a = some (.lst [.int x, .int y])) ?_ ?_
  · walk_at "go"
    refine r_ite (fun _ => ?_) (fun _ => ?_)
    · walk_at "go"
      refine ⟨b, x, rfl, rfl, hs, fun d => ?_⟩
      walk_at "go"
      rename_i H1 hp1 kp1 H2 hp2 kp2
      exact ⟨x + 1, d, rfl, ((Stp.refl dr).but hp1 kp1).but hp2 kp2, hp2⟩
    · walk_at "go"
      exact ⟨x, y, rfl, Stp.refl dr, ha⟩
  · rintro σ' H' ⟨x, y, rfl, s1, h1⟩
    walk_at "go"
    rename_i H2 hp2 kp2
    exact k _ _ (Int.emod_nonneg _ (by omega)) (Int.emod_lt_of_pos _ hm.1) (s1.but hp2 kp2)
theorem use_draw {K : PySem.W.Frag} {a b : Addr} {m : Int} {H : Hp} {Q : VK} {E : XK} (h1 : Drw H a) (h2 : Scr K H b) (h3 : 0 < m) (h4 : m < 1073741824) (k : ∀ d H', 0 ≤ d → d < m → Stp a H H' → Q (.int d) H') : sp_l_draw K [.ref a, .ref b, .int m] H Q E :=
  ⟨a, b, m, rfl, rfl, rfl, h1, h2, ⟨h3, h4⟩, k⟩
local macro_rules | `(tactic| walk_at "call") => `(tactic| ((with_reducible refine' use_draw ?h1 ?h2 ?h3 ?h4 ?_); (case h1 => walk_at "hp"); (case h2 => walk_at "hp"); (case h3 => walk_at "nat"); (case h4 => walk_at "nat"); intro d H' d0 d1 st))

/-! ### _law_is_bytes -/
abbrev s_l_is_bytes : Stmt := top 13
abbrev N_l_is_bytes : List Str := ["_law_actual", "_law_byte"]
theorem sc_l_is_bytes : FnScope N_l_is_bytes ["_law_actual"] (defScope s_l_is_bytes) := ⟨rfl, rfl, rfl, by decide +kernel, rfl, by decide +kernel, by decide +kernel⟩
theorem bi_l_is_bytes : BindOk "_law_is_bytes" s_l_is_bytes ["_law_actual"] := fun _ _ _ _ _ _ us hl => match us, hl with | [_], _ => rfl
def sp_l_is_bytes (K : PySem.W.Frag) : Sp := sp1 fun x H Q _ => ∃ p, ∃ ns : List Int, x = .ref p ∧ H p = some (.lst (ns.map V.int)) ∧ ns.length ≤ 1000000 ∧ (∀ n ∈ ns, 0 ≤ n ∧ n ≤ 255) ∧ ∀ H', Same H H' → Q (.bl true) H'
theorem ok_l_is_bytes {e : Wd} (D : DefAt e "_law_is_bytes" s_l_is_bytes) (B : Bl e.mg) (c_l_is_integer : Can e 1 "_law_is_integer" ["_law_actual"] (sp_l_is_integer e.K)) : Can e 2 "_law_is_bytes" ["_law_actual"] (sp_l_is_bytes e.K) := by
  refine can_of D sc_l_is_bytes bi_l_is_bytes (fun _ _ _ _ h => sp1_len h) (fun cdv f A outer s H vs Q E hr h => ?_)
  obtain ⟨v0, rfl, h⟩ := sp1_ex h
  have nd := sc_l_is_bytes.nd
  obtain ⟨p, ns, rfl, hp, hl, hb, k⟩ := h
  refine ⟨_, (pss_cons (ps_if (pt_not (pt_tru (K := e.K) (pe_callB (call_isiU (K := e.K)) (by rfl) B.b_isinstance bt_isinstance (pa_cons (pv 0) (pa_cons (pe_bltn (v := .ty "list") (by rfl) B.b_list bt_list rfl) pa_nil))))) (pss_one (ps_ret pe_bl)) pss_nil)
    (pss_one (ps_ret (pe_callB (call_allU (K := e.K) rfl) (by rfl) B.b_all bt_all (pa_cons (pe_lc (own := [("_law_byte", 1)]) (tt := tYes) rfl nd (pi_U (K := e.K) (pv 0)) (blkOk_by (N := N_l_is_bytes) (sc := defScope s_l_is_bytes) (by decide +kernel)) (fun _ _ _ _ _ => (pg_name (i := 1) nd rfl (by first | exact Or.inl rfl | exact Or.inr rfl))) (fun _ _ _ _ _ => pts_nil) (fun _ _ _ _ _ => (pe_andU (K := e.K) (pe_can c_l_is_integer (hr.mono (by decide)) passL (pa_cons (pv 1) pa_nil)) (pe_one (pe_chain op_leU op_leU pe_int (pv 1) pe_int))))) pa_nil))))), ?_⟩
  walk_at "go"
  refine lc_L hp (fun H' s => s _ _ hp) (sr_same H) (fun i ds => ds = List.replicate i (.bool true)) (by rw [List.length_map]; omega) rfl (fun _ => rfl) (fun i x H1 ds Q1 Qn hx s1 rv k1 k2 => ?_) (fun D H1 ys ds hD s1 hl1 dq rv => ?_)
  · obtain ⟨n, hn, rfl⟩ := get_mapG hx
    obtain ⟨h0, h1⟩ := hb n (mem_of_get hn)
    refine r_tyes (r_iteT ?_)
    walk_at "go"
    rw [decide_eq_true h0]
    walk_at "go"
    rw [decide_eq_true h1]
    exact k1 _ (.bool true) _ (Same.refl _) (.bl true) (by rw [rv, List.replicate_succ'])
  · subst rv
    rw [dqs_trues dq] at hl1
    walk_at "go"
    refine r_all hl1 ?_
    rw [all_trues]
    walk_at "go"
    exact k _ s1
theorem use_is_bytes {K : PySem.W.Frag} {p : Addr} {ns : List Int} {H : Hp} {Q : VK} {E : XK} (h1 : H p = some (.lst (ns.map V.int))) (h2 : ns.length ≤ 1000000) (h3 : ∀ n ∈ ns, 0 ≤ n ∧ n ≤ 255) (k : ∀ H', Same H H' → Q (.bl true) H') : sp_l_is_bytes K [.ref p] H Q E :=
  ⟨p, ns, rfl, h1, h2, h3, k⟩

/-! ### _law_model -/
abbrev s_l_model : Stmt := top 16
abbrev N_l_model : List Str := ["_law_model_here", "_law_act", "_law_files", "_law_power", "_law_steps", "_law_count"]
theorem sc_l_model : FnScope N_l_model ["_law_model_here", "_law_act"] (defScope s_l_model) := ⟨rfl, rfl, rfl, by decide +kernel, rfl, by decide +kernel, by decide +kernel⟩
theorem bi_l_model : BindOk "_law_model" s_l_model ["_law_model_here", "_law_act"] := fun _ _ _ _ _ _ us hl => match us, hl with | [_, _], _ => rfl
def sp_l_model (K : PySem.W.Frag) : Sp := sp2 fun x y H Q _ => ∃ m F ta ca sa M t q, ∃ bs : List Int, ∃ k f : Nat, x = .ref m ∧ y = .ref t ∧ k < 3 ∧ f < 2 ∧ MAt H m F ta ca sa M ∧ H t = some (.tup [.int k, .int f, .ref q]) ∧ H q = some (.lst (bs.map V.int)) ∧
  (M.c f).length + (M.s f).length + bs.length ≤ 100000 ∧ (∀ n, M.pw = some n → 0 ≤ n) ∧
  ∀ H' ta' ca' sa', MAt H' m F ta' ca' sa' (mdoM M k f bs) → Chg (mdlP m F ca sa) (mdlP m F ca' sa') H H' → Q (.bl (decide (cntM M.pw (lenM k bs) = lenM k bs))) H'
theorem ok_l_model {e : Wd} (D : DefAt e "_law_model" s_l_model) (B : Bl e.mg) (c_l_after : Can e 1 "_law_after" ["_law_content", "_law_steps"] (sp_l_after e.K)) : Can e 2 "_law_model" ["_law_model_here", "_law_act"] (sp_l_model e.K) := by
  refine can_of D sc_l_model bi_l_model (fun _ _ _ _ h => sp2_len h) (fun cdv f A outer s H vs Q E hr h => ?_)
  obtain ⟨v0, v1, rfl, h⟩ := sp2_ex h
  have nd := sc_l_model.nd
  obtain ⟨m, F, ta, ca, sa, M, t, q, bs, kk, f, rfl, rfl, hk, hf, d, ht, hq, hl, hn, k⟩ := h
  have hm := d.mm
  have hb : lenM kk bs ≤ 100001 := by
    unfold lenM
    split <;> omega
  refine ⟨_, (pss_cons (ps_set (i := 2) nd rfl (by first | exact Or.inl rfl | exact Or.inr rfl) (pe_ix (ix_U (K := e.K)) (pv 0) pe_int (fun _ _ => rfl)))
    (pss_cons (ps_set (i := 3) nd rfl (by first | exact Or.inl rfl | exact Or.inr rfl) (pe_ix (ix_U (K := e.K)) (pv 0) pe_int (fun _ _ => rfl)))
    (pss_cons (ps_set (i := 4) nd rfl (by first | exact Or.inl rfl | exact Or.inr rfl) (pe_lst (pa_cons pe_non pa_nil)))
    (Evl.pss_cut (ps_if (pt_cmpR (op_eqU (K := e.K) hr) (pe_ix (ix_U (K := e.K)) (pv 1) pe_int (fun _ _ => rfl)) pe_int (nomark _)) (pss_one (ps_set (i := 4) nd rfl (by first | exact Or.inl rfl | exact Or.inr rfl) (pe_callTy (call_listU (K := e.K)) (by rfl) B.b_list bt_list (pa_cons (pe_ix (ix_U (K := e.K)) (pv 1) pe_int (fun _ _ => rfl)) pa_nil)))) pss_nil)
    (pss_cons (ps_set (i := 5) nd rfl (by first | exact Or.inl rfl | exact Or.inr rfl) (pe_callB (call_lenU (K := e.K)) (by rfl) B.b_len bt_len (pa_cons (pv 4) pa_nil)))
    (Evl.pss_cut (ps_if (PW.pt (pw_and (pt_cmpR op_isNotU (pv 3) pe_non (nomark _)) (pw_and1 (pt_cmpR op_ltU (pv 3) (pv 5) (nomark _))))) (pss_one (ps_set (i := 5) nd rfl (by first | exact Or.inl rfl | exact Or.inr rfl) (pv 3))) pss_nil)
    (Evl.pss_cut (ps_if (pt_cmpR (op_eqU (K := e.K) hr) (pe_ix (ix_U (K := e.K)) (pv 1) pe_int (fun _ _ => rfl)) pe_int (nomark _)) (pss_one (ps_if (pt_cmpR (op_eqU (K := e.K) hr) (pv 5) pe_int (nomark _)) (pss_one (ps_asg (pe_tup (pa_cons (pe_can c_l_after (hr.mono (by decide)) passL (pa_cons (pe_ix (ix_U (K := e.K)) (pe_ix (ix_U (K := e.K)) (pv 2) (pe_ix (ix_U (K := e.K)) (pv 1) pe_int (fun _ _ => rfl)) (fun _ _ => rfl)) pe_int (fun _ _ => rfl)) (pa_cons (pe_ix (ix_U (K := e.K)) (pe_ix (ix_U (K := e.K)) (pv 2) (pe_ix (ix_U (K := e.K)) (pv 1) pe_int (fun _ _ => rfl)) (fun _ _ => rfl)) pe_int (fun _ _ => rfl)) pa_nil))) (pa_cons (pe_lst pa_nil) pa_nil))) (pg_sub (pv 2) (pe_ix (ix_U (K := e.K)) (pv 1) pe_int (fun _ _ => rfl)) set_list))) pss_nil)) (pss_one (ps_asg (pe_tup (pa_cons (pe_ix (ix_U (K := e.K)) (pe_ix (ix_U (K := e.K)) (pv 2) (pe_ix (ix_U (K := e.K)) (pv 1) pe_int (fun _ _ => rfl)) (fun _ _ => rfl)) pe_int (fun _ _ => rfl)) (pa_cons (pe_op (op_addU (K := e.K)) (pe_ix (ix_U (K := e.K)) (pe_ix (ix_U (K := e.K)) (pv 2) (pe_ix (ix_U (K := e.K)) (pv 1) pe_int (fun _ _ => rfl)) (fun _ _ => rfl)) pe_int (fun _ _ => rfl)) (pe_slice (sl_U (K := e.K)) (pv 4) po_none (po_some (pv 5)))) pa_nil))) (pg_sub (pv 2) (pe_ix (ix_U (K := e.K)) (pv 1) pe_int (fun _ _ => rfl)) set_list))))
    (Evl.pss_cut (ps_if (pt_cmpR op_isNotU (pv 3) pe_non (nomark _)) (pss_one (ps_asg (pe_op op_subU (pv 3) (pv 5)) (pg_sub (pv 0) pe_int set_list))) pss_nil)
    (pss_one (ps_ret (pe_cmpR (op_eqU (K := e.K) hr) (pv 5) (pe_callB (call_lenU (K := e.K)) (by rfl) B.b_len bt_len (pa_cons (pv 4) pa_nil)) (nomark _)))))))))))), ?_⟩
  walk_at "go"
  rename_i st0 H0 ns0 m0 h0
  refine r_cut (fun σ' H' => ∃ st, σ' = [some (.ref m), some (.ref t), some (.ref F), some (pwV M.pw), some (.ref st), none] ∧ Same H H' ∧ H st = none ∧ H' st = some (.lst ((stepsM kk bs).map pwV))) ?_ ?_
  · walk_at "go"
    refine r_ite (fun c => ?_) (fun c => ?_)
    · have c0 : kk = 0 := by omega
      subst c0
      walk_at "go"
      rename_i st1 H1 ns1 m1 h1
      refine ⟨st1, rfl, m0.trans m1, Same.before m0 ns1, ?_⟩
      rw [h1]
      unfold stepsM
      rw [if_pos rfl, List.map_map] <;> rfl
    · walk_at "go"
      refine ⟨st0, rfl, m0, ns0, ?_⟩
      rw [h0]
      unfold stepsM
      rw [if_neg (by omega)] <;> rfl
  rintro σ1 H1 ⟨st, rfl, m1, nst, h1⟩
  clear m0 h0 ns0
  have sl := stepsM_len kk bs
  have cl := cnt_le M.pw (lenM kk bs)
  have d1 := d.same m1
  have ht1 := m1 _ _ ht
  walk_at "go"
  rw [List.length_map, sl]
  refine r_cut (fun σ' H' => σ' = [some (.ref m), some (.ref t), some (.ref F), some (pwV M.pw), some (.ref st), some (.int (cntM M.pw (lenM kk bs) : Nat))] ∧ H1 = H') ?_ ?_
  · cases ep : M.pw with
    | none =>
      have e1 : pwV none = .non := rfl
      rw [e1]
      walk_at "go"
      exact ⟨rfl, rfl⟩
    | some n =>
      have hn0 := hn n ep
      have e1 : pwV (some n) = .int n := rfl
      rw [e1]
      walk_at "go"
      refine r_ite (fun c => ?_) (fun c => ?_)
      · walk_at "go"
        refine ⟨?_, rfl⟩
        have : ((cntM (some n) (lenM kk bs) : Nat) : Int) = n := by
          show ((min (lenM kk bs) n.toNat : Nat) : Int) = n
          omega
        rw [this] <;> rfl
      · walk_at "go"
        refine ⟨?_, rfl⟩
        have : cntM (some n) (lenM kk bs) = lenM kk bs := by
          show min (lenM kk bs) n.toNat = lenM kk bs
          omega
        rw [this] <;> rfl
  rintro σ2 H2 ⟨rfl, rfl⟩
  generalize hcn : cntM M.pw (lenM kk bs) = cn at *
  refine r_cut (fun σ' H' => ∃ ta' ca' sa', σ' = [some (.ref m), some (.ref t), some (.ref F), some (pwV M.pw), some (.ref st), some (.int cn)] ∧ MAt H' m F ta' ca' sa' (mfileM M kk f bs cn) ∧ Chg (mdlP m F ca sa) (mdlP m F ca' sa') H1 H' ∧ H' st = some (.lst ((stepsM kk bs).map pwV))) ?_ ?_
  · have hF1 := d1.ff
    have a2 := at2 ta hf
    have hT := d1.ts f hf
    have hC := d1.cs f hf
    have hS := d1.ss f hf
    have nsF : st ≠ F := fun z => by
      have := d.ff
      rw [← z, nst] at this
      cases this
    walk_at "go"
    refine r_ite (fun c => ?_) (fun c => ?_)
    · have c2 : kk = 2 := by omega
      have em : mfileM M kk f bs cn = if cn = 1 then { M with c := setF M.c f (afterM (M.c f) (M.s f)), s := setF M.s f [] } else M := by
        unfold mfileM
        rw [if_pos c2]
      rw [em]
      walk_at "go"
      refine r_ite (fun c3 => ?_) (fun c3 => ?_)
      · rw [if_pos (by omega)]
        walk_at "go"
        rename_i r H2 nr m2 hr z H3 nz m3 hz t1 H4 nt1 m4 ht4
        have hr4 : H4 r = some (.lst ((afterM (M.c f) (M.s f)).map V.int)) := by walk_at "hp"
        have hz4 : H4 z = some (.lst (([] : List (Option Int)).map pwV)) := m4 _ _ hz
        have sm4 : Same H1 H4 := (m2.trans m3).trans m4
        have d4 := d1.same sm4
        refine r_setL d4.ff (ix2 hf) (fun H5 h5 k5 => ?_)
        exact ⟨_, _, _, rfl, d4.pair hf ht4 hr4 hz4 h5 k5, d4.pair_chg hf sm4 k5 (.inr nr) (.inr (Same.before m2 nz)), by rw [k5 st nsF]; exact sm4 _ _ h1⟩
      · rw [if_neg (by omega)]
        walk_at "go"
        exact ⟨ta, ca, sa, rfl, d1, Chg.refl _ _, h1⟩
    · have c2 : kk ≠ 2 := by omega
      have em : mfileM M kk f bs cn = { M with s := setF M.s f (M.s f ++ (stepsM kk bs).take cn) } := by
        unfold mfileM
        rw [if_neg c2]
      rw [em]
      have tk1 : ((stepsM kk bs).take cn).length ≤ 100001 := by
        rw [List.length_take, sl]
        omega
      walk_at "go"
      rename_i x1 H2 nx1 m2 hx1
      rw [cutV_take, ← List.map_take] at hx1
      walk_at "go"
      rename_i x2 H3 nx2 m3 hx2 t1 H4 nt1 m4 ht4
      rw [← List.map_append] at hx2
      have sm4 : Same H1 H4 := (m2.trans m3).trans m4
      have d4 := d1.same sm4
      have hC4 := sm4 _ _ hC
      have hS4 := m4 _ _ hx2
      refine r_setL d4.ff (ix2 hf) (fun H5 h5 k5 => ?_)
      have d5 := d4.pair hf ht4 hC4 hS4 h5 k5
      have c5 := d4.pair_chg hf sm4 k5 (c := ca f) (.inl rfl) (.inr (Same.before m2 nx2))
      rw [setF_self] at d5 c5
      rw [setF_self] at d5
      exact ⟨_, _, _, rfl, d5, c5, by rw [k5 st nsF]; exact sm4 _ _ h1⟩
  rintro σ3 H3 ⟨ta', ca', sa', rfl, d3, c3, h3⟩
  have nsm : st ≠ m := fun z => by
    have := d.mm
    rw [← z, nst] at this
    cases this
  refine r_cut (fun σ' H' => ∃ ta' ca' sa', σ' = [some (.ref m), some (.ref t), some (.ref F), some (pwV M.pw), some (.ref st), some (.int cn)] ∧ MAt H' m F ta' ca' sa' (mdoM M kk f bs) ∧ Chg (mdlP m F ca sa) (mdlP m F ca' sa') H1 H' ∧ H' st = some (.lst ((stepsM kk bs).map pwV))) ?_ ?_
  · have em : mdoM M kk f bs = { mfileM M kk f bs cn with pw := M.pw.map (· - (cn : Int)) } := by
      unfold mdoM
      rw [hcn]
    rw [em]
    have ep3 := mfile_pw M kk f bs cn
    cases ep : M.pw with
    | none =>
      have e1 : pwV none = .non := rfl
      rw [e1]
      walk_at "go"
      refine ⟨ta', ca', sa', rfl, ?_, c3, h3⟩
      have d3' := d3
      obtain ⟨b1, b2, b3, b4, b5⟩ := d3'
      rw [ep3, ep] at b1
      exact ⟨b1, b2, b3, b4, b5⟩
    | some n =>
      have e1 : pwV (some n) = .int n := rfl
      rw [e1]
      walk_at "go"
      refine r_setL d3.mm (j := 1) rfl (fun H4 h4 k4 => ?_)
      obtain ⟨d4, c4⟩ := d3.pow (pw := some (n - (cn : Int))) h4 k4
      exact ⟨ta', ca', sa', rfl, d4, c3.trans c4, by rw [k4 st nsm]; exact h3⟩
  rintro σ4 H4 ⟨ta4, ca4, sa4, rfl, d4, c4, h4⟩
  walk_at "go"
  rw [List.length_map, sl]
  have := k H4 ta4 ca4 sa4 d4 ((Chg.same m1).trans c4)
  rw [show decide ((cn : Int) = (lenM kk bs : Int)) = decide (cn = lenM kk bs) from decide_eq_decide.mpr ⟨fun z => by omega, fun z => by omega⟩]
  exact this
theorem use_model {K : PySem.W.Frag} {m F t q : Addr} {ta ca sa : Nat → Addr} {M : Mdl} {bs : List Int} {k f : Nat} {H : Hp} {Q : VK} {E : XK} (h1 : k < 3) (h2 : f < 2) (h3 : MAt H m F ta ca sa M) (h4 : H t = some (.tup [.int k, .int f, .ref q])) (h5 : H q = some (.lst (bs.map V.int))) (h6 : (M.c f).length + (M.s f).length + bs.length ≤ 100000) (h7 : ∀ n, M.pw = some n → 0 ≤ n)
    (kk : ∀ H' ta' ca' sa', MAt H' m F ta' ca' sa' (mdoM M k f bs) → Chg (mdlP m F ca sa) (mdlP m F ca' sa') H H' → Q (.bl (decide (cntM M.pw (lenM k bs) = lenM k bs))) H') : sp_l_model K [.ref m, .ref t] H Q E :=
  ⟨m, F, ta, ca, sa, M, t, q, bs, k, f, rfl, rfl, h1, h2, h3, h4, h5, h6, h7, kk⟩

/-! ### Disk.sync -/
abbrev s_Disk_sync : Stmt := inClass (top 6) 4
abbrev N_Disk_sync : List Str := ["self", "file"]
theorem sc_Disk_sync : FnScope N_Disk_sync ["self", "file"] (defScope s_Disk_sync) := ⟨rfl, rfl, rfl, by decide +kernel, rfl, by decide +kernel, by decide +kernel⟩
theorem bi_Disk_sync : BindQ "sync" "Disk.sync" s_Disk_sync ["self", "file"] := fun _ _ _ _ _ _ us hl => match us, hl with | [_, _], _ => rfl
def sp_Disk_sync (K : PySem.W.Frag) : Sp := sp2 fun x y H Q E => ∃ p fp D, ∃ f : Nat, x = .ref p ∧ y = .int f ∧ f < 2 ∧ Own H (.ref p) (diskT K D) fp ∧ (D.c f).length + (D.s f).length ≤ 1000000 ∧
  (D.pw ≠ some 0 → ∀ H' fp', Own H' (.ref p) (diskT K ((D.syn f).use 1)) fp' → Chg fp fp' H H' → Q .non H') ∧ (D.pw = some 0 → E (.ref (He.ga K "PowerCut")) none H)
theorem ok_Disk_sync {e : Wd} (D : MethAt e (He.ga e.K "Disk") "sync" "Disk.sync" s_Disk_sync) (B : Bl e.mg) (kc_Disk : Cls e.K (He.ga e.K "Disk")) (kn_Disk_durable : NoAttr e.K (He.ga e.K "Disk") "durable") (kn_Disk_steps : NoAttr e.K (He.ga e.K "Disk") "steps") (c_Disk_spend : CanM e 1 (He.ga e.K "Disk") "spend" ["self"] (sp_Disk_spend e.K)) (c_Disk_content : CanM e 2 (He.ga e.K "Disk") "content" ["self", "file"] (sp_Disk_content e.K)) : CanM e 3 (He.ga e.K "Disk") "sync" ["self", "file"] (sp_Disk_sync e.K) := by
  refine canMX_of D sc_Disk_sync bi_Disk_sync (fun _ _ _ _ h => sp2_len h) (fun cdv f A outer s H vs Q E hr h tk po => ?_)
  obtain ⟨v0, v1, rfl, h⟩ := sp2_ex h
  have nd := sc_Disk_sync.nd
  obtain ⟨p, fp, D, f, rfl, rfl, hf, ho, hl, k, kE⟩ := h
  obtain ⟨p', L, S, ca, sa, e1, rfl, d⟩ := ho.disk
  cases e1
  have hi2 : Ins H p (He.ga e.K "Disk") [("durable", .ref L), ("steps", .ref S), ("power", pwV D.pw)] := d.ins
  refine ⟨_, (pss_cons (ps_expr (pe_canMX0 tk c_Disk_spend (hr.mono (by decide)) (pv 0)))
    (pss_cons (ps_asg (pe_canMX tk c_Disk_content (hr.mono (by decide)) (pv 0) (pa_cons (pv 1) pa_nil)) (pg_sub (pe_fldU (K := e.K) (pv 0)) (pv 1) set_list))
    (pss_one (ps_asg (pe_lst pa_nil) (pg_sub (pe_fldU (K := e.K) (pv 0)) (pv 1) set_list))))), ?_⟩
  walk_at "go"
  refine use_spend d.ins kE (fun ez H1 hi1 f1 => ?_)
  have d1 := d.fput (H' := H1) ⟨f1, _, _, d.ins⟩ hi1
  have hi3 : Ins H1 p (He.ga e.K "Disk") [("durable", .ref L), ("steps", .ref S), ("power", pwV (D.pw.map (· - 1)))] := hi1
  have hL1 := d1.ld
  have hS1 := d1.ls
  walk_at "go"
  refine use_content d1.own hf hl (fun r H2 nr m2 hr => ?_)
  walk_at "go"
  refine r_setL (m2 _ _ hL1) (ix2 hf) (fun H3 h3 k3 => ?_)
  have hi4 : Ins H3 p (He.ga e.K "Disk") [("durable", .ref L), ("steps", .ref S), ("power", pwV (D.pw.map (· - 1)))] := by
    obtain ⟨dx, q⟩ := hi3
    exact ⟨dx, by rw [k3 p (ins_ne ⟨dx, q⟩ hL1)]; exact m2 _ _ q⟩
  have hS3 : H3 S = some (.lst [.ref (sa 0), .ref (sa 1)]) := by
    rw [k3 S (Ne.symm d.ls')]
    exact m2 _ _ hS1
  walk_at "go"
  rename_i r2 H4 n4 m4 h4
  refine r_setL (m4 _ _ hS3) (ix2 hf) (fun H5 h5 k5 => ?_)
  obtain ⟨d5, c5⟩ := d1.syn hf nr m2 hr h3 k3 n4 m4 h4 h5 k5
  exact k ez H5 _ d5.own ((Fput.chg (p := p) ⟨f1, _, _, d.ins⟩ (by simp)).trans c5)

/-! ### _law_same -/
abbrev s_l_same : Stmt := top 17
abbrev N_l_same : List Str := ["_law_disk", "_law_model_here", "_law_k", "_law_content"]
theorem sc_l_same : FnScope N_l_same ["_law_disk", "_law_model_here"] (defScope s_l_same) := ⟨rfl, rfl, rfl, by decide +kernel, rfl, by decide +kernel, by decide +kernel⟩
theorem bi_l_same : BindOk "_law_same" s_l_same ["_law_disk", "_law_model_here"] := fun _ _ _ _ _ _ us hl => match us, hl with | [_, _], _ => rfl
def sp_l_same (K : PySem.W.Frag) : Sp := sp2 fun x y H Q _ => ∃ p fp D m F ta ca sa M, x = .ref p ∧ y = .ref m ∧ Own H (.ref p) (diskT K D) fp ∧ MAt H m F ta ca sa M ∧ RelM D M ∧ (∀ i, i < 2 → (M.c i).length + (M.s i).length ≤ 100000) ∧ ∀ H', Same H H' → Q (.bl true) H'
theorem ok_l_same {e : Wd} (D : DefAt e "_law_same" s_l_same) (B : Bl e.mg) (c_Disk_content : CanM e 2 (He.ga e.K "Disk") "content" ["self", "file"] (sp_Disk_content e.K)) (c_l_is_bytes : Can e 2 "_law_is_bytes" ["_law_actual"] (sp_l_is_bytes e.K)) (c_l_after : Can e 1 "_law_after" ["_law_content", "_law_steps"] (sp_l_after e.K)) (c_l_is_integer : Can e 1 "_law_is_integer" ["_law_actual"] (sp_l_is_integer e.K)) (c_Disk_pending : CanM e 1 (He.ga e.K "Disk") "pending" ["self", "file"] (sp_Disk_pending e.K)) : Can e 3 "_law_same" ["_law_disk", "_law_model_here"] (sp_l_same e.K) := by
  refine can_of D sc_l_same bi_l_same (fun _ _ _ _ h => sp2_len h) (fun cdv f A outer s H vs Q E hr h => ?_)
  obtain ⟨v0, v1, rfl, h⟩ := sp2_ex h
  have nd := sc_l_same.nd
  obtain ⟨p, fp, D, m, F, ta, ca, sa, M, rfl, rfl, ho, hm, rel, hl, k⟩ := h
  refine ⟨_, (pss_cons (ps_for PassesOwn.never rfl (pi_range1 rfl B.b_range (pa_cons pe_int pa_nil)) (pg_name (i := 2) nd rfl (by first | exact Or.inl rfl | exact Or.inr rfl)) (pss_cons (ps_set (i := 3) nd rfl (by first | exact Or.inl rfl | exact Or.inr rfl) (pe_canM c_Disk_content (hr.mono (by decide)) passL (pv 0) (pa_cons (pv 2) pa_nil)))
    (pss_cons (ps_if (PW.pt (pw_or (pt_not (pt_tru (K := e.K) (pe_can c_l_is_bytes (hr.mono (by decide)) passL (pa_cons (pv 3) pa_nil)))) (pw_or1 (pt_cmpR (op_neU (K := e.K) hr) (pv 3) (pe_can c_l_after (hr.mono (by decide)) passL (pa_cons (pe_ix (ix_U (K := e.K)) (pe_ix (ix_U (K := e.K)) (pe_ix (ix_U (K := e.K)) (pv 1) pe_int (fun _ _ => rfl)) (pv 2) (fun _ _ => rfl)) pe_int (fun _ _ => rfl)) (pa_cons (pe_ix (ix_U (K := e.K)) (pe_ix (ix_U (K := e.K)) (pe_ix (ix_U (K := e.K)) (pv 1) pe_int (fun _ _ => rfl)) (pv 2) (fun _ _ => rfl)) pe_int (fun _ _ => rfl)) pa_nil))) (nomark _))))) (pss_one (ps_ret pe_bl)) pss_nil)
    (pss_cons (ps_if (PW.pt (pw_or (pt_not (pt_tru (K := e.K) (pe_can c_l_is_integer (hr.mono (by decide)) passL (pa_cons (pe_canM c_Disk_pending (hr.mono (by decide)) passL (pv 0) (pa_cons (pv 2) pa_nil)) pa_nil)))) (pw_or1 (pt_cmpR (op_neU (K := e.K) hr) (pe_canM c_Disk_pending (hr.mono (by decide)) passL (pv 0) (pa_cons (pv 2) pa_nil)) (pe_callB (call_lenU (K := e.K)) (by rfl) B.b_len bt_len (pa_cons (pe_ix (ix_U (K := e.K)) (pe_ix (ix_U (K := e.K)) (pe_ix (ix_U (K := e.K)) (pv 1) pe_int (fun _ _ => rfl)) (pv 2) (fun _ _ => rfl)) pe_int (fun _ _ => rfl)) pa_nil)) (nomark _))))) (pss_one (ps_ret pe_bl)) pss_nil)
    (pss_one (ps_expr (pe_bmU (K := e.K) PySem.F.plainAttrs_list PySem.F.slot_list_append PySem.F.type_list_append mt_append (pv 3) (pa_cons pe_int pa_nil))))))))
    (pss_one (ps_ret pe_bl))), ?_⟩
  walk_at "go"
  refine for_rng (fun i σ' H' => ∃ x y, σ' = [some (.ref p), some (.ref m), x, y] ∧ Same H H') (by omega) (by omega) ?_ ?_ ?_
  · exact ⟨_, _, rfl, Same.refl _⟩
  · rintro i σ' H1 hi ⟨x, y, rfl, s1⟩
    have hi2 : i < 2 := by omega
    have o1 := ho.same s1
    have d1 := hm.same s1
    have li := hl i hi2
    have lD : (D.c i).length + (D.s i).length ≤ 1000000 := by
      rw [rel.c i hi2, rel.s i hi2, List.length_map]
      omega
    obtain ⟨fs, hins, l1, l2⟩ : ∃ fs, Ins H1 p (He.ga e.K "Disk") fs ∧ fs.lookup ("content" : Str) = none ∧ fs.lookup ("pending" : Str) = none := by
      obtain ⟨p', L, S, ca, sa, e1, rfl, d⟩ := o1.disk
      cases e1
      exact ⟨[("durable", .ref L), ("steps", .ref S), ("power", pwV D.pw)], d.ins, by walk_at "lk", by walk_at "lk"⟩
    walk_at "go"
    refine r_methv hins l1 ?_
    walk_at "go"
    refine use_content o1 hi2 lD (fun r H2 nr s2 hr => ?_)
    rw [rel.at_ hi2] at hr
    have bX := after_bytes (rel.cb i hi2) (rel.sb i hi2)
    have lX := after_len (M.c i) (M.s i)
    walk_at "go"
    refine use_is_bytes hr (by omega) bX (fun H3 s3 => ?_)
    have d3 := (d1.same s2).same s3
    have m0 := d3.mm
    have f0 := d3.ff
    have t0 := d3.ts i hi2
    have c0 := d3.cs i hi2
    have ss0 := d3.ss i hi2
    have a2 := at2 ta hi2
    walk_at "go"
    rename_i r4 H4 n4 s4 hr4
    have hr44 : H4 r = some (.lst ((afterM (M.c i) (M.s i)).map V.int)) := s4 _ _ (s3 _ _ hr)
    refine r_neInts hr44 hr4 ?_
    have o4 : Own H4 (.ref p) (diskT e.K D) fp := ((o1.same s2).same s3).same s4
    have i4 : Ins H4 p (He.ga e.K "Disk") fs := Ins.same s4 (Ins.same s3 (Ins.same s2 hins))
    walk_at "go"
    refine r_methv i4 l2 ?_
    walk_at "go"
    refine use_pending o4 hi2 ?_
    walk_at "go"
    refine r_methv i4 l2 ?_
    walk_at "go"
    refine use_pending o4 hi2 ?_
    walk_at "go"
    rw [show decide (((D.s i).length : Int) = (((M.s i).map pwV).length : Int)) = true from decide_eq_true (by rw [rel.s i hi2, List.length_map, List.length_map])]
    walk_at "go"
    rename_i H5 h5 k5
    exact ⟨_, _, rfl, Same.but ((((s1.trans s2).trans s3).trans s4)) (Same.before s1 nr) k5⟩
  · rintro σ' H1 ⟨x, y, rfl, s1⟩
    walk_at "go"
    exact k _ s1
theorem use_same {K : PySem.W.Frag} {p m F : Addr} {fp : List Addr} {D : Dsk} {ta ca sa : Nat → Addr} {M : Mdl} {H : Hp} {Q : VK} {E : XK} (h1 : Own H (.ref p) (diskT K D) fp) (h2 : MAt H m F ta ca sa M) (h3 : RelM D M) (h4 : ∀ i, i < 2 → (M.c i).length + (M.s i).length ≤ 100000) (k : ∀ H', Same H H' → Q (.bl true) H') : sp_l_same K [.ref p, .ref m] H Q E :=
  ⟨p, fp, D, m, F, ta, ca, sa, M, rfl, rfl, h1, h2, h3, h4, k⟩

/-! ### _law_do -/
abbrev s_l_do : Stmt := top 15
abbrev N_l_do : List Str := ["_law_disk", "_law_act", "e"]
theorem sc_l_do : FnScope N_l_do ["_law_disk", "_law_act"] (defScope s_l_do) := ⟨rfl, rfl, rfl, by decide +kernel, rfl, by decide +kernel, by decide +kernel⟩
theorem bi_l_do : BindOk "_law_do" s_l_do ["_law_disk", "_law_act"] := fun _ _ _ _ _ _ us hl => match us, hl with | [_, _], _ => rfl
def sp_l_do (K : PySem.W.Frag) : Sp := sp2 fun x y H Q _ => ∃ p fp D t q, ∃ bs : List Int, ∃ k f : Nat, x = .ref p ∧ y = .ref t ∧ k < 3 ∧ f < 2 ∧ Own H (.ref p) (diskT K D) fp ∧ H t = some (.tup [.int k, .int f, .ref q]) ∧ H q = some (.lst (bs.map V.int)) ∧ q ∉ fp ∧
  (D.c f).length + (D.s f).length + bs.length ≤ 1000000 ∧ (∀ n, D.pw = some n → 0 ≤ n) ∧
  ∀ v H' fp', Own H' (.ref p) (diskT K (doM D k f bs)) fp' → Chg fp fp' H H' → Told H' v (decide (cntM D.pw (lenM k bs) = lenM k bs)) → Q v H'
theorem ok_l_do {e : Wd} (D : DefAt e "_law_do" s_l_do) (B : Bl e.mg) (gm_PowerCut : e.mg "PowerCut" = some (.ref (He.ga e.K "PowerCut"))) (gm_MailError : e.mg "MailError" = some (.ref (He.ga e.K "MailError"))) (em_PowerCut_PowerCut : PySem.W.exmOne e.K (.ref (He.ga e.K "PowerCut")) (.ref (He.ga e.K "PowerCut")) = some true) (ki_PowerCut_MailError : PySem.W.kitOne e.K (.ref (He.ga e.K "PowerCut")) (.ref (He.ga e.K "MailError")) = some true) (ec_PowerCut : ExcC e.K (He.ga e.K "PowerCut")) (c_Disk_append : CanM e 2 (He.ga e.K "Disk") "append" ["self", "file", "data"] (sp_Disk_append e.K)) (c_Disk_clear : CanM e 2 (He.ga e.K "Disk") "clear" ["self", "file"] (sp_Disk_clear e.K)) (c_Disk_sync : CanM e 3 (He.ga e.K "Disk") "sync" ["self", "file"] (sp_Disk_sync e.K)) : Can e 4 "_law_do" ["_law_disk", "_law_act"] (sp_l_do e.K) := by
  refine can_of D sc_l_do bi_l_do (fun _ _ _ _ h => sp2_len h) (fun cdv f A outer s H vs Q E hr h => ?_)
  obtain ⟨v0, v1, rfl, h⟩ := sp2_ex h
  have nd := sc_l_do.nd
  obtain ⟨p, fp, D, t, q, bs, kk, f, rfl, rfl, hk, hf, ho, ht, hq, nq, hl, hn, k⟩ := h
  have hi : ∃ fs, Ins H p (He.ga e.K "Disk") fs ∧ fs.lookup ("append" : Str) = none ∧ fs.lookup ("clear" : Str) = none ∧ fs.lookup ("sync" : Str) = none := by
    obtain ⟨p', L, S, ca, sa, e1, rfl, d⟩ := ho.disk
    cases e1
    exact ⟨[("durable", .ref L), ("steps", .ref S), ("power", pwV D.pw)], d.ins, by walk_at "lk", by walk_at "lk", by walk_at "lk"⟩
  obtain ⟨fs, hi, l1, l2, l3⟩ := hi
  have hp0 : D.pw ≠ some 0 → cntM D.pw 1 = 1 := by
    intro h
    cases ep : D.pw with
    | none => rfl
    | some n =>
      have h1 := hn n ep
      have h2 : n ≠ 0 := fun z => h (by rw [ep, z])
      show min 1 n.toNat = 1
      omega
  have hp1 : D.pw = some 0 → cntM D.pw 1 = 0 := fun h => by rw [h] <;> rfl
  have cut : ∀ H1 (σ : L2.St), Own H1 (.ref p) (diskT e.K (doM D kk f bs)) fp → Chg fp fp H H1 → cntM D.pw (lenM kk bs) ≠ lenM kk bs → ∀ r H2, Same H1 H2 → H2 r = some (.tup [.str "cut", .bl true]) → Q (.ref r) H2 := fun H1 _ o1 c1 nc r H2 sm hr =>
    k (.ref r) H2 fp (o1.same sm) (c1.snd sm) (.inr ⟨decide_eq_false nc, r, rfl, hr⟩)
  refine ⟨_, (pss_one (ps_tryA (K := e.K) (i := 2) rfl rfl nd rfl rfl ⟨rfl, by decide, .inl gm_PowerCut⟩ takes0 (fun W1 pn1 xe1 tk1 po1 => (pss_cons (ps_if (pt_cmpR (op_eqU (K := e.K) hr) (pe_ix (ix_U (K := e.K)) (pv 1) pe_int (fun _ _ => rfl)) pe_int (nomark _)) (pss_one (ps_ret (pe_canMX tk1 c_Disk_append (hr.mono (by decide)) (pv 0) (pa_cons (pe_ix (ix_U (K := e.K)) (pv 1) pe_int (fun _ _ => rfl)) (pa_cons (pe_ix (ix_U (K := e.K)) (pv 1) pe_int (fun _ _ => rfl)) pa_nil))))) pss_nil)
    (pss_cons (ps_if (pt_cmpR (op_eqU (K := e.K) hr) (pe_ix (ix_U (K := e.K)) (pv 1) pe_int (fun _ _ => rfl)) pe_int (nomark _)) (pss_one (ps_ret (pe_canMX tk1 c_Disk_clear (hr.mono (by decide)) (pv 0) (pa_cons (pe_ix (ix_U (K := e.K)) (pv 1) pe_int (fun _ _ => rfl)) pa_nil)))) pss_nil)
    (pss_one (ps_ret (pe_canMX tk1 c_Disk_sync (hr.mono (by decide)) (pv 0) (pa_cons (pe_ix (ix_U (K := e.K)) (pv 1) pe_int (fun _ _ => rfl)) pa_nil)))))))
    (fun a1 oe1 cls1 d1 pn1 hz1 hf1 => (pss_one (ps_ret (pe_tup (pa_cons pe_str (pa_cons (pe_callB (call_isX (K := e.K) hz1 hf1) (by rfl) B.b_isinstance bt_isinstance (pa_cons (pv 2) (pa_cons (pe_gc gm_MailError) pa_nil))) pa_nil)))))))), ?_⟩
  walk_at "go"
  refine r_ite (fun c => ?_) (fun c => ?_)
  · have c0 : kk = 0 := by omega
    subst c0
    walk_at "go"
    refine r_methv hi l1 ?_
    walk_at "go"
    refine ⟨p, fp, D, q, bs, f, rfl, rfl, rfl, hf, ho, hq, nq, by omega, hn, fun hen H1 o1 c1 => ?_, fun n en hlt H1 o1 c1 => ?_⟩
    · have ec : cntM D.pw bs.length = bs.length := by
        cases ep : D.pw with
        | none => rfl
        | some n =>
          have := hen n ep
          show min bs.length n.toNat = bs.length
          omega
      have ed : doM D 0 f bs = (D.add f bs).use bs.length := by
        unfold doM
        rw [if_pos rfl, ec, List.take_length]
      exact k .non H1 fp (by rw [ed]; exact o1) c1 (.inl ⟨decide_eq_true ec, rfl⟩)
    · have ec : cntM D.pw bs.length = n := by
        rw [en]
        show min bs.length (n : Int).toNat = n
        omega
      have ed : doM D 0 f bs = (D.add f (bs.take n)).use n := by
        unfold doM
        rw [if_pos rfl, ec]
      refine r_wAsT em_PowerCut_PowerCut (fun a na => ?_)
      walk_at "go"
      rename_i r H2 np sm hr
      exact cut H1 [] (by rw [ed]; exact o1) c1 (by show cntM D.pw bs.length ≠ bs.length; rw [ec]; omega) r H2 sm hr
  · walk_at "go"
    have hle : lenM kk bs = 1 := by
      unfold lenM
      rw [if_neg (by omega)]
    refine r_ite (fun c2 => ?_) (fun c2 => ?_)
    · have c0 : kk = 1 := by omega
      subst c0
      walk_at "go"
      refine r_methv hi l2 ?_
      walk_at "go"
      refine ⟨p, fp, D, f, rfl, rfl, hf, ho, by omega, fun hen H1 o1 c1 => ?_, fun hz => ?_⟩
      · have ec := hp0 hen
        have ed : doM D 1 f bs = (D.add f [-1]).use 1 := by
          unfold doM
          rw [if_neg (by decide), if_neg (by omega), if_pos rfl]
        exact k .non H1 fp (by rw [ed]; exact o1) c1 (.inl ⟨decide_eq_true (by rw [hle, ec]), rfl⟩)
      · have ec := hp1 hz
        have ed : doM D 1 f bs = D := by
          unfold doM
          rw [if_neg (by decide), if_pos ec]
        refine r_wAsT em_PowerCut_PowerCut (fun a na => ?_)
        walk_at "go"
        rename_i r H2 np sm hr
        exact cut H [] (by rw [ed]; exact ho) (Chg.refl _ _) (by rw [hle, ec]; decide) r H2 sm hr
    · have c0 : kk = 2 := by omega
      subst c0
      walk_at "go"
      refine r_methv hi l3 ?_
      walk_at "go"
      refine ⟨p, fp, D, f, rfl, rfl, hf, ho, by omega, fun hen H1 fp1 o1 c1 => ?_, fun hz => ?_⟩
      · have ec := hp0 hen
        have ed : doM D 2 f bs = (D.syn f).use 1 := by
          unfold doM
          rw [if_neg (by decide), if_neg (by omega), if_neg (by decide)]
        exact k .non H1 fp1 (by rw [ed]; exact o1) c1 (.inl ⟨decide_eq_true (by rw [hle, ec]), rfl⟩)
      · have ec := hp1 hz
        have ed : doM D 2 f bs = D := by
          unfold doM
          rw [if_neg (by decide), if_pos ec]
        refine r_wAsT em_PowerCut_PowerCut (fun a na => ?_)
        walk_at "go"
        rename_i r H2 np sm hr
        exact cut H [] (by rw [ed]; exact ho) (Chg.refl _ _) (by rw [hle, ec]; decide) r H2 sm hr

/-! ### law -/
abbrev s_law : Stmt := top 18
abbrev N_law : List Str := ["_law_script", "_law_state", "_law_disk", "_law_model_here", "_law_k", "_law_kind", "_law_file", "_law_act", "_law_handed", "_law_expected", "_law_told", "_law_steps", "_law_keep", "_law_j"]
theorem sc_law : FnScope N_law ["_law_script"] (defScope s_law) := ⟨rfl, rfl, rfl, by decide +kernel, rfl, by decide +kernel, by decide +kernel⟩
theorem bi_law : BindOk "law" s_law ["_law_script"] := fun _ _ _ _ _ _ us hl => match us, hl with | [_], _ => rfl
def sp_law (K : PySem.W.Frag) : Sp := sp1 fun x H Q _ => ∃ b, x = .ref b ∧ Scr K H b ∧ ∀ H', Q (.bl true) H'
/-- what stands between the turns -/
structure G6 (K : PySem.W.Frag) (a b p : Addr) (m : Addr) (n : Nat) (H : Hp) : Prop where
  dr : Drw H a
  sc : Scr K H b
  ex : ∃ fp D F ta ca sa M, Own H (.ref p) (diskT K D) fp ∧ MAt H m F ta ca sa M ∧ RelM D M ∧ (∀ i, i < 2 → (M.c i).length + (M.s i).length ≤ n) ∧ (∀ x, M.pw = some x → 0 ≤ x) ∧ Dsj fp (mdlP m F ca sa) ∧ a ∉ fp ∧ a ∉ mdlP m F ca sa
theorem G6.same {K : PySem.W.Frag} {a b p m : Addr} {n : Nat} {H H' : Hp} (s : Same H H') (g : G6 K a b p m n H) : G6 K a b p m n H' := by
  obtain ⟨h1, h2, fp, D, F, ta, ca, sa, M, g1, g2, g3, g4, g5, g6, g7, g8⟩ := g
  exact ⟨h1.mono s, h2.mono (Gro.same s), fp, D, F, ta, ca, sa, M, g1.same s, g2.same s, g3, g4, g5, g6, g7, g8⟩
theorem G6.stp {K : PySem.W.Frag} {a b p m : Addr} {n : Nat} {H H' : Hp} (s : Stp a H H') (g : G6 K a b p m n H) : G6 K a b p m n H' := by
  obtain ⟨h1, h2, fp, D, F, ta, ca, sa, M, g1, g2, g3, g4, g5, g6, g7, g8⟩ := g
  exact ⟨s.drw, h2.mono s.gro, fp, D, F, ta, ca, sa, M, g1.stp s g7, g2.chg s.chg (fun x hx hy => g8 (by rw [← List.mem_singleton.mp hx]; exact hy)), g3, g4, g5, g6, g7, g8⟩
/-- the variables between the turns -/
def SI (K : PySem.W.Frag) (a b p : Addr) (n : Nat) (σ : L2.St) (H : Hp) : Prop := ∃ m x4 x5 x6 x7 x8 x9 x10 x11 x12 x13, σ = [some (.ref b), some (.ref a), some (.ref p), some (.ref m), x4, x5, x6, x7, x8, x9, x10, x11, x12, x13] ∧ G6 K a b p m n H
theorem ok_law {e : Wd} {f0 : Addr} {fd : FuncData} (D : FunD e.K "law" "law" (defArgs s_law) (defBody s_law) (defScope s_law) [] [] f0 fd) (B : Bl e.mg) (c_Disk___init__ : CanN e 1 (He.ga e.K "Disk") "Disk" ["self"] (sp_Disk___init__ e.K)) (c_l_same : Can e 3 "_law_same" ["_law_disk", "_law_model_here"] (sp_l_same e.K)) (c_l_draw : Can e 2 "_law_draw" ["_law_state", "_law_script", "_law_size"] (sp_l_draw e.K)) (c_l_model : Can e 2 "_law_model" ["_law_model_here", "_law_act"] (sp_l_model e.K)) (c_l_do : Can e 4 "_law_do" ["_law_disk", "_law_act"] (sp_l_do e.K)) (c_Disk_limit : CanM e 1 (He.ga e.K "Disk") "limit" ["self", "steps"] (sp_Disk_limit e.K)) (c_Disk_crash : CanM e 2 (He.ga e.K "Disk") "crash" ["self", "a", "b"] (sp_Disk_crash e.K)) (c_l_after : Can e 1 "_law_after" ["_law_content", "_law_steps"] (sp_l_after e.K)) : FnOk e.P e.w e.K e.mg e.base (L2.CX e.P e.w) 5 f0 fd ["_law_script"] (sp_law e.K) := by
  refine fnok_of D sc_law (fun _ _ _ _ h => sp1_len h) (fun cdv f A outer s H vs Q E hr h => ?_)
  obtain ⟨v0, rfl, h⟩ := sp1_ex h
  have nd := sc_law.nd
  obtain ⟨b, rfl, hs, k⟩ := h
  refine ⟨_, (pss_cons (ps_set (i := 1) nd rfl (by first | exact Or.inl rfl | exact Or.inr rfl) (pe_lst (pa_cons pe_int (pa_cons pe_int pa_nil))))
    (pss_cons (ps_set (i := 2) nd rfl (by first | exact Or.inl rfl | exact Or.inr rfl) (pe_canN0 c_Disk___init__ (hr.mono (by decide)) passL))
    (pss_cons (ps_set (i := 3) nd rfl (by first | exact Or.inl rfl | exact Or.inr rfl) (pe_lst (pa_cons (pe_lst (pa_cons (pe_tup (pa_cons (pe_lst pa_nil) (pa_cons (pe_lst pa_nil) pa_nil))) (pa_cons (pe_tup (pa_cons (pe_lst pa_nil) (pa_cons (pe_lst pa_nil) pa_nil))) pa_nil))) (pa_cons pe_non pa_nil))))
    (pss_cons (ps_if (pt_not (pt_tru (K := e.K) (pe_can c_l_same (hr.mono (by decide)) passL (pa_cons (pv 2) (pa_cons (pv 3) pa_nil))))) (pss_one (ps_ret pe_bl)) pss_nil)
    (pss_cons (ps_for PassesOwn.never rfl (pi_range1 rfl B.b_range (pa_cons (pe_can c_l_draw (hr.mono (by decide)) passL (pa_cons (pv 1) (pa_cons (pv 0) (pa_cons pe_int pa_nil)))) pa_nil)) (pg_name (i := 4) nd rfl (by first | exact Or.inl rfl | exact Or.inr rfl)) (pss_cons (ps_set (i := 5) nd rfl (by first | exact Or.inl rfl | exact Or.inr rfl) (pe_can c_l_draw (hr.mono (by decide)) passL (pa_cons (pv 1) (pa_cons (pv 0) (pa_cons pe_int pa_nil)))))
    (pss_cons (ps_set (i := 6) nd rfl (by first | exact Or.inl rfl | exact Or.inr rfl) (pe_can c_l_draw (hr.mono (by decide)) passL (pa_cons (pv 1) (pa_cons (pv 0) (pa_cons pe_int pa_nil)))))
    (Evl.pss_cut (ps_if (pt_cmpR op_leU (pv 5) pe_int (nomark _)) (pss_cons (ps_set (i := 7) nd rfl (by first | exact Or.inl rfl | exact Or.inr rfl) (pe_tup (pa_cons (pe_callB (call_min2U rfl) (by rfl) B.b_min bt_min (pa_cons (pv 5) (pa_cons pe_int pa_nil))) (pa_cons (pv 6) (pa_cons (pe_lc (own := [("_law_j", 13)]) (tt := tYes) rfl nd (pi_range1 rfl B.b_range (pa_cons (pe_can c_l_draw (hr.mono (by decide)) passL (pa_cons (pv 1) (pa_cons (pv 0) (pa_cons pe_int pa_nil)))) pa_nil)) (blkOk_by (N := N_law) (sc := defScope s_law) (by decide +kernel)) (fun _ _ _ _ _ => (pg_name (i := 13) nd rfl (by first | exact Or.inl rfl | exact Or.inr rfl))) (fun _ _ _ _ _ => pts_nil) (fun _ _ _ _ _ => (pe_can c_l_draw (hr.mono (by decide)) passL (pa_cons (pv 1) (pa_cons (pv 0) (pa_cons pe_int pa_nil)))))) pa_nil)))))
    (Evl.pss_cut (ps_if (pt_cmpR (op_eqU (K := e.K) hr) (pv 5) pe_int (nomark _)) (pss_one (ps_set (i := 7) nd rfl (by first | exact Or.inl rfl | exact Or.inr rfl) (pe_op (op_addU (K := e.K)) (pe_tup (pa_cons pe_int pa_nil)) (pe_slice (sl_U (K := e.K)) (pv 7) (po_some pe_int) po_none)))) pss_nil)
    (pss_cons (ps_set (i := 8) nd rfl (by first | exact Or.inl rfl | exact Or.inr rfl) (pe_callTy (call_listU (K := e.K)) (by rfl) B.b_list bt_list (pa_cons (pe_ix (ix_U (K := e.K)) (pv 7) pe_int (fun _ _ => rfl)) pa_nil)))
    (pss_cons (ps_set (i := 9) nd rfl (by first | exact Or.inl rfl | exact Or.inr rfl) (pe_can c_l_model (hr.mono (by decide)) passL (pa_cons (pv 3) (pa_cons (pv 7) pa_nil))))
    (pss_cons (ps_set (i := 10) nd rfl (by first | exact Or.inl rfl | exact Or.inr rfl) (pe_can c_l_do (hr.mono (by decide)) passL (pa_cons (pv 2) (pa_cons (pe_tup (pa_cons (pe_ix (ix_U (K := e.K)) (pv 7) pe_int (fun _ _ => rfl)) (pa_cons (pv 6) (pa_cons (pv 8) pa_nil)))) pa_nil))))
    (pss_cons (ps_if (PW.pt (pw_or (pt_cmpR (op_neU (K := e.K) hr) (pv 10) (pe_ix (ix_U (K := e.K)) (pe_lst (pa_cons (pe_tup (pa_cons pe_str (pa_cons pe_bl pa_nil))) (pa_cons pe_non pa_nil))) (pe_callTy call_intU (by rfl) B.b_int bt_int (pa_cons (pv 9) pa_nil)) (fun _ _ => rfl)) (nomark _)) (pw_or1 (pt_cmpR (op_neU (K := e.K) hr) (pv 8) (pe_ix (ix_U (K := e.K)) (pv 7) pe_int (fun _ _ => rfl)) (nomark _))))) (pss_one (ps_ret pe_bl)) pss_nil)
    (pss_one (ps_expr (pe_bmU (K := e.K) PySem.F.plainAttrs_list PySem.F.slot_list_append PySem.F.type_list_append mt_append (pv 8) (pa_cons pe_int pa_nil)))))))))) (pss_one (ps_if (pt_cmpR (op_eqU (K := e.K) hr) (pv 5) pe_int (nomark _)) (pss_cons (ps_set (i := 11) nd rfl (by first | exact Or.inl rfl | exact Or.inr rfl) (pe_ix (ix_U (K := e.K)) (pe_lst (pa_cons pe_non (pa_cons (pe_can c_l_draw (hr.mono (by decide)) passL (pa_cons (pv 1) (pa_cons (pv 0) (pa_cons pe_int pa_nil)))) pa_nil))) (pe_can c_l_draw (hr.mono (by decide)) passL (pa_cons (pv 1) (pa_cons (pv 0) (pa_cons pe_int pa_nil)))) (fun _ _ => rfl)))
    (pss_cons (ps_expr (pe_canM c_Disk_limit (hr.mono (by decide)) passL (pv 2) (pa_cons (pv 11) pa_nil)))
    (pss_one (ps_asg (pv 11) (pg_sub (pv 3) pe_int set_list))))) (pss_cons (ps_set (i := 12) nd rfl (by first | exact Or.inl rfl | exact Or.inr rfl) (pe_lc (own := [("_law_j", 13)]) (tt := tYes) rfl nd (pi_range1 rfl B.b_range (pa_cons pe_int pa_nil)) (blkOk_by (N := N_law) (sc := defScope s_law) (by decide +kernel)) (fun _ _ _ _ _ => (pg_name (i := 13) nd rfl (by first | exact Or.inl rfl | exact Or.inr rfl))) (fun _ _ _ _ _ => pts_nil) (fun _ _ _ _ _ => (pe_ix (ix_U (K := e.K)) (pe_lst (pa_cons (pe_can c_l_draw (hr.mono (by decide)) passL (pa_cons (pv 1) (pa_cons (pv 0) (pa_cons pe_int pa_nil)))) (pa_cons pe_int pa_nil))) (pe_can c_l_draw (hr.mono (by decide)) passL (pa_cons (pv 1) (pa_cons (pv 0) (pa_cons pe_int pa_nil)))) (fun _ _ => rfl)))))
    (pss_cons (ps_expr (pe_canM c_Disk_crash (hr.mono (by decide)) passL (pv 2) (pa_cons (pe_ix (ix_U (K := e.K)) (pv 12) pe_int (fun _ _ => rfl)) (pa_cons (pe_ix (ix_U (K := e.K)) (pv 12) pe_int (fun _ _ => rfl)) pa_nil))))
    (pss_one (ps_set (i := 3) nd rfl (by first | exact Or.inl rfl | exact Or.inr rfl) (pe_lst (pa_cons (pe_lc (own := [("_law_j", 13)]) (tt := tYes) rfl nd (pi_range1 rfl B.b_range (pa_cons pe_int pa_nil)) (blkOk_by (N := N_law) (sc := defScope s_law) (by decide +kernel)) (fun _ _ _ _ _ => (pg_name (i := 13) nd rfl (by first | exact Or.inl rfl | exact Or.inr rfl))) (fun _ _ _ _ _ => pts_nil) (fun _ _ _ _ _ => (pe_tup (pa_cons (pe_can c_l_after (hr.mono (by decide)) passL (pa_cons (pe_ix (ix_U (K := e.K)) (pe_ix (ix_U (K := e.K)) (pe_ix (ix_U (K := e.K)) (pv 3) pe_int (fun _ _ => rfl)) (pv 13) (fun _ _ => rfl)) pe_int (fun _ _ => rfl)) (pa_cons (pe_slice (sl_U (K := e.K)) (pe_ix (ix_U (K := e.K)) (pe_ix (ix_U (K := e.K)) (pe_ix (ix_U (K := e.K)) (pv 3) pe_int (fun _ _ => rfl)) (pv 13) (fun _ _ => rfl)) pe_int (fun _ _ => rfl)) po_none (po_some (pe_ix (ix_U (K := e.K)) (pv 12) (pv 13) (fun _ _ => rfl)))) pa_nil))) (pa_cons (pe_lst pa_nil) pa_nil))))) (pa_cons pe_non pa_nil))))))))))
    (pss_one (ps_if (pt_not (pt_tru (K := e.K) (pe_can c_l_same (hr.mono (by decide)) passL (pa_cons (pv 2) (pa_cons (pv 3) pa_nil))))) (pss_one (ps_ret pe_bl)) pss_nil))))))
    (pss_one (ps_ret pe_bl))))))), ?_⟩
  walk_at "go"
  rename_i a H1 np1 sm1 hp1 p H2 fp np2 sm2 ho2 hn2 c0 H3 nc0 m3 hc0 s0 H4 ns0 m4 hs0 t0 H5 nt0 m5 ht0 c1 H6 nc1 m6 hc1 s1 H7 ns1 m7 hs1 t1 H8 nt1 m8 ht1 F H9 nF m9 hF m H10 nm m10 hm
  have dr : Drw H1 a := ⟨0, 0, hp1⟩
  have hp10 : H10 a = some (.lst [.int 0, .int 0]) := by walk_at "hp"
  have dr10 : Drw H10 a := ⟨0, 0, hp10⟩
  have sc10 : Scr e.K H10 b := by walk_at "hp"
  have f0 : H10 c0 = some (.lst []) := by walk_at "hp"
  have f1 : H10 c1 = some (.lst []) := by walk_at "hp"
  have g0 : H10 s0 = some (.lst []) := by walk_at "hp"
  have g1 : H10 s1 = some (.lst []) := by walk_at "hp"
  have e0 : H10 t0 = some (.tup [.ref c0, .ref s0]) := by walk_at "hp"
  have e1 : H10 t1 = some (.tup [.ref c1, .ref s1]) := by walk_at "hp"
  have hF10 : H10 F = some (.lst [.ref t0, .ref t1]) := by walk_at "hp"
  have o10 : Own H10 (.ref p) (diskT e.K ⟨fun _ => [], fun _ => [], none⟩) fp := (((((((ho2.same m3).same m4).same m5).same m6).same m7).same m8).same m9).same m10
  have b2 : Same H1 H2 := sm2
  have b23 := b2.trans m3
  have b24 := b23.trans m4
  have b25 := b24.trans m5
  have b26 := b25.trans m6
  have b27 := b26.trans m7
  have b28 := b27.trans m8
  have b29 := b28.trans m9
  have d10 : MAt H10 m F (fun i => if i = 0 then t0 else t1) (fun i => if i = 0 then c0 else c1) (fun i => if i = 0 then s0 else s1) ⟨fun _ => [], fun _ => [], none⟩ := by
    refine ⟨hm, hF10, fun i hi => ?_, fun i hi => ?_, fun i hi => ?_⟩
    · match i, hi with
      | 0, _ => exact e0
      | 1, _ => exact e1
    · match i, hi with
      | 0, _ => exact f0
      | 1, _ => exact f1
    · match i, hi with
      | 0, _ => exact g0
      | 1, _ => exact g1
  have fresh : ∀ x ∈ mdlP m F (fun i => if i = 0 then c0 else c1) (fun i => if i = 0 then s0 else s1), H2 x = none := by
    intro x hx
    have hx : x ∈ [m, F, c0, c1, s0, s1] := hx
    simp only [List.mem_cons, List.not_mem_nil, or_false] at hx
    rcases hx with rfl | rfl | rfl | rfl | rfl | rfl
    · exact Same.before (((((((m3.trans m4).trans m5).trans m6).trans m7).trans m8).trans m9)) nm
    · exact Same.before ((((((m3.trans m4).trans m5).trans m6).trans m7).trans m8)) nF
    · exact nc0
    · exact Same.before ((m3.trans m4).trans m5) nc1
    · exact Same.before m3 ns0
    · exact Same.before (((m3.trans m4).trans m5).trans m6) ns1
  have dj : Dsj fp (mdlP m F (fun i => if i = 0 then c0 else c1) (fun i => if i = 0 then s0 else s1)) := fun x hx hy => by
    obtain ⟨u, eu, _⟩ := ho2.there x hx
    rw [fresh x hy] at eu
    cases eu
  have na1 : a ∉ fp := fun hx => by
    have := hn2 a hx
    rw [hp1] at this
    cases this
  have na2 : a ∉ mdlP m F (fun i => if i = 0 then c0 else c1) (fun i => if i = 0 then s0 else s1) := fun hx => by
    have := fresh a hx
    rw [sm2 _ _ hp1] at this
    cases this
  have G : G6 e.K a b p m 0 H10 := ⟨dr10, sc10, fp, _, F, _, _, _, _, o10, d10, ⟨fun _ _ => rfl, fun _ _ => rfl, fun _ _ _ h => absurd h List.not_mem_nil, fun _ _ _ h => absurd h List.not_mem_nil, rfl⟩, (fun _ _ => Nat.le_refl _), (fun _ h => nomatch h), dj, na1, na2⟩
  clear hs hp1 np1 sm1 dr dr10 sc10 f0 f1 g0 g1 e0 e1 hF10 b2 b23 b24 b25 b26 b27 b28 b29 fresh ho2 hn2 np2 sm2 nc0 m3 hc0 ns0 m4 hs0 nt0 m5 ht0 nc1 m6 hc1 ns1 m7 hs1 nt1 m8 ht1 nF m9 hF nm m10 hm
  refine use_same o10 d10 ⟨fun _ _ => rfl, fun _ _ => rfl, fun _ _ _ h => absurd h List.not_mem_nil, fun _ _ _ h => absurd h List.not_mem_nil, rfl⟩ (fun _ _ => Nat.zero_le _) (fun H11 sm11 => ?_)
  have G0 := G6.same sm11 G
  clear o10 d10 dj na1 na2 hp10 sm11
  have dr11 := G0.dr
  have sc11 := G0.sc
  walk_at "go"
  rename_i dn Hn dn0 dn1 stn
  have G0 := G0.stp stn
  clear G
  refine for_rng (fun i σ' H' => SI e.K a b p (5 * i) σ' H') (by omega) (by omega) ?_ ?_ ?_
  · exact ⟨m, none, none, none, none, none, none, none, none, none, none, rfl, G0⟩
  · rintro i σ' H1 hi ⟨m, x4, x5, x6, x7, x8, x9, x10, x11, x12, x13, rfl, G⟩
    have dr1 := G.dr
    have sc1 := G.sc
    walk_at "go"
    rename_i kd H2 k0 k1 st2 fl H3 f0 f1 st3
    obtain ⟨kn, rfl⟩ : ∃ n : Nat, kd = n := ⟨kd.toNat, by omega⟩
    obtain ⟨f, rfl⟩ : ∃ n : Nat, fl = n := ⟨fl.toNat, by omega⟩
    have G3 := (G.stp st2).stp st3
    have dr3 := G3.dr
    have sc3 := G3.sc
    clear dr1 sc1 st2 st3 G
    obtain ⟨_, _, fp, D, F, ta, ca, sa, M, O, A, R, L, W, J, na1, na2⟩ := G3
    have hf : f < 2 := by omega
    refine r_cut (fun σ' H' => SI e.K a b p (5 * i + 5) σ' H') ?_ ?_
    · walk_at "go"
      refine r_ite (fun c => ?_) (fun c => ?_)
      · walk_at "go"
        rename_i ln H4 l0 l1 st4
        have dr4 := st4.drw
        have sc4 := sc3.mono st4.gro
        refine lcr_draw (a := a) (fun _ d => ∃ n, d = PyData.int n ∧ (0 ≤ n ∧ n ≤ 255)) dr4 (by omega) (by omega) (fun _ => rfl) ?_ ?_
        · intro j H5 Q1 hj s5 kq
          have dr5 := s5.drw
          have sc5 := sc4.mono s5.gro
          walk_at "go"
          rename_i d H6 d0 d1 st6
          exact kq _ _ H6 st6 (.int _) ⟨_, rfl, by omega, by omega⟩
        · intro q H5 ys ds nq s5 hq dq hl hp
          obtain ⟨bs, rfl, bl, bb⟩ := dq.all_ints (P := fun n => 0 ≤ n ∧ n ≤ 255) hp
          have hm : (if (2 : Int) < (kn : Int) then (2 : Int) else (kn : Int)) = ((min kn 2 : Nat) : Int) := by split <;> omega
          rw [hm]
          have O4 := O.stp st4 na1
          have A4 := A.chg st4.chg (dsj_one na2)
          have q1 : q ∉ fp := O4.new_out nq
          have q2 : q ∉ mdlP m F ca sa := fun z => by
            obtain ⟨xs, ex⟩ := A4.there q z
            rw [nq] at ex
            cases ex
          have O5 := O4.stp s5 na1
          have A5 := A4.chg s5.chg (dsj_one na2)
          have dr5 := s5.drw
          have sc5 := sc4.mono s5.gro
          clear dr4 sc4 sc3 dr3 O4 A4 O A st4 s5 hp dq nq hm
          walk_at "go"
          rename_i t0 H6 nt m6 ht
          refine r_cut (fun σ' H' => ∃ t, ∃ k : Nat, k < 3 ∧ σ' = [some (.ref b), some (.ref a), some (.ref p), some (.ref m), some (.int i), some (.int kn), some (.int f), some (.ref t), x8, x9, x10, x11, x12, x13] ∧ Same H6 H' ∧ H' t = some (.tup [.int k, .int f, .ref q])) ?_ ?_
          · walk_at "go"
            refine r_ite (fun c3 => ?_) (fun c3 => ?_)
            · walk_at "go"
              rename_i u H7 nu m7 hu w H8 m8 hw
              rw [show cutV [V.int ((min kn 2 : Nat) : Int), V.int f, V.ref q] (some 1) none = [V.int f, V.ref q] from rfl] at hw
              walk_at "go"
              rename_i t1 H9 m9 ht1
              exact ⟨t1, 0, by omega, rfl, (m7.trans m8).trans m9, ht1⟩
            · walk_at "go"
              exact ⟨t0, min kn 2, by omega, rfl, Same.refl _, ht⟩
          · rintro σ' H7 ⟨t, k, hk, rfl, m7, ht7⟩
            have O7 := (O5.same m6).same m7
            have A7 := (A5.same m6).same m7
            have hq7 : H7 q = some (.lst (bs.map V.int)) := m7 _ _ (m6 _ _ hq)
            have dr7 := (dr5.mono m6).mono m7
            have sc7 := sc5.mono (Gro.same (m6.trans m7))
            have lf := L f hf
            clear dr5 sc5 O5 A5 m6 m7 hq ht nt
            walk_at "go"
            rename_i hd H8 nh m8 hh
            have h1 : hd ∉ fp := O7.new_out nh
            have h2 : hd ∉ mdlP m F ca sa := fun z => by
              obtain ⟨xs, ex⟩ := A7.there hd z
              rw [nh] at ex
              cases ex
            have ahd : a ≠ hd := by
              obtain ⟨x, y, ex⟩ := dr7
              exact ne_of_none ex nh
            have hq8 := m8 _ _ hq7
            have ht8 := m8 _ _ ht7
            have O8 := O7.same m8
            have dr8 := dr7.mono m8
            refine use_model hk hf (A7.same m8) ht8 hq8 (by omega) W (fun H9 ta' ca' sa' A9 c9 => ?_)
            have O9 := O8.chg c9 J.symm
            have J9 : Dsj fp (mdlP m F ca' sa') := (O8.apart c9 J.symm).symm
            have hq9 := c9.kp q _ hq8 q2
            have hh9 := c9.kp hd _ hh h2
            have q2' := c9.out hq8 q2
            have h2' := c9.out hh h2
            have ht9 := c9.gro.tup _ _ ht8
            have na2' : a ∉ mdlP m F ca' sa' := by
              obtain ⟨x, y, ex⟩ := dr8
              exact c9.out ex na2
            have dr9 := c9.drw dr8 na2
            have sc9 := (sc7.mono (Gro.same m8)).mono c9.gro
            clear O7 A7 hq7 ht7 dr7 sc7 nh m8 hh hq8 ht8 O8 dr8 c9 J na2
            walk_at "go"
            rename_i t2 H10 n10 m10 ht2
            refine ⟨p, fp, D, t2, hd, bs, k, f, rfl, rfl, hk, hf, O9.same m10, ht2, m10 _ _ hh9, h1, ?_, (fun n en => W n (R.pw ▸ en)), fun v H11 fp' O11 c11 told => ?_⟩
            · rw [R.c f hf, R.s f hf, List.length_map]
              omega
            have A11 := (A9.same m10).chg c11 J9
            have J11 := (A9.same m10).apart c11 J9
            have hq11 := c11.kp q _ (m10 _ _ hq9) q1
            have hh11 := c11.kp hd _ (m10 _ _ hh9) h1
            have h1' := c11.out (m10 _ _ hh9) h1
            have na1' : a ∉ fp' := by
              obtain ⟨x, y, ex⟩ := dr9
              exact c11.out (m10 _ _ ex) na1
            have dr11 := c11.drw (dr9.mono m10) na1
            have sc11 := (sc9.mono (Gro.same m10)).mono c11.gro
            have ht11 := c11.gro.tup _ _ (m10 _ _ ht9)
            rw [R.pw] at told
            have R11 := R.act hk hf bb (f := f)
            have L11 := mdo_len (M := M) hk hf (show bs.length ≤ 5 by omega) L
            have W11 := mdo_pw (k := k) (f := f) (bs := bs) W
            have fin : ∀ H14, Same H11 H14 → ∀ H15, H15 hd = some (.lst (bs.map V.int ++ [.int 7])) → (∀ z, z ≠ hd → H15 z = H14 z) → G6 e.K a b p m (5 * i + 5) H15 := by
              intro H14 s14 H15 e15 k15
              have ch : Chg [hd] [hd] H14 H15 := but_chg k15 (s14 _ _ hh11) (List.mem_singleton.mpr rfl)
              have nah : a ∉ [hd] := fun z => ahd (List.mem_singleton.mp z)
              exact ⟨ch.drw (dr11.mono s14) nah, (sc11.mono (Gro.same s14)).mono ch.gro, fp', _, F, _, _, _, _, (O11.same s14).chg ch (dsj_one h1'), (A11.same s14).chg ch (dsj_one h2'), R11, L11, W11, J11, na1', na2'⟩
            clear dr9 sc9 ht9 hq9 hh9 m10 c11 A9 O9 J9 ht2 n10
            rcases told with ⟨e1, rfl⟩ | ⟨e1, r, rfl, hr⟩
            · rw [e1]
              walk_at "go"
              refine r_neNon ?_
              walk_at "go"
              rename_i u H12 nu m12 hu w H13 nw m13 hw
              have hh13 := m13 _ _ (m12 _ _ hh11)
              have hq13 := m13 _ _ (m12 _ _ hq11)
              refine r_neInts hh13 hq13 ?_
              walk_at "go"
              rename_i H15 h15 k15
              exact ⟨m, _, _, _, _, _, _, _, _, _, _, rfl, fin H13 (m12.trans m13) H15 h15 k15⟩
            · rw [e1]
              walk_at "go"
              rename_i u H12 nu m12 hu w H13 nw m13 hw
              refine r_neCut (m13 _ _ (m12 _ _ hr)) (m13 _ _ hu) ?_
              have hh13 := m13 _ _ (m12 _ _ hh11)
              have hq13 := m13 _ _ (m12 _ _ hq11)
              walk_at "go"
              refine r_neInts hh13 hq13 ?_
              walk_at "go"
              rename_i H15 h15 k15
              exact ⟨m, _, _, _, _, _, _, _, _, _, _, rfl, fin H13 (m12.trans m13) H15 h15 k15⟩
      · walk_at "go"
        refine r_ite (fun c2 => ?_) (fun c2 => ?_)
        · walk_at "go"
          rename_i d1 H4 d10 d11 st4 l H5 nl m5 hl d2 H6 d20 d21 st6
          have O6 := ((O.stp st4 na1).same m5).stp st6 na1
          have A6 := ((A.chg st4.chg (dsj_one na2)).same m5).chg st6.chg (dsj_one na2)
          have sc6 := ((sc3.mono st4.gro).mono (Gro.same m5)).mono st6.gro
          have dr6 := st6.drw
          have hl6 : H6 l = some (.lst [.non, .int d1]) := by walk_at "hp"
          clear O A sc3 dr3 st4 m5 st6 hl nl
          have pick : ∃ pw, atI [V.non, V.int d1] d2 = some (pwV pw) ∧ ∀ x, pw = some x → 0 ≤ x := by
            by_cases z : d2 < 1
            · have e0 : d2 = 0 := by omega
              subst e0
              exact ⟨none, rfl, fun _ h => nomatch h⟩
            · have e0 : d2 = 1 := by omega
              subst e0
              exact ⟨some d1, rfl, fun x h => by cases h; exact d10⟩
          obtain ⟨pw, hpk, hpw⟩ := pick
          refine r_ixL (SqL.of hl6) hpk ?_
          have hi : ∃ fs, Ins H6 p (He.ga e.K "Disk") fs ∧ fs.lookup ("limit" : Str) = none := by
            obtain ⟨p', L', S', ca', sa', e1, rfl, d⟩ := O6.disk
            cases e1
            exact ⟨[("durable", .ref L'), ("steps", .ref S'), ("power", pwV D.pw)], d.ins, by walk_at "lk"⟩
          obtain ⟨fs, hi, lk1⟩ := hi
          walk_at "go"
          refine r_methv hi lk1 ?_
          walk_at "go"
          refine use_limit O6 (fun H7 O7 c7 => ?_)
          have A7 := A6.chg c7 J
          have hm7 := A7.mm
          walk_at "go"
          rename_i H8 h8 k8
          obtain ⟨A8, c8⟩ := A7.pow (pw := pw) h8 k8
          refine ⟨m, _, _, _, _, _, _, _, _, _, _, rfl, c8.drw (c7.drw dr6 na1) na2, (sc6.mono c7.gro).mono c8.gro, fp, _, F, _, _, _, _, O7.chg c8 J.symm, A8, ⟨R.c, R.s, R.cb, R.sb, rfl⟩, fun i hi => ?_, hpw, J, na1, na2⟩
          have := L i hi
          show (M.c i).length + (M.s i).length ≤ _
          omega
        · walk_at "go"
          refine lcr_draw (a := a) (fun _ d => ∃ n, d = PyData.int n ∧ 0 ≤ n) dr3 (by omega) (by omega) (fun _ => rfl) ?_ ?_
          · intro j H4 Q1 hj s4 kq
            have dr4 := s4.drw
            have sc4 := sc3.mono s4.gro
            walk_at "go"
            rename_i d1 H5 d10 d11 st5 l H6 nl m6 hl d2 H7 d20 d21 st7
            have hl7 : H7 l = some (.lst [.int d1, .int 1000]) := by walk_at "hp"
            have s67 : Stp a H4 H7 := (st5.snd m6).trans st7
            by_cases z : d2 < 1
            · have e0 : d2 = 0 := by omega
              subst e0
              refine r_ixL (SqL.of hl7) (v := .int d1) rfl ?_
              exact kq _ _ H7 s67 (.int _) ⟨_, rfl, d10⟩
            · have e0 : d2 = 1 := by omega
              subst e0
              refine r_ixL (SqL.of hl7) (v := .int 1000) rfl ?_
              exact kq _ _ H7 s67 (.int _) ⟨_, rfl, by omega⟩
          · intro l H4 ys ds nl s4 hl dq hlen hp
            obtain ⟨ns, rfl, nl2, nn⟩ := dq.all_ints (P := fun n => 0 ≤ n) hp
            have n2 : ns.length = 2 := by rw [nl2, hlen] <;> rfl
            match ns, n2, nn, hl with
            | [x, y], _, nn, hl =>
            obtain ⟨xn, rfl⟩ : ∃ n : Nat, x = n := ⟨x.toNat, by have := nn x (by simp); omega⟩
            obtain ⟨yn, rfl⟩ : ∃ n : Nat, y = n := ⟨y.toNat, by have := nn y (by simp); omega⟩
            have hl : H4 l = some (.lst [.int xn, .int yn]) := hl
            have O4 := O.stp s4 na1
            have A4 := A.chg s4.chg (dsj_one na2)
            have sc4 := sc3.mono s4.gro
            have dr4 := s4.drw
            have l1 : l ∉ fp := O.new_out nl
            have hi : ∃ fs, Ins H4 p (He.ga e.K "Disk") fs ∧ fs.lookup ("crash" : Str) = none := by
              obtain ⟨p', L', S', ca', sa', e1, rfl, d⟩ := O4.disk
              cases e1
              exact ⟨[("durable", .ref L'), ("steps", .ref S'), ("power", pwV D.pw)], d.ins, by walk_at "lk"⟩
            obtain ⟨fs, hi, lk1⟩ := hi
            clear dq hp nl2 nn O A sc3 dr3 s4 nl
            walk_at "go"
            refine r_methv hi lk1 ?_
            walk_at "go"
            refine use_crash O4 (fun i hi => ?_) (fun H5 fp' O5 c5 => ?_)
            · rw [R.c i hi, R.s i hi, List.length_map]
              have := L i hi
              omega
            have A5 := A4.chg c5 J
            have J5 := A4.apart c5 J
            have hl5 := c5.kp l _ hl l1
            have na1' : a ∉ fp' := by
              obtain ⟨x, y, ex⟩ := dr4
              exact c5.out ex na1
            have dr5 := c5.drw dr4 na1
            have sc5 := sc4.mono c5.gro
            clear O4 A4 sc4 dr4 hl c5 J na1 l1 hi lk1
            walk_at "go"
            refine lc_RG (fun D i ys H' => Same H5 H' ∧ Cv H5 H' D M xn yn i ys) (by omega) (by omega) (fun _ => rfl) ?_ ?_ ?_
            · intro D' H' hD hD' k'
              exact ⟨fun b o eb => by rw [k' b (ne_of_none eb hD)]; exact eb, .inl ⟨rfl, rfl⟩⟩
            · rintro D' i ys H6 Q1 hi hD hl6 ⟨sm, iv⟩ kq
              have hi2 : i < 2 := by omega
              have A6 := A5.same sm
              have hm6 := A6.mm
              have hF6 := A6.ff
              have ht6 := A6.ts i hi2
              have hc6 := A6.cs i hi2
              have hs6 := A6.ss i hi2
              have hk6 := sm _ _ hl5
              have a2 := at2 ta hi2
              have a3 := at2i xn yn hi2
              have li := L i hi2
              walk_at "go"
              rename_i w H7 nw m7 hw
              rw [cutV_take, ← List.map_take] at hw
              have tl : ((M.s i).take (if i = 0 then xn else yn)).length ≤ (M.s i).length := by rw [List.length_take]; omega
              walk_at "go"
              rename_i c0 H8 nc m8 hc s0 H9 ns m9 hs t0 H10 nt m10 ht
              rw [← crash_c M xn yn hi2] at hc
              have D8 := m8 _ _ (m7 _ _ hl6)
              refine kq _ H10 (m10 _ _ (m9 _ _ D8)) (fun H11 h11 k11 => ?_)
              have m6a : Same H6 H10 := ((m7.trans m8).trans m9).trans m10
              have pt : Pt H5 H10 D' t0 c0 s0 ((M.crash xn yn).c i) := ⟨ht, m10 _ _ (m9 _ _ hc), m10 _ _ hs, Same.before (sm.trans m7) nc, Same.before ((sm.trans m7).trans m8) ns, Ne.symm (ne_of_none (m7 _ _ hl6) nc), Ne.symm (ne_of_none D8 ns)⟩
              have D10 := m10 _ _ (m9 _ _ D8)
              exact ⟨Same.but (sm.trans m6a) hD k11, iv.step hi2 m6a D10 k11 (pt.but D10 k11)⟩
            · rintro D' H6 ys hD hD6 ⟨sm, iv⟩
              walk_at "go"
              rename_i m' H7 nm m7 hm'
              obtain ⟨ta', ca', sa', A7, out⟩ := iv.mat hD6 m7 hm'
              have s57 := sm.trans m7
              have nm5 := Same.before sm nm
              have fresh : ∀ b ∈ mdlP m' D' ca' sa', H5 b = none := fun b hb => by
                rcases out b hb with rfl | rfl | z
                · exact nm5
                · exact hD
                · exact z
              refine ⟨m', _, _, _, _, _, _, _, _, _, _, rfl, dr5.mono s57, sc5.mono (Gro.same s57), fp', _, D', _, _, _, _, O5.same s57, A7, R.crash xn yn, crash_len (fun i hi => Nat.le_trans (L i hi) (by omega)), (fun _ h => nomatch h), (fun x hx hy => O5.new_out (fresh x hy) hx), na1', (fun hx => ?_)⟩
              obtain ⟨x, y, ex⟩ := dr5
              rw [fresh a hx] at ex
              cases ex
    · rintro σ' H4 ⟨m, x4, x5, x6, x7, x8, x9, x10, x11, x12, x13, rfl, G⟩
      have G' := G
      obtain ⟨_, _, fp, D, F, ta, ca, sa, M, O, A, R, L, W, J, na1, na2⟩ := G
      walk_at "go"
      refine use_same O A R (fun i hi => Nat.le_trans (L i hi) (by omega)) (fun H5 s5 => ?_)
      walk_at "go"
      exact ⟨m, _, _, _, _, _, _, _, _, _, _, rfl, G'.same s5⟩
  · rintro σ' H1 ⟨m, x4, x5, x6, x7, x8, x9, x10, x11, x12, x13, rfl, G⟩
    walk_at "go"
    exact k _

def d_applied : He.DefD := ⟨("applied", none), "applied", "applied", defArgs s_applied, defBody s_applied, defScope s_applied, [], []⟩
def d_Disk___init__ : He.DefD := ⟨("Disk", some "__init__"), "__init__", "Disk.__init__", defArgs s_Disk___init__, defBody s_Disk___init__, defScope s_Disk___init__, [], []⟩
def d_Disk_spend : He.DefD := ⟨("Disk", some "spend"), "spend", "Disk.spend", defArgs s_Disk_spend, defBody s_Disk_spend, defScope s_Disk_spend, [], []⟩
def d_Disk_append : He.DefD := ⟨("Disk", some "append"), "append", "Disk.append", defArgs s_Disk_append, defBody s_Disk_append, defScope s_Disk_append, [], []⟩
def d_Disk_clear : He.DefD := ⟨("Disk", some "clear"), "clear", "Disk.clear", defArgs s_Disk_clear, defBody s_Disk_clear, defScope s_Disk_clear, [], []⟩
def d_Disk_sync : He.DefD := ⟨("Disk", some "sync"), "sync", "Disk.sync", defArgs s_Disk_sync, defBody s_Disk_sync, defScope s_Disk_sync, [], []⟩
def d_Disk_content : He.DefD := ⟨("Disk", some "content"), "content", "Disk.content", defArgs s_Disk_content, defBody s_Disk_content, defScope s_Disk_content, [], []⟩
def d_Disk_pending : He.DefD := ⟨("Disk", some "pending"), "pending", "Disk.pending", defArgs s_Disk_pending, defBody s_Disk_pending, defScope s_Disk_pending, [], []⟩
def d_Disk_limit : He.DefD := ⟨("Disk", some "limit"), "limit", "Disk.limit", defArgs s_Disk_limit, defBody s_Disk_limit, defScope s_Disk_limit, [], []⟩
def d_Disk_crash : He.DefD := ⟨("Disk", some "crash"), "crash", "Disk.crash", defArgs s_Disk_crash, defBody s_Disk_crash, defScope s_Disk_crash, [], []⟩
def d_l_is_integer : He.DefD := ⟨("_law_is_integer", none), "_law_is_integer", "_law_is_integer", defArgs s_l_is_integer, defBody s_l_is_integer, defScope s_l_is_integer, [], []⟩
def d_l_refill : He.DefD := ⟨("_law_refill", none), "_law_refill", "_law_refill", defArgs s_l_refill, defBody s_l_refill, defScope s_l_refill, [], []⟩
def d_l_draw : He.DefD := ⟨("_law_draw", none), "_law_draw", "_law_draw", defArgs s_l_draw, defBody s_l_draw, defScope s_l_draw, [], []⟩
def d_l_is_bytes : He.DefD := ⟨("_law_is_bytes", none), "_law_is_bytes", "_law_is_bytes", defArgs s_l_is_bytes, defBody s_l_is_bytes, defScope s_l_is_bytes, [], []⟩
def d_l_after : He.DefD := ⟨("_law_after", none), "_law_after", "_law_after", defArgs s_l_after, defBody s_l_after, defScope s_l_after, [], []⟩
def d_l_do : He.DefD := ⟨("_law_do", none), "_law_do", "_law_do", defArgs s_l_do, defBody s_l_do, defScope s_l_do, [], []⟩
def d_l_model : He.DefD := ⟨("_law_model", none), "_law_model", "_law_model", defArgs s_l_model, defBody s_l_model, defScope s_l_model, [], []⟩
def d_l_same : He.DefD := ⟨("_law_same", none), "_law_same", "_law_same", defArgs s_l_same, defBody s_l_same, defScope s_l_same, [], []⟩
def d_law : He.DefD := ⟨("law", none), "law", "law", defArgs s_law, defBody s_law, defScope s_law, [], []⟩
def fnL : List He.DefD := [d_applied, d_Disk___init__, d_Disk_spend, d_Disk_append, d_Disk_clear, d_Disk_sync, d_Disk_content, d_Disk_pending, d_Disk_limit, d_Disk_crash, d_l_is_integer, d_l_refill, d_l_draw, d_l_is_bytes, d_l_after, d_l_do, d_l_model, d_l_same, d_law]
def faL0 : List He.Fa := [.glo "applied", .glo "_law_is_integer", .glo "_law_refill", .glo "_law_draw", .glo "_law_is_bytes", .glo "_law_after", .glo "_law_do", .glo "_law_model", .glo "_law_same", .glo "law", .free "len", .free "int", .free "str", .free "bool", .free "tuple", .free "list", .free "isinstance", .free "range", .free "ord", .free "sorted", .free "min", .free "max", .free "sum", .free "all", .free "any", .free "enumerate", .free "set", .free "zip", .free "dict", .free "reversed", .glo "Disk", .cls "Disk", .mkr "Disk", .noat "Disk" "durable", .noat "Disk" "steps", .noat "Disk" "power", .meth "Disk" "spend", .meth "Disk" "append", .meth "Disk" "clear", .meth "Disk" "sync"]
def faL1 : List He.Fa := [.meth "Disk" "content", .meth "Disk" "pending", .meth "Disk" "limit", .meth "Disk" "crash", .glo "PowerCut", .exc "PowerCut", .glo "MailError", .exm "PowerCut" "PowerCut" true, .int "CLEAR" (-1)]
def faL : List He.Fa := faL0 ++ faL1
def fbL : List Prd := [pKit "PowerCut" (fun K => (.ref (He.ga K "MailError"))) true, pExcC "PowerCut"]
abbrev Rr : PySem.W.OpenRow := PySem.W.OpenLaw.row PySem.Challenge.rw_dawkline_k06_disk
abbrev hkL : PySem.W.Hook := hookB 4 faL fbL fnL
def obL (s : PySem.W.SharedT) : He.AlD := obsBG 4 faL fbL fnL (HandSHeadRun.getT s)
theorem obL_eq (s : PySem.W.SharedT) : obL s = hkL.obs s.abs := obsBG_eq (HandSHeadRun.getT_eq s)
def looseL0 : List Str := ["applied", "_law_is_integer", "_law_refill", "_law_draw", "_law_wide", "_law_junk", "_law_is_bytes", "_law_after", "_law_do", "_law_model", "_law_same", "CLEAR", "MailError", "PowerCut", "Disk"]
def looseL : List Str := looseL0
theorem runL (w : World) : HandSHeadRun.RunEq Rr (PySem.W.view Rr.prog [18]) hkL obL 3000 looseL w := by
  intro os
  kernel_rfl
theorem factsL {P : Program} {w : World} {K : PySem.W.Frag} {h : Heap} {mg : Str → Option Value} {f : Addr} (X : K.In h) (G : h.Ns mainGlobals mg) (hfa : mg ("law" : Str) = some (.ref f)) (c : SaysB faL fbL fnL K) :
    ∃ fd : FuncData, (∀ (s : Shared) (v : Value), BindsTo s fd ⟨[v], []⟩ [("_law_script", v)]) ∧ ∀ base : Heap, K.In base → base.Ns mainGlobals mg → FnOk P w K mg base CX0 5 f fd ["_law_script"] (sp_law K) := by
  obtain ⟨c, cb⟩ := c.d
  have B : Bl mg := ⟨He.free_ok X G (c.fact 10 (f := .free "len") rfl), He.free_ok X G (c.fact 11 (f := .free "int") rfl), He.free_ok X G (c.fact 12 (f := .free "str") rfl), He.free_ok X G (c.fact 13 (f := .free "bool") rfl), He.free_ok X G (c.fact 14 (f := .free "tuple") rfl), He.free_ok X G (c.fact 15 (f := .free "list") rfl), He.free_ok X G (c.fact 16 (f := .free "isinstance") rfl), He.free_ok X G (c.fact 17 (f := .free "range") rfl), He.free_ok X G (c.fact 18 (f := .free "ord") rfl), He.free_ok X G (c.fact 19 (f := .free "sorted") rfl), He.free_ok X G (c.fact 20 (f := .free "min") rfl), He.free_ok X G (c.fact 21 (f := .free "max") rfl), He.free_ok X G (c.fact 22 (f := .free "sum") rfl), He.free_ok X G (c.fact 23 (f := .free "all") rfl), He.free_ok X G (c.fact 24 (f := .free "any") rfl), He.free_ok X G (c.fact 25 (f := .free "enumerate") rfl), He.free_ok X G (c.fact 26 (f := .free "set") rfl), He.free_ok X G (c.fact 27 (f := .free "zip") rfl), He.free_ok X G (c.fact 28 (f := .free "dict") rfl), He.free_ok X G (c.fact 29 (f := .free "reversed") rfl)⟩
  have g_CLEAR := He.int_ok X G (c.fact 48 (f := .int "CLEAR" (-1)) rfl)
  have gl_Disk := He.glo_ok X G (c.fact 30 (f := .glo "Disk") rfl)
  have kc_Disk := He.cls_ok (c.fact 31 (f := .cls "Disk") rfl)
  have kn_Disk_durable := He.noat_ok (c.fact 33 (f := .noat "Disk" "durable") rfl)
  have kn_Disk_steps := He.noat_ok (c.fact 34 (f := .noat "Disk" "steps") rfl)
  have kn_Disk_power := He.noat_ok (c.fact 35 (f := .noat "Disk" "power") rfl)
  have gm_PowerCut := He.glo_ok X G (c.fact 44 (f := .glo "PowerCut") rfl)
  have xo_PowerCut : Xco K (He.ga K "PowerCut") := He.exc_ok (c.fact 45 (f := .exc "PowerCut") rfl)
  have gm_MailError := He.glo_ok X G (c.fact 46 (f := .glo "MailError") rfl)
  have em_PowerCut_PowerCut := He.exm_ok (c.fact 47 (f := .exm "PowerCut" "PowerCut" true) rfl)
  have ki_PowerCut_MailError := pKit_ok (cb 0 _ rfl)
  have ec_PowerCut := pExcC_ok (cb 1 _ rfl)
  obtain ⟨fd_applied, F_applied⟩ := c.def_ 0 (d := d_applied) rfl
  have m_applied : mg "applied" = some (.ref _) := He.glo_ok X G (c.fact 0 (f := .glo "applied") rfl)
  obtain ⟨fd_Disk___init__, F_Disk___init__⟩ := c.def_ 1 (d := d_Disk___init__) rfl
  obtain ⟨fd_Disk_spend, F_Disk_spend⟩ := c.def_ 2 (d := d_Disk_spend) rfl
  obtain ⟨fd_Disk_append, F_Disk_append⟩ := c.def_ 3 (d := d_Disk_append) rfl
  obtain ⟨fd_Disk_clear, F_Disk_clear⟩ := c.def_ 4 (d := d_Disk_clear) rfl
  obtain ⟨fd_Disk_sync, F_Disk_sync⟩ := c.def_ 5 (d := d_Disk_sync) rfl
  obtain ⟨fd_Disk_content, F_Disk_content⟩ := c.def_ 6 (d := d_Disk_content) rfl
  obtain ⟨fd_Disk_pending, F_Disk_pending⟩ := c.def_ 7 (d := d_Disk_pending) rfl
  obtain ⟨fd_Disk_limit, F_Disk_limit⟩ := c.def_ 8 (d := d_Disk_limit) rfl
  obtain ⟨fd_Disk_crash, F_Disk_crash⟩ := c.def_ 9 (d := d_Disk_crash) rfl
  obtain ⟨fd_l_is_integer, F_l_is_integer⟩ := c.def_ 10 (d := d_l_is_integer) rfl
  have m_l_is_integer : mg "_law_is_integer" = some (.ref _) := He.glo_ok X G (c.fact 1 (f := .glo "_law_is_integer") rfl)
  obtain ⟨fd_l_refill, F_l_refill⟩ := c.def_ 11 (d := d_l_refill) rfl
  have m_l_refill : mg "_law_refill" = some (.ref _) := He.glo_ok X G (c.fact 2 (f := .glo "_law_refill") rfl)
  obtain ⟨fd_l_draw, F_l_draw⟩ := c.def_ 12 (d := d_l_draw) rfl
  have m_l_draw : mg "_law_draw" = some (.ref _) := He.glo_ok X G (c.fact 3 (f := .glo "_law_draw") rfl)
  obtain ⟨fd_l_is_bytes, F_l_is_bytes⟩ := c.def_ 13 (d := d_l_is_bytes) rfl
  have m_l_is_bytes : mg "_law_is_bytes" = some (.ref _) := He.glo_ok X G (c.fact 4 (f := .glo "_law_is_bytes") rfl)
  obtain ⟨fd_l_after, F_l_after⟩ := c.def_ 14 (d := d_l_after) rfl
  have m_l_after : mg "_law_after" = some (.ref _) := He.glo_ok X G (c.fact 5 (f := .glo "_law_after") rfl)
  obtain ⟨fd_l_do, F_l_do⟩ := c.def_ 15 (d := d_l_do) rfl
  have m_l_do : mg "_law_do" = some (.ref _) := He.glo_ok X G (c.fact 6 (f := .glo "_law_do") rfl)
  obtain ⟨fd_l_model, F_l_model⟩ := c.def_ 16 (d := d_l_model) rfl
  have m_l_model : mg "_law_model" = some (.ref _) := He.glo_ok X G (c.fact 7 (f := .glo "_law_model") rfl)
  obtain ⟨fd_l_same, F_l_same⟩ := c.def_ 17 (d := d_l_same) rfl
  have m_l_same : mg "_law_same" = some (.ref _) := He.glo_ok X G (c.fact 8 (f := .glo "_law_same") rfl)
  obtain ⟨fd_law, F_law⟩ := c.def_ 18 (d := d_law) rfl
  have m_law : mg "law" = some (.ref _) := He.glo_ok X G (c.fact 9 (f := .glo "law") rfl)
  have e := hfa.symm.trans m_law
  cases e
  have b := FunD.bindsA (ps := ["_law_script"]) F_law fun _ _ _ _ _ _ us hl => match us, hl with | [_], _ => rfl
  refine ⟨fd_law, fun s v => b s [v] rfl, fun base KB GB => ?_⟩
  let e : Wd := ⟨P, w, K, mg, base⟩
  have c_applied : Can e 1 "applied" ["content", "steps"] (sp_applied e.K) := ok_applied (e := e) ⟨_, _, F_applied, m_applied⟩ B g_CLEAR
  have c_Disk___init__ : CanN e 1 (He.ga e.K "Disk") "Disk" ["self"] (sp_Disk___init__ e.K) := ok_Disk___init__ (e := e) ⟨_, _, F_Disk___init__, He.mkr_ok (c.fact 32 (f := .mkr "Disk") rfl), gl_Disk⟩ B kc_Disk kn_Disk_durable kn_Disk_steps kn_Disk_power
  have c_Disk_spend : CanM e 1 (He.ga e.K "Disk") "spend" ["self"] (sp_Disk_spend e.K) := ok_Disk_spend (e := e) ⟨_, _, F_Disk_spend, He.meth_ok (c.fact 36 (f := .meth "Disk" "spend") rfl), kc_Disk⟩ B kc_Disk kn_Disk_power gm_PowerCut xo_PowerCut
  have c_Disk_pending : CanM e 1 (He.ga e.K "Disk") "pending" ["self", "file"] (sp_Disk_pending e.K) := ok_Disk_pending (e := e) ⟨_, _, F_Disk_pending, He.meth_ok (c.fact 41 (f := .meth "Disk" "pending") rfl), kc_Disk⟩ B kc_Disk kn_Disk_steps
  have c_Disk_limit : CanM e 1 (He.ga e.K "Disk") "limit" ["self", "steps"] (sp_Disk_limit e.K) := ok_Disk_limit (e := e) ⟨_, _, F_Disk_limit, He.meth_ok (c.fact 42 (f := .meth "Disk" "limit") rfl), kc_Disk⟩ B kc_Disk kn_Disk_power
  have c_l_is_integer : Can e 1 "_law_is_integer" ["_law_actual"] (sp_l_is_integer e.K) := ok_l_is_integer (e := e) ⟨_, _, F_l_is_integer, m_l_is_integer⟩ B
  have c_l_refill : Can e 1 "_law_refill" ["_law_script", "_law_k"] (sp_l_refill e.K) := ok_l_refill (e := e) ⟨_, _, F_l_refill, m_l_refill⟩ B
  have c_l_after : Can e 1 "_law_after" ["_law_content", "_law_steps"] (sp_l_after e.K) := ok_l_after (e := e) ⟨_, _, F_l_after, m_l_after⟩ B
  have c_Disk_append : CanM e 2 (He.ga e.K "Disk") "append" ["self", "file", "data"] (sp_Disk_append e.K) := ok_Disk_append (e := e) ⟨_, _, F_Disk_append, He.meth_ok (c.fact 37 (f := .meth "Disk" "append") rfl), kc_Disk⟩ B kc_Disk kn_Disk_steps c_Disk_spend
  have c_Disk_clear : CanM e 2 (He.ga e.K "Disk") "clear" ["self", "file"] (sp_Disk_clear e.K) := ok_Disk_clear (e := e) ⟨_, _, F_Disk_clear, He.meth_ok (c.fact 38 (f := .meth "Disk" "clear") rfl), kc_Disk⟩ B g_CLEAR kc_Disk kn_Disk_steps c_Disk_spend
  have c_Disk_content : CanM e 2 (He.ga e.K "Disk") "content" ["self", "file"] (sp_Disk_content e.K) := ok_Disk_content (e := e) ⟨_, _, F_Disk_content, He.meth_ok (c.fact 40 (f := .meth "Disk" "content") rfl), kc_Disk⟩ B kc_Disk kn_Disk_durable kn_Disk_steps c_applied
  have c_Disk_crash : CanM e 2 (He.ga e.K "Disk") "crash" ["self", "a", "b"] (sp_Disk_crash e.K) := ok_Disk_crash (e := e) ⟨_, _, F_Disk_crash, He.meth_ok (c.fact 43 (f := .meth "Disk" "crash") rfl), kc_Disk⟩ B kc_Disk kn_Disk_durable kn_Disk_steps kn_Disk_power c_applied
  have c_l_draw : Can e 2 "_law_draw" ["_law_state", "_law_script", "_law_size"] (sp_l_draw e.K) := ok_l_draw (e := e) ⟨_, _, F_l_draw, m_l_draw⟩ B c_l_refill
  have c_l_is_bytes : Can e 2 "_law_is_bytes" ["_law_actual"] (sp_l_is_bytes e.K) := ok_l_is_bytes (e := e) ⟨_, _, F_l_is_bytes, m_l_is_bytes⟩ B c_l_is_integer
  have c_l_model : Can e 2 "_law_model" ["_law_model_here", "_law_act"] (sp_l_model e.K) := ok_l_model (e := e) ⟨_, _, F_l_model, m_l_model⟩ B c_l_after
  have c_Disk_sync : CanM e 3 (He.ga e.K "Disk") "sync" ["self", "file"] (sp_Disk_sync e.K) := ok_Disk_sync (e := e) ⟨_, _, F_Disk_sync, He.meth_ok (c.fact 39 (f := .meth "Disk" "sync") rfl), kc_Disk⟩ B kc_Disk kn_Disk_durable kn_Disk_steps c_Disk_spend c_Disk_content
  have c_l_same : Can e 3 "_law_same" ["_law_disk", "_law_model_here"] (sp_l_same e.K) := ok_l_same (e := e) ⟨_, _, F_l_same, m_l_same⟩ B c_Disk_content c_l_is_bytes c_l_after c_l_is_integer c_Disk_pending
  have c_l_do : Can e 4 "_law_do" ["_law_disk", "_law_act"] (sp_l_do e.K) := ok_l_do (e := e) ⟨_, _, F_l_do, m_l_do⟩ B gm_PowerCut gm_MailError em_PowerCut_PowerCut ki_PowerCut_MailError ec_PowerCut c_Disk_append c_Disk_clear c_Disk_sync
  exact fnok_0 (ok_law (e := e) F_law B c_Disk___init__ c_l_same c_l_draw c_l_model c_l_do c_Disk_limit c_Disk_crash c_l_after) (fun vs H Q E h => by
    obtain ⟨v0, rfl, h⟩ := sp1_ex h
    exact h)
end Dk
open PySem PySem.W PySem.Calls PyProof.Rows
set_option maxRecDepth 100000 in
set_option maxHeartbeats 0 in
theorem PySem.Challenge.cw_dawkline_k06_disk_holds : PySem.Challenge.rw_dawkline_k06_disk.Holds := by
  w_on; o_law
  refine HandSHeadRun.head_any (r := OpenLaw.row PySem.Challenge.rw_dawkline_k06_disk) (q := view (OpenLaw.row PySem.Challenge.rw_dawkline_k06_disk).prog [18]) (H := Dk.hkL) (ob := Dk.obL) (M := 3000) (loose := Dk.looseL) (d := HandSHeadRun.topDef (OpenLaw.row PySem.Challenge.rw_dawkline_k06_disk).prog 18) (kwd := []) Dk.obL_eq
    (by kernel_rfl) (fun s => by kernel_rfl) Dk.runL (by kernel_rfl) (by kernel_rfl) (by kernel_rfl) (by rfl) (by first | assumption | decide +kernel) (by decide +kernel) ⟨rfl, rfl, rfl, rfl, rfl, by decide +kernel⟩ ?hw ?hc
  case hw => w_witness2
  case hc =>
    refine L2.walk_ofE (l := PySem.Challenge.rw_dawkline_k06_disk) (n := 63) (k := 5) (x := "_law_script") (CX := L2.CX0) rfl (by decide) (by kernel_rfl) ⟨rfl, by decide, by decide⟩ ?F (fun _ _ _ _ z => z)
    case F =>
      intro w mg fa h Y G hmg0
      obtain ⟨K, KX, c⟩ := Y
      have hmg : mg ("law" : PySem.Str) = some (.ref fa) := by
        have e : (HandSHeadRun.topDef (OpenLaw.row PySem.Challenge.rw_dawkline_k06_disk).prog 18).name = ("law" : PySem.Str) := by kernel_rfl
        rw [← e]
        exact hmg0
      obtain ⟨fd, hb, hF⟩ := Dk.factsL (P := (PySem.Challenge.rw_dawkline_k06_disk).prog) (w := w) KX G hmg c
      exact ⟨K, fd, Dk.sp_law K, KX, hb, fun H a ns hl hO hS => ⟨a, rfl, Dk.Scr.of hl hO hS, fun _ => rfl⟩, hF⟩
