import PyProof.Rows.All
import Wide.All
import OpenK.AllK
import Wide.FinOn
import KE.KStateDown
import HandS.ForMost
import HandS.ForSpec
import HandS.IsInst
import HandS.StrMore
import HandS.TupAny
import HandS.Deep
import HandS.TupLe
import HandS.Defaults
import HandS.More
import HandS.Conv
import HandS.Walk
import HandS.Flow
import HandS.Iter
import HandS.Evl
import HandS.Text
import HandS.HeadHook1
import HandS.HeadHook2
import HandS.RaiseMore
import HandS.ExcOwn
import HandS.ExcIs
import HandS.TryOnly
import HandS.WordsExc
import HandS.SetTxt0
import HandS.SetFor
import PyProof.Rows.SortStr
import HandS.SortInts
import HandS.ExcInit
import HandS.ExcSuper
import HandS.ExcField
import KE.KSuper
import HandS.EndTab
import HandS.HeadWalk
import HandS.HeadHook4
import KE.SortKeyHeap
import KE.KSortKey
import HandS.TryMany
import HandS.Wide
import PyProof.StrBlock2
import HandS.AnyAll
import HandS.GenList
import KE.KDictKeyed
import KE.SortData
import KE.KDictSum
import KE.KDictCopyH
import HandS.DictTup
import HandS.DictEq
import HandS.ExcValue
import HandS.TupLen
import HandS.Records
import Lean
import HandS.Head0
import HandS.Head1
import HandS.Head2
import HandS.HeadEnd
import PySem.Challenge.RW_dawkline_k12_events_of_a_state
set_option Elab.async false
set_option linter.all false
set_option maxRecDepth 100000
set_option maxHeartbeats 4000000

/-! Own layer over HandS: data that never change, steps of the heap, rules that take any kind of value, a walk of readings. -/
namespace Dk
open PySem PySem.Spec PyProof.Rows L2

/-! ### data that never change -/
mutual
inductive Dq (H : Hp) : V → PyData → Prop
  | non : Dq H .non .none
  | bl (b : Bool) : Dq H (.bl b) (.bool b)
  | int (i : Int) : Dq H (.int i) (.int i)
  | str (x : Str) : Dq H (.str x) (.str x)
  | tup {a : Addr} {xs : List V} {ds : List PyData} : H a = some (.tup xs) → Dqs H xs ds → Dq H (.ref a) (.tuple ds)
inductive Dqs (H : Hp) : List V → List PyData → Prop
  | nil : Dqs H [] []
  | cons {v : V} {vs : List V} {d : PyData} {ds : List PyData} : Dq H v d → Dqs H vs ds → Dqs H (v :: vs) (d :: ds)
end

/-- tuples and what is locked stand as they were -/
structure Gro (H H' : Hp) : Prop where
  tup : ∀ a xs, H a = some (.tup xs) → H' a = some (.tup xs)
  frz : ∀ a o u, H a = some (.frz o u) → H' a = some (.frz o u)
theorem Gro.refl (H : Hp) : Gro H H := ⟨fun _ _ h => h, fun _ _ _ h => h⟩
theorem Gro.trans {H H1 H2 : Hp} (a : Gro H H1) (b : Gro H1 H2) : Gro H H2 := ⟨fun p xs h => b.tup p xs (a.tup p xs h), fun p o u h => b.frz p o u (a.frz p o u h)⟩
theorem Gro.same {H H' : Hp} (s : Same H H') : Gro H H' := ⟨fun p _ h => s p _ h, fun p _ _ h => s p _ h⟩

mutual
theorem Dq.mono {H H' : Hp} (g : Gro H H') : ∀ {d : PyData} {v : V}, Dq H v d → Dq H' v d
  | .none, _, h => by cases h; exact .non
  | .bool b, _, h => by cases h; exact .bl b
  | .int i, _, h => by cases h; exact .int i
  | .str x, _, h => by cases h; exact .str x
  | .tuple ds, _, h => by
    cases h with
    | tup ha hs => exact .tup (g.tup _ _ ha) (Dqs.mono g hs)
  | .list _, _, h => by cases h
  | .dict _, _, h => by cases h
theorem Dqs.mono {H H' : Hp} (g : Gro H H') : ∀ {ds : List PyData} {vs : List V}, Dqs H vs ds → Dqs H' vs ds
  | [], _, h => by cases h; exact .nil
  | d :: ds, _, h => by
    cases h with
    | cons h1 h2 => exact .cons (Dq.mono g h1) (Dqs.mono g h2)
end
mutual
theorem Dq.dp {K : PySem.W.Frag} {H : Hp} : ∀ {d : PyData} {v : V}, Dq H v d → Dp K H v d
  | .none, _, h => by cases h; exact .non
  | .bool b, _, h => by cases h; exact .bl b
  | .int i, _, h => by cases h; exact .int i
  | .str x, _, h => by cases h; exact .str x
  | .tuple ds, _, h => by
    cases h with
    | tup ha hs => exact .tup (SqT.of ha) (Dqs.dp hs)
  | .list _, _, h => by cases h
  | .dict _, _, h => by cases h
theorem Dqs.dp {K : PySem.W.Frag} {H : Hp} : ∀ {ds : List PyData} {vs : List V}, Dqs H vs ds → DpAll K H vs ds
  | [], _, h => by cases h; exact .nil
  | d :: ds, _, h => by
    cases h with
    | cons h1 h2 => exact .cons (Dq.dp h1) (Dqs.dp h2)
end
theorem Dqs.length {H : Hp} : ∀ {ds : List PyData} {vs : List V}, Dqs H vs ds → vs.length = ds.length
  | [], _, h => by cases h; rfl
  | d :: ds, _, h => by
    cases h with
    | cons h1 h2 => rw [List.length_cons, List.length_cons, Dqs.length h2]
theorem Dqs.get {H : Hp} : ∀ {ds : List PyData} {vs : List V} {i : Nat} {v : V}, Dqs H vs ds → vs[i]? = some v → ∃ d, ds[i]? = some d ∧ Dq H v d
  | [], _, i, v, h, e => by
    cases h
    simp at e
  | d :: ds, _, 0, v, h, e => by
    cases h with
    | cons h1 h2 =>
      simp only [List.getElem?_cons_zero, Option.some.injEq] at e
      subst e
      exact ⟨d, rfl, h1⟩
  | d :: ds, _, i + 1, v, h, e => by
    cases h with
    | cons h1 h2 =>
      simp only [List.getElem?_cons_succ] at e
      obtain ⟨d', e1, e2⟩ := Dqs.get h2 e
      exact ⟨d', by simpa using e1, e2⟩
theorem Dqs.snoc {H : Hp} {d : PyData} {v : V} (hv : Dq H v d) : ∀ {ds : List PyData} {vs : List V}, Dqs H vs ds → Dqs H (vs ++ [v]) (ds ++ [d])
  | [], _, h => by
    cases h
    exact .cons hv .nil
  | d :: ds, _, h => by
    cases h with
    | cons h1 h2 => exact .cons h1 (Dqs.snoc hv h2)
/-- texts -/
theorem Dqs.strs {H : Hp} : ∀ (ss : List Str), Dqs H (ss.map V.str) (ss.map PyData.str)
  | [] => .nil
  | s :: ss => .cons (.str s) (Dqs.strs ss)
theorem Dqs.strs_of {H : Hp} : ∀ {ss : List Str} {vs : List V}, Dqs H vs (ss.map PyData.str) → vs = ss.map V.str
  | [], _, h => by cases h; rfl
  | s :: ss, _, h => by
    cases h with
    | cons h1 h2 =>
      cases h1
      rw [Dqs.strs_of h2] <;> rfl

/-! ### steps of the heap -/
/-- all but what stands at the places of F is as it was -/
def Fr (F : Addr → Prop) (H H' : Hp) : Prop := ∀ b o, H b = some o → ¬ F b → H' b = some o
theorem Fr.refl (F : Addr → Prop) (H : Hp) : Fr F H H := fun _ _ h _ => h
theorem Fr.trans {F : Addr → Prop} {H H1 H2 : Hp} (a : Fr F H H1) (b : Fr F H1 H2) : Fr F H H2 := fun p o h n => b p o (a p o h n) n
theorem Fr.same {F : Addr → Prop} {H H' : Hp} (s : Same H H') : Fr F H H' := fun b o h _ => s b o h
/-- the law's own state: a list of two ints -/
def Drw (H : Hp) (a : Addr) : Prop := ∃ x y : Int, H a = some (.lst [.int x, .int y])
/-- a step that changes the list at a alone, which stays such a list -/
structure Stp (a : Addr) (H H' : Hp) : Prop where
  fr : ∀ b o, H b = some o → b ≠ a → H' b = some o
  gro : Gro H H'
  drw : Drw H' a
theorem Stp.refl {a : Addr} {H : Hp} (h : Drw H a) : Stp a H H := ⟨fun _ _ h _ => h, Gro.refl H, h⟩
theorem Stp.trans {a : Addr} {H H1 H2 : Hp} (x : Stp a H H1) (y : Stp a H1 H2) : Stp a H H2 := ⟨fun b o h n => y.fr b o (x.fr b o h n) n, x.gro.trans y.gro, y.drw⟩
theorem Stp.same {a : Addr} {H H' : Hp} (h : Drw H a) (s : Same H H') : Stp a H H' := ⟨fun b o e _ => s b o e, Gro.same s, let ⟨x, y, e⟩ := h; ⟨x, y, s _ _ e⟩⟩
theorem Stp.snd {a : Addr} {H H1 H2 : Hp} (x : Stp a H H1) (s : Same H1 H2) : Stp a H H2 := x.trans (Stp.same x.drw s)
theorem Stp.free {a : Addr} {H H' : Hp} (x : Stp a H H') {p : Addr} (hp : H' p = none) (ha : ∃ o, H a = some o) : H p = none := by
  by_cases e : p = a
  · obtain ⟨u, v, q⟩ := x.drw
    rw [e, q] at hp
    cases hp
  · cases q : H p with
    | none => rfl
    | some o =>
      rw [x.fr p o q e] at hp
      cases hp
theorem Stp.new {a : Addr} {H H' : Hp} (x : Stp a H H') {p : Addr} {o : HO} (hp : H p = none) (hd : Drw H a) : Stp a H (upd H' p o) := by
  have pa : a ≠ p := by
    intro e
    obtain ⟨u, v, q⟩ := hd
    rw [e, hp] at q
    cases q
  refine ⟨fun b u h n => ?_, ⟨fun b xs h => ?_, fun b u z h => ?_⟩, ?_⟩
  · rw [upd_ne (ne_of_none h hp)]
    exact x.fr b u h n
  · rw [upd_ne (ne_of_none h hp)]
    exact x.gro.tup b xs h
  · rw [upd_ne (ne_of_none h hp)]
    exact x.gro.frz b u z h
  · obtain ⟨u, v, q⟩ := x.drw
    exact ⟨u, v, by rw [upd_ne pa]; exact q⟩
theorem same_new {H : Hp} {p : Addr} {o : HO} (h : H p = none) : Same H (upd H p o) := fun a u e => by
  rw [upd_ne (ne_of_none e h)]
  exact e
/-- the script -/
def Scr (K : PySem.W.Frag) (H : Hp) (a : Addr) : Prop := ∃ ns : List Int, ns.length ≤ 63 ∧ ((∃ o, H a = some (.frz o (.lst (ns.map V.int)))) ∨
  ∃ (o : Obj) (its : Array Value) (n : Nat), K.lookup a = some o ∧ o.cls = .type "list" ∧ o.dict = none ∧ o.data = .seq its n ∧ its.size ≤ sizeLine ∧ Vals (ns.map V.int) its.toList)
theorem Scr.mono {K : PySem.W.Frag} {H H' : Hp} {a : Addr} (g : Gro H H') (h : Scr K H a) : Scr K H' a := by
  obtain ⟨ns, l, h⟩ := h
  refine ⟨ns, l, ?_⟩
  rcases h with ⟨o, h⟩ | h
  · exact .inl ⟨o, g.frz _ _ _ h⟩
  · exact .inr h
theorem Scr.seq {K : PySem.W.Frag} {H : Hp} {a : Addr} (h : Scr K H a) : ∃ ns : List Int, ns.length ≤ 63 ∧ SqL K H a (ns.map V.int) := by
  obtain ⟨ns, l, h⟩ := h
  refine ⟨ns, l, ?_⟩
  rcases h with ⟨o, h⟩ | h
  · exact .inl (.inr ⟨o, h⟩)
  · exact .inr h
theorem Scr.of {K : PySem.W.Frag} {H : Hp} {a : Addr} {ns : List Int} (hl : ns.length ≤ 63) (O : Only H) (h : SqL K H a (ns.map V.int)) : Scr K H a := by
  refine ⟨ns, hl, ?_⟩
  rcases h with (h | ⟨o, h⟩) | h
  · rcases O a with e | ⟨o, xs, e⟩
    · rw [e] at h
      cases h
    · rw [e] at h
      cases h
  · exact .inl ⟨o, h⟩
  · exact .inr h
end Dk

/-! Rules that take any kind of value: a match on the values says what is asked. -/
namespace Dk
open PySem PySem.Spec PyProof.Rows L2
section
variable {X : Cx} {K : PySem.W.Frag}
theorem opw {f : Value → Value → Sem Value} {r r' : R2} (h : OpR X f r) (w : ∀ x y H Q, r' x y H Q → r x y H Q) : OpR X f r' :=
  fun pins s σ H x y v u Q I rx ry q => h pins s σ H x y v u Q I rx ry (w _ _ _ _ q)
theorem callw {f : Value} {r r' : List V → Hp → VK → Prop} (h : CallR X f r) (w : ∀ xs H Q, r' xs H Q → r xs H Q) : CallR X f r' :=
  fun pins s σ H xs us Q I r q => h pins s σ H xs us Q I r (w _ _ _ q)
theorem mtw {id : String} {r r' : V → List V → Hp → VK → Prop} (h : MtR X id r) (w : ∀ x xs H Q, r' x xs H Q → r x xs H Q) : MtR X id r' :=
  fun pins s σ H x xs v us Q I rx r q => h pins s σ H x xs v us Q I rx r (w _ _ _ _ q)
/-- a + b -/
def uAdd (K : PySem.W.Frag) : R2 := fun x y H Q => match x, y with
  | .int i, .int j => Q (.int (i + j)) H
  | .str a, .str b => a.length + b.length ≤ sizeLine ∧ Q (.str (a ++ b)) H
  | .ref a, .ref b => rCat (.ref a) (.ref b) H Q ∨ rCatA K (.ref a) (.ref b) H Q
  | _, _ => False
theorem op_addU (hK : X.K = K := by rfl) : OpR X (binaryOp .Add) (uAdd K) := by
  subst hK
  refine opw ((op_add).or (op_add_str.or (op_cat.or op_catA))) fun x y H Q h => ?_
  cases x <;> cases y <;> first
    | exact .inl ⟨_, _, rfl, rfl, h⟩
    | exact .inr (.inl ⟨_, _, rfl, rfl, h.1, h.2⟩)
    | exact .inr (.inr h)
    | exact False.elim h
def uI (C : Int → Int → Prop) (g : Int → Int → V) : R2 := fun x y H Q => match x, y with
  | .int i, .int j => C i j ∧ Q (g i j) H
  | _, _ => False
def uI0 (g : Int → Int → V) : R2 := fun x y H Q => match x, y with
  | .int i, .int j => Q (g i j) H
  | _, _ => False
theorem uI_w {C : Int → Int → Prop} {g : Int → Int → V} {f : Value → Value → Sem Value} (h : OpR X f (rI C g)) : OpR X f (uI C g) := by
  refine opw h fun x y H Q h => ?_
  cases x <;> cases y <;> first
    | exact ⟨_, _, rfl, rfl, h.1, h.2⟩
    | exact False.elim h
theorem uI0_w {g : Int → Int → V} {f : Value → Value → Sem Value} (h : OpR X f (rI0 g)) : OpR X f (uI0 g) := by
  refine opw h fun x y H Q h => ?_
  cases x <;> cases y <;> first
    | exact ⟨_, _, rfl, rfl, h⟩
    | exact False.elim h
abbrev uSub : R2 := uI0 fun i j => .int (i - j)
theorem op_subU : OpR X (binaryOp .Sub) uSub := uI0_w op_sub
/-- a * b: ints, one of them small; a list some times -/
def uMul : R2 := fun x y H Q => match x, y with
  | .int i, .int j => CMul i j ∧ Q (.int (i * j)) H
  | .ref a, .int j => rRep (.ref a) (.int j) H Q
  | _, _ => False
theorem op_mulU : OpR X (binaryOp .Mult) uMul := by
  refine opw (op_mul.or op_rep) fun x y H Q h => ?_
  cases x <;> cases y <;> first
    | exact .inl ⟨_, _, rfl, rfl, h.1, h.2⟩
    | exact .inr h
    | exact False.elim h
abbrev uMod : R2 := uI (fun _ j => 0 < j) fun i j => .int (i % j)
theorem op_modU : OpR X (binaryOp .Mod) uMod := uI_w op_mod
abbrev uDiv : R2 := uI CDiv fun i j => .int (i / j)
theorem op_divU : OpR X (binaryOp .FloorDiv) uDiv := uI_w op_fdiv
abbrev uPow : R2 := uI CPow fun i j => .int (i ^ j.toNat)
theorem op_powU : OpR X (binaryOp .Pow) uPow := uI_w op_pow
abbrev uShl : R2 := uI CPow fun i j => .int (i * 2 ^ j.toNat)
theorem op_shlU : OpR X (binaryOp .LShift) uShl := uI_w op_shl
abbrev uShr : R2 := uI (fun _ j => 0 ≤ j) fun i j => .int (i / 2 ^ j.toNat)
theorem op_shrU : OpR X (binaryOp .RShift) uShr := uI_w op_shr
abbrev uAnd : R2 := uI0 fun i j => .int (Builtin.bitAnd i j)
theorem op_andU : OpR X (binaryOp .BitAnd) uAnd := uI0_w op_and
abbrev uLt : R2 := uI0 fun i j => .bl (decide (i < j))
theorem op_ltU : OpR X (compareOp .Lt) uLt := uI0_w op_lt
abbrev uLe : R2 := uI0 fun i j => .bl (decide (i ≤ j))
theorem op_leU : OpR X (compareOp .LtE) uLe := uI0_w op_le
abbrev uGt : R2 := uI0 fun i j => .bl (decide (j < i))
theorem op_gtU : OpR X (compareOp .Gt) uGt := uI0_w op_gt
abbrev uGe : R2 := uI0 fun i j => .bl (decide (j ≤ i))
theorem op_geU : OpR X (compareOp .GtE) uGe := uI0_w op_ge
theorem dec_i {i j : Int} : decide (V.int i = V.int j) = decide (i = j) := by
  by_cases h : i = j
  · rw [h, decide_eq_true rfl, decide_eq_true rfl]
  · rw [decide_eq_false h, decide_eq_false fun e => h (V.int.inj e)]
theorem dec_s {i j : Str} : decide (V.str i = V.str j) = decide (i = j) := by
  by_cases h : i = j
  · rw [h, decide_eq_true rfl, decide_eq_true rfl]
  · rw [decide_eq_false h, decide_eq_false fun e => h (V.str.inj e)]
/-- a == b -/
def uEq (K : PySem.W.Frag) : R2 := fun x y H Q => match x, y with
  | .int i, .int j => Q (.bl (decide (i = j))) H
  | .str i, .str j => Q (.bl (decide (i = j))) H
  | x, y => rEq x y H Q ∨ rEqD K x y H Q
def uNe (K : PySem.W.Frag) : R2 := fun x y H Q => match x, y with
  | .int i, .int j => Q (.bl (!decide (i = j))) H
  | .str i, .str j => Q (.bl (!decide (i = j))) H
  | x, y => rNe x y H Q ∨ rNeD K x y H Q
theorem op_eqU {k : Nat} (hr : Room k X.A) (hK : X.K = K := by rfl) : OpR X (compareOp .Eq) (uEq K) := by
  subst hK
  refine opw (op_eq.or (op_eqD hr.units)) fun x y H Q h => ?_
  cases x <;> cases y <;> first
    | exact .inl ⟨rfl, by rw [dec_i]; exact h⟩
    | exact .inl ⟨rfl, by rw [dec_s]; exact h⟩
    | exact h
theorem op_neU {k : Nat} (hr : Room k X.A) (hK : X.K = K := by rfl) : OpR X (compareOp .NotEq) (uNe K) := by
  subst hK
  refine opw (op_ne.or (op_neD hr.units)) fun x y H Q h => ?_
  cases x <;> cases y <;> first
    | exact .inl ⟨rfl, by rw [dec_i]; exact h⟩
    | exact .inl ⟨rfl, by rw [dec_s]; exact h⟩
    | exact h
/-- a is None, a is True -/
def uIs : R2 := fun x y H Q => match y with
  | .non => Q (.bl (decide (x = .non))) H
  | .bl b => (match x with
    | .bl a => Q (.bl (decide (a = b))) H
    | _ => False)
  | _ => False
def uIsNot : R2 := fun x y H Q => match y with
  | .non => Q (.bl (!decide (x = .non))) H
  | .bl b => (match x with
    | .bl a => Q (.bl (!decide (a = b))) H
    | _ => False)
  | _ => False
theorem op_isU : OpR X (compareOp .Is) uIs := by
  refine opw (op_isN.or op_is_bl) fun x y H Q h => ?_
  cases y with
  | non => exact .inl ⟨rfl, h⟩
  | bl b => cases x <;> first
    | exact .inr ⟨_, _, rfl, rfl, h⟩
    | exact False.elim h
  | _ => exact False.elim h
theorem op_isNotU : OpR X (compareOp .IsNot) uIsNot := by
  refine opw (op_notN.or op_isnot_bl) fun x y H Q h => ?_
  cases y with
  | non => exact .inl ⟨rfl, h⟩
  | bl b => cases x <;> first
    | exact .inr ⟨_, _, rfl, rfl, h⟩
    | exact False.elim h
  | _ => exact False.elim h
/-- a in b -/
def occ (i j : Str) : Bool := !(Builtin.Str.occurrences j i 0 j.length 1).isEmpty
def uIn (K : PySem.W.Frag) : R2 := fun x y H Q => match y with
  | .str j => (match x with
    | .str i => Q (.bl (occ i j)) H
    | _ => False)
  | y => rIn K false x y H Q ∨ rInD K x y H Q
def uNotIn (K : PySem.W.Frag) : R2 := fun x y H Q => match y with
  | .str j => (match x with
    | .str i => Q (.bl (!occ i j)) H
    | _ => False)
  | y => rIn K true x y H Q ∨ rNotInD K x y H Q
theorem op_inU {k : Nat} (hr : Room (k + 1) X.A) (hK : X.K = K := by rfl) : OpR X (compareOp .In) (uIn K) := by
  subst hK
  refine opw (op_in_str.or (op_in_seq.or (op_inD (by have := hr.un; omega)))) fun x y H Q h => ?_
  cases y with
  | str j => cases x <;> first
    | exact .inl ⟨_, _, rfl, rfl, h⟩
    | exact False.elim h
  | _ => exact .inr h
theorem op_notInU {k : Nat} (hr : Room (k + 1) X.A) (hK : X.K = K := by rfl) : OpR X (compareOp .NotIn) (uNotIn K) := by
  subst hK
  refine opw (op_notin_str.or (op_notIn_seq.or (op_notInD (by have := hr.un; omega)))) fun x y H Q h => ?_
  cases y with
  | str j => cases x <;> first
    | exact .inl ⟨_, _, rfl, rfl, h⟩
    | exact False.elim h
  | _ => exact .inr h
end
end Dk

namespace Dk
open PySem PySem.Spec PyProof.Rows L2
/-! ### built-in names -/
theorem bt_len : bootBuiltins "len" = some (.builtin "len") := by decide +kernel
theorem bt_int : bootBuiltins "int" = some (.type "int") := by decide +kernel
theorem bt_str : bootBuiltins "str" = some (.type "str") := by decide +kernel
theorem bt_bool : bootBuiltins "bool" = some (.type "bool") := by decide +kernel
theorem bt_tuple : bootBuiltins "tuple" = some (.type "tuple") := by decide +kernel
theorem bt_list : bootBuiltins "list" = some (.type "list") := by decide +kernel
theorem bt_isinstance : bootBuiltins "isinstance" = some (.builtin "isinstance") := by decide +kernel
theorem bt_ord : bootBuiltins "ord" = some (.builtin "ord") := by decide +kernel
theorem bt_sorted : bootBuiltins "sorted" = some (.builtin "sorted") := by decide +kernel
theorem bt_min : bootBuiltins "min" = some (.builtin "min") := by decide +kernel
theorem bt_max : bootBuiltins "max" = some (.builtin "max") := by decide +kernel
theorem bt_sum : bootBuiltins "sum" = some (.builtin "sum") := by decide +kernel
theorem bt_all : bootBuiltins "all" = some (.builtin "all") := by decide +kernel
theorem bt_any : bootBuiltins "any" = some (.builtin "any") := by decide +kernel
section
variable {X : Cx} {K : PySem.W.Frag}
/-- len(x) -/
def uLen (K : PySem.W.Frag) : List V → Hp → VK → Prop := fun xs H Q => match xs with
  | [.str z] => z.length ≤ sizeLine ∧ Q (.int z.length) H
  | [x] => ∃ n, LenV K x H n ∧ Q (.int n) H
  | _ => False
theorem call_lenU (hK : X.K = K := by rfl) : CallR X (.builtin "len") (uLen K) := by
  subst hK
  refine callw call_len fun xs H Q h => ?_
  match xs, h with
  | [.str z], h => exact ⟨_, z.length, rfl, ⟨h.1, rfl⟩, h.2⟩
  | [.non], h => exact ⟨_, h.choose, rfl, h.choose_spec.1, h.choose_spec.2⟩
  | [.bl _], h => exact ⟨_, h.choose, rfl, h.choose_spec.1, h.choose_spec.2⟩
  | [.int _], h => exact ⟨_, h.choose, rfl, h.choose_spec.1, h.choose_spec.2⟩
  | [.byt _], h => exact ⟨_, h.choose, rfl, h.choose_spec.1, h.choose_spec.2⟩
  | [.flt _], h => exact ⟨_, h.choose, rfl, h.choose_spec.1, h.choose_spec.2⟩
  | [.ref _], h => exact ⟨_, h.choose, rfl, h.choose_spec.1, h.choose_spec.2⟩
  | [.ty _], h => exact ⟨_, h.choose, rfl, h.choose_spec.1, h.choose_spec.2⟩
/-- int(x) -/
def uInt : List V → Hp → VK → Prop := fun xs H Q => match xs with
  | [.int i] => Q (.int i) H
  | [.bl b] => Q (.int (if b then 1 else 0)) H
  | [.str a] => ∃ n, PySem.intText? a = some n ∧ a.length ≤ 640 ∧ Q (.int n) H
  | _ => False
theorem call_intU : CallR X (.type "int") uInt := by
  refine callw (call_int1.or call_int_str) fun xs H Q h => ?_
  match xs, h with
  | [.int i], h => exact .inl (.inl ⟨_, rfl, h⟩)
  | [.bl i], h => exact .inl (.inr ⟨_, rfl, h⟩)
  | [.str a], h => exact .inr ⟨_, _, rfl, h.choose_spec.1, h.choose_spec.2.1, h.choose_spec.2.2⟩
/-- tuple(x) -/
def uTuple (K : PySem.W.Frag) : List V → Hp → VK → Prop := fun xs H Q => match xs with
  | [.ref p] => ∃ ys, (SqL K H p ys ∧ ∀ l, H l = none → Q (.ref l) (upd H l (.tup ys))) ∨ (SqT K H p ys ∧ Q (.ref p) H)
  | _ => False
theorem call_tupleU (hK : X.K = K := by rfl) : CallR X (.type "tuple") (uTuple K) := by
  subst hK
  refine callw call_tuple_of fun xs H Q h => ?_
  match xs, h with
  | [.ref p], h => exact ⟨p, h.choose, rfl, h.choose_spec⟩
/-- list(x) -/
def uList (K : PySem.W.Frag) : List V → Hp → VK → Prop := fun xs H Q => match xs with
  | [.ref p] => ∃ ys, (SqL K H p ys ∨ SqT K H p ys) ∧ ∀ l, H l = none → Q (.ref l) (upd H l (.lst ys))
  | _ => False
theorem call_listU (hK : X.K = K := by rfl) : CallR X (.type "list") (uList K) := by
  subst hK
  refine callw call_list_of fun xs H Q h => ?_
  match xs, h with
  | [.ref p], h => exact ⟨p, h.choose, rfl, h.choose_spec⟩
/-- isinstance(x, a built-in class) -/
def tyO : Option HO → Option String
  | some (.lst _) => some "list"
  | some (.tup _) => some "tuple"
  | some (.dK _) => some "dict"
  | some (.dT _) => some "dict"
  | _ => none
def tyN (H : Hp) : V → Option String
  | .non => some "NoneType"
  | .bl _ => some "bool"
  | .int _ => some "int"
  | .str _ => some "str"
  | .ref a => tyO (H a)
  | _ => none
theorem tyN_ok {K : PySem.W.Frag} {H : Hp} {x : V} {n : String} (h : tyN H x = some n) : TyX K H x (.type n) := by
  cases x with
  | non => cases h; exact .base .non
  | bl b => cases h; exact .base (.bl b)
  | int b => cases h; exact .base (.int b)
  | str b => cases h; exact .base (.str b)
  | ref a =>
    have h : tyO (H a) = some n := h
    cases e : H a with
    | none =>
      rw [e] at h
      cases h
    | some o =>
      rw [e] at h
      cases o with
      | lst xs => cases h; exact .base (.lst e)
      | tup xs => cases h; exact .base (.tup e)
      | dK xs => cases h; exact .base (.dK e)
      | dT xs => cases h; exact .base (.dT e)
      | _ => cases h
  | _ => cases h
def uIsi (K : PySem.W.Frag) : List V → Hp → VK → Prop := fun xs H Q => match xs with
  | [x, .ty m] => ∃ n b, tyN H x = some n ∧ kitB n m = some b ∧ Q (.bl b) H
  | _ => False
theorem call_isiU (hK : X.K = K := by rfl) : CallR X (.builtin "isinstance") (uIsi K) := by
  subst hK
  refine callw call_isi fun xs H Q h => ?_
  match xs, h with
  | [x, .ty m], h =>
    obtain ⟨n, b, h1, h2, h3⟩ := h
    exact ⟨x, .ty m, .type n, .type m, b, rfl, .ty m, tyN_ok h1, kit_ty h2, h3⟩
/-- x[i] -/
def uIx (K : PySem.W.Frag) : R2 := fun x y H Q => match x, y with
  | .ref p, .int i => ∃ xs v, (SqL K H p xs ∨ SqT K H p xs) ∧ atI xs i = some v ∧ Q v H
  | .str z, .int i => ∃ c, z.length ≤ sizeLine ∧ atI z.cps.toList i = some c ∧ Q (.str ⟨#[c]⟩) H
  | _, _ => False
theorem ix_U (hK : X.K = K := by rfl) : IxR X (uIx K) := by
  subst hK
  intro va sl pins s σ H x y v u Q I rx ry h hs
  refine ix_seq va sl pins s σ H x y v u Q I rx ry ?_ hs
  match x, y, h with
  | .ref p, .int i, h =>
    obtain ⟨xs, w, h1, h2, h3⟩ := h
    rcases h1 with h1 | h1
    · exact .inl ⟨p, xs, i, w, rfl, rfl, h1, h2, h3⟩
    · exact .inr (.inl ⟨p, xs, i, w, rfl, rfl, h1, h2, h3⟩)
  | .str z, .int i, h =>
    obtain ⟨c, h1, h2, h3⟩ := h
    exact .inr (.inr ⟨z, i, c, rfl, rfl, h1, h2, h3⟩)
/-- x[lo:hi] -/
def uSl (K : PySem.W.Frag) : V → Option Int → Option Int → Hp → VK → Prop := fun x lo hi H Q => match x with
  | .str z => z.length ≤ sizeLine ∧ Q (.str (cutS z lo hi)) H
  | x => rSlL K x lo hi H Q ∨ rSlA K x lo hi H Q
theorem sl_U (hK : X.K = K := by rfl) : SlR X (uSl K) := by
  subst hK
  intro pins s σ H x v vl vu lo hi sl Q I rx hs pl pu h
  refine (sl_str.or (sl_list.or sl_tupA)) pins s σ H x v vl vu lo hi sl Q I rx hs pl pu ?_
  cases x with
  | str z => exact .inl ⟨z, rfl, h.1, h.2⟩
  | _ => exact .inr h
/-- methods of texts with one text -/
def uS1 (f : Str → Str → V) : V → List V → Hp → VK → Prop := fun x xs H Q => match x, xs with
  | .str a, [.str b] => Q (f a b) H
  | _, _ => False
theorem mt_startsU : MtR X "str.startswith" (uS1 fun a b => .bl (Txt.startswith a b)) := by
  refine mtw mt_startswith fun x xs H Q h => ?_
  match x, xs, h with
  | .str a, [.str b], h => exact ⟨a, b, rfl, rfl, h⟩
theorem mt_endsU : MtR X "str.endswith" (uS1 fun a b => .bl (Txt.endswith a b)) := by
  refine mtw mt_endswith fun x xs H Q h => ?_
  match x, xs, h with
  | .str a, [.str b], h => exact ⟨a, b, rfl, rfl, h⟩
theorem mt_findU : MtR X "str.find" (uS1 fun a b => .int (Txt.find a b)) := by
  refine mtw mt_find fun x xs H Q h => ?_
  match x, xs, h with
  | .str a, [.str b], h => exact ⟨a, b, rfl, rfl, h⟩
def uS1l (f : Str → Str → V) : V → List V → Hp → VK → Prop := fun x xs H Q => match x, xs with
  | .str a, [.str b] => a.length ≤ sizeLine ∧ Q (f a b) H
  | _, _ => False
theorem mt_rstripU : MtR X "str.rstrip" (uS1l fun a b => .str (Txt.rstripChars a b)) := by
  refine mtw mt_rstripChars fun x xs H Q h => ?_
  match x, xs, h with
  | .str a, [.str b], h => exact ⟨a, b, rfl, rfl, h.1, h.2⟩
def uSplit : V → List V → Hp → VK → Prop := fun x xs H Q => match x, xs with
  | .str a, [.str b] => (b.length == 0) = false ∧ a.length + 2 ≤ sizeLine ∧ rNewStrs (Txt.split a b) H Q
  | _, _ => False
theorem mt_splitU : MtR X "str.split" uSplit := by
  refine mtw mt_split fun x xs H Q h => ?_
  match x, xs, h with
  | .str a, [.str b], h => exact ⟨a, b, rfl, rfl, h.1, h.2.1, h.2.2⟩
def uJoin (K : PySem.W.Frag) : V → List V → Hp → VK → Prop := fun x xs H Q => match x, xs with
  | .str a, [.ref p] => ∃ ys : List Str, (SqL K H p (ys.map V.str) ∨ SqT K H p (ys.map V.str)) ∧ (ys.map (·.length)).sum + ys.length * a.length ≤ 16777216 ∧ Q (.str (Txt.join a ys)) H
  | _, _ => False
theorem mt_joinU (hK : X.K = K := by rfl) : MtR X "str.join" (uJoin K) := by
  subst hK
  refine mtw mt_join fun x xs H Q h => ?_
  match x, xs, h with
  | .str a, [.ref p], h => exact ⟨a, p, h.choose, rfl, rfl, h.choose_spec.1, h.choose_spec.2.1, h.choose_spec.2.2⟩
def uS0 (f : Str → V) : V → List V → Hp → VK → Prop := fun x xs H Q => match x, xs with
  | .str a, [] => a.length ≤ 5592405 ∧ Q (f a) H
  | _, _ => False
theorem mt_lowerU : MtR X "str.lower" (uS0 fun a => .str (Txt.lower a)) := by
  refine mtw mt_lower fun x xs H Q h => ?_
  match x, xs, h with
  | .str a, [], h => exact ⟨a, rfl, rfl, h.1, h.2⟩
theorem mt_upperU : MtR X "str.upper" (uS0 fun a => .str (Txt.upper a)) := by
  refine mtw mt_upper fun x xs H Q h => ?_
  match x, xs, h with
  | .str a, [], h => exact ⟨a, rfl, rfl, h.1, h.2⟩
/-- str(x) -/
def uStr : List V → Hp → VK → Prop := fun xs H Q => match xs with
  | [.int i] => i.natAbs.log2 < 1920 ∧ Q (.str (toString i)) H
  | [.str a] => Q (.str a) H
  | _ => False
/-! ### defs by their names -/
structure Wd where
  P : Program
  w : World
  K : PySem.W.Frag
  mg : Str → Option Value
  base : Heap
/-- the def that the module's name x holds keeps the promise sp -/
def Can (e : Wd) (k : Nat) (x : Str) (ps : List Str) (sp : Sp) : Prop :=
  ∃ f fd, FnOk e.P e.w e.K e.mg e.base (L2.CX e.P e.w) k f fd ps sp ∧ e.mg x = some (.ref f) ∧ PySem.W.keepIn e.K (.ref f) = true ∧ Binds e.K fd ps []
theorem Can.imp {e : Wd} {k j : Nat} {x : Str} {ps : List Str} {sp sp' : Sp} (c : Can e k x ps sp) (h : ∀ vs H Q E, sp' vs H Q E → sp vs H Q E) (hk : k ≤ j := by decide) : Can e j x ps sp' := by
  obtain ⟨f, fd, F, m, kp, b⟩ := c
  exact ⟨f, fd, (F.imp h).mono hk, m, kp, b⟩
abbrev wdOf (X : Cx) : Wd := ⟨X.prog, X.w, X.K, X.mg, X.base⟩
theorem pe_can {k : Nat} {x : Str} {ps : List Str} {sp : Sp} {E : XK} {p pos : Pos} {e : Expr} {es : List Expr} {t : TA} (c : Can (wdOf X) k x ps sp) (hr : Room k X.A) (hx : Passes (L2.CX X.prog X.w) X E) (ha : PA X (e :: es) t) (hg : Gl X x := by rfl)
    (hdb : (x == ("__debug__" : Str)) = false := by decide) (he : starEach (e :: es) X.env = (false, eval e X.env) :: starEach es X.env := by rfl) (hpl : (backTo pos (starEach es X.env)).any (·.1) = false := by rfl) : PE X (.Call (.Name x p) (e :: es) [] pos) (tCall sp [] E t) := by
  obtain ⟨f, fd, F, m, kp, b⟩ := c
  exact pe_call F hr hg m kp b .nil hx ha hdb he hpl
theorem pe_can0 {k : Nat} {x : Str} {ps : List Str} {sp : Sp} {E : XK} {p pos : Pos} (c : Can (wdOf X) k x ps sp) (hr : Room k X.A) (hx : Passes (L2.CX X.prog X.w) X E) (hg : Gl X x := by rfl)
    (hdb : (x == ("__debug__" : Str)) = false := by decide) : PE X (.Call (.Name x p) [] [] pos) (tCall sp [] E tNil) := by
  obtain ⟨f, fd, F, m, kp, b⟩ := c
  exact pe_call0 F hr hg m kp b .nil hx hdb
def DefAt (e : Wd) (x : Str) (st : Stmt) : Prop := ∃ f fd, FunD e.K x x (defArgs st) (defBody st) (defScope st) [] [] f fd ∧ e.mg x = some (.ref f)
/-- how its arguments bind -/
abbrev BindOk (x : Str) (st : Stmt) (ps : List Str) : Prop := ∀ (kV doc pm : Value) (an : Option Addr) (cdv ct : Value) (us : List Value), us.length = ps.length → bindArgs (PySem.W.fnOf x x (defArgs st) (defBody st) (defScope st) .none kV doc pm an cdv ct) ⟨us, []⟩ = pure (ps.zip us)
/-- a def that lets no error out -/
theorem fnok_of {e : Wd} {x : Str} {st : Stmt} {N ps : List Str} {k : Nat} {sp : Sp} {f : Addr} {fd : FuncData} (F : FunD e.K x x (defArgs st) (defBody st) (defScope st) [] [] f fd) (S : FnScope N ps (defScope st)) (len : ∀ vs H Q E, sp vs H Q E → vs.length = ps.length)
    (hbody : ∀ (cdv : Value) (f : Addr) (A : Around) (outer : List Env) (s : Shared) (H : Hp) (vs : List V) (Q : VK) (E : XK), Room k (A.deeper (envOfC x (defScope st) s.heap.objs.size f cdv)) → sp vs H Q E →
      ∃ t, PSs (cxOf (L2.CX e.P e.w) e.P e.w e.K e.mg e.base N x (defScope st) f cdv A outer s H E).nox (defBody st) t ∧ t { nx := fun _ H' => Q .non H', rt := Q } (start N vs) H) : FnOk e.P e.w e.K e.mg e.base (L2.CX e.P e.w) (k + 1) f fd ps sp :=
  F.ok S len fun cdv A outer s H vs Q E hr h => by
    obtain ⟨t, h1, h2⟩ := hbody cdv f A outer s H vs Q E hr h
    exact ⟨t, h1.nox, h2⟩
theorem can_of {e : Wd} {x : Str} {st : Stmt} {N ps : List Str} {k : Nat} {sp : Sp} (D : DefAt e x st) (S : FnScope N ps (defScope st)) (B : BindOk x st ps) (len : ∀ vs H Q E, sp vs H Q E → vs.length = ps.length)
    (hbody : ∀ (cdv : Value) (f : Addr) (A : Around) (outer : List Env) (s : Shared) (H : Hp) (vs : List V) (Q : VK) (E : XK), Room k (A.deeper (envOfC x (defScope st) s.heap.objs.size f cdv)) → sp vs H Q E →
      ∃ t, PSs (cxOf (L2.CX e.P e.w) e.P e.w e.K e.mg e.base N x (defScope st) f cdv A outer s H E).nox (defBody st) t ∧ t { nx := fun _ H' => Q .non H', rt := Q } (start N vs) H) : Can e (k + 1) x ps sp := by
  obtain ⟨f, fd, F, m⟩ := D
  exact ⟨f, fd, fnok_of F S len hbody, m, F.kp, F.bindsN B⟩
/-- a text, an int of the module's -/
theorem pe_gs {x z : Str} {pos : Pos} (h : ∃ t, X.mg x = some (.str z t)) (hg : Gl X x := by rfl) (hd : (x == ("__debug__" : Str)) = false := by decide) : PE X (.Name x pos) (tC (.str z)) := by
  obtain ⟨t, h⟩ := h
  exact pe_glob hg h ⟨t, rfl⟩ hd
theorem pe_gi {x : Str} {i : Int} {pos : Pos} (h : ∃ t, X.mg x = some (.int i t)) (hg : Gl X x := by rfl) (hd : (x == ("__debug__" : Str)) = false := by decide) : PE X (.Name x pos) (tC (.int i)) := by
  obtain ⟨t, h⟩ := h
  exact pe_glob hg h ⟨t, rfl⟩ hd
end
end Dk

/-! What a reading asks, word by word; a walk over readings. -/
namespace Dk
open PySem PySem.Spec PyProof.Rows L2
section
variable {X : Cx} {K : PySem.W.Frag} {σ : L2.St} {H : Hp} {Q : VK} {QB : Bool → Hp → Prop} {D : Ends} {ta tb tc te : TE} {t u c : TT} {r r' : R2} {i : Nat} {x y v : V} {tA tA' : TA} {tS uS : TS}
/-! ### rules that are lacking in the modules: a value's truth; what a for walks, of any kind -/
def tTru (K : PySem.W.Frag) (te : TE) : TT := fun σ H Q => te σ H fun x H' => ∃ k, TruV K x H' k ∧ Q k H'
theorem pt_tru {a : Expr} (ha : PE X a te) (hK : X.K = K := by rfl) (he : ∀ whole, isTrue a X.env whole = (do let v ← whole; standAt a.pos; holding [v] (truthy v)) := by intro _; rfl) : PT X a (tTru K te) := by
  subst hK
  exact pt_truth ha he
theorem pior {tg e : Expr} {w1 w2 : TI} (h1 : PI X tg e w1) (h2 : PI X tg e w2) : PI X tg e (fun σ H R => w1 σ H R ∨ w2 σ H R) :=
  ⟨fun pins s σ H R I h => h.elim (h1.run pins s σ H R I) (h2.run pins s σ H R I)⟩
theorem peor {e : Expr} {w1 w2 : TE} (h1 : PE X e w1) (h2 : PE X e w2) : PE X e (fun σ H R => w1 σ H R ∨ w2 σ H R) :=
  ⟨fun pins s σ H R I h => h.elim (h1.run pins s σ H R I) (h2.run pins s σ H R I)⟩
/-- a list, a tuple, a text -/
def iU (K : PySem.W.Frag) (te : TE) : TI := fun σ H R => te σ H fun x H1 => match x with
  | .ref a => ((∃ xs, SqL K H1 a xs) ∧ R (Itl K a) H1) ∨ ((∃ xs, SqT K H1 a xs) ∧ R (Itt K a) H1)
  | .str z => R (Its z) H1
  | _ => False
theorem pi_U {tg l : Expr} (hl : PE X l te) (hK : X.K = K := by rfl) : PI X tg l (iU K te) := by
  subst hK
  refine ⟨fun pins s σ H R I h => ?_⟩
  refine thn (hl.run pins s σ H _ I h) fun v s1 ⟨x, H1, I1, r1, q1⟩ => ?_
  cases x with
  | ref a =>
    cases r1
    rcases q1 with ⟨⟨xs, hq⟩, q⟩ | ⟨⟨xs, hq⟩, q⟩
    · obtain ⟨its, rv, p, hz⟩ := I1.list hq
      refine wpAny_pyIter_list p.isList ?_
      refine ⟨s1.heap.objs.size, [s1.heap.objs.size], _, _, H1, rfl, I1.kept (t' := s1.toks) fun b o e => Heap.get?_push_of_some _ e, turn_list a _, ⟨_, Heap.get?_push_size _ rfl, rfl, rfl⟩, fun b hb => ?_, q⟩
      have e : b = s1.heap.objs.size := by simpa using hb
      subst e
      exact I1.fpOk (Nat.le_refl _) (I1.hok.fresh (Nat.le_refl _))
    · obtain ⟨its, rv, p, hz⟩ := I1.tuple hq
      refine wpAny_pyIter_tuple (show s1.heap.IsTuple a its.toArray from p) ?_
      refine ⟨s1.heap.objs.size, [s1.heap.objs.size], _, _, H1, rfl, I1.kept (t' := s1.toks) fun b o e => Heap.get?_push_of_some _ e, turn_tuple a _, ⟨_, Heap.get?_push_size _ rfl, rfl, rfl⟩, fun b hb => ?_, q⟩
      have e : b = s1.heap.objs.size := by simpa using hb
      subst e
      exact I1.fpOk (Nat.le_refl _) (I1.hok.fresh (Nat.le_refl _))
  | str z =>
    obtain ⟨t, rfl⟩ := r1
    cases ha : z.cps.all (· < 128)
    · exact wpAny_pyIter_wide ha (pi_one (tk := s1.toks) I1 _ (turn_str _ z t "str_iterator" (.inr rfl)) ⟨_, Heap.get?_push_size _ rfl, rfl, rfl⟩ q1)
    · exact wpAny_pyIter_ascii ha (pi_one (tk := s1.toks) I1 _ (turn_str _ z t "str_ascii_iterator" (.inl rfl)) ⟨_, Heap.get?_push_size _ rfl, rfl, rfl⟩ q1)
  | _ => exact False.elim q1
theorem pe_notU {a : Expr} {pos : Pos} (ha : PE X a ta) (hK : X.K = K := by rfl) : PE X (.UnaryOp .Not a pos) (tNotT K ta) := by
  subst hK
  exact pe_notT ha
theorem pe_andU {a b : Expr} {rest : List Expr} {pos : Pos} (ha : PE X a ta) (hb : PE X (.BoolOp .And (b :: rest) pos) tb) (hK : X.K = K := by rfl) : PE X (.BoolOp .And (a :: b :: rest) pos) (tAndT K ta tb) := by
  subst hK
  exact pe_andT ha hb
theorem pe_orU {a b : Expr} {rest : List Expr} {pos : Pos} (ha : PE X a ta) (hb : PE X (.BoolOp .Or (b :: rest) pos) tb) (hK : X.K = K := by rfl) : PE X (.BoolOp .Or (a :: b :: rest) pos) (tOrT K ta tb) := by
  subst hK
  exact pe_orT ha hb
theorem pg_tupU {es : List Expr} {k : Nat} {t : TGs} {n : Nat} {pos : Pos} (hc : X.calm = true) (h : PGs X es t) (hK : X.K = K := by rfl)
    (hn : (assignEach es X.env).length = n := by rfl) (hst : (assignEach es X.env).findIdx? (·.1) = none := by rfl) : PG X (.Tuple es k pos) (gTup K n t) := by
  subst hK
  exact pg_tup hc h hn hst
theorem pe_bmU {T id : String} {name : Str} {r : V → List V → Hp → VK → Prop} {o e : Expr} {es : List Expr} {apos cpos : Pos} (pa : PlainAttrs T) (slot : Slot T name id) (hty : typeOf (.builtin id) = pure (.type "method_descriptor")) (hm : MtR X id r) (ho : PE X o te) (ha : PA X (e :: es) tA)
    (hK : X.K = K := by rfl) (hbase : attributeBase o name X.env (eval o X.env) = eval o X.env := by rfl)
    (hfew : ((backTo cpos (starEach (e :: es) X.env)).all (fun x => !x.1) && (backToKw cpos (keywordEach [] X.env)).all (fun x => x.1.isSome)
      && decide ((e :: es).length + ([] : List Keyword).length + (if ([] : List Keyword).isEmpty then 0 else 1) < 30)) = true := by rfl)
    (hline : (apos.endLine == cpos.line) = true := by rfl) (hs : starEach (e :: es) X.env = (false, eval e X.env) :: starEach es X.env := by rfl) (hplain : (backTo cpos (starEach es X.env)).any (·.1) = false := by rfl) :
    PE X (.Call (.Attribute o name apos) (e :: es) [] cpos) (tBM K T r te tA) := by
  subst hK
  exact pe_bm pa slot hty hm ho ha hbase hfew hline hs hplain
theorem pe_bm0U {T id : String} {name : Str} {r : V → List V → Hp → VK → Prop} {o : Expr} {apos cpos : Pos} (pa : PlainAttrs T) (slot : Slot T name id) (hty : typeOf (.builtin id) = pure (.type "method_descriptor")) (hm : MtR X id r) (ho : PE X o te)
    (hK : X.K = K := by rfl) (hbase : attributeBase o name X.env (eval o X.env) = eval o X.env := by rfl) (hline : (apos.endLine == cpos.line) = true := by rfl) : PE X (.Call (.Attribute o name apos) [] [] cpos) (tBM0 K T r te) := by
  subst hK
  exact pe_bm0 pa slot hty hm ho hbase hline
/-! ### readings: expressions -/
/-- a truth value is wanted, an int is wanted -/
def bq (x : V) (H : Hp) (QB : Bool → Hp → Prop) : Prop := ∃ k, x = .bl k ∧ QB k H
def trq (K : PySem.W.Frag) (x : V) (H : Hp) (QB : Bool → Hp → Prop) : Prop := ∃ k, TruV K x H k ∧ QB k H
def newq (n : Nat) (o : HO) (H : Hp) (Q : VK) : Prop := n ≤ sizeLine ∧ ∀ p, H p = none → Q (.ref p) (upd H p o)
def parq (a b : Nat) (vs : List V) (σ : L2.St) (D : Ends) (H : Hp) : Prop := ∃ v w, vs = [v, w] ∧ D.nx ((σ.set a (some v)).set b (some w)) H
def iq (x : V) (P : Int → Prop) : Prop := ∃ n, x = .int n ∧ P n
theorem r_var (h : σ[i]? = some (some v)) (q : Q v H) : tVar i σ H Q := ⟨v, h, q⟩
theorem r_c (q : Q v H) : tC v σ H Q := q
theorem r_op (q : ta σ H fun x H1 => tb σ H1 fun y H2 => r x y H2 Q) : tOp r ta tb σ H Q := q
theorem r_un {f : V → Hp → VK → Prop} (q : ta σ H fun x H1 => f x H1 Q) : tUn f ta σ H Q := q
theorem r_neg {g : Int → V} {n : Int} (q : Q (g n) H) : rU g (.int n) H Q := ⟨n, rfl, q⟩
theorem r_test (q : te σ H fun x H1 => bq x H1 QB) : tTest te σ H QB := q
theorem r_tB (q : te σ H fun x H1 => bq x H1 QB) : tB te σ H QB := q
theorem r_bl {b : Bool} {H : Hp} (q : QB b H) : bq (.bl b) H QB := ⟨b, rfl, q⟩
theorem r_tru (q : te σ H fun x H1 => trq K x H1 QB) : tTru K te σ H QB := q
theorem r_trub {b : Bool} (q : QB b H) : trq K (.bl b) H QB := ⟨b, rfl, q⟩
theorem r_trui {n : Int} (q : QB (n != 0) H) : trq K (.int n) H QB := ⟨_, rfl, q⟩
theorem r_trun (q : QB false H) : trq K .non H QB := ⟨_, rfl, q⟩
theorem r_trus {z : Str} (hz : z.length ≤ sizeLine) (q : QB ((z.length : Int) != 0) H) : trq K (.str z) H QB := ⟨_, ⟨hz, rfl⟩, q⟩
theorem r_trul {p : Addr} {xs : List V} (h : SqL K H p xs) (q : QB (!xs.isEmpty) H) : trq K (.ref p) H QB := ⟨_, .inl ⟨xs, h, rfl⟩, q⟩
theorem r_trut {p : Addr} {xs : List V} (h : SqT K H p xs) (q : QB (!xs.isEmpty) H) : trq K (.ref p) H QB := ⟨_, .inr (.inl ⟨xs, h, rfl⟩), q⟩
theorem r_and (q : t σ H fun b H1 => if b = true then u σ H1 QB else QB false H1) : tAnd t u σ H QB := q
theorem r_or (q : t σ H fun b H1 => if b = true then QB true H1 else u σ H1 QB) : tOr t u σ H QB := q
theorem r_not (q : t σ H fun b H1 => QB (!b) H1) : tNot t σ H QB := q
theorem r_andT (q : ta σ H fun x H1 => trq K x H1 fun k H2 => if k = true then tb σ H2 Q else Q x H2) : tAndT K ta tb σ H Q := q
theorem r_orT (q : ta σ H fun x H1 => trq K x H1 fun k H2 => if k = true then Q x H2 else tb σ H2 Q) : tOrT K ta tb σ H Q := q
theorem r_notT (q : ta σ H fun x H1 => trq K x H1 fun k H2 => Q (.bl (!k)) H2) : tNotT K ta σ H Q := q
theorem r_ifx (q : t σ H fun b H1 => if b = true then ta σ H1 Q else tb σ H1 Q) : tIf t ta tb σ H Q := q
theorem r_chain (q : ta σ H fun x H1 => tb σ H1 fun y H2 => r x y H2 fun z H3 => bq z H3 fun k H4 => if k = true then tc σ H4 (fun w H5 => r' y w H5 Q) else Q (.bl false) H4) : tChain r r' ta tb tc σ H Q := q
theorem r_nil {QA : List V → Hp → Prop} (q : QA [] H) : tNil σ H QA := q
theorem r_cons {QA : List V → Hp → Prop} (q : ta σ H fun x H1 => tA σ H1 fun xs H2 => QA (x :: xs) H2) : tCons ta tA σ H QA := q
theorem r_tup (q : tA σ H fun xs H1 => newq xs.length (.tup xs) H1 Q) : tTup tA σ H Q := q
theorem r_lst (q : tA σ H fun xs H1 => newq xs.length (.lst xs) H1 Q) : tLst tA σ H Q := q
/-- a new object: the heap behind it by what is known of it -/
theorem r_new {o : HO} {n : Nat} (hn : n ≤ sizeLine) (k : ∀ p H', H p = none → Same H H' → H' p = some o → Q (.ref p) H') : newq n o H Q :=
  ⟨hn, fun p np => k p _ np (same_new np) upd_same⟩
theorem r_new0 {o : HO} (k : ∀ p H', H p = none → Same H H' → H' p = some o → Q (.ref p) H') : ∀ p, H p = none → Q (.ref p) (upd H p o) :=
  fun p np => k p _ np (same_new np) upd_same
theorem r_cb {f : List V → Hp → VK → Prop} (q : tA σ H fun vs H1 => f vs H1 Q) : tCB f tA σ H Q := q
theorem r_call {sp : Sp} {E : XK} (q : tA σ H fun vs H1 => sp vs H1 Q E) : tCall sp [] E tA σ H Q := by
  show tA σ H fun vs H1 => sp (vs ++ []) H1 Q E
  have e : (fun vs H1 => sp (vs ++ []) H1 Q E) = fun (vs : List V) H1 => sp vs H1 Q E := by
    funext vs H1
    rw [List.append_nil]
  rw [e]
  exact q
theorem r_bm {T : String} {f : V → List V → Hp → VK → Prop} (q : ta σ H fun x H1 => tyV K T x H1 ∧ tA σ H1 fun xs H2 => f x xs H2 Q) : tBM K T f ta tA σ H Q := q
theorem r_bm0 {T : String} {f : V → List V → Hp → VK → Prop} (q : ta σ H fun x H1 => tyV K T x H1 ∧ f x [] H1 Q) : tBM0 K T f ta σ H Q := q
theorem r_tys {z : Str} {P : Prop} (q : P) : tyV K "str" (.str z) H ∧ P := ⟨rfl, q⟩
theorem r_tyl {p : Addr} {xs : List V} {P : Prop} (h : H p = some (.lst xs)) (q : P) : tyV K "list" (.ref p) H ∧ P := ⟨.inl ⟨rfl, xs, SqL.of h⟩, q⟩
theorem r_sl {f : V → Option Int → Option Int → Hp → VK → Prop} {tl th : TO} (q : te σ H fun x H1 => tl σ H1 fun l H2 => th σ H2 fun h H3 => f x l h H3 Q) : tSl f te tl th σ H Q := q
theorem r_part {QO : Option Int → Hp → Prop} (q : te σ H fun x H1 => iq x fun n => QO (some n) H1) : tPart te σ H QO := q
theorem r_nopart {QO : Option Int → Hp → Prop} (q : QO none H) : tNoPart σ H QO := q
/-! values -/
theorem r_addI {n m : Int} (q : Q (.int (n + m)) H) : uAdd K (.int n) (.int m) H Q := q
theorem r_addS {a b : Str} (h : a.length + b.length ≤ sizeLine) (q : Q (.str (a ++ b)) H) : uAdd K (.str a) (.str b) H Q := ⟨h, q⟩
theorem r_addT {a b : Addr} {xs ys : List V} (ha : H a = some (.tup xs)) (hb : H b = some (.tup ys)) (hl : xs.length + ys.length ≤ sizeLine) (k : ∀ p H', Same H H' → H' p = some (.tup (xs ++ ys)) → Q (.ref p) H') : uAdd K (.ref a) (.ref b) H Q := by
  refine .inr ⟨a, b, xs, ys, rfl, rfl, SqT.of ha, SqT.of hb, hl, fun e => ?_, fun _ e => ?_, fun _ _ p np => k p _ (same_new np) upd_same⟩
  · exact k b H (Same.refl H) (by rw [e, List.nil_append]; exact hb)
  · exact k a H (Same.refl H) (by rw [e, List.append_nil]; exact ha)
theorem r_addL {a b : Addr} {xs ys : List V} (ha : H a = some (.lst xs)) (hb : H b = some (.lst ys)) (hl : xs.length + ys.length ≤ sizeLine) (k : ∀ p H', H p = none → Same H H' → H' p = some (.lst (xs ++ ys)) → Q (.ref p) H') : uAdd K (.ref a) (.ref b) H Q :=
  .inl ⟨a, b, xs, ys, rfl, rfl, ha, hb, hl, fun p np => k p _ np (same_new np) upd_same⟩
theorem r_I {C : Int → Int → Prop} {g : Int → Int → V} {n m : Int} (h : C n m) (q : Q (g n m) H) : uI C g (.int n) (.int m) H Q := ⟨h, q⟩
theorem r_I0 {g : Int → Int → V} {n m : Int} (q : Q (g n m) H) : uI0 g (.int n) (.int m) H Q := q
theorem r_mulI {n m : Int} (h : CMul n m) (q : Q (.int (n * m)) H) : uMul (.int n) (.int m) H Q := ⟨h, q⟩
theorem r_mulL {a : Addr} {n : Int} {xs : List V} (ha : H a = some (.lst xs)) (h0 : -(2 ^ 63) ≤ n) (h1 : n < 2 ^ 63) (hl : xs.length * n.toNat ≤ sizeLine) (k : ∀ p H', H p = none → Same H H' → H' p = some (.lst (List.replicate n.toNat xs).flatten) → Q (.ref p) H') : uMul (.ref a) (.int n) H Q :=
  ⟨a, n, xs, rfl, rfl, ha, h0, h1, hl, fun p np => k p _ np (same_new np) upd_same⟩
theorem r_eqI {n m : Int} (q : Q (.bl (decide (n = m))) H) : uEq K (.int n) (.int m) H Q := q
theorem r_eqS {n m : Str} (q : Q (.bl (decide (n = m))) H) : uEq K (.str n) (.str m) H Q := q
theorem r_neI {n m : Int} (q : Q (.bl (!decide (n = m))) H) : uNe K (.int n) (.int m) H Q := q
theorem r_neS {n m : Str} (q : Q (.bl (!decide (n = m))) H) : uNe K (.str n) (.str m) H Q := q
theorem r_eqB {n m : Bool} (q : Q (.bl (decide (V.bl n = V.bl m))) H) : uEq K (.bl n) (.bl m) H Q := .inl ⟨rfl, q⟩
theorem r_eqD {a : Addr} {y : V} {d f : PyData} (hx : Dq H (.ref a) d) (hy : Dq H y f) (sd : SeqAt.shaped d = true) (sf : SeqAt.shaped f = true) (q : Q (.bl (PyData.eqv d f)) H) : uEq K (.ref a) y H Q := by
  have z : rEqD K (.ref a) y H Q := ⟨d, f, hx.dp, hy.dp, sd, sf, q⟩
  cases y <;> exact .inr z
theorem r_eqD2 {a : Addr} {x : V} {d f : PyData} (hx : Dq H x d) (hy : Dq H (.ref a) f) (sd : SeqAt.shaped d = true) (sf : SeqAt.shaped f = true) (q : Q (.bl (PyData.eqv d f)) H) : uEq K x (.ref a) H Q := by
  have z : rEqD K x (.ref a) H Q := ⟨d, f, hx.dp, hy.dp, sd, sf, q⟩
  cases x <;> exact .inr z
theorem r_neD {a : Addr} {y : V} {d f : PyData} (hx : Dq H (.ref a) d) (hy : Dq H y f) (sd : SeqAt.shaped d = true) (sf : SeqAt.shaped f = true) (q : Q (.bl (!PyData.eqv d f)) H) : uNe K (.ref a) y H Q := by
  have z : rNeD K (.ref a) y H Q := ⟨d, f, hx.dp, hy.dp, sd, sf, q⟩
  cases y <;> exact .inr z
theorem r_neD2 {a : Addr} {x : V} {d f : PyData} (hx : Dq H x d) (hy : Dq H (.ref a) f) (sd : SeqAt.shaped d = true) (sf : SeqAt.shaped f = true) (q : Q (.bl (!PyData.eqv d f)) H) : uNe K x (.ref a) H Q := by
  have z : rNeD K x (.ref a) H Q := ⟨d, f, hx.dp, hy.dp, sd, sf, q⟩
  cases x <;> exact .inr z
theorem r_isN (q : Q (.bl (decide (x = .non))) H) : uIs x .non H Q := q
theorem r_isB {a b : Bool} (q : Q (.bl (decide (a = b))) H) : uIs (.bl a) (.bl b) H Q := q
theorem r_isnotN (q : Q (.bl (!decide (x = .non))) H) : uIsNot x .non H Q := q
theorem r_isnotB {a b : Bool} (q : Q (.bl (!decide (a = b))) H) : uIsNot (.bl a) (.bl b) H Q := q
theorem r_inS {a b : Str} (q : Q (.bl (occ a b)) H) : uIn K (.str a) (.str b) H Q := q
theorem r_notinS {a b : Str} (q : Q (.bl (!occ a b)) H) : uNotIn K (.str a) (.str b) H Q := q
theorem r_inT {p : Addr} {xs : List V} (h : H p = some (.tup xs)) (hx : flatV x = true) (ha : xs.all flatV = true) (q : Q (.bl (inV x xs)) H) : uIn K x (.ref p) H Q := .inl ⟨p, xs, rfl, .inr (SqT.of h), hx, ha, q⟩
theorem r_inL {p : Addr} {xs : List V} (h : H p = some (.lst xs)) (hx : flatV x = true) (ha : xs.all flatV = true) (q : Q (.bl (inV x xs)) H) : uIn K x (.ref p) H Q := .inl ⟨p, xs, rfl, .inl (SqL.of h), hx, ha, q⟩
theorem r_notinT {p : Addr} {xs : List V} (h : H p = some (.tup xs)) (hx : flatV x = true) (ha : xs.all flatV = true) (q : Q (.bl (!inV x xs)) H) : uNotIn K x (.ref p) H Q := .inl ⟨p, xs, rfl, .inr (SqT.of h), hx, ha, q⟩
theorem r_lenS {z : Str} (h : z.length ≤ sizeLine) (q : Q (.int z.length) H) : uLen K [.str z] H Q := ⟨h, q⟩
theorem r_lenT {p : Addr} {xs : List V} (h : H p = some (.tup xs)) (q : Q (.int xs.length) H) : uLen K [.ref p] H Q := ⟨xs.length, .inr ⟨xs, SqT.of h, rfl⟩, q⟩
theorem r_lenL {p : Addr} {xs : List V} (h : SqL K H p xs) (q : Q (.int xs.length) H) : uLen K [.ref p] H Q := ⟨xs.length, .inl ⟨xs, h, rfl⟩, q⟩
theorem r_intI {n : Int} (q : Q (.int n) H) : uInt [.int n] H Q := q
theorem r_intB {b : Bool} (q : Q (.int (if b then 1 else 0)) H) : uInt [.bl b] H Q := q
theorem r_tupleL {p : Addr} {xs : List V} (h : H p = some (.lst xs)) (k : ∀ p H', H p = none → Same H H' → H' p = some (.tup xs) → Q (.ref p) H') : uTuple K [.ref p] H Q := ⟨xs, .inl ⟨SqL.of h, r_new0 k⟩⟩
theorem r_tupleT {p : Addr} {xs : List V} (h : H p = some (.tup xs)) (q : Q (.ref p) H) : uTuple K [.ref p] H Q := ⟨xs, .inr ⟨SqT.of h, q⟩⟩
theorem r_listT {p : Addr} {xs : List V} (h : H p = some (.tup xs)) (k : ∀ p H', H p = none → Same H H' → H' p = some (.lst xs) → Q (.ref p) H') : uList K [.ref p] H Q := ⟨xs, .inr (SqT.of h), r_new0 k⟩
theorem r_listL {p : Addr} {xs : List V} (h : H p = some (.lst xs)) (k : ∀ p H', H p = none → Same H H' → H' p = some (.lst xs) → Q (.ref p) H') : uList K [.ref p] H Q := ⟨xs, .inl (SqL.of h), r_new0 k⟩
theorem r_isi {n m : String} {b : Bool} (h : tyN H x = some n) (hk : kitB n m = some b) (q : Q (.bl b) H) : uIsi K [x, .ty m] H Q := ⟨n, b, h, hk, q⟩
theorem tyN_t {p : Addr} {xs : List V} (h : H p = some (.tup xs)) : tyN H (.ref p) = some "tuple" := by
  show tyO (H p) = some "tuple"
  rw [h] <;> rfl
theorem tyN_l {p : Addr} {xs : List V} (h : H p = some (.lst xs)) : tyN H (.ref p) = some "list" := by
  show tyO (H p) = some "list"
  rw [h] <;> rfl
theorem r_ixT {p : Addr} {xs : List V} {n : Int} (h : H p = some (.tup xs)) (ha : atI xs n = some v) (q : Q v H) : uIx K (.ref p) (.int n) H Q := ⟨xs, v, .inr (SqT.of h), ha, q⟩
theorem r_ixL {p : Addr} {xs : List V} {n : Int} (h : SqL K H p xs) (ha : atI xs n = some v) (q : Q v H) : uIx K (.ref p) (.int n) H Q := ⟨xs, v, .inl h, ha, q⟩
theorem r_slS {z : Str} {lo hi : Option Int} (h : z.length ≤ sizeLine) (q : Q (.str (cutS z lo hi)) H) : uSl K (.str z) lo hi H Q := ⟨h, q⟩
theorem r_slL {p : Addr} {xs : List V} {lo hi : Option Int} (h : H p = some (.lst xs)) (k : ∀ p H', H p = none → Same H H' → H' p = some (.lst (cutV xs lo hi)) → Q (.ref p) H') : uSl K (.ref p) lo hi H Q := .inl ⟨p, xs, rfl, SqL.of h, r_new0 k⟩
theorem r_S1 {f : Str → Str → V} {a b : Str} (q : Q (f a b) H) : uS1 f (.str a) [.str b] H Q := q
theorem r_S1l {f : Str → Str → V} {a b : Str} (h : a.length ≤ sizeLine) (q : Q (f a b) H) : uS1l f (.str a) [.str b] H Q := ⟨h, q⟩
theorem r_S0 {f : Str → V} {a : Str} (h : a.length ≤ 5592405) (q : Q (f a) H) : uS0 f (.str a) [] H Q := ⟨h, q⟩
theorem r_split {a b : Str} (hb : (b.length == 0) = false) (ha : a.length + 2 ≤ sizeLine) (k : ∀ p H', H p = none → Same H H' → H' p = some (.lst ((Txt.split a b).map V.str)) → Q (.ref p) H') : uSplit (.str a) [.str b] H Q := ⟨hb, ha, r_new0 k⟩
theorem r_join {a : Str} {p : Addr} {ys : List Str} (h : H p = some (.lst (ys.map V.str))) (hl : (ys.map (·.length)).sum + ys.length * a.length ≤ 16777216) (q : Q (.str (Txt.join a ys)) H) : uJoin K (.str a) [.ref p] H Q := ⟨ys, .inl (SqL.of h), hl, q⟩
theorem r_joinT {a : Str} {p : Addr} {ys : List Str} (h : H p = some (.tup (ys.map V.str))) (hl : (ys.map (·.length)).sum + ys.length * a.length ≤ 16777216) (q : Q (.str (Txt.join a ys)) H) : uJoin K (.str a) [.ref p] H Q := ⟨ys, .inr (SqT.of h), hl, q⟩
/-! ### statements -/
theorem r_seq (q : tS (Ends.mk (uS D) D.rt D.bk D.ct) σ H) : tSeq tS uS D σ H := q
theorem r_set (q : te σ H fun x H1 => D.nx (σ.set i (some x)) H1) : tAsg te (gName i) D σ H := q
theorem r_asg {g : TG} (q : te σ H fun x H1 => g x σ H1 D.nx) : tAsg te g D σ H := q
theorem r_gname {QG : L2.St → Hp → Prop} (q : QG (σ.set i (some v)) H) : gName i v σ H QG := q
theorem r_gsub {ts : TSet} {QG : L2.St → Hp → Prop} (q : ta σ H fun o H1 => tb σ H1 fun j H2 => ts o j v H2 fun H3 => QG σ H3) : gSub ta tb ts v σ H QG := q
theorem r_gtup {ts : TGs} {n : Nat} {QG : L2.St → Hp → Prop} {p : Addr} {xs : List V} (h : H p = some (.tup xs)) (hl : xs.length = n) (q : ts xs σ H QG) : gTup K n ts (.ref p) σ H QG := ⟨p, xs, rfl, SqT.of h, hl, q⟩
theorem r_gcons {g : TG} {ts : TGs} {xs : List V} {QG : L2.St → Hp → Prop} (q : g x σ H fun σ' H' => ts xs σ' H' QG) : gCons g ts (x :: xs) σ H QG := ⟨x, xs, rfl, q⟩
theorem r_gnil {QG : L2.St → Hp → Prop} (q : QG σ H) : gNil [] σ H QG := ⟨rfl, q⟩
/-- xs[j] = v, the place known -/
theorem r_setL {a : Addr} {n : Int} {xs : List V} {j : Nat} {Qh : Hp → Prop} (h : H a = some (.lst xs)) (hj : ixN xs.length n = some j) (k : ∀ H', H' a = some (.lst (xs.set j v)) → (∀ b, b ≠ a → H' b = H b) → Qh H') : rSetL (.ref a) (.int n) v H Qh :=
  ⟨a, xs, n, j, rfl, rfl, h, hj, k _ upd_same fun b hb => upd_ne hb⟩
theorem r_par {a b : Nat} (q : tA σ H fun vs H1 => parq a b vs σ D H1) : tPar a b tA D σ H := q
theorem r_par2 {a b : Nat} {v w : V} (q : D.nx ((σ.set a (some v)).set b (some w)) H) : parq a b [v, w] σ D H := ⟨v, w, rfl, q⟩
theorem r_drop (q : te σ H fun _ H1 => D.nx σ H1) : tDrop te D σ H := q
theorem r_ret (q : te σ H D.rt) : tRet te D σ H := q
theorem r_retN (q : D.rt .non H) : tRetN D σ H := q
theorem r_if (q : t σ H fun b H1 => if b = true then tS D σ H1 else uS D σ H1) : tIfS t tS uS D σ H := q
theorem r_next (q : D.nx σ H) : tNext D σ H := q
theorem r_break (q : D.bk σ H) : tBreak D σ H := q
theorem r_cont (q : D.ct σ H) : tCont D σ H := q
theorem r_augI {f : Int → Int → Int} {n : Int} (h : σ[i]? = some (some (.int n))) (q : te σ H fun y H1 => iq y fun m => D.nx (σ.set i (some (.int (f n m)))) H1) : tAug i te (ipI f) D σ H := by
  refine ⟨_, h, ?_⟩
  have e : (fun y H1 => iq y fun m => D.nx (σ.set i (some (.int (f n m)))) H1) = fun y H1 => (ipI f) (.int n) y H1 fun z H2 => D.nx (σ.set i (some z)) H2 := by
    funext y H1
    refine propext ⟨fun ⟨m, e, q⟩ => ⟨n, m, rfl, e, q⟩, fun ⟨a, b, e1, e2, q⟩ => ⟨b, e2, ?_⟩⟩
    cases e1
    exact q
  rw [← e]
  exact q
theorem r_ex1 {P : Int → Prop} {n : Int} (q : P n) : iq (.int n) P := ⟨n, rfl, q⟩
/-- xs.append(v) -/
theorem r_app {l : Addr} {xs : List V} (h : H l = some (.lst xs)) (hl : xs.length < sizeLine) (k : ∀ H', H' l = some (.lst (xs ++ [v])) → (∀ b, b ≠ l → H' b = H b) → Q .non H') : rAppend (.ref l) [v] H Q :=
  ⟨l, xs, v, rfl, rfl, h, hl, k _ upd_same fun b hb => upd_ne hb⟩
/-! ### ways -/
theorem r_ite {p A B : Prop} [Decidable p] (h1 : p → A) (h2 : ¬ p → B) : if decide p = true then A else B := by
  by_cases h : p
  · rw [if_pos (decide_eq_true h)]
    exact h1 h
  · rw [if_neg (by rw [decide_eq_false h]; exact Bool.false_ne_true)]
    exact h2 h
theorem r_iten {p A B : Prop} [Decidable p] (h1 : ¬ p → A) (h2 : p → B) : if (!decide p) = true then A else B := by
  by_cases h : p
  · rw [if_neg (by rw [decide_eq_true h]; exact Bool.false_ne_true)]
    exact h2 h
  · rw [if_pos (by rw [decide_eq_false h] <;> rfl)]
    exact h1 h
theorem r_itb {b : Bool} {A B : Prop} (h1 : b = true → A) (h2 : b = false → B) : if b = true then A else B := by
  cases b with
  | true => exact h1 rfl
  | false => exact h2 rfl
theorem r_iteT {A B : Prop} (h : A) : if true = true then A else B := h
theorem r_iteF {A B : Prop} (h : B) : if false = true then A else B := by
  rw [if_neg Bool.false_ne_true]
  exact h
theorem r_itnT {A B : Prop} (h : B) : if (!true) = true then A else B := by
  rw [if_neg (by decide)]
  exact h
theorem r_itnF {A B : Prop} (h : A) : if (!false) = true then A else B := h
end
end Dk

namespace Dk
open PySem PySem.Spec PyProof.Rows L2
theorem Drw.mono {H H' : Hp} {a : Addr} (s : Same H H') (h : Drw H a) : Drw H' a := let ⟨x, y, e⟩ := h; ⟨x, y, s _ _ e⟩
theorem same_at {H H' : Hp} {a : Addr} {o : HO} (s : Same H H') (h : H a = some o) : H' a = some o := s a o h
theorem Stp.at_ {a b : Addr} {H H' : Hp} {o : HO} (s : Stp a H H') (h : H b = some o) (n : b ≠ a) : H' b = some o := s.fr b o h n
theorem bt_ValueError : bootBuiltins "ValueError" = some (.type "ValueError") := by decide +kernel
/-- what the top leaves of built-in names: none is hidden -/
structure Bl (mg : Str → Option Value) : Prop where
  b_len : mg "len" = none
  b_int : mg "int" = none
  b_str : mg "str" = none
  b_bool : mg "bool" = none
  b_tuple : mg "tuple" = none
  b_list : mg "list" = none
  b_isinstance : mg "isinstance" = none
  b_range : mg "range" = none
  b_ord : mg "ord" = none
  b_sorted : mg "sorted" = none
  b_min : mg "min" = none
  b_max : mg "max" = none
  b_sum : mg "sum" = none
  b_all : mg "all" = none
  b_any : mg "any" = none
  b_enumerate : mg "enumerate" = none
  b_set : mg "set" = none
  b_zip : mg "zip" = none
  b_dict : mg "dict" = none
  b_reversed : mg "reversed" = none
  b_ValueError : mg "ValueError" = none
theorem r_cut {tS uS : TS} {D : Ends} {σ : L2.St} {H : Hp} (M : L2.St → Hp → Prop) (h1 : tS (Ends.mk M D.rt D.bk D.ct) σ H) (h2 : ∀ σ' H', M σ' H' → uS D σ' H') : Evl.tCut tS uS D σ H := ⟨M, h1, h2⟩
theorem atI_nn {α : Type} {xs : List α} {j : Nat} {x : α} (h : xs[j]? = some x) : atI xs (j : Int) = some x := by
  have hl := (List.getElem?_eq_some_iff.mp h).1
  unfold atI ixN
  rw [if_pos (by omega), if_pos (by omega)]
  simpa using h
theorem atI_mod {ns : List Int} (h : 0 < ns.length) (n : Int) : ∃ v, atI (ns.map V.int) (n % (ns.length : Int)) = some (.int v) := by
  have h1 : 0 ≤ n % (ns.length : Int) := Int.emod_nonneg _ (by omega)
  have h2 : n % (ns.length : Int) < ns.length := Int.emod_lt_of_pos _ (by omega)
  obtain ⟨j, hj⟩ : ∃ j : Nat, n % (ns.length : Int) = j := ⟨(n % (ns.length : Int)).toNat, by omega⟩
  rw [hj]
  have hl : j < ns.length := by omega
  exact ⟨ns[j], atI_nn (by rw [List.getElem?_map, List.getElem?_eq_getElem hl] <;> rfl)⟩
/-- a list is changed that is the law's own state -/
theorem Stp.but {a : Addr} {H H1 H2 : Hp} (s : Stp a H H1) {x y : Int} (h : H2 a = some (.lst [.int x, .int y])) (k : ∀ b, b ≠ a → H2 b = H1 b) : Stp a H H2 := by
  obtain ⟨u, v, e⟩ := s.drw
  have na : ∀ b o, H1 b = some o → (∀ xs, o ≠ .lst xs) → b ≠ a := fun b o q n z => by
    rw [z, e] at q
    exact n _ (Option.some.inj q).symm
  exact ⟨fun b o q n => by rw [k b n]; exact s.fr b o q n,
    ⟨fun b xs q => by rw [k b (na _ _ (s.gro.tup b xs q) fun _ z => by cases z)]; exact s.gro.tup b xs q, fun b o u q => by rw [k b (na _ _ (s.gro.frz b o u q) fun _ z => by cases z)]; exact s.gro.frz b o u q⟩, ⟨x, y, h⟩⟩
theorem from_ {H H' : Hp} {a : Addr} {o : HO} (h : H a = some o) (s : H a = some o → H' a = some o) : H' a = some o := s h
/-- a promise that no error is asked of: nothing leaves the def -/
theorem fnok_0 {P : Program} {w : World} {K : PySem.W.Frag} {mg : Str → Option Value} {base : Heap} {k : Nat} {f : Addr} {fd : FuncData} {ps : List Str} {sp : Sp} (F : FnOk P w K mg base (L2.CX P w) k f fd ps sp) (hE : ∀ vs H Q E, sp vs H Q E → sp vs H Q E0) :
    FnOk P w K mg base CX0 k f fd ps sp :=
  ⟨F.len, fun A outer s H args us vs Q E hr e0 hb r h => codeAny_mono (F.run A outer s H args us vs Q E0 hr e0 hb r (hE _ _ _ _ h)) fun r s' hq => by
    cases r with
    | error e =>
      obtain ⟨_, _, _, _, _, _, _, _, _, _, _, _, z⟩ := hq
      exact z.elim
    | ok fl => cases fl <;> exact hq⟩
/-! short texts -/
abbrev trS : Str := Str.ofString "Received: by "
abbrev atS : Str := Str.ofString "@"
abbrev eS : Str := Str.ofString ""
abbrev dotS : Str := Str.ofString "."
theorem trS_len : (Str.ofString "Received: by ").length = 13 := by decide +kernel
theorem atS_len : (Str.ofString "@").length = 1 := by decide +kernel
theorem eS_len : (Str.ofString "").length = 0 := by decide +kernel
theorem dotS_len : (Str.ofString ".").length = 1 := by decide +kernel
/-! isinstance of built-in values -/
theorem kit_NoneType_int : kitB "NoneType" "int" = some false := by decide +kernel
theorem kit_NoneType_bool : kitB "NoneType" "bool" = some false := by decide +kernel
theorem kit_NoneType_tuple : kitB "NoneType" "tuple" = some false := by decide +kernel
theorem kit_NoneType_str : kitB "NoneType" "str" = some false := by decide +kernel
theorem kit_NoneType_list : kitB "NoneType" "list" = some false := by decide +kernel
theorem kit_bool_int : kitB "bool" "int" = some true := by decide +kernel
theorem kit_bool_bool : kitB "bool" "bool" = some true := by decide +kernel
theorem kit_bool_tuple : kitB "bool" "tuple" = some false := by decide +kernel
theorem kit_bool_str : kitB "bool" "str" = some false := by decide +kernel
theorem kit_bool_list : kitB "bool" "list" = some false := by decide +kernel
theorem kit_int_int : kitB "int" "int" = some true := by decide +kernel
theorem kit_int_bool : kitB "int" "bool" = some false := by decide +kernel
theorem kit_int_tuple : kitB "int" "tuple" = some false := by decide +kernel
theorem kit_int_str : kitB "int" "str" = some false := by decide +kernel
theorem kit_int_list : kitB "int" "list" = some false := by decide +kernel
theorem kit_str_int : kitB "str" "int" = some false := by decide +kernel
theorem kit_str_bool : kitB "str" "bool" = some false := by decide +kernel
theorem kit_str_tuple : kitB "str" "tuple" = some false := by decide +kernel
theorem kit_str_str : kitB "str" "str" = some true := by decide +kernel
theorem kit_str_list : kitB "str" "list" = some false := by decide +kernel
theorem kit_list_int : kitB "list" "int" = some false := by decide +kernel
theorem kit_list_bool : kitB "list" "bool" = some false := by decide +kernel
theorem kit_list_tuple : kitB "list" "tuple" = some false := by decide +kernel
theorem kit_list_str : kitB "list" "str" = some false := by decide +kernel
theorem kit_list_list : kitB "list" "list" = some true := by decide +kernel
theorem kit_tuple_int : kitB "tuple" "int" = some false := by decide +kernel
theorem kit_tuple_bool : kitB "tuple" "bool" = some false := by decide +kernel
theorem kit_tuple_tuple : kitB "tuple" "tuple" = some true := by decide +kernel
theorem kit_tuple_str : kitB "tuple" "str" = some false := by decide +kernel
theorem kit_tuple_list : kitB "tuple" "list" = some false := by decide +kernel
/-! promises by the number of the arguments -/
def sp1 (f : V → Hp → VK → XK → Prop) : Sp := fun vs H Q E => match vs with
  | [v0] => f v0 H Q E
  | _ => False
theorem sp1_ex {f : V → Hp → VK → XK → Prop} {vs : List V} {H : Hp} {Q : VK} {E : XK} (h : sp1 f vs H Q E) : ∃ v0, vs = [v0] ∧ f v0 H Q E := by
  match vs, h with
  | [v0], h => exact ⟨_, rfl, h⟩
theorem sp1_len {f : V → Hp → VK → XK → Prop} {vs : List V} {H : Hp} {Q : VK} {E : XK} (h : sp1 f vs H Q E) : vs.length = 1 := by
  match vs, h with
  | [v0], h => rfl
def sp2 (f : V → V → Hp → VK → XK → Prop) : Sp := fun vs H Q E => match vs with
  | [v0, v1] => f v0 v1 H Q E
  | _ => False
theorem sp2_ex {f : V → V → Hp → VK → XK → Prop} {vs : List V} {H : Hp} {Q : VK} {E : XK} (h : sp2 f vs H Q E) : ∃ v0 v1, vs = [v0, v1] ∧ f v0 v1 H Q E := by
  match vs, h with
  | [v0, v1], h => exact ⟨_, _, rfl, h⟩
theorem sp2_len {f : V → V → Hp → VK → XK → Prop} {vs : List V} {H : Hp} {Q : VK} {E : XK} (h : sp2 f vs H Q E) : vs.length = 2 := by
  match vs, h with
  | [v0, v1], h => rfl
def sp3 (f : V → V → V → Hp → VK → XK → Prop) : Sp := fun vs H Q E => match vs with
  | [v0, v1, v2] => f v0 v1 v2 H Q E
  | _ => False
theorem sp3_ex {f : V → V → V → Hp → VK → XK → Prop} {vs : List V} {H : Hp} {Q : VK} {E : XK} (h : sp3 f vs H Q E) : ∃ v0 v1 v2, vs = [v0, v1, v2] ∧ f v0 v1 v2 H Q E := by
  match vs, h with
  | [v0, v1, v2], h => exact ⟨_, _, _, rfl, h⟩
theorem sp3_len {f : V → V → V → Hp → VK → XK → Prop} {vs : List V} {H : Hp} {Q : VK} {E : XK} (h : sp3 f vs H Q E) : vs.length = 3 := by
  match vs, h with
  | [v0, v1, v2], h => rfl
def sp4 (f : V → V → V → V → Hp → VK → XK → Prop) : Sp := fun vs H Q E => match vs with
  | [v0, v1, v2, v3] => f v0 v1 v2 v3 H Q E
  | _ => False
theorem sp4_ex {f : V → V → V → V → Hp → VK → XK → Prop} {vs : List V} {H : Hp} {Q : VK} {E : XK} (h : sp4 f vs H Q E) : ∃ v0 v1 v2 v3, vs = [v0, v1, v2, v3] ∧ f v0 v1 v2 v3 H Q E := by
  match vs, h with
  | [v0, v1, v2, v3], h => exact ⟨_, _, _, _, rfl, h⟩
theorem sp4_len {f : V → V → V → V → Hp → VK → XK → Prop} {vs : List V} {H : Hp} {Q : VK} {E : XK} (h : sp4 f vs H Q E) : vs.length = 4 := by
  match vs, h with
  | [v0, v1, v2, v3], h => rfl
def sp5 (f : V → V → V → V → V → Hp → VK → XK → Prop) : Sp := fun vs H Q E => match vs with
  | [v0, v1, v2, v3, v4] => f v0 v1 v2 v3 v4 H Q E
  | _ => False
theorem sp5_ex {f : V → V → V → V → V → Hp → VK → XK → Prop} {vs : List V} {H : Hp} {Q : VK} {E : XK} (h : sp5 f vs H Q E) : ∃ v0 v1 v2 v3 v4, vs = [v0, v1, v2, v3, v4] ∧ f v0 v1 v2 v3 v4 H Q E := by
  match vs, h with
  | [v0, v1, v2, v3, v4], h => exact ⟨_, _, _, _, _, rfl, h⟩
theorem sp5_len {f : V → V → V → V → V → Hp → VK → XK → Prop} {vs : List V} {H : Hp} {Q : VK} {E : XK} (h : sp5 f vs H Q E) : vs.length = 5 := by
  match vs, h with
  | [v0, v1, v2, v3, v4], h => rfl
def sp6 (f : V → V → V → V → V → V → Hp → VK → XK → Prop) : Sp := fun vs H Q E => match vs with
  | [v0, v1, v2, v3, v4, v5] => f v0 v1 v2 v3 v4 v5 H Q E
  | _ => False
theorem sp6_ex {f : V → V → V → V → V → V → Hp → VK → XK → Prop} {vs : List V} {H : Hp} {Q : VK} {E : XK} (h : sp6 f vs H Q E) : ∃ v0 v1 v2 v3 v4 v5, vs = [v0, v1, v2, v3, v4, v5] ∧ f v0 v1 v2 v3 v4 v5 H Q E := by
  match vs, h with
  | [v0, v1, v2, v3, v4, v5], h => exact ⟨_, _, _, _, _, _, rfl, h⟩
theorem sp6_len {f : V → V → V → V → V → V → Hp → VK → XK → Prop} {vs : List V} {H : Hp} {Q : VK} {E : XK} (h : sp6 f vs H Q E) : vs.length = 6 := by
  match vs, h with
  | [v0, v1, v2, v3, v4, v5], h => rfl
def sp7 (f : V → V → V → V → V → V → V → Hp → VK → XK → Prop) : Sp := fun vs H Q E => match vs with
  | [v0, v1, v2, v3, v4, v5, v6] => f v0 v1 v2 v3 v4 v5 v6 H Q E
  | _ => False
theorem sp7_ex {f : V → V → V → V → V → V → V → Hp → VK → XK → Prop} {vs : List V} {H : Hp} {Q : VK} {E : XK} (h : sp7 f vs H Q E) : ∃ v0 v1 v2 v3 v4 v5 v6, vs = [v0, v1, v2, v3, v4, v5, v6] ∧ f v0 v1 v2 v3 v4 v5 v6 H Q E := by
  match vs, h with
  | [v0, v1, v2, v3, v4, v5, v6], h => exact ⟨_, _, _, _, _, _, _, rfl, h⟩
theorem sp7_len {f : V → V → V → V → V → V → V → Hp → VK → XK → Prop} {vs : List V} {H : Hp} {Q : VK} {E : XK} (h : sp7 f vs H Q E) : vs.length = 7 := by
  match vs, h with
  | [v0, v1, v2, v3, v4, v5, v6], h => rfl
def sp8 (f : V → V → V → V → V → V → V → V → Hp → VK → XK → Prop) : Sp := fun vs H Q E => match vs with
  | [v0, v1, v2, v3, v4, v5, v6, v7] => f v0 v1 v2 v3 v4 v5 v6 v7 H Q E
  | _ => False
theorem sp8_ex {f : V → V → V → V → V → V → V → V → Hp → VK → XK → Prop} {vs : List V} {H : Hp} {Q : VK} {E : XK} (h : sp8 f vs H Q E) : ∃ v0 v1 v2 v3 v4 v5 v6 v7, vs = [v0, v1, v2, v3, v4, v5, v6, v7] ∧ f v0 v1 v2 v3 v4 v5 v6 v7 H Q E := by
  match vs, h with
  | [v0, v1, v2, v3, v4, v5, v6, v7], h => exact ⟨_, _, _, _, _, _, _, _, rfl, h⟩
theorem sp8_len {f : V → V → V → V → V → V → V → V → Hp → VK → XK → Prop} {vs : List V} {H : Hp} {Q : VK} {E : XK} (h : sp8 f vs H Q E) : vs.length = 8 := by
  match vs, h with
  | [v0, v1, v2, v3, v4, v5, v6, v7], h => rfl
def sp9 (f : V → V → V → V → V → V → V → V → V → Hp → VK → XK → Prop) : Sp := fun vs H Q E => match vs with
  | [v0, v1, v2, v3, v4, v5, v6, v7, v8] => f v0 v1 v2 v3 v4 v5 v6 v7 v8 H Q E
  | _ => False
theorem sp9_ex {f : V → V → V → V → V → V → V → V → V → Hp → VK → XK → Prop} {vs : List V} {H : Hp} {Q : VK} {E : XK} (h : sp9 f vs H Q E) : ∃ v0 v1 v2 v3 v4 v5 v6 v7 v8, vs = [v0, v1, v2, v3, v4, v5, v6, v7, v8] ∧ f v0 v1 v2 v3 v4 v5 v6 v7 v8 H Q E := by
  match vs, h with
  | [v0, v1, v2, v3, v4, v5, v6, v7, v8], h => exact ⟨_, _, _, _, _, _, _, _, _, rfl, h⟩
theorem sp9_len {f : V → V → V → V → V → V → V → V → V → Hp → VK → XK → Prop} {vs : List V} {H : Hp} {Q : VK} {E : XK} (h : sp9 f vs H Q E) : vs.length = 9 := by
  match vs, h with
  | [v0, v1, v2, v3, v4, v5, v6, v7, v8], h => rfl
def sp10 (f : V → V → V → V → V → V → V → V → V → V → Hp → VK → XK → Prop) : Sp := fun vs H Q E => match vs with
  | [v0, v1, v2, v3, v4, v5, v6, v7, v8, v9] => f v0 v1 v2 v3 v4 v5 v6 v7 v8 v9 H Q E
  | _ => False
theorem sp10_ex {f : V → V → V → V → V → V → V → V → V → V → Hp → VK → XK → Prop} {vs : List V} {H : Hp} {Q : VK} {E : XK} (h : sp10 f vs H Q E) : ∃ v0 v1 v2 v3 v4 v5 v6 v7 v8 v9, vs = [v0, v1, v2, v3, v4, v5, v6, v7, v8, v9] ∧ f v0 v1 v2 v3 v4 v5 v6 v7 v8 v9 H Q E := by
  match vs, h with
  | [v0, v1, v2, v3, v4, v5, v6, v7, v8, v9], h => exact ⟨_, _, _, _, _, _, _, _, _, _, rfl, h⟩
theorem sp10_len {f : V → V → V → V → V → V → V → V → V → V → Hp → VK → XK → Prop} {vs : List V} {H : Hp} {Q : VK} {E : XK} (h : sp10 f vs H Q E) : vs.length = 10 := by
  match vs, h with
  | [v0, v1, v2, v3, v4, v5, v6, v7, v8, v9], h => rfl
end Dk

/-! Comprehensions and loops whose turns draw; texts as lists of codes. -/
namespace Dk
open PySem PySem.Spec PyProof.Rows L2 TL
section
variable {K : PySem.W.Frag} {σ : L2.St} {H : Hp} {Q : VK} {te : TE} {tt : TT} {vs : List Nat} {j : Nat} {tA : TA} {a : Addr}
theorem r_tyes {QB : Bool → Hp → Prop} (q : QB true H) : tYes σ H QB := q
/-- [e for j in range(n)], n known -/
def rlq (xs : List V) (j : Nat) (tt : TT) (te : TE) (vs : List Nat) (σ : L2.St) (H : Hp) (Q : VK) : Prop := tLc (iRng1 fun _ H1 QA => QA xs H1) (gName j) tt te vs σ H Q
theorem r_lcr (q : tA σ H fun xs H1 => rlq xs j tt te vs σ H1 Q) : tLc (iRng1 tA) (gName j) tt te vs σ H Q := q
theorem Dqs.all_strs {H : Hp} {P : Str → Prop} : ∀ {ds : List PyData} {ys : List V}, Dqs H ys ds → (∀ (i : Nat) d, ds[i]? = some d → ∃ s, d = PyData.str s ∧ P s) → ∃ ss : List Str, ys = ss.map V.str ∧ ss.length = ds.length ∧ ∀ s ∈ ss, P s
  | [], _, h, _ => by
    cases h
    exact ⟨[], rfl, rfl, fun _ z => nomatch z⟩
  | d :: ds, _, h, hp => by
    cases h with
    | cons h1 h2 =>
      obtain ⟨s, e, p⟩ := hp 0 d rfl
      subst e
      cases h1
      obtain ⟨ss, e1, e2, e3⟩ := Dqs.all_strs h2 fun i d q => hp (i + 1) d (by simpa using q)
      refine ⟨s :: ss, by rw [e1] <;> rfl, by simp [e2], fun z hz => ?_⟩
      rcases List.mem_cons.mp hz with e | hz
      · rw [e]
        exact p
      · exact e3 z hz
/-- each turn draws and gives a datum -/
theorem lcr_draw {n : Int} (PP : Nat → PyData → Prop) (hd : Drw H a) (h1 : -(2 ^ 62) ≤ n) (h2 : n < 10000000) (hw : ∀ x, wipe ((wipe σ vs).set j (some x)) vs = wipe σ vs)
    (el : ∀ (i : Nat) (H1 : Hp) (Q1 : VK), (i : Int) < n → Stp a H H1 → (∀ y d H2, Stp a H1 H2 → Dq H2 y d → PP i d → Q1 y H2) → te ((wipe σ vs).set j (some (.int i))) H1 Q1)
    (k : ∀ D H' ys ds, H D = none → Stp a H H' → H' D = some (.lst ys) → Dqs H' ys ds → ds.length = n.toNat → (∀ (i : Nat) d, ds[i]? = some d → PP i d) → Q (.ref D) H') : rlq [.int n] j tYes te vs σ H Q := by
  refine ⟨n, rfl, h1, by omega, fun D hD => ?_⟩
  have aD : a ≠ D := by
    intro e
    obtain ⟨u, v, q⟩ := hd
    rw [e, hD] at q
    cases q
  refine lc_range (lo := 0) (n := n.toNat) (fun i H' => ∃ ys ds, Stp a H H' ∧ H' D = some (.lst ys) ∧ Dqs H' ys ds ∧ ds.length = i ∧ ∀ (i : Nat) d, ds[i]? = some d → PP i d) ?_ ?_ ?_
  · exact ⟨[], [], (Stp.refl hd).new hD hd, upd_same, .nil, rfl, fun i d e => by simp at e⟩
  · rintro i H' hi ⟨ys, ds, s1, hl, dq, el1, pp⟩
    have e0 : (0 : Int) + (i : Int) = (i : Int) := Int.zero_add _
    rw [e0]
    refine ⟨hw _, r_tyes (r_iteT ?_)⟩
    refine el i H' _ (by omega) s1 fun y d H2 s2 hy p => ?_
    have s12 := s1.trans s2
    refine ⟨ys, s2.at_ hl (Ne.symm aD), ?_, ?_⟩
    · have hlen := dq.length
      rw [sizeLine_eq]
      omega
    · have s3 : Stp a H (upd H2 D (.lst (ys ++ [y]))) := s12.new hD hd
      have g : Gro H2 (upd H2 D (.lst (ys ++ [y]))) := by
        have hD2 : H2 D = some (.lst ys) := s2.at_ hl (Ne.symm aD)
        refine ⟨fun b xs e => ?_, fun b o u e => ?_⟩
        · rw [upd_ne (ne_of e hD2 (by intro z; cases z))]
          exact e
        · rw [upd_ne (ne_of e hD2 (by intro z; cases z))]
          exact e
      refine ⟨ys ++ [y], ds ++ [d], s3, upd_same, ((dq.mono (s2.gro)).snoc hy).mono g, by simp [el1], fun i' d' e => ?_⟩
      rw [List.getElem?_append] at e
      split at e
      · exact pp i' d' e
      · rename_i hge
        have hi' : i' - ds.length = 0 := by
          cases hh : i' - ds.length with
          | zero => rfl
          | succ m =>
            rw [hh] at e
            simp at e
        rw [hi'] at e
        simp only [List.getElem?_cons_zero, Option.some.injEq] at e
        have hii : i' = i := by omega
        rw [hii, ← e]
        exact p
  · rintro H' ⟨ys, ds, s1, hl, dq, el1, pp⟩
    exact k D H' ys ds hD s1 hl dq el1 pp
end
section
variable {K : PySem.W.Frag} {σ : L2.St} {H : Hp} {Q : VK} {te tl' : TE} {tt : TT} {vs : List Nat} {j : Nat} {tA : TA} {tb : TS} {D : Ends} {g : TG} {x : V}
/-- for j in range(n) -/
def rfq (xs : List V) (g : TG) (tb : TS) (D : Ends) (σ : L2.St) (H : Hp) : Prop := tFor (iRng1 fun _ H1 QA => QA xs H1) g tb D σ H
theorem r_forr (q : tA σ H fun xs H1 => rfq xs g tb D σ H1) : tFor (iRng1 tA) g tb D σ H := q
theorem for_rng {n : Int} (Pv : Nat → L2.St → Hp → Prop) (h1 : -(2 ^ 62) ≤ n) (h2 : n < 2 ^ 62) (h0 : Pv 0 σ H)
    (hs : ∀ (i : Nat) σ' H', (i : Int) < n → Pv i σ' H' → tb (Ends.mk (Pv (i + 1)) D.rt D.nx (Pv (i + 1))) (σ'.set j (some (.int i))) H') (hd : ∀ σ' H', Pv n.toNat σ' H' → D.nx σ' H') : rfq [.int n] (gName j) tb D σ H := by
  refine ⟨n, rfl, h1, h2, for_range (lo := 0) (n := n.toNat) Pv h0 (fun i σ' H' hi hp => ?_) hd⟩
  have e0 : (0 : Int) + (i : Int) = (i : Int) := Int.zero_add _
  rw [e0]
  exact hs i σ' H' (by omega) hp
/-- for .. in a list, a tuple, a text -/
def fuq (K : PySem.W.Frag) (x : V) (g : TG) (tb : TS) (D : Ends) (σ : L2.St) (H : Hp) : Prop := tFor (iU K (tC x)) g tb D σ H
theorem r_foru (q : te σ H fun x H1 => fuq K x g tb D σ H1) : tFor (iU K te) g tb D σ H := q
theorem for_T {p : Addr} {xs : List V} (Pv : Nat → L2.St → Hp → Prop) (h : H p = some (.tup xs)) (h0 : Pv 0 σ H) (hl : ∀ i σ' H', i ≤ xs.length → Pv i σ' H' → H' p = some (.tup xs))
    (hs : ∀ (i : Nat) x σ' H', xs[i]? = some x → Pv i σ' H' → g x σ' H' fun σ2 H2 => tb (Ends.mk (Pv (i + 1)) D.rt D.nx (Pv (i + 1))) σ2 H2) (hd : ∀ σ' H', Pv xs.length σ' H' → D.nx σ' H') : fuq K (.ref p) g tb D σ H :=
  .inr ⟨⟨xs, SqT.of h⟩, for_tup (xs := xs) Pv h0 (fun i σ' H' hi q => SqT.of (hl i σ' H' hi q)) hs hd⟩
theorem for_L {p : Addr} {xs : List V} (Pv : Nat → L2.St → Hp → Prop) (h : SqL K H p xs) (h0 : Pv 0 σ H) (hl : ∀ i σ' H', i ≤ xs.length → Pv i σ' H' → SqL K H' p xs)
    (hs : ∀ (i : Nat) x σ' H', xs[i]? = some x → Pv i σ' H' → g x σ' H' fun σ2 H2 => tb (Ends.mk (Pv (i + 1)) D.rt D.nx (Pv (i + 1))) σ2 H2) (hd : ∀ σ' H', Pv xs.length σ' H' → D.nx σ' H') : fuq K (.ref p) g tb D σ H :=
  .inl ⟨⟨xs, h⟩, for_list (xs := xs) Pv h0 hl hs hd⟩
/-- [e for .. in a list, a tuple, a text] -/
def luq (K : PySem.W.Frag) (x : V) (g : TG) (tt : TT) (te : TE) (vs : List Nat) (σ : L2.St) (H : Hp) (Q : VK) : Prop := tLc (iU K (tC x)) g tt te vs σ H Q
theorem r_lcu (q : tl' σ H fun x H1 => luq K x g tt te vs σ H1 Q) : tLc (iU K tl') g tt te vs σ H Q := q
end
/-- a kind of step of the heap, from H on -/
structure Sr (H : Hp) (S : Hp → Hp → Prop) : Prop where
  refl : S H H
  trans : ∀ {H1 H2 : Hp}, S H H1 → S H1 H2 → S H H2
  gro : ∀ {H1 H2 : Hp}, S H1 H2 → Gro H1 H2
  chg : ∀ {H' : Hp} {D : Addr} {o : HO}, S H H' → H D = none → S H (upd H' D o)
  keep : ∀ {H1 H2 : Hp} {D : Addr} {o : HO}, H D = none → S H H1 → S H1 H2 → H1 D = some o → H2 D = some o
theorem sr_same (H : Hp) : Sr H Same :=
  ⟨Same.refl H, fun a b => a.trans b, fun s => Gro.same s, fun s hD b u e => by rw [upd_ne (ne_of_none e hD)]; exact s b u e, fun _ _ s h => s _ _ h⟩
theorem ne_drw {H : Hp} {a D : Addr} (hd : Drw H a) (hD : H D = none) : D ≠ a := by
  intro e
  obtain ⟨u, v, q⟩ := hd
  rw [← e, hD] at q
  cases q
theorem ne_drw' {H : Hp} {a D : Addr} (hD : H D = none) (hd : Drw H a) : D ≠ a := ne_drw hd hD
theorem sr_stp {H : Hp} {a : Addr} (hd : Drw H a) : Sr H (Stp a) :=
  ⟨Stp.refl hd, fun a b => a.trans b, fun s => s.gro, fun s hD => s.new hD hd, fun hD _ s h => s.at_ h (ne_drw hd hD)⟩
section
variable {K : PySem.W.Frag} {σ : L2.St} {H : Hp} {Q : VK} {te tl' : TE} {tt : TT} {vs : List Nat} {j : Nat} {g : TG} {J : It} {n : Nat} {G : Hp → Prop} {Y : Nat → Hp → V → Hp → Prop} {S : Hp → Hp → Prop}
theorem lc_gen (w : Walk J n G Y) (sr : Sr H S) (Rv : Nat → List PyData → Prop) (hG : ∀ H', S H H' → G H') (hn : n < 10000000) (h0 : Rv 0 [])
    (el : ∀ (i : Nat) x (H1 H1' : Hp) (ds : List PyData) (Q1 : VK) (Qn : Hp → Prop), i < n → S H H1 → Y i H1 x H1' → Rv i ds →
      (∀ y d H2, S H1 H2 → Dq H2 y d → Rv (i + 1) (ds ++ [d]) → Q1 y H2) → (∀ H2, S H1 H2 → Rv (i + 1) ds → Qn H2) →
      g x (wipe σ vs) H1' fun σ2 H2 => wipe σ2 vs = wipe σ vs ∧ tt σ2 H2 fun b H3 => if b = true then te σ2 H3 Q1 else Qn H3)
    (k : ∀ D H' ys ds, H D = none → S H H' → H' D = some (.lst ys) → Dqs H' ys ds → Rv n ds → Q (.ref D) H') :
    ∀ D, H D = none → ∃ W : Nat → Nat → Hp → Prop, (∃ m, W 0 m (upd H D (.lst []))) ∧ ∀ i m H, W i m H →
      (J.stop i H ∧ Q (.ref D) H) ∨ (J.go i H ∧ ∃ Nx : Hp → Prop, (∀ H', Nx H' → ∃ m', m' < m ∧ W (i + 1) m' H') ∧ ∀ x H', J.yld i H x H' → g x (wipe σ vs) H' fun σ2 H2 => wipe σ2 vs = wipe σ vs ∧ tt σ2 H2 fun b H3 =>
        if b = true then te σ2 H3 fun y H4 => ∃ acc, H4 D = some (.lst acc) ∧ acc.length < sizeLine ∧ Nx (upd H4 D (.lst (acc ++ [y]))) else Nx H3) := by
  intro D hD
  refine lc_it w (Qd := fun H' => Q (.ref D) H') (fun i H' => ∃ ys ds, S H H' ∧ H' D = some (.lst ys) ∧ Dqs H' ys ds ∧ ds.length ≤ i ∧ Rv i ds) ?_ (fun i H' _ ⟨_, _, s, _⟩ => hG H' s) ?_ ?_
  · exact ⟨[], [], sr.chg sr.refl hD, upd_same, .nil, Nat.le_refl _, h0⟩
  · rintro i x H1 H1' hi ⟨ys, ds, s1, hl, dq, hle, rv⟩ hy
    refine el i x H1 H1' ds _ _ hi s1 hy rv (fun y d H2 s2 hyd r2 => ?_) (fun H2 s2 r2 => ?_)
    · have hD2 := sr.keep hD s1 s2 hl
      have s12 := sr.trans s1 s2
      have gg : Gro H2 (upd H2 D (.lst (ys ++ [y]))) := by
        refine ⟨fun b xs e => ?_, fun b o u e => ?_⟩
        · rw [upd_ne (ne_of e hD2 (by intro z; cases z))]
          exact e
        · rw [upd_ne (ne_of e hD2 (by intro z; cases z))]
          exact e
      have hlen := dq.length
      refine ⟨ys, hD2, by rw [sizeLine_eq]; omega, ys ++ [y], ds ++ [d], sr.chg s12 hD, upd_same, ((dq.mono (sr.gro s2)).snoc hyd).mono gg, by simp; omega, r2⟩
    · exact ⟨ys, ds, sr.trans s1 s2, sr.keep hD s1 s2 hl, dq.mono (sr.gro s2), by omega, r2⟩
  · rintro H' ⟨ys, ds, s1, hl, dq, hle, rv⟩
    exact k D H' ys ds hD s1 hl dq rv
/-- over a tuple, a list that stands: the target a name -/
theorem lc_T {p : Addr} {xs : List V} (h : H p = some (.tup xs)) (sr : Sr H S) (Rv : Nat → List PyData → Prop) (hn : xs.length < 10000000) (h0 : Rv 0 []) (hw : ∀ x, wipe ((wipe σ vs).set j (some x)) vs = wipe σ vs)
    (el : ∀ (i : Nat) x (H1 : Hp) (ds : List PyData) (Q1 : VK) (Qn : Hp → Prop), xs[i]? = some x → S H H1 → Rv i ds →
      (∀ y d H2, S H1 H2 → Dq H2 y d → Rv (i + 1) (ds ++ [d]) → Q1 y H2) → (∀ H2, S H1 H2 → Rv (i + 1) ds → Qn H2) → tt ((wipe σ vs).set j (some x)) H1 fun b H3 => if b = true then te ((wipe σ vs).set j (some x)) H3 Q1 else Qn H3)
    (k : ∀ D H' ys ds, H D = none → S H H' → H' D = some (.lst ys) → Dqs H' ys ds → Rv xs.length ds → Q (.ref D) H') : luq K (.ref p) (gName j) tt te vs σ H Q :=
  .inr ⟨⟨xs, SqT.of h⟩, lc_gen (walk_tup (xs := xs)) sr Rv (fun H' s => SqT.of ((sr.gro s).tup _ _ h)) hn h0 (fun i x H1 H1' ds Q1 Qn hi s1 hy rv k1 k2 => by
    obtain ⟨rfl, hy⟩ := hy
    exact ⟨hw x, el i x H1' ds Q1 Qn hy s1 rv k1 k2⟩) k⟩
theorem lc_L {p : Addr} {xs : List V} (h : H p = some (.lst xs)) (hk : ∀ H', S H H' → H' p = some (.lst xs)) (sr : Sr H S) (Rv : Nat → List PyData → Prop) (hn : xs.length < 10000000) (h0 : Rv 0 []) (hw : ∀ x, wipe ((wipe σ vs).set j (some x)) vs = wipe σ vs)
    (el : ∀ (i : Nat) x (H1 : Hp) (ds : List PyData) (Q1 : VK) (Qn : Hp → Prop), xs[i]? = some x → S H H1 → Rv i ds →
      (∀ y d H2, S H1 H2 → Dq H2 y d → Rv (i + 1) (ds ++ [d]) → Q1 y H2) → (∀ H2, S H1 H2 → Rv (i + 1) ds → Qn H2) → tt ((wipe σ vs).set j (some x)) H1 fun b H3 => if b = true then te ((wipe σ vs).set j (some x)) H3 Q1 else Qn H3)
    (k : ∀ D H' ys ds, H D = none → S H H' → H' D = some (.lst ys) → Dqs H' ys ds → Rv xs.length ds → Q (.ref D) H') : luq K (.ref p) (gName j) tt te vs σ H Q :=
  .inl ⟨⟨xs, SqL.of h⟩, lc_gen (walk_list (xs := xs)) sr Rv (fun H' s => SqL.of (hk H' s)) hn h0 (fun i x H1 H1' ds Q1 Qn hi s1 hy rv k1 k2 => by
    obtain ⟨rfl, hy⟩ := hy
    exact ⟨hw x, el i x H1' ds Q1 Qn hy s1 rv k1 k2⟩) k⟩
/-- over the signs of a text -/
theorem lc_S {z : Str} (sr : Sr H S) (Rv : Nat → List PyData → Prop) (hn : z.length < 10000000) (h0 : Rv 0 []) (hw : ∀ x, wipe ((wipe σ vs).set j (some x)) vs = wipe σ vs)
    (el : ∀ (i : Nat) (c : Nat) (H1 : Hp) (ds : List PyData) (Q1 : VK) (Qn : Hp → Prop), (tl z)[i]? = some c → S H H1 → Rv i ds →
      (∀ y d H2, S H1 H2 → Dq H2 y d → Rv (i + 1) (ds ++ [d]) → Q1 y H2) → (∀ H2, S H1 H2 → Rv (i + 1) ds → Qn H2) → tt ((wipe σ vs).set j (some (.str ⟨#[c]⟩))) H1 fun b H3 => if b = true then te ((wipe σ vs).set j (some (.str ⟨#[c]⟩))) H3 Q1 else Qn H3)
    (k : ∀ D H' ys ds, H D = none → S H H' → H' D = some (.lst ys) → Dqs H' ys ds → Rv z.length ds → Q (.ref D) H') : luq K (.str z) (gName j) tt te vs σ H Q :=
  lc_gen (walk_str (z := z)) sr Rv (fun H' s => trivial) hn h0 (fun i x H1 H1' ds Q1 Qn hi s1 hy rv k1 k2 => by
    obtain ⟨rfl, c, hc, rfl⟩ := hy
    exact ⟨hw _, el i c H1' ds Q1 Qn (by rw [Array.getElem?_toList]; exact hc) s1 rv k1 k2⟩) k
/-- over range(n) -/
theorem lc_R {m : Int} (sr : Sr H S) (Rv : Nat → List PyData → Prop) (h1 : -(2 ^ 62) ≤ m) (h2 : m < 10000000) (h0 : Rv 0 []) (hw : ∀ x, wipe ((wipe σ vs).set j (some x)) vs = wipe σ vs)
    (el : ∀ (i : Nat) (H1 : Hp) (ds : List PyData) (Q1 : VK) (Qn : Hp → Prop), (i : Int) < m → S H H1 → Rv i ds →
      (∀ y d H2, S H1 H2 → Dq H2 y d → Rv (i + 1) (ds ++ [d]) → Q1 y H2) → (∀ H2, S H1 H2 → Rv (i + 1) ds → Qn H2) → tt ((wipe σ vs).set j (some (.int i))) H1 fun b H3 => if b = true then te ((wipe σ vs).set j (some (.int i))) H3 Q1 else Qn H3)
    (k : ∀ D H' ys ds, H D = none → S H H' → H' D = some (.lst ys) → Dqs H' ys ds → Rv m.toNat ds → Q (.ref D) H') : rlq [.int m] j tt te vs σ H Q :=
  ⟨m, rfl, h1, by omega, lc_gen (walk_range (lo := 0) (n := m.toNat)) sr Rv (fun H' s => trivial) (by omega) h0 (fun i x H1 H1' ds Q1 Qn hi s1 hy rv k1 k2 => by
    obtain ⟨rfl, rfl⟩ := hy
    have e0 : (0 : Int) + (i : Int) = (i : Int) := Int.zero_add _
    show gName j (V.int ((0 : Int) + (i : Int))) (wipe σ vs) H1' _
    rw [e0]
    exact ⟨hw _, el i H1' ds Q1 Qn (by omega) s1 rv k1 k2⟩) k⟩
end
theorem atI_get {α : Type} {xs : List α} {d : Int} (h0 : 0 ≤ d) (h1 : d < xs.length) : ∃ v, atI xs d = some v ∧ v ∈ xs := by
  obtain ⟨j, rfl⟩ : ∃ j : Nat, d = j := ⟨d.toNat, by omega⟩
  have hj : j < xs.length := by omega
  exact ⟨xs[j], atI_nn (List.getElem?_eq_getElem hj), List.getElem_mem hj⟩
/-! ### texts as lists of codes -/
theorem len_cut0 {z : Str} {n : Nat} : (cutS z none (some (n : Int))).length ≤ n := by
  show (((z.cps.toList.drop 0).take (HT.sIx z.length z.length (some (n : Int)) - 0)).toArray).size ≤ n
  rw [List.size_toArray, List.length_take]
  have : HT.sIx z.length z.length (some (n : Int)) ≤ n := by
    unfold HT.sIx
    simp only
    split <;> omega
  omega
theorem cut_one {z : Str} {d : Int} (h0 : 0 ≤ d) (h1 : d < z.length) : ∃ c, c ∈ tl z ∧ cutS z (some d) (some (d + 1)) = ⟨#[c]⟩ := by
  obtain ⟨n, rfl⟩ : ∃ n : Nat, d = n := ⟨d.toNat, by omega⟩
  have hn : n < (tl z).length := by rw [← len_tl]; omega
  refine ⟨(tl z)[n], List.getElem_mem hn, ?_⟩
  have e1 : HT.sIx z.length 0 (some (n : Int)) = n := by rw [HT.sIx_nat]; rw [len_tl] at *; omega
  have e2 : HT.sIx z.length z.length (some ((n : Int) + 1)) = n + 1 := by
    rw [show (n : Int) + 1 = ((n + 1 : Nat) : Int) by omega, HT.sIx_nat]
    rw [len_tl] at *
    omega
  unfold cutS
  rw [e1, e2]
  have e3 : ((tl z).drop n).take (n + 1 - n) = [(tl z)[n]] := by
    rw [show n + 1 - n = 1 by omega, List.drop_eq_getElem_cons hn]
    rfl
  show (⟨(((tl z).drop n).take (n + 1 - n)).toArray⟩ : Str) = _
  rw [e3] <;> rfl
/-- a text of signs of S, between lo and hi of them -/
structure Wrd (S : List Nat) (lo hi : Nat) (s : Str) : Prop where
  lo : lo ≤ (tl s).length
  hi : (tl s).length ≤ hi
  sg : ∀ c ∈ tl s, c ∈ S
theorem Wrd.len {S : List Nat} {lo hi : Nat} {s : Str} (h : Wrd S lo hi s) : s.length ≤ hi := by rw [len_tl]; exact h.hi
theorem joinL_nil : ∀ parts : List (List Nat), joinL [] parts = parts.flatten
  | [] => rfl
  | [p] => by simp [joinL]
  | p :: q :: r => by
    show p ++ ([] ++ joinL [] (q :: r)) = (p :: q :: r).flatten
    rw [joinL_nil (q :: r)]
    simp
theorem tl_join0 (parts : List Str) : tl (Txt.join (Str.ofString "") parts) = (parts.map tl).flatten := by
  rw [join_eq, tl_join]
  have e : tl (Str.ofString "") = [] := by decide +kernel
  rw [e, joinL_nil]
/-- signs one by one make a word -/
theorem wrd_join {S : List Nat} {n : Nat} {ss : List Str} (h : ∀ s ∈ ss, ∃ c, c ∈ S ∧ s = ⟨#[c]⟩) (hl : ss.length = n) : Wrd S n n (Txt.join (Str.ofString "") ss) := by
  subst hl
  have key : ∀ ss : List Str, (∀ s ∈ ss, ∃ c, c ∈ S ∧ s = ⟨#[c]⟩) → (ss.map tl).flatten.length = ss.length ∧ ∀ c ∈ (ss.map tl).flatten, c ∈ S := by
    intro ss
    induction ss with
    | nil => exact fun _ => ⟨rfl, fun c hc => nomatch hc⟩
    | cons s r ih =>
      intro h
      obtain ⟨c, hc, e⟩ := h s List.mem_cons_self
      obtain ⟨i1, i2⟩ := ih fun s hs => h s (List.mem_cons_of_mem _ hs)
      have et : tl s = [c] := by rw [e]
      refine ⟨by rw [List.map_cons, List.flatten_cons, List.length_append, i1, et, List.length_cons]; simp; omega, fun d hd => ?_⟩
      rw [List.map_cons, List.flatten_cons, et] at hd
      rcases List.mem_append.mp hd with hd | hd
      · rw [List.mem_singleton.mp hd]
        exact hc
      · exact i2 d hd
  obtain ⟨k1, k2⟩ := key ss h
  rw [← tl_join0] at k1 k2
  exact ⟨Nat.le_of_eq k1.symm, Nat.le_of_eq k1, k2⟩
/-- what a join of signs weighs -/
theorem sum_ones {S : List Nat} : ∀ {ss : List Str}, (∀ s ∈ ss, ∃ c, c ∈ S ∧ s = ⟨#[c]⟩) → (ss.map (·.length)).sum = ss.length
  | [], _ => rfl
  | s :: r, h => by
    obtain ⟨c, _, e⟩ := h s List.mem_cons_self
    rw [List.map_cons, List.sum_cons, sum_ones fun s hs => h s (List.mem_cons_of_mem _ hs), e, List.length_cons]
    show 1 + r.length = r.length + 1
    omega
theorem sum_le {n : Nat} : ∀ {ss : List Str}, (∀ s ∈ ss, s.length ≤ n) → (ss.map (·.length)).sum ≤ n * ss.length
  | [], _ => Nat.zero_le _
  | s :: r, h => by
    rw [List.map_cons, List.sum_cons, List.length_cons, Nat.mul_succ]
    have h1 := h s List.mem_cons_self
    have h2 := sum_le (n := n) fun s hs => h s (List.mem_cons_of_mem _ hs)
    omega
end Dk

/-! The texts that the laws draw: local parts, domains. -/
namespace Dk
open PySem PySem.Spec PyProof.Rows L2 TL
/-- what is left of a text behind rstrip of one sign -/
theorem rstrip_facts (x : Str) (c : Nat) : ∃ h, h ≤ (tl x).length ∧ tl (Txt.rstripChars x ⟨#[c]⟩) = (tl x).take h ∧ (h = 0 ∨ (tl x)[h - 1]? ≠ some c) ∧ ∀ k, h ≤ k → k < (tl x).length → (tl x)[k]? = some c := by
  have h0 : PySem.stripLo (#[c] : Array Nat).contains false x = 0 := rfl
  obtain ⟨h1, h2, h3, h4⟩ := hi_facts (#[c] : Array Nat).contains x 0 (Nat.zero_le _)
  have gc : ∀ d, (#[c] : Array Nat).contains d = true ↔ d = c := fun d => by
    rw [Array.contains_iff_mem]
    simp
  have getd : ∀ k, k < (tl x).length → (tl x)[k]? = some (x.cps.getD k 0) := fun k hk => by
    rw [← getD_list]
    rw [List.getElem?_eq_getElem hk]
    simp [List.getD, List.getElem?_eq_getElem hk]
  refine ⟨stripHi (#[c] : Array Nat).contains true x 0, by rw [← len_tl]; exact h2, ?_, ?_, fun k hk hl => ?_⟩
  · show tl (Txt.stripBy (#[c] : Array Nat).contains false true x) = _
    rw [stripBy_eq, h0, tl_strSub, List.drop_zero, Nat.sub_zero]
  · by_cases hz : stripHi (#[c] : Array Nat).contains true x 0 = 0
    · exact .inl hz
    · right
      rcases h4 with h4 | h4
      · exact absurd h4 hz
      · rw [getd _ (by rw [← len_tl]; omega)]
        intro e
        have e1 := (gc _).mpr (Option.some.inj e)
        rw [h4] at e1
        cases e1
  · rw [getd k hl]
    exact congrArg some ((gc _).mp (h3 k hk (by rw [len_tl]; exact hl)))
/-- signs of S, dots between them: none ahead (p), none behind another -/
def okL (S : List Nat) : Bool → List Nat → Bool
  | _, [] => true
  | p, c :: r => if c = 46 then !p && okL S true r else decide (c ∈ S) && okL S false r
theorem okL_take {S : List Nat} : ∀ {l : List Nat} {p : Bool} {n : Nat}, okL S p l = true → okL S p (l.take n) = true
  | [], p, n, _ => by cases n <;> rfl
  | c :: r, p, 0, _ => rfl
  | c :: r, p, n + 1, h => by
    rw [List.take_succ_cons]
    unfold okL at h ⊢
    by_cases e : c = 46
    · rw [if_pos e, Bool.and_eq_true] at h ⊢
      exact ⟨h.1, okL_take h.2⟩
    · rw [if_neg e, Bool.and_eq_true] at h ⊢
      exact ⟨h.1, okL_take h.2⟩
theorem okL_word {S : List Nat} (hS : 46 ∉ S) : ∀ {w r : List Nat} {p : Bool}, (∀ c ∈ w, c ∈ S) → w ≠ [] → okL S p (w ++ r) = okL S false r
  | [], _, _, _, h => absurd rfl h
  | c :: w, r, p, h, _ => by
    have hc := h c List.mem_cons_self
    have nc : c ≠ 46 := fun e => hS (e ▸ hc)
    have e : okL S p (c :: (w ++ r)) = okL S false (w ++ r) := by
      rw [okL, if_neg nc, decide_eq_true hc, Bool.true_and]
    show okL S p (c :: (w ++ r)) = okL S false r
    rw [e]
    cases w with
    | nil => rfl
    | cons d w => exact okL_word hS (fun c hc => h c (List.mem_cons_of_mem _ hc)) (by simp)
theorem okL_join {S : List Nat} (hS : 46 ∉ S) : ∀ {ps : List (List Nat)} {p : Bool}, (∀ w ∈ ps, w ≠ [] ∧ ∀ c ∈ w, c ∈ S) → ps ≠ [] → okL S p (joinL [46] ps) = true
  | [], _, _, h => absurd rfl h
  | [w], p, h, _ => by
    obtain ⟨h1, h2⟩ := h w List.mem_cons_self
    show okL S p w = true
    rw [← List.append_nil w, okL_word hS h2 h1] <;> rfl
  | w :: v :: r, p, h, _ => by
    obtain ⟨h1, h2⟩ := h w List.mem_cons_self
    show okL S p (w ++ ([46] ++ joinL [46] (v :: r))) = true
    rw [okL_word hS h2 h1]
    show okL S false (46 :: joinL [46] (v :: r)) = true
    unfold okL
    rw [if_pos rfl, okL_join hS (fun w hw => h w (List.mem_cons_of_mem _ hw)) (by simp)] <;> rfl
theorem okL_head {S : List Nat} {l : List Nat} (h : okL S true l = true) : l.head? ≠ some 46 := by
  cases l with
  | nil => simp
  | cons c r =>
    unfold okL at h
    intro e
    have e1 : c = 46 := by simpa using e
    rw [if_pos e1] at h
    cases h
/-- a local part -/
structure Loc1 (S : List Nat) (l : List Nat) : Prop where
  ok : okL S true l = true
  lo : 1 ≤ l.length
  hi : l.length ≤ 40
  last : l.getLast? ≠ some 46
theorem dot_eq : Str.ofString "." = ⟨#[46]⟩ := by decide +kernel
theorem tl_joinDot (parts : List Str) : tl (Txt.join (Str.ofString ".") parts) = joinL [46] (parts.map tl) := by
  rw [join_eq, tl_join]
  have e : tl (Str.ofString ".") = [46] := by decide +kernel
  rw [e]
theorem tl_cut0 (z : Str) (n : Nat) : tl (cutS z none (some (n : Int))) = (tl z).take n := by
  unfold cutS
  rw [HT.sIx_none, HT.sIx_nat, Nat.sub_zero, List.drop_zero]
  show (tl z).take (min n z.length) = (tl z).take n
  rw [len_tl, List.take_eq_take_iff]
  omega
theorem joinL_pos {S : List Nat} {ps : List (List Nat)} (h : ∀ w ∈ ps, w ≠ []) (hn : ps ≠ []) : joinL S ps ≠ [] := by
  cases ps with
  | nil => exact absurd rfl hn
  | cons w r =>
    have hw := h w List.mem_cons_self
    cases r with
    | nil => exact hw
    | cons v r =>
      show w ++ (S ++ joinL S (v :: r)) ≠ []
      simp [hw]
theorem loc_of {S : List Nat} (hS : 46 ∉ S) {parts : List Str} (h : ∀ s ∈ parts, tl s ≠ [] ∧ ∀ c ∈ tl s, c ∈ S) (hn : parts ≠ []) :
    Loc1 S (tl (Txt.rstripChars (cutS (Txt.join (Str.ofString ".") parts) none (some (40 : Int))) (Str.ofString "."))) := by
  have e40 : tl (cutS (Txt.join (Str.ofString ".") parts) none (some (40 : Int))) = (joinL [46] (parts.map tl)).take 40 := by
    rw [← tl_joinDot]
    exact tl_cut0 _ 40
  have hw : ∀ w ∈ parts.map tl, w ≠ [] ∧ ∀ c ∈ w, c ∈ S := fun w hw => by
    obtain ⟨s, hs, e⟩ := List.mem_map.mp hw
    rw [← e]
    exact h s hs
  have hne : parts.map tl ≠ [] := fun e => hn (List.map_eq_nil_iff.mp e)
  have ok : okL S true ((joinL [46] (parts.map tl)).take 40) = true := okL_take (okL_join hS hw hne)
  have pos : joinL [46] (parts.map tl) ≠ [] := joinL_pos (fun w q => (hw w q).1) hne
  generalize cutS (Txt.join (Str.ofString ".") parts) none (some (40 : Int)) = x at *
  rw [dot_eq]
  obtain ⟨k, k1, k2, k3, k4⟩ := rstrip_facts x 46
  rw [e40] at k1 k2 k3 k4
  generalize hL : (joinL [46] (parts.map tl)).take 40 = L at *
  have Lne : L ≠ [] := by
    rw [← hL]
    intro e
    rcases List.take_eq_nil_iff.mp e with e | e
    · cases e
    · exact pos e
  have L40 : L.length ≤ 40 := by
    rw [← hL, List.length_take]
    omega
  have kpos : 1 ≤ k := by
    cases k with
    | zero =>
      have h0 := k4 0 (Nat.le_refl _) (List.length_pos_iff.mpr Lne)
      exact absurd (by rw [List.head?_eq_getElem?]; exact h0) (okL_head ok)
    | succ k => exact Nat.succ_pos _
  rw [k2]
  refine ⟨okL_take ok, by rw [List.length_take]; omega, by rw [List.length_take]; omega, ?_⟩
  rw [List.getLast?_eq_getElem?, List.length_take, Nat.min_eq_left k1, List.getElem?_take_of_lt (by omega)]
  rcases k3 with k3 | k3
  · omega
  · exact k3
theorem joinL_len (S : List Nat) : ∀ ps : List (List Nat), (joinL S ps).length ≤ (ps.map List.length).sum + ps.length * S.length
  | [] => Nat.zero_le _
  | [w] => by
    show w.length ≤ _
    rw [List.map_singleton, List.sum_singleton]
    omega
  | w :: v :: r => by
    show (w ++ (S ++ joinL S (v :: r))).length ≤ _
    have ih := joinL_len S (v :: r)
    rw [List.length_append, List.length_append, List.map_cons, List.sum_cons, List.length_cons, Nat.succ_mul]
    omega
theorem joinDot_len (parts : List Str) : (Txt.join (Str.ofString ".") parts).length ≤ (parts.map (·.length)).sum + parts.length := by
  rw [len_tl, tl_joinDot]
  have h := joinL_len [46] (parts.map tl)
  have e : ((parts.map tl).map List.length) = parts.map (·.length) := by
    rw [List.map_map]
    exact List.map_congr_left fun s _ => (len_tl s).symm
  rw [e, List.length_map] at h
  simp only [List.length_cons, List.length_nil] at h
  omega
theorem rep_strs (n : Nat) (s : Str) : (List.replicate n [V.str s]).flatten = (List.replicate n s).map V.str := by
  induction n with
  | zero => rfl
  | succ n ih => rw [List.replicate_succ, List.flatten_cons, ih, List.replicate_succ, List.map_cons] <;> rfl
theorem rep_wrd {S : List Nat} {c n : Nat} (hc : c ∈ S) : Wrd S n n (Txt.join (Str.ofString "") (List.replicate n ⟨#[c]⟩)) :=
  wrd_join (fun s hs => ⟨c, hc, (List.mem_replicate.mp hs).2⟩) (List.length_replicate ..)
/-- the signs of a drawn word, a drawn label -/
abbrev lEnds : Str := Str.ofString "abcdefghijklmnopqrstuvwxyz0123456789-_+"
abbrev dEnds : Str := Str.ofString "abcdefghijklmnopqrstuvwxyz0123456789"
theorem lEnds_dot : 46 ∉ tl lEnds := by decide +kernel
/-- a label -/
structure Lab (l : List Nat) : Prop where
  lo : 2 ≤ l.length
  hi : l.length ≤ 5
  sg : ∀ c ∈ l, c ∈ 45 :: tl dEnds
  fst : l.head? ≠ some 45
  lst : l.getLast? ≠ some 45
/-- a domain -/
structure Dom (l : List Nat) : Prop where
  ex : ∃ ls : List (List Nat), l = joinL [46] ls ∧ 1 ≤ ls.length ∧ ls.length ≤ 3 ∧ ∀ w ∈ ls, Lab w
theorem Dom.len {s : Str} (h : Dom (tl s)) : s.length ≤ 18 := by
  obtain ⟨ls, e, h1, h2, h3⟩ := h.ex
  rw [len_tl, e]
  have q := joinL_len [46] ls
  have r : ∀ ps : List (List Nat), (∀ w ∈ ps, Lab w) → (ps.map List.length).sum ≤ 5 * ps.length := by
    intro ps
    induction ps with
    | nil => exact fun _ => Nat.zero_le _
    | cons w r ih =>
      intro h
      rw [List.map_cons, List.sum_cons, List.length_cons]
      have a := (h w List.mem_cons_self).hi
      have b := ih fun w hw => h w (List.mem_cons_of_mem _ hw)
      omega
  have r1 := r ls h3
  simp only [List.length_cons, List.length_nil] at q
  omega
theorem Loc1.len {S : List Nat} {s : Str} (h : Loc1 S (tl s)) : s.length ≤ 40 := by
  rw [len_tl]
  exact h.hi
theorem lab_of {c d : Nat} {m : Str} (hc : c ∈ tl dEnds) (hd : d ∈ tl dEnds) (hm : m ∈ ["", "-", "--", "x-y", "z9"].map Str.ofString) : Lab (tl (((⟨#[c]⟩ : Str) ++ m) ++ (⟨#[d]⟩ : Str))) := by
  have e : tl (((⟨#[c]⟩ : Str) ++ m) ++ (⟨#[d]⟩ : Str)) = c :: (tl m ++ [d]) := by
    rw [tl_append, tl_append] <;> rfl
  have n45 : 45 ∉ tl dEnds := by decide +kernel
  have key : ∀ z ∈ ["", "-", "--", "x-y", "z9"].map Str.ofString, (tl z).length ≤ 3 ∧ ∀ x ∈ tl z, x ∈ 45 :: tl dEnds := by decide +kernel
  obtain ⟨k1, k2⟩ := key m hm
  rw [e]
  refine ⟨by simp, by simp; omega, fun x hx => ?_, ?_, ?_⟩
  · rcases List.mem_cons.mp hx with hx | hx
    · rw [hx]
      exact List.mem_cons_of_mem _ hc
    · rcases List.mem_append.mp hx with hx | hx
      · exact k2 x hx
      · rw [List.mem_singleton.mp hx]
        exact List.mem_cons_of_mem _ hd
  · intro q
    have : c = 45 := by simpa using q
    exact n45 (this ▸ hc)
  · rw [show c :: (tl m ++ [d]) = (c :: tl m) ++ [d] from rfl, List.getLast?_concat]
    intro q
    have : d = 45 := by simpa using q
    exact n45 (this ▸ hd)
/-- a line: a short text of the signs that are allowed -/
structure Lin (s : Str) : Prop where
  len : s.length ≤ 18
  sg : ∀ c ∈ tl s, 32 ≤ c ∧ c ≤ 126 ∧ c ≠ 37
def pool : List Str := ["", ".", "..", ". x", "Received: by ", "Received: by q.r", "received: by x", " Received: by y", "To: a", "~"].map Str.ofString
abbrev signs : Str := Str.ofString " !\"#$&'()*+,-./0123456789:;<=>?@ABCDEFGHIJKLMNOPQRSTUVWXYZ[\\]^_`abcdefghijklmnopqrstuvwxyz{|}~"
theorem pool_lin : ∀ s ∈ pool, Lin s := by
  have key : ∀ s ∈ pool, s.length ≤ 18 ∧ ∀ c ∈ tl s, 32 ≤ c ∧ c ≤ 126 ∧ c ≠ 37 := by decide +kernel
  exact fun s hs => ⟨(key s hs).1, (key s hs).2⟩
theorem signs_lin : ∀ c ∈ tl signs, 32 ≤ c ∧ c ≤ 126 ∧ c ≠ 37 := by decide +kernel
end Dk

/-! Messages as lists of texts. -/
namespace Dk
open PySem PySem.Spec PyProof.Rows L2 TL
def hopsM : List Str → Nat
  | [] => 0
  | s :: r => if s = eS then 0 else (if Txt.startswith s trS = true then 1 else 0) + hopsM r
theorem hopsM_le : ∀ ss : List Str, hopsM ss ≤ ss.length
  | [] => Nat.le_refl _
  | s :: r => by
    unfold hopsM
    have := hopsM_le r
    rw [List.length_cons]
    split
    · omega
    · split <;> omega
def stuffM (s : Str) : Str := if Txt.startswith s dotS = true then dotS ++ s else s
def unstuffM (s : Str) : Str := if Txt.startswith s dotS = true then cutS s (some 1) none else s
theorem starts_iff (x y : Str) : Txt.startswith x y = ((tl x).take (tl y).length == tl y) := by
  unfold Txt.startswith
  rw [PySem.StrLaws.subAt_eq, List.drop_zero, Nat.zero_add, len_tl, len_tl]
  by_cases h : (tl y).length ≤ (tl x).length
  · rw [decide_eq_true h, Bool.true_and]
  · rw [decide_eq_false h, Bool.false_and]
    symm
    rw [beq_eq_false_iff_ne]
    intro e
    have e2 := congrArg List.length e
    rw [List.length_take] at e2
    omega
theorem tl_dot : tl dotS = [46] := by decide +kernel
theorem tl_cut1 (s : Str) : tl (cutS s (some 1) none) = (tl s).drop 1 := by
  unfold cutS
  rw [HT.sIx_none, show (1 : Int) = ((1 : Nat) : Int) from rfl, HT.sIx_nat]
  show ((tl s).drop (min 1 s.length)).take (s.length - min 1 s.length) = (tl s).drop 1
  rw [len_tl]
  by_cases h : 1 ≤ (tl s).length
  · rw [Nat.min_eq_left h, List.take_of_length_le (by rw [List.length_drop]; omega)]
  · have e : tl s = [] := List.length_eq_zero_iff.mp (by omega)
    rw [e] <;> rfl
theorem tl_cutN (s : Str) (n : Nat) : tl (cutS s none (some (n : Int))) = (tl s).take n := tl_cut0 s n
theorem starts_dot (s : Str) : Txt.startswith s dotS = decide ((tl s).head? = some 46) := by
  rw [starts_iff, tl_dot]
  cases e : tl s with
  | nil => rfl
  | cons c r =>
    show ([c] == [46]) = decide (some c = some 46)
    by_cases h : c = 46
    · subst h
      rfl
    · rw [decide_eq_false (fun q => h (Option.some.inj q)), beq_eq_false_iff_ne]
      exact fun q => h (List.cons.inj q).1
theorem unstuff_stuff (s : Str) : unstuffM (stuffM s) = s := by
  unfold stuffM
  by_cases h : Txt.startswith s dotS = true
  · rw [if_pos h]
    have e : tl (dotS ++ s) = 46 :: tl s := by rw [tl_append, tl_dot] <;> rfl
    unfold unstuffM
    rw [if_pos (by rw [starts_dot, e] <;> rfl)]
    refine ext_tl ?_
    rw [tl_cut1, e] <;> rfl
  · rw [if_neg h]
    unfold unstuffM
    rw [if_neg h]
theorem stuff_ne (s : Str) : stuffM s ≠ dotS := by
  intro e
  unfold stuffM at e
  by_cases h : Txt.startswith s dotS = true
  · rw [if_pos h] at e
    have e2 := congrArg tl e
    rw [tl_append, tl_dot] at e2
    have e3 : tl s = [] := by simpa using e2
    rw [starts_dot, e3] at h
    cases h
  · rw [if_neg h] at e
    rw [e] at h
    exact h (by decide +kernel)
theorem stuff_len (s : Str) : (stuffM s).length ≤ s.length + 1 := by
  unfold stuffM
  split
  · rw [PySem.Str.length_append, dotS_len]
    omega
  · omega
theorem drop_of_get {α : Type} {xs : List α} {i : Nat} {x : α} (h : xs[i]? = some x) : xs.drop i = x :: xs.drop (i + 1) := by
  obtain ⟨hl, e⟩ := List.getElem?_eq_some_iff.mp h
  rw [List.drop_eq_getElem_cons hl, e]
theorem get_map {xs : List Str} {i : Nat} {x : V} (h : (xs.map V.str)[i]? = some x) : ∃ s, xs[i]? = some s ∧ x = .str s := by
  rw [List.getElem?_map] at h
  cases e : xs[i]? with
  | none =>
    rw [e] at h
    cases h
  | some s =>
    rw [e] at h
    exact ⟨s, rfl, (Option.some.inj h).symm⟩
theorem mem_of_get {α : Type} {xs : List α} {i : Nat} {x : α} (h : xs[i]? = some x) : x ∈ xs := List.mem_of_getElem? h
/-- a comprehension over texts that gives texts -/
theorem Dqs.strs_eq {H : Hp} {ss : List Str} {ys : List V} (h : Dqs H ys (ss.map PyData.str)) : ys = ss.map V.str := h.strs_of
theorem take_snoc {α : Type} {xs : List α} {i : Nat} {x : α} (h : xs[i]? = some x) : xs.take (i + 1) = xs.take i ++ [x] := by
  rw [List.take_add_one, h] <;> rfl
def reportM (l d r : Str) : List Str := [Str.ofString "Subject: undelivered", eS, Str.ofString "Recipient: " ++ (l ++ atS ++ d), Str.ofString "Reason: " ++ r]
theorem cut13 (s : Str) : decide (cutS s none (some 13) = trS) = Txt.startswith s trS := by
  rw [starts_iff]
  have e13 : (tl trS).length = 13 := by decide +kernel
  have e := tl_cutN s 13
  by_cases h : cutS s none (some 13) = trS
  · rw [decide_eq_true h, e13]
    have h2 : tl (cutS s none (some ((13 : Nat) : Int))) = tl trS := congrArg tl h
    rw [← e, h2]
    exact (beq_self_eq_true _).symm
  · rw [decide_eq_false h, e13]
    symm
    rw [beq_eq_false_iff_ne]
    intro q
    rw [← e] at q
    exact h (ext_tl q)
theorem cut_dot (s : Str) : decide (cutS s none (some 1) = dotS) = Txt.startswith s dotS := by
  rw [starts_iff]
  have e1 : (tl dotS).length = 1 := by decide +kernel
  have e := tl_cutN s 1
  by_cases h : cutS s none (some 1) = dotS
  · rw [decide_eq_true h, e1]
    have h2 : tl (cutS s none (some ((1 : Nat) : Int))) = tl dotS := congrArg tl h
    rw [← e, h2]
    exact (beq_self_eq_true _).symm
  · rw [decide_eq_false h, e1]
    symm
    rw [beq_eq_false_iff_ne]
    intro q
    rw [← e] at q
    exact h (ext_tl q)
theorem str_assoc (a b c : Str) : a ++ b ++ c = a ++ (b ++ c) := ext_tl (by rw [tl_append, tl_append, tl_append, tl_append, List.append_assoc])
theorem hops_cons (d : Str) (ss : List Str) : hopsM ((trS ++ d) :: ss) = hopsM ss + 1 := by
  have h1 : trS ++ d ≠ eS := fun e => by
    have e2 := congrArg (fun z => (tl z).length) e
    simp only [tl_append, List.length_append] at e2
    have e3 : (tl trS).length = 13 := by decide +kernel
    have e4 : (tl eS).length = 0 := by decide +kernel
    omega
  have h2 : Txt.startswith (trS ++ d) trS = true := by
    rw [starts_iff, tl_append, List.take_left]
    exact beq_self_eq_true _
  rw [hopsM, if_neg h1, if_pos h2]
  omega
end Dk

/-! Data compared. -/
namespace Dk
open PySem PySem.Spec PyProof.Rows L2 TL
mutual
/-- data without truth values, lists, dicts -/
def nb : PyData → Bool
  | .none => true
  | .int _ => true
  | .str s => PyData.strOk s
  | .tuple ds => nbs ds
  | _ => false
def nbs : List PyData → Bool
  | [] => true
  | d :: ds => nb d && nbs ds
end
mutual
theorem nb_lay : ∀ d : PyData, nb d = true → d.canLay0 = true
  | .none, _ => by simp [PyData.canLay0]
  | .int i, _ => by simp [PyData.canLay0]
  | .str s, h => by
    rw [PyData.canLay0]
    rw [nb] at h
    exact h
  | .tuple ds, h => by
    rw [PyData.canLay0]
    rw [nb] at h
    exact nbs_lay ds h
  | .bool _, h => by simp [nb] at h
  | .list _, h => by simp [nb] at h
  | .dict _, h => by simp [nb] at h
theorem nbs_lay : ∀ ds : List PyData, nbs ds = true → PyData.canLayAll0 ds = true
  | [], _ => by simp [PyData.canLayAll0]
  | d :: ds, h => by
    rw [nbs, Bool.and_eq_true] at h
    rw [PyData.canLayAll0, nb_lay d h.1, nbs_lay ds h.2] <;> rfl
end
theorem nb_shaped {d : PyData} (h : nb d = true) (hd : d.depth ≤ 64) : SeqAt.shaped d = true := by
  unfold SeqAt.shaped
  rw [nb_lay d h, decide_eq_true hd] <;> rfl
mutual
theorem eqv_nb : ∀ d e : PyData, nb d = true → PyData.eqv d e = true → nb e = true → d = e
  | .none, e, _, h, he => by
    cases e <;> first
      | rfl
      | simp [PyData.eqv] at h
  | .int i, e, _, h, he => by
    cases e <;> first
      | (simp [PyData.eqv] at h; done)
      | (simp [nb] at he; done)
      | (simp [PyData.eqv] at h; rw [h])
  | .str i, e, _, h, he => by
    cases e <;> first
      | (simp [PyData.eqv] at h; done)
      | (simp [PyData.eqv] at h; rw [h])
  | .tuple ds, e, hd, h, he => by
    cases e with
    | tuple es =>
      rw [PyData.eqv] at h
      rw [nb] at hd he
      rw [eqvs_nb ds es hd h he]
    | _ => simp [PyData.eqv] at h
  | .bool _, _, h, _, _ => by simp [nb] at h
  | .list _, _, h, _, _ => by simp [nb] at h
  | .dict _, _, h, _, _ => by simp [nb] at h
theorem eqvs_nb : ∀ ds es : List PyData, nbs ds = true → PyData.eqvAll ds es = true → nbs es = true → ds = es
  | [], es, _, h, _ => by
    cases es with
    | nil => rfl
    | cons e es => simp [PyData.eqvAll] at h
  | d :: ds, es, hd, h, he => by
    cases es with
    | nil => simp [PyData.eqvAll] at h
    | cons e es =>
      rw [PyData.eqvAll, Bool.and_eq_true] at h
      rw [nbs, Bool.and_eq_true] at hd he
      rw [eqv_nb d e hd.1 h.1 he.1, eqvs_nb ds es hd.2 h.2 he.2]
end
theorem eqv_self {d : PyData} (h : nb d = true) : PyData.eqv d d = true := SeqAt.eqv_refl d (nb_lay d h)
theorem eqv_ne {d e : PyData} (h : nb d = true) (he : nb e = true) (n : d ≠ e) : PyData.eqv d e = false := by
  cases q : PyData.eqv d e with
  | false => rfl
  | true => exact absurd (eqv_nb d e h q he) n
theorem nbs_strs : ∀ {ss : List Str}, (∀ s ∈ ss, PyData.strOk s = true) → nbs (ss.map PyData.str) = true
  | [], _ => by simp [nbs]
  | s :: ss, h => by
    rw [List.map_cons, nbs, nb, h s List.mem_cons_self, nbs_strs fun s hs => h s (List.mem_cons_of_mem _ hs)] <;> rfl
theorem depth_strs : ∀ ss : List Str, PyData.depthAll (ss.map PyData.str) = 0
  | [] => by simp [PyData.depthAll]
  | s :: ss => by
    rw [List.map_cons, PyData.depthAll, depth_strs ss, PyData.depth] <;> rfl
/-- plain signs -/
def Asc (s : Str) : Prop := ∀ c ∈ tl s, c < 128
theorem Asc.ok {s : Str} (h : Asc s) : PyData.strOk s = true := by
  unfold PyData.strOk
  rw [Array.all_eq_true']
  intro c hc
  have := h c (by simpa using hc)
  simp only [decide_eq_true_eq]
  omega
theorem Asc.app {a b : Str} (ha : Asc a) (hb : Asc b) : Asc (a ++ b) := fun c hc => by
  rw [tl_append] at hc
  rcases List.mem_append.mp hc with hc | hc
  · exact ha c hc
  · exact hb c hc
theorem Lin.asc {s : Str} (h : Lin s) : Asc s := fun c hc => by
  have := h.sg c hc
  omega
theorem okL_mem {S : List Nat} : ∀ {l : List Nat} {p : Bool}, okL S p l = true → ∀ c ∈ l, c = 46 ∨ c ∈ S
  | [], _, _, c, hc => nomatch hc
  | d :: r, p, h, c, hc => by
    unfold okL at h
    by_cases e : d = 46
    · rw [if_pos e, Bool.and_eq_true] at h
      rcases List.mem_cons.mp hc with q | q
      · exact .inl (q.trans e)
      · exact okL_mem h.2 c q
    · rw [if_neg e, Bool.and_eq_true] at h
      rcases List.mem_cons.mp hc with q | q
      · exact .inr (q ▸ of_decide_eq_true h.1)
      · exact okL_mem h.2 c q
theorem ends_asc : ∀ c ∈ tl lEnds, c < 128 := by decide +kernel
theorem dends_asc : ∀ c ∈ tl dEnds, c < 128 := by decide +kernel
theorem Loc1.asc {s : Str} (h : Loc1 (tl lEnds) (tl s)) : Asc s := fun c hc => by
  rcases okL_mem h.ok c hc with e | e
  · omega
  · exact ends_asc c e
theorem joinL_mem {S : List Nat} : ∀ {ps : List (List Nat)} {c : Nat}, c ∈ joinL S ps → c ∈ S ∨ ∃ w ∈ ps, c ∈ w
  | [], c, h => nomatch h
  | [w], c, h => .inr ⟨w, List.mem_cons_self, h⟩
  | w :: v :: r, c, h => by
    have h : c ∈ w ++ (S ++ joinL S (v :: r)) := h
    rcases List.mem_append.mp h with h | h
    · exact .inr ⟨w, List.mem_cons_self, h⟩
    · rcases List.mem_append.mp h with h | h
      · exact .inl h
      · rcases joinL_mem h with h | ⟨u, hu, hc⟩
        · exact .inl h
        · exact .inr ⟨u, List.mem_cons_of_mem _ hu, hc⟩
theorem Dom.asc {s : Str} (h : Dom (tl s)) : Asc s := fun c hc => by
  obtain ⟨ls, e, _, _, h3⟩ := h.ex
  rw [e] at hc
  rcases joinL_mem hc with q | ⟨w, hw, q⟩
  · have := List.mem_singleton.mp q
    omega
  · rcases List.mem_cons.mp ((h3 w hw).sg c q) with q | q
    · omega
    · exact dends_asc c q
theorem tr_asc : Asc trS := by unfold Asc; decide +kernel
theorem at_asc : Asc atS := by unfold Asc; decide +kernel
theorem e_asc : Asc eS := by unfold Asc; decide +kernel
theorem dot_asc : Asc dotS := by unfold Asc; decide +kernel
theorem stuff_asc {s : Str} (h : Asc s) : Asc (stuffM s) := by
  unfold stuffM
  split
  · exact dot_asc.app h
  · exact h
/-- a tuple of texts as a datum -/
abbrev sD (ss : List Str) : PyData := .tuple (ss.map PyData.str)
theorem sD_nb {ss : List Str} (h : ∀ s ∈ ss, Asc s) : nb (sD ss) = true := by
  rw [nb]
  exact nbs_strs fun s hs => (h s hs).ok
theorem sD_shaped {ss : List Str} (h : ∀ s ∈ ss, Asc s) : SeqAt.shaped (sD ss) = true := by
  refine nb_shaped (sD_nb h) ?_
  rw [PyData.depth, depth_strs]
  omega
theorem Dq.strs {H : Hp} {p : Addr} {ss : List Str} (h : H p = some (.tup (ss.map V.str))) : Dq H (.ref p) (sD ss) := .tup h (Dqs.strs ss)
theorem flat_strs (ss : List Str) : (ss.map V.str).all flatV = true := by
  rw [List.all_eq_true]
  intro x hx
  obtain ⟨s, _, rfl⟩ := List.mem_map.mp hx
  rfl
theorem inV_no {ss : List Str} {z : Str} (h : ∀ s ∈ ss, s ≠ z) : inV (.str z) (ss.map V.str) = false := by
  unfold inV
  rw [List.any_eq_false]
  intro x hx
  obtain ⟨s, hs, rfl⟩ := List.mem_map.mp hx
  intro e
  exact h s hs (by simpa [eqV] using e)
end Dk

/-! Own classes: instances, attributes, methods. -/
namespace Dk
open PySem PySem.Spec PyProof.Rows L2
/-- the def of a method -/
def MethAt (e : Wd) (C : Addr) (m qual : Str) (st : Stmt) : Prop := ∃ f fd, FunD e.K m qual (defArgs st) (defBody st) (defScope st) [] [] f fd ∧ Meth e.K C m f ∧ Cls e.K C
/-- the def of __init__ -/
def InitAt (e : Wd) (C : Addr) (x qual : Str) (st : Stmt) : Prop := ∃ f fd, FunD e.K "__init__" qual (defArgs st) (defBody st) (defScope st) [] [] f fd ∧ Mk e.K C f ∧ e.mg x = some (.ref C)
def CanM (e : Wd) (k : Nat) (C : Addr) (m : Str) (ps : List Str) (sp : Sp) : Prop :=
  ∃ f fd, FnOk e.P e.w e.K e.mg e.base (L2.CX e.P e.w) k f fd ps sp ∧ Cls e.K C ∧ Meth e.K C m f ∧ Binds e.K fd ps []
def CanN (e : Wd) (k : Nat) (C : Addr) (x : Str) (ps : List Str) (sp : Sp) : Prop :=
  ∃ f fd, FnOk e.P e.w e.K e.mg e.base (L2.CX e.P e.w) k f fd ps sp ∧ Mk e.K C f ∧ e.mg x = some (.ref C) ∧ Binds e.K fd ps []
abbrev BindQ (x qual : Str) (st : Stmt) (ps : List Str) : Prop := ∀ (kV doc pm : Value) (an : Option Addr) (cdv ct : Value) (us : List Value), us.length = ps.length → bindArgs (PySem.W.fnOf x qual (defArgs st) (defBody st) (defScope st) .none kV doc pm an cdv ct) ⟨us, []⟩ = pure (ps.zip us)
section
variable {e : Wd} {C : Addr} {m x qual : Str} {st : Stmt} {N ps : List Str} {k : Nat} {sp : Sp}
theorem fnokQ {f : Addr} {fd : FuncData} (F : FunD e.K x qual (defArgs st) (defBody st) (defScope st) [] [] f fd) (S : FnScope N ps (defScope st)) (len : ∀ vs H Q E, sp vs H Q E → vs.length = ps.length)
    (hbody : ∀ (cdv : Value) (f : Addr) (A : Around) (outer : List Env) (s : Shared) (H : Hp) (vs : List V) (Q : VK) (E : XK), Room k (A.deeper (envOfC qual (defScope st) s.heap.objs.size f cdv)) → sp vs H Q E →
      ∃ t, PSs (cxOf (L2.CX e.P e.w) e.P e.w e.K e.mg e.base N qual (defScope st) f cdv A outer s H E).nox (defBody st) t ∧ t { nx := fun _ H' => Q .non H', rt := Q } (start N vs) H) : FnOk e.P e.w e.K e.mg e.base (L2.CX e.P e.w) (k + 1) f fd ps sp :=
  F.ok S len fun cdv A outer s H vs Q E hr h => by
    obtain ⟨t, h1, h2⟩ := hbody cdv f A outer s H vs Q E hr h
    exact ⟨t, h1.nox, h2⟩
theorem canM_of (D : MethAt e C m qual st) (S : FnScope N ps (defScope st)) (B : BindQ m qual st ps) (len : ∀ vs H Q E, sp vs H Q E → vs.length = ps.length)
    (hbody : ∀ (cdv : Value) (f : Addr) (A : Around) (outer : List Env) (s : Shared) (H : Hp) (vs : List V) (Q : VK) (E : XK), Room k (A.deeper (envOfC qual (defScope st) s.heap.objs.size f cdv)) → sp vs H Q E →
      ∃ t, PSs (cxOf (L2.CX e.P e.w) e.P e.w e.K e.mg e.base N qual (defScope st) f cdv A outer s H E).nox (defBody st) t ∧ t { nx := fun _ H' => Q .non H', rt := Q } (start N vs) H) : CanM e (k + 1) C m ps sp := by
  obtain ⟨f, fd, F, M, c⟩ := D
  exact ⟨f, fd, fnokQ F S len hbody, c, M, F.bindsN B⟩
theorem canN_of (D : InitAt e C x qual st) (S : FnScope N ps (defScope st)) (B : BindQ "__init__" qual st ps) (len : ∀ vs H Q E, sp vs H Q E → vs.length = ps.length)
    (hbody : ∀ (cdv : Value) (f : Addr) (A : Around) (outer : List Env) (s : Shared) (H : Hp) (vs : List V) (Q : VK) (E : XK), Room k (A.deeper (envOfC qual (defScope st) s.heap.objs.size f cdv)) → sp vs H Q E →
      ∃ t, PSs (cxOf (L2.CX e.P e.w) e.P e.w e.K e.mg e.base N qual (defScope st) f cdv A outer s H E).nox (defBody st) t ∧ t { nx := fun _ H' => Q .non H', rt := Q } (start N vs) H) : CanN e (k + 1) C x ps sp := by
  obtain ⟨f, fd, F, M, g⟩ := D
  exact ⟨f, fd, fnokQ F S len hbody, M, g, F.bindsN B⟩
end
section
variable {X : Cx} {E : XK} {k : Nat} {C : Addr} {m x : Str} {ps : List Str} {sp : Sp} {o e : Expr} {es : List Expr} {p pos apos : Pos} {ta : TE} {t : TA}
theorem pe_canM {pl : Sem Bool} (c : CanM (wdOf X) k C m ps sp) (hr : Room k X.A) (hx : Passes (L2.CX X.prog X.w) X E) (he : PE X o ta) (ha : PA X (e :: es) t)
    (hst : starEach (e :: es) X.env = (false, eval e X.env) :: starEach es X.env := by rfl) (hpl : (backTo pos (starEach es X.env)).any (·.1) = false := by rfl)
    (ht : eval (.Call (.Attribute o m apos) (e :: es) [] pos) X.env = (do
      let ov ← eval o X.env
      standAt apos.atName
      let (f, first) ← holding [ov] (getMethod ov m pl)
      callWith pos f first (backTo pos (starEach (e :: es) X.env)) (backToKw pos (keywordEach [] X.env))) := by rfl) : PE X (.Call (.Attribute o m apos) (e :: es) [] pos) (tMeth C m sp [] E ta t) := by
  obtain ⟨f, fd, F, c, M, b⟩ := c
  exact pe_meth he c M F hr b .nil hx ha hst hpl ht
theorem pe_canM0 {pl : Sem Bool} (c : CanM (wdOf X) k C m ps sp) (hr : Room k X.A) (hx : Passes (L2.CX X.prog X.w) X E) (he : PE X o ta)
    (ht : eval (.Call (.Attribute o m apos) [] [] pos) X.env = (do
      let ov ← eval o X.env
      standAt apos.atName
      let (f, first) ← holding [ov] (getMethod ov m pl)
      callWith pos f first (backTo pos (starEach [] X.env)) (backToKw pos (keywordEach [] X.env))) := by rfl) : PE X (.Call (.Attribute o m apos) [] [] pos) (tMeth C m sp [] E ta tNil) := by
  obtain ⟨f, fd, F, c, M, b⟩ := c
  exact pe_meth0 he c M F hr b .nil hx ht
theorem pe_canN (c : CanN (wdOf X) k C x ps sp) (hr : Room (k + 1) X.A) (hx : Passes (L2.CX X.prog X.w) X E) (ha : PA X (e :: es) t) (hg : Gl X x := by rfl) (hdb : (x == ("__debug__" : Str)) = false := by decide)
    (he : starEach (e :: es) X.env = (false, eval e X.env) :: starEach es X.env := by rfl) (hpl : (backTo pos (starEach es X.env)).any (·.1) = false := by rfl) : PE X (.Call (.Name x p) (e :: es) [] pos) (tMake C sp [] E t) := by
  obtain ⟨f, fd, F, M, g, b⟩ := c
  exact pe_make M F hr hg g b .nil hx ha hdb he hpl
theorem pe_canN0 (c : CanN (wdOf X) k C x ps sp) (hr : Room (k + 1) X.A) (hx : Passes (L2.CX X.prog X.w) X E) (hg : Gl X x := by rfl) (hdb : (x == ("__debug__" : Str)) = false := by decide) : PE X (.Call (.Name x p) [] [] pos) (tMake C sp [] E tNil) := by
  obtain ⟨f, fd, F, M, g, b⟩ := c
  exact pe_make0 M F hr hg g b .nil hx hdb
variable {K : PySem.W.Frag} {tv : TE} {value : Expr} {f : Str} {pos' : Pos}
theorem pe_fldU (he : PE X e ta) (hK : X.K = K := by rfl) (hb : attributeBase e f X.env (eval e X.env) = eval e X.env := by rfl) : PE X (.Attribute e f pos) (tFld K ta f) := by
  subst hK
  exact pe_fld he hb
theorem ps_fldU (ha : PE X o ta) (hv : PE X value tv) (hK : X.K = K := by rfl) (hs : swapsWith value (some (.Attribute o f pos')) pos.line X.env = pure false := by rfl) : PS X (.Assign [.Attribute o f pos'] value pos) (sFld K ta tv f) := by
  subst hK
  exact ps_fld ha hv hs
theorem ps_fldaugU {op : Operator} {rd : V → V → Hp → VK → Prop} {tpos : Pos} (ha : PE X o ta) (hv : PE X value tv) (hop : InOp X op rd) (hK : X.K = K := by rfl) : PS X (.AugAssign (.Attribute o f tpos) op value pos) (sFldAug K ta tv rd f) := by
  subst hK
  exact ps_fldaug ha hv hop
end
section
variable {K : PySem.W.Frag} {σ : L2.St} {H : Hp} {Q : VK} {D : Ends} {ta tb tv : TE} {t : TA} {C a dx : Addr} {f m : Str} {fs fs' : List (Str × V)} {v x y : V} {sp : Sp} {E : XK} {P : Prop}
/-- an instance of C with these attributes -/
def Ins (H : Hp) (a C : Addr) (fs : List (Str × V)) : Prop := ∃ dx, H a = some (.ins C dx fs)
theorem Ins.mono {H' : Hp} (h : Ins H a C fs) (k : ∀ o, H a = some o → H' a = some o) : Ins H' a C fs := let ⟨dx, e⟩ := h; ⟨dx, k _ e⟩
theorem Ins.same {H' : Hp} (s : Same H H') (h : Ins H a C fs) : Ins H' a C fs := let ⟨dx, e⟩ := h; ⟨dx, s _ _ e⟩
theorem Ins.stp {H' : Hp} {b : Addr} (s : Stp b H H') (hd : Drw H b) (h : Ins H a C fs) : Ins H' a C fs := by
  obtain ⟨dx, e⟩ := h
  refine ⟨dx, s.at_ e fun q => ?_⟩
  obtain ⟨u, w, z⟩ := hd
  rw [← q, e] at z
  cases z
/-- an attribute of the instance at a is written: all else stands -/
structure Fput (a : Addr) (H H' : Hp) : Prop where
  kp : ∀ b, b ≠ a → H' b = H b
  old : ∃ C fs, Ins H a C fs
theorem Fput.at_ {b : Addr} {o : HO} {H' : Hp} (f : Fput a H H') (h : H b = some o) (n : ∀ C dx fs, o ≠ .ins C dx fs) : H' b = some o := by
  rw [f.kp b fun e => ?_]
  · exact h
  · obtain ⟨C, fs, dx, q⟩ := f.old
    rw [e, q] at h
    exact n C dx fs (Option.some.inj h).symm
theorem Fput.gro {H' : Hp} (f : Fput a H H') : Gro H H' := ⟨(fun b xs e => f.at_ e fun _ _ _ z => by cases z), (fun b o u e => f.at_ e fun _ _ _ z => by cases z)⟩
theorem Fput.lst {b : Addr} {xs : List V} {H' : Hp} (f : Fput a H H') (h : H b = some (.lst xs)) : H' b = some (.lst xs) := f.at_ h fun _ _ _ z => by cases z
theorem Fput.tup {b : Addr} {xs : List V} {H' : Hp} (f : Fput a H H') (h : H b = some (.tup xs)) : H' b = some (.tup xs) := f.at_ h fun _ _ _ z => by cases z
theorem Fput.drw {b : Addr} {H' : Hp} (f : Fput a H H') (h : Drw H b) : Drw H' b := let ⟨x, y, e⟩ := h; ⟨x, y, f.lst e⟩
theorem Fput.fresh {b : Addr} {H' : Hp} {fs' : List (Str × V)} (f : Fput a H H') (hi : Ins H' a C fs') (h : H' b = none) : H b = none := by
  have n : b ≠ a := fun e => by
    obtain ⟨dx, q⟩ := hi
    rw [e, q] at h
    cases h
  rw [← f.kp b n]
  exact h
theorem Ins.fput {b C2 : Addr} {fs2 : List (Str × V)} {H' : Hp} (f : Fput b H H') (n : a ≠ b) (h : Ins H a C2 fs2) : Ins H' a C2 fs2 := let ⟨dx, e⟩ := h; ⟨dx, by rw [f.kp a n]; exact e⟩
def fldq (K : PySem.W.Frag) (f : Str) (x : V) (H : Hp) (Q : VK) : Prop := ∃ a C dx fs v, x = .ref a ∧ H a = some (.ins C dx fs) ∧ Cls K C ∧ NoAttr K C f ∧ fs.lookup f = some v ∧ Q v H
theorem r_fld (q : ta σ H fun x H1 => fldq K f x H1 Q) : tFld K ta f σ H Q := q
theorem r_fldv (h : Ins H a C fs) (c : Cls K C) (n : NoAttr K C f) (l : fs.lookup f = some v) (q : Q v H) : fldq K f (.ref a) H Q := let ⟨dx, e⟩ := h; ⟨a, C, dx, fs, v, rfl, e, c, n, l, q⟩
def sfldq (K : PySem.W.Frag) (f : Str) (y x : V) (σ : L2.St) (D : Ends) (H : Hp) : Prop := ∃ a C dx fs, x = .ref a ∧ H a = some (.ins C dx fs) ∧ Cls K C ∧ NoAttr K C f ∧ fs.length < 1000 ∧ D.nx σ (upd H a (.ins C dx (putF f y fs)))
theorem r_sfld (q : tv σ H fun y H1 => ta σ H1 fun x H2 => sfldq K f y x σ D H2) : sFld K ta tv f D σ H := q
theorem r_sfldv (h : Ins H a C fs) (c : Cls K C) (n : NoAttr K C f) (hl : fs.length < 1000) (e : putF f y fs = fs') (k : ∀ H', Ins H' a C fs' → Fput a H H' → D.nx σ H') : sfldq K f y (.ref a) σ D H := by
  obtain ⟨dx, he⟩ := h
  subst e
  exact ⟨a, C, dx, fs, rfl, he, c, n, hl, k _ ⟨dx, upd_same⟩ ⟨fun b hb => upd_ne hb, C, fs, dx, he⟩⟩
def methq (C : Addr) (m : Str) (x : V) (H : Hp) (P : Prop) : Prop := ∃ a dx fs, x = .ref a ∧ H a = some (.ins C dx fs) ∧ fs.lookup m = none ∧ P
theorem r_meth (q : ta σ H fun x H1 => methq C m x H1 (t σ H1 fun vs H2 => sp (x :: vs) H2 Q E)) : tMeth C m sp [] E ta t σ H Q := by
  show ta σ H fun x H1 => ∃ a dx fs, x = .ref a ∧ H1 a = some (.ins C dx fs) ∧ fs.lookup m = none ∧ t σ H1 fun vs H2 => sp (x :: (vs ++ [])) H2 Q E
  have e : (fun (x : V) H1 => ∃ a dx fs, x = .ref a ∧ H1 a = some (.ins C dx fs) ∧ fs.lookup m = none ∧ t σ H1 fun vs H2 => sp (x :: (vs ++ [])) H2 Q E) = fun (x : V) H1 => methq C m x H1 (t σ H1 fun vs H2 => sp (x :: vs) H2 Q E) := by
    funext x H1
    have e2 : (fun (vs : List V) H2 => sp (x :: (vs ++ [])) H2 Q E) = fun vs H2 => sp (x :: vs) H2 Q E := by
      funext vs H2
      rw [List.append_nil]
    rw [e2]
    rfl
  rw [e]
  exact q
theorem r_methv (h : Ins H a C fs) (l : fs.lookup m = none) (q : P) : methq C m (.ref a) H P := let ⟨dx, e⟩ := h; ⟨a, dx, fs, rfl, e, l, q⟩
/-- a new instance, then __init__ -/
def makeq (C : Addr) (sp : Sp) (E : XK) (vs : List V) (H : Hp) (Q : VK) : Prop := ∀ x dx, H x = none → H dx = none → dx ≠ x → sp (.ref x :: vs) (upd (upd H dx (.own x)) x (.ins C dx [])) (fun v H2 => v = .non ∧ Q (.ref x) H2) E
theorem r_make (q : t σ H fun vs H1 => makeq C sp E vs H1 Q) : tMake C sp [] E t σ H Q := by
  have e : (fun (vs : List V) (H1 : Hp) => ∀ x dx, H1 x = none → H1 dx = none → dx ≠ x → sp (.ref x :: (vs ++ [])) (upd (upd H1 dx (.own x)) x (.ins C dx [])) (fun v H2 => v = .non ∧ Q (.ref x) H2) E) = fun (vs : List V) (H1 : Hp) => makeq C sp E vs H1 Q := by
    funext vs H1
    rw [List.append_nil]
    rfl
  show t σ H fun (vs : List V) (H1 : Hp) => ∀ x dx, H1 x = none → H1 dx = none → dx ≠ x → sp (.ref x :: (vs ++ [])) (upd (upd H1 dx (.own x)) x (.ins C dx [])) (fun v H2 => v = .non ∧ Q (.ref x) H2) E
  rw [e]
  exact q
theorem r_makev {vs : List V} (k : ∀ x H', H x = none → Same H H' → Ins H' x C [] → sp (.ref x :: vs) H' (fun v H2 => v = .non ∧ Q (.ref x) H2) E) : makeq C sp E vs H Q := fun x dx nx nd ne =>
  k x _ nx (fun b o e => by rw [upd_ne (ne_of_none e nx), upd_ne (ne_of_none e nd)]; exact e) ⟨dx, upd_same⟩
theorem r_non (q : P) : V.non = V.non ∧ P := ⟨rfl, q⟩
end
/-! looking up in short lists of attributes -/
theorem lk_hd {f : Str} {v : V} {r : List (Str × V)} : List.lookup f ((f, v) :: r) = some v := by
  have e : (f == f) = true := beq_self_eq_true f
  simp only [List.lookup, e]
theorem lk_tl {f g : Str} {v : V} {r : List (Str × V)} {o : Option V} (h : (f == g) = false) (e : r.lookup f = o) : List.lookup f ((g, v) :: r) = o := by
  simp only [List.lookup, h]
  exact e
theorem lk_nil {f : Str} : List.lookup f ([] : List (Str × V)) = none := rfl
theorem pf_nil {f : Str} {v : V} : putF f v [] = [(f, v)] := rfl
theorem pf_hd {f : Str} {v x : V} {r : List (Str × V)} : putF f v ((f, x) :: r) = (f, v) :: r := by
  rw [putF, if_pos rfl]
theorem pf_tl {f g : Str} {v x : V} {r r' : List (Str × V)} (h : (g == f) = false) (e : putF f v r = r') : putF f v ((g, x) :: r) = (g, x) :: r' := by
  rw [putF, if_neg (beq_eq_false_iff_ne.mp h), e]
section
variable {X : Cx} {K : PySem.W.Frag} {H : Hp} {Q : VK}
theorem call_strU : CallR X (.type "str") uStr := by
  refine callw (call_str_int.or SkE.call_str_str) fun xs H Q h => ?_
  match xs, h with
  | [.int i], h => exact .inl ⟨_, rfl, h.1, h.2⟩
  | [.str a], h => exact .inr ⟨_, rfl, h⟩
theorem r_strI {n : Int} (h : n.natAbs.log2 < 1920) (q : Q (.str (toString n)) H) : uStr [.int n] H Q := ⟨h, q⟩
theorem r_strS {s : Str} (q : Q (.str s) H) : uStr [.str s] H Q := q
end
theorem inV_str (ss : List Str) (z : Str) : inV (.str z) (ss.map V.str) = decide (z ∈ ss) := by
  by_cases h : z ∈ ss
  · rw [decide_eq_true h]
    unfold inV
    rw [List.any_eq_true]
    exact ⟨.str z, List.mem_map_of_mem h, by simp [eqV]⟩
  · rw [decide_eq_false h]
    exact inV_no fun s hs e => h (e ▸ hs)
section
variable {K : PySem.W.Frag} {H : Hp} {Q : VK} {p : Addr} {ss : List Str} {z : Str}
theorem r_inTs (h : H p = some (.tup (ss.map V.str))) (q : Q (.bl (decide (z ∈ ss))) H) : uIn K (.str z) (.ref p) H Q := r_inT h rfl (flat_strs _) (by rw [inV_str]; exact q)
theorem r_inLs (h : H p = some (.lst (ss.map V.str))) (q : Q (.bl (decide (z ∈ ss))) H) : uIn K (.str z) (.ref p) H Q := r_inL h rfl (flat_strs _) (by rw [inV_str]; exact q)
end
section
variable {K : PySem.W.Frag} {H : Hp} {Q : VK} {p : Addr} {z : Str} {n : Int} {b : Bool}
theorem r_isNN (q : Q (.bl true) H) : uIs .non .non H Q := q
theorem r_isNS (q : Q (.bl false) H) : uIs (.str z) .non H Q := q
theorem r_isNI (q : Q (.bl false) H) : uIs (.int n) .non H Q := q
theorem r_isNR (q : Q (.bl false) H) : uIs (.ref p) .non H Q := q
theorem r_isNB (q : Q (.bl false) H) : uIs (.bl b) .non H Q := q
theorem r_isnotNN (q : Q (.bl false) H) : uIsNot .non .non H Q := q
theorem r_isnotNS (q : Q (.bl true) H) : uIsNot (.str z) .non H Q := q
theorem r_isnotNI (q : Q (.bl true) H) : uIsNot (.int n) .non H Q := q
theorem r_isnotNR (q : Q (.bl true) H) : uIsNot (.ref p) .non H Q := q
theorem r_isnotNB (q : Q (.bl true) H) : uIsNot (.bl b) .non H Q := q
end
/-! data that may be compared -/
structure Okd (n : Nat) (d : PyData) : Prop where
  nb : nb d = true
  dp : d.depth ≤ n
theorem Okd.le {n m : Nat} {d : PyData} (h : Okd n d) (k : n ≤ m) : Okd m d := ⟨h.nb, Nat.le_trans h.dp k⟩
theorem Okd.str {n : Nat} {s : Str} (h : Asc s) : Okd n (.str s) := ⟨by rw [Dk.nb]; exact h.ok, by simp [PyData.depth]⟩
theorem Okd.non {n : Nat} : Okd n .none := ⟨by simp [Dk.nb], by simp [PyData.depth]⟩
theorem Okd.int {n : Nat} (i : Int) : Okd n (.int i) := ⟨by simp [Dk.nb], by simp [PyData.depth]⟩
theorem okd_all {n : Nat} : ∀ {ds : List PyData}, (∀ d ∈ ds, Okd n d) → nbs ds = true ∧ PyData.depthAll ds ≤ n
  | [], _ => ⟨by simp [nbs], by simp [PyData.depthAll]⟩
  | d :: ds, h => by
    have h1 := h d List.mem_cons_self
    have h2 := okd_all fun e he => h e (List.mem_cons_of_mem _ he)
    refine ⟨by rw [nbs, h1.nb, h2.1] <;> rfl, ?_⟩
    rw [PyData.depthAll]
    have := h1.dp
    omega
theorem Okd.tup {n : Nat} {ds : List PyData} (h : ∀ d ∈ ds, Okd n d) : Okd (n + 1) (.tuple ds) := by
  have q := okd_all h
  refine ⟨by rw [Dk.nb]; exact q.1, ?_⟩
  rw [PyData.depth]
  omega
theorem Okd.shaped {n : Nat} {d : PyData} (h : Okd n d) (k : n ≤ 64) : SeqAt.shaped d = true := nb_shaped h.nb (Nat.le_trans h.dp k)
theorem Okd.sD {n : Nat} {ss : List Str} (h : ∀ s ∈ ss, Asc s) : Okd (n + 1) (sD ss) := by
  refine .tup fun d hd => ?_
  obtain ⟨s, hs, rfl⟩ := List.mem_map.mp hd
  exact .str (h s hs)
section
variable {K : PySem.W.Frag} {H : Hp} {Q : VK} {p : Addr} {y : V} {d f : PyData} {n : Nat}
theorem r_neOk (hx : Dq H (.ref p) d) (hy : Dq H y d) (ok : Okd n d) (hn : n ≤ 64) (q : Q (.bl false) H) : uNe K (.ref p) y H Q := by
  refine r_neD hx hy (ok.shaped hn) (ok.shaped hn) ?_
  rw [eqv_self ok.nb]
  exact q
theorem r_eqOk (hx : Dq H (.ref p) d) (hy : Dq H y d) (ok : Okd n d) (hn : n ≤ 64) (q : Q (.bl true) H) : uEq K (.ref p) y H Q := by
  refine r_eqD hx hy (ok.shaped hn) (ok.shaped hn) ?_
  rw [eqv_self ok.nb]
  exact q
end
theorem len_cut (z : Str) (lo hi : Option Int) : (cutS z lo hi).length ≤ z.length := by
  show (((z.cps.toList.drop _).take _).toArray).size ≤ z.cps.size
  rw [List.size_toArray, List.length_take, List.length_drop, Array.length_toList]
  omega
/-- a list alone is changed -/
theorem gro_but {H H' : Hp} {a : Addr} {xs : List V} (h : H a = some (.lst xs)) (k : ∀ b, b ≠ a → H' b = H b) : Gro H H' := by
  refine ⟨fun b ys q => ?_, fun b o u q => ?_⟩
  · rw [k b (ne_of q h (by intro z; cases z))]
    exact q
  · rw [k b (ne_of q h (by intro z; cases z))]
    exact q
/-! an attribute changed by an operator -/
section
variable {K : PySem.W.Frag} {σ : L2.St} {H : Hp} {D : Ends} {ta tv : TE} {C a : Addr} {f : Str} {fs fs' : List (Str × V)} {v x y z : V} {rd : V → V → Hp → VK → Prop}
def augq (K : PySem.W.Frag) (f : Str) (tv : TE) (rd : V → V → Hp → VK → Prop) (x : V) (σ : L2.St) (D : Ends) (H1 : Hp) : Prop := ∃ a C dx fs v, x = .ref a ∧ H1 a = some (.ins C dx fs) ∧ Cls K C ∧ NoAttr K C f ∧ fs.lookup f = some v ∧
  tv σ H1 fun y H2 => rd v y H2 fun z H3 => ∃ dx' fs', H3 a = some (.ins C dx' fs') ∧ fs'.length < 1000 ∧ D.nx σ (upd H3 a (.ins C dx' (putF f z fs')))
def putq (a C : Addr) (f : Str) (σ : L2.St) (D : Ends) : VK := fun z H3 => ∃ dx' fs', H3 a = some (.ins C dx' fs') ∧ fs'.length < 1000 ∧ D.nx σ (upd H3 a (.ins C dx' (putF f z fs')))
theorem r_fldaug (q : ta σ H fun x H1 => augq K f tv rd x σ D H1) : sFldAug K ta tv rd f D σ H := q
theorem r_augq (h : Ins H a C fs) (c : Cls K C) (n : NoAttr K C f) (l : fs.lookup f = some v) (q : tv σ H fun y H2 => rd v y H2 (putq a C f σ D)) : augq K f tv rd (.ref a) σ D H := let ⟨dx, e⟩ := h; ⟨a, C, dx, fs, v, rfl, e, c, n, l, q⟩
theorem r_inAdd {i j : Int} {Q : VK} (q : Q (.int (i + j)) H) : rAdd (.int i) (.int j) H Q := ⟨i, j, rfl, rfl, q⟩
theorem r_inSub {i j : Int} {Q : VK} (q : Q (.int (i - j)) H) : rSub (.int i) (.int j) H Q := ⟨i, j, rfl, rfl, q⟩
theorem r_putq (h : Ins H a C fs) (hl : fs.length < 1000) (e : putF f z fs = fs') (k : ∀ H', Ins H' a C fs' → Fput a H H' → D.nx σ H') : putq a C f σ D z H := by
  obtain ⟨dx, he⟩ := h
  subst e
  exact ⟨dx, fs, he, hl, k _ ⟨dx, upd_same⟩ ⟨fun b hb => upd_ne hb, C, fs, dx, he⟩⟩
end
theorem get_mapG {α β : Type} {f : α → β} {xs : List α} {i : Nat} {y : β} (h : (xs.map f)[i]? = some y) : ∃ x, xs[i]? = some x ∧ f x = y := by
  rw [List.getElem?_map] at h
  cases e : xs[i]? with
  | none =>
    rw [e] at h
    cases h
  | some x =>
    rw [e] at h
    exact ⟨x, rfl, Option.some.inj h⟩
end Dk

/-! Defs that raise, own exceptions, except clauses. -/
namespace Dk
open PySem PySem.Spec PyProof.Rows L2
/-- an exception class of the program without its own __init__ -/
def Xco (K : PySem.W.Frag) (C : Addr) : Prop := PySem.W.excIn K C He.veBase "ValueError.__new__" = true ∧ PySem.W.keepIn K (.ref C) = true ∧ PySem.W.subIn K (.ref C) (.type "BaseException") = some true ∧ PySem.W.typeIn K (.ref C) = some (.type "type")
section
variable {e : Wd} {C : Addr} {m x qual : Str} {st : Stmt} {N ps : List Str} {k : Nat} {sp : Sp}
abbrev cxX (e : Wd) (N : List Str) (qual : Str) (scope : Scope) (f : Addr) (cdv : Value) (A : Around) (outer : List Env) (s : Shared) (H : Hp) (E : XK) : Cx := cxOf (L2.CX e.P e.w) e.P e.w e.K e.mg e.base N qual scope f cdv A outer s H E
/-- what a raising body has to show -/
abbrev BodyX (e : Wd) (qual : Str) (st : Stmt) (N : List Str) (k : Nat) (sp : Sp) : Prop :=
  ∀ (cdv : Value) (f : Addr) (A : Around) (outer : List Env) (s : Shared) (H : Hp) (vs : List V) (Q : VK) (E : XK), Room k (A.deeper (envOfC qual (defScope st) s.heap.objs.size f cdv)) → sp vs H Q E →
    Takes (cxX e N qual (defScope st) f cdv A outer s H E) (fun cls d _ H' => E cls d H') → PassesOwn (model e.P e.w) (cxX e N qual (defScope st) f cdv A outer s H E).A (cxX e N qual (defScope st) f cdv A outer s H E).env (cxX e N qual (defScope st) f cdv A outer s H E).xe →
    ∃ t, PSs (cxX e N qual (defScope st) f cdv A outer s H E) (defBody st) t ∧ t { nx := fun _ H' => Q .non H', rt := Q } (start N vs) H
theorem fnokX {f : Addr} {fd : FuncData} (F : FunD e.K x qual (defArgs st) (defBody st) (defScope st) [] [] f fd) (S : FnScope N ps (defScope st)) (len : ∀ vs H Q E, sp vs H Q E → vs.length = ps.length) (hb : BodyX e qual st N k sp) : FnOk e.P e.w e.K e.mg e.base (L2.CX e.P e.w) (k + 1) f fd ps sp :=
  F.ok S len fun cdv A outer s H vs Q E hr h => hb cdv f A outer s H vs Q E hr h (takes_of rfl rfl rfl rfl) (passes_of rfl)
theorem canX_of (D : DefAt e x st) (S : FnScope N ps (defScope st)) (B : BindOk x st ps) (len : ∀ vs H Q E, sp vs H Q E → vs.length = ps.length) (hb : BodyX e x st N k sp) : Can e (k + 1) x ps sp := by
  obtain ⟨f, fd, F, m⟩ := D
  exact ⟨f, fd, fnokX F S len hb, m, F.kp, F.bindsN B⟩
theorem canMX_of (D : MethAt e C m qual st) (S : FnScope N ps (defScope st)) (B : BindQ m qual st ps) (len : ∀ vs H Q E, sp vs H Q E → vs.length = ps.length) (hb : BodyX e qual st N k sp) : CanM e (k + 1) C m ps sp := by
  obtain ⟨f, fd, F, M, c⟩ := D
  exact ⟨f, fd, fnokX F S len hb, c, M, F.bindsN B⟩
end
/-! ### calls that may raise -/
section
variable {X : Cx} {W : WX} {k : Nat} {C : Addr} {m x : Str} {ps : List Str} {sp : Sp} {o e : Expr} {es : List Expr} {p pos apos : Pos} {ta : TE} {t : TA}
theorem pe_canX (tk : Takes X W) (c : Can (wdOf X) k x ps sp) (hr : Room k X.A) (ha : PA X (e :: es) t) (hg : Gl X x := by rfl)
    (hdb : (x == ("__debug__" : Str)) = false := by decide) (he : starEach (e :: es) X.env = (false, eval e X.env) :: starEach es X.env := by rfl) (hpl : (backTo pos (starEach es X.env)).any (·.1) = false := by rfl) : PE X (.Call (.Name x p) (e :: es) [] pos) (tCallS sp (WE W) t) := by
  obtain ⟨f, fd, F, m, kp, b⟩ := c
  exact pe_callS F hr hg m kp b (fun σ => passAt tk σ) ha hdb he hpl
theorem pe_canX0 (tk : Takes X W) (c : Can (wdOf X) k x ps sp) (hr : Room k X.A) (hg : Gl X x := by rfl) (hdb : (x == ("__debug__" : Str)) = false := by decide) : PE X (.Call (.Name x p) [] [] pos) (tCallS sp (WE W) tNil) := by
  obtain ⟨f, fd, F, m, kp, b⟩ := c
  exact ⟨fun pins s σ H Q I h => wpAny_Call_Name_kw (ld_glob I hg m (PySem.W.callWith_K0 I.kIn kp (run_fnS (us := []) F hr b (passAt tk σ) I .nil h)) hdb)⟩
/-- o.m(..) that may raise -/
def tMethX (C : Addr) (m : Str) (sp : Sp) (E : L2.St → XK) (ta : TE) (t : TA) : TE := fun σ H Q => ta σ H fun x H1 => methq C m x H1 (t σ H1 fun vs H2 => sp (x :: vs) H2 Q (E σ))
theorem pe_canMX {pl : Sem Bool} (tk : Takes X W) (c : CanM (wdOf X) k C m ps sp) (hr : Room k X.A) (he : PE X o ta) (ha : PA X (e :: es) t)
    (hst : starEach (e :: es) X.env = (false, eval e X.env) :: starEach es X.env := by rfl) (hpl : (backTo pos (starEach es X.env)).any (·.1) = false := by rfl)
    (ht : eval (.Call (.Attribute o m apos) (e :: es) [] pos) X.env = (do let ov ← eval o X.env; standAt apos.atName; let (f, first) ← holding [ov] (getMethod ov m pl); callWith pos f first (backTo pos (starEach (e :: es) X.env)) (backToKw pos (keywordEach [] X.env))) := by rfl) :
    PE X (.Call (.Attribute o m apos) (e :: es) [] pos) (tMethX C m sp (WE W) ta t) := by
  obtain ⟨f, fd, F, c, M, b⟩ := c
  refine ⟨fun pins s σ H Q I h => PySem.W.methodCall_KW (pl := pl) (thn (he.run pins s σ H _ I h) fun u s1 ⟨x, H1, I1, rx, a, dx, fs, ex, ea, l, q⟩ => ?_) ht⟩
  cases ex
  cases rx
  exact getmeth_ok I1 ea c M l (PySem.W.callWith_K (first := [.ref a]) (h₀ := X.base) I.ok.mod.kin M.kp (thn (ha.run pos pins s1 σ H1 _ I1 q) fun us s2 ⟨vs, H2, I2, r, q2⟩ => ⟨I2.kIn, run_fnS (us := .ref a :: us) (vs := .ref a :: vs) F hr b (passAt tk σ) I2 (.cons rfl r) q2⟩) hst hpl)
theorem pe_canMX0 {pl : Sem Bool} (tk : Takes X W) (c : CanM (wdOf X) k C m ps sp) (hr : Room k X.A) (he : PE X o ta)
    (ht : eval (.Call (.Attribute o m apos) [] [] pos) X.env = (do let ov ← eval o X.env; standAt apos.atName; let (f, first) ← holding [ov] (getMethod ov m pl); callWith pos f first (backTo pos (starEach [] X.env)) (backToKw pos (keywordEach [] X.env))) := by rfl) :
    PE X (.Call (.Attribute o m apos) [] [] pos) (tMethX C m sp (WE W) ta tNil) := by
  obtain ⟨f, fd, F, c, M, b⟩ := c
  refine ⟨fun pins s σ H Q I h => PySem.W.methodCall_KW (pl := pl) (thn (he.run pins s σ H _ I h) fun u s1 ⟨x, H1, I1, rx, a, dx, fs, ex, ea, l, q⟩ => ?_) ht⟩
  cases ex
  cases rx
  exact getmeth_ok I1 ea c M l (PySem.W.callWith_K0 (first := [.ref a]) I1.kIn M.kp (run_fnS (us := [.ref a]) (vs := [.ref a]) F hr b (passAt tk σ) I1 (.cons rfl .nil) q))
end
/-! ### raise -/
section
variable {X : Cx} {W : WX} {K : PySem.W.Frag} {C : Addr} {x : Str} {e : Expr} {p pos : Pos} {ta : TE} {t : L2.St → Hp → XK → Prop} {D : Ends} {σ : L2.St} {H : Hp} {cls : Value} {d : Option Addr} {i : Nat} {ts : Addr → Value → Option Addr → TS} {Wout : WX}
def tMk0 (C : Addr) : L2.St → Hp → XK → Prop := fun _ H Q => Q (.ref C) none H
def tMk1 (C : Addr) (ta : TE) : L2.St → Hp → XK → Prop := fun σ H Q => ta σ H fun _ H1 => Q (.ref C) none H1
theorem mk0 (xo : Xco X.K C) (g : X.mg x = some (.ref C)) (hg : Gl X x := by rfl) (hdb : (x == ("__debug__" : Str)) = false := by decide) : PMk X (.Call (.Name x p) [] [] pos) (tMk0 C) := by
  obtain ⟨h1, h2, h3, h4⟩ := xo
  intro pins s σ H Q I h
  obtain ⟨bm, N, nm, qn, bs, hdct, sn, sub, ab, col, dd, k0, k1, k2, k3, k5, mN, hC, hN, hni, T⟩ := exc_obj I.kIn h1
  refine wpAny_Call_Name_kw (ld_glob I hg g (PySem.W.callWith_K0 I.kIn h2 ?_) hdb)
  show wpAny _ _ (call (.ref C) []) _ _ _
  exact wpAny_call_exc_subT PySem.F.excBase_ValueError T hC hN hni (fun h' e hm => mk_of I hm (raises_own h3 h4) h (I.hok.gone hm.new)) (Nat.zero_le _)
theorem mk1 (xo : Xco X.K C) (g : X.mg x = some (.ref C)) (he : PE X e ta) (hg : Gl X x := by rfl) (hs : starEach [e] X.env = (false, eval e X.env) :: starEach [] X.env := by rfl) (hdb : (x == ("__debug__" : Str)) = false := by decide) :
    PMk X (.Call (.Name x p) [e] [] pos) (tMk1 C ta) := by
  obtain ⟨h1, h2, h3, h4⟩ := xo
  exact SkE.pmk_own1 PySem.F.excBase_ValueError h1 g h2 (raises_own h3 h4) hg he hs hdb
def tRaise (t : L2.St → Hp → XK → Prop) (W : WX) : TS := fun _ σ H => t σ H fun cls d H' => W cls d σ H'
theorem ps_raiseU (hc : X.calm = true) (tk : Takes X W) (he : PMk X e t) : PS X (.Raise (some e) none pos) (tRaise t W) := ps_raise hc tk he
/-- a statement that is not reached -/
theorem ps_never {s : Stmt} : PS X s (fun _ _ _ => False) := ⟨fun _ _ _ _ _ _ h => h.elim⟩
theorem r_raise0 (q : W (.ref C) none σ H) : tRaise (tMk0 C) W D σ H := q
theorem r_raise1 (q : ta σ H fun _ H1 => W (.ref C) none σ H1) : tRaise (tMk1 C ta) W D σ H := q
/-! ### except clauses -/
/-- what an exception finds: the clause, or nothing -/
def tTryA (K : PySem.W.Frag) (c : Value) (i : Nat) (ts : Addr → Value → Option Addr → TS) (Wout : WX) (tb : WX → TS) : TS := fun D σ H => tb (wAs K c i ts Wout D) D σ H
def tTryO (K : PySem.W.Frag) (c : Value) (ts : Addr → Value → Option Addr → TS) (Wout : WX) (tb : WX → TS) : TS := fun D σ H => tb (wOnly K c ts Wout D) D σ H
theorem r_tryA {tb : WX → TS} (q : tb (wAs K (.ref C) i ts Wout D) D σ H) : tTryA K (.ref C) i ts Wout tb D σ H := q
theorem r_tryO {tb : WX → TS} (q : tb (wOnly K (.ref C) ts Wout D) D σ H) : tTryO K (.ref C) ts Wout tb D σ H := q
theorem r_wAsT {c : Value} (h : PySem.W.exmOne K cls c = some true) (k : ∀ a, H a = none → ts a cls d { nx := fun σ' H' => D.nx (σ'.set i none) H', rt := D.rt, bk := fun σ' H' => D.bk (σ'.set i none) H', ct := fun σ' H' => D.ct (σ'.set i none) H' } (σ.set i (some (.ref a))) H) : wAs K c i ts Wout D cls d σ H :=
  ⟨true, h, fun _ => k, (fun z => absurd z.symm Bool.false_ne_true)⟩
theorem r_wAsF {c : Value} (h : PySem.W.exmOne K cls c = some false) (k : Wout cls d σ H) : wAs K c i ts Wout D cls d σ H := ⟨false, h, (fun z => absurd z Bool.false_ne_true), fun _ => k⟩
theorem r_wOnlyT {c : Value} (h : PySem.W.exmOne K cls c = some true) (k : ∀ a, H a = none → ts a cls d D σ H) : wOnly K c ts Wout D cls d σ H := ⟨true, h, fun _ => k, (fun z => absurd z.symm Bool.false_ne_true)⟩
theorem r_wOnlyF {c : Value} (h : PySem.W.exmOne K cls c = some false) (k : Wout cls d σ H) : wOnly K c ts Wout D cls d σ H := ⟨false, h, (fun z => absurd z Bool.false_ne_true), fun _ => k⟩
/-- isinstance(e, a class) of the exception in hand -/
def rIsX (K : PySem.W.Frag) (cls : Value) (d : Option Addr) (a : Addr) : List V → Hp → VK → Prop := fun xs H Q => ∃ D, cls = .ref D ∧ d = none ∧ ExcC K D ∧ rIsE K D a xs H Q
theorem call_isX {a : Addr} {oe : Obj} {pn : List (Addr × Obj)} (hz : Zc cls d oe) (hf : ∃ vs, oe.data = .fields vs) (hK : X.K = K := by rfl) : CallR (X.suite a ((a, oe) :: pn)) (.builtin "isinstance") (rIsX K cls d a) := by
  subst hK
  intro pins s σ H xs us Q I r ⟨D, e1, e2, c, q⟩
  subst e1 e2
  exact call_isE c hz hf pins s σ H xs us Q I r q
theorem r_isX {a D2 : Addr} {b : Bool} {Q : VK} (h : ExcC K C) (hk : PySem.W.kitOne K (.ref C) (.ref D2) = some b) (q : Q (.bl b) H) : rIsX K (.ref C) none a [.ref a, .ref D2] H Q :=
  ⟨C, rfl, rfl, h, .ref D2, .ref D2, b, rfl, fun u r => r, hk, q⟩
theorem r_isXt {a : Addr} {n : String} {b : Bool} {Q : VK} (h : ExcC K C) (hk : PySem.W.kitOne K (.ref C) (.type n) = some b) (q : Q (.bl b) H) : rIsX K (.ref C) none a [.ref a, .ty n] H Q :=
  ⟨C, rfl, rfl, h, .ty n, .type n, b, rfl, fun u r => r, hk, q⟩
end
/-! ### readings of calls that may raise -/
section
variable {σ : L2.St} {H : Hp} {Q : VK} {ta : TE} {t : TA} {C : Addr} {m : Str} {sp : Sp} {E : L2.St → XK} {W : WX}
theorem r_callS (q : t σ H fun vs H1 => sp vs H1 Q (E σ)) : tCallS sp E t σ H Q := q
theorem r_methX (q : ta σ H fun x H1 => methq C m x H1 (t σ H1 fun vs H2 => sp (x :: vs) H2 Q (E σ))) : tMethX C m sp E ta t σ H Q := q
end
section
variable {X : Cx} {K : PySem.W.Frag} {x n : Str} {C : Addr} {i : Nat} {body suite : List Stmt} {b₀ : Stmt} {np pos pos' : Pos} {tb : WX → TS} {ts : Addr → Value → Option Addr → TS} {Wout : WX}
theorem ps_tryA (hs : X.stack = X.env :: X.outer) (hf : X.env.frame = some X.env.locals) (hN : X.N.Nodup) (hi : X.N[i]? = some n) (hln : X.env.kindOf n = some .local) (hc : Names X x (.ref C)) (tk : Takes X Wout)
    (hb : ∀ (W : WX) (pn : List (Addr × Obj)) (xe : Value → Shared → Prop), Takes (X.tr pn xe) W → PassesOwn (model X.prog X.w) X.A X.env xe → PSs (X.tr pn xe) body (tb W))
    (hsu : ∀ (a : Addr) (oe : Obj) (cls : Value) (d : Option Addr) (pn : List (Addr × Obj)), Zc cls d oe → (∃ vs, oe.data = .fields vs) → PSs (X.suite a ((a, oe) :: pn)) (b₀ :: suite) (ts a cls d)) (hK : X.K = K := by rfl) :
    PS X (.Try body [.ExceptHandler (some (.Name x np)) (some n) (b₀ :: suite) pos'] [] [] pos) (tTryA K (.ref C) i ts Wout tb) := by
  subst hK
  exact ps_try_as hs hf hN hi hln hc tk hb hsu
theorem ps_tryO (hs : X.stack = X.env :: X.outer) (hf : X.env.frame = some X.env.locals) (hc : Names X x (.ref C)) (tk : Takes X Wout)
    (hb : ∀ (W : WX) (pn : List (Addr × Obj)) (xe : Value → Shared → Prop), Takes (X.tr pn xe) W → PassesOwn (model X.prog X.w) X.A X.env xe → PSs (X.tr pn xe) body (tb W))
    (hsu : ∀ (a : Addr) (oe : Obj) (cls : Value) (d : Option Addr) (pn : List (Addr × Obj)), Zc cls d oe → (∃ vs, oe.data = .fields vs) → PSs (X.suite a ((a, oe) :: pn)) (b₀ :: suite) (ts a cls d)) (hK : X.K = K := by rfl) :
    PS X (.Try body [.ExceptHandler (some (.Name x np)) none (b₀ :: suite) pos'] [] [] pos) (tTryO K (.ref C) ts Wout tb) := by
  subst hK
  exact ps_try_only hs hf hc tk hb hsu
/-- a class of the module by its name -/
theorem pe_gc (h : X.mg x = some (.ref C)) (hg : Gl X x := by rfl) (hd : (x == ("__debug__" : Str)) = false := by decide) : PE X (.Name x pos) (tC (.ref C)) := pe_glob hg h rfl hd
def uAll (K : PySem.W.Frag) : List V → Hp → VK → Prop := fun vs H Q => ∃ (a : Addr) (bs : List Bool), vs = [V.ref a] ∧ SqL K H a (bs.map V.bl) ∧ Q (.bl (bs.all id)) H
def uAny (K : PySem.W.Frag) : List V → Hp → VK → Prop := fun vs H Q => ∃ (a : Addr) (bs : List Bool), vs = [V.ref a] ∧ SqL K H a (bs.map V.bl) ∧ Q (.bl (bs.any id)) H
theorem call_allU (hc : X.calm = true) (hK : X.K = K := by rfl) : CallR X (.builtin "all") (uAll K) := by
  subst hK
  exact cr_all hc
theorem call_anyU (hc : X.calm = true) (hK : X.K = K := by rfl) : CallR X (.builtin "any") (uAny K) := by
  subst hK
  exact cr_any hc
variable {H : Hp} {Q : VK} {a : Addr} {bs : List Bool}
theorem r_all (h : H a = some (.lst (bs.map V.bl))) (q : Q (.bl (bs.all id)) H) : uAll K [.ref a] H Q := ⟨a, bs, rfl, SqL.of h, q⟩
theorem r_any (h : H a = some (.lst (bs.map V.bl))) (q : Q (.bl (bs.any id)) H) : uAny K [.ref a] H Q := ⟨a, bs, rfl, SqL.of h, q⟩
end
end Dk

/-! Objects that change: trees of lists and instances, each object once. -/
namespace Dk
open PySem PySem.Spec PyProof.Rows L2
inductive Tr where
  | dat (d : PyData)
  | lst (ts : List Tr)
  | tup (ts : List Tr)
  | ins (C : Addr) (ns : List Str) (ts : List Tr)
mutual
/-- v is the tree t; its own objects stand at fp -/
inductive Own (H : Hp) : V → Tr → List Addr → Prop
  | dat {v : V} {d : PyData} : Dq H v d → Own H v (.dat d) []
  | lst {a : Addr} {vs : List V} {ts : List Tr} {fp : List Addr} : H a = some (.lst vs) → Owns H vs ts fp → a ∉ fp → Own H (.ref a) (.lst ts) (a :: fp)
  | tup {a : Addr} {vs : List V} {ts : List Tr} {fp : List Addr} : H a = some (.tup vs) → Owns H vs ts fp → Own H (.ref a) (.tup ts) fp
  | ins {a dx C : Addr} {fs : List (Str × V)} {ns : List Str} {ts : List Tr} {fp : List Addr} : H a = some (.ins C dx fs) → fs.map (·.1) = ns → Owns H (fs.map (·.2)) ts fp → a ∉ fp → Own H (.ref a) (.ins C ns ts) (a :: fp)
inductive Owns (H : Hp) : List V → List Tr → List Addr → Prop
  | nil : Owns H [] [] []
  | cons {v : V} {t : Tr} {fp : List Addr} {vs : List V} {ts : List Tr} {gp : List Addr} : Own H v t fp → Owns H vs ts gp → (∀ b ∈ fp, b ∉ gp) → Owns H (v :: vs) (t :: ts) (fp ++ gp)
end
/-- no place in common -/
def Dsj (fp gp : List Addr) : Prop := ∀ b ∈ fp, b ∉ gp
theorem Dsj.symm {fp gp : List Addr} (h : Dsj fp gp) : Dsj gp fp := fun b h1 h2 => h b h2 h1
/-- a step that changes what stands at F, which is F' behind it -/
structure Chg (F F' : List Addr) (H H' : Hp) : Prop where
  kp : ∀ b o, H b = some o → b ∉ F → H' b = some o
  nw : ∀ b ∈ F', b ∈ F ∨ H b = none
  gro : Gro H H'
theorem Chg.refl (F : List Addr) (H : Hp) : Chg F F H H := ⟨fun _ _ h _ => h, fun _ h => .inl h, Gro.refl H⟩
theorem Chg.trans {F F1 F2 : List Addr} {H H1 H2 : Hp} (a : Chg F F1 H H1) (b : Chg F1 F2 H1 H2) : Chg F F2 H H2 := by
  refine ⟨fun c o h n => b.kp c o (a.kp c o h n) fun m => ?_, fun c hc => ?_, a.gro.trans b.gro⟩
  · rcases a.nw c m with z | z
    · exact n z
    · rw [z] at h
      cases h
  · rcases b.nw c hc with z | z
    · exact a.nw c z
    · by_cases m : c ∈ F
      · exact .inl m
      · right
        cases q : H c with
        | none => rfl
        | some o =>
          rw [a.kp c o q m] at z
          cases z
theorem Chg.same {F : List Addr} {H H' : Hp} (s : Same H H') : Chg F F H H' := ⟨fun b o h _ => s b o h, fun _ h => .inl h, Gro.same s⟩
theorem Chg.snd {F F' : List Addr} {H H1 H2 : Hp} (a : Chg F F' H H1) (s : Same H1 H2) : Chg F F' H H2 := a.trans (Chg.same s)
theorem Chg.le {F F' G : List Addr} {H H' : Hp} (a : Chg F F' H H') (h : ∀ b ∈ G, b ∈ F') : Chg F G H H' := ⟨a.kp, fun b hb => a.nw b (h b hb), a.gro⟩
/-- more may be changed than is -/
theorem Chg.wide {F F' G : List Addr} {H H' : Hp} (a : Chg F F' H H') : Chg (F ++ G) (F' ++ G) H H' :=
  ⟨fun b o h n => a.kp b o h fun m => n (List.mem_append_left _ m), fun b hb => (List.mem_append.mp hb).elim (fun z => (a.nw b z).elim (fun y => .inl (List.mem_append_left _ y)) .inr) fun z => .inl (List.mem_append_right _ z), a.gro⟩
theorem Chg.at_ {F F' : List Addr} {H H' : Hp} {b : Addr} {o : HO} (c : Chg F F' H H') (h : H b = some o) (n : b ∉ F) : H' b = some o := c.kp b o h n
theorem Chg.drw {F F' : List Addr} {H H' : Hp} {a : Addr} (c : Chg F F' H H') (h : Drw H a) (n : a ∉ F) : Drw H' a := let ⟨x, y, e⟩ := h; ⟨x, y, c.kp a _ e n⟩
theorem Chg.out {F F' : List Addr} {H H' : Hp} {b : Addr} {o : HO} (c : Chg F F' H H') (h : H b = some o) (n : b ∉ F) : b ∉ F' := fun m => by
  rcases c.nw b m with z | z
  · exact n z
  · rw [z] at h
    cases h
theorem Stp.chg {a : Addr} {H H' : Hp} (s : Stp a H H') : Chg [a] [a] H H' := ⟨fun b o h n => s.fr b o h fun e => n (by rw [e]; exact List.mem_singleton.mpr rfl), fun b h => .inl h, s.gro⟩
theorem Chg.stp {a : Addr} {H H' : Hp} (c : Chg [a] [a] H H') (d : Drw H' a) : Stp a H H' := ⟨fun b o h n => c.kp b o h fun m => n (List.mem_singleton.mp m), c.gro, d⟩
mutual
theorem Own.frame {H H' : Hp} (g : Gro H H') : ∀ {t : Tr} {v : V} {fp : List Addr}, Own H v t fp → (∀ b ∈ fp, H' b = H b) → Own H' v t fp
  | .dat d, _, _, h, _ => by
    cases h with
    | dat h => exact .dat (h.mono g)
  | .lst ts, _, _, h, k => by
    cases h with
    | lst ha hs n => exact .lst (by rw [k _ List.mem_cons_self]; exact ha) (Owns.frame g hs fun b hb => k b (List.mem_cons_of_mem _ hb)) n
  | .tup ts, _, _, h, k => by
    cases h with
    | tup ha hs => exact .tup (g.tup _ _ ha) (Owns.frame g hs k)
  | .ins C ns ts, _, _, h, k => by
    cases h with
    | ins ha he hs n => exact .ins (by rw [k _ List.mem_cons_self]; exact ha) he (Owns.frame g hs fun b hb => k b (List.mem_cons_of_mem _ hb)) n
theorem Owns.frame {H H' : Hp} (g : Gro H H') : ∀ {ts : List Tr} {vs : List V} {fp : List Addr}, Owns H vs ts fp → (∀ b ∈ fp, H' b = H b) → Owns H' vs ts fp
  | [], _, _, h, _ => by cases h; exact .nil
  | t :: ts, _, _, h, k => by
    cases h with
    | cons h1 h2 n => exact .cons (Own.frame g h1 fun b hb => k b (List.mem_append_left _ hb)) (Owns.frame g h2 fun b hb => k b (List.mem_append_right _ hb)) n
end
/-- the objects of a tree stand, and are no tuples, nothing that is locked -/
def Mt (o : Option HO) : Prop := ∃ u, o = some u ∧ (∀ xs, u ≠ .tup xs) ∧ ∀ ob w, u ≠ .frz ob w
theorem mt_lst {o : Option HO} {xs : List V} (h : o = some (.lst xs)) : Mt o := ⟨_, h, (fun _ z => by cases z), (fun _ _ z => by cases z)⟩
theorem mt_ins {o : Option HO} {C dx : Addr} {fs : List (Str × V)} (h : o = some (.ins C dx fs)) : Mt o := ⟨_, h, (fun _ z => by cases z), (fun _ _ z => by cases z)⟩
mutual
theorem Own.there {H : Hp} : ∀ {t : Tr} {v : V} {fp : List Addr}, Own H v t fp → ∀ b ∈ fp, Mt (H b)
  | .dat d, _, _, h, b, hb => by
    cases h
    exact absurd hb List.not_mem_nil
  | .lst ts, _, _, h, b, hb => by
    cases h with
    | lst ha hs n =>
      rcases List.mem_cons.mp hb with e | hb
      · exact mt_lst (e ▸ ha)
      · exact Owns.there hs b hb
  | .tup ts, _, _, h, b, hb => by
    cases h with
    | tup ha hs => exact Owns.there hs b hb
  | .ins C ns ts, _, _, h, b, hb => by
    cases h with
    | ins ha he hs n =>
      rcases List.mem_cons.mp hb with e | hb
      · exact mt_ins (e ▸ ha)
      · exact Owns.there hs b hb
theorem Owns.there {H : Hp} : ∀ {ts : List Tr} {vs : List V} {fp : List Addr}, Owns H vs ts fp → ∀ b ∈ fp, Mt (H b)
  | [], _, _, h, b, hb => by
    cases h
    exact absurd hb List.not_mem_nil
  | t :: ts, _, _, h, b, hb => by
    cases h with
    | cons h1 h2 n => exact (List.mem_append.mp hb).elim (fun z => Own.there h1 b z) fun z => Owns.there h2 b z
end
section
variable {H H' : Hp} {v : V} {t : Tr} {F F' fp : List Addr} {vs : List V} {ts : List Tr}
theorem Own.same (s : Same H H') (h : Own H v t fp) : Own H' v t fp := h.frame (Gro.same s) fun b hb => by
  obtain ⟨u, e, _⟩ := h.there b hb
  rw [e]
  exact s b u e
theorem Owns.same (s : Same H H') (h : Owns H vs ts fp) : Owns H' vs ts fp := h.frame (Gro.same s) fun b hb => by
  obtain ⟨u, e, _⟩ := h.there b hb
  rw [e]
  exact s b u e
theorem Own.chg (c : Chg F F' H H') (n : Dsj F fp) (h : Own H v t fp) : Own H' v t fp := h.frame c.gro fun b hb => by
  obtain ⟨u, e, _⟩ := h.there b hb
  rw [e]
  exact c.kp b u e fun m => n b m hb
theorem Owns.chg (c : Chg F F' H H') (n : Dsj F fp) (h : Owns H vs ts fp) : Owns H' vs ts fp := h.frame c.gro fun b hb => by
  obtain ⟨u, e, _⟩ := h.there b hb
  rw [e]
  exact c.kp b u e fun m => n b m hb
/-- the other tree stays apart -/
theorem Own.apart (c : Chg F F' H H') (n : Dsj F fp) (h : Own H v t fp) : Dsj F' fp := fun b hb m => by
  obtain ⟨u, e, _⟩ := h.there b m
  exact c.out e (fun z => n b z m) hb
theorem Owns.apart (c : Chg F F' H H') (n : Dsj F fp) (h : Owns H vs ts fp) : Dsj F' fp := fun b hb m => by
  obtain ⟨u, e, _⟩ := h.there b m
  exact c.out e (fun z => n b z m) hb
theorem Own.stp {a : Addr} (s : Stp a H H') (n : a ∉ fp) (h : Own H v t fp) : Own H' v t fp := h.chg s.chg fun b hb m => n (List.mem_singleton.mp hb ▸ m)
theorem Own.new_out {a : Addr} (h : Own H v t fp) (n : H a = none) : a ∉ fp := fun m => by
  obtain ⟨u, e, _⟩ := h.there a m
  rw [n] at e
  cases e
theorem Owns.new_out {a : Addr} (h : Owns H vs ts fp) (n : H a = none) : a ∉ fp := fun m => by
  obtain ⟨u, e, _⟩ := h.there a m
  rw [n] at e
  cases e
theorem Own.tup_out {a : Addr} {xs : List V} (h : Own H v t fp) (n : H a = some (.tup xs)) : a ∉ fp := fun m => by
  obtain ⟨u, e, k, _⟩ := h.there a m
  rw [n] at e
  cases e
  exact k _ rfl
end
/-- what is changed at F: tuples and what is locked stand -/
theorem Chg.of {F F' : List Addr} {H H' : Hp} (k : ∀ b o, H b = some o → b ∉ F → H' b = some o) (m : ∀ b ∈ F, Mt (H b)) (n : ∀ b ∈ F', b ∈ F ∨ H b = none) : Chg F F' H H' := by
  refine ⟨k, n, ⟨fun b xs e => k b _ e fun hb => ?_, fun b o u e => k b _ e fun hb => ?_⟩⟩
  · obtain ⟨w, e1, e2, _⟩ := m b hb
    rw [e] at e1
    exact e2 xs (Option.some.inj e1).symm
  · obtain ⟨w, e1, _, e2⟩ := m b hb
    rw [e] at e1
    exact e2 o u (Option.some.inj e1).symm
/-- a list of ints -/
def intsT (ns : List Int) : Tr := .lst (ns.map fun n => .dat (.int n))
theorem ownsInts {H : Hp} : ∀ ns : List Int, Owns H (ns.map V.int) (ns.map fun n => Tr.dat (.int n)) []
  | [] => .nil
  | n :: ns => .cons (fp := []) (.dat (.int n)) (ownsInts ns) fun _ h => absurd h List.not_mem_nil
theorem ownsInts_of {H : Hp} : ∀ {ns : List Int} {vs : List V} {fp : List Addr}, Owns H vs (ns.map fun n => Tr.dat (.int n)) fp → vs = ns.map V.int ∧ fp = []
  | [], _, _, h => by cases h; exact ⟨rfl, rfl⟩
  | n :: ns, _, _, h => by
    cases h with
    | cons h1 h2 _ =>
      cases h1 with
      | dat h1 =>
        cases h1
        obtain ⟨e1, e2⟩ := ownsInts_of h2
        rw [e1, e2]
        exact ⟨rfl, rfl⟩
theorem Own.intsAt {H : Hp} {v : V} {ns : List Int} {fp : List Addr} (h : Own H v (intsT ns) fp) : ∃ a, v = .ref a ∧ fp = [a] ∧ H a = some (.lst (ns.map V.int)) := by
  cases h with
  | lst ha hs n =>
    obtain ⟨e1, e2⟩ := ownsInts_of hs
    rw [e1] at ha
    rw [e2]
    exact ⟨_, rfl, rfl, ha⟩
theorem Own.mkInts {H : Hp} {a : Addr} {ns : List Int} (h : H a = some (.lst (ns.map V.int))) : Own H (.ref a) (intsT ns) [a] := .lst h (ownsInts ns) List.not_mem_nil
theorem Same.before {H H' : Hp} {r : Addr} (s : Same H H') (h : H' r = none) : H r = none := by
  cases q : H r with
  | none => rfl
  | some o =>
    rw [s r o q] at h
    cases h
/-- what is changed was new -/
theorem Same.but {H H1 H2 : Hp} {r : Addr} (s : Same H H1) (n : H r = none) (k : ∀ b, b ≠ r → H2 b = H1 b) : Same H H2 := fun b o e => by
  rw [k b (ne_of_none e n)]
  exact s b o e
theorem Same.fput {H H1 H2 : Hp} {r : Addr} (s : Same H H1) (n : H r = none) (k : Fput r H1 H2) : Same H H2 := Same.but s n k.kp
theorem but_at {H H' : Hp} {a b : Addr} {o : HO} (k : ∀ c, c ≠ a → H' c = H c) (h : H b = some o) (n : b ≠ a) : H' b = some o := by
  rw [k b n]
  exact h
/-- [e for j in range(m)], the elements of any kind: Iv by the new list, the turn, what is in it, the heap -/
theorem lc_RG {σ : L2.St} {H : Hp} {Q : VK} {te : TE} {vs : List Nat} {j : Nat} {m : Int} (Iv : Addr → Nat → List V → Hp → Prop) (h1 : -(2 ^ 62) ≤ m) (h2 : m < 10000000) (hw : ∀ x, wipe ((wipe σ vs).set j (some x)) vs = wipe σ vs)
    (h0 : ∀ D H', H D = none → H' D = some (.lst []) → (∀ b, b ≠ D → H' b = H b) → Iv D 0 [] H')
    (el : ∀ D (i : Nat) ys H1 (Q1 : VK), (i : Int) < m → H D = none → H1 D = some (.lst ys) → Iv D i ys H1 → (∀ y H2, H2 D = some (.lst ys) → (∀ H3, H3 D = some (.lst (ys ++ [y])) → (∀ b, b ≠ D → H3 b = H2 b) → Iv D (i + 1) (ys ++ [y]) H3) → Q1 y H2) → te ((wipe σ vs).set j (some (.int i))) H1 Q1)
    (k : ∀ D H' ys, H D = none → H' D = some (.lst ys) → Iv D m.toNat ys H' → Q (.ref D) H') : rlq [.int m] j tYes te vs σ H Q := by
  refine ⟨m, rfl, h1, by omega, fun D hD => ?_⟩
  refine lc_it (walk_range (lo := 0) (n := m.toNat)) (Qd := fun H' => Q (.ref D) H') (fun i H' => ∃ ys, H' D = some (.lst ys) ∧ ys.length ≤ i ∧ Iv D i ys H') ?_ (fun _ _ _ _ => trivial) ?_ ?_
  · exact ⟨[], upd_same, Nat.le_refl _, h0 D _ hD upd_same fun b hb => upd_ne hb⟩
  · rintro i x H1 H1' hi ⟨ys, hl, hle, iv⟩ hy
    obtain ⟨rfl, rfl⟩ := hy
    have e0 : (0 : Int) + (i : Int) = (i : Int) := Int.zero_add _
    show gName j (V.int ((0 : Int) + (i : Int))) (wipe σ vs) H1' _
    rw [e0]
    refine ⟨hw _, r_tyes (r_iteT (el D i ys H1' _ (by omega) hD hl iv fun y H2 hl2 kk => ?_))⟩
    exact ⟨ys, hl2, by rw [sizeLine_eq]; omega, ys ++ [y], upd_same, by simp; omega, kk _ upd_same fun b hb => upd_ne hb⟩
  · rintro H' ⟨ys, hl, _, iv⟩
    exact k D H' ys hD hl iv
/-- part of a tuple -/
theorem r_slT {K : PySem.W.Frag} {H : Hp} {Q : VK} {p : Addr} {xs : List V} {lo hi : Option Int} (h : H p = some (.tup xs)) (k : ∀ p H', Same H H' → H' p = some (.tup (cutV xs lo hi)) → Q (.ref p) H') : uSl K (.ref p) lo hi H Q := by
  refine .inr ⟨p, xs, rfl, SqT.of h, fun ⟨e1, e2⟩ => ?_, fun _ q nq => k q _ (same_new nq) upd_same⟩
  refine k p H (Same.refl _) ?_
  rw [h]
  unfold cutV
  rw [e1, e2, List.drop_zero, Nat.sub_zero, List.take_of_length_le (Nat.le_refl _)]
/-- min, max of two ints -/
def uMin2 : List V → Hp → VK → Prop := fun xs H Q => match xs with
  | [.int i, .int j] => Q (.int (if j < i then j else i)) H
  | _ => False
def uMax2 : List V → Hp → VK → Prop := fun xs H Q => match xs with
  | [.int i, .int j] => Q (.int (if i < j then j else i)) H
  | _ => False
theorem call_min2U {X : Cx} (hc : X.calm = true) : CallR X (.builtin "min") uMin2 := by
  refine callw (call_min2 hc) fun xs H Q h => ?_
  match xs, h with
  | [.int i, .int j], h => exact ⟨i, j, rfl, h⟩
theorem r_min2 {H : Hp} {Q : VK} {i j : Int} (q : Q (.int (if j < i then j else i)) H) : uMin2 [.int i, .int j] H Q := q
theorem ins_ne {H : Hp} {a b C : Addr} {fs : List (Str × V)} {xs : List V} (h : Ins H a C fs) (k : H b = some (.lst xs)) : a ≠ b := by
  obtain ⟨dx, h⟩ := h
  intro e
  rw [e, k] at h
  cases h
theorem dsj_one {a : Addr} {fp : List Addr} (h : a ∉ fp) : Dsj [a] fp := fun b hb m => h (List.mem_singleton.mp hb ▸ m)
theorem Fput.chg {p : Addr} {fp : List Addr} {H H' : Hp} (f : Fput p H H') (h : p ∈ fp) : Chg fp fp H H' :=
  ⟨fun b o e n => by rw [f.kp b fun z => n (z ▸ h)]; exact e, fun _ h => .inl h, f.gro⟩
theorem but_chg {p : Addr} {fp : List Addr} {H H' : Hp} {xs : List V} (k : ∀ b, b ≠ p → H' b = H b) (e : H p = some (.lst xs)) (h : p ∈ fp) : Chg fp fp H H' :=
  ⟨fun b o e n => by rw [k b fun z => n (z ▸ h)]; exact e, fun _ h => .inl h, gro_but e k⟩
end Dk

/-! Disks. -/
namespace Dk
open PySem PySem.Spec PyProof.Rows L2
def pwV : Option Int → V
  | none => .non
  | some n => .int n
def pwD : Option Int → PyData
  | none => .none
  | some n => .int n
/-- a disk: two contents, their pending steps, the power -/
structure Dsk where
  c : Nat → List Int
  s : Nat → List Int
  pw : Option Int
def diskF (L S : V) (pw : Option Int) : List (Str × V) := [("durable", L), ("steps", S), ("power", pwV pw)]
def diskT (K : PySem.W.Frag) (D : Dsk) : Tr := .ins (He.ga K "Disk") ["durable", "steps", "power"] [.lst [intsT (D.c 0), intsT (D.c 1)], .lst [intsT (D.s 0), intsT (D.s 1)], .dat (pwD D.pw)]
/-- a disk as it stands -/
structure DkAt (K : PySem.W.Frag) (H : Hp) (p L S : Addr) (ca sa : Nat → Addr) (D : Dsk) : Prop where
  ins : Ins H p (He.ga K "Disk") (diskF (.ref L) (.ref S) D.pw)
  ld : H L = some (.lst [.ref (ca 0), .ref (ca 1)])
  ls : H S = some (.lst [.ref (sa 0), .ref (sa 1)])
  cs : ∀ i, i < 2 → H (ca i) = some (.lst ((D.c i).map V.int))
  ss : ∀ i, i < 2 → H (sa i) = some (.lst ((D.s i).map V.int))
  ls' : L ≠ S
  cc : ca 0 ≠ ca 1
  sss : sa 0 ≠ sa 1
  xs : ∀ i j, i < 2 → j < 2 → ca i ≠ sa j
abbrev diskP (p L S : Addr) (ca sa : Nat → Addr) : List Addr := [p, L, ca 0, ca 1, S, sa 0, sa 1]
theorem ints_ne {H : Hp} {a b x y : Addr} {ns : List Int} (h : H a = some (.lst [.ref x, .ref y])) (k : H b = some (.lst (ns.map V.int))) : a ≠ b := by
  intro e
  rw [e, k] at h
  cases ns with
  | nil => cases h
  | cons n r => cases h
theorem pw_dq {H : Hp} (o : Option Int) : Dq H (pwV o) (pwD o) := by
  cases o with
  | none => exact .non
  | some n => exact .int n
theorem pw_of {H : Hp} {v : V} {o : Option Int} (h : Dq H v (pwD o)) : v = pwV o := by
  cases o with
  | none => cases h; rfl
  | some n => cases h; rfl
theorem DkAt.nodup {K : PySem.W.Frag} {H : Hp} {p L S : Addr} {ca sa : Nat → Addr} {D : Dsk} (d : DkAt K H p L S ca sa D) : (diskP p L S ca sa).Nodup := by
  have h0 := d.cs 0 (by decide)
  have h1 := d.cs 1 (by decide)
  have g0 := d.ss 0 (by decide)
  have g1 := d.ss 1 (by decide)
  have a1 := ins_ne d.ins d.ld
  have a2 := ins_ne d.ins d.ls
  have a3 := ins_ne d.ins h0
  have a4 := ins_ne d.ins h1
  have a5 := ins_ne d.ins g0
  have a6 := ins_ne d.ins g1
  have b1 := ints_ne d.ld h0
  have b2 := ints_ne d.ld h1
  have b3 := ints_ne d.ld g0
  have b4 := ints_ne d.ld g1
  have c1 := ints_ne d.ls h0
  have c2 := ints_ne d.ls h1
  have c3 := ints_ne d.ls g0
  have c4 := ints_ne d.ls g1
  have e1 := d.xs 0 0 (by decide) (by decide)
  have e2 := d.xs 0 1 (by decide) (by decide)
  have e3 := d.xs 1 0 (by decide) (by decide)
  have e4 := d.xs 1 1 (by decide) (by decide)
  have f1 := d.ls'
  have f2 := d.cc
  have f3 := d.sss
  simp only [List.nodup_cons, List.mem_cons, List.not_mem_nil, or_false, not_or, not_false_eq_true, List.nodup_nil, and_true]
  exact ⟨⟨a1, a3, a4, a2, a5, a6⟩, ⟨b1, b2, f1, b3, b4⟩, ⟨f2, c1.symm, e1, e2⟩, ⟨c2.symm, e3, e4⟩, ⟨c3, c4⟩, f3⟩
theorem owns2 {H : Hp} {vs : List V} {xs ys : List Int} {fp : List Addr} (h : Owns H vs [intsT xs, intsT ys] fp) : ∃ a b, vs = [.ref a, .ref b] ∧ fp = [a, b] ∧ a ≠ b ∧ H a = some (.lst (xs.map V.int)) ∧ H b = some (.lst (ys.map V.int)) := by
  cases h with
  | cons h1 h2 n =>
    obtain ⟨a, rfl, rfl, ha⟩ := h1.intsAt
    cases h2 with
    | cons h2 h3 n2 =>
      obtain ⟨b, rfl, rfl, hb⟩ := h2.intsAt
      cases h3
      exact ⟨a, b, rfl, rfl, fun e => n a List.mem_cons_self (by rw [e]; exact List.mem_cons_self), ha, hb⟩
theorem owns2_mk {H : Hp} {a b : Addr} {xs ys : List Int} (ha : H a = some (.lst (xs.map V.int))) (hb : H b = some (.lst (ys.map V.int))) (n : a ≠ b) : Owns H [.ref a, .ref b] [intsT xs, intsT ys] [a, b] :=
  .cons (fp := [a]) (gp := [b]) (Own.mkInts ha) (.cons (fp := [b]) (gp := []) (Own.mkInts hb) .nil fun _ _ => List.not_mem_nil) fun x hx hy => n ((List.mem_singleton.mp hx).symm.trans (List.mem_singleton.mp hy))
theorem DkAt.own {K : PySem.W.Frag} {H : Hp} {p L S : Addr} {ca sa : Nat → Addr} {D : Dsk} (d : DkAt K H p L S ca sa D) : Own H (.ref p) (diskT K D) (diskP p L S ca sa) := by
  have nd := d.nodup
  simp only [List.nodup_cons, List.mem_cons, List.not_mem_nil, or_false, not_or, not_false_eq_true, List.nodup_nil, and_true] at nd
  obtain ⟨⟨a1, a2, a3, a4, a5, a6⟩, ⟨b1, b2, b3, b4, b5⟩, ⟨c1, c2, c3, c4⟩, ⟨d1, d2, d3⟩, ⟨e1, e2⟩, f⟩ := nd
  obtain ⟨dx, hi⟩ := d.ins
  refine .ins (fp := [L, ca 0, ca 1, S, sa 0, sa 1]) hi rfl ?_ (by simp [a1, a2, a3, a4, a5, a6])
  show Owns H [.ref L, .ref S, pwV D.pw] _ ([L, ca 0, ca 1] ++ ([S, sa 0, sa 1] ++ ([] ++ [])))
  refine .cons (.lst d.ld (owns2_mk (d.cs 0 (by decide)) (d.cs 1 (by decide)) c1) (by simp [b1, b2])) (.cons (.lst d.ls (owns2_mk (d.ss 0 (by decide)) (d.ss 1 (by decide)) f) (by simp [e1, e2])) (.cons (.dat (pw_dq _)) .nil fun _ h => absurd h List.not_mem_nil) fun _ _ => List.not_mem_nil) ?_
  intro x hx hy
  simp only [List.mem_cons, List.not_mem_nil, or_false, List.append_nil] at hx hy
  rcases hx with rfl | rfl | rfl <;> rcases hy with h | h | h <;> first
    | exact b3 h
    | exact b4 h
    | exact b5 h
    | exact c2 h
    | exact c3 h
    | exact c4 h
    | exact d1 h
    | exact d2 h
    | exact d3 h
theorem Own.disk {K : PySem.W.Frag} {H : Hp} {v : V} {D : Dsk} {fp : List Addr} (h : Own H v (diskT K D) fp) : ∃ p L S ca sa, v = .ref p ∧ fp = diskP p L S ca sa ∧ DkAt K H p L S ca sa D := by
  unfold diskT at h
  generalize hn : ([("durable" : Str), "steps", "power"] : List Str) = ns at h
  cases h with
  | @ins p dx C fs ns ts gp hi he hs n =>
    rw [← hn] at he
    match fs, he with
    | [(x1, v1), (x2, v2), (x3, v3)], he =>
      simp only [List.map_cons, List.map_nil, List.cons.injEq, and_true] at he
      obtain ⟨rfl, rfl, rfl⟩ := he
      simp only [List.map_cons, List.map_nil] at hs
      cases hs with
      | cons h1 hs n1 =>
      cases hs with
      | cons h2 hs n2 =>
      cases hs with
      | cons h3 hs n3 =>
      cases hs
      cases h1 with
      | lst hL o1 m1 =>
      cases h2 with
      | lst hS o2 m2 =>
      cases h3 with
      | dat h3 =>
      obtain ⟨c0, c1, rfl, rfl, cc, hc0, hc1⟩ := owns2 o1
      obtain ⟨s0, s1, rfl, rfl, ss, hs0, hs1⟩ := owns2 o2
      rename_i aL aS
      refine ⟨p, aL, aS, (fun i => if i = 0 then c0 else c1), (fun i => if i = 0 then s0 else s1), rfl, rfl, ⟨⟨dx, by rw [pw_of h3] at hi; exact hi⟩, hL, hS, fun i hi => ?_, fun i hi => ?_, fun e => ?_, cc, ss, fun i j hi hj => ?_⟩⟩
      · match i, hi with
        | 0, _ => exact hc0
        | 1, _ => exact hc1
      · match i, hi with
        | 0, _ => exact hs0
        | 1, _ => exact hs1
      · exact n1 aL (by simp) (by rw [e]; simp)
      · match i, j, hi, hj with
        | 0, 0, _, _ => exact fun e => n1 c0 (by simp) (by rw [show c0 = s0 from e]; simp)
        | 0, 1, _, _ => exact fun e => n1 c0 (by simp) (by rw [show c0 = s1 from e]; simp)
        | 1, 0, _, _ => exact fun e => n1 c1 (by simp) (by rw [show c1 = s0 from e]; simp)
        | 1, 1, _, _ => exact fun e => n1 c1 (by simp) (by rw [show c1 = s1 from e]; simp)
/-- after the steps -/
def appliedM (xs st : List Int) : List Int := st.foldl (fun acc x => if x = -1 then [] else acc ++ [x]) xs
theorem applied_snoc (xs st : List Int) (x : Int) : appliedM xs (st ++ [x]) = if x = -1 then [] else appliedM xs st ++ [x] := by
  unfold appliedM
  rw [List.foldl_append] <;> rfl
theorem applied_len (xs : List Int) : ∀ st : List Int, (appliedM xs st).length ≤ xs.length + st.length := by
  unfold appliedM
  intro st
  induction st generalizing xs with
  | nil => exact Nat.le_refl _
  | cons x r ih =>
    rw [List.foldl_cons, List.length_cons]
    refine Nat.le_trans (ih _) ?_
    split
    · simp; omega
    · rw [List.length_append]; simp; omega
/-- an update of one file's list -/
def setF {α : Type} (f : Nat → α) (i : Nat) (x : α) : Nat → α := fun j => if j = i then x else f j
theorem setF_at {α : Type} (f : Nat → α) (i : Nat) (x : α) : setF f i x i = x := if_pos rfl
theorem setF_ne {α : Type} (f : Nat → α) {i j : Nat} (x : α) (h : j ≠ i) : setF f i x j = f j := if_neg h
theorem at2 (g : Nat → Addr) {f : Nat} (h : f < 2) : atI [V.ref (g 0), V.ref (g 1)] (f : Int) = some (.ref (g f)) := by
  match f, h with
  | 0, _ => rfl
  | 1, _ => rfl
def Dsk.add (D : Dsk) (f : Nat) (ys : List Int) : Dsk := { D with s := setF D.s f (D.s f ++ ys) }
def Dsk.use (D : Dsk) (n : Int) : Dsk := { D with pw := D.pw.map (· - n) }
theorem Dsk.ext {D E : Dsk} (h1 : ∀ i, i < 2 → D.c i = E.c i) (h2 : ∀ i, i < 2 → D.s i = E.s i) (h3 : D.pw = E.pw) (K : PySem.W.Frag) : diskT K D = diskT K E := by
  unfold diskT
  rw [h1 0 (by decide), h1 1 (by decide), h2 0 (by decide), h2 1 (by decide), h3]
section
variable {K : PySem.W.Frag} {H H' : Hp} {p L S : Addr} {ca sa : Nat → Addr} {D : Dsk} {f : Nat} {ys : List Int}
theorem DkAt.fput (d : DkAt K H p L S ca sa D) (g : Fput p H H') {pw : Option Int} (hi : Ins H' p (He.ga K "Disk") (diskF (.ref L) (.ref S) pw)) : DkAt K H' p L S ca sa { D with pw := pw } :=
  ⟨hi, g.lst d.ld, g.lst d.ls, fun i h => g.lst (d.cs i h), fun i h => g.lst (d.ss i h), d.ls', d.cc, d.sss, d.xs⟩
theorem DkAt.sne (d : DkAt K H p L S ca sa D) {i j : Nat} (hi : i < 2) (hj : j < 2) (n : i ≠ j) : sa i ≠ sa j := by
  match i, j, hi, hj, n with
  | 0, 1, _, _, _ => exact d.sss
  | 1, 0, _, _, _ => exact Ne.symm d.sss
  | 0, 0, _, _, n => exact absurd rfl n
  | 1, 1, _, _, n => exact absurd rfl n
theorem DkAt.cne (d : DkAt K H p L S ca sa D) {i j : Nat} (hi : i < 2) (hj : j < 2) (n : i ≠ j) : ca i ≠ ca j := by
  match i, j, hi, hj, n with
  | 0, 1, _, _, _ => exact d.cc
  | 1, 0, _, _, _ => exact Ne.symm d.cc
  | 0, 0, _, _, n => exact absurd rfl n
  | 1, 1, _, _, n => exact absurd rfl n
theorem DkAt.put (d : DkAt K H p L S ca sa D) (hf : f < 2) (h : H' (sa f) = some (.lst (ys.map V.int))) (k : ∀ b, b ≠ sa f → H' b = H b) : DkAt K H' p L S ca sa { D with s := setF D.s f ys } := by
  have g := d.ss f hf
  refine ⟨?_, by rw [k _ (ints_ne d.ld g)]; exact d.ld, by rw [k _ (ints_ne d.ls g)]; exact d.ls, fun i hi => ?_, fun i hi => ?_, d.ls', d.cc, d.sss, d.xs⟩
  · obtain ⟨dx, q⟩ := d.ins
    exact ⟨dx, by rw [k _ (ins_ne d.ins g)]; exact q⟩
  · rw [k _ (d.xs i f hi hf)]
    exact d.cs i hi
  · by_cases e : i = f
    · subst e
      show H' (sa i) = some (.lst ((setF D.s i ys i).map V.int))
      rw [setF_at]
      exact h
    · show H' (sa i) = some (.lst ((setF D.s f ys i).map V.int))
      rw [setF_ne _ _ e, k _ (d.sne hi hf e)]
      exact d.ss i hi
theorem diskP_s (p L S : Addr) (ca sa : Nat → Addr) (hf : f < 2) : sa f ∈ diskP p L S ca sa := by
  match f, hf with
  | 0, _ => simp
  | 1, _ => simp
theorem DkAt.chg_s (d : DkAt K H p L S ca sa D) (hf : f < 2) (k : ∀ b, b ≠ sa f → H' b = H b) : Chg (diskP p L S ca sa) (diskP p L S ca sa) H H' := but_chg k (d.ss f hf) (diskP_s p L S ca sa hf)
theorem set2 (g : Nat → Addr) (hf : f < 2) (r : Addr) : [V.ref (g 0), V.ref (g 1)].set f (.ref r) = [.ref (setF g f r 0), .ref (setF g f r 1)] := by
  match f, hf with
  | 0, _ => rfl
  | 1, _ => rfl
theorem ix2 (hf : f < 2) : ixN 2 (f : Int) = some f := by
  match f, hf with
  | 0, _ => rfl
  | 1, _ => rfl
theorem use0 (D : Dsk) : D.use 0 = D := by
  unfold Dsk.use
  obtain ⟨c, s, pw⟩ := D
  cases pw with
  | none => rfl
  | some n => simp
end
theorem setF_setF {α : Type} (g : Nat → α) (f : Nat) (x y : α) : setF (setF g f x) f y = setF g f y := by
  funext j
  unfold setF
  by_cases e : j = f
  · rw [if_pos e, if_pos e]
  · rw [if_neg e, if_neg e, if_neg e]
theorem pw_step (o : Option Int) (i : Int) : (o.map (· - i)).map (· - 1) = o.map (· - (i + 1)) := by
  cases o with
  | none => rfl
  | some n =>
    show some (n - i - 1) = some (n - (i + 1))
    rw [Int.sub_sub]
theorem dsk_step (D : Dsk) (f : Nat) (xs ys : List Int) (i : Int) : (Dsk.mk D.c (setF (setF D.s f (D.s f ++ xs)) f (D.s f ++ ys)) ((D.pw.map (· - i)).map (· - 1))) = (D.add f ys).use (i + 1) := by
  rw [setF_setF, pw_step]
  rfl
section
variable {K : PySem.W.Frag} {H1 H2 H3 H4 H5 : Hp} {p L S r r2 : Addr} {ca sa : Nat → Addr} {D : Dsk} {f : Nat} {xs : List Int}
theorem DkAt.syn (d : DkAt K H1 p L S ca sa D) (hf : f < 2) (nr : H1 r = none) (m2 : Same H1 H2) (hr : H2 r = some (.lst (xs.map V.int))) (h3 : H3 L = some (.lst ([V.ref (ca 0), V.ref (ca 1)].set f (.ref r)))) (k3 : ∀ b, b ≠ L → H3 b = H2 b)
    (nr2 : H3 r2 = none) (m4 : Same H3 H4) (hr2 : H4 r2 = some (.lst [])) (h5 : H5 S = some (.lst ([V.ref (sa 0), V.ref (sa 1)].set f (.ref r2)))) (k5 : ∀ b, b ≠ S → H5 b = H4 b) :
    DkAt K H5 p L S (setF ca f r) (setF sa f r2) { D with c := setF D.c f xs, s := setF D.s f [] } ∧ Chg (diskP p L S ca sa) (diskP p L S (setF ca f r) (setF sa f r2)) H1 H5 := by
  have keep : ∀ b o, H1 b = some o → b ≠ L → b ≠ S → H5 b = some o := fun b o h n1 n2 => by
    rw [k5 b n2]
    refine m4 _ _ ?_
    rw [k3 b n1]
    exact m2 _ _ h
  have rL : r ≠ L := fun z => by
    have := d.ld
    rw [← z, nr] at this
    cases this
  have rS : r ≠ S := fun z => by
    have := d.ls
    rw [← z, nr] at this
    cases this
  have h3S : H3 S = some (.lst [.ref (sa 0), .ref (sa 1)]) := by
    rw [k3 S (Ne.symm d.ls')]
    exact m2 _ _ d.ls
  have r2S : r2 ≠ S := fun z => by
    rw [← z, nr2] at h3S
    cases h3S
  have r2L : r2 ≠ L := fun z => by
    rw [← z, nr2] at h3
    cases h3
  have h3r : H3 r = some (.lst (xs.map V.int)) := by
    rw [k3 r rL]
    exact hr
  have rr2 : r ≠ r2 := fun z => by
    rw [← z, h3r] at nr2
    cases nr2
  have nr2' : H1 r2 = none := by
    have e : H3 r2 = H2 r2 := k3 r2 r2L
    rw [nr2] at e
    exact Same.before m2 e.symm
  have h5L : H5 L = some (.lst [.ref (setF ca f r 0), .ref (setF ca f r 1)]) := by
    rw [k5 L d.ls', ← set2 ca hf]
    exact m4 _ _ h3
  have h5r : H5 r = some (.lst (xs.map V.int)) := by
    rw [k5 r rS]
    exact m4 _ _ h3r
  have h5r2 : H5 r2 = some (.lst []) := by
    rw [k5 r2 r2S]
    exact hr2
  refine ⟨⟨?_, h5L, by rw [← set2 sa hf]; exact h5, fun i hi => ?_, fun i hi => ?_, d.ls', ?_, ?_, fun i j hi hj => ?_⟩, Chg.of (fun b o h n => keep b o h (fun z => n (by rw [z]; simp)) (fun z => n (by rw [z]; simp))) d.own.there fun b hb => ?_⟩
  · obtain ⟨dx, q⟩ := d.ins
    exact ⟨dx, keep _ _ q (ins_ne ⟨dx, q⟩ d.ld) (ins_ne ⟨dx, q⟩ d.ls)⟩
  · by_cases ei : i = f
    · subst ei
      show H5 (setF ca i r i) = some (.lst ((setF D.c i xs i).map V.int))
      rw [setF_at, setF_at]
      exact h5r
    · show H5 (setF ca f r i) = some (.lst ((setF D.c f xs i).map V.int))
      rw [setF_ne _ _ ei, setF_ne _ _ ei]
      exact keep _ _ (d.cs i hi) (Ne.symm (ints_ne d.ld (d.cs i hi))) (Ne.symm (ints_ne d.ls (d.cs i hi)))
  · by_cases ei : i = f
    · subst ei
      show H5 (setF sa i r2 i) = some (.lst ((setF D.s i [] i).map V.int))
      rw [setF_at, setF_at]
      exact h5r2
    · show H5 (setF sa f r2 i) = some (.lst ((setF D.s f [] i).map V.int))
      rw [setF_ne _ _ ei, setF_ne _ _ ei]
      exact keep _ _ (d.ss i hi) (Ne.symm (ints_ne d.ld (d.ss i hi))) (Ne.symm (ints_ne d.ls (d.ss i hi)))
  · match f, hf with
    | 0, _ => exact Ne.symm (ne_of_none (d.cs 1 (by decide)) nr)
    | 1, _ => exact ne_of_none (d.cs 0 (by decide)) nr
  · match f, hf with
    | 0, _ => exact Ne.symm (ne_of_none (d.ss 1 (by decide)) nr2')
    | 1, _ => exact ne_of_none (d.ss 0 (by decide)) nr2'
  · by_cases ei : i = f
    · subst ei
      rw [setF_at]
      by_cases ej : j = i
      · subst ej
        rw [setF_at]
        exact rr2
      · rw [setF_ne _ _ ej]
        exact Ne.symm (ne_of_none (d.ss j hj) nr)
    · rw [setF_ne _ _ ei]
      by_cases ej : j = f
      · subst ej
        rw [setF_at]
        exact ne_of_none (d.cs i hi) nr2'
      · rw [setF_ne _ _ ej]
        exact d.xs i j hi hj
  · match f, hf with
    | 0, _ =>
      have hb : b ∈ [p, L, r, ca 1, S, r2, sa 1] := hb
      simp only [List.mem_cons, List.not_mem_nil, or_false] at hb ⊢
      rcases hb with rfl | rfl | rfl | rfl | rfl | rfl | rfl <;> first
        | exact .inr nr
        | exact .inr nr2'
        | exact .inl (by simp)
    | 1, _ =>
      have hb : b ∈ [p, L, ca 0, r, S, sa 0, r2] := hb
      simp only [List.mem_cons, List.not_mem_nil, or_false] at hb ⊢
      rcases hb with rfl | rfl | rfl | rfl | rfl | rfl | rfl <;> first
        | exact .inr nr
        | exact .inr nr2'
        | exact .inl (by simp)
end
def Dsk.syn (D : Dsk) (f : Nat) : Dsk := { D with c := setF D.c f (appliedM (D.c f) (D.s f)), s := setF D.s f [] }
def Dsk.crash (D : Dsk) (a b : Nat) : Dsk := ⟨fun i => if i = 0 then appliedM (D.c 0) ((D.s 0).take a) else appliedM (D.c 1) ((D.s 1).take b), fun _ => [], none⟩
theorem cutV_take (xs : List V) (n : Nat) : cutV xs none (some (n : Int)) = xs.take n := by
  unfold cutV
  rw [HT.sIx_none, HT.sIx_nat, List.drop_zero, Nat.sub_zero]
  by_cases h : n ≤ xs.length
  · rw [Nat.min_eq_left h]
  · rw [Nat.min_eq_right (by omega), List.take_of_length_le (Nat.le_refl _), List.take_of_length_le (by omega)]
/-! the law's own model of a disk -/
def stepO (acc : List Int) : Option Int → List Int
  | none => []
  | some x => acc ++ [x]
def afterM (xs : List Int) (os : List (Option Int)) : List Int := os.foldl stepO xs
theorem after_snoc (xs : List Int) (os : List (Option Int)) (o : Option Int) : afterM xs (os ++ [o]) = stepO (afterM xs os) o := by
  unfold afterM
  rw [List.foldl_append] <;> rfl
theorem after_len (xs : List Int) : ∀ os : List (Option Int), (afterM xs os).length ≤ xs.length + os.length := by
  unfold afterM
  intro os
  induction os generalizing xs with
  | nil => exact Nat.le_refl _
  | cons o r ih =>
    rw [List.foldl_cons, List.length_cons]
    refine Nat.le_trans (ih _) ?_
    cases o with
    | none => show 0 + r.length ≤ _; omega
    | some x => show (xs ++ [x]).length + r.length ≤ _; rw [List.length_append]; simp; omega
def codeO (o : Option Int) : Int := o.getD (-1)
theorem after_applied (xs : List Int) : ∀ os : List (Option Int), (∀ n, some n ∈ os → 0 ≤ n) → afterM xs os = appliedM xs (os.map codeO) := by
  unfold afterM appliedM
  intro os
  induction os generalizing xs with
  | nil => exact fun _ => rfl
  | cons o r ih =>
    intro h
    rw [List.foldl_cons, List.map_cons, List.foldl_cons]
    have e : (if codeO o = -1 then ([] : List Int) else xs ++ [codeO o]) = stepO xs o := by
      cases o with
      | none => rfl
      | some x =>
        have hx := h x List.mem_cons_self
        show (if x = -1 then ([] : List Int) else xs ++ [x]) = xs ++ [x]
        rw [if_neg (by omega)]
    rw [e]
    exact ih _ fun n hn => h n (List.mem_cons_of_mem _ hn)
theorem dqs_trues {H : Hp} : ∀ {n : Nat} {ys : List V}, Dqs H ys (List.replicate n (.bool true)) → ys = (List.replicate n true).map V.bl
  | 0, _, h => by cases h; rfl
  | n + 1, _, h => by
    cases h with
    | cons h1 h2 =>
      cases h1
      rw [dqs_trues h2] <;> rfl
theorem all_trues (n : Nat) : (List.replicate n true).all id = true := by
  rw [List.all_eq_true]
  intro b hb
  rw [(List.mem_replicate.mp hb).2] <;> rfl
/-! an act: 0 appends, 1 clears, 2 syncs -/
def lenM (k : Nat) (bs : List Int) : Nat := if k = 0 then bs.length else 1
/-- how many of its steps the power is enough for -/
def cntM (pw : Option Int) (n : Nat) : Nat := match pw with
  | none => n
  | some m => min n m.toNat
def doM (D : Dsk) (k f : Nat) (bs : List Int) : Dsk :=
  if k = 0 then (D.add f (bs.take (cntM D.pw bs.length))).use (cntM D.pw bs.length)
  else if cntM D.pw 1 = 0 then D
  else if k = 1 then (D.add f [-1]).use 1
  else (D.syn f).use 1
/-- what the law is told -/
def Told (H : Hp) (v : V) (ok : Bool) : Prop := (ok = true ∧ v = .non) ∨ (ok = false ∧ ∃ r, v = .ref r ∧ H r = some (.tup [.str "cut", .bl true]))
structure Mdl where
  c : Nat → List Int
  s : Nat → List (Option Int)
  pw : Option Int
/-- the law's model as it stands -/
structure MAt (H : Hp) (m F : Addr) (ta ca sa : Nat → Addr) (M : Mdl) : Prop where
  mm : H m = some (.lst [.ref F, pwV M.pw])
  ff : H F = some (.lst [.ref (ta 0), .ref (ta 1)])
  ts : ∀ i, i < 2 → H (ta i) = some (.tup [.ref (ca i), .ref (sa i)])
  cs : ∀ i, i < 2 → H (ca i) = some (.lst ((M.c i).map V.int))
  ss : ∀ i, i < 2 → H (sa i) = some (.lst ((M.s i).map pwV))
abbrev mdlP (m F : Addr) (ca sa : Nat → Addr) : List Addr := [m, F, ca 0, ca 1, sa 0, sa 1]
theorem opts_ne {H : Hp} {a b x : Addr} {r : List V} {ns : List (Option Int)} (h : H a = some (.lst (.ref x :: r))) (k : H b = some (.lst (ns.map pwV))) : a ≠ b := by
  intro e
  rw [e, k] at h
  cases ns with
  | nil => cases h
  | cons n r => cases n <;> cases h
theorem ints_ne' {H : Hp} {a b x : Addr} {r : List V} {ns : List Int} (h : H a = some (.lst (.ref x :: r))) (k : H b = some (.lst (ns.map V.int))) : a ≠ b := by
  intro e
  rw [e, k] at h
  cases ns with
  | nil => cases h
  | cons n r => cases h
theorem pw_nref (o : Option Int) (a : Addr) : pwV o ≠ .ref a := by
  cases o with
  | none => intro h; cases h
  | some n => intro h; cases h
section
variable {H H' : Hp} {m F : Addr} {ta ca sa : Nat → Addr} {M : Mdl} {f : Nat}
theorem MAt.mF (d : MAt H m F ta ca sa M) : m ≠ F := by
  intro e
  have h1 := d.mm
  rw [e, d.ff] at h1
  simp only [Option.some.injEq, HO.lst.injEq, List.cons.injEq, and_true] at h1
  exact pw_nref _ _ h1.2.symm
theorem MAt.keep (d : MAt H m F ta ca sa M) (k : ∀ b o, H b = some o → (b ∈ mdlP m F ca sa ∨ ∃ xs, o = .tup xs) → H' b = some o) : MAt H' m F ta ca sa M := by
  refine ⟨k _ _ d.mm (.inl (by simp)), k _ _ d.ff (.inl (by simp)), fun i hi => k _ _ (d.ts i hi) (.inr ⟨_, rfl⟩), fun i hi => k _ _ (d.cs i hi) (.inl ?_), fun i hi => k _ _ (d.ss i hi) (.inl ?_)⟩
  · match i, hi with
    | 0, _ => simp
    | 1, _ => simp
  · match i, hi with
    | 0, _ => simp
    | 1, _ => simp
theorem MAt.same (s : Same H H') (d : MAt H m F ta ca sa M) : MAt H' m F ta ca sa M := d.keep fun b o h _ => s b o h
theorem MAt.chg {G G' : List Addr} (c : Chg G G' H H') (n : Dsj G (mdlP m F ca sa)) (d : MAt H m F ta ca sa M) : MAt H' m F ta ca sa M := d.keep fun b o h z => by
  rcases z with z | ⟨xs, rfl⟩
  · exact c.kp b o h fun q => n b q z
  · exact c.gro.tup b xs h
theorem MAt.there (d : MAt H m F ta ca sa M) : ∀ b ∈ mdlP m F ca sa, ∃ xs, H b = some (.lst xs) := by
  intro b hb
  simp only [List.mem_cons, List.not_mem_nil, or_false] at hb
  rcases hb with rfl | rfl | rfl | rfl | rfl | rfl
  · exact ⟨_, d.mm⟩
  · exact ⟨_, d.ff⟩
  · exact ⟨_, d.cs 0 (by decide)⟩
  · exact ⟨_, d.cs 1 (by decide)⟩
  · exact ⟨_, d.ss 0 (by decide)⟩
  · exact ⟨_, d.ss 1 (by decide)⟩
theorem MAt.apart {G G' : List Addr} (c : Chg G G' H H') (n : Dsj G (mdlP m F ca sa)) (d : MAt H m F ta ca sa M) : Dsj G' (mdlP m F ca sa) := fun b hb z => by
  obtain ⟨xs, e⟩ := d.there b z
  exact c.out e (fun q => n b q z) hb
/-- the power is written -/
theorem MAt.pow (d : MAt H m F ta ca sa M) {pw : Option Int} (h : H' m = some (.lst [.ref F, pwV pw])) (k : ∀ b, b ≠ m → H' b = H b) : MAt H' m F ta ca sa { M with pw := pw } ∧ Chg (mdlP m F ca sa) (mdlP m F ca sa) H H' := by
  refine ⟨⟨h, by rw [k F d.mF.symm]; exact d.ff, fun i hi => ?_, fun i hi => ?_, fun i hi => ?_⟩, but_chg k d.mm (by simp)⟩
  · rw [k _ (ne_of (d.ts i hi) d.mm (by intro z; cases z))]
    exact d.ts i hi
  · rw [k _ (Ne.symm (ints_ne' d.mm (d.cs i hi)))]
    exact d.cs i hi
  · rw [k _ (Ne.symm (opts_ne d.mm (d.ss i hi)))]
    exact d.ss i hi
/-- one file's pair is written -/
theorem MAt.pair (d : MAt H m F ta ca sa M) (hf : f < 2) {t c s : Addr} {xs : List Int} {os : List (Option Int)} (ht : H t = some (.tup [.ref c, .ref s])) (hc : H c = some (.lst (xs.map V.int))) (hs : H s = some (.lst (os.map pwV))) (h : H' F = some (.lst ([V.ref (ta 0), V.ref (ta 1)].set f (.ref t)))) (k : ∀ b, b ≠ F → H' b = H b) :
    MAt H' m F (setF ta f t) (setF ca f c) (setF sa f s) { M with c := setF M.c f xs, s := setF M.s f os } := by
  have kt : ∀ b xs, H b = some (.tup xs) → H' b = some (.tup xs) := fun b xs e => by
    rw [k b (ne_of e d.ff (by intro z; cases z))]
    exact e
  have ki : ∀ b (ns : List Int), H b = some (.lst (ns.map V.int)) → H' b = some (.lst (ns.map V.int)) := fun b ns e => by
    rw [k b (Ne.symm (ints_ne' d.ff e))]
    exact e
  have ko : ∀ b (ns : List (Option Int)), H b = some (.lst (ns.map pwV)) → H' b = some (.lst (ns.map pwV)) := fun b ns e => by
    rw [k b (Ne.symm (opts_ne d.ff e))]
    exact e
  refine ⟨by rw [k m d.mF]; exact d.mm, by rw [← set2 ta hf]; exact h, fun i hi => ?_, fun i hi => ?_, fun i hi => ?_⟩
  · by_cases e : i = f
    · subst e
      rw [setF_at, setF_at, setF_at]
      exact kt _ _ ht
    · rw [setF_ne _ _ e, setF_ne _ _ e, setF_ne _ _ e]
      exact kt _ _ (d.ts i hi)
  · by_cases e : i = f
    · subst e
      show H' (setF ca i c i) = some (.lst ((setF M.c i xs i).map V.int))
      rw [setF_at, setF_at]
      exact ki _ _ hc
    · show H' (setF ca f c i) = some (.lst ((setF M.c f xs i).map V.int))
      rw [setF_ne _ _ e, setF_ne _ _ e]
      exact ki _ _ (d.cs i hi)
  · by_cases e : i = f
    · subst e
      show H' (setF sa i s i) = some (.lst ((setF M.s i os i).map pwV))
      rw [setF_at, setF_at]
      exact ko _ _ hs
    · show H' (setF sa f s i) = some (.lst ((setF M.s f os i).map pwV))
      rw [setF_ne _ _ e, setF_ne _ _ e]
      exact ko _ _ (d.ss i hi)
end
def stepsM (k : Nat) (bs : List Int) : List (Option Int) := if k = 0 then bs.map some else [none]
theorem stepsM_len (k : Nat) (bs : List Int) : (stepsM k bs).length = lenM k bs := by
  unfold stepsM lenM
  by_cases h : k = 0
  · rw [if_pos h, if_pos h, List.length_map]
  · rw [if_neg h, if_neg h] <;> rfl
/-- the files behind an act, n of its steps performed -/
def mfileM (M : Mdl) (k f : Nat) (bs : List Int) (n : Nat) : Mdl :=
  if k = 2 then (if n = 1 then { M with c := setF M.c f (afterM (M.c f) (M.s f)), s := setF M.s f [] } else M) else { M with s := setF M.s f (M.s f ++ (stepsM k bs).take n) }
def mdoM (M : Mdl) (k f : Nat) (bs : List Int) : Mdl :=
  { mfileM M k f bs (cntM M.pw (lenM k bs)) with pw := M.pw.map (· - (cntM M.pw (lenM k bs) : Int)) }
theorem mfile_pw (M : Mdl) (k f : Nat) (bs : List Int) (n : Nat) : (mfileM M k f bs n).pw = M.pw := by
  unfold mfileM
  by_cases h : k = 2
  · rw [if_pos h]
    by_cases h2 : n = 1
    · rw [if_pos h2]
    · rw [if_neg h2]
  · rw [if_neg h]
theorem cnt_le (pw : Option Int) (n : Nat) : cntM pw n ≤ n := by
  cases pw with
  | none => exact Nat.le_refl _
  | some m => exact Nat.min_le_left _ _
theorem setF_self {α : Type} (g : Nat → α) (f : Nat) : setF g f (g f) = g := by
  funext j
  unfold setF
  by_cases e : j = f
  · rw [if_pos e, e]
  · rw [if_neg e]
theorem MAt.pair_chg {H0 H H' : Hp} {m F c s : Addr} {ta ca sa : Nat → Addr} {M : Mdl} {f : Nat} (d : MAt H m F ta ca sa M) (hf : f < 2) (sm : Same H0 H) (k : ∀ b, b ≠ F → H' b = H b) (c0 : c = ca f ∨ H0 c = none) (s0 : s = sa f ∨ H0 s = none) :
    Chg (mdlP m F ca sa) (mdlP m F (setF ca f c) (setF sa f s)) H0 H' := by
  have base : Chg (mdlP m F ca sa) (mdlP m F ca sa) H0 H' := (Chg.same sm).trans (but_chg k d.ff (by simp))
  refine ⟨base.kp, fun b hb => ?_, base.gro⟩
  match f, hf with
  | 0, _ =>
    have hb : b ∈ [m, F, c, ca 1, s, sa 1] := hb
    simp only [List.mem_cons, List.not_mem_nil, or_false] at hb
    rcases hb with rfl | rfl | rfl | rfl | rfl | rfl
    · exact .inl (by simp)
    · exact .inl (by simp)
    · rcases c0 with z | z
      · exact .inl (by rw [z]; simp)
      · exact .inr z
    · exact .inl (by simp)
    · rcases s0 with z | z
      · exact .inl (by rw [z]; simp)
      · exact .inr z
    · exact .inl (by simp)
  | 1, _ =>
    have hb : b ∈ [m, F, ca 0, c, sa 0, s] := hb
    simp only [List.mem_cons, List.not_mem_nil, or_false] at hb
    rcases hb with rfl | rfl | rfl | rfl | rfl | rfl
    · exact .inl (by simp)
    · exact .inl (by simp)
    · exact .inl (by simp)
    · rcases c0 with z | z
      · exact .inl (by rw [z]; simp)
      · exact .inr z
    · exact .inl (by simp)
    · rcases s0 with z | z
      · exact .inl (by rw [z]; simp)
      · exact .inr z
/-- the disk is as the model says -/
structure RelM (D : Dsk) (M : Mdl) : Prop where
  c : ∀ i, i < 2 → D.c i = M.c i
  s : ∀ i, i < 2 → D.s i = (M.s i).map codeO
  cb : ∀ i, i < 2 → ∀ n ∈ M.c i, 0 ≤ n ∧ n ≤ 255
  sb : ∀ i, i < 2 → ∀ n, some n ∈ M.s i → 0 ≤ n ∧ n ≤ 255
  pw : D.pw = M.pw
theorem after_bytes {xs : List Int} : ∀ {os : List (Option Int)}, (∀ n ∈ xs, 0 ≤ n ∧ n ≤ 255) → (∀ n, some n ∈ os → 0 ≤ n ∧ n ≤ 255) → ∀ n ∈ afterM xs os, 0 ≤ n ∧ n ≤ 255 := by
  intro os
  unfold afterM
  induction os generalizing xs with
  | nil => exact fun h _ => h
  | cons o r ih =>
    intro h1 h2
    rw [List.foldl_cons]
    refine ih (fun n hn => ?_) fun n hn => h2 n (List.mem_cons_of_mem _ hn)
    cases o with
    | none => exact absurd hn List.not_mem_nil
    | some x =>
      have hn : n ∈ xs ++ [x] := hn
      rcases List.mem_append.mp hn with hn | hn
      · exact h1 n hn
      · rw [List.mem_singleton.mp hn]
        exact h2 x List.mem_cons_self
theorem RelM.at_ {D : Dsk} {M : Mdl} (r : RelM D M) {i : Nat} (hi : i < 2) : appliedM (D.c i) (D.s i) = afterM (M.c i) (M.s i) := by
  rw [r.c i hi, r.s i hi, after_applied _ _ fun n hn => (r.sb i hi n hn).1]
/-- lists of ints are compared -/
theorem lay_ints : ∀ ns : List Int, PyData.canLayAll0 (ns.map PyData.int) = true
  | [] => by simp [PyData.canLayAll0]
  | n :: ns => by
    rw [List.map_cons, PyData.canLayAll0, lay_ints ns]
    simp [PyData.canLay0]
theorem depth_ints : ∀ ns : List Int, PyData.depthAll (ns.map PyData.int) = 0
  | [] => by simp [PyData.depthAll]
  | n :: ns => by
    rw [List.map_cons, PyData.depthAll, depth_ints ns, PyData.depth] <;> rfl
theorem dp_ints {K : PySem.W.Frag} {H : Hp} : ∀ ns : List Int, DpAll K H (ns.map V.int) (ns.map PyData.int)
  | [] => .nil
  | n :: ns => .cons (.int n) (dp_ints ns)
theorem r_neInts {K : PySem.W.Frag} {H : Hp} {Q : VK} {a b : Addr} {ns : List Int} (ha : H a = some (.lst (ns.map V.int))) (hb : H b = some (.lst (ns.map V.int))) (q : Q (.bl false) H) : uNe K (.ref a) (.ref b) H Q := by
  have lay : PyData.canLay0 (.list (ns.map PyData.int)) = true := by rw [PyData.canLay0]; exact lay_ints ns
  have sh : SeqAt.shaped (.list (ns.map PyData.int)) = true := by
    unfold SeqAt.shaped
    rw [lay, PyData.depth, depth_ints] <;> rfl
  refine .inr ⟨.list (ns.map PyData.int), .list (ns.map PyData.int), .lst (SqL.of ha) (dp_ints ns), .lst (SqL.of hb) (dp_ints ns), sh, sh, ?_⟩
  rw [SeqAt.eqv_refl _ lay]
  exact q
/-! acts: the disk stays as the model says -/
theorem map_sub0 (o : Option Int) : o.map (· - ((0 : Nat) : Int)) = o := by
  cases o with
  | none => rfl
  | some n => show some (n - 0) = some n; rw [Int.sub_zero]
theorem cnt_one (pw : Option Int) : cntM pw 1 = 0 ∨ cntM pw 1 = 1 := by
  have := cnt_le pw 1
  omega
theorem steps_codes {bs : List Int} {n : Nat} : (((bs.map some).take n).map codeO) = bs.take n := by
  rw [← List.map_take, List.map_map]
  exact List.map_id _
theorem rel_add {D : Dsk} {M : Mdl} {f : Nat} {ys : List Int} {os : List (Option Int)} {n : Int} (r : RelM D M) (hs : os.map codeO = ys) (hb : ∀ n, some n ∈ os → 0 ≤ n ∧ n ≤ 255) : RelM ((D.add f ys).use n) { M with s := setF M.s f (M.s f ++ os), pw := M.pw.map (· - n) } := by
  refine ⟨r.c, fun i hi => ?_, r.cb, fun i hi x hx => ?_, by show D.pw.map _ = M.pw.map _; rw [r.pw]⟩
  · show setF D.s f (D.s f ++ ys) i = (setF M.s f (M.s f ++ os) i).map codeO
    by_cases e : i = f
    · subst e
      rw [setF_at, setF_at, List.map_append, r.s i hi, hs]
    · rw [setF_ne _ _ e, setF_ne _ _ e]
      exact r.s i hi
  · have hx : some x ∈ setF M.s f (M.s f ++ os) i := hx
    by_cases e : i = f
    · subst e
      rw [setF_at] at hx
      exact (List.mem_append.mp hx).elim (r.sb i hi x) (hb x)
    · rw [setF_ne _ _ e] at hx
      exact r.sb i hi x hx
theorem rel_pow {D : Dsk} {M : Mdl} (r : RelM D M) : RelM D { M with pw := M.pw.map (· - ((0 : Nat) : Int)) } := ⟨r.c, r.s, r.cb, r.sb, by show D.pw = M.pw.map _; rw [map_sub0]; exact r.pw⟩
theorem RelM.act {D : Dsk} {M : Mdl} {k f : Nat} {bs : List Int} (r : RelM D M) (hk : k < 3) (hf : f < 2) (hb : ∀ n ∈ bs, 0 ≤ n ∧ n ≤ 255) : RelM (doM D k f bs) (mdoM M k f bs) := by
  unfold doM mdoM mfileM lenM stepsM
  by_cases h0 : k = 0
  · subst h0
    rw [if_pos rfl, if_pos rfl, if_neg (by decide), if_pos rfl, r.pw]
    refine rel_add (n := (cntM M.pw bs.length : Int)) r steps_codes fun n hn => ?_
    have hn := List.mem_of_mem_take hn
    obtain ⟨x, hx, e⟩ := List.mem_map.mp hn
    cases e
    exact hb n hx
  · rw [if_neg h0, if_neg h0, if_neg h0, r.pw]
    rcases cnt_one M.pw with e | e
    · rw [e, if_pos rfl]
      by_cases h2 : k = 2
      · rw [if_pos h2, if_neg (by decide)]
        exact rel_pow r
      · rw [if_neg h2]
        have e2 : setF M.s f (M.s f ++ ([none] : List (Option Int)).take 0) = M.s := by
          show setF M.s f (M.s f ++ []) = M.s
          rw [List.append_nil, setF_self]
        rw [e2]
        exact rel_pow r
    · rw [e, if_neg (by decide)]
      by_cases h2 : k = 2
      · rw [if_pos h2, if_neg (by omega), if_pos rfl]
        refine ⟨fun i hi => ?_, fun i hi => ?_, fun i hi n hn => ?_, fun i hi n hn => ?_, ?_⟩
        · show setF D.c f (appliedM (D.c f) (D.s f)) i = setF M.c f (afterM (M.c f) (M.s f)) i
          by_cases ei : i = f
          · subst ei
            rw [setF_at, setF_at, r.at_ hi]
          · rw [setF_ne _ _ ei, setF_ne _ _ ei]
            exact r.c i hi
        · show setF D.s f [] i = (setF M.s f [] i).map codeO
          by_cases ei : i = f
          · subst ei
            rw [setF_at, setF_at] <;> rfl
          · rw [setF_ne _ _ ei, setF_ne _ _ ei]
            exact r.s i hi
        · have hn : n ∈ setF M.c f (afterM (M.c f) (M.s f)) i := hn
          by_cases ei : i = f
          · subst ei
            rw [setF_at] at hn
            exact after_bytes (r.cb i hi) (r.sb i hi) n hn
          · rw [setF_ne _ _ ei] at hn
            exact r.cb i hi n hn
        · have hn : some n ∈ setF M.s f ([] : List (Option Int)) i := hn
          by_cases ei : i = f
          · subst ei
            rw [setF_at] at hn
            exact absurd hn List.not_mem_nil
          · rw [setF_ne _ _ ei] at hn
            exact r.sb i hi n hn
        · show D.pw.map _ = M.pw.map _
          rw [r.pw] <;> rfl
      · rw [if_neg h2, if_pos (by omega)]
        refine rel_add (n := 1) r rfl fun n hn => ?_
        have hn : some n ∈ ([none] : List (Option Int)) := hn
        exact absurd (List.mem_singleton.mp hn) (fun z => nomatch z)
theorem mdo_len {M : Mdl} {k f n : Nat} {bs : List Int} (hk : k < 3) (hf : f < 2) (hb : bs.length ≤ 5) (hl : ∀ i, i < 2 → (M.c i).length + (M.s i).length ≤ n) : ∀ i, i < 2 → ((mdoM M k f bs).c i).length + ((mdoM M k f bs).s i).length ≤ n + 5 := by
  intro i hi
  have h := hl i hi
  unfold mdoM mfileM
  by_cases h2 : k = 2
  · rw [if_pos h2]
    by_cases h3 : cntM M.pw (lenM k bs) = 1
    · rw [if_pos h3]
      show (setF M.c f (afterM (M.c f) (M.s f)) i).length + (setF M.s f [] i).length ≤ n + 5
      by_cases e : i = f
      · subst e
        rw [setF_at, setF_at]
        have := after_len (M.c i) (M.s i)
        show _ + 0 ≤ _
        omega
      · rw [setF_ne _ _ e, setF_ne _ _ e]
        omega
    · rw [if_neg h3]
      show (M.c i).length + (M.s i).length ≤ n + 5
      omega
  · rw [if_neg h2]
    show (M.c i).length + (setF M.s f (M.s f ++ (stepsM k bs).take (cntM M.pw (lenM k bs))) i).length ≤ n + 5
    by_cases e : i = f
    · subst e
      rw [setF_at, List.length_append, List.length_take, stepsM_len]
      have : lenM k bs ≤ 5 := by
        unfold lenM
        split <;> omega
      omega
    · rw [setF_ne _ _ e]
      omega
theorem mdo_pw {M : Mdl} {k f : Nat} {bs : List Int} (h : ∀ x, M.pw = some x → 0 ≤ x) : ∀ x, (mdoM M k f bs).pw = some x → 0 ≤ x := by
  intro x hx
  have hx : M.pw.map (· - (cntM M.pw (lenM k bs) : Int)) = some x := hx
  cases e : M.pw with
  | none =>
    rw [e] at hx
    cases hx
  | some n =>
    rw [e] at hx
    have h0 := h n e
    have hx : some (n - ((min (lenM k bs) n.toNat : Nat) : Int)) = some x := hx
    have := Option.some.inj hx
    omega
/-- a crash -/
def Mdl.crash (M : Mdl) (a b : Nat) : Mdl := ⟨fun i => if i = 0 then afterM (M.c 0) ((M.s 0).take a) else afterM (M.c 1) ((M.s 1).take b), fun _ => [], none⟩
theorem rel_take {D : Dsk} {M : Mdl} (r : RelM D M) {i : Nat} (hi : i < 2) (n : Nat) : appliedM (D.c i) ((D.s i).take n) = afterM (M.c i) ((M.s i).take n) := by
  rw [r.c i hi, r.s i hi, ← List.map_take, after_applied _ _ fun x hx => (r.sb i hi x (List.mem_of_mem_take hx)).1]
theorem RelM.crash {D : Dsk} {M : Mdl} (r : RelM D M) (a b : Nat) : RelM (D.crash a b) (M.crash a b) := by
  refine ⟨fun i hi => ?_, fun _ _ => rfl, fun i hi n hn => ?_, fun _ _ n hn => absurd hn List.not_mem_nil, rfl⟩
  · match i, hi with
    | 0, _ => exact rel_take r (by decide) a
    | 1, _ => exact rel_take r (by decide) b
  · match i, hi with
    | 0, _ => exact after_bytes (r.cb 0 (by decide)) (fun x hx => r.sb 0 (by decide) x (List.mem_of_mem_take hx)) n hn
    | 1, _ => exact after_bytes (r.cb 1 (by decide)) (fun x hx => r.sb 1 (by decide) x (List.mem_of_mem_take hx)) n hn
theorem crash_len {M : Mdl} {a b n : Nat} (hl : ∀ i, i < 2 → (M.c i).length + (M.s i).length ≤ n) : ∀ i, i < 2 → ((M.crash a b).c i).length + ((M.crash a b).s i).length ≤ n := by
  intro i hi
  match i, hi with
  | 0, _ =>
    have h1 := after_len (M.c 0) ((M.s 0).take a)
    have h2 := hl 0 (by decide)
    have h3 : ((M.s 0).take a).length ≤ (M.s 0).length := by rw [List.length_take]; omega
    show (afterM (M.c 0) ((M.s 0).take a)).length + 0 ≤ n
    omega
  | 1, _ =>
    have h1 := after_len (M.c 1) ((M.s 1).take b)
    have h2 := hl 1 (by decide)
    have h3 : ((M.s 1).take b).length ≤ (M.s 1).length := by rw [List.length_take]; omega
    show (afterM (M.c 1) ((M.s 1).take b)).length + 0 ≤ n
    omega
theorem Dqs.all_ints {H : Hp} {P : Int → Prop} : ∀ {ds : List PyData} {ys : List V}, Dqs H ys ds → (∀ (i : Nat) d, ds[i]? = some d → ∃ n, d = PyData.int n ∧ P n) → ∃ ns : List Int, ys = ns.map V.int ∧ ns.length = ds.length ∧ ∀ n ∈ ns, P n
  | [], _, h, _ => by
    cases h
    exact ⟨[], rfl, rfl, fun _ z => nomatch z⟩
  | d :: ds, _, h, hp => by
    cases h with
    | cons h1 h2 =>
      obtain ⟨s, e, p⟩ := hp 0 d rfl
      subst e
      cases h1
      obtain ⟨ss, e1, e2, e3⟩ := Dqs.all_ints h2 fun i d q => hp (i + 1) d (by simpa using q)
      refine ⟨s :: ss, by rw [e1] <;> rfl, by simp [e2], fun z hz => ?_⟩
      rcases List.mem_cons.mp hz with e | hz
      · rw [e]
        exact p
      · exact e3 z hz
/-- one file's pair of a new model -/
structure Pt (H H' : Hp) (D t c s : Addr) (xs : List Int) : Prop where
  ht : H' t = some (.tup [.ref c, .ref s])
  hc : H' c = some (.lst (xs.map V.int))
  hs : H' s = some (.lst [])
  nc : H c = none
  ns : H s = none
  cD : c ≠ D
  sD : s ≠ D
theorem Pt.same {H H1 H2 : Hp} {D t c s : Addr} {xs : List Int} (m : Same H1 H2) (p : Pt H H1 D t c s xs) : Pt H H2 D t c s xs := ⟨m _ _ p.ht, m _ _ p.hc, m _ _ p.hs, p.nc, p.ns, p.cD, p.sD⟩
theorem Pt.but {H H1 H2 : Hp} {D t c s : Addr} {xs : List Int} {ys : List V} (h : H1 D = some (.lst ys)) (k : ∀ b, b ≠ D → H2 b = H1 b) (p : Pt H H1 D t c s xs) : Pt H H2 D t c s xs :=
  ⟨by rw [k _ (ne_of p.ht h (by intro z; cases z))]; exact p.ht, by rw [k _ p.cD]; exact p.hc, by rw [k _ p.sD]; exact p.hs, p.nc, p.ns, p.cD, p.sD⟩
theorem but_out {H H' : Hp} {a : Addr} {xs : List V} {fp : List Addr} (e : H a = some (.lst xs)) (k : ∀ b, b ≠ a → H' b = H b) : Chg [a] [a] H H' := but_chg k e (List.mem_singleton.mpr rfl)
/-- told what was to be told -/
theorem r_neCut {K : PySem.W.Frag} {H : Hp} {Q : VK} {r t : Addr} (hr : H r = some (.tup [.str "cut", .bl true])) (ht : H t = some (.tup [.str "cut", .bl true])) (q : Q (.bl false) H) : uNe K (.ref r) (.ref t) H Q := by
  have dd : ∀ x, H x = some (.tup [.str "cut", .bl true]) → Dq H (.ref x) (.tuple [.str "cut", .bool true]) := fun x hx => .tup hx (.cons (.str _) (.cons (.bl _) .nil))
  have lay : PyData.canLay0 (.tuple [.str "cut", .bool true]) = true := by decide +kernel
  have sh : SeqAt.shaped (.tuple [.str "cut", .bool true]) = true := by decide +kernel
  refine r_neD (dd r hr) (dd t ht) sh sh ?_
  rw [SeqAt.eqv_refl _ lay]
  exact q
theorem r_neNon {K : PySem.W.Frag} {H : Hp} {Q : VK} (q : Q (.bl false) H) : uNe K .non .non H Q := .inl ⟨rfl, by rw [decide_eq_true rfl]; exact q⟩
/-- the files of a new model, so far -/
def Cv (H H' : Hp) (D : Addr) (M : Mdl) (x y i : Nat) (ys : List V) : Prop := (i = 0 ∧ ys = []) ∨ (i = 1 ∧ ∃ t c s, ys = [.ref t] ∧ Pt H H' D t c s ((M.crash x y).c 0)) ∨
  (i = 2 ∧ ∃ t0 c0 s0 t1 c1 s1, ys = [.ref t0, .ref t1] ∧ Pt H H' D t0 c0 s0 ((M.crash x y).c 0) ∧ Pt H H' D t1 c1 s1 ((M.crash x y).c 1))
theorem Cv.step {H H1 H2 H3 : Hp} {D t c s : Addr} {M : Mdl} {x y i : Nat} {ys : List V} (v : Cv H H1 D M x y i ys) (hi : i < 2) (m : Same H1 H2) (h2 : H2 D = some (.lst ys)) (k : ∀ b, b ≠ D → H3 b = H2 b) (p : Pt H H3 D t c s ((M.crash x y).c i)) : Cv H H3 D M x y (i + 1) (ys ++ [.ref t]) := by
  rcases v with ⟨rfl, rfl⟩ | ⟨rfl, t', c', s', rfl, q⟩ | ⟨rfl, _⟩
  · exact .inr (.inl ⟨rfl, t, c, s, rfl, p⟩)
  · exact .inr (.inr ⟨rfl, t', c', s', t, c, s, rfl, (q.same m).but h2 k, p⟩)
  · omega
theorem Cv.mat {H H' H2 : Hp} {D m : Addr} {M : Mdl} {x y : Nat} {ys : List V} (v : Cv H H' D M x y 2 ys) (hd : H' D = some (.lst ys)) (sm : Same H' H2) (hm : H2 m = some (.lst [.ref D, .non])) :
    ∃ ta ca sa, MAt H2 m D ta ca sa (M.crash x y) ∧ ∀ b ∈ mdlP m D ca sa, b = m ∨ b = D ∨ H b = none := by
  rcases v with ⟨z, _⟩ | ⟨z, _⟩ | ⟨_, t0, c0, s0, t1, c1, s1, rfl, q0, q1⟩
  · omega
  · omega
  · have p0 := q0.same sm
    have p1 := q1.same sm
    refine ⟨fun i => if i = 0 then t0 else t1, fun i => if i = 0 then c0 else c1, fun i => if i = 0 then s0 else s1, ⟨hm, sm _ _ hd, fun i hi => ?_, fun i hi => ?_, fun i hi => ?_⟩, fun b hb => ?_⟩
    · match i, hi with
      | 0, _ => exact p0.ht
      | 1, _ => exact p1.ht
    · match i, hi with
      | 0, _ => exact p0.hc
      | 1, _ => exact p1.hc
    · match i, hi with
      | 0, _ => exact p0.hs
      | 1, _ => exact p1.hs
    · have hb : b ∈ [m, D, c0, c1, s0, s1] := hb
      simp only [List.mem_cons, List.not_mem_nil, or_false] at hb
      rcases hb with rfl | rfl | rfl | rfl | rfl | rfl
      · exact .inl rfl
      · exact .inr (.inl rfl)
      · exact .inr (.inr p0.nc)
      · exact .inr (.inr p1.nc)
      · exact .inr (.inr p0.ns)
      · exact .inr (.inr p1.ns)
theorem crash_c (M : Mdl) (x y : Nat) {i : Nat} (hi : i < 2) : (M.crash x y).c i = afterM (M.c i) ((M.s i).take (if i = 0 then x else y)) := by
  match i, hi with
  | 0, _ => rfl
  | 1, _ => rfl
theorem at2i (x y : Nat) {i : Nat} (hi : i < 2) : atI [V.int x, V.int y] (i : Int) = some (.int ((if i = 0 then x else y : Nat) : Int)) := by
  match i, hi with
  | 0, _ => rfl
  | 1, _ => rfl
end Dk

/-! Sets of texts made of a tuple, and sorted. -/
namespace Dk
open PySem PySem.Spec PyProof.Rows L2 PySem.Froz
/-- laying a text keeps the places rising -/
theorem addTx_keeps (n : Int) (v : Value) (rows : Array (Int × Value)) (c : Nat) (tb : SetTable) (up : Ris tb.place.toList) : Ris (addTx n v (rows, c, tb)).2.2.place.toList ∧ (addTx n v (rows, c, tb)).2.2.led = tb.led := by
  have a1 := layNew_ris tb rows n v up
  have a2 := layNew_led tb rows n v
  show Ris (tailTx c (layNew tb rows n v).1 (if (layNew tb rows n v).2.1.plain = true then { (layNew tb rows n v).2.1 with plain := false } else (layNew tb rows n v).2.1) (layNew tb rows n v).2.2.1).2.2.place.toList ∧
    (tailTx c (layNew tb rows n v).1 (if (layNew tb rows n v).2.1.plain = true then { (layNew tb rows n v).2.1 with plain := false } else (layNew tb rows n v).2.1) (layNew tb rows n v).2.2.1).2.2.led = tb.led
  generalize layNew tb rows n v = Z at a1 a2 ⊢
  obtain ⟨r1, tb1, wd, gv⟩ := Z
  dsimp only at a1 a2 ⊢
  have b1 : Ris (if tb1.plain = true then { tb1 with plain := false } else tb1).place.toList := by split <;> exact a1
  have b2 : (if tb1.plain = true then { tb1 with plain := false } else tb1).led = tb.led := by split <;> exact a2
  generalize (if tb1.plain = true then { tb1 with plain := false } else tb1) = tb2 at b1 b2 ⊢
  unfold tailTx
  split
  · exact ⟨relayAll_ris tb2 r1 _, (relayAll_led tb2 r1 _).trans b2⟩
  · exact ⟨b1, b2⟩
/-- the set of texts at p: those of l, each once -/
def TxAt (P : Program) (w : World) (h : Heap) (p : Addr) (l : List Str) : Prop := ∃ rows c tb, h.get? p = some (sObj "set" (rows, c, tb)) ∧ TxOk P w (rows, c, tb) l ∧ Ris tb.place.toList ∧ (w.params.followText "set-order" = true ∨ tb.led = true) ∧ l.Nodup
theorem TxAt.at_ {P : Program} {w : World} {h h' : Heap} {p : Addr} {l : List Str} (x : TxAt P w h p l) (k : ∀ o, h.get? p = some o → h'.get? p = some o) : TxAt P w h' p l := by
  obtain ⟨rows, c, tb, e, r⟩ := x
  exact ⟨rows, c, tb, k _ e, r⟩
abbrev frO (w : World) : Obj := { cls := .type "set", dict := none, data := .set #[] 0 (.fresh 0 0 (!w.params.followText "set-order")) }
theorem txAt_new {P : Program} {w : World} {h : Heap} {p : Addr} (e : h.get? p = some (frO w)) : TxAt P w h p [] := by
  refine ⟨#[], 0, _, e, TxOk.nil (by rfl), List.Pairwise.nil, ?_, List.nodup_nil⟩
  show _ ∨ (!w.params.followText "set-order") = true
  cases w.params.followText "set-order" with
  | false => exact .inr rfl
  | true => exact .inl rfl
section
variable {P : Program} {w : World} {A : Around} {E : Value → Shared → Prop} {s : Shared}
/-- one text more, or the same again -/
theorem tx_add {p : Addr} {l : List Str} {k : Str} {u : Tok} {Q : Bool → Shared → Prop} (x : TxAt P w s.heap p l) (room : l.length + 1 < scanBound)
    (q : ∀ b h' l', Heap.SameBut p s.heap h' → TxAt P w h' p l' → (∀ z, z ∈ l' ↔ z ∈ l ∨ z = k) → l'.length ≤ l.length + 1 → Q b { s with heap := h' }) : wpAny (model P w) A (setAddHashed p (.str k u) (hashStr w k)) Q E s := by
  obtain ⟨rows, c, tb, e, T, up, ld, nd⟩ := x
  by_cases hk : k ∈ l
  · have fit : tb.fits rows.size = true := T.fit
    have els : ElemsOf (strKind P w) rows.toList := T.el
    have sz : rows.size = l.length := T.sz
    have few : rows.size < scanBound := by omega
    have same : (PySem.strKind P w).is k (.str k u) = true := is_str k u
    unfold setAddHashed setAddHashedIn
    refine wpAny_holding (wpAny_bind (wpAny_setState_of e rfl fit ?_))
    dsimp only
    rw [byScan_of (knd := PySem.strKind P w) rfl few els]
    simp only [↓reduceIte]
    unfold setAddByScan
    refine wpAny_bind (wpAny_bind (wpAny_rule (wpAny_bind (wpAny_setScan_of (knd := PySem.strKind P w) (k := k) same e rfl fit els ?_))))
    have found : ∃ j, List.findIdx? (fun r => (PySem.strKind P w).is k r.2) rows.toList = some j := by
      obtain ⟨r, hr, hi⟩ := (T.mem k).mp hk
      cases z : List.findIdx? (fun r => (PySem.strKind P w).is k r.2) rows.toList with
      | some j => exact ⟨j, rfl⟩
      | none =>
        have := List.findIdx?_eq_none_iff.mp z r hr
        rw [hi] at this
        cases this
    obtain ⟨j, ej⟩ := found
    rw [ej]
    dsimp only
    exact wpAny_pure (wpAny_pure (q false s.heap l (Heap.SameBut.refl p s.heap) ⟨rows, c, tb, e, T, up, ld, nd⟩ (fun z => ⟨.inl, fun h => h.elim id fun h => h ▸ hk⟩) (Nat.le_succ _)))
  · refine add_x e T hk room ?_
    obtain ⟨u1, u2⟩ := addTx_keeps (hashStr w k) (.str k u) rows c tb up
    have T1 := add_ok (k := k) u T
    generalize addTx (hashStr w k) (.str k u) (rows, c, tb) = Z at u1 u2 T1 ⊢
    obtain ⟨r1, c1, tb1⟩ := Z
    refine q true _ (k :: l) ⟨Heap.size_update .., fun b hb => Heap.get?_update_other _ _ (Ne.symm hb)⟩ ⟨r1, c1, tb1, get_upd _ e rfl, T1, u1, ld.imp id fun z => Eq.trans u2 z, List.nodup_cons.mpr ⟨hk, nd⟩⟩ (fun z => by rw [List.mem_cons]; exact Or.comm) (Nat.le_refl _)
/-- the loop of set(..) over the items -/
theorem tx_loop {I : Addr} {fp wr : List Addr} {G : Array GenState → Array GenState → Prop} {n : Nat} {Pv : Nat → Value → Prop} {St : Nat → Shared → Prop} {R : Result → Shared → Prop} (W : WalksS P w A.in1 I fp wr G n Pv St) (p : Addr) (out : p ∉ fp) (ss : List Str) (hn : n = ss.length) (room : ss.length + 1 < scanBound)
    (item : ∀ i v, Pv i v → ∃ k u, ss[i]? = some k ∧ v = .str k u) : ∀ (m i : Nat) (s : Shared), n - i = m → i ≤ n → St i s → (∃ l, TxAt P w s.heap p l ∧ (∀ z, z ∈ l ↔ z ∈ ss.take i) ∧ l.length ≤ i) →
      (∀ s' l, Moved (p :: wr) G s s' → TxAt P w s'.heap p l → (∀ z, z ∈ l ↔ z ∈ ss) → l.length ≤ n → R (.ok (.ret .none)) s') → codeAny (model P w) A (.builtin "set.update.loop" ⟨[.ref p, .ref I], []⟩) R s := by
  have pw : p ∉ wr := fun z => out (W.sub _ z)
  have more : ∀ b ∈ wr, b ∈ p :: wr := fun b z => List.mem_cons_of_mem _ z
  intro m
  induction m with
  | zero =>
    intro i s hm hi st ⟨l, x, mem, few⟩ fin
    have ei : i = n := by omega
    subst ei
    refine codeAny_builtin F.entry_set_update_loop ?_
    rw [Around.under_plainId F.plain_set_update_loop _]
    show wpAny _ A.in1 (pyNext (.ref I) >>= _) _ _ s
    refine wpAny_bind (W.done s _ _ st fun s1 mv => ?_)
    show wpAny _ A.in1 (ret Value.none) _ _ s1
    exact wpAny_pure (fin s1 l (mv.mono more) (x.at_ fun o z => mv.heap p o pw z) (fun z => by rw [mem z, List.take_of_length_le (by omega)]) few)
  | succ m ih =>
    intro i s hm hi st ⟨l, x, mem, few⟩ fin
    have lt : i < n := by omega
    refine codeAny_builtin F.entry_set_update_loop ?_
    rw [Around.under_plainId F.plain_set_update_loop _]
    show wpAny _ A.in1 (pyNext (.ref I) >>= _) _ _ s
    refine wpAny_bind (W.item i s _ _ lt st fun v s1 hv st1 mv => ?_)
    obtain ⟨k, u, hk, rfl⟩ := item i v hv
    have x1 : TxAt P w s1.heap p l := x.at_ fun o z => mv.heap p o pw z
    show wpAny _ A.in1 (holding [Value.str k u] (setAdd p (.str k u)) >>= _) _ _ s1
    unfold setAdd
    refine wpAny_bind (wpAny_holding (wpAny_holding (wpAny_bind ((PySem.strKind P w).pyHash (k := k) (is_str k u) ?_))))
    refine tx_add (s := { s1 with toks := s1.toks + 1 }) x1 (by omega) fun b h2 l2 sb x2 mem2 few2 => ?_
    have mem3 : ∀ z, z ∈ l2 ↔ z ∈ ss.take (i + 1) := fun z => by
      rw [mem2 z, mem z, List.take_add_one, hk]
      simp [List.mem_append]
    refine wpAny_pure ⟨plainId_quiet F.plain_set_update_loop _, ih (i + 1) _ (by omega) lt (W.frame _ s1 _ _ st1 (Nat.le_succ _) fun b hb o z => ?_) ⟨l2, x2, mem3, by omega⟩ fun s3 l3 mv3 x3 mem4 few4 => ?_⟩
    · rw [sb.2 b (fun q : b = p => out (by rw [← q]; exact hb))]
      exact z
    · refine fin s3 l3 (Moved.trans W.gtrans ((mv.mono more).then_heap (Nat.le_succ _) fun b o hb z => ?_) mv3) x3 mem4 few4
      rw [sb.2 b (fun q : b = p => hb (by rw [q]; exact List.mem_cons_self))]
      exact z
set_option maxHeartbeats 3200000 in
/-- set(a tuple of texts) -/
theorem tx_set {a : Addr} {its : Array Value} (ss : List Str) {Q : Value → Shared → Prop} (calm : A.handled = none) (ha : s.heap.IsTuple a its) (hi : StrsAre its.toList ss) (room : ss.length + 1 < scanBound)
    (q : ∀ (h' : Heap) (n : Nat) (l : List Str), TxAt P w h' s.heap.objs.size l → (∀ z, z ∈ l ↔ z ∈ ss) → l.length ≤ ss.length → (∀ b o, s.heap.get? b = some o → h'.get? b = some o) → Q (.ref s.heap.objs.size) { s with heap := h', toks := n }) :
    wpAny (model P w) A (call (.type "set") [.ref a]) Q E s := by
  have il : its.size = ss.length := by rw [← StrsAre.length hi, Array.length_toList]
  obtain ⟨mr0, mr1, mr2⟩ := F.called_set.mro
  have m0 := F.called_set.made
  have m1 := F.called_set.sub
  refine wpAny_call (codeAny_of_tree (show wpAny _ _ (callAny (.type "set") _) _ _ _ from ?_))
  refine wpAny_pure ⟨Code.quiet_builtin _ (by decide +kernel), codeAny_builtin F.entry_type_call (show _ from ?_)⟩
  rw [Around.under_plain (weight_type_call_type "set" [.ref a] []) rfl]
  have m2 := F.called_set.notType
  have m3 := F.called_set.canCreate
  have m4 := F.typeCall_set_1 (.ref a)
  repeat (any_goals (first | assumption | wp_step))
  refine codeAny_mono (code_set_led1 (.ref a) (E := E) (Q₁ := fun ob s1 => ob = .ref s.heap.objs.size ∧ s1 = { s with heap := s.heap.push (frO w) }) ⟨rfl, rfl⟩) fun r s1 hr => ?_
  cases r with
  | error x => exact hr
  | ok fl =>
    cases fl with
    | ret ob =>
      obtain ⟨rfl, rfl⟩ := hr
      have z0 : (s.heap.push (frO w)).get? s.heap.objs.size = some (frO w) := Heap.get?_push_size _ rfl
      have zT : Shared.TypeIs { s with heap := s.heap.push (frO w) } (.ref s.heap.objs.size) "set" := ⟨_, z0, rfl⟩
      have m5 := F.called_set.init.lookup
      have m6 := F.called_set.init.bind (.ref s.heap.objs.size)
      repeat (any_goals (first | assumption | wp_step))
      refine codeAny_mono (codeAny_call_builtin (R := wants (fun r s2 => r = .none ∧ ∃ h' n l, s2 = { s with heap := h', toks := n } ∧ TxAt P w h' s.heap.objs.size l ∧ (∀ z, z ∈ l ↔ z ∈ ss) ∧ l.length ≤ ss.length ∧
          (∀ b o, s.heap.get? b = some o → h'.get? b = some o)) E) F.called_set.init.plain F.entry_set_init (check_set_init_1 zT ?_)) fun r2 s2 hr2 => ?_
      · obtain ⟨oa, hoa, hca, na, hda⟩ := ha
        obtain ⟨ocl, odi, oda, osl⟩ := oa
        simp only at hca hda
        subst hca hda
        have hoa2 : (s.heap.push (frO w)).get? a = some { cls := .type "tuple", dict := odi, data := .seq its na, slots := osl } := Heap.get?_push_of_some _ hoa
        have n1 := F.sub_tuple_set
        have n2 := F.sub_tuple_frozenset
        have n3 : (Value.type "tuple" == Value.type "dict") = false := by decide
        have ia : (s.heap.push (frO w)).IsTuple a its := ⟨_, hoa2, rfl, na, rfl⟩
        unfold Builtin.«set.__init__» noKeywords Builtin.Frozenset.updateFrom
        generalize hPI : pyIter = PI
        wp_walk
        subst hPI
        refine wpAny_pyIter_tuple ia (wpAny_bind (wpAny_runValue ?_))
        have lt := Heap.lt_size hoa
        have calm3 : A.in1.in1.in1.handled = none := by simp [calm]
        have z1 : (s.heap.push (frO w)).objs.size = s.heap.objs.size + 1 := Heap.size_push ..
        have aI : a ≠ (s.heap.push (frO w)).objs.size := by
          rw [z1]
          exact Nat.ne_of_lt (Nat.lt_succ_of_lt lt)
        have out : s.heap.objs.size ∉ [(s.heap.push (frO w)).objs.size, a] := by
          rw [z1]
          simp only [List.mem_cons, List.not_mem_nil, or_false, not_or]
          exact ⟨Nat.ne_of_lt (Nat.lt_succ_self _), Nat.ne_of_gt lt⟩
        have item : ∀ (i : Nat) (v : Value), its[i]? = some v → ∃ k u, ss[i]? = some k ∧ v = .str k u := fun i v hv => by
          obtain ⟨y, t, e1, e2⟩ := StrsAre.item hi i v (by rw [Array.getElem?_toList]; exact hv)
          exact ⟨y, t, e2, e1⟩
        refine tx_loop ((Walks.tuple calm3 _ a aI its).toS) s.heap.objs.size out ss il room item (its.size - 0) 0 _ (by omega) (Nat.zero_le _) ⟨⟨_, Heap.get?_push_size _ rfl, rfl, rfl⟩, (ia.push _)⟩ ⟨[], txAt_new (Heap.get?_push_of_some _ z0), (fun z => by simp), Nat.le_refl _⟩ ?_
        intro s3 l mv x mem few
        obtain ⟨h3, g3, d3, t3, o3⟩ := s3
        obtain rfl : g3 = s.gens := mv.gens
        obtain rfl : d3 = s.drawn := mv.drawn
        obtain rfl : o3 = s.os := mv.os
        show wpAny _ _ _ _ _ _
        refine wpAny_pure (show wpAny _ _ (ret Value.none) _ _ _ from ?_)
        refine wpAny_pure ⟨rfl, h3, t3, l, rfl, x, mem, by rw [← il]; exact few, fun b o z => ?_⟩
        have b0 := Heap.lt_size z
        refine mv.heap b o ?_ (Heap.get?_push_of_some _ (Heap.get?_push_of_some _ z))
        rw [z1]
        simp only [List.mem_cons, List.not_mem_nil, or_false, not_or]
        exact ⟨Nat.ne_of_lt b0, Nat.ne_of_lt (Nat.lt_succ_of_lt b0)⟩
      · cases r2 with
        | error x => exact hr2
        | ok fl2 =>
          cases fl2 with
          | ret r =>
            obtain ⟨rfl, h3, n3, l, rfl, x, mem, few, kp⟩ := hr2
            repeat (any_goals (first | assumption | wp_step))
            exact q h3 n3 l x mem few kp
          | _ => exact hr2.elim
    | _ => exact hr.elim
theorem perm_sub {α : Type} [DecidableEq α] : ∀ {l m : List α}, l.Nodup → (∀ x ∈ l, x ∈ m) → m.length ≤ l.length → l.Perm m
  | [], m, _, _, h => by
    have e : m = [] := List.eq_nil_of_length_eq_zero (Nat.le_zero.mp h)
    rw [e]
  | x :: l, m, nd, sub, h => by
    obtain ⟨nx, nl⟩ := List.nodup_cons.mp nd
    have hx := sub x List.mem_cons_self
    have hl : (m.erase x).length ≤ l.length := by
      rw [List.length_erase_of_mem hx]
      rw [List.length_cons] at h
      omega
    have ih := perm_sub nl (fun y hy => (List.mem_erase_of_ne (fun (e : y = x) => nx (by rw [← e]; exact hy))).2 (sub y (List.mem_cons_of_mem _ hy))) hl
    exact (ih.cons x).trans (List.perm_cons_erase hx).symm
/-- sorted(a set of texts) -/
theorem tx_sorted {p : Addr} {l : List Str} {Q : Value → Shared → Prop} (x : TxAt P w s.heap p l) (calm : A.handled = none) (few : l.length < 64)
    (q : ∀ s1 r (res : Array Value) (n : Nat) (ys : List Str), (∀ b o, s.heap.get? b = some o → s1.heap.get? b = some o) → s1.gens = s.gens → s1.os = s.os → s.heap.objs.size ≤ r → s1.heap.get? r = some (seqObj "list" res n) → StrsAre res.toList ys → ys.Perm l → sortedS ys = true → Q (.ref r) s1) :
    wpAny (model P w) A (call (.builtin "sorted") [.ref p]) Q E s := by
  obtain ⟨rows, c, tb, e, T, up, ld, nd⟩ := x
  have sz : rows.size = l.length := T.sz
  refine Calls.call_function_entry kind_sorted plain_sorted entry_sorted (args_sorted1 _) (show _ from ?_)
  unfold Builtin.«sorted»
  refine wpAny_bind (m := checkCount "sorted" 1 1 _) (wpAny_pure (wpAny_bind (collect_set (A := A.in1) calm ⟨_, e, rfl, rfl⟩ T.fit (show rows.size < scanBound by unfold scanBound; omega) up ld fun s1 vs k1 hz g1 o1 pm => ?_)))
  have el : ∀ v ∈ rows.toList.map (·.2), ∃ k u, v = Value.str k u := fun v hv => by
    obtain ⟨r, hr, rfl⟩ := List.mem_map.mp hv
    obtain ⟨⟨k, hk, _⟩, _⟩ := T.el r hr
    have hk : Value.isStrOf k r.2 = true := hk
    cases ev : r.2 <;> rw [ev] at hk <;> first
      | exact ⟨_, _, rfl⟩
      | cases hk
  have S0 := strsAre_map (rows.toList.map (·.2)) el
  have SV := strsAre_map vs fun v hv => el v (pm.mem_iff.mp hv)
  have pk : (vs.map strOf).Perm l := by
    have p1 : (vs.map strOf).Perm ((rows.toList.map (·.2)).map strOf) := pm.map strOf
    refine p1.trans ?_
    have len : ((rows.toList.map (·.2)).map strOf).length = l.length := by rw [List.length_map, List.length_map, Array.length_toList, sz]
    have sub : ∀ k ∈ l, k ∈ (rows.toList.map (·.2)).map strOf := fun k hk => by
      obtain ⟨r, hr, is⟩ := (T.mem k).mp hk
      obtain ⟨k2, u, ev⟩ := el r.2 (List.mem_map_of_mem hr)
      have is : Value.isStrOf k r.2 = true := is
      rw [ev] at is
      have ek : k2 = k := by simpa [Value.isStrOf] using is
      refine List.mem_map.mpr ⟨r.2, List.mem_map_of_mem hr, ?_⟩
      rw [ev, ← ek] <;> rfl
    exact (perm_sub nd sub (Nat.le_of_eq len)).symm
  have vl : vs.length < 64 := by
    have := pk.length_eq
    rw [List.length_map] at this
    omega
  refine wpAny_bind (wpAny_newList ?_ (by rw [sizeLine_eq]; omega))
  have o2 : (s1.heap.push (seqObj "list" vs.toArray 0)).get? s1.heap.objs.size = some (seqObj "list" vs.toArray 0) := Heap.get?_push_size _ rfl
  refine wpAny_bind (wpAny_holding (wpAny_call_entry slot_list_sort ⟨_, o2, rfl⟩ entry_list_sort (list_sort_treeK strKind_oneLt o2 SV.keysOf (fun v1 v2 rest z => keyKind_strs (by rw [← z]; exact SV)) vl fun st hp hs => ⟨_, rfl, ?_⟩) (args_list_sort _)))
  obtain ⟨ys, y1, y2, y3⟩ := sorted_out_str SV hp hs
  obtain ⟨n, hn⟩ := sortedHeap_at (vs := vs) (out := (arrOf st).map (·.2)) o2
  refine wpAny_pure ⟨_, rfl, q _ s1.heap.objs.size _ n ys (fun b o z => ?_) g1 o1 hz hn y1 (y2.trans pk) y3⟩
  have z1 := k1 b o z
  have lt := Heap.lt_size z1
  show (sortedHeap (s1.heap.push (seqObj "list" vs.toArray 0)) s1.heap.objs.size vs _).get? b = some o
  rw [sortedHeap_old (Nat.ne_of_lt lt) (by rw [size_push']; exact Nat.lt_succ_of_lt lt)]
  exact Heap.get?_push_of_some _ z1
end
/-- a set of texts in the heap of the proof -/
def TxO (P : Program) (w : World) (p : Addr) (l : List Str) : HO := .ext fun h => TxAt P w h p l
theorem txO_ok {P : Program} {w : World} {H : Hp} {h : Heap} {p : Addr} {l : List Str} (x : TxAt P w h p l) : ObjOk P w H h p (TxO P w p l) := by
  have ⟨rows, c, tb, z, r⟩ := x
  exact ⟨x, ⟨_, z⟩, fun h1 h2 y k => TxAt.at_ y k⟩
section
variable {X : Cx} {K : PySem.W.Frag}
/-- set(x), sorted(x) -/
def uSetT (K : PySem.W.Frag) (P : Program) (w : World) : List V → Hp → VK → Prop := fun xs H Q => ∃ (t : Addr) (ss : List Str), xs = [V.ref t] ∧ SqT K H t (ss.map V.str) ∧ ss.length < 64 ∧ ∀ p l, H p = none → (∀ z, z ∈ l ↔ z ∈ ss) → l.Nodup → l.length ≤ ss.length → Q (.ref p) (upd H p (TxO P w p l))
def uSortT (P : Program) (w : World) : List V → Hp → VK → Prop := fun xs H Q => ∃ (p : Addr) (l : List Str), xs = [V.ref p] ∧ H p = some (TxO P w p l) ∧ l.length < 64 ∧ ∀ r ys, H r = none → ys.Perm l → sortedS ys = true → Q (.ref r) (upd H r (.lst (ys.map V.str)))
theorem call_setT (hc : X.calm = true) (hK : X.K = K := by rfl) : CallR X (.type "set") (uSetT K X.prog X.w) := by
  subst hK
  intro pins s σ H xs us Q I r h
  obtain ⟨t, ss, rfl, ht, few, q⟩ := h
  rw [Vals.ref1 r]
  obtain ⟨its, rv, pt, _⟩ := I.tuple ht
  refine tx_set (P := X.prog) (w := X.w) ss (I.ok.hd hc) pt (by simpa using rv.strs) (by unfold scanBound; omega) fun h' n l x mem le kp => ?_
  have nd : l.Nodup := by
    obtain ⟨_, _, _, _, _, _, _, nd⟩ := x
    exact nd
  exact ⟨.ref s.heap.objs.size, _, I.laid (t' := n) kp (Nat.le_refl _) (txO_ok x), rfl, q _ l (I.hok.fresh (Nat.le_refl _)) mem nd le⟩
theorem call_sortT (hc : X.calm = true) : CallR X (.builtin "sorted") (uSortT X.prog X.w) := by
  intro pins s σ H vs us Q I r h
  obtain ⟨p, l, rfl, hp, few, q⟩ := h
  have x : TxAt X.prog X.w s.heap p l := (I.hok p _ hp).1
  rw [Vals.ref1 r]
  refine tx_sorted x (I.ok.hd hc) few fun s1 b res n ys kp g o hb hr sa pm so => ?_
  have len : (ys.map V.str).length ≤ sizeLine := by
    rw [List.length_map, pm.length_eq, sizeLine_eq]
    omega
  have nb : H b = none := I.hok.fresh hb
  have J : Inv X pins σ (upd H b (.lst (ys.map V.str))) { s with heap := s1.heap, gens := s1.gens, drawn := s1.drawn, toks := s1.toks } :=
    I.call (ch := []) (Un.laid kp hb nb) (I.hok.laid kp hb ⟨len, res.toList, n, vals_of_strs sa, hr⟩) (by rw [g]; exact I.bare) (fun _ z => nomatch z)
  have e : s1 = { s with heap := s1.heap, gens := s1.gens, drawn := s1.drawn, toks := s1.toks } := by
    cases s1
    cases s
    cases o
    rfl
  rw [e]
  exact ⟨.ref b, _, J, rfl, q b ys nb pm so⟩
end
section
variable {K : PySem.W.Frag} {P : Program} {w : World} {H : Hp} {Q : VK} {p t : Addr} {l ss : List Str}
theorem r_setT (h : H t = some (.tup (ss.map V.str))) (few : ss.length < 64) (k : ∀ p l H', H p = none → (∀ z, z ∈ l ↔ z ∈ ss) → l.Nodup → l.length ≤ ss.length → Same H H' → H' p = some (TxO P w p l) → Q (.ref p) H') : uSetT K P w [.ref t] H Q :=
  ⟨t, ss, rfl, SqT.of h, few, fun p l np mem nd le => k p l _ np mem nd le (same_new np) upd_same⟩
theorem r_sortT (h : H p = some (TxO P w p l)) (few : l.length < 64) (k : ∀ r ys H', H r = none → ys.Perm l → sortedS ys = true → Same H H' → H' r = some (.lst (ys.map V.str)) → Q (.ref r) H') : uSortT P w [.ref p] H Q :=
  ⟨p, l, rfl, h, few, fun r ys nr pm so => k r ys _ nr pm so (same_new nr) upd_same⟩
end
end Dk

/-! The head's facts with tests of one's own beside the kit's. -/
namespace Dk
open PySem PySem.Spec PyProof.Rows L2
abbrev Prd : Type := PySem.W.Frag → Bool
def obsB (fa : List He.Fa) (fb : List Prd) (fn : List He.DefD) (K : PySem.W.Frag) : He.AlD := ((He.obsD fa fn K).1 && fb.all (fun p => p K), (He.obsD fa fn K).2)
def SaysB (fa : List He.Fa) (fb : List Prd) (fn : List He.DefD) (K : PySem.W.Frag) : Prop := obsB fa fb fn K = He.valD fn
def obsBG (n : Nat) (fa : List He.Fa) (fb : List Prd) (fn : List He.DefD) (g : Addr → Option Obj) : He.AlD := obsB fa fb fn (He.frG g (He.asD g n))
def hookB (n : Nat) (fa : List He.Fa) (fb : List Prd) (fn : List He.DefD) : PySem.W.Hook where
  α := He.AlD
  obs := fun s => obsBG n fa fb fn s.heap.get?
  val := fun _ => He.valD fn
  says := fun _ h => ∃ K : PySem.W.Frag, K.In h ∧ SaysB fa fb fn K
  of := fun _ _ q => ⟨_, He.frG_in, q⟩
  keeps := fun _ _ _ ⟨K, i, c⟩ k => ⟨K, PySem.W.Frag.In.keeps i k, c⟩
theorem obsBG_eq {n : Nat} {fa : List He.Fa} {fb : List Prd} {fn : List He.DefD} {g : Addr → Option Obj} {s : Shared} (h : ∀ a, g a = s.heap.get? a) : obsBG n fa fb fn g = (hookB n fa fb fn).obs s := by
  have q : g = s.heap.get? := funext h
  rw [q] <;> rfl
theorem SaysB.d {fa : List He.Fa} {fb : List Prd} {fn : List He.DefD} {K : PySem.W.Frag} (c : SaysB fa fb fn K) : He.SaysD fa fn K ∧ ∀ (i : Nat) (p : Prd), fb[i]? = some p → p K = true := by
  have h1 : ((He.obsD fa fn K).1 && fb.all (fun p => p K)) = true := congrArg (fun z : He.AlD => z.1) c
  have h2 : (He.obsD fa fn K).2 = fn.map He.DefD.val := congrArg (fun z : He.AlD => z.2) c
  obtain ⟨k1, k2⟩ := He.ba h1
  exact ⟨Prod.ext k1 h2, fun i p q => List.all_eq_true.mp k2 p (List.mem_of_getElem? q)⟩
/-! ### what is asked of exception classes -/
def pExcC (x : Str) : Prd := fun K => He.eqO (PySem.W.findIn K (.ref (He.ga K x)) "__getattribute__") (some (some (.builtin "BaseException.__getattribute__"))) && (He.eqO (PySem.W.findIn K (.ref (He.ga K x)) "__getattr__") (some none) &&
  (decide (PySem.W.subIn K (.ref (He.ga K x)) (.type "BaseException") = some true) && (PySem.W.hasDictIn K (He.ga K x) && (He.eqO (PySem.W.findIn K (.ref (He.ga K x)) "__class__") (some (some (.builtin "object.__class__"))) &&
  (He.eqO (PySem.W.specialIn K (.builtin "object.__class__") "__get__") (some (some (.builtin "getset_descriptor.__get__"))) && (decide (PySem.W.takesIn K (.builtin "object.__class__") = some true) && decide (PySem.W.mroIn K (He.ga K x) (.type "object") = some true)))))))
theorem pExcC_ok {K : PySem.W.Frag} {x : Str} (h : pExcC x K = true) : ExcC K (He.ga K x) := by
  obtain ⟨a1, h⟩ := He.ba h
  obtain ⟨a2, h⟩ := He.ba h
  obtain ⟨a3, h⟩ := He.ba h
  obtain ⟨a4, h⟩ := He.ba h
  obtain ⟨a5, h⟩ := He.ba h
  obtain ⟨a6, h⟩ := He.ba h
  obtain ⟨a7, a8⟩ := He.ba h
  exact ⟨He.eqO_ok a1, He.eqO_ok a2, of_decide_eq_true a3, a4, He.eqO_ok a5, He.eqO_ok a6, of_decide_eq_true a7, of_decide_eq_true a8⟩
def pKit (x : Str) (v : PySem.W.Frag → Value) (b : Bool) : Prd := fun K => decide (PySem.W.kitOne K (.ref (He.ga K x)) (v K) = some b)
theorem pKit_ok {K : PySem.W.Frag} {x : Str} {v : PySem.W.Frag → Value} {b : Bool} (h : pKit x v b K = true) : PySem.W.kitOne K (.ref (He.ga K x)) (v K) = some b := of_decide_eq_true h
end Dk

/-! Attributes as targets, del, enumerate, comprehensions with any target, sorted ints; data with lists. -/
namespace Dk
open PySem PySem.Spec PyProof.Rows L2
theorem bt_set : bootBuiltins "set" = some (.type "set") := by decide +kernel
section
variable {X : Cx} {K : PySem.W.Frag} {o i e : Expr} {to ti : TE} {f : Str} {pos tpos : Pos} {ta : TA}
/-- o.f as a target -/
def gFld (K : PySem.W.Frag) (to : TE) (f : Str) : TG := fun v σ H Q => to σ H fun x H1 => ∃ a C dx fs, x = .ref a ∧ H1 a = some (.ins C dx fs) ∧ Cls K C ∧ NoAttr K C f ∧ fs.length < 1000 ∧ Q σ (upd H1 a (.ins C dx (putF f v fs)))
theorem pg_fldU (ho : PE X o to) (hK : X.K = K := by rfl)
    (ha : ∀ v, assign (.Attribute o f pos) X.env v = (do let ov ← holding [v] (eval o X.env); standAt pos.atName; holding [v, ov] (setAttr ov f v); release [v, ov] []) := by intro _; rfl) : PG X (.Attribute o f pos) (gFld K to f) := by
  subst hK
  refine ⟨fun pins s σ H v u Q I r h => ?_⟩
  rw [ha]
  refine wpAny_bind (wpAny_holding (thn (ho.run pins s σ H _ I h) fun ov s1 ⟨x, H1, I1, r1, a, C, dx, fs, ex, ea, c, n, l, q1⟩ => ?_))
  subst ex
  obtain rfl : ov = Value.ref a := r1
  exact wpAny_bind (wpAny_standAt (wpAny_bind (wpAny_holding (setattr_ok I1 ea c n l r fun s3 I3 => wpAny_release ⟨σ, _, I3, q1⟩))))
/-- sorted(xs), ints -/
def uSortI (K : PySem.W.Frag) : List V → Hp → VK → Prop := fun xs H Q => match xs with
  | [.ref a] => ∃ ns : List Int, SqL K H a (ns.map V.int) ∧ ∀ (ns' : List Int) (p : Addr), ns'.Perm ns → ns'.Pairwise (· ≤ ·) → H p = none → Q (.ref p) (upd H p (.lst (ns'.map V.int)))
  | _ => False
theorem call_sortIU (hK : X.K = K := by rfl) : CallR X (.builtin "sorted") (uSortI K) := by
  subst hK
  refine callw cr_sortedI fun xs H Q h => ?_
  match xs, h with
  | [.ref a], h => exact ⟨a, h.choose, rfl, h.choose_spec.1, h.choose_spec.2⟩
end
section
variable {K : PySem.W.Frag} {σ : L2.St} {H : Hp} {Q : VK} {D : Ends} {to ti te tl' : TE} {tA : TA} {tt : TT} {vs : List Nat} {f : Str} {x v : V} {a C p : Addr} {fs fs' : List (Str × V)} {g : TG} {tb : TS} {QG : L2.St → Hp → Prop} {S : Hp → Hp → Prop}
theorem r_gfld (q : to σ H fun x H1 => sfldq K f v x σ { nx := QG, rt := fun _ _ => False } H1) : gFld K to f v σ H QG := q
def delq (x y : V) (σ : L2.St) (D : Ends) (H2 : Hp) : Prop := ∃ (l : Addr) (xs : List V) (i : Int) (k : Nat), x = .ref l ∧ y = .int i ∧ H2 l = some (.lst xs) ∧ -(2 ^ 63) ≤ i ∧ i < 2 ^ 63 ∧ seqIndex? i xs.length = some k ∧ D.nx σ (upd H2 l (.lst (xs.eraseIdx k)))
theorem r_delL (q : to σ H fun x H1 => ti σ H1 fun y H2 => delq x y σ D H2) : tDelL to ti D σ H := q
theorem seq_nat {k n : Nat} (h : k < n) : seqIndex? (k : Int) n = some k := by
  unfold seqIndex?
  have h1 : ¬ ((k : Int) < 0) := by omega
  have h2 : (k : Int) < (n : Int) := by omega
  have h3 : (0 : Int) ≤ (k : Int) := by omega
  simp [h1, h2, h3]
theorem r_delv {xs : List V} {k : Nat} (h : H a = some (.lst xs)) (hk : k < xs.length) (hl : xs.length ≤ 1000000) (q : ∀ H', H' a = some (.lst (xs.eraseIdx k)) → (∀ b, b ≠ a → H' b = H b) → D.nx σ H') : delq (.ref a) (.int k) σ D H :=
  ⟨a, xs, k, k, rfl, rfl, h, by omega, by omega, seq_nat hk, q _ upd_same fun b hb => upd_ne hb⟩
theorem r_sortI {ns : List Int} (h : H a = some (.lst (ns.map V.int))) (k : ∀ p (ns' : List Int) H', H p = none → ns'.Perm ns → ns'.Pairwise (· ≤ ·) → Same H H' → H' p = some (.lst (ns'.map V.int)) → Q (.ref p) H') : uSortI K [.ref a] H Q :=
  ⟨ns, SqL.of h, fun ns' p pm pw np => k p ns' _ np pm pw (same_new np) upd_same⟩
/-- for j, x in enumerate(a list that stands) -/
def feq (K : PySem.W.Frag) (xs : List V) (g : TG) (tb : TS) (D : Ends) (σ : L2.St) (H : Hp) : Prop := tFor (iEnum K fun _ H1 QA => QA xs H1) g tb D σ H
theorem r_fore (q : tA σ H fun xs H1 => feq K xs g tb D σ H1) : tFor (iEnum K tA) g tb D σ H := q
theorem for_E {xs : List V} {j k : Nat} (Pv : Nat → L2.St → Hp → Prop) (h : H a = some (.lst xs)) (h0 : Pv 0 σ H) (hl : ∀ i σ' H', i ≤ xs.length → Pv i σ' H' → SqL K H' a xs)
    (hs : ∀ (i : Nat) x σ' H1 H2, xs[i]? = some x → Pv i σ' H1 → Same H1 H2 → tb (Ends.mk (Pv (i + 1)) D.rt D.nx (Pv (i + 1))) ((σ'.set j (some (.int i))).set k (some x)) H2) (hd : ∀ σ' H', Pv xs.length σ' H' → D.nx σ' H') :
    feq K [.ref a] (gTup K 2 (gCons (gName j) (gCons (gName k) gNil))) tb D σ H := by
  refine ⟨a, xs, rfl, SqL.of h, for_it (walk_enum (K := K) (a := a) (xs := xs)) Pv h0 hl (fun i v σ' H1 H2 hi hp hy => ?_) hd⟩
  obtain ⟨T, y, z, rfl, nT, rfl, ey, ez⟩ := hy
  cases ey
  exact ⟨T, [.int i, z], rfl, SqT.of upd_same, rfl, _, _, rfl, _, _, rfl, rfl, hs i z σ' H1 _ ez hp (same_new nT)⟩
/-- [.. for target in a list that stands if ..] -/
theorem lc_LG {xs : List V} (h : H p = some (.lst xs)) (hk : ∀ H', S H H' → H' p = some (.lst xs)) (sr : Sr H S) (Rv : Nat → List PyData → Prop) (hn : xs.length < 10000000) (h0 : Rv 0 [])
    (el : ∀ (i : Nat) x (H1 : Hp) (ds : List PyData) (Q1 : VK) (Qn : Hp → Prop), xs[i]? = some x → S H H1 → Rv i ds →
      (∀ y d H2, S H1 H2 → Dq H2 y d → Rv (i + 1) (ds ++ [d]) → Q1 y H2) → (∀ H2, S H1 H2 → Rv (i + 1) ds → Qn H2) → g x (wipe σ vs) H1 fun σ2 H2 => wipe σ2 vs = wipe σ vs ∧ tt σ2 H2 fun b H3 => if b = true then te σ2 H3 Q1 else Qn H3)
    (k : ∀ D H' ys ds, H D = none → S H H' → H' D = some (.lst ys) → Dqs H' ys ds → Rv xs.length ds → Q (.ref D) H') : luq K (.ref p) g tt te vs σ H Q :=
  .inl ⟨⟨xs, SqL.of h⟩, lc_gen (walk_list (xs := xs)) sr Rv (fun H' s => SqL.of (hk H' s)) hn h0 (fun i x H1 H1' ds Q1 Qn hi s1 hy rv k1 k2 => by
    obtain ⟨rfl, hy⟩ := hy
    exact el i x H1' ds Q1 Qn hy s1 rv k1 k2) k⟩
end
/-! data that may hold lists, truth values: equal to themselves -/
structure Lay (n : Nat) (d : PyData) : Prop where
  ok : d.canLay0 = true
  dp : d.depth ≤ n
theorem Lay.le {n m : Nat} {d : PyData} (h : Lay n d) (k : n ≤ m) : Lay m d := ⟨h.ok, Nat.le_trans h.dp k⟩
theorem Okd.lay {n : Nat} {d : PyData} (h : Okd n d) : Lay n d := ⟨nb_lay d h.nb, h.dp⟩
theorem lay_all {n : Nat} : ∀ {ds : List PyData}, (∀ d ∈ ds, Lay n d) → PyData.canLayAll0 ds = true ∧ PyData.depthAll ds ≤ n
  | [], _ => ⟨by simp [PyData.canLayAll0], by simp [PyData.depthAll]⟩
  | d :: ds, h => by
    have h1 := h d List.mem_cons_self
    have h2 := lay_all fun e he => h e (List.mem_cons_of_mem _ he)
    refine ⟨by rw [PyData.canLayAll0, h1.ok, h2.1] <;> rfl, ?_⟩
    rw [PyData.depthAll]
    have := h1.dp
    omega
theorem Lay.lst {n : Nat} {ds : List PyData} (h : ∀ d ∈ ds, Lay n d) : Lay (n + 1) (.list ds) := by
  have q := lay_all h
  refine ⟨by rw [PyData.canLay0]; exact q.1, ?_⟩
  rw [PyData.depth]
  omega
theorem Lay.tup {n : Nat} {ds : List PyData} (h : ∀ d ∈ ds, Lay n d) : Lay (n + 1) (.tuple ds) := by
  have q := lay_all h
  refine ⟨by rw [PyData.canLay0]; exact q.1, ?_⟩
  rw [PyData.depth]
  omega
theorem Lay.int {n : Nat} (i : Int) : Lay n (.int i) := (Okd.int i).lay
theorem Lay.bool {n : Nat} (b : Bool) : Lay n (.bool b) := ⟨by simp [PyData.canLay0], by simp [PyData.depth]⟩
theorem Lay.shaped {n : Nat} {d : PyData} (h : Lay n d) (k : n ≤ 64) : SeqAt.shaped d = true := by
  unfold SeqAt.shaped
  rw [h.ok, Bool.true_and, decide_eq_true_eq]
  exact Nat.le_trans h.dp k
section
variable {K : PySem.W.Frag} {H : Hp} {Q : VK} {p : Addr} {y : V} {d : PyData} {n : Nat}
theorem r_neLay (hx : Dp K H (.ref p) d) (hy : Dp K H y d) (ok : Lay n d) (hn : n ≤ 64) (q : Q (.bl false) H) : uNe K (.ref p) y H Q := by
  have z : rNeD K (.ref p) y H Q := ⟨d, d, hx, hy, ok.shaped hn, ok.shaped hn, by rw [SeqAt.eqv_refl _ ok.ok]; exact q⟩
  cases y <;> exact .inr z
theorem r_eqLay (hx : Dp K H (.ref p) d) (hy : Dp K H y d) (ok : Lay n d) (hn : n ≤ 64) (q : Q (.bl true) H) : uEq K (.ref p) y H Q := by
  have z : rEqD K (.ref p) y H Q := ⟨d, d, hx, hy, ok.shaped hn, ok.shaped hn, by rw [SeqAt.eqv_refl _ ok.ok]; exact q⟩
  cases y <;> exact .inr z
end
theorem ixN_nat {n i : Nat} (h : i < n) : ixN n (i : Int) = some i := by
  unfold ixN
  rw [if_pos (by omega), if_pos (by omega)]
  simp
theorem dqs_ints {H : Hp} : ∀ {ns : List Int} {ys : List V}, Dqs H ys (ns.map PyData.int) → ys = ns.map V.int
  | [], _, h => by
    cases h
    rfl
  | n :: ns, _, h => by
    cases h with
    | cons h1 h2 =>
      cases h1
      rw [dqs_ints h2] <;> rfl
theorem dqs_ints_mk {H : Hp} : ∀ ns : List Int, Dqs H (ns.map V.int) (ns.map PyData.int)
  | [] => .nil
  | n :: ns => .cons (.int n) (dqs_ints_mk ns)
theorem take_one {α : Type} {xs : List α} {i : Nat} {x : α} (h : xs[i]? = some x) : xs.take (i + 1) = xs.take i ++ [x] := by
  rw [List.take_add_one, h] <;> rfl
/-- the variable of a comprehension -/
theorem hw1 {σ : L2.St} {vs : List Nat} {j : Nat} (h : vs = [j]) : ∀ x : V, wipe ((wipe σ vs).set j (some x)) vs = wipe σ vs := fun x => by
  subst h
  show ((σ.set j none).set j (some x)).set j none = σ.set j none
  rw [List.set_set, List.set_set]
end Dk

/-! Own exceptions under ValueError whose __init__ calls super().__init__ and stores. -/
namespace Dk
open PySem PySem.Spec PyProof.Rows L2
/-- ValueError.__init__ bound to the object at x -/
abbrev veW (x : Addr) : Obj := { cls := .type "method-wrapper", dict := none, data := .fields #[.builtin "ValueError.__init__", .ref x], slots := #[] }
theorem ve_ty : typeOf (.builtin "ValueError.__init__") = pure (.type "wrapper_descriptor") := by
  show builtinType _ = _
  rw [builtinType_eq_fast]
  kernel_rfl
theorem ve_nac : (kfb_private% "nameAndClass") (Value.builtin "ValueError.__init__") = (pure (("__init__" : Str), Value.type "ValueError") : Sem (Str × Value)) := by kernel_rfl
section
open PySem.W
variable {P : Program} {w : World} {M : Model} {A : Around} {E : Value → Shared → Prop} {hp : Heap} {g : Array GenState} {d : Drawn} {t : Nat} {os : OsState}
theorem ve_bind {x C : Addr} {R : Fin → Shared → Prop} (is : W.Looks M hp (isInstance (.ref x) (.type "ValueError")) true) (q : R (.done (.ret (.ref hp.objs.size))) ⟨hp.push (veW x), g, d, t, os⟩) :
    wpAny M A (Builtin.«wrapper_descriptor.__get__» ⟨[.builtin "ValueError.__init__", .ref x, .ref C], []⟩) R E ⟨hp, g, d, t, os⟩ := by
  unfold Builtin.«wrapper_descriptor.__get__»
  refine wpAny_bind (wpAny_of_eq (a := (.builtin "ValueError.__init__", some (.ref x), some (.ref C))) (by first | rfl | kernel_rfl) ?_)
  show wpAny M A ((kfb_private% "checkInstance") (.builtin "ValueError.__init__") (.ref x) >>= fun _ => newFields "method-wrapper" [.builtin "ValueError.__init__", .ref x] >>= fun r => ret r) R E _
  refine wpAny_bind (show wpAny M A ((kfb_private% "nameAndClass") (.builtin "ValueError.__init__") >>= _) _ E _ from ?_)
  refine wpAny_bind (wpAny_of_eq ve_nac (show wpAny M A (isInstance (.ref x) (.type "ValueError") >>= _) _ E _ from ?_))
  exact wpAny_bind (is.at (KFB.if_not rfl (wpAny_pure (wpAny_bind (wpAny_newObj_type (wpAny_pure q))))))
theorem ve_super {so D x C : Addr} {l0 l : List Value} {K : Frag} {name : Str} {tk : Tok} {R : Fin → Shared → Prop}
    (at_ : hp.get? so = some (ks_superObj D x C)) (no : W.Looks (model P w) hp (opaqueClassAbove (.ref C)) none) (mro : W.Looks (model P w) hp (mroOf (.ref C)) l0) (hl : (l0.dropWhile (· != .ref D)).drop 1 = l) (X : K.In hp)
    (al : alongIn K name l = some (some (.builtin "ValueError.__init__"))) (xC : x ≠ C) (hn : (name == ("__class__" : Str)) = false) (is : W.Looks (model P w) hp (isInstance (.ref x) (.type "ValueError")) true)
    (q : R (.done (.ret (.ref hp.objs.size))) ⟨hp.push (veW x), g, d, t, os⟩) : wpAny (model P w) A (Builtin.«super.__getattribute__» ⟨[.ref so, .str name tk], []⟩) R E ⟨hp, g, d, t, os⟩ := by
  have z1 := PySem.ESX.slot_wd.lookup
  have z2 : (Value.ref x == Value.ref C) = false := by simp [xC]
  have z3 := ve_ty
  have z4 : Shared.TypeIs ⟨hp, g, d, t, os⟩ (.builtin "ValueError.__init__") "wrapper_descriptor" := ve_ty
  have z5 : (ks_superObj D x C).data = .fields #[.ref D, .ref x, .ref C] := rfl
  have y0 : (#[.ref D, .ref x, .ref C] : Array Value)[0]? = some (.ref D) := rfl
  have y1 : (#[.ref D, .ref x, .ref C] : Array Value)[1]? = some (.ref x) := rfl
  have y2 : (#[.ref D, .ref x, .ref C] : Array Value)[2]? = some (.ref C) := rfl
  unfold Builtin.«super.__getattribute__»
  repeat (first
    | (with_reducible refine wpAny_field at_ z5 y0 ?_) | (with_reducible refine wpAny_field at_ z5 y1 ?_) | (with_reducible refine wpAny_field at_ z5 y2 ?_)
    | (with_reducible refine ks_wpAny_notOpaque no ?_)
    | (with_reducible refine Looks.at mro ?_; rw [hl])
    | (refine ks_forIn_along X (fun _ _ => rfl) rfl ?_ al)
    | (with_reducible refine wpAny_call_entry PySem.ESX.slot_wd z4 PySem.ESX.entry_wd ?_ (PySem.ESX.args_wd _ _ _))
    | (with_reducible refine ve_bind is ?_)
    | (with_reducible refine ⟨_, rfl, ?_⟩)
    | (simp only [hn, z2, Bool.or_false, Bool.false_eq_true, if_false])
    | wp_step
    | dsimp only)
  all_goals exact q
theorem ve_method {so D x C : Addr} {l0 l : List Value} {K : Frag} {name : Str} {pl : Sem Bool} {R : Value × List Value → Shared → Prop}
    (at_ : hp.get? so = some (ks_superObj D x C)) (no : W.Looks (model P w) hp (opaqueClassAbove (.ref C)) none) (mro : W.Looks (model P w) hp (mroOf (.ref C)) l0) (hl : (l0.dropWhile (· != .ref D)).drop 1 = l) (X : K.In hp)
    (al : alongIn K name l = some (some (.builtin "ValueError.__init__"))) (xC : x ≠ C) (hn : (name == ("__class__" : Str)) = false) (is : W.Looks (model P w) hp (isInstance (.ref x) (.type "ValueError")) true)
    (q : R (.ref hp.objs.size, []) ⟨hp.push (veW x), g, d, t + 1, os⟩) : wpAny (model P w) A (getMethod (.ref so) name pl) R E ⟨hp, g, d, t, os⟩ := by
  have z1 := F.ks_slot_super_ga.lookup
  have z2 : ∀ n, (⟨hp, g, d, n, os⟩ : Shared).TypeIs (.ref so) "super" := fun _ => ⟨_, at_, rfl⟩
  unfold getMethod
  refine wpAny_bind (wpAny_specialOf (z2 _) z1 (show wpAny _ _ (if (Manifest.canonical "super.__getattribute__" != "object.__getattribute__") = true then _ else _) _ _ _ from ?_))
  rw [if_pos F.ks_canon_super_ga]
  unfold getAttr getAttrBy
  refine wpAny_bind (wpAny_bind (wpAny_mkText (wpAny_holding (wpAny_bind (wpAny_typeOf (z2 _) (wpAny_bind (wpAny_of_eq z1 (show wpAny _ _ (getAttrByItsOwn (.ref so) (.str name t) (.type "super") (.builtin "super.__getattribute__") true false) _ _ _ from ?_))))))))
  unfold getAttrByItsOwn hookBefore callGetattribute boundAndCalled
  refine wpAny_bind (wpAny_of_eq (show (if onTheHeap (.type "super") then typeLookup (.type "super") "__getattr__" else pure none) = pure none from rfl) (wpAny_bind (wpAny_attempt (wpAny_holding ?_))))
  refine wpAny_bind (wpAny_of_eq (F.ks_slot_super_ga.bind _) (wpAny_mono (Q := fun v s1 => v = .ref hp.objs.size ∧ s1 = ⟨hp.push (veW x), g, d, t + 1, os⟩) (E := fun _ _ => False)
    (wpAny_call_entry F.ks_slot_super_ga (z2 _) F.ks_entry_super_ga (ve_super at_ no mro hl X al xC hn is ⟨_, rfl, rfl, rfl⟩) (F.ks_gaArgs_super _ _)) (fun v s1 hv => ?_) fun _ _ z => z.elim))
  obtain ⟨rfl, rfl⟩ := hv
  exact wpAny_pure (wpAny_pure q)
end
section
open PySem.W PySem.Calls
variable {P : Program} {w : World} {M : Model} {A : Around} {E : Value → Shared → Prop} {s : Shared}
theorem ve_callArgs {pos : Pos} {u x : Addr} {first : List Value} {args : List (Bool × Sem Value)} {Q : Value → Shared → Prop} (np : args.any (·.1) = false)
    (h : wpAny M A (evalArgs (.ref u) true args []) (fun a s1 => s1.heap.get? u = some (veW x) ∧ wpAny M A (call (.ref u) (first ++ a.pos) a.kw) Q E s1) E s) : wpAny M A (callWith pos (.ref u) first args []) Q E s := by
  unfold callWith
  refine wpAny_bind (wpAny_holding (wpAny_mono h (fun a s1 h1 => wpAny_bind (wpAny_standAt ?_)) fun _ _ z => z))
  obtain ⟨ho, hc⟩ := h1
  simp only [np, List.any_nil, Bool.or_false]
  refine wpAny_bind (m := keeperOf (.ref u)) ?_
  unfold keeperOf
  refine wpAny_bind (wpAny_load ho ?_)
  simp only [veW, show (Value.type "method-wrapper" != Value.type "method") = true by decide, show (Value.type "method-wrapper" == Value.type "builtin_function_or_method" || Value.type "method-wrapper" == Value.type "method-wrapper") = true by decide, if_true]
  exact wpAny_pure (wpAny_bind (wpAny_mono hc (fun r s2 hr => wpAny_bind (wpAny_holding (wpAny_point (wpAny_pure hr)))) fun _ _ z => z))
theorem ve_callWith {pos : Pos} {u x : Addr} {first : List Value} {env : Env} {e : Expr} {rest : List Expr} {Q : Value → Shared → Prop}
    (h : wpAny M A (spliced (backTo pos (starEach (e :: rest) env))) (fun vs s1 => s1.heap.get? u = some (veW x) ∧ wpAny M A (call (.ref u) (first ++ vs)) Q E s1) E s)
    (he : starEach (e :: rest) env = (false, eval e env) :: starEach rest env := by rfl) (hpl : (backTo pos (starEach rest env)).any (·.1) = false := by rfl) :
    wpAny M A (callWith pos (.ref u) first (backTo pos (starEach (e :: rest) env)) []) Q E s := by
  rw [he] at h ⊢
  refine ve_callArgs (x := x) (show (false || (backTo pos (starEach rest env)).any (·.1)) = false by rw [hpl] <;> rfl) ?_
  exact evalArgs_plain h
end
section
variable {P : Program} {w : World} {A : Around} {E : Value → Shared → Prop} {hp : Heap} {g : Array GenState} {d : Drawn} {t : Nat} {os : OsState}
variable {nm q : Str} {C N : Addr} {bs bm : List Value} {hdct : Bool} {sn : List Str} {sub : List Value} {ab : Bool} {col : Option Bool} {dd : Option Addr} {k0 k1 k2 k3 k5 : Option Value}
theorem ve_call {u e t0 : Addr} {rest : List Value} {Q : Value → Shared → Prop} (hC : hp.get? C = some (excClassObj nm q C N bs bm hdct sn sub ab col dd k0 k1 k2 k3 k5 "ValueError.__new__")) (he : hp.get? e = some (PySem.HandSPX.excO C t0)) (hu : hp.get? u = some (veW e)) (few : rest.length ≤ sizeLine)
    (hq : ∀ h' t1, (∀ b o, b ≠ e → hp.get? b = some o → h'.get? b = some o) → h'.get? e = some (PySem.HandSPX.excO C t1) → Q .none ⟨h', g, d, t, os⟩) : wpAny (model P w) A (call (.ref u) rest) Q E ⟨hp, g, d, t, os⟩ := by
  refine wpAny_call (codeAny_of_tree (show wpAny _ A.in1 (callAny (.ref u) ⟨rest, []⟩) _ _ _ from ?_))
  simp only [callAny]
  refine wpAny_bind (wpAny_load hu ?_)
  simp only [veW, show (Value.type "method-wrapper" == Value.type "method" || Value.type "method-wrapper" == Value.type "builtin_function_or_method" || Value.type "method-wrapper" == Value.type "method-wrapper") = true by decide, if_true]
  refine W.KFB.if_so (by decide) (wpAny_bind (PySem.ESX.check_bound F.excBase_ValueError hC he rfl (wpAny_bind (wpAny_pure (wpAny_pure ?_)))))
  refine ⟨Code.quiet_builtin _ (by decide +kernel), codeAny_builtin F.excBase_ValueError.initEntry ?_⟩
  rw [Around.under_plainId F.excBase_ValueError.init.plain _]
  wp_walk
  refine hq _ hp.objs.size (fun b o hb ho => ?_) ?_
  · rw [Heap.get?_update_other _ _ (Ne.symm hb)]
    exact Heap.get?_push_of_some _ ho
  · rw [Heap.get?_update_self _ (Heap.get?_push_of_some _ he) rfl] <;> rfl
end
/-- what __init__(self, place) does: the argument is kept, place stands in the exception's dict -/
def spXi (C : Addr) : Sp := fun vs H Q _ => ∃ (a : Addr) (n : Int), vs = [.ref a, .int n] ∧ H a = some (exo a C none) ∧ ∀ dx, H dx = none → dx ≠ a → Q .non (upd (upd H dx (exd dx [("place", .int n)])) a (exo a C (some dx)))
abbrev scI : Scope := { kind := .function, names := [("self", .local), ("place", .local), ("__class__", .free), ("super", .globalImplicit)], isGenerator := false, isCoroutine := false, more := [] }
abbrev scD : Scope := { kind := .function, names := [("self", .local), ("place", .local)], isGenerator := false, isCoroutine := false, more := [] }
theorem scD_ok : FnScope ["self", "place"] ["self", "place"] scD := ⟨rfl, rfl, rfl, by decide +kernel, rfl, by decide +kernel, by decide +kernel⟩
section
open PySem.W PySem.Calls
variable {P : Program} {w : World} {K : PySem.W.Frag} {mg : Str → Option Value} {base : Heap} {CX : CXT}
theorem lk_hd' (y : Str) (v : Value) (r : List (Str × Value)) : List.lookup y ((y, v) :: r) = some v := by
  have e : (y == y) = true := beq_self_eq_true y
  simp only [List.lookup, e]
theorem lk_ne' {y z : Str} {v : Value} {r : List (Str × Value)} (h : y ≠ z) : List.lookup y ((z, v) :: r) = List.lookup y r := by
  have e : (y == z) = false := beq_eq_false_iff_ne.mpr h
  simp only [List.lookup, e]
theorem xinit_ok {k : Nat} {C f cc cda : Addr} {qual : Str} {params : Arguments} {dV kV doc pm ct oc ccl cl : Value} {an od cdd cld : Option Addr} {osl ccs csl : Array (Option Value)} {vs : Array Value} {file : Str} {tf : Tok} {ar : Arg} {p0 p1 p2 p3 p4 p5 p6 p7 p8 p9 : Pos} {body : List Stmt}
    (lk : K.lookup f = some ⟨oc, od, .func (ksFn "__init__" qual params body scI dV kV doc pm an (.ref cda) ct cc), osl⟩) (hcd : codeIn K (.ref cda) qual = true)
    (hbd : body = [.Expr (.Call (.Attribute (.Call (.Name "super" p0) [] [] p1) "__init__" p2) [.Name "place" p3] [] p4) p5, .Assign [.Attribute (.Name "self" p6) "place" p7] (.Name "place" p8) p9])
    {pl : Sem Bool} (hev : ∀ (Lc fa : Addr) (cd : Value) (ce : Addr), eval (.Call (.Attribute (.Call (.Name "super" p0) [] [] p1) "__init__" p2) [.Name "place" p3] [] p4) (ksEnv qual scI Lc fa cd ce) = (do
      let ov ← attributeBase (.Call (.Name "super" p0) [] [] p1) "__init__" (ksEnv qual scI Lc fa cd ce) (eval (.Call (.Name "super" p0) [] [] p1) (ksEnv qual scI Lc fa cd ce))
      standAt p2.atName
      let (f, first) ← holding [ov] (getMethod ov "__init__" pl)
      callWith p4 f first (backTo p4 (starEach [.Name "place" p3] (ksEnv qual scI Lc fa cd ce))) [])) (hps : (params.posonlyargs ++ params.args).head? = some ar) (har : ar.arg = "self")
    (hcode : K.lookup cda = some ⟨ccl, cdd, .fields vs, ccs⟩) (hvs : vs[2]? = some (.str file tf)) (hfile : ((P.main.file : Str) == file) = true) (htop : (P.main.scope.names.lookup ("super" : Str)).isSome = false)
    (hcc : K.lookup cc = some ⟨cl, cld, .cell (some (.ref C)), csl⟩) (T : OexC K C) (hsub : mroIn K C (.ref C) = some true) (hal : ks_superIn K C C "__init__" = some (some (.builtin "ValueError.__init__"))) (hst : nsIn K cStatics "thirdparty.any" = some none)
    (hve : mroIn K C (.type "ValueError") = some true) (hno : findIn K (.ref C) "place" = some none) (hms : mg "super" = none) :
    FnOk P w K mg base CX (k + 1) f (ksFn "__init__" qual params body scI dV kV doc pm an (.ref cda) ct cc) ["self", "place"] (spXi C) := by
  refine ⟨fun vs H Q E h => ?_, fun A outer s H args us vs' Q E hr e0 hb r hsp => ?_⟩
  · obtain ⟨a, n, rfl, _⟩ := h
    rfl
  obtain ⟨a, n, rfl, ha, q⟩ := hsp
  obtain ⟨tk, rfl⟩ : ∃ t, us = [.ref a, .int n t] := by
    cases r with
    | cons r1 r2 =>
      cases r2 with
      | cons r2 r3 =>
        cases r3
        cases r1
        obtain ⟨t, rfl⟩ := r2
        exact ⟨t, rfl⟩
  have KX : K.In s.heap := e0.mod.kin.keeps fun b o e => (e0.bs b o e).1
  have lim : s.heap.NoLimit := e0.mod.nolimit.keeps fun b o e => (e0.bs b o e).1
  have hloc : ∀ x ∈ (["self", "place"] : List Str).zip [Value.ref a, Value.int n tk], scI.names.lookup x.1 = some .local := fun x hx => by
    have hx : x ∈ [(("self" : Str), Value.ref a), (("place" : Str), Value.int n tk)] := hx
    simp only [List.mem_cons, List.not_mem_nil, or_false] at hx
    rcases hx with rfl | rfl
    · exact show List.lookup ("self" : Str) scI.names = some .local by decide +kernel
    · exact show List.lookup ("place" : Str) scI.names = some .local by decide +kernel
  refine ks_codeAny_call_defAt (fd := ksFn "__init__" qual params body scI dV kV doc pm an (.ref cda) ct cc) (body := body) hr.depth (KX _ _ lk) rfl lim (codeRec_of KX hcd) rfl hb (show ∀ x ∈ scI.names, x.2 ≠ .cell by decide +kernel) hloc (fun h0 hns hk0 => ?_)
  have env_eq : callEnv (ksFn "__init__" qual params body scI dV kV doc pm an (.ref cda) ct cc) s.heap.objs.size f = ksEnv qual scI s.heap.objs.size f (.ref cda) cc := rfl
  rw [env_eq]
  obtain ⟨L, eL⟩ : ∃ L, L = s.heap.objs.size := ⟨_, rfl⟩
  have ns1 : h0.Ns s.heap.objs.size (bindL (envOfC qual scD s.heap.objs.size f (.ref cda)).kindOf ((["self", "place"] : List Str).zip [Value.ref a, Value.int n tk]) fun _ => none) := by
    have e1 : (bindL (envOfC qual scD s.heap.objs.size f (.ref cda)).kindOf ((["self", "place"] : List Str).zip [Value.ref a, Value.int n tk]) fun _ => none) = fun y => ((["self", "place"] : List Str).zip [Value.ref a, Value.int n tk]).reverse.lookup y := by
      funext y
      show (if y = ("place" : Str) then some (Value.int n tk) else if y = ("self" : Str) then some (Value.ref a) else none) = List.lookup y [(("place" : Str), Value.int n tk), (("self" : Str), Value.ref a)]
      by_cases y1 : y = ("place" : Str)
      · rw [if_pos y1, y1]
        exact (lk_hd' _ _ _).symm
      · rw [if_neg y1, lk_ne' y1]
        by_cases y2 : y = ("self" : Str)
        · rw [if_pos y2, y2]
          exact (lk_hd' _ _ _).symm
        · rw [if_neg y2, lk_ne' y2] <;> rfl
    rw [e1]
    exact hns
  have x : InCallC s s.heap.objs.size (bindL (envOfC qual scD s.heap.objs.size f (.ref cda)).kindOf ((["self", "place"] : List Str).zip [Value.ref a, Value.int n tk]) fun _ => none) (cellsFrom (s.heap.objs.size + 1) scD.names []) (bindC (envOfC qual scD s.heap.objs.size f (.ref cda)).kindOf ((["self", "place"] : List Str).zip [Value.ref a, Value.int n tk]) fun _ => none)
      { s with heap := h0, toks := s.toks + ((["self", "place"] : List Str).zip [Value.ref a, Value.int n tk]).length } := ⟨⟨⟨h0, _, rfl⟩, ns1, hk0, Nat.le_refl _⟩, (fun n c h => by cases h), List.Pairwise.nil, fun n c h => by cases h⟩
  have J := inv_start (CX := CX) (E := E) scD_ok hr.hd e0 (vs := [.ref a, .int n]) rfl (.cons rfl (.cons ⟨tk, rfl⟩ .nil)) x
  obtain ⟨nm, qn, N, bs, bm, sn, sub, ab, col, dd, k0, k1, k2, k3, k5, hC, hbm⟩ := T.cls
  have hcls : clsIn K C = some { name := nm, bases := bs, mro := .ref C :: bm, ns := N, qualname := qn, hasDict := true, slotNames := sn, subclasses := sub, abstract := ab, collection := col, hasDel := false } := by
    unfold clsIn
    rw [hC] <;> rfl
  have KJ := J.kIn
  have gl : h0.Ns mainGlobals mg := e0.mod.glob.keeps fun b o e => hk0 b o (e0.bs b o e).1
  obtain ⟨mb, nb, hmb⟩ := e0.mod.blt
  have bl : h0.Ns builtinsNs mb := nb.keeps fun b o e => hk0 b o (e0.bs b o e).1
  obtain ⟨t1, ho⟩ := exo_at J.hok ha
  have IA : InstAt h0 a { cls := .ref C, dict := none, data := .fields #[.ref t1, .none, .none, .none, .bool false, .none] } C none := ⟨ho, rfl, rfl, trivial⟩
  subst hbd
  refine ks_wpAt_execs_cons (ks_wpAt_Expr_any (ks_wpAt_MethodCall (ks_wpAt_super_base rfl rfl (by decide) rfl (KJ _ _ lk) rfl hps rfl (KJ _ _ hcode) rfl hvs hfile htop ?_) (hev _ _ _ _)))
  have bsup : bootBuiltins "super" = some (.type "super") := by decide +kernel
  refine ks_loadName_global rfl rfl (loadGlobal_builtin (env := ksEnv qual scI s.heap.objs.size f (.ref cda) cc) gl hms bl ((hmb _ (by decide)).trans bsup) ⟨rfl, ?_⟩)
  refine wpAny_loadName_free rfl rfl rfl ⟨_, KJ _ _ hcc, rfl⟩ ?_
  rw [har]
  refine wpAny_loadName_local rfl rfl hns (v := .ref a) rfl ?_
  refine ks_wpAny_isType_cls (KJ _ _ hC) rfl ⟨rfl, ?_⟩
  refine ks_wpAny_call_super (KJ _ _ hC) rfl ho rfl (fun c z => by cases z) (looks_mroIn KJ hsub) (fun h2 e2 k2 => ?_)
  have J2 := J.kept (t' := s.toks + ((["self", "place"] : List Str).zip [Value.ref a, Value.int n tk]).length) k2
  have KJ2 := J2.kIn
  have al : alongIn K "__init__" (((Value.ref C :: bm).dropWhile (· != .ref C)).drop 1) = some (some (.builtin "ValueError.__init__")) := by
    unfold ks_superIn at hal
    rw [hcls] at hal
    exact hal
  have IA2 : InstAt h2 a { cls := .ref C, dict := none, data := .fields #[.ref t1, .none, .none, .none, .bool false, .none] } C none := ⟨k2 _ _ ho, rfl, rfl, trivial⟩
  refine ve_method (l0 := .ref C :: bm) e2 (looks_opaque KJ2 hst) ((looks_clsIn KJ2 hcls).andThen .now) rfl KJ2 al (ks_ne KJ IA hcls) (by decide) (IA2.type.andThen (looks_mroIn KJ2 hve)) ?_
  have k3 : ∀ b o, h2.get? b = some o → (h2.push (veW a)).get? b = some o := fun b o z => Heap.get?_push_of_some _ z
  have J3 := J2.kept (t' := s.toks + ((["self", "place"] : List Str).zip [Value.ref a, Value.int n tk]).length + 1) k3
  obtain ⟨m3, ns3, lk3⟩ := J3.loc
  obtain ⟨u3, ru3, lu3⟩ := lk3 1 "place" (.int n) rfl rfl (.inl rfl)
  have v3 : m3 "place" = some u3 := by
    rcases lu3 with ⟨_, z⟩ | ⟨z, _⟩
    · exact z
    · rcases z with z | z <;> cases z
  refine ve_callWith (x := a) ?_
  show wpAny _ _ (spliced ((false, eval (.Name "place" p3) (ksEnv qual scI s.heap.objs.size f (.ref cda) cc)) :: backTo p4 [])) _ _ _
  refine Calls.spliced_cons (PySem.ESX.ldL (env := ksEnv qual scI s.heap.objs.size f (.ref cda) cc) ns3 v3 (Calls.spliced_nil ⟨Heap.get?_push_size _ rfl, ?_⟩))
  refine ve_call (k3 _ _ (KJ2 _ _ hC)) (k3 _ _ (k2 _ _ ho)) (Heap.get?_push_size _ rfl) (show 1 ≤ sizeLine by rw [sizeLine_eq]; decide) (fun h4 t2 k4 e4 => ?_)
  have J4 := J3.write (t' := s.toks + ((["self", "place"] : List Str).zip [Value.ref a, Value.int n tk]).length + 1) (x := a) (e := a) (o := exo a C none) (by rw [ha]; exact True.intro) (.inl rfl) k4 ⟨_, e4⟩ (exo_ok e4)
  have eu : upd H a (exo a C none) = H := by
    funext b
    by_cases hb : b = a
    · rw [hb, upd_same, ha]
    · rw [upd_ne hb]
  rw [eu] at J4
  obtain ⟨m4, ns4, lk4⟩ := J4.loc
  obtain ⟨u4, ru4, lu4⟩ := lk4 1 "place" (.int n) rfl rfl (.inl rfl)
  have v4 : m4 "place" = some u4 := by
    rcases lu4 with ⟨_, z⟩ | ⟨z, _⟩
    · exact z
    · rcases z with z | z <;> cases z
  obtain ⟨w4, rw4, lw4⟩ := lk4 0 "self" (.ref a) rfl rfl (.inl rfl)
  have x4 : m4 "self" = some w4 := by
    rcases lw4 with ⟨_, z⟩ | ⟨z, _⟩
    · exact z
    · rcases z with z | z <;> cases z
  obtain rfl : w4 = Value.ref a := rw4
  show PySem.wpAt _ _ _ (execs [_] _) _ _ _
  refine ks_wpAt_execs_cons (ks_wpAt_Assign_Attr (wpAt_of_wpAny (PySem.ESX.ldL (env := ksEnv qual scI s.heap.objs.size f (.ref cda) cc) ns4 v4 (PySem.ESX.ldL (env := ksEnv qual scI s.heap.objs.size f (.ref cda) cc) ns4 x4 (ost_new T J4 ha hno ru4 (fun dx s5 nd ne J5 => ?_))))))
  exact wpAt_of_wpAny (wpAny_execs_nil ⟨.non, _, J5.os, J5.bare, J5.base, J5.hok, rfl, q dx nd ne⟩)
end
end Dk

/-! sorted(xs, key=lambda x: x[0]): the lambda's code object in the running def's table. -/
namespace Dk
open PySem PySem.Spec PyProof.Rows L2
/-- the table at P may have grown, all else stands -/
structure TStp (P : Addr) (q : Str) (H H' : Hp) : Prop where
  kp : ∀ b o, b ≠ P → H b = some o → H' b = some o
  tab : LamX.TabS H' P q
theorem TStp.refl {P : Addr} {q : Str} {H : Hp} (t : LamX.TabS H P q) : TStp P q H H := ⟨fun _ _ _ h => h, t⟩
theorem TStp.snd {P : Addr} {q : Str} {H H1 H2 : Hp} (a : TStp P q H H1) (s : Same H1 H2) : TStp P q H H2 := ⟨fun b o n h => s b o (a.kp b o n h), a.tab.ext s⟩
theorem tab_ne {P b : Addr} {q : Str} {H : Hp} {o : HO} (t : LamX.TabS H P q) (h : H b = some o) (n : ∀ ps, o ≠ .tbl ps) : b ≠ P := fun e => by
  obtain ⟨ps, h1, _⟩ := t
  rw [e, h1] at h
  exact n ps (Option.some.inj h).symm
theorem TStp.gro {P : Addr} {q : Str} {H H' : Hp} (a : TStp P q H H') (t : LamX.TabS H P q) : Gro H H' :=
  ⟨(fun b xs e => a.kp b _ (tab_ne t e fun _ z => by cases z) e), (fun b o u e => a.kp b _ (tab_ne t e fun _ z => by cases z) e)⟩
section
variable {X : Cx} {pins : List (Addr × Obj)} {σ : L2.St} {H : Hp} {s : Shared}
/-- a lambda is made -/
theorem lam_mk {c P : Addr} {q : Str} {params : Arguments} {body : Expr} {scope : Scope} {lp : Pos} {E Q : Value → Shared → Prop} (I : Inv X pins σ H s) (tb : LamX.TabB X.base X.mg c P) (cd : X.env.code = .ref c) (eq : X.env.qual ++ "<lambda>" = q)
    (tab : LamX.TabS H P q) (nod : defaultsOf params X.env = ([], [])) (cl0 : ∀ y ∈ scope.names, y.2 = .free → ∃ c, X.env.cells.lookup y.1 = some c)
    (k : ∀ (f c1 : Addr) (pm ctv : Value) (H1 : Hp) (s1 : Shared), Inv X pins σ H1 s1 → TStp P q H H1 → s1.heap.CodeRec (.ref c1) q →
      s1.heap.get? f = some (PySem.W.kla_obj "<lambda>" q params body scope (cloFrom X.env.cells scope.names []) pm c1 ctv) → Q (.ref f) s1) :
    wpAny (model X.prog X.w) X.A (eval (.Lambda params body scope lp) X.env) Q E s := by
  subst eq
  have ⟨ps, pt, tr, am⟩ := tab
  have hp : s.heap.get? P = some { cls := .none, data := .fields ps } := I.hok P _ pt
  have ge := I.ok.glob
  have gn := I.mod.glob.keeps I.bk
  have ch := tb.code.keeps I.bk
  have bp : s.heap.BuiltinsAt X.mg P := tb.bm.keeps I.bk
  refine PySem.W.kla_eval nod ?_
  cases am1 : codeAmong lp ps.toList with
  | some u =>
    obtain ⟨c1, rfl, hc⟩ := am lp u am1
    obtain ⟨⟨oc, us, t, e1, e2, e3⟩, _, _⟩ := I.hok c1 _ hc
    refine PySem.W.kla_makeFunctionHit (ps := ps) (closure_ok cl0) ge gn cd ch hp tr am1 bp (fun ctv g tk kk sz => ?_)
    have kq : ∀ b o, s.heap.get? b = some o → (g.push (PySem.W.kla_obj "<lambda>" (X.env.qual ++ "<lambda>") params body scope (cloFrom X.env.cells scope.names []) ((X.mg "__name__").getD .none) c1 ctv)).get? b = some o :=
      fun b o z => Heap.get?_push_of_some _ (kk b o z)
    exact k _ c1 _ ctv H _ (I.kept (t' := tk) kq) (TStp.refl tab) ⟨c1, oc, us, t, rfl, kq _ _ e1, e2, e3⟩ (Heap.get?_push_size _ rfl)
  | none =>
    refine PySem.W.kla_makeFunction (ps := ps) (closure_ok cl0) ge gn cd ch hp tr am1 tb.gP bp (fun c1 ctv g tk kx lo up cr gp => ?_)
    have ⟨c2, oc, us, t, e0, e1, e2, e3⟩ := cr
    obtain rfl : c1 = c2 := by
      cases e0
      rfl
    have nc : H c1 = none := I.hok.fresh lo
    have nP : P ≠ c1 := fun z => by
      rw [← z, pt] at nc
      cases nc
    have J := LamX.inv_table (t' := tk) (q := X.env.qual ++ "<lambda>") (more := #[rawInt lp.line, rawInt lp.col, .ref c1])
      (h' := g.push (PySem.W.kla_obj "<lambda>" (X.env.qual ++ "<lambda>") params body scope (cloFrom X.env.cells scope.names []) ((X.mg "__name__").getD .none) c1 ctv)) I pt
      (fun b o n z => Heap.get?_push_of_some _ (kx b o n z)) (Heap.get?_push_of_some _ gp) lo ⟨oc, us, t, Heap.get?_push_of_some _ e1, e2, e3⟩
    have kp : ∀ b o, b ≠ P → H b = some o → (upd (upd H P (.tbl (ps ++ #[rawInt lp.line, rawInt lp.col, .ref c1]))) c1 (LamX.CodeO c1 (X.env.qual ++ "<lambda>"))) b = some o := fun b o n z => by
      have n1 : b ≠ c1 := fun y => by
        rw [y, nc] at z
        cases z
      rw [upd_ne n1, upd_ne n]
      exact z
    have tl : (ps ++ #[rawInt lp.line, rawInt lp.col, .ref c1]).toList = ps.toList ++ [rawInt lp.line, rawInt lp.col, .ref c1] := by simp
    refine k _ c1 _ ctv _ _ J ⟨kp, ⟨_, by rw [upd_ne nP, upd_same], by rw [tl]; exact PySem.TriplesOk_snoc _ _ _ _ tr, fun pos cv z => ?_⟩⟩ ⟨c1, oc, us, t, rfl, Heap.get?_push_of_some _ e1, e2, e3⟩ (Heap.get?_push_size _ rfl)
    rw [tl] at z
    rcases LamX.among_app _ tr z with y | y
    · obtain ⟨c3, y1, y2⟩ := am pos cv y
      refine ⟨c3, y1, kp c3 _ (fun w => ?_) y2⟩
      rw [w, pt] at y2
      cases y2
    · exact ⟨c1, y, upd_same⟩
end
section
open PySem.W
variable {prog : Program} {w : World} {A : Around} {s : Shared}
/-- the call of lambda x: x[0] with a tuple that begins with a whole number -/
theorem key0_call {f t c1 : Addr} {q x : Str} {params : Arguments} {scope : Scope} {cl : List (Str × Addr)} {pm ctv : Value} {j : Nat} {p1 p2 p3 : Pos} {its : Array Value} {n : Int} {tk : Tok} {E : Value → Shared → Prop}
    (ho : s.heap.get? f = some (kla_obj "<lambda>" q params (.Subscript (.Name x p1) (.Constant (.int 0) j p2) p3) scope cl pm c1 ctv)) (cr : s.heap.CodeRec (.ref c1) q) (lim : s.heap.NoLimit) (room : A.depth < recursionLimit)
    (kd : scope.kind = .function) (co : scope.isCoroutine = false) (ge : scope.isGenerator = false) (lo : scope.names.lookup x = some .local) (nc : ∀ y ∈ scope.names, y.2 ≠ .cell)
    (bi : bindArgs (kla_fn "<lambda>" q params (.Subscript (.Name x p1) (.Constant (.int 0) j p2) p3) scope cl pm (.ref c1) ctv) ⟨[.ref t], []⟩ = pure [(x, .ref t)]) (db : (x == ("__debug__" : Str)) = false)
    (ht : IsTup s.heap t its) (h0 : its[0]? = some (.int n tk)) : wpAny (model prog w) A (call (.ref f) [.ref t]) (KeyPure (.int n) s) E s := by
  refine wpAny_call (kla_callFunE room ho rfl co ge rfl cr ?_)
  rw [bi]
  refine wpAny_pure (wpAny_newFunctionEnv nc (fun y hy => ?_) (fun g hns sb => ⟨lim.fresh _ sb, ?_⟩) kd)
  · obtain rfl := List.mem_singleton.mp hy
    exact lo
  have kq : ∀ b o, s.heap.get? b = some o → g.get? b = some o := fun b o z => sb.extBut b o (Nat.ne_of_lt (Heap.lt_size z)) (Heap.get?_push_of_some _ z)
  refine kla_codeExpr (Subscript_Constant (wpAny_Name (wpAny_loadName_local (v := .ref t) kd lo hns ?_ ?_) db))
  · show List.lookup x [(x, Value.ref t)] = _
    have e : (x == x) = true := beq_self_eq_true x
    simp only [List.lookup, e]
  refine wpAny_Constant_int ?_
  have sz : 0 < its.size := (Array.getElem?_eq_some_iff.mp h0).1
  have si : seqIndex? 0 its.size = some 0 := seq_nat (k := 0) sz
  have ht2 : IsTup g t its := ht.keeps kq
  refine ⟨"tuple", _, slot_tuple_getitem.lookup, ht2.typeIs, PyProof.Rows.getItem_tuple ht2 (by decide) (by decide) si h0 ?_⟩
  exact ⟨g, _, rfl, kq, .int n tk⟩
end
/-- sorted(xs, key=lambda x: x[0]) of tuples that begin with whole numbers -/
def tSortK (K : PySem.W.Frag) (P : Addr) (q : Str) (t : TA) : TE := fun σ H Q => t σ H fun vs H1 => ∃ (α : Type) (ky : α → Int) (l : Addr) (es : List (V × α)), vs = [.ref l] ∧ SqL K H1 l (es.map (·.1)) ∧ (∀ x ∈ es, ∃ a r, x.1 = .ref a ∧ H1 a = some (.tup (.int (ky x.2) :: r))) ∧ LamX.TabS H1 P q ∧
  ∀ H2 p (es' : List (V × α)), TStp P q H1 H2 → H2 p = none → es'.Perm es → es'.Pairwise (fun a b => ky a.2 ≤ ky b.2) → Q (.ref p) (upd H2 p (.lst (es'.map (·.1))))
theorem sqL_tstp {K : PySem.W.Frag} {P l : Addr} {q : Str} {H H' : Hp} {xs : List V} (t : TStp P q H H') (tb : LamX.TabS H P q) (h : SqL K H l xs) : SqL K H' l xs := by
  rcases h with (h | ⟨o, h⟩) | h
  · exact .inl (.inl (t.kp l _ (tab_ne tb h fun _ z => by cases z) h))
  · exact .inl (.inr ⟨o, t.kp l _ (tab_ne tb h fun _ z => by cases z) h⟩)
  · exact .inr h
theorem each_of {α : Type} {ky : α → Int} {H : Hp} : ∀ {es : List (V × α)} {us : List Value}, Vals (es.map (·.1)) us → (∀ x ∈ es, ∃ a r, x.1 = .ref a ∧ H a = some (.tup (.int (ky x.2) :: r))) →
    PySem.W.EachIs (fun (v : Value) (x : V × α) => ∃ a r, v = .ref a ∧ x.1 = .ref a ∧ H a = some (.tup (.int (ky x.2) :: r))) us es
  | [], us, r, _ => by
    cases r
    exact .nil
  | x :: es, us, r, h => by
    cases r with
    | cons r1 r2 =>
      refine .cons ?_ (each_of r2 fun y hy => h y (List.mem_cons_of_mem _ hy))
      obtain ⟨a, r, e1, e2⟩ := h x List.mem_cons_self
      have r1 : L2.RelV x.1 _ := r1
      rw [e1] at r1
      exact ⟨a, r, r1, e1, e2⟩
theorem of_each {α : Type} {ky : α → Int} {H : Hp} : ∀ {es : List (V × α)} {us : List Value}, PySem.W.EachIs (fun (v : Value) (x : V × α) => ∃ a r, v = .ref a ∧ x.1 = .ref a ∧ H a = some (.tup (.int (ky x.2) :: r))) us es → Vals (es.map (·.1)) us
  | _, _, .nil => .nil
  | _, _, .cons h r => by
    obtain ⟨a, _, e1, e2, _⟩ := h
    refine .cons ?_ (of_each r)
    show L2.RelV (Prod.fst _) _
    rw [e1, e2]
    exact rfl
open PySem.W in
theorem pe_sortK0 {X : Cx} {K : PySem.W.Frag} {c P : Addr} {k j : Nat} {q x : Str} {params : Arguments} {scope : Scope} {lp p p1 p2 p3 pos kp : Pos} {e : Expr} {t : TA} (hr : Room k X.A) (hm : X.mg "sorted" = none) (tb : LamX.TabB X.base X.mg c P) (cd : X.env.code = .ref c) (ha : PA X [e] t)
    (eq : X.env.qual ++ "<lambda>" = q := by rfl) (hK : X.K = K := by rfl) (hg : Gl X "sorted" := by rfl) (nod : defaultsOf params X.env = ([], []) := by rfl) (kd : scope.kind = .function := by rfl) (co : scope.isCoroutine = false := by rfl) (ge : scope.isGenerator = false := by rfl)
    (lo : scope.names.lookup x = some .local := by decide +kernel) (nc : ∀ y ∈ scope.names, y.2 ≠ .cell := by decide +kernel) (nf : ∀ y ∈ scope.names, y.2 ≠ .free := by decide +kernel)
    (bi : ∀ (cl : List (Str × Addr)) (pm cv ctv v : Value), bindArgs (kla_fn "<lambda>" q params (.Subscript (.Name x p1) (.Constant (.int 0) j p2) p3) scope cl pm cv ctv) ⟨[v], []⟩ = pure [(x, v)] := by intros; rfl) (db : (x == ("__debug__" : Str)) = false := by decide)
    (he : backTo pos (starEach [e] X.env) = (false, eval e X.env) :: backTo pos (starEach [] X.env) := by rfl) (hpl : (backTo pos (starEach [e] X.env)).any (·.1) = false := by rfl) :
    PE X (.Call (.Name "sorted" p) [e] [⟨some "key", .Lambda params (.Subscript (.Name x p1) (.Constant (.int 0) j p2) p3) scope lp, kp⟩] pos) (tSortK K P q t) := by
  subst hK
  refine ⟨fun pins s σ H Q I h => ?_⟩
  refine wpAny_Call_Name_kw (ld_blt I hg hm bt_sorted ?_ (by decide) (by decide))
  refine PyProof.Rows.callWith_kw (thn (ha.run pos pins s σ H _ I h) fun us s1 ⟨vs, H1, I1, r1, α, ky, l, es, ev, hl, hes, tab, q1⟩ => ?_) he hpl rfl rfl
  subst ev
  rw [Vals.ref1 r1]
  refine PyProof.Rows.kws_cons (lam_mk I1 tb cd eq tab nod (fun y hy z => absurd z (nf y hy)) (fun f c1 pm ctv H2 s2 I2 ts cr ho => ?_))
  refine PyProof.Rows.kws_nil ?_
  have hl2 := sqL_tstp ts tab hl
  obtain ⟨its, rv, pl, hz⟩ := I2.list hl2
  have E0 := each_of (H := H2) rv fun y hy => by
    obtain ⟨a, r, e1, e2⟩ := hes y hy
    exact ⟨a, r, e1, ts.kp a _ (tab_ne tab e2 fun _ z => by cases z) e2⟩
  have le : es.length ≤ sizeLine := by simpa using hz
  have un := hr.un
  have dp := hr.dp
  refine sorted_key_data (b := false) (fun y : V × α => .int (ky y.2)) pl.isList E0 (AllAlike.of fun _ _ => by simp [alike]) (Sortable.others fun _ => ⟨by simp, by simp⟩) le (fun y _ => ?_) (ksk_s1 _ _) (fun _ => ksk_l1 _ _) (fun _ => ksk_t1 _ _) (fun v y hy _ g tk kk => ?_) (fun out n g tk kk fr ho2 len eo => ?_)
  · show X.A.units + 2 + 0 < cLine
    omega
  · obtain ⟨a, r, rfl, _, e2⟩ := hy
    obtain ⟨its2, rv2, pt, _⟩ := I2.tuple (SqT.of e2)
    cases rv2 with
    | cons w1 w2 =>
      obtain ⟨tk2, rfl⟩ := w1
      obtain ⟨c3, oc, us3, t3, z0, z1, z2, z3⟩ := cr
      exact key0_call (s := { s2 with heap := g, toks := tk }) (kk _ _ ho) ⟨c3, oc, us3, t3, z0, kk _ _ z1, z2, z3⟩ (I2.nolimit.keeps kk) (by show X.A.depth < recursionLimit; omega) kd co ge lo nc (bi _ _ _ _ _) db (pt.keeps kk) (tk := tk2) rfl
  · rw [dataLe_int (fun y : V × α => ky y.2)] at eo
    have pm : (es.mergeSort fun a b => decide (ky a.2 ≤ ky b.2)).Perm es := List.mergeSort_perm es _
    have pw : (es.mergeSort fun a b => decide (ky a.2 ≤ ky b.2)).Pairwise fun a b => ky a.2 ≤ ky b.2 := by
      have z := List.pairwise_mergeSort (le := fun (a b : V × α) => decide (ky a.2 ≤ ky b.2)) (fun a b c h1 h2 => by simp at h1 h2 ⊢; omega) (fun a b => by simp; omega) es
      exact z.imp fun h => by simpa using h
    have fr2 : H2 (s2.heap.objs.size + 1) = none := I2.hok.fresh (Nat.le_succ _)
    have len2 : ((es.mergeSort fun a b => decide (ky a.2 ≤ ky b.2)).map (·.1)).length ≤ sizeLine := by
      rw [List.length_map, pm.length_eq]
      exact le
    exact ⟨.ref _, _, I2.laid (o := .lst ((es.mergeSort fun a b => decide (ky a.2 ≤ ky b.2)).map (·.1))) (t' := tk) kk (Nat.le_succ _) ⟨len2, out, n, of_each eo, ho2⟩, rfl, q1 H2 _ _ ts fr2 pm pw⟩
theorem r_sortK {K : PySem.W.Frag} {P : Addr} {q : Str} {t : TA} {σ : L2.St} {H : Hp} {Q : VK} (h : t σ H fun vs H1 => ∃ (α : Type) (ky : α → Int) (l : Addr) (es : List (V × α)), vs = [.ref l] ∧ SqL K H1 l (es.map (·.1)) ∧ (∀ x ∈ es, ∃ a r, x.1 = .ref a ∧ H1 a = some (.tup (.int (ky x.2) :: r))) ∧ LamX.TabS H1 P q ∧
  ∀ H2 p (es' : List (V × α)), TStp P q H1 H2 → H2 p = none → es'.Perm es → es'.Pairwise (fun a b => ky a.2 ≤ ky b.2) → Q (.ref p) (upd H2 p (.lst (es'.map (·.1))))) : tSortK K P q t σ H Q := h
/-! the def of a method whose code object's table is known -/
def MethAtL (e : Wd) (C : Addr) (m qual : Str) (st : Stmt) (c P : Addr) : Prop := ∃ f fd, FunD e.K m qual (defArgs st) (defBody st) (defScope st) [] [] f fd ∧ Meth e.K C m f ∧ Cls e.K C ∧ fd.code = .ref c ∧ LamX.TabB e.base e.mg c P
def DefAtL (e : Wd) (x : Str) (st : Stmt) (c P : Addr) : Prop := ∃ f fd, FunD e.K x x (defArgs st) (defBody st) (defScope st) [] [] f fd ∧ e.mg x = some (.ref f) ∧ fd.code = .ref c ∧ LamX.TabB e.base e.mg c P
section
variable {e : Wd} {C c P : Addr} {m x qual : Str} {st : Stmt} {N ps : List Str} {k : Nat} {sp : Sp}
theorem fnokL {f : Addr} {fd : FuncData} (F : FunD e.K x qual (defArgs st) (defBody st) (defScope st) [] [] f fd) (cd : fd.code = .ref c) (S : FnScope N ps (defScope st)) (len : ∀ vs H Q E, sp vs H Q E → vs.length = ps.length)
    (hbody : ∀ (f : Addr) (A : Around) (outer : List Env) (s : Shared) (H : Hp) (vs : List V) (Q : VK) (E : XK), Room k (A.deeper (envOfC qual (defScope st) s.heap.objs.size f (.ref c))) → sp vs H Q E →
      ∃ t, PSs (cxOf (L2.CX e.P e.w) e.P e.w e.K e.mg e.base N qual (defScope st) f (.ref c) A outer s H E).nox (defBody st) t ∧ t { nx := fun _ H' => Q .non H', rt := Q } (start N vs) H) : FnOk e.P e.w e.K e.mg e.base (L2.CX e.P e.w) (k + 1) f fd ps sp := by
  obtain ⟨oc, od, dV, kV, doc, pm, an, cdv, ct, osl, rfl, lk, hcd, _, _⟩ := F.ex
  have cd : cdv = .ref c := cd
  subst cd
  exact fn_of lk hcd S len fun A outer s H vs Q E hr hsp => by
    obtain ⟨t, h1, h2⟩ := hbody f A outer s H vs Q E hr hsp
    exact ⟨t, h1.nox, h2⟩
theorem canML_of (D : MethAtL e C m qual st c P) (S : FnScope N ps (defScope st)) (B : BindQ m qual st ps) (len : ∀ vs H Q E, sp vs H Q E → vs.length = ps.length)
    (hbody : ∀ (tb : LamX.TabB e.base e.mg c P) (f : Addr) (A : Around) (outer : List Env) (s : Shared) (H : Hp) (vs : List V) (Q : VK) (E : XK), Room k (A.deeper (envOfC qual (defScope st) s.heap.objs.size f (.ref c))) → sp vs H Q E →
      ∃ t, PSs (cxOf (L2.CX e.P e.w) e.P e.w e.K e.mg e.base N qual (defScope st) f (.ref c) A outer s H E).nox (defBody st) t ∧ t { nx := fun _ H' => Q .non H', rt := Q } (start N vs) H) : CanM e (k + 1) C m ps sp := by
  obtain ⟨f, fd, F, M, cl, cd, tb⟩ := D
  exact ⟨f, fd, fnokL F cd S len (hbody tb), cl, M, F.bindsN B⟩
theorem canL_of (D : DefAtL e x st c P) (S : FnScope N ps (defScope st)) (B : BindOk x st ps) (len : ∀ vs H Q E, sp vs H Q E → vs.length = ps.length)
    (hbody : ∀ (tb : LamX.TabB e.base e.mg c P) (f : Addr) (A : Around) (outer : List Env) (s : Shared) (H : Hp) (vs : List V) (Q : VK) (E : XK), Room k (A.deeper (envOfC x (defScope st) s.heap.objs.size f (.ref c))) → sp vs H Q E →
      ∃ t, PSs (cxOf (L2.CX e.P e.w) e.P e.w e.K e.mg e.base N x (defScope st) f (.ref c) A outer s H E).nox (defBody st) t ∧ t { nx := fun _ H' => Q .non H', rt := Q } (start N vs) H) : Can e (k + 1) x ps sp := by
  obtain ⟨f, fd, F, g, cd, tb⟩ := D
  exact ⟨f, fd, fnokL F cd S len (hbody tb), g, F.kp, F.bindsN B⟩
end
theorem code_of {K : PySem.W.Frag} {p : Str × Option Str} {x qual : Str} {a : Arguments} {b : List Stmt} {sc : Scope} {fd : FuncData} (F : FunD K x qual a b sc [] [] (He.fAd K p) fd) : fd.code = .ref (He.cT K p).1 := by
  obtain ⟨oc, od, dV, kV, doc, pm, an, cdv, ct, osl, rfl, lk, hcd, _, _⟩ := F.ex
  obtain ⟨c, rfl⟩ := He.codeIn_ref hcd
  show Value.ref c = .ref (He.codeOf K p)
  rw [He.codeOf_eq lk rfl]
end Dk

/-! The end of a law whose defs have tables of code objects. -/
namespace Dk
open PySem PySem.Spec PyProof.Rows L2
/-- the promise, the list that is handed in locked or not yet -/
def spZ (sp : Sp) : Sp := fun vs H Q E => sp vs H Q E ∨ ∃ a xs, vs = [.ref a] ∧ H a = some (.lst xs) ∧ ∀ o, sp vs (upd H a (.frz o (.lst xs))) Q E
theorem fn_frz {P : Program} {w : World} {K : PySem.W.Frag} {mg : Str → Option Value} {base : Heap} {k : Nat} {f : Addr} {fd : FuncData} {ps : List Str} {sp : Sp} (F : FnOk P w K mg base L2.CX0 k f fd ps sp) : FnOk P w K mg base L2.CX0 k f fd ps (spZ sp) := by
  refine ⟨fun vs H Q E h => ?_, fun A outer s H args us vs Q E hr e0 hb rv h => ?_⟩
  · rcases h with h | ⟨a, xs, _, _, h⟩
    · exact F.len _ _ _ _ h
    · exact F.len _ _ _ _ (h { cls := .none, data := .plain })
  · rcases h with h | ⟨a, xs, _, ha, h⟩
    · exact F.run A outer s H args us vs Q E hr e0 hb rv h
    · obtain ⟨z, its, n, ri, ho⟩ := e0.hok a _ ha
      have up : ∀ b, H b = none → (upd H a (.frz { cls := .type "list", data := .seq its.toArray n } (.lst xs))) b = none := fun b e => by
        rw [upd_ne (fun q => by rw [q, ha] at e; cases e)]
        exact e
      have ot : ∀ b u, H b = some u → (∀ ys, u ≠ .lst ys) → (upd H a (.frz { cls := .type "list", data := .seq its.toArray n } (.lst xs))) b = some u := fun b u e g => by
        rw [upd_ne (fun q => by rw [q, ha] at e; cases e; exact g xs rfl)]
        exact e
      have e2 : Env0 P w K mg base A outer s (upd H a (.frz { cls := .type "list", data := .seq its.toArray n } (.lst xs))) := by
        refine ⟨e0.frames, e0.mod, fun b o q => ⟨(e0.bs b o q).1, up b (e0.bs b o q).2⟩, e0.bsz, e0.funs, fun b q => up b (e0.frf b q), fun b u q => ?_, e0.bare⟩
        by_cases eb : b = a
        · rw [eb, upd_same] at q
          cases q
          rw [eb]
          exact ⟨ho, z, its, n, ri, ho⟩
        · rw [upd_ne eb] at q
          exact (e0.hok b u q).stay (fun d v _ q => q) (fun d q => ot d _ q fun _ z => by cases z) fun d ys q => ot d _ q fun _ z => by cases z
      refine codeAny_mono (F.run A outer s _ args us vs Q E hr e2 hb rv (h _)) fun r s' hq => ?_
      cases r with
      | error e => exact (show False from hq).elim
      | ok fl =>
        cases fl with
        | ret u =>
          obtain ⟨v, H', q1, q2, un, q3, q4, q5⟩ := hq
          exact ⟨v, H', q1, q2, ⟨fun b o g1 g2 => un.keep b o g1 (up b g2), fun b o g1 g2 => un.slot b o g1 (up b g2), fun b o g1 g2 => un.free b o g1 (up b g2), un.there, fun b ys g => un.tups b ys (ot b _ g fun _ z => by cases z),
            fun b o u g => un.frzs b o u (ot b _ g fun _ z => by cases z), fun b ps g => un.tbls b ps (ot b _ g fun _ z => by cases z)⟩, q3, q4, q5⟩
        | next => exact False.elim hq
        | brk => exact False.elim hq
        | cont => exact False.elim hq
theorem Scr.frz {K : PySem.W.Frag} {H : Hp} {a : Addr} {ns : List Int} {o : Obj} (hl : ns.length ≤ 63) : Scr K (upd H a (.frz o (.lst (ns.map V.int)))) a := ⟨ns, hl, .inl ⟨o, upd_same⟩⟩
/-- the law's promise when it holds of every list that is locked -/
theorem spZ_of {K : PySem.W.Frag} {sp : Sp} {H : Hp} {a : Addr} {ns : List Int} {Q : VK} {E : XK} (hl : ns.length ≤ 63) (h : SqL K H a (ns.map V.int)) (k : ∀ H' : Hp, Scr K H' a → (∀ b ps, H b = some (.tbl ps) → H' b = some (.tbl ps)) → sp [.ref a] H' Q E) : spZ sp [.ref a] H Q E := by
  rcases h with (h | ⟨o, h⟩) | h
  · refine .inr ⟨a, _, rfl, h, fun o => k _ (Scr.frz hl) fun b ps e => ?_⟩
    rw [upd_ne (fun q => by rw [q, h] at e; cases e)]
    exact e
  · exact .inl (k H ⟨ns, hl, .inl ⟨o, h⟩⟩ fun _ _ e => e)
  · exact .inl (k H ⟨ns, hl, .inr h⟩ fun _ _ e => e)
/-! what the head tells -/
theorem SaysX_b {fa : List He.Fa} {fb : List Prd} {fn : List He.DefD} {tf : List He.Defn} {w : World} {h : Heap} {K : PySem.W.Frag} (c : He.SaysX fa fn [] tf (fun K => fb.all fun p => p K) w h K) : ∀ (i : Nat) (p : Prd), fb[i]? = some p → p K = true :=
  fun i p q => List.all_eq_true.mp c.more p (List.mem_of_getElem? q)
end Dk

/-! Exceptions that carry a place: made, raised, caught by several clauses, looked at. -/
namespace Dk
open PySem PySem.Spec PyProof.Rows L2
abbrev CXN : CXT := fun _ _ _ _ _ _ => False
/-- the exception class C of the name x, whose __init__(self, place) calls super().__init__ and stores -/
structure XpC (e : Wd) (x : Str) (C : Addr) : Prop where
  oex : OexC e.K C
  ini : ∃ fI fd, PySem.W.findIn e.K (.ref C) "__init__" = some (some (.ref fI)) ∧ PySem.W.typeIn e.K (.ref fI) = some (.type "function") ∧ Binds e.K fd ["self", "place"] [] ∧ ∀ k, FnOk e.P e.w e.K e.mg e.base CXN (k + 1) fI fd ["self", "place"] (spXi C)
  g : e.mg x = some (.ref C)
  no : PySem.W.findIn e.K (.ref C) "place" = some none
section
variable {X : Cx} {W : WX} {K : PySem.W.Frag} {C : Addr} {x : Str} {e : Expr} {p pos : Pos} {ta te : TE} {σ : L2.St} {H : Hp} {cls : Value} {d : Option Addr} {D : Ends}
def mkPq (C : Addr) (x : V) (H1 : Hp) (Q : XK) : Prop := [x].length ≤ 1000 ∧ ∀ a, H1 a = none → spXi C (.ref a :: ([x] ++ [])) (upd H1 a (exo a C none)) (fun v H2 => v = .non ∧ ∃ (d : Addr) (fs : List (Str × V)), H2 a = some (exo a C (some d)) ∧ H2 d = some (exd d fs) ∧ H1 d = none ∧ Q (.ref C) (some d) (upd (del H2 a) d (.xd fs))) (fun _ _ _ => False)
def tMkP (C : Addr) (ta : TE) : L2.St → Hp → XK → Prop := fun σ H Q => ta σ H fun x H1 => mkPq C x H1 Q
theorem mkP {k : Nat} (T : XpC (wdOf X) x C) (hr : Room (k + 2) X.A) (he : PE X e ta) (hg : Gl X x := by rfl) (hs : starEach [e] X.env = (false, eval e X.env) :: starEach [] X.env := by rfl) (hdb : (x == ("__debug__" : Str)) = false := by decide)
    (hpl : (backTo pos (starEach [] X.env)).any (·.1) = false := by rfl) : PMk X (.Call (.Name x p) [e] [] pos) (tMkP C ta) := by
  obtain ⟨fI, fd, f1, f2, b, F⟩ := T.ini
  intro pins s σ H Q I h
  exact pmk_oex (dvs := []) (ds := []) T.oex f1 f2 (F k) hr b .nil (fun _ _ _ _ _ _ _ z => z.elim) hg T.g (pa_cons he pa_nil hs) hdb hs hpl pins s σ H Q I h
theorem r_mkP {n : Int} {Q : XK} (k : ∀ dx, H dx = none → Same H (upd H dx (.xd [("place", .int n)])) → Q (.ref C) (some dx) (upd H dx (.xd [("place", .int n)]))) : mkPq C (.int n) H Q := by
  refine ⟨by simp only [List.length_cons, List.length_nil]; decide, fun a na => ⟨a, n, rfl, upd_same, fun dx nd ne => ⟨rfl, dx, [("place", .int n)], upd_same, ?_, ?_, ?_⟩⟩⟩
  · rw [upd_ne ne, upd_same]
  · rw [upd_ne ne] at nd
    exact nd
  · rw [upd_ne ne] at nd
    have q := k dx nd (same_new nd)
    have eq : upd (del (upd (upd (upd H a (exo a C none)) dx (exd dx [("place", .int n)])) a (exo a C (some dx))) a) dx (.xd [("place", .int n)]) = upd H dx (.xd [("place", .int n)]) := by
      funext b
      by_cases h1 : b = dx
      · rw [h1, upd_same, upd_same]
      · rw [upd_ne h1, upd_ne h1]
        by_cases h2 : b = a
        · rw [h2, del_same, na]
        · rw [del_ne h2, upd_ne h2, upd_ne h1, upd_ne h2]
    rw [eq]
    exact q
theorem r_raiseP (q : ta σ H fun x H1 => mkPq C x H1 fun cls d H' => W cls d σ H') : tRaise (tMkP C ta) W D σ H := q
end
/-! ### the attribute place of a caught exception -/
section
variable {X : Cx} {K : PySem.W.Frag} {C a : Addr} {e : Expr} {pos : Pos} {te : TE} {σ : L2.St} {H : Hp} {cls : Value} {d : Option Addr} {Q : VK} {f : Str}
def xfq (a : Addr) (cls : Value) (d : Option Addr) (C : Addr) (f : Str) (x : V) (H1 : Hp) (Q : VK) : Prop := x = .ref a ∧ cls = .ref C ∧ ∃ (dd : Addr) (fs : List (Str × V)) (v : V), d = some dd ∧ H1 dd = some (.xd fs) ∧ fs.lookup f = some v ∧ Q v H1
theorem r_xf (q : te σ H fun x H1 => xfq a cls d C f x H1 Q) : tXf a cls d C f te σ H Q := q
theorem r_xfv {dd : Addr} {v : V} (h : H dd = some (.xd [(f, v)])) (q : Q v H) : xfq a (.ref C) (some dd) C f (.ref a) H Q := ⟨rfl, rfl, dd, _, v, rfl, h, lk_hd, q⟩
theorem pe_xfU {oe : Obj} {pn : List (Addr × Obj)} {n : Str} (T : XfC K C) (hno : PySem.W.findIn K (.ref C) n = some none) (hz : Zc cls d oe) (hf : ∃ vs, oe.data = .fields vs) (he : PE (X.suite a ((a, oe) :: pn)) e te) (hK : X.K = K := by rfl)
    (hb : attributeBase e n X.env (eval e X.env) = eval e X.env := by rfl) : PE (X.suite a ((a, oe) :: pn)) (.Attribute e n pos) (tXf a cls d C n te) := by
  subst hK
  exact pe_xf T hno hz hf he hb
end
/-! ### isinstance of a caught exception, with its dict or without -/
section
open PySem.W PySem.Calls
variable {prog : Program} {w : World} {A : Around} {E : Value → Shared → Prop} {s : Shared} {K : Frag} {x D : Addr} {ox : Obj} {od : Option Obj}
theorem find_cls {g a : Value} {name : Str} (hc : (clsIn K D).isSome = true) (ha : findIn K (.ref D) name = some (some a)) (hg : specialIn K a "__get__" = some (some g)) (ht : takesIn K a = some true) : findObj K D od name = some (.bind g a) := by
  obtain ⟨cd, hc⟩ := Option.isSome_iff_exists.mp hc
  unfold findObj
  rw [hc, Option.bind_some, ha, Option.bind_some]
  simp [hg, ht]
theorem kin_cls2 (T : ExcC K D) (X : K.In s.heap) (I : PySem.W.InstAt s.heap x ox D od) {Q : Option Value → Shared → Prop} (h : Q (some (.ref D)) { s with toks := s.toks + 1 }) : wpAny (model prog w) A (getAttr? (.ref x) "__class__") Q E s := by
  have hf : findObj K D od "__class__" = some (.bind (.builtin "getset_descriptor.__get__") (.builtin "object.__class__")) := find_cls (by obtain ⟨cd, hc, _⟩ := any_some T.hd; rw [hc]; rfl) T.ha T.hn T.ht
  obtain ⟨hp, g, d, t, os⟩ := s
  have J0 := I.type (M := model prog w)
  have J1 := looks_findIn (M := model prog w) X T.hg
  have J2 := looks_findIn (M := model prog w) X T.hk
  have J3 := looks_find (M := model prog w) X I hf
  have sb : Looks (model prog w) hp (isInstance (.ref x) (.type "BaseException")) true := J0.andThen (looks_subIn X T.hs)
  have y0 : (false && onTheHeap (Value.builtin "BaseException.__getattribute__")) = false := rfl
  have y2 : (Value.builtin "BaseException.__getattribute__" == Value.builtin "object.__getattribute__") = false := by decide +kernel
  have y1 : (onTheHeap (Value.ref D) && Value.builtin "BaseException.__getattribute__" == Value.builtin "object.__getattribute__") = false := by rw [y2] <;> rfl
  unfold getAttr? getAttrBy? getAttrBy
  refine wpAny_bind (wpAny_mkText (wpAny_bind (wpAny_attempt (wpAny_holding (wpAny_bind (J0.at (wpAny_bind (J1.at ?_))))))))
  change wpAny _ _ (if (onTheHeap (Value.ref D) && Value.builtin "BaseException.__getattribute__" == Value.builtin "object.__getattribute__") = true then _ else _) _ _ _
  rw [y1, if_neg Bool.false_ne_true]
  unfold getAttrByItsOwn hookBefore
  refine wpAny_bind ?_
  rw [if_pos (by rfl : onTheHeap (Value.ref D) = true)]
  refine J2.at ?_
  refine wpAny_bind (wpAny_attempt (wpAny_holding ?_))
  unfold callGetattribute
  rw [y0, if_neg Bool.false_ne_true]
  unfold boundAndCalled
  rw [PySem.F.excAttr_ValueError.ga.bind (.ref x)]
  refine wpAny_bind (wpAny_pure ?_)
  change wpAny _ _ (call (.builtin "BaseException.__getattribute__") [.ref x, .str "__class__" t]) _ _ _
  refine wpAny_call (codeAny_call_builtin PySem.F.excAttr_ValueError.ga.plain PySem.F.entry_bexc_ga ?_)
  refine @check_slot (model prog w) _ _ ⟨hp, g, d, t + 1, os⟩ "BaseException.__getattribute__" "BaseException" "__getattribute__" (.ref x) [.str "__class__" t] [] _ (by decide +kernel) (by decide +kernel) sb (PySem.F.args_bexc_ga (.ref x) (.str "__class__" t)) ?_
  unfold Builtin.«object.__getattribute__»
  refine wpAny_bind (wpAny_of_eq (a := ((Value.ref x : Value), [Value.str "__class__" t])) (by first | rfl | (simp only [slotArgs]; rfl)) ?_)
  refine wpAny_bind (wpAny_pure (wpAny_bind (J0.at (wpAny_bind (J3.at ?_)))))
  change wpAny _ _ (holding [Value.builtin "object.__class__"] (call (.builtin "getset_descriptor.__get__") [.builtin "object.__class__", .ref x, .ref D]) >>= ret) _ _ _
  refine wpAny_bind (wpAny_holding (wpAny_call (class_get (s := ⟨hp, g, d, t + 1, os⟩) (ox := ox) (od := od) X I T.hm ?_)))
  refine wpAny_pure ?_
  change wpAny _ _ (handedOut (.ref D)) _ _ _
  rw [handedOut_of (v := .ref D) rfl]
  first
    | exact wpAny_pure (wpAny_pure h)
    | exact wpAny_pure h
    | exact wpAny_pure (wpAny_bind (wpAny_pure (wpAny_pure h)))
theorem cls_obj (T : ExcC K D) : ∃ cd c' d' sl', K.lookup D = some (⟨c', d', .cls cd, sl'⟩ : Obj) := by
  obtain ⟨cdD, hcD, _⟩ := any_some T.hd
  unfold clsIn at hcD
  split at hcD
  · rename_i c' d' cd' sl' ho
    exact ⟨cd', c', d', sl', ho⟩
  · cases hcD
theorem kitx_exc2 (T : ExcC K D) : KitX K (.ref x) (.ref D) (fun h => PySem.W.InstAt h x ox D od) where
  ty := fun _ _ _ I => I.type
  it := fun _ _ X _ => by
    obtain ⟨cd, c', d', sl', ho⟩ := cls_obj T
    intro A' Q' E' s' k q
    unfold isType loadHead
    exact wpAny_bind (wpAny_loadPart (k _ _ (X _ _ ho)) (wpAny_pure q))
  ne := fun h tp dd its n sl X htp => by
    obtain ⟨cd, c', d', sl', ho⟩ := cls_obj T
    refine Bool.eq_false_iff.mpr fun q => ?_
    have e : D = tp := Value.ref.inj (beq_iff_eq.mp q)
    rw [← e, X _ _ ho] at htp
    cases htp
  ca := fun X I k => kin_cls2 T X I k
end
section
variable {X : Cx} {K : PySem.W.Frag} {cls : Value} {d : Option Addr} {H : Hp} {C : Addr}
def rIsY (K : PySem.W.Frag) (cls : Value) (d : Option Addr) (a : Addr) : List V → Hp → VK → Prop := fun xs H Q => ∃ D, cls = .ref D ∧ (d = none ∨ ∃ dd fs, d = some dd ∧ H dd = some (.xd fs)) ∧ ExcC K D ∧ rIsE K D a xs H Q
theorem call_isY {a : Addr} {oe : Obj} {pn : List (Addr × Obj)} (hz : Zc cls d oe) (hf : ∃ vs, oe.data = .fields vs) (hK : X.K = K := by rfl) : CallR (X.suite a ((a, oe) :: pn)) (.builtin "isinstance") (rIsY K cls d a) := by
  subst hK
  intro pins s σ H xs us Q I r ⟨D, e1, ed, T, c, cv, b, ex, hcv, e, q⟩
  subst e1
  subst ex
  cases r with
  | cons rx rr =>
    cases rr with
    | cons rt rr =>
      cases rr
      cases rx
      have ec := hcv _ rt
      subst ec
      obtain ⟨hget, _⟩ := I.pin (a, oe) (List.mem_append_left _ List.mem_cons_self)
      obtain ⟨vs, hv⟩ := hf
      have J : ∃ od, PySem.W.InstAt s.heap a oe D od := by
        rcases ed with e0 | ⟨dd, fs, e0, hx⟩
        · subst e0
          refine ⟨none, hget, hz.1, by unfold PySem.W.notCls; rw [hv] <;> rfl, ?_⟩
          rw [hz.2]
          trivial
        · subst e0
          have ho : ObjOk X.prog X.w H s.heap dd (.xd fs) := I.hok dd _ hx
          obtain ⟨mA, hns, hr⟩ := ho
          obtain ⟨od, ho, hl⟩ := lookIn_ns hns
          refine ⟨some od, hget, hz.1, by unfold PySem.W.notCls; rw [hv] <;> rfl, ?_⟩
          rw [hz.2]
          exact ho
      obtain ⟨od, J⟩ := J
      exact PySem.W.kia_one (kitx_exc2 T) I.kIn J e (fun z => nomatch z) fun tk => ⟨.bl b, H, I.kept (t' := tk) fun _ _ z => z, rfl, q⟩
theorem r_isY {a D2 dd : Addr} {fs : List (Str × V)} {b : Bool} {Q : VK} (h : ExcC K C) (hx : H dd = some (.xd fs)) (hk : PySem.W.kitOne K (.ref C) (.ref D2) = some b) (q : Q (.bl b) H) : rIsY K (.ref C) (some dd) a [.ref a, .ref D2] H Q :=
  ⟨C, rfl, .inr ⟨dd, fs, rfl, hx⟩, h, .ref D2, .ref D2, b, rfl, fun u r => r, hk, q⟩
end
/-! ### several clauses with a name -/
def wManyA (K : PySem.W.Frag) (i : Nat) (Wout : WX) (D : Ends) : List (Value × (Addr → Value → Option Addr → TS)) → WX
  | [] => Wout
  | (c, ts) :: r => fun cls d σ H => ∃ b, PySem.W.exmOne K cls c = some b ∧ (b = true → ∀ a, H a = none → ts a cls d { nx := fun σ' H' => D.nx (σ'.set i none) H', rt := D.rt, bk := fun σ' H' => D.bk (σ'.set i none) H', ct := fun σ' H' => D.ct (σ'.set i none) H' } (σ.set i (some (.ref a))) H) ∧
    (b = false → wManyA K i Wout D r cls d σ H)
inductive HdsA (X : Cx) (n : Str) : List ExceptHandler → List (Value × (Addr → Value → Option Addr → TS)) → Prop
  | nil : HdsA X n [] []
  | cons {x : Str} {c : Value} {ts : Addr → Value → Option Addr → TS} {b₀ : Stmt} {suite : List Stmt} {np pos' : Pos} {hds : List ExceptHandler} {l : List (Value × (Addr → Value → Option Addr → TS))} (hc : Names X x c)
      (hsu : ∀ (a : Addr) (oe : Obj) (cls : Value) (d : Option Addr) (pn : List (Addr × Obj)), Zc cls d oe → (∃ vs, oe.data = .fields vs) → PSs (X.suite a ((a, oe) :: pn)) (b₀ :: suite) (ts a cls d)) (r : HdsA X n hds l) :
      HdsA X n (.ExceptHandler (some (.Name x np)) (some n) (b₀ :: suite) pos' :: hds) ((c, ts) :: l)
section
variable {X : Cx} {body : List Stmt} {h₀ : ExceptHandler} {hds : List ExceptHandler} {l : List (Value × (Addr → Value → Option Addr → TS))} {pos : Pos} {tb : WX → TS} {Wout : WX} {n : Str} {i : Nat}
theorem ps_tryMA (hs : X.stack = X.env :: X.outer) (hf : X.env.frame = some X.env.locals) (hN : X.N.Nodup) (hi : X.N[i]? = some n) (hln : X.env.kindOf n = some .local) (tk : Takes X Wout)
    (hb : ∀ (W : WX) (pn : List (Addr × Obj)) (xe : Value → Shared → Prop), Takes (X.tr pn xe) W → PassesOwn (model X.prog X.w) X.A X.env xe → PSs (X.tr pn xe) body (tb W))
    (hh : HdsA X n (h₀ :: hds) l) : PS X (.Try body (h₀ :: hds) [] [] pos) (fun D σ H => tb (wManyA X.K i Wout D l) D σ H) := by
  refine ⟨fun pins s σ H D I h => ?_⟩
  have ok := I.ok
  have hfr : X.A.frames = some (X.env :: X.outer) := by rw [ok.frames, hs]
  have hloc : Loc X.env.scope n := .inl hln
  refine wpAny_Try_except ?_
  refine wpAny_mono ((hb (wManyA X.K i Wout D l) (X.pn ++ pins) (fun e s₁ => wpAny (model X.prog X.w) X.A (noteFrame e X.env) (fun _ s₂ => wpAny (model X.prog X.w) X.A (setFlight e none) (fun _ s₃ =>
    wpAny (model X.prog X.w) X.A (handleBy e X.env (h₀ :: hds)) (SP X pins D) X.xe s₃) X.xe s₂) X.xe s₁) (fun u s' xx => ?_) PassesOwn.looking).run [] s σ H D (I.toTry _) h) (fun f s1 hsp => ?_) (fun e s1 he => he)
  · obtain ⟨a, B, sI, pins', σ', H', cls, d, rfl, J', nb, up, sky, na, os, ag, w⟩ := xx
    have J : Inv X pins σ' H' sI := J'.ofTry ok
    have sky' : Sky B (X.env :: X.outer) a (Zc cls d) X.env.locals s'.heap := by rw [← hs]; exact sky
    change wpAny (model X.prog X.w) X.A (noteFrame (.ref a) X.env) _ _ _
    refine Sky.land Zc.steady hfr hf sky' fun h3 fl3 up3 => ?_
    have J3 : Inv X pins σ' H' { s' with heap := h3 } := J.landed nb fl3.1 (up.trans up3) os ag
    obtain ⟨oe3, vs3, he3, hz3, hd3⟩ := fl3.there
    have notFr : ∀ {h : Heap} {o : Obj} {vs : Array Value}, h.FunFrames B (X.env :: X.outer) → h.get? a = some o → o.data = .fields vs → a ∉ frs (X.env :: X.outer) := fun {h o vs} ff e dd hm => by
      obtain ⟨_, o', e', hnf⟩ := ff.mem hm
      rw [e] at e'
      cases e'
      exact hnf _ dd
    have nfr := notFr fl3.2.2.1 he3 hd3
    have nL : a ≠ X.env.locals := fun z => nfr (List.mem_filterMap.mpr ⟨X.env, List.mem_cons_self, by rw [hf, z]⟩)
    have nF : a ∉ X.fs := fun hm => by
      obtain ⟨e, he, q⟩ := List.mem_filterMap.mp hm
      exact nfr (List.mem_filterMap.mpr ⟨e, List.mem_cons_of_mem _ he, q⟩)
    have S3 := J3.suite he3 hd3 na nL nF
    have go : ∀ {hds' : List ExceptHandler} {l' : List (Value × (Addr → Value → Option Addr → TS))}, HdsA X n hds' l' → wManyA X.K i Wout D l' cls d σ' H' →
        wpAny (model X.prog X.w) X.A (handleBy (.ref a) X.env hds') (SP X pins D) X.xe { s' with heap := h3 } := by
      intro hds' l' hk
      induction hk with
      | nil =>
        intro w
        refine wpAny_handleBy_nil ?_
        obtain ⟨k1, k2, k3, oe, vs, T, oT, ts', he, hz, hd, h1, hr⟩ := id fl3
        unfold PySem.passOn
        refine wpAny_bind (wpAny_field he hd h1 ?_)
        rw [if_neg (show ¬ ((Value.ref T == Value.none) = true) from by simp)]
        have fin : wpAny (model X.prog X.w) X.A (setFlight (.ref a) X.env.frame) (fun _ s4 => wpAny (model X.prog X.w) X.A (throw (.ref a) : Sem Flow) (SP X pins D) X.xe s4) X.xe { s' with heap := h3 } := by
          rw [hf]
          refine HandSPX.setFlight_upZ fl3 fun h4 hh4 up4 => wpAny_throw (tk _ _ ?_)
          exact ⟨a, B, sI, pins, σ', H', cls, d, rfl, J, nb, (up.trans up3).trans up4, .inr (.inr (by rw [hs]; exact hh4)), na, os, ag, w⟩
        first
          | exact wpAny_bind (wpAny_pure (wpAny_bind fin))
          | exact wpAny_bind fin
      | @cons x c ts b₀ suite np pos' hds2 l2 hc hsu r ih =>
        intro w
        obtain ⟨b, hb1, hyes, hno⟩ := w
        refine wpAny_handleBy_cons (codeAny_handlers_test ?_) (by intro q; cases q)
        have LT : PySem.W.Looks (model X.prog X.w) h3 (typeOf (.ref a)) cls := fun A Q E s k q => wpAny_typeOf_ref (k _ _ he3) (by rw [hz3.1]; exact q)
        have LM := PySem.W.exm_one (M := model X.prog X.w) (J3.kIn) LT hb1
        have test : ∀ {Q : Value → Shared → Prop} {E : Value → Shared → Prop}, Q c { s' with heap := h3 } → wpAny (model X.prog X.w) (X.A.mark (some (.ref a))) (eval (.Name x np) X.env) Q E { s' with heap := h3 } := fun {Q E} q => by
          obtain ⟨hg, hdbg, hm | ⟨hm, hv, hnn⟩⟩ := hc
          · exact ld_glob (X := X.suite a ((a, oe3) :: (X.pn ++ pins))) S3 hg hm q hdbg
          · exact ld_blt (X := X.suite a ((a, oe3) :: (X.pn ++ pins))) S3 hg hm hv q hnn hdbg
        refine test (LM.here ?_)
        cases b with
        | true =>
          refine codeAny_handlers_suite_as ?_
          refine HandSPX.lands_againZ fl3 fun h4 fl4 up4 => ?_
          have J4 : Inv X pins σ' H' { s' with heap := h4 } := J.landed nb fl4.1 ((up.trans up3).trans up4) os ag
          obtain ⟨oe4, vs4, he4, hz4, hd4⟩ := fl4.there
          have S4 := J4.suite he4 hd4 na nL nF
          refine store_ok (X := X.suite a ((a, oe4) :: (X.pn ++ pins))) (v := .ref a) S4 hN hi hloc rfl (fun s5 S5 => ?_) (.inr hln)
          refine wpAny_mono ((hsu a oe4 cls d (X.pn ++ pins) hz4 ⟨_, hd4⟩).run [] s5 _ H' _ S5 (hyes rfl a na)) (fun f s6 hsp => ?_) (fun _ _ z => False.elim z)
          have end_ : ∀ {σ6 : L2.St} {H6 : Hp} {Q : Shared → Prop}, Inv (X.suite a ((a, oe4) :: (X.pn ++ pins))) [] σ6 H6 s6 → (∀ s7, Inv X pins (σ6.set i none) H6 s7 → Q s7) →
              wpAny (model X.prog X.w) X.A (do bindName X.env n .none; unbindBehindTheSuite X.env n pos') (fun _ s7 => Q s7) X.xe s6 := fun {σ6 H6 Q} S6 hq => gone_ok (S6.unsuite ok) hN hi hln hq
          cases f with
          | next =>
            obtain ⟨σ6, H6, S6, q6⟩ := hsp
            exact end_ S6 fun s7 J7 => ⟨_, _, J7, q6⟩
          | brk =>
            obtain ⟨σ6, H6, S6, q6⟩ := hsp
            exact end_ S6 fun s7 J7 => ⟨_, _, J7, q6⟩
          | cont =>
            obtain ⟨σ6, H6, S6, q6⟩ := hsp
            exact end_ S6 fun s7 J7 => ⟨_, _, J7, q6⟩
          | ret u =>
            obtain ⟨v6, σ6, H6, S6, r6, q6⟩ := hsp
            exact end_ S6 fun s7 J7 => ⟨_, _, _, J7, r6, q6⟩
        | false =>
          change wpAny _ X.A (handleBy (.ref a) X.env hds2) _ _ _
          exact ih (hno rfl)
    exact go hh w
  · cases f with
    | next =>
      obtain ⟨σ', H', J', q⟩ := hsp
      exact wpAny_execs_nil ⟨σ', H', J'.ofTry ok, q⟩
    | brk =>
      obtain ⟨σ', H', J', q⟩ := hsp
      exact ⟨σ', H', J'.ofTry ok, q⟩
    | cont =>
      obtain ⟨σ', H', J', q⟩ := hsp
      exact ⟨σ', H', J'.ofTry ok, q⟩
    | ret u =>
      obtain ⟨v, σ', H', J', r, q⟩ := hsp
      exact ⟨v, σ', H', J'.ofTry ok, r, q⟩
end
section
variable {X : Cx} {K : PySem.W.Frag} {body : List Stmt} {h₀ : ExceptHandler} {hds : List ExceptHandler} {l r : List (Value × (Addr → Value → Option Addr → TS))} {pos : Pos} {tb : WX → TS} {Wout : WX} {n : Str} {i : Nat} {c cls : Value} {d : Option Addr} {D : Ends} {σ : L2.St} {H : Hp}
  {ts : Addr → Value → Option Addr → TS}
def tTryMA (K : PySem.W.Frag) (i : Nat) (l : List (Value × (Addr → Value → Option Addr → TS))) (Wout : WX) (tb : WX → TS) : TS := fun D σ H => tb (wManyA K i Wout D l) D σ H
def tTryMO (K : PySem.W.Frag) (l : List (Value × (Addr → Value → Option Addr → TS))) (Wout : WX) (tb : WX → TS) : TS := fun D σ H => tb (wMany K Wout D l) D σ H
theorem ps_tryManyA (hs : X.stack = X.env :: X.outer) (hf : X.env.frame = some X.env.locals) (hN : X.N.Nodup) (hi : X.N[i]? = some n) (hln : X.env.kindOf n = some .local) (tk : Takes X Wout)
    (hb : ∀ (W : WX) (pn : List (Addr × Obj)) (xe : Value → Shared → Prop), Takes (X.tr pn xe) W → PassesOwn (model X.prog X.w) X.A X.env xe → PSs (X.tr pn xe) body (tb W))
    (hh : HdsA X n (h₀ :: hds) l) (hK : X.K = K := by rfl) : PS X (.Try body (h₀ :: hds) [] [] pos) (tTryMA K i l Wout tb) := by
  subst hK
  exact ps_tryMA hs hf hN hi hln tk hb hh
theorem ps_tryManyO (hs : X.stack = X.env :: X.outer) (hf : X.env.frame = some X.env.locals) (tk : Takes X Wout)
    (hb : ∀ (W : WX) (pn : List (Addr × Obj)) (xe : Value → Shared → Prop), Takes (X.tr pn xe) W → PassesOwn (model X.prog X.w) X.A X.env xe → PSs (X.tr pn xe) body (tb W))
    (hh : HdsOk X (h₀ :: hds) l) (hK : X.K = K := by rfl) : PS X (.Try body (h₀ :: hds) [] [] pos) (tTryMO K l Wout tb) := by
  subst hK
  exact ps_try_many hs hf tk hb hh
theorem r_tryMA {tb : WX → TS} (q : tb (wManyA K i Wout D l) D σ H) : tTryMA K i l Wout tb D σ H := q
theorem r_tryMO {tb : WX → TS} (q : tb (wMany K Wout D l) D σ H) : tTryMO K l Wout tb D σ H := q
theorem r_wMAT (h : PySem.W.exmOne K cls c = some true) (k : ∀ a, H a = none → ts a cls d { nx := fun σ' H' => D.nx (σ'.set i none) H', rt := D.rt, bk := fun σ' H' => D.bk (σ'.set i none) H', ct := fun σ' H' => D.ct (σ'.set i none) H' } (σ.set i (some (.ref a))) H) : wManyA K i Wout D ((c, ts) :: r) cls d σ H :=
  ⟨true, h, fun _ => k, (fun z => absurd z.symm Bool.false_ne_true)⟩
theorem r_wMAF (h : PySem.W.exmOne K cls c = some false) (k : wManyA K i Wout D r cls d σ H) : wManyA K i Wout D ((c, ts) :: r) cls d σ H := ⟨false, h, (fun z => absurd z Bool.false_ne_true), fun _ => k⟩
theorem r_wMOT (h : PySem.W.exmOne K cls c = some true) (k : ∀ a, H a = none → ts a cls d D σ H) : wMany K Wout D ((c, ts) :: r) cls d σ H := ⟨true, h, fun _ => k, (fun z => absurd z.symm Bool.false_ne_true)⟩
theorem r_wMOF (h : PySem.W.exmOne K cls c = some false) (k : wMany K Wout D r cls d σ H) : wMany K Wout D ((c, ts) :: r) cls d σ H := ⟨false, h, (fun z => absurd z Bool.false_ne_true), fun _ => k⟩
end
end Dk

/-! What the head tells: defs, tables of code objects, exception classes with an __init__ that calls super(). -/
namespace Dk
open PySem PySem.Spec PyProof.Rows L2
abbrev FnC : Type := Option (Str × Str × Arguments × FuncBody × Scope × Addr × Addr)
/-- an exception class and its __init__ -/
structure XiD where
  x : Str
  qual : Str
  params : Arguments
  body : List Stmt
  scope : Scope
def fiA (K : PySem.W.Frag) (x : Str) : Addr := He.ma K (He.ga K x) "__init__"
def fnC (K : PySem.W.Frag) (x : Str) : FnC := match K.lookup (fiA K x) with
  | some ⟨_, _, .func fd, _⟩ => some (fd.name, fd.qualname, fd.params, fd.body, fd.scope, fd.globals, fd.builtins)
  | _ => none
def XiD.val (d : XiD) : FnC := some ("__init__", d.qual, d.params, .stmts d.body, d.scope, mainGlobals, builtinsNs)
def oexB (K : PySem.W.Frag) (C : Addr) : Bool := match K.lookup C with
  | some ⟨.type t, _, .cls cd, sl⟩ => decide (t = "type") && (cd.hasDict && (!cd.hasDel && (match cd.mro, sl.toList with
    | .ref C' :: bm, [_, _, _, _, some (.builtin n), _] => decide (C' = C) && (decide (n = "ValueError.__new__") && PySem.HandSPX.refsVE bm)
    | _, _ => false)))
  | _ => false
theorem oexB_ok {K : PySem.W.Frag} {C : Addr} (h : oexB K C = true) : ∃ nm q N bs bm sn sub ab col dd k0 k1 k2 k3 k5, K.lookup C = some (excClassObj nm q C N bs bm true sn sub ab col dd k0 k1 k2 k3 k5 "ValueError.__new__") ∧ PySem.HandSPX.refsVE bm = true := by
  unfold oexB at h
  split at h
  · rename_i t dd cd sl ho
    obtain ⟨h1, h⟩ := He.ba h
    obtain ⟨h2, h⟩ := He.ba h
    obtain ⟨h3, h⟩ := He.ba h
    split at h
    · rename_i C' bm k0 k1 k2 k3 n k5 hm hs
      obtain ⟨h4, h⟩ := He.ba h
      obtain ⟨h5, h6⟩ := He.ba h
      obtain ⟨nm, bs, mro, ns, qn, hd, sn, sub, ab, col, del⟩ := cd
      dsimp only at hm h2 h3
      have e3 : del = false := by
        cases del with
        | false => rfl
        | true => cases h3
      have e1 := of_decide_eq_true h1
      have e4 := of_decide_eq_true h4
      have e5 := of_decide_eq_true h5
      subst hm e3 h2 e1 e4 e5
      have hsl : sl = #[k0, k1, k2, k3, some (.builtin "ValueError.__new__"), k5] := by
        obtain ⟨l⟩ := sl
        simp only at hs
        rw [hs]
      subst hsl
      exact ⟨nm, qn, ns, bs, bm, sn, sub, ab, col, dd, k0, k1, k2, k3, k5, ho, h6⟩
    · cases h
  · cases h
/-- the function, its code, its closure -/
def cellB (K : PySem.W.Frag) (x : Str) (cc : Addr) : Bool := match K.lookup cc with
  | some ⟨_, _, .cell (some (.ref C)), _⟩ => decide (C = He.ga K x)
  | _ => false
theorem cellB_ok {K : PySem.W.Frag} {x : Str} {cc : Addr} (h : cellB K x cc = true) : ∃ cl cld csl, K.lookup cc = some ⟨cl, cld, .cell (some (.ref (He.ga K x))), csl⟩ := by
  unfold cellB at h
  split at h
  · rename_i cl cld C csl ho
    rw [← of_decide_eq_true h]
    exact ⟨cl, cld, csl, ho⟩
  · cases h
def cloB (K : PySem.W.Frag) (x : Str) (l : List (Str × Addr)) : Bool := match l with
  | [(n, cc)] => decide (n = ("__class__" : Str)) && cellB K x cc
  | _ => false
theorem cloB_ok {K : PySem.W.Frag} {x : Str} {l : List (Str × Addr)} (h : cloB K x l = true) : ∃ cc, l = [(("__class__" : Str), cc)] ∧ cellB K x cc = true := by
  unfold cloB at h
  split at h
  · rename_i n cc
    obtain ⟨h1, h2⟩ := He.ba h
    rw [of_decide_eq_true h1]
    exact ⟨cc, rfl, h2⟩
  · cases h
def strIs (file : Str) (v : Option Value) : Bool := match v with
  | some (.str f _) => decide (f = file)
  | _ => false
theorem strIs_ok {file : Str} {v : Option Value} (h : strIs file v = true) : ∃ t, v = some (.str file t) := by
  unfold strIs at h
  split at h
  · rename_i f t
    rw [of_decide_eq_true h]
    exact ⟨t, rfl⟩
  · cases h
def filB (K : PySem.W.Frag) (file : Str) (cda : Addr) : Bool := match K.lookup cda with
  | some ⟨_, _, .fields vs, _⟩ => strIs file vs[2]?
  | _ => false
theorem filB_ok {K : PySem.W.Frag} {file : Str} {cda : Addr} (h : filB K file cda = true) : ∃ ccl cdd vs ccs tf, K.lookup cda = some ⟨ccl, cdd, .fields vs, ccs⟩ ∧ vs[2]? = some (.str file tf) := by
  unfold filB at h
  split at h
  · rename_i a b vs c ho
    obtain ⟨t, e⟩ := strIs_ok h
    exact ⟨a, b, vs, c, t, ho, e⟩
  · cases h
def codB (K : PySem.W.Frag) (file : Str) (v : Value) : Bool := match v with
  | .ref c => filB K file c
  | _ => false
theorem codB_ok {K : PySem.W.Frag} {file : Str} {v : Value} (h : codB K file v = true) : ∃ c, v = .ref c ∧ filB K file c = true := by
  unfold codB at h
  split at h
  · exact ⟨_, rfl, h⟩
  · cases h
def nonB (v : Value) : Bool := match v with
  | .none => true
  | _ => false
theorem nonB_ok {v : Value} (h : nonB v = true) : v = .none := by
  unfold nonB at h
  split at h
  · rfl
  · cases h
def xfB2 (file : Str) (K : PySem.W.Frag) (d : XiD) : Bool := match K.lookup (fiA K d.x) with
  | some ⟨_, _, .func fd, _⟩ => PySem.W.codeIn K fd.code d.qual && (nonB fd.defaults && (codB K file fd.code && cloB K d.x fd.closure))
  | _ => false
def xiB (file : Str) (K : PySem.W.Frag) (d : XiD) : Bool := xfB2 file K d && (oexB K (He.ga K d.x) && (He.eqO (PySem.W.findIn K (.ref (He.ga K d.x)) "__init__") (some (some (.ref (fiA K d.x)))) && (decide (PySem.W.typeIn K (.ref (fiA K d.x)) = some (.type "function")) &&
  (He.eqO (PySem.W.findIn K (.ref (He.ga K d.x)) "__setattr__") (some (some (.builtin "object.__setattr__"))) && (decide (PySem.W.subIn K (.ref (He.ga K d.x)) (.type "BaseException") = some true) && (decide (PySem.W.typeIn K (.ref (He.ga K d.x)) = some (.type "type")) && (PySem.W.keepIn K (.ref (He.ga K d.x)) &&
  (decide (PySem.W.mroIn K (He.ga K d.x) (.ref (He.ga K d.x)) = some true) && (He.eqO (PySem.W.ks_superIn K (He.ga K d.x) (He.ga K d.x) "__init__") (some (some (.builtin "ValueError.__init__"))) && (He.eqO (PySem.W.nsIn K cStatics "thirdparty.any") (some none) &&
  (decide (PySem.W.mroIn K (He.ga K d.x) (.type "ValueError") = some true) && He.eqO (PySem.W.findIn K (.ref (He.ga K d.x)) "place") (some none))))))))))))
theorem xfB2_ok {file : Str} {K : PySem.W.Frag} {d : XiD} (hv : fnC K d.x = d.val) (h : xfB2 file K d = true) : ∃ oc od osl kV doc pm an cda ct cc ccl cdd vs ccs tf cl cld csl,
    K.lookup (fiA K d.x) = some ⟨oc, od, .func (PySem.W.ksFn "__init__" d.qual d.params d.body d.scope .none kV doc pm an (.ref cda) ct cc), osl⟩ ∧ PySem.W.codeIn K (.ref cda) d.qual = true ∧ K.lookup cda = some ⟨ccl, cdd, .fields vs, ccs⟩ ∧ vs[2]? = some (.str file tf) ∧
    K.lookup cc = some ⟨cl, cld, .cell (some (.ref (He.ga K d.x))), csl⟩ := by
  unfold xfB2 at h
  unfold fnC at hv
  split at h
  · rename_i oc od fd osl q
    rw [q] at hv
    obtain ⟨n1, n2, n3, n4, n5, n6, n7, n8, n9, n10, n11, n12, n13, n14, n15⟩ := fd
    have e2 : (some (n1, n2, n3, n4, n5, n6, n15) : FnC) = some (("__init__" : Str), d.qual, d.params, FuncBody.stmts d.body, d.scope, mainGlobals, builtinsNs) := hv
    simp only [Option.some.injEq, Prod.mk.injEq] at e2
    obtain ⟨h1, h2, h3, h4, h5, h6, h8⟩ := e2
    subst h1 h2 h3 h4 h5 h6 h8
    obtain ⟨k1, h⟩ := He.ba h
    obtain ⟨k2, h⟩ := He.ba h
    obtain ⟨k3, k4⟩ := He.ba h
    have k2 := nonB_ok k2
    obtain ⟨cda, e3, k5⟩ := codB_ok k3
    obtain ⟨cc, e4, k6⟩ := cloB_ok k4
    obtain ⟨ccl, cdd, vs, ccs, tf, q2, q3⟩ := filB_ok k5
    obtain ⟨cl, cld, csl, q4⟩ := cellB_ok k6
    dsimp only at k2 e3 e4 k1
    subst k2 e3 e4
    exact ⟨oc, od, osl, n9, n10, n11, n12, cda, n14, cc, ccl, cdd, vs, ccs, tf, cl, cld, csl, q, k1, q2, q3, q4⟩
  · cases h
theorem xpc_of {e : Wd} {d : XiD} {file : Str} (hv : fnC e.K d.x = d.val) (hb : xiB file e.K d = true) (hfile : ((e.P.main.file : Str) == file) = true) (htop : (e.P.main.scope.names.lookup ("super" : Str)).isSome = false) (hms : e.mg "super" = none) (g : e.mg d.x = some (.ref (He.ga e.K d.x)))
    {p0 p1 p2 p3 p4 p5 p6 p7 p8 p9 : Pos} {ar : Arg} {pl : Sem Bool} (hsc : d.scope = scI)
    (hbd : d.body = [.Expr (.Call (.Attribute (.Call (.Name "super" p0) [] [] p1) "__init__" p2) [.Name "place" p3] [] p4) p5, .Assign [.Attribute (.Name "self" p6) "place" p7] (.Name "place" p8) p9])
    (hev : ∀ (Lc fa : Addr) (cd : Value) (ce : Addr), eval (.Call (.Attribute (.Call (.Name "super" p0) [] [] p1) "__init__" p2) [.Name "place" p3] [] p4) (PySem.W.ksEnv d.qual scI Lc fa cd ce) = (do
      let ov ← attributeBase (.Call (.Name "super" p0) [] [] p1) "__init__" (PySem.W.ksEnv d.qual scI Lc fa cd ce) (eval (.Call (.Name "super" p0) [] [] p1) (PySem.W.ksEnv d.qual scI Lc fa cd ce))
      standAt p2.atName
      let (f, first) ← holding [ov] (getMethod ov "__init__" pl)
      callWith p4 f first (backTo p4 (starEach [.Name "place" p3] (PySem.W.ksEnv d.qual scI Lc fa cd ce))) []))
    (hps : (d.params.posonlyargs ++ d.params.args).head? = some ar) (har : ar.arg = "self")
    (hbi : ∀ (kV doc pm : Value) (an : Option Addr) (cdv ct : Value) (cc : Addr) (us : List Value), us.length = 2 → bindArgs (PySem.W.ksFn "__init__" d.qual d.params d.body scI .none kV doc pm an cdv ct cc) ⟨us, []⟩ = pure ((["self", "place"] : List Str).zip us)) :
    XpC e d.x (He.ga e.K d.x) := by
  obtain ⟨b0, hb⟩ := He.ba hb
  obtain ⟨b1, hb⟩ := He.ba hb
  obtain ⟨b2, hb⟩ := He.ba hb
  obtain ⟨b3, hb⟩ := He.ba hb
  obtain ⟨b4, hb⟩ := He.ba hb
  obtain ⟨b5, hb⟩ := He.ba hb
  obtain ⟨b6, hb⟩ := He.ba hb
  obtain ⟨b7, hb⟩ := He.ba hb
  obtain ⟨b8, hb⟩ := He.ba hb
  obtain ⟨b9, hb⟩ := He.ba hb
  obtain ⟨b10, hb⟩ := He.ba hb
  obtain ⟨b11, b12⟩ := He.ba hb
  obtain ⟨oc, od, osl, kV, doc, pm, an, cda, ct, cc, ccl, cdd, vs, ccs, tf, cl, cld, csl, l1, l2, l3, l4, l5⟩ := xfB2_ok hv b0
  rw [hsc] at l1
  have T : OexC e.K (He.ga e.K d.x) := ⟨oexB_ok b1, He.eqO_ok b4, of_decide_eq_true b5, of_decide_eq_true b6, b7⟩
  refine ⟨T, ⟨_, _, He.eqO_ok b2, of_decide_eq_true b3, .all (hbi kV doc pm an (.ref cda) ct cc), fun k => ?_⟩, g, He.eqO_ok b12⟩
  exact xinit_ok l1 l2 hbd hev hps har l3 l4 hfile htop l5 T (of_decide_eq_true b8) (He.eqO_ok b9) (He.eqO_ok b10) (of_decide_eq_true b11) (He.eqO_ok b12) hms
/-! ### the Hook -/
structure SaysY (file : Str) (fa : List He.Fa) (fn : List He.DefD) (tf : List He.Defn) (fx : List XiD) (ex : PySem.W.Frag → Bool) (w : World) (h : Heap) (K : PySem.W.Frag) : Prop where
  x : He.SaysX fa fn [] tf ex w h K
  xv : fx.map (fun d => fnC K d.x) = fx.map XiD.val
  xb : (fx.all fun d => xiB file K d) = true
abbrev frY (n : Nat) (g : Addr → Option Obj) : PySem.W.Frag := He.frT g (He.asD g n ++ [cStatics])
abbrev AlY : Type := (He.AlT × Bool) × List FnC
def obsY (n : Nat) (file : Str) (fa : List He.Fa) (fn : List He.DefD) (tf : List He.Defn) (fx : List XiD) (ex : PySem.W.Frag → Bool) (g : Addr → Option Obj) : AlY :=
  ((He.obsT fa fn [] (frY n g), (ex (frY n g) && He.tabsB g tf (frY n g)) && fx.all fun d => xiB file (frY n g) d), fx.map fun d => fnC (frY n g) d.x)
def valY (fn : List He.DefD) (fx : List XiD) (w : World) : AlY := ((He.valT fn [] w, true), fx.map XiD.val)
theorem saysY_of {n : Nat} {file : Str} {fa : List He.Fa} {fn : List He.DefD} {tf : List He.Defn} {fx : List XiD} {ex : PySem.W.Frag → Bool} {w : World} {h : Heap} (e : obsY n file fa fn tf fx ex h.get? = valY fn fx w) : SaysY file fa fn tf fx ex w h (frY n h.get?) := by
  have e1 : He.obsT fa fn [] (frY n h.get?) = He.valT fn [] w := congrArg (fun z : AlY => z.1.1) e
  have e2 : ((ex (frY n h.get?) && He.tabsB h.get? tf (frY n h.get?)) && fx.all fun d => xiB file (frY n h.get?) d) = true := congrArg (fun z : AlY => z.1.2) e
  have e3 : (fx.map fun d => fnC (frY n h.get?) d.x) = fx.map XiD.val := congrArg (fun z : AlY => z.2) e
  obtain ⟨h0, h3⟩ := He.ba e2
  obtain ⟨h1, h2⟩ := He.ba h0
  have key : ∀ p ∈ tf, PySem.W.codeHdIn (frY n h.get?) (He.cT (frY n h.get?) p).1 (He.cT (frY n h.get?) p).2 = true ∧ ∃ o, h.get? (He.cT (frY n h.get?) p).2 = some o ∧ He.emptyTab o = true := fun p hp => by
    obtain ⟨h4, h5⟩ := He.ba (List.all_eq_true.mp h2 p hp)
    refine ⟨h4, ?_⟩
    cases q : h.get? (He.cT (frY n h.get?) p).2 with
    | none =>
      rw [q] at h5
      cases h5
    | some o =>
      rw [q] at h5
      exact ⟨o, rfl, h5⟩
  refine ⟨⟨e1, h1, fun p hp => (key p hp).1, fun p hp => ?_, fun p hp => ?_⟩, e3, h3⟩
  · obtain ⟨_, o, q, z⟩ := key p hp
    exact He.frT_none q z
  · obtain ⟨_, o, q, z⟩ := key p hp
    rw [q, He.emptyTab_eq z]
def hookY (n : Nat) (file : Str) (fa : List He.Fa) (fn : List He.DefD) (tf : List He.Defn) (fx : List XiD) (ex : PySem.W.Frag → Bool) : PySem.W.Hook where
  α := AlY
  obs := fun s => obsY n file fa fn tf fx ex s.heap.get?
  val := fun w => valY fn fx w
  says := fun w h => ∃ K : PySem.W.Frag, K.In h ∧ SaysY file fa fn tf fx ex w h K
  of := fun _ _ e => ⟨_, He.frT_in, saysY_of e⟩
  keeps := fun _ _ _ ⟨K, hK, c⟩ k => ⟨K, PySem.W.Frag.In.keeps hK k, ⟨⟨c.x.t, c.x.more, c.x.hd, c.x.out, fun p hp => k _ _ (c.x.empty p hp)⟩, c.xv, c.xb⟩⟩
theorem obsY_eq {n : Nat} {file : Str} {fa : List He.Fa} {fn : List He.DefD} {tf : List He.Defn} {fx : List XiD} {ex : PySem.W.Frag → Bool} {g : Addr → Option Obj} {s : Shared} (h : ∀ a, g a = s.heap.get? a) : obsY n file fa fn tf fx ex g = (hookY n file fa fn tf fx ex).obs s := by
  have e : g = s.heap.get? := funext h
  rw [e] <;> rfl
theorem SaysY.xi {file : Str} {fa : List He.Fa} {fn : List He.DefD} {tf : List He.Defn} {fx : List XiD} {ex : PySem.W.Frag → Bool} {w : World} {h : Heap} {K : PySem.W.Frag} (c : SaysY file fa fn tf fx ex w h K) (i : Nat) {d : XiD} (e : fx[i]? = some d := by rfl) : fnC K d.x = d.val ∧ xiB file K d = true := by
  refine ⟨?_, List.all_eq_true.mp c.xb d (List.mem_of_getElem? e)⟩
  have q : (fx.map fun d => fnC K d.x)[i]? = (fx.map XiD.val)[i]? := by rw [c.xv]
  rw [List.getElem?_map, List.getElem?_map, e] at q
  exact Option.some.inj q
theorem xf_of_exc {K : PySem.W.Frag} {C : Addr} (h : ExcC K C) : XfC K C := ⟨h.hg, h.hk, h.hs, h.hd⟩
end Dk

/-! Further rules: while, range from a to b, texts many times, wide division, defaults, defs that call themselves. -/
namespace Dk
open PySem PySem.Spec PyProof.Rows L2
/-! ### while -/
section
variable {c : TT} {tb : TS} {D : Ends} {σ : L2.St} {H : Hp}
def wlq (W : Nat → L2.St → Hp → Prop) (tb : TS) (D : Ends) (m : Nat) (σ : L2.St) (b : Bool) (H1 : Hp) : Prop := if b = true then ∃ N : L2.St → Hp → Prop, (∀ σ' H', N σ' H' → ∃ m', m' < m ∧ W m' σ' H') ∧ tb { D with nx := N, ct := N, bk := D.nx } σ H1 else D.nx σ H1
theorem r_while (W : Nat → L2.St → Hp → Prop) (n : Nat) (h0 : W n σ H) (turn : ∀ m σ' H', W m σ' H' → c σ' H' fun b H1 => wlq W tb D m σ' b H1) : tWhile c tb D σ H := ⟨W, ⟨n, h0⟩, turn⟩
theorem r_wlq {W : Nat → L2.St → Hp → Prop} {m : Nat} {p : Prop} [Decidable p] (h1 : p → tb (Ends.mk (fun s h => ∃ m', m' < m ∧ W m' s h) D.rt D.nx (fun s h => ∃ m', m' < m ∧ W m' s h)) σ H) (h2 : ¬ p → D.nx σ H) : wlq W tb D m σ (decide p) H := by
  unfold wlq
  by_cases h : p
  · rw [if_pos (decide_eq_true h)]
    exact ⟨_, fun _ _ z => z, h1 h⟩
  · rw [if_neg (by rw [decide_eq_false h]; exact Bool.false_ne_true)]
    exact h2 h
theorem r_wlqn {W : Nat → L2.St → Hp → Prop} {m : Nat} {p : Prop} [Decidable p] (h1 : ¬ p → tb (Ends.mk (fun s h => ∃ m', m' < m ∧ W m' s h) D.rt D.nx (fun s h => ∃ m', m' < m ∧ W m' s h)) σ H) (h2 : p → D.nx σ H) : wlq W tb D m σ (!decide p) H := by
  unfold wlq
  by_cases h : p
  · rw [if_neg (by rw [decide_eq_true h]; exact Bool.false_ne_true)]
    exact h2 h
  · rw [if_pos (by rw [decide_eq_false h] <;> rfl)]
    exact ⟨_, fun _ _ z => z, h1 h⟩
end
section
variable {p A B : Prop} [Decidable p]
theorem r_decT (h : p) (q : A) : if decide p = true then A else B := by
  rw [if_pos (decide_eq_true h)]
  exact q
theorem r_decF (h : ¬ p) (q : B) : if decide p = true then A else B := by
  rw [if_neg (by rw [decide_eq_false h]; exact Bool.false_ne_true)]
  exact q
theorem r_decnT (h : ¬ p) (q : A) : if (!decide p) = true then A else B := by
  rw [if_pos (by rw [decide_eq_false h] <;> rfl)]
  exact q
theorem r_decnF (h : p) (q : B) : if (!decide p) = true then A else B := by
  rw [if_neg (by rw [decide_eq_true h]; exact Bool.false_ne_true)]
  exact q
end
/-! ### for j in range(a, b) -/
section
variable {tA : TA} {g : TG} {tb : TS} {D : Ends} {σ : L2.St} {H : Hp} {j : Nat}
def rfq2 (xs : List V) (g : TG) (tb : TS) (D : Ends) (σ : L2.St) (H : Hp) : Prop := tFor (iRng2 fun _ H1 QA => QA xs H1) g tb D σ H
theorem r_forr2 (q : tA σ H fun xs H1 => rfq2 xs g tb D σ H1) : tFor (iRng2 tA) g tb D σ H := q
theorem for_rng2 {a b : Int} (Pv : Nat → L2.St → Hp → Prop) (h1 : -(2 ^ 62) ≤ a) (h2 : a < 2 ^ 62) (h3 : -(2 ^ 62) ≤ b) (h4 : b < 2 ^ 62) (h0 : Pv 0 σ H)
    (hs : ∀ (i : Nat) σ' H', a + (i : Int) < b → Pv i σ' H' → tb (Ends.mk (Pv (i + 1)) D.rt D.nx (Pv (i + 1))) (σ'.set j (some (.int (a + (i : Int))))) H') (hd : ∀ σ' H', Pv (b - a).toNat σ' H' → D.nx σ' H') : rfq2 [.int a, .int b] (gName j) tb D σ H := by
  refine ⟨a, b, rfl, ⟨h1, h2, h3, h4⟩, for_range (lo := a) (n := (b - a).toNat) Pv h0 (fun i σ' H' hi hp => hs i σ' H' (by omega) hp) hd⟩
end
/-! ### a text some times; a list, an int -/
section
variable {X : Cx} {K : PySem.W.Frag} {H : Hp} {Q : VK}
theorem op_mul_str : OpR X (binaryOp .Mult) (fun x y H Q => ∃ (z : Str) (n : Int), x = .str z ∧ y = .int n ∧ 0 < n ∧ n ≤ 1000 ∧ 0 < z.length ∧ z.length ≤ 1000 ∧ Q (.str (Txt.mul z n)) H) := by
  intro pins s σ H x y v u Q I rx ry ⟨z, n, ex, ey, n0, n1, z0, z1, q⟩
  subst ex ey
  obtain ⟨tz, rfl⟩ := rx
  obtain ⟨tn, rfl⟩ := ry
  refine SB.mul ⟨?_, fun h1 h2 => ?_, fun h1 h2 => ?_⟩ fun t' k => ⟨.str (Txt.mul z n), H, I.kept (t' := k) fun _ _ e => e, ⟨t', rfl⟩, q⟩
  · have a1 : ¬ n < -(2 ^ 63 : Int) := by omega
    have a2 : ¬ n ≥ 2 ^ 63 := by omega
    simp only [a1, a2, decide_false, Bool.or_false]
  · have a3 : (1000 : Int) ≤ (2 ^ 63 - 1) / n := by
      refine Int.le_ediv_of_mul_le n0 ?_
      omega
    omega
  · have a4 : z.length * n.toNat ≤ 1000 * 1000 := Nat.mul_le_mul z1 (by omega)
    unfold Builtin.Str.tooLong
    have := sizeLine_eq
    simp only [decide_eq_false_iff_not]
    omega
/-- a * b, texts too -/
def uMulS : R2 := fun x y H Q => match x, y with
  | .int i, .int j => CMul i j ∧ Q (.int (i * j)) H
  | .ref a, .int j => rRep (.ref a) (.int j) H Q
  | .str z, .int n => (0 < n ∧ n ≤ 1000) ∧ (0 < z.length ∧ z.length ≤ 1000) ∧ Q (.str (Txt.mul z n)) H
  | _, _ => False
theorem op_mulS : OpR X (binaryOp .Mult) uMulS := by
  refine opw (op_mulU.or op_mul_str) fun x y H Q h => ?_
  cases x <;> cases y <;> first
    | exact .inl h
    | exact .inr ⟨_, _, rfl, rfl, h.1.1, h.1.2, h.2.1.1, h.2.1.2, h.2.2⟩
    | exact False.elim h
theorem r_mulSI {n m : Int} (h : CMul n m) (q : Q (.int (n * m)) H) : uMulS (.int n) (.int m) H Q := ⟨h, q⟩
theorem r_mulSS {z : Str} {n : Int} (h : 0 < n ∧ n ≤ 1000) (h2 : 0 < z.length ∧ z.length ≤ 1000) (q : Q (.str (Txt.mul z n)) H) : uMulS (.str z) (.int n) H Q := ⟨h, h2, q⟩
theorem r_mulSL {a : Addr} {n : Int} {xs : List V} (ha : H a = some (.lst xs)) (h0 : -(2 ^ 63) ≤ n) (h1 : n < 2 ^ 63) (hl : xs.length * n.toNat ≤ sizeLine) (k : ∀ p H', H p = none → Same H H' → H' p = some (.lst (List.replicate n.toNat xs).flatten) → Q (.ref p) H') : uMulS (.ref a) (.int n) H Q :=
  r_mulL ha h0 h1 hl k
/-! a // b, wide -/
abbrev uDivW : R2 := uI CDivW fun i j => .int (i / j)
theorem op_divW : OpR X (binaryOp .FloorDiv) uDivW := uI_w op_fdivW
theorem cdivW {i j : Int} (h0 : 0 < j) (h1 : j < 2 ^ 80) : CDivW i j := by
  refine ⟨h0, ?_⟩
  have h2 : j.natAbs < 2 ^ 80 := by omega
  have h3 := (Nat.log2_lt (by omega)).mpr h2
  omega
theorem r_neB {n m : Bool} (q : Q (.bl (!decide (n = m))) H) : uNe K (.bl n) (.bl m) H Q := .inl ⟨rfl, by
  have e : decide (V.bl n = V.bl m) = decide (n = m) := by cases n <;> cases m <;> decide
  rw [e]
  exact q⟩
theorem r_eqBB {n m : Bool} (q : Q (.bl (decide (n = m))) H) : uEq K (.bl n) (.bl m) H Q := .inl ⟨rfl, by
  have e : decide (V.bl n = V.bl m) = decide (n = m) := by cases n <;> cases m <;> decide
  rw [e]
  exact q⟩
theorem r_ext {l b : Addr} {xs zs : List V} (h : H l = some (.lst xs)) (h2 : H b = some (.lst zs)) (hl : xs.length + zs.length ≤ sizeLine) (k : ∀ H', H' l = some (.lst (xs ++ zs)) → (∀ c, c ≠ l → H' c = H c) → Q .non H') : rExtend (.ref l) [.ref b] H Q :=
  ⟨l, b, xs, zs, rfl, rfl, h, h2, hl, k _ upd_same fun b hb => upd_ne hb⟩
/-- x >>= 7 -/
def ipShr : V → V → Hp → VK → Prop := fun x y H Q => ∃ i j : Int, x = .int i ∧ y = .int j ∧ 0 ≤ j ∧ Q (.int (i / 2 ^ j.toNat)) H
theorem ip_shrU : PIp X .RShift ipShr := by
  intro pins s σ H x y v u Q I r1 r2 h
  obtain ⟨i, j, e1, e2, h0, q⟩ := h
  exact iop_shr pins s σ H x y v u Q I r1 r2 ⟨i, j, e1, e2, h0, q⟩
theorem r_augShr {σ : L2.St} {D : Ends} {te : TE} {i : Nat} {n : Int} (h : σ[i]? = some (some (.int n))) (q : te σ H fun y H1 => iq y fun m => 0 ≤ m ∧ D.nx (σ.set i (some (.int (n / 2 ^ m.toNat)))) H1) : tAug i te ipShr D σ H := by
  refine ⟨_, h, ?_⟩
  have e : (fun y H1 => iq y fun m => 0 ≤ m ∧ D.nx (σ.set i (some (.int (n / 2 ^ m.toNat)))) H1) = fun y H1 => ipShr (.int n) y H1 fun z H2 => D.nx (σ.set i (some z)) H2 := by
    funext y H1
    refine propext ⟨fun ⟨m, e, h0, q⟩ => ⟨n, m, rfl, e, h0, q⟩, fun ⟨a, b, e1, e2, h0, q⟩ => ⟨b, e2, h0, ?_⟩⟩
    cases e1
    exact q
  rw [← e]
  exact q
def ordq (xs : List V) (H : Hp) (Q : VK) : Prop := ∃ x, xs = [.str x] ∧ x.length = 1 ∧ Q (.int (x.cps.getD 0 0 : Nat)) H
theorem call_ordU : CallR X (.builtin "ord") ordq := call_ord
theorem r_ord {c : Nat} (q : Q (.int (c : Nat)) H) : ordq [.str ⟨#[c]⟩] H Q := ⟨_, rfl, rfl, q⟩
/-! tuple(range(n)) -/
def rgq (b : Int) (H1 : Hp) (Q : VK) : Prop := RgOk 0 b ∧ ∀ q, H1 q = none → Q (.ref q) (upd H1 q (.tup (rgV 0 b)))
theorem r_tupRg {ta : TE} {σ : L2.St} (q : ta σ H fun x H1 => iq x fun n => rgq n H1 Q) : tTupRg (tRg1 ta) σ H Q := q
theorem r_rgq {n : Int} (h0 : 0 ≤ n) (h1 : n ≤ 1000000) (k : ∀ p H', H p = none → Same H H' → H' p = some (.tup (rgV 0 n)) → Q (.ref p) H') : rgq n H Q := ⟨RgOk.of_le (by decide) (by omega) (by decide) h0, r_new0 k⟩
end
/-! ### a def with defaults -/
structure CanD (e : Wd) (k : Nat) (x : Str) (ps : List Str) (dvs : List V) (sp : Sp) : Prop where
  can : Can e k x ps sp
  dfl : ∃ f fd, FnOk e.P e.w e.K e.mg e.base (L2.CX e.P e.w) k f fd ps sp ∧ e.mg x = some (.ref f) ∧ PySem.W.keepIn e.K (.ref f) = true ∧ ∃ ds, Vals dvs ds ∧ Binds e.K fd ps ds
def DefAtD (e : Wd) (x : Str) (st : Stmt) (dvs : List V) : Prop := ∃ f fd, FunD e.K x x (defArgs st) (defBody st) (defScope st) dvs [] f fd ∧ e.mg x = some (.ref f)
section
variable {e : Wd} {x : Str} {st : Stmt} {N ps : List Str} {k : Nat} {sp : Sp} {dvs : List V}
/-- all given; those with a default lacking -/
abbrev BindOkA (x : Str) (st : Stmt) (ps : List Str) (m : Nat) : Prop := ∀ (T : Addr) (kV doc pm : Value) (an : Option Addr) (cdv ct : Value) (us its : List Value), us.length = ps.length → its.length = m →
  ∃ k, bindArgs (PySem.W.fnOf x x (defArgs st) (defBody st) (defScope st) (.ref T) kV doc pm an cdv ct) ⟨us, []⟩ = seqItems? (.ref T) >>= k ∧ k (some its.toArray) = pure (ps.zip us)
abbrev BindOkD (x : Str) (st : Stmt) (ps : List Str) (n m : Nat) : Prop := ∀ (T : Addr) (kV doc pm : Value) (an : Option Addr) (cdv ct : Value) (us its : List Value), us.length = n → its.length = m →
  ∃ k, bindArgs (PySem.W.fnOf x x (defArgs st) (defBody st) (defScope st) (.ref T) kV doc pm an cdv ct) ⟨us, []⟩ = seqItems? (.ref T) >>= k ∧ k (some its.toArray) = pure (ps.zip (us ++ its))
theorem fnokD {f : Addr} {fd : FuncData} (F : FunD e.K x x (defArgs st) (defBody st) (defScope st) dvs [] f fd) (S : FnScope N ps (defScope st)) (len : ∀ vs H Q E, sp vs H Q E → vs.length = ps.length) (hb : BodyX e x st N k sp) : FnOk e.P e.w e.K e.mg e.base (L2.CX e.P e.w) (k + 1) f fd ps sp := by
  obtain ⟨oc, od, dV, kV, doc, pm, an, cdv, ct, osl, rfl, lk, hcd, _, _⟩ := F.ex
  exact fn_of lk hcd S len fun A outer s H vs Q E hr h => hb cdv f A outer s H vs Q E hr h (takes_of rfl rfl rfl rfl) (passes_of rfl)
theorem canXD_of {n : Nat} (D : DefAtD e x st dvs) (S : FnScope N ps (defScope st)) (B1 : BindOkA x st ps dvs.length) (B2 : BindOkD x st ps n dvs.length) (hd : dvs ≠ []) (hn : n + dvs.length = ps.length) (len : ∀ vs H Q E, sp vs H Q E → vs.length = ps.length) (hb : BodyX e x st N k sp) : CanD e (k + 1) x ps dvs sp := by
  obtain ⟨f, fd, F, m⟩ := D
  have ok := fnokD F S len hb
  obtain ⟨ds, hv, bd⟩ := F.binds1 (ps := ps) n 0 hd (by omega) (fun T kV doc pm an cdv ct us its h1 h2 => by
    obtain ⟨k, e1, e2⟩ := B2 T kV doc pm an cdv ct us its h1 h2
    exact ⟨k, e1, by rw [List.drop_zero]; exact e2⟩)
  rw [List.drop_zero] at hv
  obtain ⟨es, hv2, bd2⟩ := F.binds1 (ps := ps) ps.length dvs.length hd (by omega) (fun T kV doc pm an cdv ct us its h1 h2 => by
    obtain ⟨k, e1, e2⟩ := B1 T kV doc pm an cdv ct us its h1 h2
    refine ⟨k, e1, ?_⟩
    rw [List.drop_eq_nil_of_le (by omega), List.append_nil]
    exact e2)
  rw [List.drop_eq_nil_of_le (Nat.le_refl _)] at hv2
  cases hv2
  exact ⟨⟨f, fd, ok, m, F.kp, bd2⟩, f, fd, ok, m, F.kp, ds, hv, bd⟩
end
def tCallD (sp : Sp) (dvs : List V) (E : XK) (t : TA) : TE := fun σ H Q => t σ H fun vs H1 => sp (vs ++ dvs) H1 Q E
theorem pe_canD {X : Cx} {k : Nat} {x : Str} {ps : List Str} {dvs : List V} {sp : Sp} {E : XK} {p pos : Pos} {e : Expr} {es : List Expr} {t : TA} (c : CanD (wdOf X) k x ps dvs sp) (hr : Room k X.A) (hx : Passes (L2.CX X.prog X.w) X E) (ha : PA X (e :: es) t) (hg : Gl X x := by rfl)
    (hdb : (x == ("__debug__" : Str)) = false := by decide) (he : starEach (e :: es) X.env = (false, eval e X.env) :: starEach es X.env := by rfl) (hpl : (backTo pos (starEach es X.env)).any (·.1) = false := by rfl) : PE X (.Call (.Name x p) (e :: es) [] pos) (tCallD sp dvs E t) := by
  obtain ⟨_, f, fd, F, m, kp, ds, hv, b⟩ := c
  exact pe_call F hr hg m kp b hv hx ha hdb he hpl
/-- one argument given, one lacking -/
theorem r_callD1 {sp : Sp} {d : V} {E : XK} {ta : TE} {σ : L2.St} {H : Hp} {Q : VK} (q : ta σ H fun x H1 => sp [x, d] H1 Q E) : tCallD sp [d] E (tCons ta tNil) σ H Q := q
/-! ### a def that calls itself: a start -/
def spNo : Sp := fun _ _ _ _ => False
theorem can_no {e : Wd} {x : Str} {st : Stmt} {ps : List Str} {k : Nat} {sp : Sp} (D : DefAt e x st) (B : BindOk x st ps) (h : ∀ vs H Q E, ¬ sp vs H Q E) : Can e k x ps sp := by
  obtain ⟨f, fd, F, m⟩ := D
  exact ⟨f, fd, ⟨fun vs H Q E z => (h vs H Q E z).elim, fun A outer s H args us vs Q E hr e0 hb r z => (h vs H Q E z).elim⟩, m, F.kp, F.bindsN B⟩
end Dk

/-! Boxes. -/
namespace Dk
open PySem PySem.Spec PyProof.Rows L2
structure Ent where
  n : Int
  ls : List Str
  fs : List Str
  c : Int
def entD (x : Ent) : PyData := .tuple [.int x.n, sD x.ls, sD x.fs, .int x.c]
def gonD (x : Int × Int) : PyData := .tuple [.int x.1, .int x.2]
/-- what a box holds -/
structure Bx where
  n : Int
  c : Int
  es : List Ent
  gs : List (Int × Int)
structure BxAt (K : PySem.W.Frag) (H : Hp) (p E G : Addr) (B : Bx) : Prop where
  ins : Ins H p (He.ga K "Box") [("number", .int B.n), ("change", .int B.c), ("entries", .ref E), ("gone", .ref G)]
  es : ∃ ys, H E = some (.lst ys) ∧ Dqs H ys (B.es.map entD)
  gs : ∃ zs, H G = some (.lst zs) ∧ Dqs H zs (B.gs.map gonD)
  ne : E ≠ G
abbrev boxP (p E G : Addr) : List Addr := [p, E, G]
section
variable {K : PySem.W.Frag} {H H' : Hp} {p E G : Addr} {B : Bx} {F F' : List Addr}
theorem BxAt.pE (b : BxAt K H p E G B) : p ≠ E := let ⟨_, h, _⟩ := b.es; ins_ne b.ins h
theorem BxAt.pG (b : BxAt K H p E G B) : p ≠ G := let ⟨_, h, _⟩ := b.gs; ins_ne b.ins h
theorem BxAt.keep (b : BxAt K H p E G B) (g : Gro H H') (k : ∀ z o, H z = some o → z ∈ boxP p E G → H' z = some o) : BxAt K H' p E G B := by
  obtain ⟨dx, hi⟩ := b.ins
  obtain ⟨ys, he, hd⟩ := b.es
  obtain ⟨zs, hg, hz⟩ := b.gs
  exact ⟨⟨dx, k _ _ hi (by simp)⟩, ⟨ys, k _ _ he (by simp), hd.mono g⟩, ⟨zs, k _ _ hg (by simp), hz.mono g⟩, b.ne⟩
theorem BxAt.same (s : Same H H') (b : BxAt K H p E G B) : BxAt K H' p E G B := b.keep (Gro.same s) fun z o h _ => s z o h
theorem BxAt.chg (c : Chg F F' H H') (n : Dsj F (boxP p E G)) (b : BxAt K H p E G B) : BxAt K H' p E G B := b.keep c.gro fun z o h m => c.kp z o h fun q => n z q m
theorem BxAt.stp {a : Addr} (s : Stp a H H') (n : a ∉ boxP p E G) (b : BxAt K H p E G B) : BxAt K H' p E G B := b.chg s.chg (dsj_one n)
theorem BxAt.there (b : BxAt K H p E G B) : ∀ z ∈ boxP p E G, Mt (H z) := by
  obtain ⟨dx, hi⟩ := b.ins
  obtain ⟨ys, he, hd⟩ := b.es
  obtain ⟨zs, hg, hz⟩ := b.gs
  intro z m
  simp only [List.mem_cons, List.not_mem_nil, or_false] at m
  rcases m with rfl | rfl | rfl
  · exact mt_ins hi
  · exact mt_lst he
  · exact mt_lst hg
theorem BxAt.new_out {a : Addr} (b : BxAt K H p E G B) (n : H a = none) : a ∉ boxP p E G := fun m => by
  obtain ⟨u, z, _⟩ := b.there a m
  rw [n] at z
  cases z
/-- the instance's attributes are written -/
theorem BxAt.fput (b : BxAt K H p E G B) (f : Fput p H H') {n c : Int} (hi : Ins H' p (He.ga K "Box") [("number", .int n), ("change", .int c), ("entries", .ref E), ("gone", .ref G)]) : BxAt K H' p E G { B with n := n, c := c } := by
  obtain ⟨ys, he, hd⟩ := b.es
  obtain ⟨zs, hg, hz⟩ := b.gs
  exact ⟨hi, ⟨ys, f.lst he, hd.mono f.gro⟩, ⟨zs, f.lst hg, hz.mono f.gro⟩, b.ne⟩
/-- the entries are written -/
theorem BxAt.putE (b : BxAt K H p E G B) {ys : List V} {es : List Ent} (h : H' E = some (.lst ys)) (k : ∀ z, z ≠ E → H' z = H z) (d : Dqs H' ys (es.map entD)) : BxAt K H' p E G { B with es := es } := by
  obtain ⟨dx, hi⟩ := b.ins
  obtain ⟨zs, hg, hz⟩ := b.gs
  obtain ⟨ys0, he, _⟩ := b.es
  exact ⟨⟨dx, by rw [k _ b.pE]; exact hi⟩, ⟨ys, h, d⟩, ⟨zs, by rw [k _ b.ne.symm]; exact hg, hz.mono (gro_but he k)⟩, b.ne⟩
theorem BxAt.putG (b : BxAt K H p E G B) {zs : List V} {gs : List (Int × Int)} (h : H' G = some (.lst zs)) (k : ∀ z, z ≠ G → H' z = H z) (d : Dqs H' zs (gs.map gonD)) : BxAt K H' p E G { B with gs := gs } := by
  obtain ⟨dx, hi⟩ := b.ins
  obtain ⟨ys, he, hy⟩ := b.es
  obtain ⟨zs0, hg, _⟩ := b.gs
  exact ⟨⟨dx, by rw [k _ b.pG]; exact hi⟩, ⟨ys, by rw [k _ b.ne]; exact he, hy.mono (gro_but hg k)⟩, ⟨zs, h, d⟩, b.ne⟩
end
section
variable {H : Hp} {x : V}
theorem sD_at {v : V} {ss : List Str} (h : Dq H v (sD ss)) : ∃ t, v = .ref t ∧ H t = some (.tup (ss.map V.str)) := by
  cases h with
  | tup ha hs => exact ⟨_, rfl, by rw [← Dqs.strs_of hs]; exact ha⟩
theorem ent_at {y : Ent} (h : Dq H x (entD y)) : ∃ t vl vf, x = .ref t ∧ H t = some (.tup [.int y.n, vl, vf, .int y.c]) ∧ Dq H vl (sD y.ls) ∧ Dq H vf (sD y.fs) := by
  cases h with
  | tup ha hs =>
    cases hs with
    | cons h1 hs =>
    cases hs with
    | cons h2 hs =>
    cases hs with
    | cons h3 hs =>
    cases hs with
    | cons h4 hs =>
    cases hs
    cases h1
    cases h4
    exact ⟨_, _, _, rfl, ha, h2, h3⟩
theorem ent_mk {t : Addr} {vl vf : V} {y : Ent} (h : H t = some (.tup [.int y.n, vl, vf, .int y.c])) (hl : Dq H vl (sD y.ls)) (hf : Dq H vf (sD y.fs)) : Dq H (.ref t) (entD y) := .tup h (.cons (.int _) (.cons hl (.cons hf (.cons (.int _) .nil))))
theorem gon_at {y : Int × Int} (h : Dq H x (gonD y)) : ∃ t, x = .ref t ∧ H t = some (.tup [.int y.1, .int y.2]) := by
  cases h with
  | tup ha hs =>
    cases hs with
    | cons h1 hs =>
    cases hs with
    | cons h2 hs =>
    cases hs
    cases h1
    cases h2
    exact ⟨_, rfl, ha⟩
theorem gon_mk {t : Addr} {y : Int × Int} (h : H t = some (.tup [.int y.1, .int y.2])) : Dq H (.ref t) (gonD y) := .tup h (.cons (.int _) (.cons (.int _) .nil))
end
theorem Dqs.at_map {α : Type} {H : Hp} {f : α → PyData} {xs : List α} {ys : List V} {i : Nat} {v : V} (h : Dqs H ys (xs.map f)) (hv : ys[i]? = some v) : ∃ x, xs[i]? = some x ∧ Dq H v (f x) := by
  obtain ⟨d, e1, e2⟩ := h.get hv
  obtain ⟨x, e3, e4⟩ := get_mapG e1
  exact ⟨x, e3, by rw [e4]; exact e2⟩
theorem Dqs.has {α : Type} {H : Hp} {f : α → PyData} {xs : List α} {ys : List V} {i : Nat} {x : α} (h : Dqs H ys (xs.map f)) (hx : xs[i]? = some x) : ∃ v, ys[i]? = some v ∧ Dq H v (f x) := by
  have hl := h.length
  rw [List.length_map] at hl
  have hi : i < ys.length := by rw [hl]; exact (List.getElem?_eq_some_iff.mp hx).1
  obtain ⟨y, e1, e2⟩ := h.at_map (List.getElem?_eq_getElem hi)
  rw [hx] at e1
  cases e1
  exact ⟨_, List.getElem?_eq_getElem hi, e2⟩
theorem Dqs.len_map {α : Type} {H : Hp} {f : α → PyData} {xs : List α} {ys : List V} (h : Dqs H ys (xs.map f)) : ys.length = xs.length := by rw [h.length, List.length_map]
theorem Dqs.setAt {H : Hp} : ∀ {ds : List PyData} {ys : List V} {v : V} {d : PyData} (i : Nat), Dqs H ys ds → Dq H v d → Dqs H (ys.set i v) (ds.set i d)
  | [], _, v, d, i, h, hv => by
    cases h
    exact .nil
  | e :: ds, _, v, d, 0, h, hv => by
    cases h with
    | cons h1 h2 => exact .cons hv h2
  | e :: ds, _, v, d, i + 1, h, hv => by
    cases h with
    | cons h1 h2 => exact .cons h1 (Dqs.setAt i h2 hv)
theorem Dqs.erase {H : Hp} : ∀ {ds : List PyData} {ys : List V} (i : Nat), Dqs H ys ds → Dqs H (ys.eraseIdx i) (ds.eraseIdx i)
  | [], _, i, h => by
    cases h
    exact .nil
  | e :: ds, _, 0, h => by
    cases h with
    | cons h1 h2 => exact h2
  | e :: ds, _, i + 1, h => by
    cases h with
    | cons h1 h2 => exact .cons h1 (Dqs.erase i h2)
theorem Dqs.app {H : Hp} : ∀ {ds es : List PyData} {ys zs : List V}, Dqs H ys ds → Dqs H zs es → Dqs H (ys ++ zs) (ds ++ es)
  | [], _, _, _, h, k => by
    cases h
    exact k
  | d :: ds, _, _, _, h, k => by
    cases h with
    | cons h1 h2 => exact .cons h1 (Dqs.app h2 k)
theorem map_setG {α β : Type} (f : α → β) : ∀ (xs : List α) (i : Nat) (x : α), (xs.set i x).map f = (xs.map f).set i (f x)
  | [], _, _ => rfl
  | _ :: _, 0, _ => rfl
  | y :: xs, i + 1, x => by rw [List.set_cons_succ, List.map_cons, map_setG f xs i x] <;> rfl
theorem map_eraseG {α β : Type} (f : α → β) : ∀ (xs : List α) (i : Nat), (xs.eraseIdx i).map f = (xs.map f).eraseIdx i
  | [], _ => rfl
  | _ :: _, 0 => rfl
  | y :: xs, i + 1 => by rw [List.eraseIdx_cons_succ, List.map_cons, map_eraseG f xs i] <;> rfl
/-! acts -/
def placeM (es : List Ent) (n : Int) : Option Nat := es.findIdx? fun x => decide (x.n = n)
theorem place_some {es : List Ent} {n : Int} {i : Nat} {x : Ent} (h : es[i]? = some x) (e : x.n = n) (k : ∀ (j : Nat) y, j < i → es[j]? = some y → y.n ≠ n) : placeM es n = some i := by
  obtain ⟨hl, hx⟩ := List.getElem?_eq_some_iff.mp h
  refine List.findIdx?_eq_some_iff_getElem.mpr ⟨hl, by rw [hx]; exact decide_eq_true e, fun j hj => ?_⟩
  rw [decide_eq_true_eq]
  exact k j _ hj (List.getElem?_eq_getElem (by omega))
theorem place_none {es : List Ent} {n : Int} (k : ∀ (j : Nat) y, j < es.length → es[j]? = some y → y.n ≠ n) : placeM es n = none := by
  refine List.findIdx?_eq_none_iff.mpr fun x hx => ?_
  obtain ⟨j, hj, e⟩ := List.getElem_of_mem hx
  rw [decide_eq_false_iff_not]
  exact k j x hj (by rw [List.getElem?_eq_getElem hj, e])
theorem place_at {es : List Ent} {n : Int} {i : Nat} (h : placeM es n = some i) : ∃ x, es[i]? = some x ∧ x.n = n ∧ i < es.length := by
  obtain ⟨hl, hx, _⟩ := List.findIdx?_eq_some_iff_getElem.mp h
  exact ⟨_, List.getElem?_eq_getElem hl, of_decide_eq_true hx, hl⟩
theorem place_not {es : List Ent} {n : Int} (h : placeM es n = none) : ∀ x ∈ es, x.n ≠ n := fun x hx => of_decide_eq_false (List.findIdx?_eq_none_iff.mp h x hx)
def Bx.dlv (B : Bx) (ls : List Str) : Bx := { B with n := B.n + 1, c := B.c + 1, es := B.es ++ [⟨B.n + 1, ls, [], B.c + 1⟩] }
def Bx.flag (B : Bx) (i : Nat) (n : Int) (fs : List Str) : Bx := { B with c := B.c + 1, es := B.es.set i ⟨n, (B.es[i]?.map (·.ls)).getD [], fs, B.c + 1⟩ }
def Bx.cut (B : Bx) (i : Nat) (n : Int) : Bx := { B with c := B.c + 1, es := B.es.eraseIdx i, gs := B.gs ++ [(n, B.c + 1)] }
def newsEs (B : Bx) (m : Int) : List Ent := B.es.filter fun x => decide (m < x.c)
def newsGs (B : Bx) (m : Int) : List Int := (B.gs.filter fun x => decide (m < x.2)).map (·.1)
def newsD (B : Bx) (m : Int) (ns : List Int) : PyData := .tuple [.int B.c, .tuple ((newsEs B m).map entD), .tuple (ns.map PyData.int)]
def boxD (B : Bx) : PyData := .tuple [.int B.n, .int B.c, .tuple (B.es.map entD), .tuple (B.gs.map gonD)]
/-- ints in order are one list -/
theorem sorted_one {xs ys zs : List Int} (h1 : xs.Perm zs) (h2 : ys.Perm zs) (p1 : xs.Pairwise (· ≤ ·)) (p2 : ys.Pairwise (· ≤ ·)) : xs = ys :=
  List.Perm.eq_of_pairwise (fun a b _ _ h k => Int.le_antisymm h k) p1 p2 (h1.trans h2.symm)
/-! texts in order -/
structure SortOf (ys ss : List Str) : Prop where
  nd : ys.Nodup
  so : sortedS ys = true
  mem : ∀ z, z ∈ ys ↔ z ∈ ss
theorem rising_all : ∀ (r : List Str) (p : Str), risingS p r = true → (p :: r).Pairwise fun a b => ltCps b.cps.toList a.cps.toList = false
  | [], p, _ => List.pairwise_singleton _ _
  | x :: r, p, h => by
    have h : (!ltCps x.cps.toList p.cps.toList && risingS x r) = true := h
    obtain ⟨h1, h2⟩ := Bool.and_eq_true_iff.mp h
    have h1 : ltCps x.cps.toList p.cps.toList = false := by simpa using h1
    have ih := rising_all r x h2
    refine List.pairwise_cons.mpr ⟨fun y hy => ?_, ih⟩
    rcases List.mem_cons.mp hy with rfl | hy
    · exact h1
    · have h3 := (List.pairwise_cons.mp ih).1 y hy
      rw [ltCps_eq, decide_eq_false_iff_not] at h1 h3 ⊢
      exact fun h => h1 (List.lt_of_le_of_lt (List.not_lt.mp h3) h)
theorem sorted_all {ys : List Str} (h : sortedS ys = true) : ys.Pairwise fun a b => ltCps b.cps.toList a.cps.toList = false := by
  cases ys with
  | nil => exact List.Pairwise.nil
  | cons p r => exact rising_all r p h
theorem SortOf.one {xs ys ss : List Str} (h : SortOf xs ss) (k : SortOf ys ss) : xs = ys := by
  refine List.Perm.eq_of_pairwise (fun a b _ _ h k => ?_) (sorted_all h.so) (sorted_all k.so) ((List.perm_ext_iff_of_nodup h.nd k.nd).mpr fun z => (h.mem z).trans (k.mem z).symm)
  rw [ltCps_eq, decide_eq_false_iff_not] at h k
  have q : a.cps.toList = b.cps.toList := List.le_antisymm (List.not_lt.mp h) (List.not_lt.mp k)
  obtain ⟨a⟩ := a
  obtain ⟨b⟩ := b
  exact congrArg Str.mk (Array.toList_inj.mp q)
end Dk

/-! Boxes and the law's model of them. -/
namespace Dk
open PySem PySem.Spec PyProof.Rows L2
structure MbAt (H : Hp) (m A G : Addr) (bx : Bx) : Prop where
  mm : H m = some (.lst [.int bx.n, .int bx.c, .ref A, .ref G])
  es : ∃ ys, H A = some (.lst ys) ∧ Dqs H ys (bx.es.map entD)
  gs : ∃ zs, H G = some (.lst zs) ∧ Dqs H zs (bx.gs.map gonD)
section
variable {H H' : Hp} {m A G : Addr} {bx : Bx} {F F' : List Addr}
theorem MbAt.keep (d : MbAt H m A G bx) (g : Gro H H') (k : ∀ z o, H z = some o → z ∈ [m, A, G] → H' z = some o) : MbAt H' m A G bx := by
  obtain ⟨ys, he, hd⟩ := d.es
  obtain ⟨zs, hg, hz⟩ := d.gs
  exact ⟨k _ _ d.mm (by simp), ⟨ys, k _ _ he (by simp), hd.mono g⟩, ⟨zs, k _ _ hg (by simp), hz.mono g⟩⟩
theorem MbAt.same (s : Same H H') (d : MbAt H m A G bx) : MbAt H' m A G bx := d.keep (Gro.same s) fun z o h _ => s z o h
theorem MbAt.chg (c : Chg F F' H H') (n : Dsj F [m, A, G]) (d : MbAt H m A G bx) : MbAt H' m A G bx := d.keep c.gro fun z o h q => c.kp z o h fun w => n z w q
theorem MbAt.there (d : MbAt H m A G bx) : ∀ z ∈ [m, A, G], ∃ xs, H z = some (.lst xs) := by
  obtain ⟨ys, he, hd⟩ := d.es
  obtain ⟨zs, hg, hz⟩ := d.gs
  intro z q
  simp only [List.mem_cons, List.not_mem_nil, or_false] at q
  rcases q with rfl | rfl | rfl
  · exact ⟨_, d.mm⟩
  · exact ⟨_, he⟩
  · exact ⟨_, hg⟩
theorem MbAt.new_out {a : Addr} (d : MbAt H m A G bx) (n : H a = none) : a ∉ [m, A, G] := fun q => by
  obtain ⟨xs, z⟩ := d.there a q
  rw [n] at z
  cases z
end
/-- what holds of a box between the acts -/
structure InvB (bx : Bx) (N : Nat) : Prop where
  asc : bx.es.Pairwise fun x y => x.n < y.n
  bn : ∀ x ∈ bx.es, x.n ≤ bx.n
  n0 : 0 ≤ bx.n
  nN : bx.n ≤ N
  c0 : 0 ≤ bx.c
  cN : bx.c ≤ N
  le : bx.es.length ≤ N
  lg : bx.gs.length ≤ N
  ok : ∀ x ∈ bx.es, (∀ s ∈ x.ls, Asc s) ∧ ∀ s ∈ x.fs, Asc s
theorem ent_lay {x : Ent} (h : (∀ s ∈ x.ls, Asc s) ∧ ∀ s ∈ x.fs, Asc s) : Lay 2 (entD x) := by
  refine .tup fun d hd => ?_
  simp only [List.mem_cons, List.not_mem_nil, or_false] at hd
  rcases hd with rfl | rfl | rfl | rfl
  · exact .int _
  · exact (Okd.sD (n := 0) h.1).lay
  · exact (Okd.sD (n := 0) h.2).lay
  · exact .int _
theorem InvB.layE {bx : Bx} {N : Nat} (i : InvB bx N) {es : List Ent} (h : ∀ x ∈ es, x ∈ bx.es) : ∀ d ∈ es.map entD, Lay 2 d := fun d hd => by
  obtain ⟨x, hx, rfl⟩ := List.mem_map.mp hd
  exact ent_lay (i.ok x (h x hx))
theorem news_lay {bx : Bx} {N : Nat} (i : InvB bx N) (m : Int) (ns : List Int) : Lay 4 (newsD bx m ns) := by
  refine .tup fun d hd => ?_
  simp only [List.mem_cons, List.not_mem_nil, or_false] at hd
  rcases hd with rfl | rfl | rfl
  · exact .int _
  · exact .tup (i.layE fun x hx => (List.mem_filter.mp hx).1)
  · refine (Lay.tup (n := 0) fun d hd => ?_).le (by omega)
    obtain ⟨n, _, rfl⟩ := List.mem_map.mp hd
    exact .int n
theorem news_at {H : Hp} {v : V} {bx : Bx} {m : Int} {ns : List Int} (h : Dq H v (newsD bx m ns)) : ∃ t a b ys zs, v = .ref t ∧ H t = some (.tup [.int bx.c, .ref a, .ref b]) ∧ H a = some (.tup ys) ∧ H b = some (.tup zs) ∧ Dqs H ys ((newsEs bx m).map entD) ∧ zs = ns.map V.int := by
  cases h with
  | tup ha hs =>
    cases hs with
    | cons h1 hs =>
    cases hs with
    | cons h2 hs =>
    cases hs with
    | cons h3 hs =>
    cases hs
    cases h1
    cases h2 with
    | tup a2 b2 =>
    cases h3 with
    | tup a3 b3 => exact ⟨_, _, _, _, _, rfl, ha, a2, a3, b2, dqs_ints b3⟩
/-! one entry by its number -/
theorem ent_split {es : List Ent} {n : Int} {i : Nat} (as : es.Pairwise fun x y => x.n < y.n) (h : placeM es n = some i) : ∃ l x r, es = l ++ x :: r ∧ l.length = i ∧ x.n = n ∧ (∀ y ∈ l, y.n ≠ n) ∧ ∀ y ∈ r, y.n ≠ n := by
  obtain ⟨x, hx, en, hl⟩ := place_at h
  have e1 : es = es.take i ++ x :: es.drop (i + 1) := by
    have e2 : es.drop i = x :: es.drop (i + 1) := by
      rw [List.drop_eq_getElem_cons hl, (List.getElem?_eq_some_iff.mp hx).2]
    rw [← e2, List.take_append_drop]
  rw [e1] at as
  obtain ⟨_, a2, a3⟩ := List.pairwise_append.mp as
  obtain ⟨a4, _⟩ := List.pairwise_cons.mp a2
  refine ⟨es.take i, x, es.drop (i + 1), e1, by rw [List.length_take]; omega, en, fun y hy z => ?_, fun y hy z => ?_⟩
  · have := a3 y hy x List.mem_cons_self
    omega
  · have := a4 y hy
    omega
theorem filter_ne {es : List Ent} {n : Int} (h : ∀ y ∈ es, y.n ≠ n) : es.filter (fun y => decide (y.n = n)) = [] := List.filter_eq_nil_iff.mpr fun y hy => by
  rw [decide_eq_true_eq]
  exact h y hy
theorem filter_all {es : List Ent} {n : Int} (h : ∀ y ∈ es, y.n ≠ n) : es.filter (fun y => !decide (y.n = n)) = es := List.filter_eq_self.mpr fun y hy => by
  rw [decide_eq_false (h y hy)] <;> rfl
theorem there_some {es : List Ent} {n : Int} {i : Nat} (as : es.Pairwise fun x y => x.n < y.n) (h : placeM es n = some i) : (es.filter fun y => decide (y.n = n)).length = 1 := by
  obtain ⟨l, x, r, rfl, _, en, hl, hr⟩ := ent_split as h
  rw [List.filter_append, filter_ne hl, List.filter_cons, filter_ne hr, decide_eq_true en] <;> rfl
theorem rest_some {es : List Ent} {n : Int} {i : Nat} (as : es.Pairwise fun x y => x.n < y.n) (h : placeM es n = some i) : (es.filter fun y => !decide (y.n = n)) = es.eraseIdx i := by
  obtain ⟨l, x, r, rfl, rfl, en, hl, hr⟩ := ent_split as h
  rw [List.filter_append, filter_all hl, List.filter_cons, filter_all hr, decide_eq_true en, List.eraseIdx_append_of_length_le (Nat.le_refl _), Nat.sub_self] <;> rfl
theorem set_some {es : List Ent} {n : Int} {i : Nat} (as : es.Pairwise fun x y => x.n < y.n) (h : placeM es n = some i) (f : Ent → Ent) : (es.map fun y => if y.n = n then f y else y) = es.set i (f ((es[i]?).getD ⟨0, [], [], 0⟩)) := by
  obtain ⟨l, x, r, rfl, rfl, en, hl, hr⟩ := ent_split as h
  have id1 : ∀ zs : List Ent, (∀ y ∈ zs, y.n ≠ n) → (zs.map fun y => if y.n = n then f y else y) = zs := fun zs hz => by
    have q : (zs.map fun y => if y.n = n then f y else y) = zs.map id := List.map_congr_left fun y hy => if_neg (hz y hy)
    rw [q, List.map_id]
  rw [List.map_append, List.map_cons, id1 l hl, id1 r hr, if_pos en, List.getElem?_append_right (Nat.le_refl _), Nat.sub_self, List.set_append_right _ _ (Nat.le_refl _), Nat.sub_self] <;> rfl
/-! the invariant goes on -/
theorem InvB.dlv {bx : Bx} {N : Nat} (i : InvB bx N) {ls : List Str} (h : ∀ s ∈ ls, Asc s) : InvB (bx.dlv ls) (N + 1) := by
  refine ⟨?_, fun x hx => ?_, ?_, ?_, ?_, ?_, ?_, ?_, fun x hx => ?_⟩
  · refine List.pairwise_append.mpr ⟨i.asc, List.pairwise_singleton _ _, fun x hx y hy => ?_⟩
    rw [List.mem_singleton.mp hy]
    have := i.bn x hx
    show x.n < bx.n + 1
    omega
  · show x.n ≤ bx.n + 1
    rcases List.mem_append.mp hx with hx | hx
    · have := i.bn x hx
      omega
    · rw [List.mem_singleton.mp hx]
      exact Int.le_refl _
  · have := i.n0
    show 0 ≤ bx.n + 1
    omega
  · have := i.nN
    show bx.n + 1 ≤ _
    omega
  · have := i.c0
    show 0 ≤ bx.c + 1
    omega
  · have := i.cN
    show bx.c + 1 ≤ _
    omega
  · have := i.le
    show (bx.es ++ _).length ≤ _
    rw [List.length_append]
    show _ + 1 ≤ _
    omega
  · have := i.lg
    show bx.gs.length ≤ _
    omega
  · rcases List.mem_append.mp hx with hx | hx
    · exact i.ok x hx
    · rw [List.mem_singleton.mp hx]
      exact ⟨h, fun s hs => absurd hs List.not_mem_nil⟩
theorem asc_set {es : List Ent} {i : Nat} {x y : Ent} (h : es.Pairwise fun x y => x.n < y.n) (hx : es[i]? = some x) (e : y.n = x.n) : (es.set i y).Pairwise fun x y => x.n < y.n := by
  have hm : (es.set i y).map (·.n) = es.map (·.n) := by
    rw [map_setG]
    refine List.ext_getElem? fun j => ?_
    rw [List.getElem?_set]
    split
    · rename_i ej
      subst ej
      split
      · rw [List.getElem?_map, hx, e] <;> rfl
      · rename_i hl
        rw [List.getElem?_eq_none (by omega)]
    · rfl
  have h1 : (es.map (·.n)).Pairwise (· < ·) := List.pairwise_map.mpr h
  rw [← hm] at h1
  exact List.pairwise_map.mp h1
theorem InvB.flag {bx : Bx} {N : Nat} (i : InvB bx N) {j : Nat} {n : Int} {fs : List Str} (hp : placeM bx.es n = some j) (h : ∀ s ∈ fs, Asc s) : InvB (bx.flag j n fs) (N + 1) := by
  obtain ⟨y, hy, en, hl⟩ := place_at hp
  have hym := List.mem_of_getElem? hy
  have mem : ∀ x ∈ bx.es.set j ⟨n, (bx.es[j]?.map (·.ls)).getD [], fs, bx.c + 1⟩, x ∈ bx.es ∨ x = ⟨n, y.ls, fs, bx.c + 1⟩ := fun x hx => by
    rw [hy] at hx
    exact List.mem_or_eq_of_mem_set hx
  refine ⟨asc_set i.asc hy en.symm, fun x hx => ?_, i.n0, ?_, ?_, ?_, ?_, ?_, fun x hx => ?_⟩
  · show x.n ≤ bx.n
    rcases mem x hx with hx | rfl
    · exact i.bn x hx
    · have := i.bn y hym
      show n ≤ bx.n
      omega
  · have := i.nN
    show bx.n ≤ _
    omega
  · have := i.c0
    show 0 ≤ bx.c + 1
    omega
  · have := i.cN
    show bx.c + 1 ≤ _
    omega
  · have := i.le
    show (bx.es.set _ _).length ≤ _
    rw [List.length_set]
    omega
  · have := i.lg
    show bx.gs.length ≤ _
    omega
  · rcases mem x hx with hx | rfl
    · exact i.ok x hx
    · exact ⟨(i.ok y hym).1, h⟩
theorem InvB.cut {bx : Bx} {N : Nat} (i : InvB bx N) (j : Nat) (n : Int) : InvB (bx.cut j n) (N + 1) := by
  have sub : (bx.es.eraseIdx j).Sublist bx.es := List.eraseIdx_sublist _ _
  refine ⟨i.asc.sublist sub, fun x hx => i.bn x (sub.subset hx), i.n0, ?_, ?_, ?_, ?_, ?_, fun x hx => i.ok x (sub.subset hx)⟩
  · have := i.nN
    show bx.n ≤ _
    omega
  · have := i.c0
    show 0 ≤ bx.c + 1
    omega
  · have := i.cN
    show bx.c + 1 ≤ _
    omega
  · have h1 := sub.length_le
    have := i.le
    show (bx.es.eraseIdx j).length ≤ _
    omega
  · have := i.lg
    show (bx.gs ++ _).length ≤ _
    rw [List.length_append]
    show _ + 1 ≤ _
    omega
theorem InvB.le' {bx : Bx} {N M : Nat} (i : InvB bx N) (h : N ≤ M) : InvB bx M := by
  obtain ⟨a1, a2, a3, a4, a5, a6, a7, a8, a9⟩ := i
  exact ⟨a1, a2, a3, by omega, a5, by omega, by omega, by omega, a9⟩
theorem InvB.zero : InvB ⟨0, 0, [], []⟩ 0 := ⟨List.Pairwise.nil, (fun _ h => absurd h List.not_mem_nil), Int.le_refl _, Int.le_refl _, Int.le_refl _, Int.le_refl _, Nat.le_refl _, Nat.le_refl _, fun _ h => absurd h List.not_mem_nil⟩
end Dk

/-! Addresses: what the program's tests tell, on lists of codes. -/
namespace Dk
open PySem PySem.Spec PyProof.Rows L2 TL
theorem occ_one (c : Nat) (s : Str) : occ ⟨#[c]⟩ s = decide (c ∈ tl s) := StrLaws.found_one s c
theorem tl_inj {a b : Str} (h : tl a = tl b) : a = b := by
  obtain ⟨x⟩ := a
  obtain ⟨y⟩ := b
  have h : x.toList = y.toList := h
  rw [Array.toList_inj.mp h]
/-! ### case -/
def lowC (c : Nat) : Nat := if 65 ≤ c ∧ c ≤ 90 then c + 32 else c
def upC (c : Nat) : Nat := if 97 ≤ c ∧ c ≤ 122 then c - 32 else c
theorem low_ascii : ∀ c < 128, Unicode.lowerOf c = [lowC c] := by decide +kernel
theorem up_ascii : ∀ c < 128, Unicode.upperOf c = [upC c] := by decide +kernel
theorem low_up : ∀ c < 128, lowC (upC c) = lowC c := by decide +kernel
theorem placed_map {x : Str} {f : Nat → Nat → List Nat} {g : Nat → Nat} (h : ∀ i c, (tl x)[i]? = some c → f i c = [g c]) : (placed x f).toList = (tl x).map g := by
  unfold placed
  rw [Array.toList_flatten, Array.toList_mapIdx]
  have key : ∀ (l : List Nat) (k : Nat), (∀ i c, l[i]? = some c → f (k + i) c = [g c]) → ((l.mapIdx fun i c => (f (k + i) c).toArray).map Array.toList).flatten = l.map g := by
    intro l
    induction l with
    | nil => intro k _; rfl
    | cons c r ih =>
      intro k h
      have h0 := h 0 c rfl
      have hr := ih (k + 1) fun i d e => by
        have := h (i + 1) d (by simpa using e)
        rw [show k + 1 + i = k + (i + 1) by omega]
        exact this
      rw [List.mapIdx_cons, List.map_cons, List.flatten_cons, List.map_cons]
      have e : (fun i c => (f (k + (i + 1)) c).toArray) = fun i c => (f (k + 1 + i) c).toArray := by
        funext i c
        rw [show k + 1 + i = k + (i + 1) by omega]
      rw [e, hr, Nat.add_zero] at *
      rw [h0]
      rfl
  have k0 := key (tl x) 0 fun i c e => by
    rw [Nat.zero_add]
    exact h i c e
  simp only [Nat.zero_add] at k0
  exact k0
theorem tl_lower {x : Str} (h : ∀ c ∈ tl x, c < 128) : tl (Txt.lower x) = (tl x).map lowC := by
  refine placed_map fun i c e => ?_
  have hc := h c (List.mem_of_getElem? e)
  show Unicode.lowerAt x.cps i = _
  unfold Unicode.lowerAt
  have e2 : x.cps[i]? = some c := by rw [← Array.getElem?_toList]; exact e
  rw [e2]
  have n : (c == 0x3A3) = false := by
    rw [beq_eq_false_iff_ne]
    omega
  show (if (c == 0x3A3 && _) = true then _ else _) = _
  rw [n, Bool.false_and, if_neg Bool.false_ne_true]
  exact low_ascii c hc
theorem upper_one {c : Nat} (h : c < 128) : Txt.upper ⟨#[c]⟩ = ⟨#[upC c]⟩ := by
  have e := placed_map (x := ⟨#[c]⟩) (f := fun _ c => Unicode.upperOf c) (g := upC) fun i d e => by
    have : d = c := by
      have := List.mem_of_getElem? e
      simpa [tl] using this
    rw [this]
    exact up_ascii c h
  exact tl_inj e
theorem join_chars (zs : List Nat) : tl (Txt.join (Str.ofString "") (zs.map fun c => (⟨#[c]⟩ : Str))) = zs := by
  rw [tl_join0, List.map_map]
  induction zs with
  | nil => rfl
  | cons c r ih => rw [List.map_cons, List.flatten_cons, ih] <;> rfl
/-! ### first, last sign -/
theorem starts_one (s : Str) (c : Nat) : Txt.startswith s ⟨#[c]⟩ = decide ((tl s).head? = some c) := by
  rw [starts_iff]
  have e : tl (⟨#[c]⟩ : Str) = [c] := rfl
  rw [e]
  cases h : tl s with
  | nil => simp
  | cons d r =>
    by_cases q : d = c
    · simp [q]
    · have : ¬ (d :: r).head? = some c := by simpa using q
      rw [decide_eq_false this]
      simpa using q
theorem ends_one (s : Str) (c : Nat) : Txt.endswith s ⟨#[c]⟩ = decide ((tl s).getLast? = some c) := by
  unfold Txt.endswith
  have e1 : (⟨#[c]⟩ : Str).length = 1 := rfl
  have hl := len_tl s
  rw [e1, StrLaws.subAt_eq, e1]
  have e2 : (⟨#[c]⟩ : Str).cps.toList = [c] := rfl
  rw [e2]
  show (decide (1 ≤ s.length) && ((tl s).drop (s.length - 1)).take 1 == [c]) = _
  rw [List.getLast?_eq_getElem?, Bool.eq_iff_iff, Bool.and_eq_true, decide_eq_true_iff, decide_eq_true_iff, StrLaws.take1_drop, hl]
  constructor
  · exact fun h => h.2
  · intro h
    exact ⟨by have := (List.getElem?_eq_some_iff.mp h).1; omega, h⟩
/-! ### two dots -/
def dd : List Nat → Bool
  | [] => false
  | c :: r => (decide (c = 46) && decide (r.head? = some 46)) || dd r
theorem dd_iff : ∀ l : List Nat, dd l = true ↔ ∃ i : Nat, l[i]? = some 46 ∧ l[i + 1]? = some 46
  | [] => by simp [dd]
  | c :: r => by
    unfold dd
    rw [Bool.or_eq_true, Bool.and_eq_true, decide_eq_true_iff, decide_eq_true_iff, dd_iff r]
    constructor
    · rintro (⟨h1, h2⟩ | ⟨i, h1, h2⟩)
      · refine ⟨0, by simp [h1], ?_⟩
        rw [List.head?_eq_getElem?] at h2
        simpa using h2
      · exact ⟨i + 1, by simpa using h1, by simpa using h2⟩
    · rintro ⟨i, h1, h2⟩
      cases i with
      | zero =>
        left
        refine ⟨by simpa using h1, ?_⟩
        rw [List.head?_eq_getElem?]
        simpa using h2
      | succ i => exact .inr ⟨i, by simpa using h1, by simpa using h2⟩
theorem take2_drop {l : List Nat} {i : Nat} : ((l.drop i).take 2 == [46, 46]) = true ↔ l[i]? = some 46 ∧ l[i + 1]? = some 46 := by
  have e0 : (l.drop i)[0]? = l[i]? := by rw [List.getElem?_drop, Nat.add_zero]
  have e1 : (l.drop i)[1]? = l[i + 1]? := by rw [List.getElem?_drop]
  rw [← e0, ← e1, beq_iff_eq]
  cases l.drop i with
  | nil => simp
  | cons a r =>
    cases r with
    | nil => simp
    | cons b r => simp
theorem ddS_eq : Str.ofString ".." = ⟨#[46, 46]⟩ := by decide +kernel
theorem occ_dd (t : Str) : occ (Str.ofString "..") t = dd (tl t) := by
  rw [ddS_eq, Bool.eq_iff_iff, dd_iff]
  unfold occ
  rw [StrLaws.found_iff]
  have hl := len_tl t
  have e : (⟨#[46, 46]⟩ : Str).length = 2 := rfl
  constructor
  · rintro ⟨i, h1, h2⟩
    rw [StrLaws.subAt_eq, e] at h2
    exact ⟨i, take2_drop.mp h2⟩
  · rintro ⟨i, h⟩
    have hi := (List.getElem?_eq_some_iff.mp h.2).1
    refine ⟨i, by rw [e]; omega, ?_⟩
    rw [StrLaws.subAt_eq, e]
    exact take2_drop.mpr h
theorem okL_eq {S : List Nat} (hS : 46 ∉ S) : ∀ (l : List Nat) (p : Bool), okL S p l = (l.all (fun c => decide (c ∈ 46 :: S)) && (!(p && decide (l.head? = some 46)) && !dd l))
  | [], p => by cases p <;> rfl
  | c :: r, p => by
    unfold okL dd
    rw [List.all_cons, List.head?_cons]
    by_cases e : c = 46
    · subst e
      rw [if_pos rfl, okL_eq hS r true]
      have e1 : decide (46 ∈ 46 :: S) = true := decide_eq_true List.mem_cons_self
      have e2 : decide (some (46 : Nat) = some 46) = true := decide_eq_true rfl
      have e3 : decide ((46 : Nat) = 46) = true := decide_eq_true rfl
      rw [e1, e2, e3]
      cases p <;> cases (r.all fun c => decide (c ∈ 46 :: S)) <;> cases decide (r.head? = some 46) <;> cases dd r <;> rfl
    · rw [if_neg e, okL_eq hS r false]
      have e1 : decide (c ∈ 46 :: S) = decide (c ∈ S) := by
        rw [Bool.eq_iff_iff, decide_eq_true_iff, decide_eq_true_iff, List.mem_cons]
        exact ⟨fun h => h.resolve_left e, .inr⟩
      have e2 : decide (some c = some 46) = false := decide_eq_false fun h => e (Option.some.inj h)
      rw [e1, e2, decide_eq_false e]
      cases p <;> cases decide (c ∈ S) <;> cases (r.all fun c => decide (c ∈ 46 :: S)) <;> cases decide (r.head? = some 46) <;> cases dd r <;> rfl
/-! ### local parts, labels, domains -/
abbrev locS : Str := Str.ofString "abcdefghijklmnopqrstuvwxyz0123456789.-_+"
abbrev labS : Str := Str.ofString "abcdefghijklmnopqrstuvwxyz0123456789-"
theorem locS_mem (c : Nat) : c ∈ tl locS ↔ c ∈ 46 :: tl lEnds := by
  have h1 : ∀ c ∈ tl locS, c ∈ 46 :: tl lEnds := by decide +kernel
  have h2 : ∀ c ∈ 46 :: tl lEnds, c ∈ tl locS := by decide +kernel
  exact ⟨h1 c, h2 c⟩
theorem labS_mem (c : Nat) : c ∈ tl labS ↔ c ∈ 45 :: tl dEnds := by
  have h1 : ∀ c ∈ tl labS, c ∈ 45 :: tl dEnds := by decide +kernel
  have h2 : ∀ c ∈ 45 :: tl dEnds, c ∈ tl labS := by decide +kernel
  exact ⟨h1 c, h2 c⟩
def locB (l : List Nat) : Bool := decide (1 ≤ l.length) && decide (l.length ≤ 40) && l.all (fun c => decide (c ∈ tl locS)) && !decide (l.head? = some 46) && !decide (l.getLast? = some 46) && !dd l
def labB (l : List Nat) : Bool := decide (1 ≤ l.length) && decide (l.length ≤ 20) && l.all (fun c => decide (c ∈ tl labS)) && !decide (l.head? = some 45) && !decide (l.getLast? = some 45)
def domB (t : Str) : Bool := decide (t.length ≤ 80) && (Txt.split t (Str.ofString ".")).all fun p => labB (tl p)
theorem Loc1.b {l : List Nat} (h : Loc1 (tl lEnds) l) : locB l = true := by
  have ok := h.ok
  rw [okL_eq lEnds_dot, Bool.and_eq_true, Bool.and_eq_true, Bool.true_and] at ok
  obtain ⟨h1, h2, h3⟩ := ok
  unfold locB
  have e : l.all (fun c => decide (c ∈ tl locS)) = true := by
    rw [List.all_eq_true] at h1 ⊢
    exact fun c hc => decide_eq_true ((locS_mem c).mpr (of_decide_eq_true (h1 c hc)))
  rw [decide_eq_true h.lo, decide_eq_true h.hi, e, h2, decide_eq_false h.last, h3] <;> rfl
theorem Lab.b {l : List Nat} (h : Lab l) : labB l = true := by
  unfold labB
  have e : l.all (fun c => decide (c ∈ tl labS)) = true := by
    rw [List.all_eq_true]
    exact fun c hc => decide_eq_true ((labS_mem c).mpr (h.sg c hc))
  rw [decide_eq_true (Nat.le_trans (by decide) h.lo), decide_eq_true (Nat.le_trans h.hi (by decide)), e, decide_eq_false h.fst, decide_eq_false h.lst] <;> rfl
theorem hy_eq : Str.ofString "-" = ⟨#[45]⟩ := by decide +kernel
theorem lt_eq : Str.ofString "<" = ⟨#[60]⟩ := by decide +kernel
theorem gt_eq : Str.ofString ">" = ⟨#[62]⟩ := by decide +kernel
theorem starts_dotA (s : Str) : Txt.startswith s (Str.ofString ".") = decide ((tl s).head? = some 46) := by rw [dot_eq, starts_one]
theorem ends_dotA (s : Str) : Txt.endswith s (Str.ofString ".") = decide ((tl s).getLast? = some 46) := by rw [dot_eq, ends_one]
theorem starts_hyA (s : Str) : Txt.startswith s (Str.ofString "-") = decide ((tl s).head? = some 45) := by rw [hy_eq, starts_one]
theorem ends_hyA (s : Str) : Txt.endswith s (Str.ofString "-") = decide ((tl s).getLast? = some 45) := by rw [hy_eq, ends_one]
theorem starts_lt (s : Str) : Txt.startswith s (Str.ofString "<") = decide ((tl s).head? = some 60) := by rw [lt_eq, starts_one]
theorem ends_gt (s : Str) : Txt.endswith s (Str.ofString ">") = decide ((tl s).getLast? = some 62) := by rw [gt_eq, ends_one]
theorem e_iff (t : Str) : t = Str.ofString "" ↔ t.length = 0 := by
  constructor
  · intro h
    rw [h]
    decide +kernel
  · intro h
    refine tl_inj ?_
    have e : tl (Str.ofString "") = [] := by decide +kernel
    rw [e]
    rw [len_tl] at h
    exact List.length_eq_zero_iff.mp h
/-! ### splits at one sign -/
theorem split_one (t : Str) (c : Nat) (hc : c < 128) : (Txt.split t ⟨#[c]⟩).map tl = spl [c] 0 [] (tl t) := by
  refine split_spl t ⟨#[c]⟩ (by show [c] ≠ []; simp) ?_
  have e : Builtin.Str.strKind (⟨#[c]⟩ : Str) = 1 := by
    unfold Builtin.Str.strKind
    have : (⟨#[c]⟩ : Str).cps.all (· < 256) = true := by
      show (#[c] : Array Nat).all (· < 256) = true
      simp
      omega
    rw [if_pos this]
  rw [e]
  have : 1 ≤ Builtin.Str.strKind t := by
    unfold Builtin.Str.strKind
    repeat' split
    all_goals decide
  omega
theorem spl_free {c : Nat} : ∀ {l acc : List Nat}, c ∉ l → spl [c] 0 acc l = [acc ++ l]
  | [], acc, _ => by simp [spl]
  | d :: r, acc, h => by
    have hd : ¬ d = c := fun e => h (e ▸ List.mem_cons_self)
    have hp : ¬ pre [c] (d :: r) = true := by
      unfold pre
      simp [hd]
    rw [spl, if_neg hp, spl_free (fun z => h (List.mem_cons_of_mem _ z))]
    simp
theorem spl_cons {c : Nat} {r : List Nat} : ∀ {l acc : List Nat}, c ∉ l → spl [c] 0 acc (l ++ c :: r) = (acc ++ l) :: spl [c] 0 [] r
  | [], acc, _ => by
    have hp : pre [c] (c :: r) = true := by
      unfold pre
      simp
    rw [List.nil_append, spl, if_pos hp, List.append_nil] <;> rfl
  | d :: l, acc, h => by
    have hd : ¬ d = c := fun e => h (e ▸ List.mem_cons_self)
    have hp : ¬ pre [c] (d :: (l ++ c :: r)) = true := by
      unfold pre
      simp [hd]
    rw [List.cons_append, spl, if_neg hp, spl_cons (fun z => h (List.mem_cons_of_mem _ z))]
    simp
theorem spl_join {c : Nat} : ∀ {ls : List (List Nat)}, ls ≠ [] → (∀ w ∈ ls, c ∉ w) → spl [c] 0 [] (joinL [c] ls) = ls
  | [], h, _ => absurd rfl h
  | [w], _, h => by
    show spl [c] 0 [] w = [w]
    rw [spl_free (h w List.mem_cons_self), List.nil_append]
  | w :: v :: r, _, h => by
    show spl [c] 0 [] (w ++ ([c] ++ joinL [c] (v :: r))) = w :: v :: r
    rw [List.singleton_append, spl_cons (h w List.mem_cons_self), List.nil_append, spl_join (by simp) fun w hw => h w (List.mem_cons_of_mem _ hw)]
theorem Dom.split {t : Str} (h : Dom (tl t)) : ∃ ls : List (List Nat), (Txt.split t (Str.ofString ".")).map tl = ls ∧ ∀ w ∈ ls, Lab w := by
  obtain ⟨ls, e, h1, h2, h3⟩ := h.ex
  refine ⟨ls, ?_, h3⟩
  rw [dot_eq, split_one t 46 (by decide), e]
  refine spl_join (by intro z; rw [z] at h1; simp at h1) fun w hw z => ?_
  have : ¬ (46 : Nat) ∈ 45 :: tl dEnds := by decide +kernel
  exact this ((h3 w hw).sg 46 z)
theorem all_tl {ss : List Str} {p : List Nat → Bool} : (ss.all fun s => p (tl s)) = (ss.map tl).all p := by
  rw [List.all_map]
  rfl
theorem Dom.b {t : Str} (h : Dom (tl t)) : domB t = true := by
  obtain ⟨ls, e, hl⟩ := h.split
  unfold domB
  rw [all_tl, e, decide_eq_true (Nat.le_trans h.len (by decide)), Bool.true_and, List.all_eq_true]
  exact fun w hw => (hl w hw).b
/-- a dot at the end -/
theorem dom_dot (t : Str) : domB (t ++ Str.ofString ".") = false := by
  have key : ∀ l acc : List Nat, [] ∈ spl [46] 0 acc (l ++ [46]) := by
    intro l
    induction l with
    | nil =>
      intro acc
      show [] ∈ spl [46] 0 acc ([] ++ 46 :: [])
      rw [spl_cons (by simp)]
      simp [spl]
    | cons d r ih =>
      intro acc
      rw [List.cons_append, spl]
      split
      · rename_i hp
        exact List.mem_cons_of_mem _ (ih _)
      · exact ih _
  unfold domB
  rw [Bool.and_eq_false_iff]
  right
  rw [all_tl, dot_eq, split_one _ 46 (by decide), tl_append, List.all_eq_false]
  exact ⟨[], key _ _, by decide⟩
/-! ### addresses -/
def addrP : List Str → Option (Str × Str)
  | [a, b] => if (locB (tl a) && domB b) = true then some (a, b) else none
  | _ => none
def addrM (t : Str) : Option (Str × Str) := addrP (Txt.split (Txt.lower t) (Str.ofString "@"))
theorem addrP_ne {ps : List Str} (h : ps.length ≠ 2) : addrP ps = none := by
  match ps, h with
  | [], _ => rfl
  | [_], _ => rfl
  | [_, _], h => exact absurd rfl h
  | _ :: _ :: _ :: _, _ => rfl
theorem two_of {ps : List Str} (h : ps.length = 2) : ∃ a b, ps = [a, b] := by
  match ps, h with
  | [a, b], _ => exact ⟨a, b, rfl⟩
theorem lowC_id {l : List Nat} (h : ∀ c ∈ l, ¬ (65 ≤ c ∧ c ≤ 90)) : l.map lowC = l := by
  induction l with
  | nil => rfl
  | cons c r ih =>
    rw [List.map_cons, ih fun c hc => h c (List.mem_cons_of_mem _ hc)]
    unfold lowC
    rw [if_neg (h c List.mem_cons_self)]
theorem at_eq : Str.ofString "@" = ⟨#[64]⟩ := by decide +kernel
theorem Loc1.sg {l : List Nat} (h : Loc1 (tl lEnds) l) : ∀ c ∈ l, c ∈ tl locS := fun c hc => by
  have ok := h.ok
  rw [okL_eq lEnds_dot, Bool.and_eq_true] at ok
  exact (locS_mem c).mpr (of_decide_eq_true (List.all_eq_true.mp ok.1 c hc))
theorem joinL_memA {S : List Nat} {c : Nat} : ∀ {ls : List (List Nat)}, c ∈ joinL S ls → c ∈ S ∨ ∃ w ∈ ls, c ∈ w
  | [], h => by simp [joinL] at h
  | [w], h => .inr ⟨w, List.mem_cons_self, h⟩
  | w :: v :: r, h => by
    have h : c ∈ w ++ (S ++ joinL S (v :: r)) := h
    rcases List.mem_append.mp h with h | h
    · exact .inr ⟨w, List.mem_cons_self, h⟩
    · rcases List.mem_append.mp h with h | h
      · exact .inl h
      · rcases joinL_memA h with h | ⟨u, hu, h⟩
        · exact .inl h
        · exact .inr ⟨u, List.mem_cons_of_mem _ hu, h⟩
theorem Dom.sg {l : List Nat} (h : Dom l) : ∀ c ∈ l, c ∈ 46 :: tl labS := fun c hc => by
  obtain ⟨ls, e, _, _, h3⟩ := h.ex
  rw [e] at hc
  rcases joinL_memA hc with h | ⟨w, hw, h⟩
  · rw [List.mem_singleton.mp h]
    exact List.mem_cons_self
  · exact List.mem_cons_of_mem _ ((labS_mem c).mpr ((h3 w hw).sg c h))
/-- written: the local part, at, the domain -/
abbrev wrA (a b : Str) : Str := (a ++ Str.ofString "@") ++ b
theorem tl_wrA (a b : Str) : tl (wrA a b) = tl a ++ 64 :: tl b := by
  show tl ((a ++ Str.ofString "@") ++ b) = _
  rw [tl_append, tl_append, at_eq, List.append_assoc] <;> rfl
theorem wrA_ascii {a b : Str} (ha : Loc1 (tl lEnds) (tl a)) (hb : Dom (tl b)) : ∀ c ∈ tl (wrA a b), c < 128 ∧ ¬ (65 ≤ c ∧ c ≤ 90) := fun c hc => by
  have k1 : ∀ c ∈ tl locS, c < 128 ∧ ¬ (65 ≤ c ∧ c ≤ 90) := by decide +kernel
  have k2 : ∀ c ∈ 46 :: tl labS, c < 128 ∧ ¬ (65 ≤ c ∧ c ≤ 90) := by decide +kernel
  rw [tl_wrA] at hc
  rcases List.mem_append.mp hc with h | h
  · exact k1 c (ha.sg c h)
  · rcases List.mem_cons.mp h with h | h
    · rw [h]
      decide
    · exact k2 c (hb.sg c h)
theorem addr_of {a b z : Str} (ha : Loc1 (tl lEnds) (tl a)) (hb : Dom (tl b)) (hz : ∀ c ∈ tl z, c < 128) (e : (tl z).map lowC = tl (wrA a b)) : addrM z = some (a, b) := by
  have n1 : (64 : Nat) ∉ tl a := fun h => by
    have k : (64 : Nat) ∉ tl locS := by decide +kernel
    exact k (ha.sg 64 h)
  have n2 : (64 : Nat) ∉ tl b := fun h => by
    have k : (64 : Nat) ∉ 46 :: tl labS := by decide +kernel
    exact k (hb.sg 64 h)
  have s : (Txt.split (Txt.lower z) (Str.ofString "@")).map tl = [tl a, tl b] := by
    rw [at_eq, split_one _ 64 (by decide), tl_lower hz, e, tl_wrA, spl_cons n1, List.nil_append, spl_free n2, List.nil_append]
  unfold addrM
  generalize Txt.split (Txt.lower z) (Str.ofString "@") = ps at s
  have key : ∃ p q, ps = [p, q] ∧ tl p = tl a ∧ tl q = tl b := by
    cases ps with
    | nil => cases s
    | cons p r =>
      cases r with
      | nil => simp at s
      | cons q r =>
        cases r with
        | nil =>
          simp only [List.map_cons, List.map_nil, List.cons.injEq, and_true] at s
          exact ⟨p, q, rfl, s.1, s.2⟩
        | cons u r => simp at s
  obtain ⟨p, q, rfl, e1, e2⟩ := key
  have e1 : p = a := tl_inj e1
  have e2 : q = b := tl_inj e2
  subst e1 e2
  show (if (locB (tl p) && domB q) = true then some (p, q) else none) = _
  rw [ha.b, hb.b] <;> rfl
/-! ### paths -/
def pathM (t : Str) : Option (Option (Str × Str)) :=
  if (tl t).head? = some 60 ∧ (tl t).getLast? = some 62 ∧ 2 ≤ t.length then (if t = Str.ofString "<>" then some none else (addrM (cutS t (some 1) (some ((t.length : Int) - 1)))).map some) else none
/-! ### s.index(t) where t is in s -/
def uIndex : V → List V → Hp → VK → Prop := fun x xs H Q => match x, xs with
  | .str a, [.str b] => ∃ k, Txt.index0 a b = some k ∧ Q (.int (k : Nat)) H
  | _, _ => False
theorem mt_indexU {X : Cx} : MtR X "str.index" uIndex := by
  intro pins s σ H x xs v us Q I rx rs h
  match x, xs, h with
  | .str a, [.str b], ⟨k, hk, hq⟩ =>
    obtain ⟨t, rfl⟩ := rx
    cases rs with
    | cons r1 rs =>
      cases rs
      obtain ⟨u, rfl⟩ := r1
      cases q : Builtin.Str.occurrences a b 0 a.length 1 with
      | nil =>
        unfold Txt.index0 at hk
        rw [q] at hk
        cases hk
      | cons j rest =>
        unfold Txt.index0 at hk
        rw [q] at hk
        have e : j = k := Option.some.inj hk
        subst e
        exact PySem.SC.index q ⟨.int (j : Nat), H, I.tok _, ⟨_, rfl⟩, hq⟩
theorem r_index {H : Hp} {Q : VK} {a b : Str} {k : Nat} (h : Txt.index0 a b = some k) (q : Q (.int (k : Nat)) H) : uIndex (.str a) [.str b] H Q := ⟨k, h, q⟩
abbrev upS : Str := Str.ofString "ABCDEFGHIJKLMNOPQRSTUVWXYZ"
abbrev loS : Str := Str.ofString "abcdefghijklmnopqrstuvwxyz"
theorem idx_up : ∀ c ∈ tl upS, Txt.index0 upS ⟨#[c]⟩ = some (c - 65) ∧ atI loS.cps.toList ((c - 65 : Nat) : Int) = some (lowC c) := by decide +kernel
theorem up_mem : ∀ c < 128, c ∉ tl upS → lowC c = c := by decide +kernel
theorem idx_lt : ∀ c ∈ tl upS, c - 65 < 26 := by decide +kernel
/-! ### the first, the last sign of a text -/
theorem one_eq {c d : Nat} : ((⟨#[c]⟩ : Str) = ⟨#[d]⟩) ↔ c = d := by
  constructor
  · intro h
    have := congrArg tl h
    simpa [tl] using this
  · intro h
    rw [h]
theorem at_one {t : Str} {i : Nat} (h : i < t.length) : ∃ c, atI t.cps.toList (i : Int) = some c ∧ (tl t)[i]? = some c := by
  have hl := len_tl t
  have hi : i < (tl t).length := by omega
  exact ⟨(tl t)[i], atI_nn (List.getElem?_eq_getElem hi), List.getElem?_eq_getElem hi⟩
theorem r_ixA {K : PySem.W.Frag} {z : Str} {i : Int} {c : Nat} {H : Hp} {Q : VK} (hl : z.length ≤ sizeLine) (h : atI z.cps.toList i = some c) (q : Q (.str ⟨#[c]⟩) H) : uIx K (.str z) (.int i) H Q := ⟨c, hl, h, q⟩
theorem Dqs.bools_of {H : Hp} : ∀ {bs : List Bool} {vs : List V}, Dqs H vs (bs.map PyData.bool) → vs = bs.map V.bl
  | [], _, h => by cases h; rfl
  | b :: bs, _, h => by
    cases h with
    | cons h1 h2 =>
      cases h1
      rw [Dqs.bools_of h2] <;> rfl
theorem fold_appA : ∀ (xs : List (Array Nat)) (i : Array Nat), (xs.foldl (· ++ ·) i).toList = i.toList ++ (xs.map Array.toList).flatten
  | [], i => by simp
  | x :: xs, i => by
    rw [List.foldl_cons, fold_appA xs]
    simp
theorem flat_repA (n : Nat) (l : List Nat) : (List.replicate n l).flatten.length = n * l.length ∧ ∀ c ∈ (List.replicate n l).flatten, c ∈ l := by
  refine ⟨by simp, fun c hc => ?_⟩
  obtain ⟨m, hm, hc⟩ := List.mem_flatten.mp hc
  rw [(List.mem_replicate.mp hm).2] at hc
  exact hc
theorem mul_factsA {z : Str} {n : Int} (h0 : 0 < n) : (Txt.mul z n).length ≤ n.toNat * z.length ∧ ∀ c ∈ tl (Txt.mul z n), c ∈ tl z := by
  unfold Txt.mul
  rw [if_neg (by omega)]
  split
  · refine ⟨?_, fun c hc => hc⟩
    have : 1 * z.length ≤ n.toNat * z.length := Nat.mul_le_mul_right _ (by omega)
    omega
  · have e : tl (⟨(List.replicate n.toNat z.cps).foldl (· ++ ·) #[]⟩ : Str) = (List.replicate n.toNat (tl z)).flatten := by
      show ((List.replicate n.toNat z.cps).foldl (· ++ ·) #[]).toList = _
      rw [fold_appA]
      simp
    have f := flat_repA n.toNat (tl z)
    rw [e]
    refine ⟨?_, f.2⟩
    rw [len_tl, e, f.1, len_tl]
    exact Nat.le_refl _
end Dk

/-! all(e for x in it), any(e for x in it): the element an expression of any kind, with captured names and own calls. -/
namespace Dk
open PySem PySem.Spec PyProof.Rows L2 GenW
/-- the generator's own scope: its name x (slot i), the walked thing at «.0», captured names -/
structure GenB (N : List Str) (sc scope : Scope) (x : Str) (i : Nat) : Prop where
  kind : scope.kind = .function
  co : scope.isCoroutine = false
  cell : ∀ y ∈ scope.names, y.2 ≠ .cell
  dot : scope.names.lookup (".0" : Str) = some NameKind.local
  loc : scope.names.lookup x = some .local
  uniq : ∀ y ∈ scope.names, scope.names.lookup y.1 = some y.2
  ix : N[i]? = some x
  free : ∀ y ∈ scope.names, y.2 = .free → sc.names.lookup y.1 = some .cell ∨ sc.names.lookup y.1 = some .free
  own : ∀ y ∈ scope.names, y.2 = .local → y.1 = x ∨ y.1 ∉ N
/-- the context of the generator's frame -/
abbrev gnb (X : Cx) (A : Around) (s : Shared) (H : Hp) (cenv : Env) (fp : List Addr) : Cx := { X with A := A, s_0 := s, H_0 := H, env := cenv, outer := X.stack, stack := cenv :: X.stack, ex := fp, fn := fun _ => false, calm := true, pn := [], xe := fun _ _ => False }
abbrev gnObj (g : Nat) (nm qn : Str) (t u : Tok) : Obj := { cls := .type "generator", data := .fields #[.int g 0, .str nm t, .str qn u] }
section
variable {X : Cx} {pins : List (Addr × Obj)} {σ : L2.St} {H : Hp} {s : Shared}
theorem inv_gens {g' : Array GenState} (I : Inv X pins σ H s) (hg : AllBare g') : Inv X pins σ H { s with gens := g' } := ⟨I.ok, I.os, hg, I.base, I.loc, I.cell, I.free, I.freeC, I.pin, I.hok, I.len⟩
theorem gen_start {scope : Scope} {x : Str} {i : Nat} {fp : List Addr} {A : Around} {code it : Value} {h' : Heap} {gs : GenState} {tk g : Nat} {nm qn : Str} {t u : Tok} (I : Inv X pins σ H s) (ok : GenB X.N X.env.scope scope x i) (hN : X.N.Nodup) (hfp : ∀ b ∈ fp, FpOk X pins H b ∧ b < s.heap.objs.size)
    (hA : A.frames = some (genEnv scope (cloFrom X.env.cells scope.names []) s.heap.objs.size code builtinsNs X.env :: X.stack)) (hh : A.handled = none) (hgs : gs.bare = true)
    (hn : h'.Ns s.heap.objs.size (fun y => if y = ".0" then some it else none)) (hs : Heap.SameBut s.heap.objs.size (s.heap.push { cls := .type "frame", data := .dict #[] }) h') :
    Inv (gnb X A s H (genEnv scope (cloFrom X.env.cells scope.names []) s.heap.objs.size code builtinsNs X.env) fp) [(h'.objs.size, gnObj g nm qn t u)] (wipe σ [i]) H { s with gens := s.gens.push gs, toks := tk, heap := h'.push (gnObj g nm qn t u) } := by
  have hfree : ∀ y ∈ scope.names, y.2 = .free → ∃ c, X.env.cells.lookup y.1 = some c := fun y hy e => by
    rcases ok.free y hy e with k | k
    · exact I.ok.has _ (.inl k)
    · exact I.ok.has _ (.inr k)
  have keep' : ∀ b o, s.heap.get? b = some o → h'.get? b = some o := fun b o e => hs.extBut b o (Nat.ne_of_lt (Heap.lt_size e)) (Heap.get?_push_of_some _ e)
  have kp : ∀ b o, s.heap.get? b = some o → (h'.push (gnObj g nm qn t u)).get? b = some o := fun b o e => Heap.get?_push_of_some _ (keep' b o e)
  have hsz : h'.objs.size = s.heap.objs.size + 1 := by rw [hs.1, Heap.size_push]
  have cm : ∀ {y c}, (cloFrom X.env.cells scope.names []).lookup y = some c → X.env.cells.lookup y = some c ∧ c < s.heap.objs.size := fun {y c} hm => by
    rcases cloFrom_mem (PySem.mem_of_lookup hm) with hm | ⟨h1, rfl⟩
    · cases hm
    · obtain ⟨c, hc⟩ := hfree _ h1 rfl
      rw [hc]
      obtain ⟨w, z⟩ := I.cell _ _ hc
      exact ⟨rfl, z.lt⟩
  have look : ∀ {y}, scope.names.lookup y = some .free → ∃ c, (cloFrom X.env.cells scope.names []).lookup y = some c := fun {y} hl => mem_lookup (cloFrom_has (cells := X.env.cells) (acc := []) (PySem.mem_of_lookup hl))
  have okB : (gnb X A s H (genEnv scope (cloFrom X.env.cells scope.names []) s.heap.objs.size code builtinsNs X.env) fp).Ok := by
    refine ⟨I.ok.mod, ok.kind, I.ok.glob, rfl, Nat.le_refl _, fun y z c e1 e2 => I.ok.inj y z c (cm e1).1 (cm e2).1, fun y hy => ?_, fun y c z e => absurd (show false = true from z) Bool.false_ne_true, fun _ => hh, hA, .inr ⟨rfl, rfl⟩, fun b hb => ⟨?_, fun y c e z => ?_⟩, I.bs, Nat.le_trans I.ok.bsz I.sz, fun b o e hb => ?_, fun b hb z => ?_, I.stack, I.stkFree⟩
    · rcases hy with hy | hy
      · exact absurd rfl (ok.cell _ (PySem.mem_of_lookup hy))
      · exact look hy
    · exact Nat.ne_of_lt (hfp b hb).2
    · exact (hfp b hb).1.2.2.2.2.1 y c (cm e).1 z
    · rcases (hfp b hb).1.2.2.2.1 with z | z
      · exact I.ok.noex b o e z
      · exact absurd (Nat.lt_of_lt_of_le (Heap.lt_size e) (Nat.le_trans I.ok.bsz z)) (Nat.lt_irrefl _)
    · rcases List.mem_cons.mp (I.stkSub b z) with z | z
      · exact (hfp b hb).1.2.1 z
      · exact (hfp b hb).1.2.2.1 z
  refine ⟨okB, rfl, I.bare.push hgs, Un.kept kp, ⟨_, hn.push _, fun j y v e1 e2 e3 => ?_⟩, fun y c e => ?_, ?_, fun y c e => ?_, fun p hp => ?_, I.hok.kept kp, by rw [wipe_length]; exact I.len⟩
  · obtain ⟨e2, hne⟩ := wipe_some e2
    have hne : j ≠ i := fun z => hne (z ▸ List.mem_cons_self)
    rcases e3 with e3 | e3 | e3
    · have e3 : scope.names.lookup y = some .local := e3
      rcases ok.own _ (PySem.mem_of_lookup e3) rfl with z | z
      · have z : y = x := z
        exact absurd (nodup_ix hN e1 (by rw [z]; exact ok.ix)) hne
      · exact absurd (List.mem_of_getElem? e1) z
    · exact absurd rfl (ok.cell _ (PySem.mem_of_lookup (show scope.names.lookup y = some .cell from e3)))
    · have e3 : scope.names.lookup y = some .free := e3
      obtain ⟨m, hm, hl⟩ := I.loc
      have hvis : Vis X.env.scope y := (ok.free _ (PySem.mem_of_lookup e3) rfl).elim (fun k => .inr (.inl k)) (fun k => .inr (.inr k))
      obtain ⟨w, r, q⟩ := hl j y v e1 e2 hvis
      obtain ⟨c, h1⟩ := look e3
      refine ⟨w, r, .inr ⟨.inr e3, c, h1, ?_⟩⟩
      rcases q with ⟨k, _⟩ | ⟨_, c', e', z⟩
      · have k : X.env.scope.names.lookup y = some .local := k
        rcases ok.free _ (PySem.mem_of_lookup e3) rfl with k' | k' <;> rw [show X.env.scope.names.lookup y = _ from k'] at k <;> cases k
      · rw [(cm h1).1] at e'
        cases e'
        exact z.keeps kp
  · obtain ⟨w, z⟩ := I.cell y c (cm e).1
    exact ⟨w, z.keeps kp⟩
  · exact I.hok.fresh (Nat.le_refl _)
  · exact I.freeC y c (cm e).1
  · obtain rfl : p = (h'.objs.size, gnObj g nm qn t u) := by
      have hp : p ∈ [(h'.objs.size, gnObj g nm qn t u)] := hp
      simpa using hp
    refine ⟨Heap.get?_push_size _ rfl, I.hok.fresh (by rw [hsz]; exact Nat.le_succ _), ?_, fun hb => ?_, fun v z => by cases z⟩
    · show h'.objs.size ≠ s.heap.objs.size
      rw [hsz]
      exact Nat.succ_ne_self _
    · obtain ⟨_, o, ho, _⟩ := I.stack.mem hb
      have hl := Heap.lt_size ho
      have hl : h'.objs.size < s.heap.objs.size := hl
      omega
end
/-- a turn's end: the element told b -/
def GxY (X' : Cx) (pn : List (Addr × Obj)) (σ : L2.St) (fp : List Addr) (tn : Nat → Heap → Prop) (c : Bool) (n : Nat) (R : Nat → Hp → Prop) (Qs : Hp → Prop) : Protocol := fun m s₀ v s kap =>
  ∃ j H b, j + m + 1 = n ∧ v = .bool b ∧ Inv X' pn σ H s ∧ tn (j + 1) s.heap ∧ (∀ a ∈ fp, H a = none) ∧ (b = c → R (j + 1) H) ∧ (b = !c → Qs H) ∧
    ∀ s'' : Shared, s''.heap = s.heap → s''.os = s.os → AllBare s''.gens → R (j + 1) H → kap (.send .none) s''
def GxP (X' : Cx) (pn : List (Addr × Obj)) (σ : L2.St) (Qe : Hp → Prop) : Nat → Shared → Shared → Prop := fun n s₀ s₁ => n = 0 ∧ ∃ H, Inv X' pn σ H s₁ ∧ Qe H
section
variable {X' : Cx} {Aw : Around} {elt iter : Expr} {x : Str} {px gpos : Pos} {scope : Scope} {i n : Nat} {J : It} {fp : List Addr} {it : Addr} {tn : Nat → Heap → Prop} {pn : List (Addr × Obj)} {σ : L2.St} {c : Bool} {R : Nat → Hp → Prop} {Qs Qe : Hp → Prop} {tel : TE} {C : Addr} {cl : List (Str × Addr)} {code : Value} {bi : Addr} {env0 : Env}
theorem seg_gx (hA : X'.A = Aw.over (.compLoop (.GeneratorExp elt [⟨.Name x px, iter, [], 0⟩] scope gpos) 0 (.ref it) .none X'.env) []) (hc : X'.calm = true) (hpn0 : X'.pn = [])
    (T : Turn X'.prog X'.w X'.K (.Name x px) J fp it tn) (hst : ∀ b ∈ fp, b ≠ X'.env.locals ∧ b ∉ X'.fs ∧ (b ∈ X'.ex ∨ X'.s_0.heap.objs.size ≤ b) ∧ (∀ x c, X'.env.cells.lookup x = some c → c ≠ b) ∧ ∀ p ∈ pn, p.1 ≠ b)
    (pg : PG X' (.Name x px) (gName i)) (pe : PE X' elt tel) (hco : X'.env.scope.isCoroutine = false) (hw : ∀ v, wipe ((wipe σ [i]).set i (some v)) [i] = wipe σ [i])
    (hstep : ∀ j H, j < n → R j H → J.go j H ∧ ∀ x H', J.yld j H x H' → tel ((wipe σ [i]).set i (some x)) H' fun y H3 => ∃ b, y = .bl b ∧ (b = c → R (j + 1) H3) ∧ (b = !c → Qs H3))
    (hend : ∀ H, R n H → J.stop n H ∧ Qe H) (hxe : ∀ e s, ¬ X'.xe e s) :
    ∀ (k j : Nat) (s₀ s : Shared) (H : Hp), n - j = k → j ≤ n → Inv X' pn (wipe σ [i]) H s → tn j s.heap → (∀ b ∈ fp, H b = none) → R j H →
      Seg (model X'.prog X'.w) Aw (fun n s₀ r s₁ => r = .ok .next ∧ GxP X' pn (wipe σ [i]) Qe n s₀ s₁) (GxY X' pn (wipe σ [i]) fp tn c n R Qs) (n - j) s₀
        (.compLoop (.GeneratorExp elt [⟨.Name x px, iter, [], 0⟩] scope gpos) 0 (.ref it) .none X'.env)
        ((model X'.prog X'.w).den (.compLoop (.GeneratorExp elt [⟨.Name x px, iter, [], 0⟩] scope gpos) 0 (.ref it) .none X'.env)) [] s := by
  have stat : ∀ {H' : Hp}, (∀ b ∈ fp, H' b = none) → ∀ b ∈ fp, FpOk X' pn H' b := fun {H'} hn b hb => by
    obtain ⟨h1, h2, h3, h4, h5⟩ := hst b hb
    exact ⟨hn b hb, h1, h2, h3, h4, fun p hp => h5 p (by rw [hpn0] at hp; exact hp)⟩
  intro k
  induction k with
  | zero =>
    intro j s₀ s H hk hj I hs hn hR
    obtain rfl : j = n := by omega
    obtain ⟨stop, qe⟩ := hend H hR
    show Seg _ Aw _ _ _ s₀ _ ((compTurn (.GeneratorExp elt [⟨.Name x px, iter, [], 0⟩] scope gpos) 0 (.ref it) .none X'.env).onRaise (leaving X'.env)) [] s
    rw [compTurn_gen, Sem.onRaise_eq_wrap]
    refine seg_bind_wrap (wpAny_standAt ?_)
    refine seg_bind_wrap ?_
    rw [← hA]
    refine wpAny_mono (T.done X' rfl rfl rfl hc j pn s _ H (fun _ _ => False) I (stat hn) hs stop) (fun r s1 ⟨hr, I1⟩ => ?_) fun _ _ z => z.elim
    subst hr
    exact seg_end (.ok .next) ⟨rfl, by omega, H, I1, qe⟩
  | succ k ih =>
    intro j s₀ s H hk hj I hs hn hR
    have hlt : j < n := by omega
    obtain ⟨m, hm⟩ : ∃ m, n - j = m + 1 := ⟨n - j - 1, by omega⟩
    obtain ⟨go, step⟩ := hstep j H hlt hR
    show Seg _ Aw _ _ _ s₀ _ ((compTurn (.GeneratorExp elt [⟨.Name x px, iter, [], 0⟩] scope gpos) 0 (.ref it) .none X'.env).onRaise (leaving X'.env)) [] s
    rw [compTurn_gen, Sem.onRaise_eq_wrap]
    refine seg_bind_wrap (wpAny_standAt ?_)
    refine seg_bind_wrap ?_
    rw [← hA]
    refine wpAny_mono (T.item X' rfl rfl rfl hc j pn s _ H (fun _ _ => False) I (stat hn) hs go) (fun r s1 ⟨u, hr, h6⟩ => ?_) fun _ _ z => z.elim
    subst hr
    refine seg_bind_wrap ?_
    rw [← hA]
    refine wpAny_mono h6 (fun _ s7 ⟨y, H7, I7, r7, y7, st7, n7⟩ => ?_) fun _ _ z => z.elim
    have I7' := I7.pinned (stat n7) (T.obj _ _ st7)
    refine seg_bind_wrap ?_
    rw [← hA]
    refine wpAny_mono (pg.run _ s7 _ H7 y u _ I7' r7 (show gName i y (wipe σ [i]) H7 (fun σ' H' => σ' = (wipe σ [i]).set i (some y) ∧ H' = H7) from ⟨rfl, rfl⟩)) (fun _ s8 ⟨σ8, H8, I8, e1, e2⟩ => ?_) fun e s z => (hxe e s z).elim
    subst e1 e2
    refine seg_bind_wrap (wpAny_tests_nil ?_)
    simp only [if_true]
    have hy : ∀ v, yieldOut X'.env v = yieldValue v := fun v => by simp only [yieldOut, hco, Bool.false_eq_true, if_false]
    simp only [hy]
    rw [Sem.bind_eq_wrap', Sem.bind_eq_wrap', Sem.wrap_wrap, Sem.wrap_wrap]
    refine seg_wrap ?_
    rw [← hA]
    refine wpAny_mono (pe.run _ s8 _ _ _ I8 (step y _ y7)) (fun v s9 ⟨z, H9, I9, r9, b, hb, q1, q2⟩ => ?_) fun e s z => (hxe e s z).elim
    subst hb
    have r9 : v = .bool b := r9
    subst r9
    have pin' : ∀ b ∈ fp, ∀ o, s7.heap.get? b = some o → s9.heap.get? b = some o ∧ H9 b = none := fun b hb o e =>
      let z := I9.pin (b, o) (List.mem_append_right _ (List.mem_append_right _ (mem_pinsAt hb e)))
      ⟨z.1, z.2.1⟩
    have st9 : tn (j + 1) s9.heap := T.keep _ _ _ st7 fun b hb o e => (pin' b hb o e).1
    have n9 : ∀ b ∈ fp, H9 b = none := fun b hb => by
      obtain ⟨o, e, _⟩ := T.obj _ _ st7 b hb
      exact (pin' b hb o e).2
    have I10 : Inv X' pn (wipe σ [i]) H9 s9 := (I9.unpinned (pins := pn)).weak (by rw [wipe_length, List.length_set, wipe_length]) fun a v e => by
      rw [← hw y] at e
      exact (wipe_some e).1
    rw [hm]
    refine seg_at (seg_yield rfl rfl rfl ⟨j, H9, b, by omega, rfl, I10, st9, n9, q1, q2, fun s'' e1 e2 hb2 hR2 => ?_⟩)
    have I11 : Inv X' pn (wipe σ [i]) H9 s'' := by
      have hok : HOk X'.prog X'.w H9 s''.heap := by rw [e1]; exact I10.hok
      exact ⟨I10.ok, e2.trans I10.os, hb2, by rw [e1]; exact I10.base, by rw [e1]; exact I10.loc, by rw [e1]; exact I10.cell, I10.free, I10.freeC, by rw [e1]; exact I10.pin, hok, I10.len⟩
    have hm2 : m = n - (j + 1) := by omega
    rw [hm2]
    exact seg_again rfl (ih (j + 1) s'' s'' H9 (by omega) hlt I11 (by rw [e1]; exact st9) n9 hR2)
theorem seg_gxS (hA : X'.A = Aw.over (.compLoop (.GeneratorExp elt [⟨.Name x px, iter, [], 0⟩] scope gpos) 0 (.ref it) .none X'.env) [])
    (T : Turn X'.prog X'.w X'.K (.Name x px) J fp it tn) {Y : Protocol} {Re : GenEnd} {m : Nat} {s₀ s : Shared} (hs : tn 0 s.heap)
    (loop : Seg (model X'.prog X'.w) Aw Re Y m s₀ (.compLoop (.GeneratorExp elt [⟨.Name x px, iter, [], 0⟩] scope gpos) 0 (.ref it) .none X'.env)
        ((model X'.prog X'.w).den (.compLoop (.GeneratorExp elt [⟨.Name x px, iter, [], 0⟩] scope gpos) 0 (.ref it) .none X'.env)) [] s) :
    Seg (model X'.prog X'.w) Aw Re Y m s₀ (.compStart (.GeneratorExp elt [⟨.Name x px, iter, [], 0⟩] scope gpos) 0 (.ref it) .none X'.env)
        ((model X'.prog X'.w).den (.compStart (.GeneratorExp elt [⟨.Name x px, iter, [], 0⟩] scope gpos) 0 (.ref it) .none X'.env)) [] s := by
  show Seg _ Aw _ _ _ s₀ _ ((compStart (.GeneratorExp elt [⟨.Name x px, iter, [], 0⟩] scope gpos) 0 (.ref it) .none X'.env).onRaise (leaving X'.env)) [] s
  unfold compStart
  rw [Sem.onRaise_eq_wrap]
  show Seg _ Aw _ _ _ s₀ _ ((ask >>= _).wrap _ _ _ _) [] s
  refine seg_bind_wrap (wpAny_askSetting ?_)
  split
  · exact seg_again rfl loop
  · first
      | exact seg_bind_wrap (wpAny_rule (seg_bind_wrap (wpAny_standAt (seg_bind_wrap (T.self _ 0 s _ _ hs (seg_again rfl loop))))))
      | (refine seg_bind_wrap (wpAny_rule ?_); show Seg _ Aw _ _ _ s₀ _ ((standAt iter.pos >>= _).wrap _ _ _ _) [] s; exact seg_bind_wrap (wpAny_standAt (seg_bind_wrap (T.self _ 0 s _ _ hs (seg_again rfl loop)))))
end
section
variable {X' : Cx} {n : Nat} {fp : List Addr} {tn : Nat → Heap → Prop} {pn : List (Addr × Obj)} {σ : L2.St} {R : Nat → Hp → Prop} {Qs Qe : Hp → Prop}

theorem loop_all {A : Around} {a : Addr} {g : Nat} {nm qn : Str} {t u : Tok} {Rr : Result → Shared → Prop} (hh : A.handled = none) (hd : A.depth < recursionLimit) (hp : (a, gnObj g nm qn t u) ∈ X'.pn ++ pn)
    (h1 : ∀ H s', Inv X' pn σ H s' → Qe H → Rr (.ok (.ret (.bool true))) s') (h2 : ∀ H s', Inv X' pn σ H s' → Qs H → Rr (.ok (.ret (.bool (!true)))) s') :
    ∀ (k j : Nat) (s : Shared) (H : Hp) (gs : GenState), n - j = k → j ≤ n → Inv X' pn σ H s → s.gens[g]? = some gs →
      gs.Goes (model X'.prog X'.w) A.in1.in1 (fun n s₀ r s₁ => r = .ok .next ∧ GxP X' pn σ Qe n s₀ s₁) (GxY X' pn σ fp tn true n R Qs) (n - j) (.send .none) (s.setGen g .running) →
      codeAny (model X'.prog X'.w) A (.builtin "all.loop" ⟨[.ref a], []⟩) Rr s := by
  intro k
  induction k with
  | zero =>
    intro j s H gs hk hj I hgs hgo
    refine codeAny_builtin F.entry_all_loop ?_
    rw [Around.under_plainId F.plain_all_loop _]
    show wpAny _ A.in1 (pyNext (.ref a) >>= _) _ _ s
    have hg : s.heap.IsGen a g := ⟨_, _, _, (I.pin _ hp).1, rfl, rfl, rfl⟩
    have hgl : g < s.gens.size := (Array.getElem?_eq_some_iff.mp hgs).1
    refine wpAny_bind (wpAny_pyNext_genexpQ (A := A.in1) (P := GxP X' pn σ Qe) hh I.nolimit hd hg hgs hgo (fun v s₁ gs' hb hv => ?_) (fun s₁ hp h' hk => ?_))
    · obtain ⟨j', H1, b, hj', rfl, I1, st1, n1, q1, q2, kap⟩ := hv
      have I2 : Inv X' pn σ H1 (s₁.setGen g gs') := inv_gens I1 (allBare_setGen I1.bare hb)
      refine wpAny_bind (wpAny_holding (wpAny_truthy_bool ?_))
      refine wpAny_bind (wpAny_letGo ?_)
      by_cases eb : b = true
      · rw [hk] at kap
        exact (kap { s₁ with gens := s₁.gens } rfl rfl I1.bare (q1 eb)).elim
      · have eb : b = !true := by cases b <;> simp_all
        subst eb
        simp only [Bool.not_true, Bool.not_false, Bool.false_eq_true, if_false, if_true]
        exact wpAny_bind (wpAny_rule (wpAny_pure (h2 H1 _ I2 (q2 rfl))))
    · obtain ⟨_, H1, I1, qe⟩ := hp
      have I2 : Inv X' pn σ H1 { s₁ with heap := h' } := I1.kept (t' := s₁.toks) hk
      have I3 : Inv X' pn σ H1 { s₁.setGen g .finished with heap := h' } := inv_gens I2 (allBare_setGen I1.bare rfl)
      exact wpAny_bind (wpAny_rule (wpAny_pure (h1 H1 _ I3 qe)))
  | succ k ih =>
    intro j s H gs hk hj I hgs hgo
    refine codeAny_builtin F.entry_all_loop ?_
    rw [Around.under_plainId F.plain_all_loop _]
    show wpAny _ A.in1 (pyNext (.ref a) >>= _) _ _ s
    have hg : s.heap.IsGen a g := ⟨_, _, _, (I.pin _ hp).1, rfl, rfl, rfl⟩
    have hgl : g < s.gens.size := (Array.getElem?_eq_some_iff.mp hgs).1
    refine wpAny_bind (wpAny_gsz (n := g + 1) hgl (wpAny_pyNext_genexpQ (A := A.in1) (P := GxP X' pn σ Qe) hh I.nolimit hd hg hgs hgo (fun v s₁ gs' hb hv => ?_) (fun s₁ hp h' hk => ?_)))
    · intro hsz
      obtain ⟨j', H1, b, hj', rfl, I1, st1, n1, q1, q2, kap⟩ := hv
      obtain rfl : j' = j := by omega
      have I2 : Inv X' pn σ H1 (s₁.setGen g gs') := inv_gens I1 (allBare_setGen I1.bare hb)
      have hsz1 : g < s₁.gens.size := by
        have q : (s₁.setGen g gs').gens.size = s₁.gens.size := setGen_size _ _ _
        have hsz' : g + 1 ≤ (s₁.setGen g gs').gens.size := hsz
        omega
      refine wpAny_bind (wpAny_holding (wpAny_truthy_bool ?_))
      refine wpAny_bind (wpAny_letGo ?_)
      by_cases eb : b = true
      · have r1 := q1 eb
        subst eb
        simp only [Bool.false_eq_true, if_true, if_false]
        refine wpAny_pure ⟨plainId_quiet F.plain_all_loop _, ih (j' + 1) _ H1 gs' (by omega) (by omega) I2 (setGen_at hsz1) ?_⟩
        have e1 : n - j' = (n - (j' + 1)) + 1 := by omega
        rw [e1] at kap
        exact kap _ rfl rfl (allBare_setGen (s := s₁.setGen g gs') (allBare_setGen I1.bare hb) rfl) r1
      · have eb : b = !true := by cases b <;> simp_all
        subst eb
        simp only [Bool.not_true, Bool.not_false, Bool.false_eq_true, if_false, if_true]
        exact wpAny_bind (wpAny_rule (wpAny_pure (h2 H1 _ I2 (q2 rfl))))
    · intro hsz
      obtain ⟨_, H1, I1, qe⟩ := hp
      have I2 : Inv X' pn σ H1 { s₁ with heap := h' } := I1.kept (t' := s₁.toks) hk
      have I3 : Inv X' pn σ H1 { s₁.setGen g .finished with heap := h' } := inv_gens I2 (allBare_setGen I1.bare rfl)
      exact wpAny_bind (wpAny_rule (wpAny_pure (h1 H1 _ I3 qe)))

theorem loop_any {A : Around} {a : Addr} {g : Nat} {nm qn : Str} {t u : Tok} {Rr : Result → Shared → Prop} (hh : A.handled = none) (hd : A.depth < recursionLimit) (hp : (a, gnObj g nm qn t u) ∈ X'.pn ++ pn)
    (h1 : ∀ H s', Inv X' pn σ H s' → Qe H → Rr (.ok (.ret (.bool false))) s') (h2 : ∀ H s', Inv X' pn σ H s' → Qs H → Rr (.ok (.ret (.bool (!false)))) s') :
    ∀ (k j : Nat) (s : Shared) (H : Hp) (gs : GenState), n - j = k → j ≤ n → Inv X' pn σ H s → s.gens[g]? = some gs →
      gs.Goes (model X'.prog X'.w) A.in1.in1 (fun n s₀ r s₁ => r = .ok .next ∧ GxP X' pn σ Qe n s₀ s₁) (GxY X' pn σ fp tn false n R Qs) (n - j) (.send .none) (s.setGen g .running) →
      codeAny (model X'.prog X'.w) A (.builtin "any.loop" ⟨[.ref a], []⟩) Rr s := by
  intro k
  induction k with
  | zero =>
    intro j s H gs hk hj I hgs hgo
    refine codeAny_builtin F.entry_any_loop ?_
    rw [Around.under_plainId F.plain_any_loop _]
    show wpAny _ A.in1 (pyNext (.ref a) >>= _) _ _ s
    have hg : s.heap.IsGen a g := ⟨_, _, _, (I.pin _ hp).1, rfl, rfl, rfl⟩
    have hgl : g < s.gens.size := (Array.getElem?_eq_some_iff.mp hgs).1
    refine wpAny_bind (wpAny_pyNext_genexpQ (A := A.in1) (P := GxP X' pn σ Qe) hh I.nolimit hd hg hgs hgo (fun v s₁ gs' hb hv => ?_) (fun s₁ hp h' hk => ?_))
    · obtain ⟨j', H1, b, hj', rfl, I1, st1, n1, q1, q2, kap⟩ := hv
      have I2 : Inv X' pn σ H1 (s₁.setGen g gs') := inv_gens I1 (allBare_setGen I1.bare hb)
      refine wpAny_bind (wpAny_holding (wpAny_truthy_bool ?_))
      refine wpAny_bind (wpAny_letGo ?_)
      by_cases eb : b = false
      · rw [hk] at kap
        exact (kap { s₁ with gens := s₁.gens } rfl rfl I1.bare (q1 eb)).elim
      · have eb : b = !false := by cases b <;> simp_all
        subst eb
        simp only [Bool.not_true, Bool.not_false, Bool.false_eq_true, if_false, if_true]
        exact wpAny_bind (wpAny_rule (wpAny_pure (h2 H1 _ I2 (q2 rfl))))
    · obtain ⟨_, H1, I1, qe⟩ := hp
      have I2 : Inv X' pn σ H1 { s₁ with heap := h' } := I1.kept (t' := s₁.toks) hk
      have I3 : Inv X' pn σ H1 { s₁.setGen g .finished with heap := h' } := inv_gens I2 (allBare_setGen I1.bare rfl)
      exact wpAny_bind (wpAny_rule (wpAny_pure (h1 H1 _ I3 qe)))
  | succ k ih =>
    intro j s H gs hk hj I hgs hgo
    refine codeAny_builtin F.entry_any_loop ?_
    rw [Around.under_plainId F.plain_any_loop _]
    show wpAny _ A.in1 (pyNext (.ref a) >>= _) _ _ s
    have hg : s.heap.IsGen a g := ⟨_, _, _, (I.pin _ hp).1, rfl, rfl, rfl⟩
    have hgl : g < s.gens.size := (Array.getElem?_eq_some_iff.mp hgs).1
    refine wpAny_bind (wpAny_gsz (n := g + 1) hgl (wpAny_pyNext_genexpQ (A := A.in1) (P := GxP X' pn σ Qe) hh I.nolimit hd hg hgs hgo (fun v s₁ gs' hb hv => ?_) (fun s₁ hp h' hk => ?_)))
    · intro hsz
      obtain ⟨j', H1, b, hj', rfl, I1, st1, n1, q1, q2, kap⟩ := hv
      obtain rfl : j' = j := by omega
      have I2 : Inv X' pn σ H1 (s₁.setGen g gs') := inv_gens I1 (allBare_setGen I1.bare hb)
      have hsz1 : g < s₁.gens.size := by
        have q : (s₁.setGen g gs').gens.size = s₁.gens.size := setGen_size _ _ _
        have hsz' : g + 1 ≤ (s₁.setGen g gs').gens.size := hsz
        omega
      refine wpAny_bind (wpAny_holding (wpAny_truthy_bool ?_))
      refine wpAny_bind (wpAny_letGo ?_)
      by_cases eb : b = false
      · have r1 := q1 eb
        subst eb
        simp only [Bool.false_eq_true, if_true, if_false]
        refine wpAny_pure ⟨plainId_quiet F.plain_any_loop _, ih (j' + 1) _ H1 gs' (by omega) (by omega) I2 (setGen_at hsz1) ?_⟩
        have e1 : n - j' = (n - (j' + 1)) + 1 := by omega
        rw [e1] at kap
        exact kap _ rfl rfl (allBare_setGen (s := s₁.setGen g gs') (allBare_setGen I1.bare hb) rfl) r1
      · have eb : b = !false := by cases b <;> simp_all
        subst eb
        simp only [Bool.not_true, Bool.not_false, Bool.false_eq_true, if_false, if_true]
        exact wpAny_bind (wpAny_rule (wpAny_pure (h2 H1 _ I2 (q2 rfl))))
    · intro hsz
      obtain ⟨_, H1, I1, qe⟩ := hp
      have I2 : Inv X' pn σ H1 { s₁ with heap := h' } := I1.kept (t' := s₁.toks) hk
      have I3 : Inv X' pn σ H1 { s₁.setGen g .finished with heap := h' } := inv_gens I2 (allBare_setGen I1.bare rfl)
      exact wpAny_bind (wpAny_rule (wpAny_pure (h1 H1 _ I3 qe)))
end

/-- all(e for x in it), any(..): c: what lets it go on; R by the turn -/
def tGx (P : Addr) (c : Bool) (i : Nat) (w : TI) (tel : TE) : TE := fun σ H Q => w σ H fun J H1 => GxR.TabG H1 P ∧ ∀ H2, GxR.Tabbed P H1 H2 → ∃ (n : Nat) (R : Nat → Hp → Prop), R 0 H2 ∧
  (∀ j H, j < n → R j H → J.go j H ∧ ∀ x H', J.yld j H x H' → tel ((wipe σ [i]).set i (some x)) H' fun y H3 => ∃ b, y = .bl b ∧ (b = c → R (j + 1) H3) ∧ (b = !c → Q (.bl (!c)) H3)) ∧
  ∀ H, R n H → J.stop n H ∧ Q (.bl c) H
section
variable {X : Cx} {pins : List (Addr × Obj)} {σ : L2.St} {H : Hp} {s : Shared}
theorem gen_make {c P : Addr} {elt iter : Expr} {x : Str} {px gpos : Pos} {scope : Scope} {i k : Nat} {w : TI} {R : It → Hp → Prop} {Q' : Value → Shared → Prop}
    (hr : Room k X.A) (TB : LamX.TabB X.base X.mg c P) (hcode : X.env.code = .ref c) (S : GenB X.N X.env.scope scope x i) (hi : PI X (.Name x px) iter w) (hs : ∀ v, genFold iter X.env v = pure v) (I : Inv X pins σ H s) (h : w σ H fun J H1 => GxR.TabG H1 P ∧ R J H1)
    (hQ : ∀ (H1 H4 : Hp) (s4 : Shared) (fp : List Addr) (it : Addr) (J : It) (tn : Nat → Heap → Prop) (code : Value) (h' : Heap) (tk : Nat) (t u : Tok), R J H1 → GxR.Tabbed P H1 H4 → Inv X pins σ H4 s4 → (∀ b ∈ fp, FpOk X pins H4 b ∧ b < s4.heap.objs.size) → Turn X.prog X.w X.K (.Name x px) J fp it tn → tn 0 s4.heap →
      h'.Ns s4.heap.objs.size (fun y => if y = ".0" then some (.ref it) else none) → Heap.SameBut s4.heap.objs.size (s4.heap.push { cls := .type "frame", data := .dict #[] }) h' →
      Q' (.ref h'.objs.size) { s4 with gens := s4.gens.push (.fresh (.compStart (.GeneratorExp elt [⟨.Name x px, iter, [], 0⟩] scope gpos) 0 (.ref it) .none (genEnv scope (cloFrom X.env.cells scope.names []) s4.heap.objs.size code builtinsNs X.env))), toks := tk, heap := h'.push (gnObj s4.gens.size "<genexpr>" (X.env.qual ++ "<genexpr>") t u) }) :
    wpAny (model X.prog X.w) X.A (eval (.GeneratorExp elt [⟨.Name x px, iter, [], 0⟩] scope gpos) X.env) Q' X.xe s := by
  have hfree : ∀ y ∈ scope.names, y.2 = .free → ∃ c, X.env.cells.lookup y.1 = some c := fun y hy e => by
    rcases S.free y hy e with k | k
    · exact I.ok.has _ (.inl k)
    · exact I.ok.has _ (.inr k)
  refine wpAny_GeneratorExp_make S.co (closure_ok hfree) S.cell S.dot S.kind hr.depth ?_ hs
  refine thn (hi.run pins s σ H _ I h) fun xv s1 hx => thn hx fun itv s2 h2 => ?_
  obtain ⟨it, fp, tn, J, H2, e, I2, T, st2, f2, ⟨ps, hP, ht⟩, q⟩ := h2
  subst e
  refine ⟨I2.nolimit, ?_⟩
  have hPs : s2.heap.get? P = some { cls := .none, data := .fields ps } := I2.hok P _ hP
  have cd : PySem.W.CodeHd s2.heap c P := TB.code.keeps fun b u e => I2.bk b u e
  have cont : ∀ (code : Value) (h3 : Heap) (tk : Nat) (ps' : Array Value), Heap.ExtBut P s2.heap h3 → s2.heap.objs.size ≤ h3.objs.size → h3.get? P = some { cls := .none, data := .fields ps' } → (∃ more, ps' = ps ++ more) → TriplesOk ps'.toList →
      wpAny (model X.prog X.w) X.A (builtinsFor X.env.globals X.env.builtins) (fun bi s₄ =>
        ∀ h', h'.Ns s₄.heap.objs.size (fun y => if y = ".0" then some (.ref it) else none) → Heap.SameBut s₄.heap.objs.size (s₄.heap.push { cls := .type "frame", data := .dict #[] }) h' →
          Q' (.ref h'.objs.size) { s₄ with
            gens := s₄.gens.push (.fresh (.compStart (.GeneratorExp elt [⟨.Name x px, iter, [], 0⟩] scope gpos) 0 (.ref it) .none (genEnv scope (cloFrom X.env.cells scope.names []) s₄.heap.objs.size code bi X.env))),
            toks := s₄.toks + 1 + 1 + 1,
            heap := h'.push { cls := .type "generator", data := .fields #[.int s₄.gens.size 0, .str "<genexpr>" (s₄.toks + 1), .str (X.env.qual ++ "<genexpr>") (s₄.toks + 1 + 1)] } }) X.xe { s2 with heap := h3, toks := tk } := by
    intro code h3 tk ps' hx hsz hP3 hmore ht3
    obtain ⟨bm, ob, e1, e2, e3, e4, e5, e6, e7, e8⟩ := TB.bm
    have keep3 : ∀ b u, b ≠ P → s2.heap.get? b = some u → h3.get? b = some u := fun b u hb e => hx b u hb e
    refine wpAny_builtinsFor (m := X.mg) (by rw [I2.ok.glob]; exact (I2.mod.glob.keeps I2.bk).extBut hx TB.gP) e1 e2 (keep3 _ _ e4 (I2.bk _ _ e5)) e6 e7 e8 ?_
    intro h' hns hsb
    obtain ⟨more, em⟩ := hmore
    have J4 := GxR.inv_tab (more := more) (h' := h3) (g' := s2.gens) (d' := s2.drawn) (t' := tk) I2 hP (fun b u hb e => keep3 b u hb e) (by rw [← em]; exact hP3) I2.bare
    have fp4 : ∀ b ∈ fp, b ≠ P := fun b hb z => by
      have := (f2 b hb).1
      rw [z, hP] at this
      cases this
    refine hQ H2 (upd H2 P (.tbl (ps ++ more))) { s2 with heap := h3, toks := tk } fp it J tn code h' _ _ _ q ⟨⟨ps ++ more, upd_same, by rw [← em]; exact ht3⟩, fun b hb => upd_ne hb⟩ J4 (fun b hb => ⟨⟨?_, (f2 b hb).2⟩, ?_⟩) T ?_ hns hsb
    · rw [upd_ne (fp4 b hb)]
      exact (f2 b hb).1
    · obtain ⟨o, e, _⟩ := T.obj _ _ st2 b hb
      exact Nat.lt_of_lt_of_le (Heap.lt_size e) hsz
    · exact T.keep _ _ _ st2 fun b hb o e => keep3 b o (fp4 b hb) e
  cases hf : codeAmong gpos ps.toList with
  | none =>
    refine wpAny_genexprCodeX hcode (cd.code hPs ht) (cd.tab hPs) hf fun c' h' tk hx hge hlt hco' _ htab' _ => ?_
    obtain ⟨o1, vs, f1, tf, fl, tg, inF, tx, tt, op, _, _, _, _, _, _, _, _, _, htr, _⟩ := hco'
    exact cont _ h' tk _ hx (Nat.le_trans hge (Nat.le_of_lt hlt)) htab'.2 ⟨_, rfl⟩ htr
  | some cv =>
    refine wpAny_genexprCode_hit hcode (cd.code hPs ht) hf ?_
    exact cont cv s2.heap s2.toks ps (Heap.ExtBut.refl _ _) (Nat.le_refl _) hPs ⟨#[], by simp⟩ ht
theorem gx_frames {A : Around} {l : List Env} {elt : Expr} {gs : List Comprehension} {sc : Scope} {gp : Pos} {it : Value} {cenv : Env} (h : A.frames = some l) : (A.in1.in1.over (.compLoop (.GeneratorExp elt gs sc gp) 0 it .none cenv) []).frames = some (cenv :: l) := by
  show pushEnvs (Code.compLoop (.GeneratorExp elt gs sc gp) 0 it .none cenv).envs (pushEnvs (envsOf []) A.frames) = _
  rw [h]
  rfl
theorem gx_room {A : Around} {elt : Expr} {gs : List Comprehension} {sc : Scope} {gp : Pos} {it : Value} {cenv : Env} {k : Nat} (h : Room (k + 1) A) : Room k (A.in1.in1.over (.compLoop (.GeneratorExp elt gs sc gp) 0 it .none cenv) []) := by
  have hdep : (A.in1.in1.over (.compLoop (.GeneratorExp elt gs sc gp) 0 it .none cenv) []).depth ≤ A.depth + 1 := Nat.le_of_eq rfl
  have huni : (A.in1.in1.over (.compLoop (.GeneratorExp elt gs sc gp) 0 it .none cenv) []).units ≤ A.units + 5 := Nat.le_of_eq rfl
  exact ⟨h.hd, by have := h.dp; omega, by have := h.un; omega⟩

theorem pe_allg {cc P : Addr} {elt iter : Expr} {x : Str} {px p pos gpos : Pos} {scope : Scope} {i k : Nat} {w : TI} {tel : TE}
    (hr : Room (k + 1) X.A) (hm : X.mg "all" = none) (TB : LamX.TabB X.base X.mg cc P) (hcode : X.env.code = .ref cc) (S : GenB X.N X.env.scope scope x i) (hN : X.N.Nodup) (hi : PI X (.Name x px) iter w)
    (hel : ∀ (A : Around) (s : Shared) (H : Hp) (C : Addr) (cl : List (Str × Addr)) (code : Value) (fp : List Addr), Room k A → PE (gnb X A s H (genEnv scope cl C code builtinsNs X.env) fp) elt tel)
    (hw : ∀ (σ : L2.St) v, wipe ((wipe σ [i]).set i (some v)) [i] = wipe σ [i])
    (hg : Gl X "all" := by rfl) (hs : ∀ v, genFold iter X.env v = pure v := by intro _; rfl)
    (he : starEach [.GeneratorExp elt [⟨.Name x px, iter, [], 0⟩] scope gpos] X.env = (false, eval (.GeneratorExp elt [⟨.Name x px, iter, [], 0⟩] scope gpos) X.env) :: starEach [] X.env := by rfl) :
    PE X (.Call (.Name "all" p) [.GeneratorExp elt [⟨.Name x px, iter, [], 0⟩] scope gpos] [] pos) (tGx P true i w tel) := by
  refine ⟨fun pins s σ H Q I h => ?_⟩
  refine wpAny_Call_Name_kw (ld_blt I hg hm bt_all ?_)
  refine PyProof.Rows.callWith_builtin1 ?_ he (by rfl)
  rw [he]
  show wpAny _ _ (spliced ((false, eval (.GeneratorExp elt [⟨.Name x px, iter, [], 0⟩] scope gpos) X.env) :: backTo pos (starEach [] X.env))) _ _ s
  refine Calls.spliced_cons (gen_make hr TB hcode S hi hs I h fun H1 H4 s4 fp it J tn code h' tk t u hQ htb I4 hfp T hst ns sb => ?_)
  refine Calls.spliced_nil ?_
  obtain ⟨n, R, h0, hstep, hend⟩ := hQ H4 htb
  have hh : (X.A.in1.in1.over (.compLoop (.GeneratorExp elt [⟨.Name x px, iter, [], 0⟩] scope gpos) 0 (.ref it) .none (genEnv scope (cloFrom X.env.cells scope.names []) s4.heap.objs.size code builtinsNs X.env)) []).handled = none := hr.hd
  have hX := gen_start (tk := tk) (g := s4.gens.size) (nm := "<genexpr>") (qn := X.env.qual ++ "<genexpr>") (t := t) (u := u) I4 S hN hfp (gx_frames I4.ok.frames) hh (gs := .fresh (.compStart (.GeneratorExp elt [⟨.Name x px, iter, [], 0⟩] scope gpos) 0 (.ref it) .none (genEnv scope (cloFrom X.env.cells scope.names []) s4.heap.objs.size code builtinsNs X.env))) rfl ns sb
  have keep' : ∀ b o, s4.heap.get? b = some o → h'.get? b = some o := fun b o e => sb.extBut b o (Nat.ne_of_lt (Heap.lt_size e)) (Heap.get?_push_of_some _ e)
  have hsz : h'.objs.size = s4.heap.objs.size + 1 := by rw [sb.1, Heap.size_push]
  have hel2 := hel _ s4 H4 s4.heap.objs.size (cloFrom X.env.cells scope.names []) code fp (gx_room (elt := elt) (gs := [⟨.Name x px, iter, [], 0⟩]) (sc := scope) (gp := gpos) (it := .ref it) (cenv := genEnv scope (cloFrom X.env.cells scope.names []) s4.heap.objs.size code builtinsNs X.env) hr)
  have hsco : (genEnv scope (cloFrom X.env.cells scope.names []) s4.heap.objs.size code builtinsNs X.env).scope = scope := rfl
  generalize genEnv scope (cloFrom X.env.cells scope.names []) s4.heap.objs.size code builtinsNs X.env = cenv at *
  have back : ∀ {H1 : Hp} {s' : Shared}, Inv (gnb X (X.A.in1.in1.over (.compLoop (.GeneratorExp elt [⟨.Name x px, iter, [], 0⟩] scope gpos) 0 (.ref it) .none cenv) []) s4 H4 cenv fp) [(h'.objs.size, gnObj s4.gens.size "<genexpr>" (X.env.qual ++ "<genexpr>") t u)] (wipe σ [i]) H1 s' → Inv X pins σ H1 s' := fun {H1 s'} I1 =>
    I4.call' (ch := fp) I1.os I1.base I1.hok I1.bare fun b hb => ⟨(hfp b hb).1.2.2.2.1, (hfp b hb).1.2.1, (hfp b hb).1.2.2.2.2.1, (hfp b hb).1.2.2.2.2.2⟩
  have nf : ∀ b ∈ fp, b ≠ h'.objs.size := fun b hb z => by
    have := (hfp b hb).2
    rw [z, hsz] at this
    have this : (s4.heap.objs.size + 1 : Nat) < s4.heap.objs.size := this
    omega
  have st5 : tn 0 (h'.push (gnObj s4.gens.size "<genexpr>" (X.env.qual ++ "<genexpr>") t u)) := T.keep _ _ _ hst fun b _ o e => Heap.get?_push_of_some _ (keep' b o e)
  have hgs : (s4.gens.push (GenState.fresh (.compStart (.GeneratorExp elt [⟨.Name x px, iter, [], 0⟩] scope gpos) 0 (.ref it) .none cenv)))[s4.gens.size]? = some (.fresh (.compStart (.GeneratorExp elt [⟨.Name x px, iter, [], 0⟩] scope gpos) 0 (.ref it) .none cenv)) := Array.getElem?_push_size ..
  have loop := fun (s6 : Shared) (I6 : Inv (gnb X (X.A.in1.in1.over (.compLoop (.GeneratorExp elt [⟨.Name x px, iter, [], 0⟩] scope gpos) 0 (.ref it) .none cenv) []) s4 H4 cenv fp) [(h'.objs.size, gnObj s4.gens.size "<genexpr>" (X.env.qual ++ "<genexpr>") t u)] (wipe σ [i]) H4 s6) (st6 : tn 0 s6.heap) =>
    seg_gx (X' := gnb X (X.A.in1.in1.over (.compLoop (.GeneratorExp elt [⟨.Name x px, iter, [], 0⟩] scope gpos) 0 (.ref it) .none cenv) []) s4 H4 cenv fp) (Aw := X.A.in1.in1) (c := true) (n := n) (R := R) (σ := σ) (pn := [(h'.objs.size, gnObj s4.gens.size "<genexpr>" (X.env.qual ++ "<genexpr>") t u)]) (Qs := fun H1 => Q (.bl (!true)) H1) (Qe := fun H1 => Q (.bl true) H1) (iter := iter) (gpos := gpos) (scope := scope) (i := i) (J := J) (it := it) (tn := tn) (fp := fp) (px := px) (x := x) (elt := elt) (tel := tel)
      rfl rfl rfl T (fun b hb => ⟨(hX.ok.exf b hb).1, hX.ok.exfs b hb, .inl hb, fun x c e => (hX.ok.exf b hb).2 x c e, fun p hp => by
        obtain rfl : p = (h'.objs.size, gnObj s4.gens.size "<genexpr>" (X.env.qual ++ "<genexpr>") t u) := by simpa using hp
        exact (nf b hb).symm⟩)
      (pg_name (X := gnb X (X.A.in1.in1.over (.compLoop (.GeneratorExp elt [⟨.Name x px, iter, [], 0⟩] scope gpos) 0 (.ref it) .none cenv) []) s4 H4 cenv fp) hN S.ix (by show Loc cenv.scope x; rw [hsco]; exact .inl S.loc) (by right; show cenv.scope.names.lookup x = _; rw [hsco]; exact S.loc)) hel2 (by show cenv.scope.isCoroutine = false; rw [hsco]; exact S.co) (hw σ) hstep hend (fun _ _ z => z) n 0 s6 s6 H4 (Nat.sub_zero _) (Nat.zero_le _) I6 st6 (fun b hb => (hfp b hb).1.1) h0
  have I6 := inv_gens hX (g' := (({ s4 with gens := s4.gens.push (.fresh (.compStart (.GeneratorExp elt [⟨.Name x px, iter, [], 0⟩] scope gpos) 0 (.ref it) .none cenv)), toks := tk, heap := h'.push (gnObj s4.gens.size "<genexpr>" (X.env.qual ++ "<genexpr>") t u) } : Shared).setGen s4.gens.size .running).gens) (allBare_setGen hX.bare rfl)
  refine call_function_tree F.kind_all F.plain_all F.entry_all (F.args_all1 _) ?_
  unfold Builtin.«all»
  refine wpAny_bind (m := oneArg "all" _) (wpAny_pure ?_)
  refine wpAny_bind (wpAny_pyIter_gen (a := h'.objs.size) (g := s4.gens.size) ⟨_, _, _, Heap.get?_push_size _ rfl, rfl, rfl, rfl⟩ ?_)
  refine wpAny_pure ⟨plainId_quiet F.plain_all_loop _, loop_all (X' := gnb X (X.A.in1.in1.over (.compLoop (.GeneratorExp elt [⟨.Name x px, iter, [], 0⟩] scope gpos) 0 (.ref it) .none cenv) []) s4 H4 cenv fp) (A := X.A) hr.hd hr.depth (List.mem_cons_self) (fun H1 s' I1 q => ?_) (fun H1 s' I1 q => ?_) n 0 _ H4 _ (Nat.sub_zero _) (Nat.zero_le _) hX hgs ⟨rfl, seg_gxS (X' := gnb X (X.A.in1.in1.over (.compLoop (.GeneratorExp elt [⟨.Name x px, iter, [], 0⟩] scope gpos) 0 (.ref it) .none cenv) []) s4 H4 cenv fp) rfl T st5 (loop _ I6 st5)⟩⟩
  · exact ⟨.bl _, H1, back I1, rfl, q⟩
  · exact ⟨.bl _, H1, back I1, rfl, q⟩

theorem pe_anyg {cc P : Addr} {elt iter : Expr} {x : Str} {px p pos gpos : Pos} {scope : Scope} {i k : Nat} {w : TI} {tel : TE}
    (hr : Room (k + 1) X.A) (hm : X.mg "any" = none) (TB : LamX.TabB X.base X.mg cc P) (hcode : X.env.code = .ref cc) (S : GenB X.N X.env.scope scope x i) (hN : X.N.Nodup) (hi : PI X (.Name x px) iter w)
    (hel : ∀ (A : Around) (s : Shared) (H : Hp) (C : Addr) (cl : List (Str × Addr)) (code : Value) (fp : List Addr), Room k A → PE (gnb X A s H (genEnv scope cl C code builtinsNs X.env) fp) elt tel)
    (hw : ∀ (σ : L2.St) v, wipe ((wipe σ [i]).set i (some v)) [i] = wipe σ [i])
    (hg : Gl X "any" := by rfl) (hs : ∀ v, genFold iter X.env v = pure v := by intro _; rfl)
    (he : starEach [.GeneratorExp elt [⟨.Name x px, iter, [], 0⟩] scope gpos] X.env = (false, eval (.GeneratorExp elt [⟨.Name x px, iter, [], 0⟩] scope gpos) X.env) :: starEach [] X.env := by rfl) :
    PE X (.Call (.Name "any" p) [.GeneratorExp elt [⟨.Name x px, iter, [], 0⟩] scope gpos] [] pos) (tGx P false i w tel) := by
  refine ⟨fun pins s σ H Q I h => ?_⟩
  refine wpAny_Call_Name_kw (ld_blt I hg hm bt_any ?_)
  refine PyProof.Rows.callWith_builtin1 ?_ he (by rfl)
  rw [he]
  show wpAny _ _ (spliced ((false, eval (.GeneratorExp elt [⟨.Name x px, iter, [], 0⟩] scope gpos) X.env) :: backTo pos (starEach [] X.env))) _ _ s
  refine Calls.spliced_cons (gen_make hr TB hcode S hi hs I h fun H1 H4 s4 fp it J tn code h' tk t u hQ htb I4 hfp T hst ns sb => ?_)
  refine Calls.spliced_nil ?_
  obtain ⟨n, R, h0, hstep, hend⟩ := hQ H4 htb
  have hh : (X.A.in1.in1.over (.compLoop (.GeneratorExp elt [⟨.Name x px, iter, [], 0⟩] scope gpos) 0 (.ref it) .none (genEnv scope (cloFrom X.env.cells scope.names []) s4.heap.objs.size code builtinsNs X.env)) []).handled = none := hr.hd
  have hX := gen_start (tk := tk) (g := s4.gens.size) (nm := "<genexpr>") (qn := X.env.qual ++ "<genexpr>") (t := t) (u := u) I4 S hN hfp (gx_frames I4.ok.frames) hh (gs := .fresh (.compStart (.GeneratorExp elt [⟨.Name x px, iter, [], 0⟩] scope gpos) 0 (.ref it) .none (genEnv scope (cloFrom X.env.cells scope.names []) s4.heap.objs.size code builtinsNs X.env))) rfl ns sb
  have keep' : ∀ b o, s4.heap.get? b = some o → h'.get? b = some o := fun b o e => sb.extBut b o (Nat.ne_of_lt (Heap.lt_size e)) (Heap.get?_push_of_some _ e)
  have hsz : h'.objs.size = s4.heap.objs.size + 1 := by rw [sb.1, Heap.size_push]
  have hel2 := hel _ s4 H4 s4.heap.objs.size (cloFrom X.env.cells scope.names []) code fp (gx_room (elt := elt) (gs := [⟨.Name x px, iter, [], 0⟩]) (sc := scope) (gp := gpos) (it := .ref it) (cenv := genEnv scope (cloFrom X.env.cells scope.names []) s4.heap.objs.size code builtinsNs X.env) hr)
  have hsco : (genEnv scope (cloFrom X.env.cells scope.names []) s4.heap.objs.size code builtinsNs X.env).scope = scope := rfl
  generalize genEnv scope (cloFrom X.env.cells scope.names []) s4.heap.objs.size code builtinsNs X.env = cenv at *
  have back : ∀ {H1 : Hp} {s' : Shared}, Inv (gnb X (X.A.in1.in1.over (.compLoop (.GeneratorExp elt [⟨.Name x px, iter, [], 0⟩] scope gpos) 0 (.ref it) .none cenv) []) s4 H4 cenv fp) [(h'.objs.size, gnObj s4.gens.size "<genexpr>" (X.env.qual ++ "<genexpr>") t u)] (wipe σ [i]) H1 s' → Inv X pins σ H1 s' := fun {H1 s'} I1 =>
    I4.call' (ch := fp) I1.os I1.base I1.hok I1.bare fun b hb => ⟨(hfp b hb).1.2.2.2.1, (hfp b hb).1.2.1, (hfp b hb).1.2.2.2.2.1, (hfp b hb).1.2.2.2.2.2⟩
  have nf : ∀ b ∈ fp, b ≠ h'.objs.size := fun b hb z => by
    have := (hfp b hb).2
    rw [z, hsz] at this
    have this : (s4.heap.objs.size + 1 : Nat) < s4.heap.objs.size := this
    omega
  have st5 : tn 0 (h'.push (gnObj s4.gens.size "<genexpr>" (X.env.qual ++ "<genexpr>") t u)) := T.keep _ _ _ hst fun b _ o e => Heap.get?_push_of_some _ (keep' b o e)
  have hgs : (s4.gens.push (GenState.fresh (.compStart (.GeneratorExp elt [⟨.Name x px, iter, [], 0⟩] scope gpos) 0 (.ref it) .none cenv)))[s4.gens.size]? = some (.fresh (.compStart (.GeneratorExp elt [⟨.Name x px, iter, [], 0⟩] scope gpos) 0 (.ref it) .none cenv)) := Array.getElem?_push_size ..
  have loop := fun (s6 : Shared) (I6 : Inv (gnb X (X.A.in1.in1.over (.compLoop (.GeneratorExp elt [⟨.Name x px, iter, [], 0⟩] scope gpos) 0 (.ref it) .none cenv) []) s4 H4 cenv fp) [(h'.objs.size, gnObj s4.gens.size "<genexpr>" (X.env.qual ++ "<genexpr>") t u)] (wipe σ [i]) H4 s6) (st6 : tn 0 s6.heap) =>
    seg_gx (X' := gnb X (X.A.in1.in1.over (.compLoop (.GeneratorExp elt [⟨.Name x px, iter, [], 0⟩] scope gpos) 0 (.ref it) .none cenv) []) s4 H4 cenv fp) (Aw := X.A.in1.in1) (c := false) (n := n) (R := R) (σ := σ) (pn := [(h'.objs.size, gnObj s4.gens.size "<genexpr>" (X.env.qual ++ "<genexpr>") t u)]) (Qs := fun H1 => Q (.bl (!false)) H1) (Qe := fun H1 => Q (.bl false) H1) (iter := iter) (gpos := gpos) (scope := scope) (i := i) (J := J) (it := it) (tn := tn) (fp := fp) (px := px) (x := x) (elt := elt) (tel := tel)
      rfl rfl rfl T (fun b hb => ⟨(hX.ok.exf b hb).1, hX.ok.exfs b hb, .inl hb, fun x c e => (hX.ok.exf b hb).2 x c e, fun p hp => by
        obtain rfl : p = (h'.objs.size, gnObj s4.gens.size "<genexpr>" (X.env.qual ++ "<genexpr>") t u) := by simpa using hp
        exact (nf b hb).symm⟩)
      (pg_name (X := gnb X (X.A.in1.in1.over (.compLoop (.GeneratorExp elt [⟨.Name x px, iter, [], 0⟩] scope gpos) 0 (.ref it) .none cenv) []) s4 H4 cenv fp) hN S.ix (by show Loc cenv.scope x; rw [hsco]; exact .inl S.loc) (by right; show cenv.scope.names.lookup x = _; rw [hsco]; exact S.loc)) hel2 (by show cenv.scope.isCoroutine = false; rw [hsco]; exact S.co) (hw σ) hstep hend (fun _ _ z => z) n 0 s6 s6 H4 (Nat.sub_zero _) (Nat.zero_le _) I6 st6 (fun b hb => (hfp b hb).1.1) h0
  have I6 := inv_gens hX (g' := (({ s4 with gens := s4.gens.push (.fresh (.compStart (.GeneratorExp elt [⟨.Name x px, iter, [], 0⟩] scope gpos) 0 (.ref it) .none cenv)), toks := tk, heap := h'.push (gnObj s4.gens.size "<genexpr>" (X.env.qual ++ "<genexpr>") t u) } : Shared).setGen s4.gens.size .running).gens) (allBare_setGen hX.bare rfl)
  refine call_function_tree F.kind_any F.plain_any F.entry_any (F.args_any1 _) ?_
  unfold Builtin.«any»
  refine wpAny_bind (m := oneArg "any" _) (wpAny_pure ?_)
  refine wpAny_bind (wpAny_pyIter_gen (a := h'.objs.size) (g := s4.gens.size) ⟨_, _, _, Heap.get?_push_size _ rfl, rfl, rfl, rfl⟩ ?_)
  refine wpAny_pure ⟨plainId_quiet F.plain_any_loop _, loop_any (X' := gnb X (X.A.in1.in1.over (.compLoop (.GeneratorExp elt [⟨.Name x px, iter, [], 0⟩] scope gpos) 0 (.ref it) .none cenv) []) s4 H4 cenv fp) (A := X.A) hr.hd hr.depth (List.mem_cons_self) (fun H1 s' I1 q => ?_) (fun H1 s' I1 q => ?_) n 0 _ H4 _ (Nat.sub_zero _) (Nat.zero_le _) hX hgs ⟨rfl, seg_gxS (X' := gnb X (X.A.in1.in1.over (.compLoop (.GeneratorExp elt [⟨.Name x px, iter, [], 0⟩] scope gpos) 0 (.ref it) .none cenv) []) s4 H4 cenv fp) rfl T st5 (loop _ I6 st5)⟩⟩
  · exact ⟨.bl _, H1, back I1, rfl, q⟩
  · exact ⟨.bl _, H1, back I1, rfl, q⟩
end
end Dk

/-! Readings of all, any over generator expressions; steps that may only grow the tables of code objects. -/
namespace Dk
open PySem PySem.Spec PyProof.Rows L2 TL
abbrev TabG (H : Hp) (P : Addr) : Prop := GxR.TabG H P
theorem TabG.nil {H : Hp} {P : Addr} (h : H P = some (.tbl #[])) : GxR.TabG H P := ⟨#[], h, True.intro⟩
/-- no table -/
def NT (o : HO) : Prop := ∀ ps, o ≠ .tbl ps
/-- all stands, tables may have grown -/
structure Sam (H H' : Hp) : Prop where
  kp : ∀ b o, NT o → H b = some o → H' b = some o
  tb : ∀ b ps, H b = some (.tbl ps) → ∃ qs, H' b = some (.tbl qs) ∧ (TriplesOk ps.toList → TriplesOk qs.toList)
theorem Sam.refl (H : Hp) : Sam H H := ⟨fun _ _ _ h => h, fun _ ps h => ⟨ps, h, id⟩⟩
theorem Sam.trans {H H1 H2 : Hp} (a : Sam H H1) (b : Sam H1 H2) : Sam H H2 :=
  ⟨fun p o n h => b.kp p o n (a.kp p o n h), fun p ps h => by
    obtain ⟨qs, h1, t1⟩ := a.tb p ps h
    obtain ⟨rs, h2, t2⟩ := b.tb p qs h1
    exact ⟨rs, h2, fun t => t2 (t1 t)⟩⟩
theorem Sam.same {H H' : Hp} (s : Same H H') : Sam H H' := ⟨fun b o _ h => s b o h, fun b ps h => ⟨ps, s b _ h, id⟩⟩
theorem Sam.snd {H H1 H2 : Hp} (a : Sam H H1) (s : Same H1 H2) : Sam H H2 := a.trans (Sam.same s)
theorem Sam.fst {H H1 H2 : Hp} (s : Same H H1) (a : Sam H1 H2) : Sam H H2 := (Sam.same s).trans a
theorem Sam.lst {H H' : Hp} {b : Addr} {xs : List V} (s : Sam H H') (h : H b = some (.lst xs)) : H' b = some (.lst xs) := s.kp b _ (fun _ z => by cases z) h
theorem Sam.tup {H H' : Hp} {b : Addr} {xs : List V} (s : Sam H H') (h : H b = some (.tup xs)) : H' b = some (.tup xs) := s.kp b _ (fun _ z => by cases z) h
theorem Sam.frz {H H' : Hp} {b : Addr} {o : Obj} {u : HO} (s : Sam H H') (h : H b = some (.frz o u)) : H' b = some (.frz o u) := s.kp b _ (fun _ z => by cases z) h
theorem Sam.insO {H H' : Hp} {b C dx : Addr} {fs : List (Str × V)} (s : Sam H H') (h : H b = some (.ins C dx fs)) : H' b = some (.ins C dx fs) := s.kp b _ (fun _ z => by cases z) h
theorem Sam.gro {H H' : Hp} (s : Sam H H') : Gro H H' := ⟨fun _ _ h => s.tup h, fun _ _ _ h => s.frz h⟩
theorem Sam.tabG {H H' : Hp} {P : Addr} (s : Sam H H') (h : GxR.TabG H P) : GxR.TabG H' P := by
  obtain ⟨ps, h1, h2⟩ := h
  obtain ⟨qs, h3, h4⟩ := s.tb P ps h1
  exact ⟨qs, h3, h4 h2⟩
theorem tabG_same {H H' : Hp} {P : Addr} (s : Same H H') (h : GxR.TabG H P) : GxR.TabG H' P := (Sam.same s).tabG h
theorem tabG_stp {H H' : Hp} {a P : Addr} (d : Drw H a) (s : Stp a H H') (h : GxR.TabG H P) : GxR.TabG H' P := by
  obtain ⟨ps, h1, h2⟩ := h
  refine ⟨ps, s.at_ h1 fun e => ?_, h2⟩
  obtain ⟨x, y, q⟩ := d
  rw [e, q] at h1
  cases h1
theorem Sam.before {H H' : Hp} {r : Addr} (s : Sam H H') (h : H' r = none) : H r = none := by
  cases q : H r with
  | none => rfl
  | some o =>
    by_cases n : NT o
    · rw [s.kp r o n q] at h
      cases h
    · have ⟨ps, e⟩ : ∃ ps, o = .tbl ps := Classical.byContradiction fun z => n fun ps e => z ⟨ps, e⟩
      subst e
      obtain ⟨qs, h1, _⟩ := s.tb r ps q
      rw [h1] at h
      cases h
theorem Sam.drw {H H' : Hp} {a : Addr} (s : Sam H H') (h : Drw H a) : Drw H' a := let ⟨x, y, e⟩ := h; ⟨x, y, s.lst e⟩
theorem Sam.scr {K : PySem.W.Frag} {H H' : Hp} {a : Addr} (s : Sam H H') (h : Scr K H a) : Scr K H' a := h.mono s.gro
theorem Sam.dq {H H' : Hp} {v : V} {d : PyData} (s : Sam H H') (h : Dq H v d) : Dq H' v d := h.mono s.gro
theorem Sam.sqL {K : PySem.W.Frag} {H H' : Hp} {p : Addr} {xs : List V} (s : Sam H H') (h : SqL K H p xs) : SqL K H' p xs := by
  rcases h with (h | ⟨o, h⟩) | h
  · exact .inl (.inl (s.lst h))
  · exact .inl (.inr ⟨o, s.frz h⟩)
  · exact .inr h
theorem Sam.ins {H H' : Hp} {a C : Addr} {fs : List (Str × V)} (s : Sam H H') (h : Ins H a C fs) : Ins H' a C fs := let ⟨dx, e⟩ := h; ⟨dx, s.insO e⟩
theorem Mt.nt {o : HO} (h : Mt (some o)) (n : NT o) : True := trivial
theorem Own.sam {H H' : Hp} {v : V} {t : Tr} {fp : List Addr} (s : Sam H H') (h : Own H v t fp) (nt : ∀ b ∈ fp, ∀ o, H b = some o → NT o) : Own H' v t fp := h.frame s.gro fun b hb => by
  obtain ⟨u, e, _⟩ := h.there b hb
  rw [e]
  exact s.kp b u (nt b hb u e) e
/-- the table at P has grown -/
theorem Sam.tabbed {H H' : Hp} {P : Addr} (t : GxR.TabG H P) (h : GxR.Tabbed P H H') : Sam H H' := by
  obtain ⟨⟨qs, h1, h2⟩, h3⟩ := h
  obtain ⟨ps, h4, h5⟩ := t
  refine ⟨fun b o n e => ?_, fun b rs e => ?_⟩
  · rw [h3 b fun z => by
      rw [z, h4] at e
      cases e
      exact n ps rfl]
    exact e
  · by_cases z : b = P
    · subst z
      exact ⟨qs, h1, fun _ => h2⟩
    · exact ⟨rs, by rw [h3 b z]; exact e, id⟩
/-! ### the generator's scope, by a look -/
def genC (N : List Str) (sc scope : Scope) (x : Str) (i : Nat) : Bool :=
  decide (scope.kind = .function) && decide (scope.isCoroutine = false) && scope.names.all (fun y => decide (y.2 ≠ .cell)) && decide (scope.names.lookup (".0" : Str) = some NameKind.local) && decide (scope.names.lookup x = some .local) &&
  scope.names.all (fun y => decide (scope.names.lookup y.1 = some y.2)) && decide (N[i]? = some x) && scope.names.all (fun y => decide (y.2 = .free → sc.names.lookup y.1 = some .cell ∨ sc.names.lookup y.1 = some .free)) &&
  scope.names.all (fun y => decide (y.2 = .local → y.1 = x ∨ y.1 ∉ N))
theorem genB_by {N : List Str} {sc scope : Scope} {x : Str} {i : Nat} (h : genC N sc scope x i = true) : GenB N sc scope x i := by
  unfold genC at h
  simp only [Bool.and_eq_true, List.all_eq_true, decide_eq_true_eq] at h
  obtain ⟨⟨⟨⟨⟨⟨⟨⟨h1, h2⟩, h3⟩, h4⟩, h5⟩, h6⟩, h7⟩, h8⟩, h9⟩ := h
  exact ⟨h1, h2, h3, h4, h5, h6, h7, h8, h9⟩
theorem wipe1 {σ : L2.St} {i : Nat} (v : V) : wipe ((wipe σ [i]).set i (some v)) [i] = wipe σ [i] := by
  simp only [wipe, List.set_set]
section
variable {X : Cx} {K : PySem.W.Frag} {cc P : Addr} {elt iter : Expr} {x : Str} {px p pos gpos : Pos} {scope : Scope} {i k : Nat} {te tel : TE}
theorem pe_allU (hr : Room (k + 1) X.A) (hm : X.mg "all" = none) (TB : LamX.TabB X.base X.mg cc P) (S : GenB X.N X.env.scope scope x i) (hN : X.N.Nodup) (hi : PE X iter te)
    (hel : ∀ (A : Around) (s : Shared) (H : Hp) (C : Addr) (cl : List (Str × Addr)) (code : Value) (fp : List Addr), Room k A → PE (gnb X A s H (genEnv scope cl C code builtinsNs X.env) fp) elt tel)
    (hcode : X.env.code = .ref cc := by rfl) (hK : X.K = K := by rfl) (hg : Gl X "all" := by rfl) (hs : ∀ v, genFold iter X.env v = pure v := by intro _; rfl)
    (he : starEach [.GeneratorExp elt [⟨.Name x px, iter, [], 0⟩] scope gpos] X.env = (false, eval (.GeneratorExp elt [⟨.Name x px, iter, [], 0⟩] scope gpos) X.env) :: starEach [] X.env := by rfl) :
    PE X (.Call (.Name "all" p) [.GeneratorExp elt [⟨.Name x px, iter, [], 0⟩] scope gpos] [] pos) (tGx P true i (iU K te) tel) :=
  pe_allg hr hm TB hcode S hN (pi_U hi hK) hel (fun _ v => wipe1 v) hg hs he
theorem pe_anyU (hr : Room (k + 1) X.A) (hm : X.mg "any" = none) (TB : LamX.TabB X.base X.mg cc P) (S : GenB X.N X.env.scope scope x i) (hN : X.N.Nodup) (hi : PE X iter te)
    (hel : ∀ (A : Around) (s : Shared) (H : Hp) (C : Addr) (cl : List (Str × Addr)) (code : Value) (fp : List Addr), Room k A → PE (gnb X A s H (genEnv scope cl C code builtinsNs X.env) fp) elt tel)
    (hcode : X.env.code = .ref cc := by rfl) (hK : X.K = K := by rfl) (hg : Gl X "any" := by rfl) (hs : ∀ v, genFold iter X.env v = pure v := by intro _; rfl)
    (he : starEach [.GeneratorExp elt [⟨.Name x px, iter, [], 0⟩] scope gpos] X.env = (false, eval (.GeneratorExp elt [⟨.Name x px, iter, [], 0⟩] scope gpos) X.env) :: starEach [] X.env := by rfl) :
    PE X (.Call (.Name "any" p) [.GeneratorExp elt [⟨.Name x px, iter, [], 0⟩] scope gpos] [] pos) (tGx P false i (iU K te) tel) :=
  pe_anyg hr hm TB hcode S hN (pi_U hi hK) hel (fun _ v => wipe1 v) hg hs he
end
/-! ### readings -/
def gxq (K : PySem.W.Frag) (P : Addr) (c : Bool) (i : Nat) (x : V) (tel : TE) (σ : L2.St) (H : Hp) (Q : VK) : Prop := tGx P c i (iU K (tC x)) tel σ H Q
section
variable {K : PySem.W.Frag} {σ : L2.St} {H : Hp} {Q : VK} {te tel : TE} {i : Nat} {P : Addr} {c : Bool}
theorem r_gx (q : te σ H fun x H1 => gxq K P c i x tel σ H1 Q) : tGx P c i (iU K te) tel σ H Q := q
/-- what all, any tell -/
def gxB (c : Bool) (bs : List Bool) : Bool := if c = true then bs.all id else bs.any id
theorem gxB_stop {c : Bool} {bs : List Bool} (h : (!c) ∈ bs) : gxB c bs = !c := by
  cases c with
  | true =>
    show bs.all id = false
    rw [List.all_eq_false]
    exact ⟨false, h, by simp⟩
  | false =>
    show bs.any id = true
    rw [List.any_eq_true]
    exact ⟨true, h, rfl⟩
theorem gxB_end {c : Bool} {bs : List Bool} (h : ∀ b ∈ bs, b = c) : gxB c bs = c := by
  cases c with
  | true =>
    show bs.all id = true
    rw [List.all_eq_true]
    exact fun b hb => h b hb
  | false =>
    show bs.any id = false
    rw [List.any_eq_false]
    exact fun b hb => by simp [h b hb]
theorem gx_core {α : Type} (xs : List α) (iv : α → V) (pb : α → Bool) (J : It) (ht : GxR.TabG H P) (hJ : ∀ j H', j < xs.length → Sam H H' → J.go j H' ∧ ∀ x H2, J.yld j H' x H2 → ∃ a, xs[j]? = some a ∧ x = iv a ∧ H2 = H')
    (hs : ∀ H', Sam H H' → J.stop xs.length H')
    (el : ∀ (a : α) (H1 : Hp) (Q1 : VK), a ∈ xs → Sam H H1 → (∀ H2, Sam H1 H2 → Q1 (.bl (pb a)) H2) → tel ((wipe σ [i]).set i (some (iv a))) H1 Q1)
    (k : ∀ H', Sam H H' → Q (.bl (gxB c (xs.map pb))) H') : GxR.TabG H P ∧ ∀ H2, GxR.Tabbed P H H2 → ∃ (n : Nat) (R : Nat → Hp → Prop), R 0 H2 ∧
  (∀ j H, j < n → R j H → J.go j H ∧ ∀ x H', J.yld j H x H' → tel ((wipe σ [i]).set i (some x)) H' fun y H3 => ∃ b, y = .bl b ∧ (b = c → R (j + 1) H3) ∧ (b = !c → Q (.bl (!c)) H3)) ∧
  ∀ H, R n H → J.stop n H ∧ Q (.bl c) H := by
  refine ⟨ht, fun H2 htb => ⟨xs.length, fun j H' => Sam H H' ∧ ∀ l a, l < j → xs[l]? = some a → pb a = c, ⟨Sam.tabbed ht htb, fun _ _ z => absurd z (Nat.not_lt_zero _)⟩, fun j H' hj ⟨s1, r1⟩ => ?_, fun H' ⟨s1, r1⟩ => ⟨hs H' s1, ?_⟩⟩⟩
  · obtain ⟨h1, h2⟩ := hJ j H' hj s1
    refine ⟨h1, fun x H3 hy => ?_⟩
    obtain ⟨a, ha, rfl, rfl⟩ := h2 x H3 hy
    refine el a _ _ (List.mem_of_getElem? ha) s1 fun H4 s4 => ⟨pb a, rfl, fun e => ⟨s1.trans s4, fun l a' hl ha' => ?_⟩, fun e => ?_⟩
    · by_cases q : l = j
      · rw [q, ha] at ha'
        cases ha'
        exact e
      · exact r1 l a' (by omega) ha'
    · have q := k H4 (s1.trans s4)
      rw [gxB_stop (List.mem_map.mpr ⟨a, List.mem_of_getElem? ha, e⟩)] at q
      exact q
  · have q := k H' s1
    rw [gxB_end fun b hb => ?_] at q
    · exact q
    · obtain ⟨a, ha, rfl⟩ := List.mem_map.mp hb
      obtain ⟨l, hl⟩ := List.getElem?_of_mem ha
      exact r1 l a (List.getElem?_eq_some_iff.mp hl).1 hl
/-- over a text -/
theorem gx_S {z : Str} (pb : Nat → Bool) (ht : GxR.TabG H P)
    (el : ∀ (a : Nat) (H1 : Hp) (Q1 : VK), a ∈ tl z → Sam H H1 → (∀ H2, Sam H1 H2 → Q1 (.bl (pb a)) H2) → tel ((wipe σ [i]).set i (some (.str ⟨#[a]⟩))) H1 Q1)
    (k : ∀ H', Sam H H' → Q (.bl (gxB c ((tl z).map pb))) H') : gxq K P c i (.str z) tel σ H Q :=
  gx_core (tl z) (fun a => .str ⟨#[a]⟩) pb (Its z) ht (fun j H' hj s1 => ⟨by rw [← len_tl] at hj; exact hj, fun x H2 hy => by
    obtain ⟨rfl, cc, hc, rfl⟩ := hy
    exact ⟨cc, by rw [← hc, ← Array.getElem?_toList], rfl, rfl⟩⟩) (fun H' s1 => by show z.cps.size ≤ (tl z).length; rw [← len_tl]; exact Nat.le_refl _) el k
/-- over a list, a tuple -/
theorem gx_L {p : Addr} {xs : List V} (h : SqL K H p xs) (pb : V → Bool) (ht : GxR.TabG H P)
    (el : ∀ (a : V) (H1 : Hp) (Q1 : VK), a ∈ xs → Sam H H1 → (∀ H2, Sam H1 H2 → Q1 (.bl (pb a)) H2) → tel ((wipe σ [i]).set i (some a)) H1 Q1)
    (k : ∀ H', Sam H H' → Q (.bl (gxB c (xs.map pb))) H') : gxq K P c i (.ref p) tel σ H Q :=
  .inl ⟨⟨xs, h⟩, gx_core xs id pb (Itl K p) ht (fun j H' hj s1 => ⟨⟨xs, xs[j], s1.sqL h, List.getElem?_eq_getElem hj⟩, fun x H2 hy => by
    obtain ⟨rfl, hy⟩ := hy
    exact ⟨x, hy xs (s1.sqL h), rfl, rfl⟩⟩) (fun H' s1 => ⟨xs, s1.sqL h, Nat.le_refl _⟩) el k⟩
theorem gx_T {p : Addr} {xs : List V} (h : H p = some (.tup xs)) (pb : V → Bool) (ht : GxR.TabG H P)
    (el : ∀ (a : V) (H1 : Hp) (Q1 : VK), a ∈ xs → Sam H H1 → (∀ H2, Sam H1 H2 → Q1 (.bl (pb a)) H2) → tel ((wipe σ [i]).set i (some a)) H1 Q1)
    (k : ∀ H', Sam H H' → Q (.bl (gxB c (xs.map pb))) H') : gxq K P c i (.ref p) tel σ H Q :=
  .inr ⟨⟨xs, SqT.of h⟩, gx_core xs id pb (Itt K p) ht (fun j H' hj s1 => ⟨⟨xs, xs[j], SqT.of (s1.tup h), List.getElem?_eq_getElem hj⟩, fun x H2 hy => by
    obtain ⟨rfl, hy⟩ := hy
    exact ⟨x, hy xs (SqT.of (s1.tup h)), rfl, rfl⟩⟩) (fun H' s1 => ⟨xs, SqT.of (s1.tup h), Nat.le_refl _⟩) el k⟩
end
end Dk

/-! Dicts, with tuples as keys: del, pop, sorted, list, equality. -/
namespace Dk
open PySem PySem.Spec PySem.Calls PyProof.Rows L2
section
theorem KT.drop {H : Hp} {kvs : List (List Key × V)} {xs : List (List Key × Addr × Value)} (r : KT H kvs xs) (k : List Key) : KT H (dropK kvs k) (withoutH xs k) := by
  unfold dropK withoutH
  induction r with
  | nil => exact .nil
  | @cons p q ps qs h t ih =>
    obtain ⟨h1, h2⟩ := h
    rw [List.filter_cons, List.filter_cons]
    by_cases e : p.1 = k
    · have a : ¬ decide (p.1 ≠ k) = true := by simp [e]
      have b : ¬ decide (q.1 ≠ k) = true := by simp [h1.symm.trans e]
      rw [if_neg a, if_neg b]; exact ih
    · have e' : ¬ q.1 = k := fun z => e (h1.trans z)
      have a : decide (p.1 ≠ k) = true := by simp [e]
      have b : decide (q.1 ≠ k) = true := by simp [e']
      rw [if_pos a, if_pos b]; exact .cons ⟨h1, h2⟩ ih
end
section
variable {X : Cx} {pins : List (Addr × Obj)} {σ : L2.St} {H : Hp} {s : Shared} {a b : Addr} {A : Around} {E : Value → Shared → Prop} {kvs : List (List Key × V)} {k : List Key}
theorem d_delT {Q : Unit → Shared → Prop} (hu : A.units + 1 < cLine) (I : Inv X pins σ H s) (e : H a = some (.dT kvs)) (eb : H b = some (.tup (k.map kV))) (l : (valV kvs k).isSome = true) (h : ∀ s', Inv X pins σ (upd H a (.dT (dropK kvs k))) s' → Q () s') :
    wpAny (model X.prog X.w) A (delItem (.ref a) (.ref b)) Q E s := by
  obtain ⟨z, hd, xs, rel, dd⟩ := dt_of I.hok e
  have hz : xs.length ≤ sizeLine := by rw [← Paired.length rel]; exact z
  obtain ⟨p, hp⟩ : ∃ p, atKey xs k = some p := by
    have r := (rel.val k).isSome_eq
    rw [l, Option.isSome_map] at r
    exact Option.isSome_iff_exists.mp r.symm
  refine wpAny_delItem_heap (hsz := hz) (tupleKind_room_in1 hu) (key_of I.hok eb) hd dd hp fun h' dd' hs => h _ ?_
  obtain ⟨q, es, ep, hq, h2, h3, h4, _, h5⟩ := dd'
  refine d_write I (by rw [e]; exact True.intro) hs ⟨q, hq⟩ ⟨Nat.le_trans (dropK_le kvs k) z, hd, _, (KT.drop rel k).keeps fun c ys ec => ?_, q, es, ep, hq, h2, h3, h4, h5⟩
  rw [upd_ne (ne_of ec e (fun z => nomatch z))]
  exact ec
theorem d_popT {v : V} {Q : Value → Shared → Prop} (hu : A.units + 1 < cLine) (I : Inv X pins σ H s) (e : H a = some (.dT kvs)) (eb : H b = some (.tup (k.map kV))) (l : valV kvs k = some v) (h : ∀ w' s', Inv X pins σ (upd H a (.dT (dropK kvs k))) s' → RelV v w' → Q w' s') :
    wpAny (model X.prog X.w) A (call (.builtin "dict.pop") [.ref a, .ref b]) Q E s := by
  obtain ⟨z, hd, xs, rel, dd⟩ := dt_of I.hok e
  have hz : xs.length ≤ sizeLine := by rw [← Paired.length rel]; exact z
  have rv := rel.val k
  rw [l] at rv
  obtain ⟨p, hp, rp⟩ : ∃ p, atKey xs k = some p ∧ RelV v p.2 := by
    cases q : atKey xs k with
    | none =>
      rw [q] at rv
      exact (show False from rv).elim
    | some p =>
      rw [q] at rv
      exact ⟨p, rfl, rv⟩
  refine call_pop_heap (hsz := hz) (.inl rfl) (PySem.F.args_dict_pop_2 _ _) (tupleKind_room_in1 hu) (key_of I.hok eb) hd dd hp fun h' dd' hs => h _ _ ?_ rp
  obtain ⟨q, es, ep, hq, h2, h3, h4, _, h5⟩ := dd'
  refine d_write I (by rw [e]; exact True.intro) hs ⟨q, hq⟩ ⟨Nat.le_trans (dropK_le kvs k) z, hd, _, (KT.drop rel k).keeps fun c ys ec => ?_, q, es, ep, hq, h2, h3, h4, h5⟩
  rw [upd_ne (ne_of ec e (fun z => nomatch z))]
  exact ec
end
/-- the heap behind del a[y]; o is what stood there -/
def DDrop (H : Hp) (a : Addr) (y o : V) (H' : Hp) : Prop :=
  (∃ kvs k, H a = some (.dK kvs) ∧ y = kV k ∧ valV kvs k = some o ∧ H' = upd H a (.dK (dropK kvs k))) ∨
  ∃ kvs k b, H a = some (.dT kvs) ∧ y = .ref b ∧ H b = some (.tup (k.map kV)) ∧ valV kvs k = some o ∧ H' = upd H a (.dT (dropK kvs k))
def sDDelU (td ty : TE) : TS := fun D σ H => td σ H fun x H1 => ty σ H1 fun y H2 => ∃ a o H3, x = .ref a ∧ DDrop H2 a y o H3 ∧ D.nx σ H3
def tDPopU (td ty : TE) : TE := fun σ H Q => td σ H fun x H1 => ∃ a, x = .ref a ∧ IsD H1 a ∧ ty σ H1 fun y H2 => ∃ o H3, DDrop H2 a y o H3 ∧ Q o H3
section
variable {X : Cx} {o i e value : Expr} {pos pos' tpos : Pos} {td ty tv : TE}
theorem ps_ddelU (hu : X.A.units + 1 < cLine) (ho : PE X o td) (hi : PE X i ty) : PS X (.Delete [.Subscript o i tpos] pos) (sDDelU td ty) := by
  refine ⟨fun pins s σ H D I h => ?_⟩
  refine wpAny_Delete (wpAny_deleteEach_cons (wpAny_delete_Subscript (thn (ho.run pins s σ H _ I h) fun u s1 ⟨x, H1, I1, rx, q1⟩ => thn (hi.run pins s1 σ H1 _ I1 q1) fun iv s2 ⟨y, H2, I2, ry, a, ov, H3, ex, g, q2⟩ => ?_)))
  subst ex
  obtain rfl : u = Value.ref a := rx
  rcases g with ⟨kvs, k, e, ey, l, eH⟩ | ⟨kvs, k, b, e, ey, eb, l, eH⟩
  · subst ey eH
    exact d_delItem I2 e ry (by rw [l]; rfl) fun s3 I3 => wpAny_deleteEach_nil ⟨σ, _, I3, q2⟩
  · subst ey eH
    cases (show iv = Value.ref b from ry)
    exact d_delT hu I2 e eb (by rw [l]; rfl) fun s3 I3 => wpAny_deleteEach_nil ⟨σ, _, I3, q2⟩
variable {apos cpos : Pos}
theorem pe_dpopU (hu : X.A.units + 1 < cLine) (ho : PE X o td) (he : PE X e ty) (m : M1 X o "pop" apos e cpos) : PE X (.Call (.Attribute o "pop" apos) [e] [] cpos) (tDPopU td ty) := by
  refine ⟨fun pins s σ H Q I h => ?_⟩
  refine wpAny_Call_method m.base m.few m.line PySem.F.plainAttrs_dict PySem.F.slot_dict_pop PySem.F.type_dict_pop (thn (ho.run pins s σ H _ I h) fun u s1 ⟨x, H1, I1, rx, a, ex, d, q1⟩ => ?_)
  subst ex
  obtain rfl : u = Value.ref a := rx
  obtain ⟨t1, t2, _⟩ := isD_at I1 d
  refine ⟨t1, t2, ?_⟩
  rw [m.trees]
  refine Calls.callWith_builtin rfl (Calls.evalArgs_plain (Calls.spliced_cons (thn (he.run pins s1 σ H1 _ I1 q1) fun iv s2 ⟨y, H2, I2, ry, ov, H3, g, q2⟩ => Calls.spliced_nil ?_)))
  rcases g with ⟨kvs, k, e, ey, l, eH⟩ | ⟨kvs, k, b, e, ey, eb, l, eH⟩
  · subst ey eH
    exact d_pop I2 e ry l (.inl rfl) fun w' s3 I3 rw' => ⟨ov, _, I3, rw', q2⟩
  · subst ey eH
    cases (show iv = Value.ref b from ry)
    exact d_popT hu I2 e eb l fun w' s3 I3 rw' => ⟨ov, _, I3, rw', q2⟩
end
/-! ### sorted(d), list(d) -/
/-- a tag: a text, two numbers -/
abbrev Tag := Str × Int × Int
abbrev tagK (t : Tag) : List Key := [.inr t.1, .inl t.2.1, .inl t.2.2]
abbrev tagD (t : Tag) : PyData := .tuple [.str t.1, .int t.2.1, .int t.2.2]
abbrev tagV (t : Tag) : List V := [.str t.1, .int t.2.1, .int t.2.2]
theorem tagK_inj {a b : Tag} (h : tagK a = tagK b) : a = b := by
  obtain ⟨x, i, j⟩ := a
  obtain ⟨y, k, l⟩ := b
  simp only [tagK, List.cons.injEq, Sum.inr.injEq, Sum.inl.injEq, and_true] at h
  obtain ⟨rfl, rfl, rfl⟩ := h
  rfl
/-- the sorted tags, texts -/
def sortTg (ts : List Tag) : List Tag := ts.mergeSort (PySem.W.dataLe false tagD)
def sortSt (ss : List Str) : List Str := ss.mergeSort (PySem.W.dataLe false PyData.str)
/-- these are the tags -/
def TgL (H : Hp) : List V → List Tag → Prop := Paired fun v t => ∃ b, v = .ref b ∧ H b = some (.tup (tagV t))
theorem TgL.dqs {H : Hp} {vs : List V} {ts : List Tag} (h : TgL H vs ts) : Dqs H vs (ts.map tagD) := by
  unfold TgL at h
  induction h with
  | nil => exact .nil
  | cons h t ih =>
    obtain ⟨b, rfl, hb⟩ := h
    exact .cons (.tup hb (.cons (.str _) (.cons (.int _) (.cons (.int _) .nil)))) ih
theorem sortTg_perm {ts us : List Tag} (p : ts.Perm us) : sortTg ts = sortTg us := by
  have tl := PySem.W.sortLe_total (PyProof.Rows.listOrd PyProof.Rows.itemOrd) false fun t : Tag => PySem.W.keyToks (tagD t)
  have anti : ∀ a b : Tag, PySem.W.dataLe false tagD a b = true → PySem.W.dataLe false tagD b a = true → a = b := by
    intro a b h1 h2
    have q := (PyProof.Rows.listOrd PyProof.Rows.itemOrd).total (PySem.W.keyToks (tagD a)) (PySem.W.keyToks (tagD b)) (by simpa [PySem.W.dataLe, PySem.W.sortLe] using h2) (by simpa [PySem.W.dataLe, PySem.W.sortLe] using h1)
    obtain ⟨x, i, j⟩ := a
    obtain ⟨y, k, l⟩ := b
    simp only [tagD, PySem.W.keyToks, PySem.W.keyToksAll, List.cons_append, List.nil_append, List.cons.injEq, Sum.inr.injEq, Sum.inl.injEq, and_true, true_and] at q
    obtain ⟨q1, q2, q3⟩ := q
    rw [PySem.W.str_of_cps q1, q2, q3]
  refine List.Perm.eq_of_pairwise (le := fun a b => PySem.W.dataLe false tagD a b = true) (fun a b _ _ => anti a b) (PySem.W.sort_pairwise tl ts) (PySem.W.sort_pairwise tl us) ?_
  exact (List.mergeSort_perm ts _).trans (p.trans (List.mergeSort_perm us _).symm)
section
open PySem.W PyProof.V
variable {prog : Program} {w : World} {A : Around} {E : Value → Shared → Prop} {s : Shared} {T : String} {r d : Addr} {n : Nat} {P : Nat → Value → Prop} {OK : Heap → Prop} {Q : Value → Shared → Prop}
/-- sorted of what is collected: the sort of a new list is left -/
theorem sorted_raw (K : KdlSrc prog w T r d n P OK) (hA : A.handled = none) (ok : OK s.heap) (hn : n ≤ sizeLine)
    (k : ∀ (h1 : Heap) (tk : Nat) (vs : List Value), (∀ b o, s.heap.get? b = some o → h1.get? b = some o) → vs.length = n → (∀ (j : Nat) (v : Value), vs[j]? = some v → P j v) →
      wpAny (model prog w) A.in1 (call (.builtin "list.sort") [.ref h1.objs.size]) (fun _ s' => Q (.ref h1.objs.size) s') E { s with heap := h1.push (seqObj "list" vs.toArray 0), toks := tk }) :
    wpAny (model prog w) A (call (.builtin "sorted") [.ref r]) Q E s := by
  refine call_function_entry PyProof.Rows.kind_sorted PyProof.Rows.plain_sorted PyProof.Rows.entry_sorted (PyProof.Rows.args_sorted1 _) ?_
  unfold Builtin.«sorted»
  refine wpAny_bind (m := checkCount "sorted" 1 1 _) (wpAny_pure (wpAny_bind (kdu_collect (A := A.in1) K hA ok hn fun h1 tk acc kp got => ?_)))
  have e : acc.toList.length = n := by
    rw [Array.length_toList]
    exact got.1
  have g := k h1 tk acc.toList kp e fun j v z => got.2 j v (by rw [← Array.getElem?_toList]; exact z)
  exact wpAny_bind (wpAny_newList (wpAny_bind (wpAny_holding (wpAny_mono g (fun _ s' x => wpAny_pure ⟨_, rfl, x⟩) fun _ _ z => z))) (by rw [e]; exact hn))
end
theorem paired_at {α β : Type} {R : α → β → Prop} {xs : List α} {ys : List β} (h : Paired R xs ys) : ∀ {i : Nat} {x : α} {y : β}, xs[i]? = some x → ys[i]? = some y → R x y := by
  induction h with
  | nil => intro i x y h1 h2; simp at h1
  | cons h t ih =>
    intro i x y h1 h2
    cases i with
    | zero =>
      simp at h1 h2
      rw [← h1, ← h2]
      exact h
    | succ i => exact ih (i := i) (by simpa using h1) (by simpa using h2)
theorem eachis_of {α β : Type} {R : α → β → Prop} : ∀ {xs : List α} {ys : List β}, xs.length = ys.length → (∀ (i : Nat) x y, xs[i]? = some x → ys[i]? = some y → R x y) → PySem.W.EachIs R xs ys
  | [], [], _, _ => .nil
  | [], _ :: _, h, _ => by simp at h
  | _ :: _, [], h, _ => by simp at h
  | x :: xs, y :: ys, h, k => .cons (k 0 x y rfl rfl) (eachis_of (by simpa using h) fun i a b h1 h2 => k (i + 1) a b (by simpa using h1) (by simpa using h2))
theorem tags_alike (ts : List Tag) : PySem.W.AllAlike (ts.map tagD) := PySem.W.AllAlike.of fun b b' => by simp [PySem.W.alike, PySem.W.alikeAll]
theorem tags_sortable (ts : List Tag) : PySem.W.Sortable (ts.map tagD) := PySem.W.Sortable.tuples fun b => ⟨_, _, rfl⟩
theorem vals_three {x y z : V} {us : List Value} (r : Vals [x, y, z] us) : ∃ u w t, us = [u, w, t] ∧ RelV x u ∧ RelV y w ∧ RelV z t := by
  cases r with
  | cons r1 r =>
  cases r with
  | cons r2 r =>
  cases r with
  | cons r3 r =>
  cases r
  exact ⟨_, _, _, rfl, r1, r2, r3⟩
theorem tag_reads {h : Heap} {b : Addr} {its : List Value} {t : Tag} (i : IsTup h b its.toArray) (r : Vals (tagV t) its) : Reads h (.ref b) (tagD t) [] := by
  obtain ⟨o, ho, hc, n, hd⟩ := i
  obtain ⟨u1, u2, u3, rfl, r1, r2, r3⟩ := vals_three r
  obtain ⟨t1, rfl⟩ := r1
  obtain ⟨t2, rfl⟩ := r2
  obtain ⟨t3, rfl⟩ := r3
  exact .tuple ho hc hd (.cons (as := []) (.str _ _) (.cons (as := []) (.int _ _) (.cons (as := []) (.int _ _) .nil)))
/-- the entries' keys of a dict whose keys are tags -/
theorem dt_keys {X : Cx} {pins : List (Addr × Obj)} {σ : L2.St} {H : Hp} {s : Shared} {a : Addr} {kvs : List (List Key × V)} {ts : List Tag} (I : Inv X pins σ H s) (e : Rd H a (.dT kvs)) (hk : kvs.map (·.1) = ts.map tagK) :
    ∃ es ep, s.heap.DictRaw a es ep ∧ (a == sysModules) = false ∧ es.size = ts.length ∧ es.size ≤ sizeLine ∧ ∀ (j : Nat) (v : Value) (t : Tag), (∃ h : j < es.size, v = es[j].key) → ts[j]? = some t → ∃ b, v = .ref b ∧ H b = some (.tup (tagV t)) := by
  obtain ⟨z, hd, xs, rel, o, es, ep, ho, hx, hdat, he, his, nd⟩ := dt_rd I.hok e
  have l1 : xs.length = es.size := by
    have q := congrArg List.length he
    rw [List.length_map, Array.length_toList] at q
    exact q.symm
  have l2 : kvs.length = xs.length := Paired.length rel
  have l3 : kvs.length = ts.length := by
    have q := congrArg List.length hk
    rwa [List.length_map, List.length_map] at q
  refine ⟨es, ep, ⟨o, ho, hx, hdat⟩, hd, by omega, by omega, ?_⟩
  rintro j v t ⟨hj, rfl⟩ ht
  have hjx : j < xs.length := by omega
  have hjk : j < kvs.length := by omega
  obtain ⟨h1, h2, _⟩ := paired_at rel (List.getElem?_eq_getElem hjk) (List.getElem?_eq_getElem hjx)
  have ek : kvs[j].1 = tagK t := by
    have q := congrArg (fun l : List (List Key) => l[j]?) hk
    simp only [List.getElem?_map, ht, List.getElem?_eq_getElem hjk, Option.map_some, Option.some.injEq] at q
    exact q
  have ee : es[j].key = .ref xs[j].2.1 := by
    have q := congrArg (fun l : List DictEntry => l[j]?) he
    simp only [List.getElem?_map, Array.getElem?_toList, Array.getElem?_eq_getElem hj, List.getElem?_eq_getElem hjx, Option.map_some, Option.some.injEq] at q
    rw [q]
    rfl
  refine ⟨_, ee, ?_⟩
  rw [h2, ek]
  rfl
theorem txts_alike (ts : List Str) : PySem.W.AllAlike (ts.map PyData.str) := PySem.W.AllAlike.of fun b b' => by simp [PySem.W.alike]
theorem txts_sortable (ts : List Str) : PySem.W.Sortable (ts.map PyData.str) := PySem.W.Sortable.others fun b => ⟨(fun z => nomatch z), fun xs z => nomatch z⟩
/-- the same of a dict whose keys are texts -/
theorem dk_keys {X : Cx} {pins : List (Addr × Obj)} {σ : L2.St} {H : Hp} {s : Shared} {a : Addr} {kvs : List (Key × V)} {ss : List Str} (I : Inv X pins σ H s) (e : Rd H a (.dK kvs)) (hk : kvs.map (·.1) = ss.map Sum.inr) :
    ∃ es ep, s.heap.DictRaw a es ep ∧ (a == sysModules) = false ∧ es.size = ss.length ∧ es.size ≤ sizeLine ∧ ∀ (j : Nat) (v : Value) (t : Str), (∃ h : j < es.size, v = es[j].key) → ss[j]? = some t → ∃ n, v = .str t n := by
  obtain ⟨z, hd, vs, rel, dd⟩ := dk_rd I.hok e
  obtain ⟨es, ep, raw, hsz, hp⟩ := dd.raw
  have l2 : kvs.length = vs.length := KV.length rel
  have l3 : kvs.length = ss.length := by
    have q := congrArg List.length hk
    rwa [List.length_map, List.length_map] at q
  refine ⟨es, ep, raw, hd, by omega, by omega, ?_⟩
  rintro j v t ⟨hj, rfl⟩ ht
  have hjv : j < vs.length := by omega
  have ek : vs[j].1 = Sum.inr t := by
    have q0 := KV.keys rel
    rw [hk] at q0
    have q := congrArg (fun l : List Key => l[j]?) q0
    simp only [List.getElem?_map, ht, List.getElem?_eq_getElem hjv, Option.map_some, Option.some.injEq] at q
    exact q.symm
  obtain ⟨h1, _⟩ := hp j hj vs[j].1 vs[j].2 (List.getElem?_eq_getElem hjv)
  rw [ek] at h1
  rcases keyIs_shape (show keyIs (Sum.inr t) es[j].key = true from h1) with ⟨i, n, q1, q2⟩ | ⟨x, n, q1, q2⟩
  · cases q1
  · cases q1
    exact ⟨n, q2⟩
/-- sorted(d), the keys tags -/
def sortdq (K : PySem.W.Frag) : List V → Hp → VK → Prop := fun vs H Q => ∃ (a : Addr), vs = [V.ref a] ∧
  ((∃ (kvs : List (List Key × V)) (ts : List Tag), Rd H a (.dT kvs) ∧ kvs.map (·.1) = ts.map tagK ∧ ∀ ys p H', H p = none → TgL H ys (sortTg ts) → Same H H' → H' p = some (.lst ys) → Q (.ref p) H') ∨
   ∃ (kvs : List (Key × V)) (ss : List Str), Rd H a (.dK kvs) ∧ kvs.map (·.1) = ss.map Sum.inr ∧ ∀ p H', H p = none → Same H H' → H' p = some (.lst ((sortSt ss).map V.str)) → Q (.ref p) H')
def strVs : List V → List Str := fun vs => vs.map fun v => match v with | .str s => s | _ => Str.ofString ""
theorem vals_refs {H : Hp} : ∀ {out : List Value} {ts : List Tag}, PySem.W.EachIs (fun v t => ∃ b, v = Value.ref b ∧ H b = some (.tup (tagV t))) out ts → ∃ ys, Vals ys out ∧ TgL H ys ts
  | _, _, .nil => ⟨[], .nil, .nil⟩
  | _, _, .cons ⟨b, e, hb⟩ r => by
    obtain ⟨ys, h1, h2⟩ := vals_refs r
    subst e
    exact ⟨.ref b :: ys, .cons rfl h1, .cons ⟨b, rfl, hb⟩ h2⟩
theorem vals_txts : ∀ {out : List Value} {ss : List Str}, PySem.W.EachIs (fun v s => ∃ t, v = Value.str s t) out ss → Vals (ss.map V.str) out
  | _, _, .nil => .nil
  | _, _, .cons h r => .cons h (vals_txts r)
theorem cr_sortD {X : Cx} (hc : X.calm = true) (hu : X.A.units + 64 < cLine) : CallR X (.builtin "sorted") (sortdq X.K) := by
  intro pins s σ H xs us Q I r h
  obtain ⟨a, rfl, h⟩ := h
  obtain ⟨u, rfl, ru⟩ := vals1 r
  obtain rfl : u = Value.ref a := ru
  rcases h with ⟨kvs, ts, e, hk, q⟩ | ⟨kvs, ss, e, hk, q⟩
  · obtain ⟨es, ep, raw, lo, hl, hz, key⟩ := dt_keys I e hk
    refine sorted_raw (KdlSrc.rawDict (es := es) (ep := ep) lo) (I.ok.hd hc) raw hz fun h1 tk vs kp hv hj => ?_
    have I1 : Inv X pins σ H { s with heap := h1, toks := tk } := I.kept (t' := tk) kp
    have each : PySem.W.EachIs (fun v t => ∃ b, v = Value.ref b ∧ H b = some (.tup (tagV t))) vs ts := eachis_of (by omega) fun i v t h2 h3 => key i v t (hj i v h2) h3
    have hpush : ∀ b o, h1.get? b = some o → (h1.push (seqObj "list" vs.toArray 0)).get? b = some o := fun b o z => Heap.get?_push_of_some _ z
    refine PySem.W.list_sort_data (enc := tagD) (bs := ts) (vs := vs) (n := 0) (Heap.get?_push_size _ rfl) each (each.mono fun v t hvt => ?_) (tags_alike ts) (tags_sortable ts) (by omega) (fun b _ => ?_) fun out ho eo => ?_
    · obtain ⟨b, rfl, hb⟩ := hvt
      obtain ⟨_, its, r2, it⟩ := (show ObjOk X.prog X.w H h1 b (.tup (tagV t)) from I1.hok b _ hb)
      exact ⟨[], tag_reads (it.keeps hpush) r2, List.not_mem_nil⟩
    · show X.A.units + 1 + 1 + (tagD b).depth < cLine
      have d1 : (tagD b).depth ≤ 1 := by simp [tagD, PyData.depth, PyData.depthAll]
      omega
    · obtain ⟨ys, ry, ty⟩ := vals_refs eo
      have hn : H h1.objs.size = none := I1.hok.fresh (Nat.le_refl _)
      obtain ⟨ep', he'⟩ := PyProof.Rows.sortedHeap_at (vs := vs) (out := List.toArray out) (h := h1.push (seqObj "list" vs.toArray 0)) (a := h1.objs.size) (Heap.get?_push_size _ rfl)
      have s0 : s.heap.get? h1.objs.size = none := by
        cases z : s.heap.get? h1.objs.size with
        | none => rfl
        | some o => exact absurd (Heap.lt_size (kp _ _ z)) (Nat.lt_irrefl _)
      refine ⟨.ref h1.objs.size, upd H h1.objs.size (.lst ys), I.laidN (t' := tk) (fun b o z => ?_) s0 hn ⟨?_, out, ep', ry, by simpa using he'⟩, rfl, q ys _ _ hn ty (same_new hn) upd_same⟩
      · have z1 := hpush _ _ (kp _ _ z)
        rw [PyProof.Rows.sortedHeap_old (fun w => by rw [w, s0] at z; cases z) (Heap.lt_size z1)]
        exact z1
      · have := ry.length
        omega
  · obtain ⟨es, ep, raw, lo, hl, hz, key⟩ := dk_keys I e hk
    refine sorted_raw (KdlSrc.rawDict (es := es) (ep := ep) lo) (I.ok.hd hc) raw hz fun h1 tk vs kp hv hj => ?_
    have I1 : Inv X pins σ H { s with heap := h1, toks := tk } := I.kept (t' := tk) kp
    have each : PySem.W.EachIs (fun v t => ∃ n, v = Value.str t n) vs ss := eachis_of (by omega) fun i v t h2 h3 => key i v t (hj i v h2) h3
    have hpush : ∀ b o, h1.get? b = some o → (h1.push (seqObj "list" vs.toArray 0)).get? b = some o := fun b o z => Heap.get?_push_of_some _ z
    refine PySem.W.list_sort_data (enc := PyData.str) (bs := ss) (vs := vs) (n := 0) (Heap.get?_push_size _ rfl) each (each.mono fun v t hvt => ?_) (txts_alike ss) (txts_sortable ss) (by omega) (fun b _ => ?_) fun out ho eo => ?_
    · obtain ⟨n, rfl⟩ := hvt
      exact ⟨[], .str _ _, List.not_mem_nil⟩
    · show X.A.units + 1 + 1 + (PyData.str b).depth < cLine
      have d1 : (PyData.str b).depth = 0 := by simp [PyData.depth]
      omega
    · have ry := vals_txts eo
      have hn : H h1.objs.size = none := I1.hok.fresh (Nat.le_refl _)
      obtain ⟨ep', he'⟩ := PyProof.Rows.sortedHeap_at (vs := vs) (out := List.toArray out) (h := h1.push (seqObj "list" vs.toArray 0)) (a := h1.objs.size) (Heap.get?_push_size _ rfl)
      have s0 : s.heap.get? h1.objs.size = none := by
        cases z : s.heap.get? h1.objs.size with
        | none => rfl
        | some o => exact absurd (Heap.lt_size (kp _ _ z)) (Nat.lt_irrefl _)
      refine ⟨.ref h1.objs.size, upd H h1.objs.size (.lst ((sortSt ss).map V.str)), I.laidN (t' := tk) (fun b o z => ?_) s0 hn ⟨?_, out, ep', ry, by simpa using he'⟩, rfl, q _ _ hn (same_new hn) upd_same⟩
      · have z1 := hpush _ _ (kp _ _ z)
        rw [PyProof.Rows.sortedHeap_old (fun w => by rw [w, s0] at z; cases z) (Heap.lt_size z1)]
        exact z1
      · have l1 := ry.length
        have l2 : ((sortSt ss).map V.str).length = out.length := l1
        omega
/-- list(d), the keys tags: in the order of the entries -/
def listdq (K : PySem.W.Frag) : List V → Hp → VK → Prop := fun vs H Q => ∃ (a : Addr) (kvs : List (List Key × V)) (ts : List Tag), vs = [V.ref a] ∧ Rd H a (.dT kvs) ∧ kvs.map (·.1) = ts.map tagK ∧
  ∀ ys p H', H p = none → TgL H ys ts → Same H H' → H' p = some (.lst ys) → Q (.ref p) H'
theorem call_listD {X : Cx} (hc : X.calm = true) : CallR X (.type "list") (listdq X.K) := by
  intro pins s σ H xs us Q I r h
  obtain ⟨a, kvs, ts, rfl, e, hk, q⟩ := h
  obtain ⟨u, rfl, ru⟩ := vals1 r
  obtain rfl : u = Value.ref a := ru
  obtain ⟨es, ep, raw, lo, hl, hz, key⟩ := dt_keys I e hk
  refine PySem.W.kdl_call (KdlSrc.rawDict (es := es) (ep := ep) lo) (I.ok.hd hc) raw hz fun h' tk acc c kp hd got => ?_
  have each : PySem.W.EachIs (fun v t => ∃ b, v = Value.ref b ∧ H b = some (.tup (tagV t))) acc.toList ts := eachis_of (by rw [Array.length_toList, got.1]; exact hl) fun i v t h2 h3 => key i v t (got.2 i v (by rw [← Array.getElem?_toList]; exact h2)) h3
  obtain ⟨ys, ry, ty⟩ := vals_refs each
  have hn := I.hok.fresh (Nat.le_refl s.heap.objs.size)
  refine ⟨.ref s.heap.objs.size, upd H s.heap.objs.size (.lst ys), I.laid (t' := tk) kp (Nat.le_refl _) ⟨?_, acc.toList, c, ry, by simpa using hd⟩, rfl, q ys _ _ hn ty (same_new hn) upd_same⟩
  have l1 : ys.length = acc.toList.length := ry.length
  have l2 : acc.toList.length = acc.size := Array.length_toList
  have l3 := got.1
  omega
/-! ### two dicts with the same entries, the keys tuples, the values texts -/
section
open PySem.W PyProof.V
variable {prog : Program} {w : World} {A : Around} {E : Value → Shared → Prop} {s : Shared} {K : Type} [DecidableEq K] {knd : HeapKind prog w K} {a b : Addr} {xs ys : List (K × Addr × Value)}
theorem same_dT {nm : String} {Q : Bool → Shared → Prop} (hu : knd.room A) (ha : (a == sysModules) = false) (hb : (b == sysModules) = false) (da : s.heap.DictOfH knd a xs) (db : s.heap.DictOfH knd b ys) (hl : xs.length = ys.length)
    (hit : ∀ x ∈ xs, ∃ p, atKey ys x.1 = some p ∧ SeqAt.EqP prog w A s x.2.2 p.2 true) (h : Q true s) : wpAny (model prog w) A (Builtin.Dict.samePairs nm a b) Q E s := by
  obtain ⟨oa, es, ep, hoa, _, hda, hea, hia, _⟩ := da
  obtain ⟨ob, fs, fp, hob, _, hdb, heb, hib, hnb⟩ := db
  have la : es.size = xs.length := size_of_entries hea
  have lb : fs.size = ys.length := size_of_entries heb
  unfold Builtin.Dict.samePairs Builtin.Dict.showsAll
  rw [ha, hb]
  refine wpAny_bind (wpAny_pure (wpAny_bind (wpAny_pure (wpAny_bind (wpAny_dictEntries hoa hda ?_)))))
  dsimp only
  refine wpAny_bind (wpAny_dictEntries hob hdb ?_)
  have hz : es.size = fs.size := by omega
  rw [hz, if_neg (by simp), ← hz]
  refine wpAny_bind (wpAny_dictEpoch hoa hda (wpAny_bind ?_))
  rw [Std.Legacy.Range.forIn_eq_forIn_range']
  simp only [Std.Legacy.Range.size, Nat.sub_zero, Nat.add_sub_cancel, Nat.div_one]
  refine wpAny_forIn_list _ (fun rest q s' => s' = s ∧ q = (none, ()) ∧ ∀ i ∈ rest, i < es.size) _ ?_ ?_ _ _ ⟨rfl, rfl, fun i hi => by simpa [List.mem_range'] using hi⟩
  · rintro i rest q s' ⟨rfl, rfl, hr⟩
    have hi : i < es.size := hr i List.mem_cons_self
    have hix : i < xs.length := by omega
    refine wpAny_bind (wpAny_dictEntries hoa hda ?_)
    have ee : es[i]? = some (entryOfKey knd xs[i]) := by rw [entry_at hea i, List.getElem?_eq_getElem hix] <;> rfl
    rw [ee]
    obtain ⟨p, hp, heq⟩ := hit xs[i] (List.getElem_mem hix)
    show wpAny _ _ (holding [Value.ref xs[i].2.1, xs[i].2.2] _ >>= _) _ _ _
    refine wpAny_bind (wpAny_holding (wpAny_bind (wpAny_dictFind_heap (k := xs[i].1) hu (hia _ (List.getElem_mem hix)) hob hdb heb hib hnb (fun no => ?_) fun j q hj => ?_)))
    · rw [atKey_none_of_get no] at hp
      cases hp
    · have e1 : atKey ys xs[i].1 = some q := atKey_of_get hnb hj
      rw [hp] at e1
      cases e1
      refine wpAny_bind (wpAny_dictEntries hob hdb ?_)
      have ef : fs[j]? = some (entryOfKey knd (xs[i].1, p)) := by rw [entry_at heb j, hj] <;> rfl
      rw [ef]
      refine wpAny_holding (heq _ _ ?_)
      show wpAny _ _ (if (!true) = true then _ else _) _ _ _
      rw [if_neg (by decide)]
      refine wpAny_bind (wpAny_dictEpoch hoa hda ?_)
      rw [if_neg (by simp)]
      exact wpAny_pure ⟨rfl, rfl, fun c hc => hr c (List.mem_cons_of_mem _ hc)⟩
  · rintro q s' ⟨rfl, rfl, _⟩
    exact wpAny_pure h
theorem ne_dT {Q : Value → Shared → Prop} (hu : A.units < cLine) (hk : knd.room A.in1) (ha : (a == sysModules) = false) (hb : (b == sysModules) = false) (da : s.heap.DictOfH knd a xs) (db : s.heap.DictOfH knd b ys) (hl : xs.length = ys.length)
    (hit : ∀ x ∈ xs, ∃ p, atKey ys x.1 = some p ∧ SeqAt.EqP prog w A.in1 s x.2.2 p.2 true) (h : Q (.bool false) s) : wpAny (model prog w) A (compareOp .NotEq (.ref a) (.ref b)) Q E s := by
  refine wpAny_richCompare_same_room (op := .NotEq) da.typeIs db.typeIs PySem.F.slot_dict_ne (wpAny_call_entry PySem.F.slot_dict_ne da.typeIs PySem.F.entry_dict_ne ?_ (PySem.F.args_dict_ne_2 _ _)) hu
  show wpAny _ _ (Builtin.Dict.dictSlotArgs "__ne__" ⟨[.ref a, .ref b], []⟩ >>= _) _ _ s
  unfold Builtin.Dict.dictSlotArgs
  refine wpAny_bind (wpAny_bind (wpAny_notOrdered_dict da.typeIs ?_))
  show wpAny _ _ (pure (Value.ref a, Value.ref b)) _ _ s
  refine wpAny_pure (wpAny_bind (wpAny_isInstance (T := "dict") db.typeIs PySem.F.sub_dict_dict ?_))
  simp only [Bool.not_true, Bool.false_eq_true, if_false]
  refine wpAny_bind (wpAny_pure (wpAny_bind (wpAny_pure (wpAny_bind (same_dT hk ha hb da db hl hit (wpAny_pure ⟨_, rfl, (fun x => nomatch x), ?_⟩))))))
  exact h
end
/-- d != e, of two such dicts that hold the same -/
def neDq : V → V → Hp → VK → Prop := fun x y H Q => ∃ (a b : Addr) (ks ls : List (List Key × V)), x = .ref a ∧ y = .ref b ∧ H a = some (.dT ks) ∧ H b = some (.dT ls) ∧ ks.length = ls.length ∧ (∀ p ∈ ks, ∃ z : Str, p.2 = .str z ∧ valV ls p.1 = some (.str z)) ∧ Q (.bl false) H
theorem op_neD {X : Cx} (hu : X.A.units + 64 < cLine) : OpR X (compareOp .NotEq) neDq := by
  intro pins s σ H x y v u Q I rx ry h
  obtain ⟨a, b, ks, ls, rfl, rfl, ea, eb, hlen, hp, q⟩ := h
  obtain rfl : v = Value.ref a := rx
  obtain rfl : u = Value.ref b := ry
  obtain ⟨_, ya, xs, ra, da⟩ := dt_of I.hok ea
  obtain ⟨_, yb, ys, rb, db⟩ := dt_of I.hok eb
  have l1 : ks.length = xs.length := Paired.length ra
  have l2 : ls.length = ys.length := Paired.length rb
  refine ne_dT (xs := xs) (ys := ys) (by omega) (tupleKind_room_in1 (by omega)) ya yb da db (by omega) (fun x hx => ?_) ⟨.bl false, H, I, rfl, q⟩
  obtain ⟨j, hj⟩ := List.mem_iff_getElem?.mp hx
  obtain ⟨kv, hkv⟩ : ∃ kv, ks[j]? = some kv := by
    have hlt := (List.getElem?_eq_some_iff.mp hj).1
    exact ⟨_, List.getElem?_eq_getElem (by omega)⟩
  obtain ⟨h1, _, h2⟩ := paired_at ra hkv hj
  obtain ⟨z, e1, e2⟩ := hp kv (List.mem_of_getElem? hkv)
  have rv := KT.val rb kv.1
  rw [e2, h1] at rv
  cases hq : atKey ys x.1 with
  | none =>
    rw [hq] at rv
    exact (show False from rv).elim
  | some p =>
    rw [hq] at rv
    obtain ⟨t2, e4⟩ := (show ∃ t, p.2 = Value.str z t from rv)
    rw [e1] at h2
    obtain ⟨t1, e3⟩ := (show ∃ t, x.2.2 = Value.str z t from h2)
    refine ⟨p, rfl, ?_⟩
    rw [e3, e4]
    have q0 := SeqAt.EqAt.str_str (A := X.A.in1) (s := s) z t1 z t2
    rw [beq_self_eq_true] at q0
    exact fun E Q hQ => q0 X.prog X.w _ _ hQ
end Dk

/-! Association lists, and the readings of dicts as such. -/
namespace Dk
open PySem PySem.Spec PyProof.Rows L2
section
variable {κ α β : Type} [DecidableEq κ]
def getA (l : List (κ × α)) (k : κ) : Option α := (l.find? fun e => decide (e.1 = k)).map (·.2)
def setA (l : List (κ × α)) (k : κ) (x : α) : List (κ × α) := if (getA l k).isSome = true then l.map (fun e => if e.1 = k then (e.1, x) else e) else l ++ [(k, x)]
def delA (l : List (κ × α)) (k : κ) : List (κ × α) := l.filter fun e => decide (e.1 ≠ k)
abbrev keysA (l : List (κ × α)) : List κ := l.map (·.1)
theorem getA_nil {k : κ} : getA ([] : List (κ × α)) k = none := rfl
theorem getA_pos {e : κ × α} {l : List (κ × α)} {k : κ} (h : e.1 = k) : getA (e :: l) k = some e.2 := by simp [getA, List.find?_cons, h]
theorem getA_neg {e : κ × α} {l : List (κ × α)} {k : κ} (h : ¬ e.1 = k) : getA (e :: l) k = getA l k := by simp [getA, List.find?_cons, h]
theorem getA_mem : ∀ {l : List (κ × α)} {k : κ} {x : α}, getA l k = some x → (k, x) ∈ l
  | e :: l, k, x, h => by
    by_cases q : e.1 = k
    · rw [getA_pos q] at h
      cases h
      rw [← q]
      exact List.mem_cons_self
    · rw [getA_neg q] at h
      exact List.mem_cons_of_mem _ (getA_mem h)
theorem getA_of_mem : ∀ {l : List (κ × α)} {k : κ} {x : α}, (keysA l).Nodup → (k, x) ∈ l → getA l k = some x
  | e :: l, k, x, hn, h => by
    rw [keysA, List.map_cons, List.nodup_cons] at hn
    rcases List.mem_cons.mp h with q | q
    · subst q
      exact getA_pos rfl
    · rw [getA_neg fun z => hn.1 (by rw [z]; exact List.mem_map.mpr ⟨_, q, rfl⟩)]
      exact getA_of_mem hn.2 q
theorem getA_isSome : ∀ {l : List (κ × α)} {k : κ}, (getA l k).isSome = true ↔ k ∈ keysA l
  | [], k => by simp [getA_nil]
  | e :: l, k => by
    by_cases q : e.1 = k
    · rw [getA_pos q]
      simp [q]
    · rw [getA_neg q, getA_isSome]
      show k ∈ keysA l ↔ k ∈ e.1 :: keysA l
      rw [List.mem_cons]
      exact ⟨.inr, fun z => z.resolve_left fun w => q w.symm⟩
theorem getA_none {l : List (κ × α)} {k : κ} : getA l k = none ↔ k ∉ keysA l := by
  rw [← getA_isSome]
  cases getA l k <;> simp
theorem getA_repl {k j : κ} {x : α} : ∀ {l : List (κ × α)}, getA (l.map fun e => if e.1 = k then (e.1, x) else e) j = if j = k then (getA l j).map fun _ => x else getA l j
  | [] => by simp [getA_nil]
  | e :: l => by
    rw [List.map_cons]
    by_cases h : e.1 = k
    · rw [if_pos h]
      by_cases q : e.1 = j
      · rw [getA_pos (e := (e.1, x)) q, getA_pos q, if_pos (q.symm.trans h)] <;> rfl
      · rw [getA_neg (e := (e.1, x)) q, getA_neg q, getA_repl]
    · rw [if_neg h]
      by_cases q : e.1 = j
      · rw [getA_pos q, getA_pos q, if_neg fun z => h (q.trans z)]
      · rw [getA_neg q, getA_neg q, getA_repl]
theorem getA_snoc {k j : κ} {x : α} : ∀ {l : List (κ × α)}, getA l k = none → getA (l ++ [(k, x)]) j = if j = k then some x else getA l j
  | [], _ => by
    by_cases q : k = j
    · rw [if_pos q.symm]
      exact getA_pos (e := (k, x)) q
    · rw [if_neg fun z => q z.symm]
      exact getA_neg (e := (k, x)) q
  | e :: l, h => by
    have hk : ¬ e.1 = k := fun z => by rw [getA_pos z] at h; cases h
    rw [getA_neg hk] at h
    rw [List.cons_append]
    by_cases q : e.1 = j
    · rw [getA_pos q, getA_pos q, if_neg fun z => hk (q.trans z)]
    · rw [getA_neg q, getA_neg q, getA_snoc h]
theorem getA_set {l : List (κ × α)} {k j : κ} {x : α} : getA (setA l k x) j = if j = k then some x else getA l j := by
  unfold setA
  by_cases h : (getA l k).isSome = true
  · rw [if_pos h, getA_repl]
    by_cases q : j = k
    · rw [if_pos q, if_pos q, q]
      obtain ⟨y, e⟩ := Option.isSome_iff_exists.mp h
      rw [e] <;> rfl
    · rw [if_neg q, if_neg q]
  · rw [if_neg h]
    refine getA_snoc ?_
    cases e : getA l k with
    | none => rfl
    | some y => rw [e] at h; exact absurd rfl h
theorem getA_del {k j : κ} : ∀ {l : List (κ × α)}, getA (delA l k) j = if j = k then none else getA l j
  | [] => by simp [delA, getA_nil]
  | e :: l => by
    unfold delA
    rw [List.filter_cons]
    by_cases h : e.1 = k
    · rw [if_neg (by simp [h])]
      have ih : getA (delA l k) j = if j = k then none else getA l j := getA_del
      unfold delA at ih
      rw [ih]
      by_cases q : j = k
      · rw [if_pos q, if_pos q]
      · rw [if_neg q, if_neg q, getA_neg fun z => q (z.symm.trans h)]
    · rw [if_pos (by simp [h])]
      have ih : getA (delA l k) j = if j = k then none else getA l j := getA_del
      unfold delA at ih
      by_cases q : e.1 = j
      · rw [getA_pos q, getA_pos q, if_neg fun z => h (q.trans z)]
      · rw [getA_neg q, getA_neg q, ih]
theorem keysA_set {l : List (κ × α)} {k : κ} {x : α} : keysA (setA l k x) = if k ∈ keysA l then keysA l else keysA l ++ [k] := by
  unfold setA
  by_cases h : (getA l k).isSome = true
  · rw [if_pos h, if_pos (getA_isSome.mp h), keysA, List.map_map]
    refine List.map_congr_left fun e _ => ?_
    show (if e.1 = k then (e.1, x) else e).1 = e.1
    split <;> rfl
  · rw [if_neg h, if_neg fun z => h (getA_isSome.mpr z), keysA, List.map_append] <;> rfl
theorem keysA_del {l : List (κ × α)} {k : κ} : keysA (delA l k) = (keysA l).filter fun j => decide (j ≠ k) := by
  unfold delA keysA
  rw [List.filter_map] <;> rfl
theorem nodup_set {l : List (κ × α)} {k : κ} {x : α} (h : (keysA l).Nodup) : (keysA (setA l k x)).Nodup := by
  rw [keysA_set]
  split
  · exact h
  · rename_i n
    refine List.nodup_append.mpr ⟨h, List.pairwise_singleton _ _, fun a ha b hb => ?_⟩
    rw [List.mem_singleton.mp hb]
    exact fun z => n (z ▸ ha)
theorem nodup_del {l : List (κ × α)} {k : κ} (h : (keysA l).Nodup) : (keysA (delA l k)).Nodup := by
  rw [keysA_del]
  exact h.sublist List.filter_sublist
theorem len_set (l : List (κ × α)) (k : κ) (x : α) : (setA l k x).length ≤ l.length + 1 := by
  unfold setA
  split
  · rw [List.length_map]
    omega
  · rw [List.length_append, List.length_cons, List.length_nil]
    omega
theorem len_del (l : List (κ × α)) (k : κ) : (delA l k).length ≤ l.length := List.length_filter_le _ _
theorem mem_setN {l : List (κ × α)} {k : κ} {x : α} {e : κ × α} (h : e ∈ setA l k x) : e = (k, x) ∨ (e ∈ l ∧ e.1 ≠ k) := by
  unfold setA at h
  split at h
  · obtain ⟨d, hd, q⟩ := List.mem_map.mp h
    by_cases z : d.1 = k
    · rw [if_pos z] at q
      left
      rw [← q, z]
    · rw [if_neg z] at q
      right
      rw [← q]
      exact ⟨hd, z⟩
  · rename_i n
    rcases List.mem_append.mp h with z | z
    · exact .inr ⟨z, fun w => n (getA_isSome.mpr (by rw [← w]; exact List.mem_map.mpr ⟨_, z, rfl⟩))⟩
    · exact .inl (List.mem_singleton.mp z)
theorem mem_set {l : List (κ × α)} {k : κ} {x : α} {e : κ × α} (h : e ∈ setA l k x) : e = (k, x) ∨ e ∈ l := (mem_setN h).imp id fun z => z.1
theorem mem_del {l : List (κ × α)} {k : κ} {e : κ × α} (h : e ∈ delA l k) : e ∈ l ∧ e.1 ≠ k := ⟨(List.mem_filter.mp h).1, by simpa using (List.mem_filter.mp h).2⟩
theorem set_set {l : List (κ × α)} {k : κ} {x y : α} : setA (setA l k x) k y = setA l k y := by
  have h1 : (getA (setA l k x) k).isSome = true := by
    rw [getA_set, if_pos rfl]
    rfl
  rw [setA, if_pos h1]
  unfold setA
  by_cases h : (getA l k).isSome = true
  · rw [if_pos h, if_pos h, List.map_map]
    refine List.map_congr_left fun e _ => ?_
    show (if (if e.1 = k then (e.1, x) else e).1 = k then ((if e.1 = k then (e.1, x) else e).1, y) else (if e.1 = k then (e.1, x) else e)) = _
    by_cases q : e.1 = k
    · rw [if_pos q, if_pos q, if_pos q]
    · rw [if_neg q, if_neg q]
  · rw [if_neg h, if_neg h, List.map_append]
    have e1 : l.map (fun e => if e.1 = k then (e.1, y) else e) = l.map id := List.map_congr_left fun e he => if_neg fun z => h (getA_isSome.mpr (by rw [← z]; exact List.mem_map.mpr ⟨_, he, rfl⟩))
    rw [e1, List.map_id, List.map_cons, List.map_nil, if_pos rfl]
/-- another type of values -/
theorem getA_map {f : α → β} {k : κ} : ∀ {l : List (κ × α)}, getA (l.map fun e => (e.1, f e.2)) k = (getA l k).map f
  | [] => rfl
  | e :: l => by
    rw [List.map_cons]
    by_cases q : e.1 = k
    · rw [getA_pos (e := (e.1, f e.2)) q, getA_pos q] <;> rfl
    · rw [getA_neg (e := (e.1, f e.2)) q, getA_neg q, getA_map]
theorem setA_map {f : α → β} {k : κ} {x : α} {l : List (κ × α)} : (setA l k x).map (fun e => (e.1, f e.2)) = setA (l.map fun e => (e.1, f e.2)) k (f x) := by
  unfold setA
  rw [getA_map, Option.isSome_map]
  split
  · rw [List.map_map, List.map_map]
    refine List.map_congr_left fun e _ => ?_
    show ((if e.1 = k then (e.1, x) else e).1, f (if e.1 = k then (e.1, x) else e).2) = if e.1 = k then (e.1, f x) else (e.1, f e.2)
    split <;> rfl
  · rw [List.map_append] <;> rfl
theorem delA_map {f : α → β} {k : κ} {l : List (κ × α)} : (delA l k).map (fun e => (e.1, f e.2)) = delA (l.map fun e => (e.1, f e.2)) k := by
  unfold delA
  rw [List.filter_map] <;> rfl
/-- as a list of the layer -/
theorem valV_mapG {κ2 : Type} [DecidableEq κ2] {f : κ → κ2} (inj : ∀ a b, f a = f b → a = b) {g : α → V} {k : κ} : ∀ {l : List (κ × α)}, valV (l.map fun e => (f e.1, g e.2)) (f k) = (getA l k).map g
  | [] => rfl
  | e :: l => by
    rw [List.map_cons]
    by_cases q : e.1 = k
    · rw [valV_pos (p := (f e.1, g e.2)) (by rw [q]), getA_pos q] <;> rfl
    · rw [valV_neg (p := (f e.1, g e.2)) (fun z => q (inj _ _ z)), getA_neg q, valV_mapG inj]
theorem putK_mapG {κ2 : Type} [DecidableEq κ2] {f : κ → κ2} (inj : ∀ a b, f a = f b → a = b) {g : α → V} {k : κ} {x : α} {l : List (κ × α)} : putK (l.map fun e => (f e.1, g e.2)) (f k) (g x) = (setA l k x).map fun e => (f e.1, g e.2) := by
  unfold putK setA
  rw [valV_any, valV_mapG inj, Option.isSome_map]
  split
  · rw [List.map_map, List.map_map]
    refine List.map_congr_left fun e _ => ?_
    show (if f e.1 = f k then (f e.1, g x) else (f e.1, g e.2)) = (f (if e.1 = k then (e.1, x) else e).1, g (if e.1 = k then (e.1, x) else e).2)
    by_cases q : e.1 = k
    · rw [if_pos q, if_pos (by rw [q])]
    · rw [if_neg q, if_neg fun z => q (inj _ _ z)]
  · rw [List.map_append] <;> rfl
theorem dropK_mapG {κ2 : Type} [DecidableEq κ2] {f : κ → κ2} (inj : ∀ a b, f a = f b → a = b) {g : α → V} {k : κ} {l : List (κ × α)} : dropK (l.map fun e => (f e.1, g e.2)) (f k) = (delA l k).map fun e => (f e.1, g e.2) := by
  unfold dropK delA
  rw [List.filter_map]
  refine congrArg _ (List.filter_congr fun e _ => ?_)
  show decide (f e.1 ≠ f k) = decide (e.1 ≠ k)
  by_cases q : e.1 = k
  · rw [q]
    simp
  · have q2 : f e.1 ≠ f k := fun z => q (inj _ _ z)
    rw [decide_eq_true q2, decide_eq_true (show e.1 ≠ k from q)]
end
/-- a dict with tags, with texts as keys -/
abbrev tgO {α : Type} (g : α → V) (l : List (Tag × α)) : HO := .dT (l.map fun e => (tagK e.1, g e.2))
abbrev txO {α : Type} (g : α → V) (l : List (Str × α)) : HO := .dK (l.map fun e => (Sum.inr e.1, g e.2))
theorem inr_inj : ∀ a b : Str, (Sum.inr a : Key) = Sum.inr b → a = b := fun a b h => Sum.inr.inj h
theorem tag_inj : ∀ a b : Tag, tagK a = tagK b → a = b := fun a b h => tagK_inj h
theorem Dq.tag {H : Hp} {y : V} {t : Tag} (h : Dq H y (tagD t)) : ∃ b, y = .ref b ∧ H b = some (.tup (tagV t)) := by
  cases h with
  | tup ha hs =>
    cases hs with
    | cons h1 hs =>
    cases hs with
    | cons h2 hs =>
    cases hs with
    | cons h3 hs =>
    cases hs
    cases h1
    cases h2
    cases h3
    exact ⟨_, rfl, ha⟩
theorem mk_tag {H : Hp} {b : Addr} {t : Tag} (h : H b = some (.tup (tagV t))) : Dq H (.ref b) (tagD t) := .tup h (.cons (.str _) (.cons (.int _) (.cons (.int _) .nil)))
def dgetq (x y : V) (H : Hp) (Q : VK) : Prop := ∃ a v, x = .ref a ∧ DGet H a y (some v) ∧ Q v H
def dinq (y x : V) (H : Hp) (Q : VK) : Prop := ∃ a o, x = .ref a ∧ DGet H a y o ∧ Q (.bl o.isSome) H
def dninq (y x : V) (H : Hp) (Q : VK) : Prop := ∃ a o, x = .ref a ∧ DGet H a y o ∧ Q (.bl (!o.isSome)) H
def dputq (x y v : V) (σ : L2.St) (D : Ends) (H : Hp) : Prop := ∃ a H4, x = .ref a ∧ DPut H a y v H4 ∧ D.nx σ H4
def ddelq (x y : V) (σ : L2.St) (D : Ends) (H : Hp) : Prop := ∃ a o H3, x = .ref a ∧ DDrop H a y o H3 ∧ D.nx σ H3
def isdq (x : V) (H : Hp) (P : Addr → Prop) : Prop := ∃ a, x = .ref a ∧ IsD H a ∧ P a
def dpopq (a : Addr) (y : V) (H : Hp) (Q : VK) : Prop := ∃ o H3, DDrop H a y o H3 ∧ Q o H3
def dgetdq (a : Addr) (y z : V) (H : Hp) (Q : VK) : Prop := ∃ o, DGet H a y o ∧ Q (o.getD z) H
section
variable {K : PySem.W.Frag} {σ : L2.St} {H : Hp} {Q : VK} {D : Ends} {td ty tv tz : TE} {a : Addr} {y v z : V} {α : Type} {g : α → V} {lt : List (Tag × α)} {ls : List (Str × α)} {t : Tag} {s : Str} {x : α}
theorem r_dget (q : td σ H fun x H1 => ty σ H1 fun y H2 => dgetq x y H2 Q) : tDGet td ty σ H Q := q
theorem r_din (q : ty σ H fun y H1 => td σ H1 fun x H2 => dinq y x H2 Q) : tDIn ty td σ H Q := q
theorem r_dnin (q : ty σ H fun y H1 => td σ H1 fun x H2 => dninq y x H2 Q) : tDNotIn ty td σ H Q := q
theorem r_dput (q : tv σ H fun v H1 => td σ H1 fun x H2 => ty σ H2 fun y H3 => dputq x y v σ D H3) : sDPut td ty tv D σ H := q
theorem r_ddel (q : td σ H fun x H1 => ty σ H1 fun y H2 => ddelq x y σ D H2) : sDDelU td ty D σ H := q
theorem r_dpop (q : td σ H fun x H1 => isdq x H1 fun a => ty σ H1 fun y H2 => dpopq a y H2 Q) : tDPopU td ty σ H Q := q
theorem r_dget2 (q : td σ H fun x H1 => isdq x H1 fun a => ty σ H1 fun y H2 => tz σ H2 fun z H3 => dgetdq a y z H3 Q) : tDGet2 td ty tz σ H Q := q
theorem r_dget1 (q : td σ H fun x H1 => isdq x H1 fun a => ty σ H1 fun y H2 => dgetdq a y .non H2 Q) : tDGet1 td ty σ H Q := q
theorem r_isdT {P : Addr → Prop} {kvs : List (List Key × V)} (h : H a = some (.dT kvs)) (q : P a) : isdq (.ref a) H P := ⟨a, rfl, .inr ⟨_, .inl h⟩, q⟩
theorem r_isdK {P : Addr → Prop} {kvs : List (Key × V)} (h : H a = some (.dK kvs)) (q : P a) : isdq (.ref a) H P := ⟨a, rfl, .inl ⟨_, .inl h⟩, q⟩
theorem DGet.tg (h : Rd H a (tgO g lt)) (hy : Dq H y (tagD t)) : DGet H a y ((getA lt t).map g) := by
  obtain ⟨b, rfl, hb⟩ := hy.tag
  exact .inr ⟨_, tagK t, b, h, rfl, hb, (valV_mapG tag_inj).symm⟩
theorem DGet.tx (h : Rd H a (txO g ls)) : DGet H a (.str s) ((getA ls s).map g) := .inl ⟨_, .inr s, h, rfl, (valV_mapG inr_inj).symm⟩
theorem r_dgetT (h : H a = some (tgO g lt)) (hy : Dq H y (tagD t)) (hv : getA lt t = some x) (q : Q (g x) H) : dgetq (.ref a) y H Q := ⟨a, g x, rfl, by have e := DGet.tg (.inl h) hy; rw [hv] at e; exact e, q⟩
theorem r_dgetTf {od : Obj} (h : H a = some (.frz od (tgO g lt))) (hy : Dq H y (tagD t)) (hv : getA lt t = some x) (q : Q (g x) H) : dgetq (.ref a) y H Q := ⟨a, g x, rfl, by have e := DGet.tg (.inr ⟨od, h⟩) hy; rw [hv] at e; exact e, q⟩
theorem r_dgetK (h : H a = some (txO g ls)) (hv : getA ls s = some x) (q : Q (g x) H) : dgetq (.ref a) (.str s) H Q := ⟨a, g x, rfl, by have e := DGet.tx (s := s) (.inl h); rw [hv] at e; exact e, q⟩
theorem r_dgetV {kvs : List (Key × V)} (h : H a = some (.dK kvs)) (hv : valV kvs (.inr s) = some v) (q : Q v H) : dgetq (.ref a) (.str s) H Q := ⟨a, v, rfl, .inl ⟨kvs, .inr s, .inl h, rfl, hv.symm⟩, q⟩
theorem r_dinT (h : H a = some (tgO g lt)) (hy : Dq H y (tagD t)) (q : Q (.bl (getA lt t).isSome) H) : dinq y (.ref a) H Q := ⟨a, _, rfl, DGet.tg (.inl h) hy, by rw [Option.isSome_map]; exact q⟩
theorem r_dinK (h : H a = some (txO g ls)) (q : Q (.bl (getA ls s).isSome) H) : dinq (.str s) (.ref a) H Q := ⟨a, _, rfl, DGet.tx (.inl h), by rw [Option.isSome_map]; exact q⟩
theorem r_dninT (h : H a = some (tgO g lt)) (hy : Dq H y (tagD t)) (q : Q (.bl (!(getA lt t).isSome)) H) : dninq y (.ref a) H Q := ⟨a, _, rfl, DGet.tg (.inl h) hy, by rw [Option.isSome_map]; exact q⟩
theorem r_dninK (h : H a = some (txO g ls)) (q : Q (.bl (!(getA ls s).isSome)) H) : dninq (.str s) (.ref a) H Q := ⟨a, _, rfl, DGet.tx (.inl h), by rw [Option.isSome_map]; exact q⟩
theorem r_dputT (h : H a = some (tgO g lt)) (hl : lt.length < 1000000) (hy : Dq H y (tagD t)) (e : v = g x) (k : ∀ H', H' a = some (tgO g (setA lt t x)) → (∀ c, c ≠ a → H' c = H c) → D.nx σ H') : dputq (.ref a) y v σ D H := by
  obtain ⟨b, rfl, hb⟩ := hy.tag
  subst e
  refine ⟨a, _, rfl, .inr ⟨_, tagK t, b, h, rfl, hb, by rw [List.length_map, sizeLine_eq]; omega, rfl⟩, k _ ?_ fun c hc => upd_ne hc⟩
  rw [upd_same, putK_mapG tag_inj]
theorem r_dputK (h : H a = some (txO g ls)) (hl : ls.length < 1000000) (e : v = g x) (k : ∀ H', H' a = some (txO g (setA ls s x)) → (∀ c, c ≠ a → H' c = H c) → D.nx σ H') : dputq (.ref a) (.str s) v σ D H := by
  subst e
  refine ⟨a, _, rfl, .inl ⟨_, .inr s, h, rfl, by rw [List.length_map, sizeLine_eq]; omega, rfl⟩, k _ ?_ fun c hc => upd_ne hc⟩
  rw [upd_same, putK_mapG inr_inj]
theorem r_dputV {kvs ks2 : List (Key × V)} (h : H a = some (.dK kvs)) (hl : kvs.length < 1000000) (e : putK kvs (.inr s) v = ks2) (k : ∀ H', H' a = some (.dK ks2) → (∀ c, c ≠ a → H' c = H c) → D.nx σ H') : dputq (.ref a) (.str s) v σ D H := by
  subst e
  exact ⟨a, _, rfl, .inl ⟨_, .inr s, h, rfl, by rw [sizeLine_eq]; omega, rfl⟩, k _ upd_same fun c hc => upd_ne hc⟩
theorem DDrop.tg (h : H a = some (tgO g lt)) (hy : Dq H y (tagD t)) (hv : getA lt t = some x) : DDrop H a y (g x) (upd H a (tgO g (delA lt t))) := by
  obtain ⟨b, rfl, hb⟩ := hy.tag
  refine .inr ⟨_, tagK t, b, h, rfl, hb, by rw [valV_mapG tag_inj, hv]; rfl, ?_⟩
  rw [dropK_mapG tag_inj]
theorem r_ddelT (h : H a = some (tgO g lt)) (hy : Dq H y (tagD t)) (hv : getA lt t = some x) (k : ∀ H', H' a = some (tgO g (delA lt t)) → (∀ c, c ≠ a → H' c = H c) → D.nx σ H') : ddelq (.ref a) y σ D H :=
  ⟨a, g x, _, rfl, DDrop.tg h hy hv, k _ upd_same fun c hc => upd_ne hc⟩
theorem r_dpopT (h : H a = some (tgO g lt)) (hy : Dq H y (tagD t)) (hv : getA lt t = some x) (k : ∀ H', H' a = some (tgO g (delA lt t)) → (∀ c, c ≠ a → H' c = H c) → Q (g x) H') : dpopq a y H Q :=
  ⟨g x, _, DDrop.tg h hy hv, k _ upd_same fun c hc => upd_ne hc⟩
theorem r_dgetdK (h : H a = some (txO g ls)) (q : Q (((getA ls s).map g).getD z) H) : dgetdq a (.str s) z H Q := ⟨_, DGet.tx (.inl h), q⟩
theorem r_newT (k : ∀ p H', H p = none → Same H H' → H' p = some (.dT []) → Q (.ref p) H') : tDNewT σ H Q := fun p n => k p _ n (same_new n) upd_same
theorem r_newK (k : ∀ p H', H p = none → Same H H' → H' p = some (.dK []) → Q (.ref p) H') : tDNewK σ H Q := fun p n => k p _ n (same_new n) upd_same
theorem r_sortDT (h : H a = some (tgO g lt)) (k : ∀ ys p H', H p = none → TgL H' ys (sortTg (keysA lt)) → Same H H' → H' p = some (.lst ys) → Q (.ref p) H') : sortdq K [.ref a] H Q :=
  ⟨a, rfl, .inl ⟨_, keysA lt, .inl h, by rw [List.map_map, keysA, List.map_map]; rfl, fun ys p H' n ty sm hp => k ys p H' n (Paired.mapP ty fun _ _ ⟨b, e, hb⟩ => ⟨b, e, sm _ _ hb⟩) sm hp⟩⟩
theorem r_sortDK (h : H a = some (txO g ls)) (k : ∀ p H', H p = none → Same H H' → H' p = some (.lst ((sortSt (keysA ls)).map V.str)) → Q (.ref p) H') : sortdq K [.ref a] H Q :=
  ⟨a, rfl, .inr ⟨_, keysA ls, .inl h, by rw [List.map_map, keysA, List.map_map]; rfl, k⟩⟩
theorem r_listDT (h : H a = some (tgO g lt)) (k : ∀ ys p H', H p = none → TgL H' ys (keysA lt) → Same H H' → H' p = some (.lst ys) → Q (.ref p) H') : listdq K [.ref a] H Q :=
  ⟨a, _, keysA lt, rfl, .inl h, by rw [List.map_map, keysA, List.map_map]; rfl, fun ys p H' n ty sm hp => k ys p H' n (Paired.mapP ty fun _ _ ⟨b, e, hb⟩ => ⟨b, e, sm _ _ hb⟩) sm hp⟩
end
/-- [e for x in a tuple], what e does to the heap told by Iv: the new list, the turn, what is in it, the heap -/
theorem lc_TG {K : PySem.W.Frag} {σ : L2.St} {H : Hp} {Q : VK} {te : TE} {vs : List Nat} {j : Nat} {p : Addr} {xs : List V} (h : H p = some (.tup xs)) (Iv : Addr → Nat → List V → Hp → Prop) (hn : xs.length < 10000000) (hw : ∀ x, wipe ((wipe σ vs).set j (some x)) vs = wipe σ vs)
    (hl : ∀ D i ys H', Iv D i ys H' → H' p = some (.tup xs))
    (h0 : ∀ D H', H D = none → H' D = some (.lst []) → (∀ b, b ≠ D → H' b = H b) → Iv D 0 [] H')
    (el : ∀ D (i : Nat) x ys H1 (Q1 : VK), xs[i]? = some x → H D = none → H1 D = some (.lst ys) → Iv D i ys H1 → (∀ y H2, H2 D = some (.lst ys) → (∀ H3, H3 D = some (.lst (ys ++ [y])) → (∀ b, b ≠ D → H3 b = H2 b) → Iv D (i + 1) (ys ++ [y]) H3) → Q1 y H2) → te ((wipe σ vs).set j (some x)) H1 Q1)
    (k : ∀ D H' ys, H D = none → H' D = some (.lst ys) → Iv D xs.length ys H' → Q (.ref D) H') : luq K (.ref p) (gName j) tYes te vs σ H Q := by
  refine .inr ⟨⟨xs, SqT.of h⟩, fun D hD => ?_⟩
  refine lc_it (walk_tup (xs := xs)) (Qd := fun H' => Q (.ref D) H') (fun i H' => ∃ ys, H' D = some (.lst ys) ∧ ys.length ≤ i ∧ Iv D i ys H') ?_ (fun i H' _ ⟨ys, _, _, iv⟩ => SqT.of (hl D i ys H' iv)) ?_ ?_
  · exact ⟨[], upd_same, Nat.le_refl _, h0 D _ hD upd_same fun b hb => upd_ne hb⟩
  · rintro i x H1 H1' hi ⟨ys, hs, hle, iv⟩ hy
    obtain ⟨rfl, hy⟩ := hy
    refine ⟨hw _, r_tyes (r_iteT (el D i x ys H1' _ hy hD hs iv fun y H2 hl2 kk => ?_))⟩
    exact ⟨ys, hl2, by rw [sizeLine_eq]; omega, ys ++ [y], upd_same, by simp; omega, kk _ upd_same fun b hb => upd_ne hb⟩
  · rintro H' ⟨ys, hs, _, iv⟩
    exact k D H' ys hD hs iv
end Dk

/-! Loops over the keys of a dict: the dict is locked within. -/
namespace Dk
open PySem PySem.Spec PyProof.Rows L2
theorem mut_dT' {kvs : List (List Key × V)} : Mut (some (HO.dT kvs)) := trivial
theorem mut_dK' {kvs : List (Key × V)} : Mut (some (HO.dK kvs)) := trivial
/-- the heap within: a is locked -/
structure Lk (a : Addr) (od : Obj) (u : HO) (H H' : Hp) : Prop where
  at_ : H' a = some (.frz od u)
  kp : ∀ b, b ≠ a → H' b = H b
  was : H a = some u
  mu : Mut (some u)
theorem lk_upd {a : Addr} {od : Obj} {u : HO} {H : Hp} (h : H a = some u) (m : Mut (some u)) : Lk a od u H (upd H a (.frz od u)) := ⟨upd_same, fun b n => upd_ne n, h, m⟩
theorem Lk.ne {a b : Addr} {od : Obj} {u o : HO} {H H' : Hp} (l : Lk a od u H H') (h : H b = some o) (n : o ≠ u) : H' b = some o := by
  rw [l.kp b fun z => ?_]
  · exact h
  · rw [z, l.was] at h
    exact n (Option.some.inj h).symm
theorem Lk.gro {a : Addr} {od : Obj} {u : HO} {H H' : Hp} (l : Lk a od u H H') : Gro H H' :=
  ⟨fun b xs h => l.ne h fun z => by have := l.mu; rw [← z] at this; exact this, fun b o x h => l.ne h fun z => by have := l.mu; rw [← z] at this; exact this⟩
/-- behind it: all stands -/
theorem Lk.un {a : Addr} {od : Obj} {u : HO} {H H1 H2 : Hp} (l : Lk a od u H H1) (s : Same H1 H2) : Same H (upd H2 a u) := fun b o h => by
  by_cases e : b = a
  · rw [e, upd_same, ← l.was, ← e, h]
  · rw [upd_ne e]
    exact s b o (by rw [l.kp b e]; exact h)
theorem Lk.un_new {a p : Addr} {od : Obj} {u o : HO} {H H1 H2 : Hp} (l : Lk a od u H H1) (s : Same H1 H2) (n : H p = none) (h : H2 p = some o) : upd H2 a u p = some o := by
  rw [upd_ne (fun z => by rw [z, l.was] at n; cases n)]
  exact h
/-- for .. in d -/
def kfb (J : It) (g : TG) (tb : TS) (D : Ends) (σ : L2.St) (H : Hp) : Prop := ∃ W : Nat → Nat → L2.St → Hp → Prop, (∃ m, W 0 m σ H) ∧ ∀ i m σ H, W i m σ H →
  (J.stop i H ∧ D.nx σ H) ∨ (J.go i H ∧ ∃ N : L2.St → Hp → Prop, (∀ σ' H', N σ' H' → ∃ m', m' < m ∧ W (i + 1) m' σ' H') ∧ ∀ x H', J.yld i H x H' → g x σ H' fun σ2 H2 => tb { D with nx := N, ct := N, bk := D.nx } σ2 H2)
def kfq (g : TG) (tb : TS) (D : Ends) (σ : L2.St) (x : V) (H1 : Hp) : Prop := ∃ d o, x = .ref d ∧ ((∃ kvs, H1 d = some (.frz o (.dK kvs)) ∧ kfb (Itk d o kvs) g tb D σ H1) ∨ ∃ kvs, H1 d = some (.frz o (.dT kvs)) ∧ kfb (Itkt d o kvs) g tb D σ H1)
/-- [e for .. in d] -/
def klb (J : It) (g : TG) (tt : TT) (te : TE) (vs : List Nat) (σ : L2.St) (Q : VK) (H : Hp) : Prop := ∀ D, H D = none → ∃ W : Nat → Nat → Hp → Prop, (∃ m, W 0 m (upd H D (.lst []))) ∧ ∀ i m H, W i m H →
  (J.stop i H ∧ Q (.ref D) H) ∨ (J.go i H ∧ ∃ Nx : Hp → Prop, (∀ H', Nx H' → ∃ m', m' < m ∧ W (i + 1) m' H') ∧ ∀ x H', J.yld i H x H' → g x (wipe σ vs) H' fun σ2 H2 => wipe σ2 vs = wipe σ vs ∧ tt σ2 H2 fun b H3 =>
    if b = true then te σ2 H3 fun y H4 => ∃ acc, H4 D = some (.lst acc) ∧ acc.length < sizeLine ∧ Nx (upd H4 D (.lst (acc ++ [y]))) else Nx H3)
def klq (g : TG) (tt : TT) (te : TE) (vs : List Nat) (σ : L2.St) (Q : VK) (x : V) (H1 : Hp) : Prop := ∃ d o, x = .ref d ∧ ((∃ kvs, H1 d = some (.frz o (.dK kvs)) ∧ klb (Itk d o kvs) g tt te vs σ Q H1) ∨ ∃ kvs, H1 d = some (.frz o (.dT kvs)) ∧ klb (Itkt d o kvs) g tt te vs σ Q H1)
/-- the ends: unlocked -/
def uEnds (a : Addr) (od : Obj) (u : HO) (D : Ends) : Ends := ⟨fun σ' H' => H' a = some (.frz od u) ∧ D.nx σ' (upd H' a u), fun v H' => H' a = some (.frz od u) ∧ D.rt v (upd H' a u), fun σ' H' => H' a = some (.frz od u) ∧ D.bk σ' (upd H' a u), fun σ' H' => H' a = some (.frz od u) ∧ D.ct σ' (upd H' a u)⟩
def uQ (a : Addr) (od : Obj) (u : HO) (Q : VK) : VK := fun v H' => H' a = some (.frz od u) ∧ Q v (upd H' a u)
section
variable {σ : L2.St} {H : Hp} {Q : VK} {td te : TE} {tt : TT} {vs : List Nat} {j : Nat} {g : TG} {tb : TS} {D : Ends} {a : Addr} {od : Obj} {u : HO}
theorem r_lockS (h : H a = some u) (m : Mut (some u)) (q : ∀ od H', Lk a od u H H' → td σ H' fun x H1 => kfq g tb (uEnds a od u D) σ x H1) : tLock (tFor (iKeys td) g tb) D σ H :=
  ⟨a, u, h, m, fun od => q od _ (lk_upd h m)⟩
theorem r_lockE (h : H a = some u) (m : Mut (some u)) (q : ∀ od H', Lk a od u H H' → td σ H' fun x H1 => klq g tt te vs σ (uQ a od u Q) x H1) : tLockE (tLc (iKeys td) g tt te vs) σ H Q :=
  ⟨a, u, h, m, fun od => q od _ (lk_upd h m)⟩
theorem for_kT {kvs : List (List Key × V)} (Pv : Nat → L2.St → Hp → Prop) (h : H a = some (.frz od (.dT kvs))) (h0 : Pv 0 σ H) (hl : ∀ i σ' H', i ≤ kvs.length → Pv i σ' H' → H' a = some (.frz od (.dT kvs)))
    (hs : ∀ (i : Nat) k v q σ' H', kvs[i]? = some (k, v) → Pv i σ' H' → H' q = some (.tup (k.map kV)) → g (.ref q) σ' H' fun σ2 H2 => tb (Ends.mk (Pv (i + 1)) D.rt D.nx (Pv (i + 1))) σ2 H2) (hd : ∀ σ' H', Pv kvs.length σ' H' → D.nx σ' H') : kfq g tb D σ (.ref a) H := by
  refine ⟨a, od, rfl, .inr ⟨kvs, h, for_it walk_keysT Pv h0 hl (fun i x σ' H1 H' _ p y => ?_) hd⟩⟩
  obtain ⟨rfl, k, v, q, e1, rfl, e2⟩ := y
  exact hs i k v q σ' H' e1 p e2
theorem for_kK {kvs : List (Key × V)} (Pv : Nat → L2.St → Hp → Prop) (h : H a = some (.frz od (.dK kvs))) (h0 : Pv 0 σ H) (hl : ∀ i σ' H', i ≤ kvs.length → Pv i σ' H' → H' a = some (.frz od (.dK kvs)))
    (hs : ∀ (i : Nat) k v σ' H', kvs[i]? = some (k, v) → Pv i σ' H' → g (kV k) σ' H' fun σ2 H2 => tb (Ends.mk (Pv (i + 1)) D.rt D.nx (Pv (i + 1))) σ2 H2) (hd : ∀ σ' H', Pv kvs.length σ' H' → D.nx σ' H') : kfq g tb D σ (.ref a) H := by
  refine ⟨a, od, rfl, .inl ⟨kvs, h, for_it walk_keys Pv h0 hl (fun i x σ' H1 H' _ p y => ?_) hd⟩⟩
  obtain ⟨rfl, k, v, e1, rfl⟩ := y
  exact hs i k v σ' H' e1 p
theorem lc_kK {S : Hp → Hp → Prop} {kvs : List (Key × V)} (h : H a = some (.frz od (.dK kvs))) (sr : Sr H S) (Rv : Nat → List PyData → Prop) (hG : ∀ H', S H H' → H' a = some (.frz od (.dK kvs))) (hn : kvs.length < 10000000) (h0 : Rv 0 []) (hw : ∀ x, wipe ((wipe σ vs).set j (some x)) vs = wipe σ vs)
    (el : ∀ (i : Nat) x v (H1 : Hp) (ds : List PyData) (Q1 : VK) (Qn : Hp → Prop), kvs[i]? = some (x, v) → S H H1 → Rv i ds →
      (∀ y d H2, S H1 H2 → Dq H2 y d → Rv (i + 1) (ds ++ [d]) → Q1 y H2) → (∀ H2, S H1 H2 → Rv (i + 1) ds → Qn H2) → tt ((wipe σ vs).set j (some (kV x))) H1 fun b H3 => if b = true then te ((wipe σ vs).set j (some (kV x))) H3 Q1 else Qn H3)
    (k : ∀ D H' ys ds, H D = none → S H H' → H' D = some (.lst ys) → Dqs H' ys ds → Rv kvs.length ds → Q (.ref D) H') : klq (gName j) tt te vs σ Q (.ref a) H := by
  refine ⟨a, od, rfl, .inl ⟨kvs, h, lc_gen walk_keys sr Rv hG hn h0 (fun i x H1 H1' ds Q1 Qn hi s1 hy rv k1 k2 => ?_) k⟩⟩
  obtain ⟨rfl, kk, v, e1, rfl⟩ := hy
  exact ⟨hw _, el i kk v _ ds Q1 Qn e1 s1 rv k1 k2⟩
theorem lc_kT {S : Hp → Hp → Prop} {kvs : List (List Key × V)} (h : H a = some (.frz od (.dT kvs))) (sr : Sr H S) (Rv : Nat → List PyData → Prop) (hG : ∀ H', S H H' → H' a = some (.frz od (.dT kvs))) (hn : kvs.length < 10000000) (h0 : Rv 0 []) (hw : ∀ x, wipe ((wipe σ vs).set j (some x)) vs = wipe σ vs)
    (el : ∀ (i : Nat) x v q (H1 : Hp) (ds : List PyData) (Q1 : VK) (Qn : Hp → Prop), kvs[i]? = some (x, v) → S H H1 → H1 q = some (.tup (x.map kV)) → Rv i ds →
      (∀ y d H2, S H1 H2 → Dq H2 y d → Rv (i + 1) (ds ++ [d]) → Q1 y H2) → (∀ H2, S H1 H2 → Rv (i + 1) ds → Qn H2) → tt ((wipe σ vs).set j (some (.ref q))) H1 fun b H3 => if b = true then te ((wipe σ vs).set j (some (.ref q))) H3 Q1 else Qn H3)
    (k : ∀ D H' ys ds, H D = none → S H H' → H' D = some (.lst ys) → Dqs H' ys ds → Rv kvs.length ds → Q (.ref D) H') : klq (gName j) tt te vs σ Q (.ref a) H := by
  refine ⟨a, od, rfl, .inr ⟨kvs, h, lc_gen walk_keysT sr Rv hG hn h0 (fun i x H1 H1' ds Q1 Qn hi s1 hy rv k1 k2 => ?_) k⟩⟩
  obtain ⟨rfl, kk, v, q, e1, rfl, e2⟩ := hy
  exact ⟨hw _, el i kk v q _ ds Q1 Qn e1 s1 e2 rv k1 k2⟩
end
theorem all_true {H : Hp} : ∀ {n : Nat} {zs : List V}, Dqs H zs (List.replicate n (.bool true)) → zs = (List.replicate n true).map V.bl
  | 0, zs, h => by
    cases h
    rfl
  | n + 1, zs, h => by
    rw [List.replicate_succ] at h
    cases h with
    | cons h1 h2 =>
      cases h1
      rw [all_true h2, List.replicate_succ] <;> rfl
/-- an if whose test is walked by itself -/
theorem r_ifP {tt : TT} {tS uS : TS} {D : Ends} {σ : L2.St} {H : Hp} (c : Bool) (R : Hp → Prop) (ht : ∀ QB : Bool → Hp → Prop, (∀ H', R H' → QB c H') → tt σ H QB) (h1 : ∀ H', R H' → c = true → tS D σ H') (h2 : ∀ H', R H' → c = false → uS D σ H') : tIfS tt tS uS D σ H := by
  refine ht _ fun H' r => ?_
  cases c with
  | true => exact h1 H' r rfl
  | false => exact h2 H' r rfl
theorem cast_q {QB : Bool → Hp → Prop} {H : Hp} {c b : Bool} (q : QB c H) (e : c = b) : QB b H := e ▸ q
end Dk

/-! Truth and length of a dict whose keys are tuples. -/
namespace Dk
open PySem PySem.Spec PyProof.Rows L2
section
variable {prog : Program} {w : World} {K : Type} [DecidableEq K] {knd : HeapKind prog w K} {A : Around} {E : Value → Shared → Prop} {s : Shared}
theorem truthy_dictH {d : Addr} {xs : List (K × Addr × Value)} {Q : Bool → Shared → Prop} (hd : (d == sysModules) = false) (hm : s.heap.DictOfH knd d xs) (hfit : (xs.length : Int) < 2 ^ 63)
    (h : Q (!xs.isEmpty) { s with toks := s.toks + 1 + 1 }) : wpAny (model prog w) A (truthy (.ref d)) Q E s := by
  have hne : ((xs.length : Int) != 0) = !xs.isEmpty := by cases xs <;> simp <;> omega
  have key : wpAny (model prog w) A (runValue (.builtin "len" ⟨[.ref d], []⟩)) (fun r s' => r = .int xs.length (s.toks + 1) ∧ Q (!xs.isEmpty) s') E s := by
    refine wpAny_runValue (codeAny_builtin entry_len ?_)
    rw [Around.under_plainId plain_len _]
    exact wpAny_mono (wpAny_len_body_dictH (Q := fun r s' => r = .int xs.length (s.toks + 1) ∧ Q (!xs.isEmpty) s') hd hm hfit ⟨rfl, h⟩)
      (fun fin s' h' => by obtain ⟨r, rfl, hq⟩ := h'; exact hq) fun _ _ e => e
  unfold truthy
  first
    | refine wpAny_bind (wpAny_callSpecial?_none (name := Str.ofString "__bool__") hm.typeIs noBool_dict ?_)
    | refine wpAny_bind (wpAny_pure (wpAny_bind (wpAny_callSpecial?_none (name := Str.ofString "__bool__") hm.typeIs noBool_dict ?_)))
  first
    | refine wpAny_bind (wpAny_specialOf (name := Str.ofString "__len__") hm.typeIs F.slot_dict_len.lookup ?_)
    | refine wpAny_bind (wpAny_pure (wpAny_bind (wpAny_specialOf (name := Str.ofString "__len__") hm.typeIs F.slot_dict_len.lookup ?_)))
  first
    | exact wpAny_bind (wpAny_mono key (fun r s' h' => by obtain ⟨rfl, hq⟩ := h'; exact wpAny_pure (hne ▸ hq)) fun _ _ e => e)
    | exact wpAny_bind (wpAny_pure (wpAny_bind (wpAny_mono key (fun r s' h' => by obtain ⟨rfl, hq⟩ := h'; exact wpAny_pure (hne ▸ hq)) fun _ _ e => e)))
end
def rTruT : V → Hp → (Bool → Hp → Prop) → Prop := fun x H Q => ∃ (p : Addr) (kvs : List (List Key × V)), x = .ref p ∧ H p = some (.dT kvs) ∧ Q (!kvs.isEmpty) H
theorem tru_dT {X : Cx} : TruR X rTruT := by
  intro pins s σ H x v Q I rx h
  obtain ⟨p, kvs, rfl, hp, q⟩ := h
  obtain rfl : v = .ref p := rx
  obtain ⟨z, hd, ys, rel, dd⟩ := dt_of I.hok hp
  have hl : kvs.length = ys.length := Paired.length rel
  refine truthy_dictH hd dd (by rw [← hl]; rw [sizeLine_eq] at z; omega) ?_
  have e : (!ys.isEmpty) = !kvs.isEmpty := by
    cases ys <;> cases kvs <;> first | rfl | simp at hl
  rw [e]
  exact ⟨H, I.tok _, q⟩
def tTruT (te : TE) : TT := fun σ H Q => te σ H fun x H' => rTruT x H' Q
section
variable {X : Cx} {te : TE} {σ : L2.St} {H : Hp} {QB : Bool → Hp → Prop} {Q : VK} {p : Addr} {α : Type} {g : α → V} {l : List (Tag × α)}
theorem pt_truT {a : Expr} (ha : PE X a te) (he : ∀ whole, isTrue a X.env whole = (do let v ← whole; standAt a.pos; holding [v] (truthy v)) := by intro _; rfl) : PT X a (tTruT te) :=
  pt_truthR ha tru_dT he
theorem r_truT (q : te σ H fun x H' => rTruT x H' QB) : tTruT te σ H QB := q
theorem r_truTv (h : H p = some (tgO g l)) (q : QB (!l.isEmpty) H) : rTruT (.ref p) H QB := by
  refine ⟨p, _, rfl, h, ?_⟩
  cases l <;> exact q
theorem r_lenDT (h : H p = some (tgO g l)) (q : Q (.int l.length) H) : rLenT [.ref p] H Q := by
  refine ⟨p, _, rfl, h, ?_⟩
  rw [List.length_map]
  exact q
end
end Dk

/-! The state of a host: its data, and how it stands in the heap. -/
namespace Dk
open PySem PySem.Spec PyProof.Rows L2
abbrev Adr := Str × Str
def adrD (a : Adr) : PyData := .tuple [.str a.1, .str a.2]
def sndD : Option Adr → PyData
  | none => .none
  | some a => adrD a
def dbtD : Option Str → PyData
  | none => .none
  | some s => .str s
def viaD (l : List Adr) : PyData := .tuple (l.map adrD)
/-- an item without its tag -/
structure Itm where
  snd : Option Adr
  rcp : Adr
  ls : List Str
  via : List Adr
  born : Int
  tries : Int
  due : Int
  dbt : Option Str
def itmD (t : Tag) (x : Itm) : PyData := .tuple [tagD t, sndD x.snd, adrD x.rcp, sD x.ls, viaD x.via, .int x.born, .int x.tries, .int x.due, dbtD x.dbt]
/-- the data of a state -/
structure Sx where
  dom : Str
  count : Int
  serial : Int
  q : List (Tag × Itm)
  bx : List (Str × Bx)
  tk : List (Tag × Str)
  ow : List (Tag × Str)
/-- an item's attributes -/
def itF (t s r l v : V) (b n u : Int) (d : V) : List (Str × V) := [("tag", t), ("sender", s), ("recipient", r), ("lines", l), ("via", v), ("born", .int b), ("tries", .int n), ("due", .int u), ("doubt", d)]
structure ItV (H : Hp) (t : Tag) (x : Itm) (vt vs vr vl vv vd : V) : Prop where
  t : Dq H vt (tagD t)
  s : Dq H vs (sndD x.snd)
  r : Dq H vr (adrD x.rcp)
  l : Dq H vl (sD x.ls)
  v : Dq H vv (viaD x.via)
  d : Dq H vd (dbtD x.dbt)
def ItAt (K : PySem.W.Frag) (H : Hp) (p : Addr) (t : Tag) (x : Itm) : Prop := ∃ vt vs vr vl vv vd, Ins H p (He.ga K "Item") (itF vt vs vr vl vv x.born x.tries x.due vd) ∧ ItV H t x vt vs vr vl vv vd
/-- a state with its places -/
structure Pst where
  dom : Str
  count : Int
  serial : Int
  q : List (Tag × (Addr × Itm))
  bx : List (Str × (Addr × Addr × Addr × Bx))
  tk : List (Tag × Str)
  ow : List (Tag × Str)
  qa : Addr
  ba : Addr
  ta : Addr
  oa : Addr
def bxP (x : Addr × Addr × Addr × Bx) : List Addr := boxP x.1 x.2.1 x.2.2.1
def stF (P : Pst) : List (Str × V) := [("domain", .str P.dom), ("count", .int P.count), ("serial", .int P.serial), ("queue", .ref P.qa), ("boxes", .ref P.ba), ("taken", .ref P.ta), ("owed", .ref P.oa)]
abbrev refI : Addr × Itm → V := fun x => .ref x.1
abbrev refB : Addr × Addr × Addr × Bx → V := fun x => .ref x.1
def Pst.fp (s : Addr) (P : Pst) : List Addr := s :: P.qa :: P.ba :: P.ta :: P.oa :: (P.q.map (·.2.1) ++ P.bx.flatMap fun e => bxP e.2)
def Pst.abs (P : Pst) : Sx := ⟨P.dom, P.count, P.serial, P.q.map fun e => (e.1, e.2.2), P.bx.map fun e => (e.1, e.2.2.2.2), P.tk, P.ow⟩
structure StP (K : PySem.W.Frag) (H : Hp) (s : Addr) (P : Pst) : Prop where
  ins : Ins H s (He.ga K "State") (stF P)
  q : H P.qa = some (tgO refI P.q)
  b : H P.ba = some (txO refB P.bx)
  t : H P.ta = some (tgO V.str P.tk)
  o : H P.oa = some (tgO V.str P.ow)
  qt : P.qa ≠ P.ta
  qo : P.qa ≠ P.oa
  to : P.ta ≠ P.oa
  its : ∀ e ∈ P.q, ItAt K H e.2.1 e.1 e.2.2
  bxs : ∀ e ∈ P.bx, BxAt K H e.2.1 e.2.2.1 e.2.2.2.1 e.2.2.2.2
  qi : ∀ e ∈ P.q, ∀ e' ∈ P.q, e.2.1 = e'.2.1 → e.1 = e'.1
  bi : ∀ e ∈ P.bx, ∀ e' ∈ P.bx, e.1 ≠ e'.1 → Dsj (bxP e.2) (bxP e'.2)
  nq : (keysA P.q).Nodup
  nb : (keysA P.bx).Nodup
  nt : (keysA P.tk).Nodup
  no : (keysA P.ow).Nodup
/-- v is a state; its objects stand at F -/
def StA (K : PySem.W.Frag) (H : Hp) (v : V) (F : List Addr) (S : Sx) : Prop := ∃ s P, v = .ref s ∧ StP K H s P ∧ F = P.fp s ∧ S = P.abs
section
variable {K : PySem.W.Frag} {H H' : Hp} {s p a : Addr} {P : Pst} {t : Tag} {x : Itm} {F F' G : List Addr} {v : V} {S : Sx}
theorem ItV.mono {vt vs vr vl vv vd : V} (i : ItV H t x vt vs vr vl vv vd) (g : Gro H H') : ItV H' t x vt vs vr vl vv vd := ⟨i.t.mono g, i.s.mono g, i.r.mono g, i.l.mono g, i.v.mono g, i.d.mono g⟩
theorem ItAt.keep (i : ItAt K H p t x) (g : Gro H H') (k : ∀ o, H p = some o → H' p = some o) : ItAt K H' p t x := by
  obtain ⟨vt, vs, vr, vl, vv, vd, hi, iv⟩ := i
  exact ⟨vt, vs, vr, vl, vv, vd, hi.mono k, iv.mono g⟩
theorem ItAt.there (i : ItAt K H p t x) : Mt (H p) := by
  obtain ⟨_, _, _, _, _, _, ⟨dx, hi⟩, _⟩ := i
  exact mt_ins hi
theorem mt_of {o : HO} (h : H a = some o) (h1 : ∀ xs, o ≠ .tup xs) (h2 : ∀ ob w, o ≠ .frz ob w) : Mt (H a) := ⟨o, h, h1, h2⟩
theorem mt_dT {kvs : List (List Key × V)} (h : H a = some (.dT kvs)) : Mt (H a) := ⟨_, h, (fun _ z => by cases z), (fun _ _ z => by cases z)⟩
theorem mt_dK {kvs : List (Key × V)} (h : H a = some (.dK kvs)) : Mt (H a) := ⟨_, h, (fun _ z => by cases z), (fun _ _ z => by cases z)⟩
/-- one object is written -/
theorem gro_mt (m : Mt (H a)) (k : ∀ c, c ≠ a → H' c = H c) : Gro H H' := by
  obtain ⟨u, e, h1, h2⟩ := m
  refine ⟨fun b xs z => ?_, fun b o w z => ?_⟩
  · rw [k b fun q => ?_]
    · exact z
    · rw [q, e] at z
      exact h1 xs (Option.some.inj z)
  · rw [k b fun q => ?_]
    · exact z
    · rw [q, e] at z
      exact h2 o w (Option.some.inj z)
theorem fp_s : s ∈ P.fp s := List.mem_cons_self
theorem fp_q : P.qa ∈ P.fp s := by simp [Pst.fp]
theorem fp_b : P.ba ∈ P.fp s := by simp [Pst.fp]
theorem fp_t : P.ta ∈ P.fp s := by simp [Pst.fp]
theorem fp_o : P.oa ∈ P.fp s := by simp [Pst.fp]
theorem fp_i {e : Tag × (Addr × Itm)} (h : e ∈ P.q) : e.2.1 ∈ P.fp s := by
  simp only [Pst.fp, List.mem_cons, List.mem_append, List.mem_map]
  exact .inr (.inr (.inr (.inr (.inr (.inl ⟨e, h, rfl⟩)))))
theorem fp_x {e : Str × (Addr × Addr × Addr × Bx)} {z : Addr} (h : e ∈ P.bx) (m : z ∈ bxP e.2) : z ∈ P.fp s := by
  simp only [Pst.fp, List.mem_cons, List.mem_append, List.mem_flatMap]
  exact .inr (.inr (.inr (.inr (.inr (.inr ⟨e, h, m⟩)))))
theorem fp_cases {z : Addr} (h : z ∈ P.fp s) : z = s ∨ z = P.qa ∨ z = P.ba ∨ z = P.ta ∨ z = P.oa ∨ (∃ e ∈ P.q, e.2.1 = z) ∨ ∃ e ∈ P.bx, z ∈ bxP e.2 := by
  simp only [Pst.fp, List.mem_cons, List.mem_append, List.mem_map, List.mem_flatMap] at h
  exact h
theorem StP.keep (st : StP K H s P) (g : Gro H H') (k : ∀ z o, H z = some o → z ∈ P.fp s → H' z = some o) : StP K H' s P where
  ins := st.ins.mono fun o h => k _ o h fp_s
  q := k _ _ st.q fp_q
  b := k _ _ st.b fp_b
  t := k _ _ st.t fp_t
  o := k _ _ st.o fp_o
  qt := st.qt
  qo := st.qo
  to := st.to
  its := fun e h => (st.its e h).keep g fun o z => k _ o z (fp_i h)
  bxs := fun e h => (st.bxs e h).keep g fun z o q m => k z o q (fp_x h m)
  qi := st.qi
  bi := st.bi
  nq := st.nq
  nb := st.nb
  nt := st.nt
  no := st.no
theorem StP.there (st : StP K H s P) : ∀ z ∈ P.fp s, Mt (H z) := by
  intro z h
  rcases fp_cases h with rfl | rfl | rfl | rfl | rfl | ⟨e, he, rfl⟩ | ⟨e, he, m⟩
  · obtain ⟨dx, hi⟩ := st.ins
    exact mt_ins hi
  · exact mt_dT st.q
  · exact mt_dK st.b
  · exact mt_dT st.t
  · exact mt_dT st.o
  · exact (st.its e he).there
  · exact (st.bxs e he).there z m
theorem StP.same (sm : Same H H') (st : StP K H s P) : StP K H' s P := st.keep (Gro.same sm) fun z o h _ => sm z o h
theorem StP.chg (c : Chg F F' H H') (n : Dsj F (P.fp s)) (st : StP K H s P) : StP K H' s P := st.keep c.gro fun z o h m => c.kp z o h fun q => n z q m
theorem StA.same (sm : Same H H') (st : StA K H v F S) : StA K H' v F S := let ⟨s, P, e1, e2, e3, e4⟩ := st; ⟨s, P, e1, e2.same sm, e3, e4⟩
theorem StA.chg (c : Chg G F' H H') (n : Dsj G F) (st : StA K H v F S) : StA K H' v F S := by
  obtain ⟨s, P, e1, e2, rfl, e4⟩ := st
  exact ⟨s, P, e1, e2.chg c n, rfl, e4⟩
theorem StA.there (st : StA K H v F S) : ∀ z ∈ F, Mt (H z) := by
  obtain ⟨s, P, e1, e2, rfl, e4⟩ := st
  exact e2.there
theorem StA.new_out (st : StA K H v F S) (n : H a = none) : a ∉ F := fun m => by
  obtain ⟨u, z, _⟩ := st.there a m
  rw [n] at z
  cases z
theorem StA.tup_out {xs : List V} (st : StA K H v F S) (n : H a = some (.tup xs)) : a ∉ F := fun m => by
  obtain ⟨u, e, k, _⟩ := st.there a m
  rw [n] at e
  cases e
  exact k _ rfl
/-- what is changed elsewhere stays apart from it -/
theorem StA.apart (c : Chg G F' H H') (n : Dsj G F) (st : StA K H v F S) : Dsj F' F := fun b hb m => by
  obtain ⟨u, e, _⟩ := st.there b m
  exact c.out e (fun z => n b z m) hb
theorem StA.stp {b : Addr} (sp : Stp b H H') (n : b ∉ F) (st : StA K H v F S) : StA K H' v F S := st.chg sp.chg (dsj_one n)
/-! one part is written -/
theorem ins_fs {C C' : Addr} {fs gs : List (Str × V)} (h : Ins H a C fs) (k : Ins H a C' gs) : fs = gs := by
  obtain ⟨dx, h⟩ := h
  obtain ⟨dy, k⟩ := k
  rw [h] at k
  cases k
  rfl
theorem StP.s_i (st : StP K H s P) {e : Tag × (Addr × Itm)} (h : e ∈ P.q) : e.2.1 ≠ s := fun z => by
  obtain ⟨_, _, _, _, _, _, hi, _⟩ := st.its e h
  rw [z] at hi
  have q := ins_fs hi st.ins
  simp only [itF, stF, List.cons.injEq, Prod.mk.injEq] at q
  exact absurd q.1.1 (by decide +kernel)
theorem StP.s_x (st : StP K H s P) {e : Str × (Addr × Addr × Addr × Bx)} (h : e ∈ P.bx) : s ∉ bxP e.2 := fun z => by
  obtain ⟨dx, hs⟩ := st.ins
  have b := st.bxs e h
  simp only [bxP, boxP, List.mem_cons, List.not_mem_nil, or_false] at z
  rcases z with z | z | z
  · have q := ins_fs (z ▸ b.ins) st.ins
    simp only [stF, List.cons.injEq, Prod.mk.injEq] at q
    exact absurd q.1.1 (by decide +kernel)
  · obtain ⟨ys, he, _⟩ := b.es
    rw [← z, hs] at he
    cases he
  · obtain ⟨ys, he, _⟩ := b.gs
    rw [← z, hs] at he
    cases he
theorem StP.i_x (st : StP K H s P) {e : Tag × (Addr × Itm)} {d : Str × (Addr × Addr × Addr × Bx)} (h : e ∈ P.q) (k : d ∈ P.bx) : e.2.1 ∉ bxP d.2 := fun z => by
  obtain ⟨_, _, _, _, _, _, hi, _⟩ := st.its e h
  have b := st.bxs d k
  simp only [bxP, boxP, List.mem_cons, List.not_mem_nil, or_false] at z
  rcases z with z | z | z
  · have q := ins_fs hi (z ▸ b.ins)
    simp only [itF, List.cons.injEq, Prod.mk.injEq] at q
    exact absurd q.1.1 (by decide +kernel)
  · obtain ⟨ys, he, _⟩ := b.es
    obtain ⟨dx, hi⟩ := hi
    rw [← z, hi] at he
    cases he
  · obtain ⟨ys, he, _⟩ := b.gs
    obtain ⟨dx, hi⟩ := hi
    rw [← z, hi] at he
    cases he
theorem ne_kind {o o' : HO} {b : Addr} (h : H a = some o) (k : H b = some o') (n : o ≠ o') : a ≠ b := fun z => by
  rw [z, k] at h
  exact n (Option.some.inj h).symm
/-- a dict of the state is no item, no part of a box, not the state -/
theorem StP.d_i (st : StP K H s P) {o : HO} (h : H a = some o) (h1 : ∀ C dx fs, o ≠ .ins C dx fs) {e : Tag × (Addr × Itm)} (k : e ∈ P.q) : e.2.1 ≠ a := fun z => by
  obtain ⟨_, _, _, _, _, _, ⟨dx, hi⟩, _⟩ := st.its e k
  rw [z, h] at hi
  exact h1 _ _ _ (Option.some.inj hi)
theorem StP.d_x (st : StP K H s P) {o : HO} (h : H a = some o) (h1 : ∀ C dx fs, o ≠ .ins C dx fs) (h2 : ∀ xs, o ≠ .lst xs) {e : Str × (Addr × Addr × Addr × Bx)} (k : e ∈ P.bx) : a ∉ bxP e.2 := fun z => by
  have b := st.bxs e k
  simp only [bxP, boxP, List.mem_cons, List.not_mem_nil, or_false] at z
  rcases z with z | z | z
  · obtain ⟨dx, hi⟩ := b.ins
    rw [← z, h] at hi
    exact h1 _ _ _ (Option.some.inj hi)
  · obtain ⟨ys, he, _⟩ := b.es
    rw [← z, h] at he
    exact h2 _ (Option.some.inj he)
  · obtain ⟨ys, he, _⟩ := b.gs
    rw [← z, h] at he
    exact h2 _ (Option.some.inj he)
/-- the numbers of the state are written -/
theorem StP.fput (st : StP K H s P) (f : Fput s H H') {c n : Int} (hi : Ins H' s (He.ga K "State") (stF { P with count := c, serial := n })) : StP K H' s { P with count := c, serial := n } where
  ins := hi
  q := f.at_ st.q fun _ _ _ z => by cases z
  b := f.at_ st.b fun _ _ _ z => by cases z
  t := f.at_ st.t fun _ _ _ z => by cases z
  o := f.at_ st.o fun _ _ _ z => by cases z
  qt := st.qt
  qo := st.qo
  to := st.to
  its := fun e h => (st.its e h).keep f.gro fun o z => by rw [f.kp _ (st.s_i h)]; exact z
  bxs := fun e h => (st.bxs e h).keep f.gro fun z o q m => by rw [f.kp _ fun w => st.s_x h (w ▸ m)]; exact q
  qi := st.qi
  bi := st.bi
  nq := st.nq
  nb := st.nb
  nt := st.nt
  no := st.no
theorem StP.fput_chg (st : StP K H s P) (f : Fput s H H') {c n : Int} : Chg (P.fp s) (({ P with count := c, serial := n } : Pst).fp s) H H' := f.chg fp_s
theorem ndT {kvs : List (List Key × V)} : (∀ C dx fs, HO.dT kvs ≠ .ins C dx fs) ∧ ∀ xs, HO.dT kvs ≠ .lst xs := ⟨(fun _ _ _ z => by cases z), fun _ z => by cases z⟩
theorem ndK {kvs : List (Key × V)} : (∀ C dx fs, HO.dK kvs ≠ .ins C dx fs) ∧ ∀ xs, HO.dK kvs ≠ .lst xs := ⟨(fun _ _ _ z => by cases z), fun _ z => by cases z⟩
theorem StP.s_d (st : StP K H s P) {o : HO} (h : H a = some o) (h1 : ∀ C dx fs, o ≠ .ins C dx fs) : s ≠ a := fun z => by
  obtain ⟨dx, hi⟩ := st.ins
  rw [z, h] at hi
  exact h1 _ _ _ (Option.some.inj hi)
/-- the queue's dict is written: its items stand -/
theorem StP.putQ (st : StP K H s P) {l : List (Tag × (Addr × Itm))} (h : H' P.qa = some (tgO refI l)) (k : ∀ c, c ≠ P.qa → H' c = H c) (il : ∀ e ∈ l, ItAt K H e.2.1 e.1 e.2.2) (qi : ∀ e ∈ l, ∀ e' ∈ l, e.2.1 = e'.2.1 → e.1 = e'.1) (nd : (keysA l).Nodup) : StP K H' s { P with q := l } := by
  have g : Gro H H' := gro_mt (mt_dT st.q) k
  have e1 := st.s_d st.q ndT.1
  obtain ⟨dx, hs⟩ := st.ins
  have ni : ∀ e ∈ l, e.2.1 ≠ P.qa := fun e he z => by
    obtain ⟨_, _, _, _, _, _, ⟨dx, hi⟩, _⟩ := il e he
    rw [z, st.q] at hi
    cases hi
  exact ⟨⟨dx, by rw [k _ e1]; exact hs⟩, h, by rw [k _ (ne_kind st.b st.q fun z => by cases z)]; exact st.b, by rw [k _ st.qt.symm]; exact st.t, by rw [k _ st.qo.symm]; exact st.o, st.qt, st.qo, st.to,
    fun e he => (il e he).keep g fun o z => by rw [k _ (ni e he)]; exact z,
    fun e he => (st.bxs e he).keep g fun z o q m => by rw [k _ fun w => st.d_x st.q ndT.1 ndT.2 he (w ▸ m)]; exact q, qi, st.bi, nd, st.nb, st.nt, st.no⟩
theorem StP.putB (st : StP K H s P) {l : List (Str × (Addr × Addr × Addr × Bx))} (h : H' P.ba = some (txO refB l)) (k : ∀ c, c ≠ P.ba → H' c = H c) (il : ∀ e ∈ l, BxAt K H e.2.1 e.2.2.1 e.2.2.2.1 e.2.2.2.2) (bi : ∀ e ∈ l, ∀ e' ∈ l, e.1 ≠ e'.1 → Dsj (bxP e.2) (bxP e'.2)) (nd : (keysA l).Nodup) : StP K H' s { P with bx := l } := by
  have g : Gro H H' := gro_mt (mt_dK st.b) k
  have e1 := st.s_d st.b ndK.1
  obtain ⟨dx, hs⟩ := st.ins
  have ni : ∀ e ∈ l, P.ba ∉ bxP e.2 := fun e he z => by
    have b := il e he
    simp only [bxP, boxP, List.mem_cons, List.not_mem_nil, or_false] at z
    rcases z with z | z | z
    · obtain ⟨dx, hi⟩ := b.ins
      rw [← z, st.b] at hi
      cases hi
    · obtain ⟨ys, he, _⟩ := b.es
      rw [← z, st.b] at he
      cases he
    · obtain ⟨ys, he, _⟩ := b.gs
      rw [← z, st.b] at he
      cases he
  exact ⟨⟨dx, by rw [k _ e1]; exact hs⟩, by rw [k _ (ne_kind st.q st.b fun z => by cases z)]; exact st.q, h, by rw [k _ (ne_kind st.t st.b fun z => by cases z)]; exact st.t, by rw [k _ (ne_kind st.o st.b fun z => by cases z)]; exact st.o, st.qt, st.qo, st.to,
    fun e he => (st.its e he).keep g fun o z => by rw [k _ (st.d_i st.b ndK.1 he)]; exact z,
    fun e he => (il e he).keep g fun z o q m => by rw [k _ fun w => ni e he (w ▸ m)]; exact q, st.qi, bi, st.nq, nd, st.nt, st.no⟩
theorem StP.putT (st : StP K H s P) {l : List (Tag × Str)} (h : H' P.ta = some (tgO V.str l)) (k : ∀ c, c ≠ P.ta → H' c = H c) (nd : (keysA l).Nodup) : StP K H' s { P with tk := l } := by
  have g : Gro H H' := gro_mt (mt_dT st.t) k
  have e1 := st.s_d st.t ndT.1
  obtain ⟨dx, hs⟩ := st.ins
  exact ⟨⟨dx, by rw [k _ e1]; exact hs⟩, by rw [k _ st.qt]; exact st.q, by rw [k _ (ne_kind st.b st.t fun z => by cases z)]; exact st.b, h, by rw [k _ st.to.symm]; exact st.o, st.qt, st.qo, st.to,
    fun e he => (st.its e he).keep g fun o z => by rw [k _ (st.d_i st.t ndT.1 he)]; exact z,
    fun e he => (st.bxs e he).keep g fun z o q m => by rw [k _ fun w => st.d_x st.t ndT.1 ndT.2 he (w ▸ m)]; exact q, st.qi, st.bi, st.nq, st.nb, nd, st.no⟩
theorem StP.putO (st : StP K H s P) {l : List (Tag × Str)} (h : H' P.oa = some (tgO V.str l)) (k : ∀ c, c ≠ P.oa → H' c = H c) (nd : (keysA l).Nodup) : StP K H' s { P with ow := l } := by
  have g : Gro H H' := gro_mt (mt_dT st.o) k
  have e1 := st.s_d st.o ndT.1
  obtain ⟨dx, hs⟩ := st.ins
  exact ⟨⟨dx, by rw [k _ e1]; exact hs⟩, by rw [k _ st.qo]; exact st.q, by rw [k _ (ne_kind st.b st.o fun z => by cases z)]; exact st.b, by rw [k _ st.to]; exact st.t, h, st.qt, st.qo, st.to,
    fun e he => (st.its e he).keep g fun o z => by rw [k _ (st.d_i st.o ndT.1 he)]; exact z,
    fun e he => (st.bxs e he).keep g fun z o q m => by rw [k _ fun w => st.d_x st.o ndT.1 ndT.2 he (w ▸ m)]; exact q, st.qi, st.bi, st.nq, st.nb, st.nt, nd⟩
end
end Dk

/-! What events do to a state. -/
namespace Dk
open PySem PySem.Spec PyProof.Rows L2
inductive Ev where
  | submit (snd : Option Adr) (rs : List Adr) (ls : List Str) (t : Int)
  | take (peer : Str) (tag : Tag) (snd : Option Adr) (r : Adr) (via : List Adr) (ls : List Str) (t : Int)
  | doubt (tag : Tag) (h : Str)
  | retry (tag : Tag) (n t : Int)
  | passed (tag : Tag) (h : Str)
  | deliver (tag : Tag) (u : Str)
  | bounce (tag : Tag) (why : Str) (t : Int)
  | expand (tag : Tag) (own : Option Adr) (ms : List Adr) (t : Int)
  | forgotten (tag : Tag)
  | forget (tag : Tag)
  | flag (u : Str) (n : Int) (fs gs : List Str)
  | expunge (u : Str) (n : Int)
def Ev.kind : Ev → Str
  | .submit .. => Str.ofString "submit"
  | .take .. => Str.ofString "take"
  | .doubt .. => Str.ofString "doubt"
  | .retry .. => Str.ofString "retry"
  | .passed .. => Str.ofString "passed"
  | .deliver .. => Str.ofString "deliver"
  | .bounce .. => Str.ofString "bounce"
  | .expand .. => Str.ofString "expand"
  | .forgotten .. => Str.ofString "forgotten"
  | .forget .. => Str.ofString "forget"
  | .flag .. => Str.ofString "flag"
  | .expunge .. => Str.ofString "expunge"
def Ev.args : Ev → List PyData
  | .submit snd rs ls t => [sndD snd, viaD rs, sD ls, .int t]
  | .take p tag snd r via ls t => [.str p, tagD tag, sndD snd, adrD r, viaD via, sD ls, .int t]
  | .doubt tag h => [tagD tag, .str h]
  | .retry tag n t => [tagD tag, .int n, .int t]
  | .passed tag h => [tagD tag, .str h]
  | .deliver tag u => [tagD tag, .str u]
  | .bounce tag w t => [tagD tag, .str w, .int t]
  | .expand tag own ms t => [tagD tag, sndD own, viaD ms, .int t]
  | .forgotten tag => [tagD tag]
  | .forget tag => [tagD tag]
  | .flag u n fs _ => [.str u, .int n, sD fs]
  | .expunge u n => [.str u, .int n]
def evD (e : Ev) : PyData := .tuple (.str e.kind :: e.args)
def ownM (own snd : Option Adr) : Option Adr := match own, snd with
  | some o, some _ => some o
  | _, s => s
namespace Sx
def tagN (S : Sx) : Tag := (S.dom, S.serial + 1, 0)
def create (S : Sx) (snd : Option Adr) (r : Adr) (ls : List Str) (via : List Adr) (t : Int) : Sx := { S with serial := S.serial + 1, q := setA S.q S.tagN ⟨snd, r, ls, via, t, 0, t, none⟩ }
def creates (snd : Option Adr) (ls : List Str) (via : List Adr) (t : Int) : List Adr → Sx → Sx
  | [], S => S
  | r :: rs, S => creates snd ls via t rs (S.create snd r ls via t)
def tagsN (S : Sx) (n : Nat) : List Tag := (List.range n).map fun (i : Nat) => (S.dom, S.serial + 1 + i, 0)
def tr (S : Sx) (ls : List Str) : List Str := (trS ++ S.dom) :: ls
def bounced (S : Sx) (x : Itm) (why : Str) : List Str := S.tr (reportM x.rcp.1 x.rcp.2 why)
/-- the queue without an item -/
def pop (S : Sx) (t : Tag) : Sx := { S with q := delA S.q t }
def boxOf (S : Sx) (u : Str) : Bx := (getA S.bx u).getD ⟨0, 0, [], []⟩
def act (S : Sx) (ev : Ev) : Sx × List Tag :=
  match ev with
  | .submit snd rs ls t => (S.creates snd (S.tr ls) [] t rs, S.tagsN rs.length)
  | .take p tag snd r via ls t => ({ S with q := setA S.q tag ⟨snd, r, S.tr ls, via, t, 0, t, none⟩, tk := setA S.tk tag p }, [tag])
  | .doubt tag h => match getA S.q tag with
    | some x => ({ S with q := setA S.q tag { x with dbt := some h } }, [])
    | none => (S, [])
  | .retry tag n t => match getA S.q tag with
    | some x => ({ S with q := setA S.q tag { x with tries := n, due := t, dbt := none } }, [])
    | none => (S, [])
  | .passed tag h => ({ S with q := delA S.q tag, ow := setA S.ow (tag.1, tag.2.1, tag.2.2 + 1) h }, [])
  | .deliver tag u => match getA S.q tag with
    | some x => ({ S with q := delA S.q tag, bx := setA S.bx u ((S.boxOf u).dlv x.ls) }, [])
    | none => (S, [])
  | .bounce tag w t => match getA S.q tag with
    | some x => match x.snd with
      | none => (S.pop tag, [])
      | some a => ((S.pop tag).create none a (S.bounced x w) [] t, [S.tagN])
    | none => (S, [])
  | .expand tag own ms t => match getA S.q tag with
    | some x => ((S.pop tag).creates (ownM own x.snd) x.ls (x.via ++ [x.rcp]) t ms, S.tagsN ms.length)
    | none => (S, [])
  | .forgotten tag => ({ S with ow := delA S.ow tag }, [])
  | .forget tag => ({ S with tk := delA S.tk tag }, [])
  | .flag u n _ gs => ({ S with bx := setA S.bx u ((S.boxOf u).flag ((placeM (S.boxOf u).es n).getD 0) n gs) }, [])
  | .expunge u n => ({ S with bx := setA S.bx u ((S.boxOf u).cut ((placeM (S.boxOf u).es n).getD 0) n) }, [])
def apply (S : Sx) (ev : Ev) : Sx × List Tag := Sx.act { S with count := S.count + 1 } ev
/-- the event fits -/
def Fits (S : Sx) : Ev → Prop
  | .submit .. => True
  | .take .. => True
  | .doubt tag _ => (getA S.q tag).isSome = true
  | .retry tag _ _ => (getA S.q tag).isSome = true
  | .passed tag _ => (getA S.q tag).isSome = true
  | .deliver tag _ => (getA S.q tag).isSome = true
  | .bounce tag _ _ => (getA S.q tag).isSome = true
  | .expand tag _ _ _ => (getA S.q tag).isSome = true
  | .forgotten tag => (getA S.ow tag).isSome = true
  | .forget tag => (getA S.tk tag).isSome = true
  | .flag u n fs gs => (getA S.bx u).isSome = true ∧ (placeM (S.boxOf u).es n).isSome = true ∧ SortOf gs fs ∧ fs.length < 64
  | .expunge u n => (getA S.bx u).isSome = true ∧ (placeM (S.boxOf u).es n).isSome = true
/-- nothing is too long -/
structure Lim (S : Sx) : Prop where
  dom : S.dom.length ≤ 100000
  q : S.q.length ≤ 100000
  bx : S.bx.length ≤ 100000
  tk : S.tk.length ≤ 100000
  ow : S.ow.length ≤ 100000
  es : ∀ e ∈ S.bx, e.2.es.length ≤ 100000 ∧ e.2.gs.length ≤ 100000
  it : ∀ e ∈ S.q, e.2.ls.length ≤ 100000 ∧ e.2.via.length ≤ 100000 ∧ e.2.rcp.1.length + 1 + e.2.rcp.2.length ≤ 1000000
end Sx
/-- nor is the event -/
def Ev.Lim : Ev → Prop
  | .submit _ rs ls _ => rs.length ≤ 100000 ∧ ls.length ≤ 100000
  | .take _ _ _ _ _ ls _ => ls.length ≤ 100000
  | .bounce _ w _ => w.length ≤ 1000000
  | .expand _ _ ms _ => ms.length ≤ 100000
  | _ => True
section
variable {K : PySem.W.Frag} {H H' : Hp} {s p a : Addr} {P : Pst} {t : Tag} {x x' : Itm} {F F' G : List Addr} {v : V} {S : Sx}
theorem Chg.to (c : Chg F F H H') (h : ∀ b ∈ F', b ∈ F ∨ H b = none) : Chg F F' H H' := ⟨c.kp, h, c.gro⟩
theorem mt_chg (m : Mt (H a)) (k : ∀ c, c ≠ a → H' c = H c) (h : a ∈ F) : Chg F F H H' := ⟨fun b o e n => by rw [k b fun z => n (z ▸ h)]; exact e, fun _ h => .inl h, gro_mt m k⟩
theorem abs_q (P : Pst) (t : Tag) : getA P.abs.q t = (getA P.q t).map (·.2) := getA_map
theorem abs_bx (P : Pst) (u : Str) : getA P.abs.bx u = (getA P.bx u).map (·.2.2.2) := getA_map (f := fun y : Addr × Addr × Addr × Bx => y.2.2.2)
theorem abs_some {P : Pst} {t : Tag} {x : Itm} (h : getA P.abs.q t = some x) : ∃ p, getA P.q t = some (p, x) := by
  rw [abs_q] at h
  cases e : getA P.q t with
  | none => rw [e] at h; cases h
  | some y =>
    rw [e] at h
    cases h
    exact ⟨y.1, rfl⟩
theorem abs_bsome {P : Pst} {u : Str} {B : Bx} (h : getA P.abs.bx u = some B) : ∃ p E G, getA P.bx u = some (p, E, G, B) := by
  rw [abs_bx] at h
  cases e : getA P.bx u with
  | none => rw [e] at h; cases h
  | some y =>
    rw [e] at h
    cases h
    exact ⟨y.1, y.2.1, y.2.2.1, rfl⟩
/-- a new item -/
theorem StP.addQ (st : StP K H s P) (n : ∀ e ∈ P.q, e.2.1 ≠ p) (i : ItAt K H p t x) (h : H' P.qa = some (tgO refI (setA P.q t (p, x)))) (k : ∀ c, c ≠ P.qa → H' c = H c) : StP K H' s { P with q := setA P.q t (p, x) } := by
  refine st.putQ h k (fun e he => ?_) (fun e he e' he' q => ?_) (nodup_set st.nq)
  · rcases mem_set he with rfl | he
    · exact i
    · exact st.its e he
  · rcases mem_set he with rfl | he
    · rcases mem_set he' with rfl | he'
      · rfl
      · exact absurd q.symm (n e' he')
    · rcases mem_set he' with rfl | he'
      · exact absurd q (n e he)
      · exact st.qi e he e' he' q
theorem StP.delQ (st : StP K H s P) (h : H' P.qa = some (tgO refI (delA P.q t))) (k : ∀ c, c ≠ P.qa → H' c = H c) : StP K H' s { P with q := delA P.q t } :=
  st.putQ h k (fun e he => st.its e (mem_del he).1) (fun e he e' he' q => st.qi e (mem_del he).1 e' (mem_del he').1 q) (nodup_del st.nq)
/-- the queue and an item's place -/
theorem StP.q_at (st : StP K H s P) (h : getA P.q t = some (p, x)) : ItAt K H p t x := st.its _ (getA_mem h)
theorem StP.b_at {u : Str} {E : Addr} {B : Bx} (st : StP K H s P) (h : getA P.bx u = some (p, E, a, B)) : BxAt K H p E a B := st.bxs _ (getA_mem h)
theorem set_same {κ α : Type} [DecidableEq κ] {l : List (κ × α)} {k : κ} {y y' : α} {β : Type} {f : κ × α → β} (hn : (keysA l).Nodup) (h : getA l k = some y) (e : f (k, y') = f (k, y)) : (setA l k y').map f = l.map f := by
  unfold setA
  rw [h]
  show (List.map (fun e => if e.1 = k then (e.1, y') else e) l).map f = _
  rw [List.map_map]
  refine List.map_congr_left fun d hd => ?_
  show f (if d.1 = k then (d.1, y') else d) = f d
  by_cases q : d.1 = k
  · rw [if_pos q]
    have z : getA l k = some d.2 := getA_of_mem hn (by rw [← q]; exact hd)
    rw [h] at z
    cases z
    rw [q, e, ← q]
  · rw [if_neg q]
/-- an item is written -/
theorem StP.itm (st : StP K H s P) (f : Fput p H H') (h : getA P.q t = some (p, x)) (i : ItAt K H' p t x') : StP K H' s { P with q := setA P.q t (p, x') } := by
  have hm := getA_mem h
  obtain ⟨dx, hs⟩ := st.ins
  have kv : ∀ {c : Addr}, c ≠ p → H' c = H c := fun n => f.kp _ n
  refine ⟨⟨dx, by rw [kv (st.s_i hm).symm]; exact hs⟩, ?_, f.at_ st.b (fun _ _ _ z => by cases z), f.at_ st.t (fun _ _ _ z => by cases z), f.at_ st.o (fun _ _ _ z => by cases z), st.qt, st.qo, st.to, fun e he => ?_,
    fun e he => (st.bxs e he).keep f.gro fun z o q m => by rw [kv fun w => st.i_x hm he (w ▸ m)]; exact q, fun e he e' he' q => ?_, st.bi, nodup_set st.nq, st.nb, st.nt, st.no⟩
  · show H' P.qa = some (.dT ((setA P.q t (p, x')).map fun e => (tagK e.1, refI e.2)))
    rw [set_same (y' := (p, x')) (f := fun e : Tag × (Addr × Itm) => (tagK e.1, refI e.2)) st.nq h rfl]
    exact f.at_ st.q fun _ _ _ z => by cases z
  · rcases mem_setN he with rfl | ⟨he, q⟩
    · exact i
    · exact (st.its e he).keep f.gro fun o z => by rw [kv fun w => q (st.qi e he _ hm w)]; exact z
  · rcases mem_set he with rfl | he
    · rcases mem_set he' with rfl | he'
      · rfl
      · exact st.qi _ hm e' he' q
    · rcases mem_set he' with rfl | he'
      · exact st.qi e he (t, p, x) hm q
      · exact st.qi e he e' he' q
/-- a box goes on -/
theorem StP.box {u : Str} {E A' : Addr} {B B' : Bx} (st : StP K H s P) (h : getA P.bx u = some (p, E, A', B)) (c : Chg (boxP p E A') (boxP p E A') H H') (b : BxAt K H' p E A' B') : StP K H' s { P with bx := setA P.bx u (p, E, A', B') } := by
  have hm := getA_mem h
  have kv : ∀ {z : Addr} {o : HO}, H z = some o → z ∉ boxP p E A' → H' z = some o := fun e n => c.kp _ _ e n
  obtain ⟨dx, hs⟩ := st.ins
  refine ⟨⟨dx, kv hs (st.s_x hm)⟩, kv st.q (st.d_x st.q ndT.1 ndT.2 hm), ?_, kv st.t (st.d_x st.t ndT.1 ndT.2 hm), kv st.o (st.d_x st.o ndT.1 ndT.2 hm), st.qt, st.qo, st.to,
    fun e he => (st.its e he).keep c.gro fun o z => kv z (st.i_x he hm), fun e he => ?_, st.qi, fun e he e' he' n => ?_, st.nq, nodup_set st.nb, st.nt, st.no⟩
  · show H' P.ba = some (.dK ((setA P.bx u (p, E, A', B')).map fun e => (Sum.inr e.1, refB e.2)))
    rw [set_same (y' := (p, E, A', B')) (f := fun e : Str × (Addr × Addr × Addr × Bx) => ((Sum.inr e.1 : Key), refB e.2)) st.nb h rfl]
    exact kv st.b (st.d_x st.b ndK.1 ndK.2 hm)
  · rcases mem_setN he with rfl | ⟨he, q⟩
    · exact b
    · exact (st.bxs e he).chg c fun z m m' => st.bi e he _ hm q z m' m
  · rcases mem_set he with rfl | he
    · rcases mem_set he' with rfl | he'
      · exact absurd rfl n
      · exact st.bi (u, p, E, A', B) hm e' he' n
    · rcases mem_set he' with rfl | he'
      · exact st.bi e he (u, p, E, A', B) hm n
      · exact st.bi e he e' he' n
/-- a new box -/
theorem StP.addB {u : Str} {E A' : Addr} {B : Bx} (st : StP K H s P) (n : ∀ z ∈ boxP p E A', z ∉ P.fp s) (b : BxAt K H p E A' B) (h : H' P.ba = some (txO refB (setA P.bx u (p, E, A', B)))) (k : ∀ c, c ≠ P.ba → H' c = H c) : StP K H' s { P with bx := setA P.bx u (p, E, A', B) } := by
  refine st.putB h k (fun e he => ?_) (fun e he e' he' q => ?_) (nodup_set st.nb)
  · rcases mem_set he with rfl | he
    · exact b
    · exact st.bxs e he
  · rcases mem_set he with rfl | he
    · rcases mem_set he' with rfl | he'
      · exact absurd rfl q
      · exact fun z m m' => n z m (fp_x he' m')
    · rcases mem_set he' with rfl | he'
      · exact fun z m m' => n z m' (fp_x he m)
      · exact st.bi e he e' he' q
/-! the places -/
theorem fp_addQ : ∀ b ∈ ({ P with q := setA P.q t (p, x) } : Pst).fp s, b ∈ P.fp s ∨ b = p := by
  intro b h
  rcases fp_cases h with rfl | rfl | rfl | rfl | rfl | ⟨e, he, rfl⟩ | ⟨e, he, m⟩
  · exact .inl fp_s
  · exact .inl fp_q
  · exact .inl fp_b
  · exact .inl fp_t
  · exact .inl fp_o
  · rcases mem_set he with rfl | he
    · exact .inr rfl
    · exact .inl (fp_i he)
  · exact .inl (fp_x he m)
theorem fp_itm (h : getA P.q t = some (p, x)) : ∀ b ∈ ({ P with q := setA P.q t (p, x') } : Pst).fp s, b ∈ P.fp s := fun b m => (fp_addQ b m).elim id fun z => z ▸ fp_i (getA_mem h)
theorem fp_delQ : ∀ b ∈ ({ P with q := delA P.q t } : Pst).fp s, b ∈ P.fp s := by
  intro b h
  rcases fp_cases h with rfl | rfl | rfl | rfl | rfl | ⟨e, he, rfl⟩ | ⟨e, he, m⟩
  · exact fp_s
  · exact fp_q
  · exact fp_b
  · exact fp_t
  · exact fp_o
  · exact fp_i (mem_del he).1
  · exact fp_x he m
theorem fp_addB {u : Str} {E A' : Addr} {B : Bx} : ∀ b ∈ ({ P with bx := setA P.bx u (p, E, A', B) } : Pst).fp s, b ∈ P.fp s ∨ b ∈ boxP p E A' := by
  intro b h
  rcases fp_cases h with rfl | rfl | rfl | rfl | rfl | ⟨e, he, rfl⟩ | ⟨e, he, m⟩
  · exact .inl fp_s
  · exact .inl fp_q
  · exact .inl fp_b
  · exact .inl fp_t
  · exact .inl fp_o
  · exact .inl (fp_i he)
  · rcases mem_set he with rfl | he
    · exact .inr m
    · exact .inl (fp_x he m)
theorem fp_box {u : Str} {E A' : Addr} {B B' : Bx} (h : getA P.bx u = some (p, E, A', B)) : ∀ b ∈ ({ P with bx := setA P.bx u (p, E, A', B') } : Pst).fp s, b ∈ P.fp s := fun b m => (fp_addB b m).elim id fun z => fp_x (getA_mem h) z
/-! the data -/
theorem abs_addQ : ({ P with q := setA P.q t (p, x) } : Pst).abs = { P.abs with q := setA P.abs.q t x } := by
  show (⟨P.dom, P.count, P.serial, (setA P.q t (p, x)).map (fun e => (e.1, e.2.2)), P.bx.map (fun e => (e.1, e.2.2.2.2)), P.tk, P.ow⟩ : Sx) = _
  rw [setA_map (f := fun y : Addr × Itm => y.2)] <;> rfl
theorem abs_delQ : ({ P with q := delA P.q t } : Pst).abs = { P.abs with q := delA P.abs.q t } := by
  show (⟨P.dom, P.count, P.serial, (delA P.q t).map (fun e => (e.1, e.2.2)), P.bx.map (fun e => (e.1, e.2.2.2.2)), P.tk, P.ow⟩ : Sx) = _
  rw [delA_map (f := fun y : Addr × Itm => y.2)] <;> rfl
theorem abs_addB {u : Str} {E A' : Addr} {B : Bx} : ({ P with bx := setA P.bx u (p, E, A', B) } : Pst).abs = { P.abs with bx := setA P.abs.bx u B } := by
  show (⟨P.dom, P.count, P.serial, P.q.map (fun e => (e.1, e.2.2)), (setA P.bx u (p, E, A', B)).map (fun e => (e.1, e.2.2.2.2)), P.tk, P.ow⟩ : Sx) = _
  rw [setA_map (f := fun y : Addr × Addr × Addr × Bx => y.2.2.2)] <;> rfl
theorem itm_at (d : Dq H v (itmD t x)) : ∃ a vt vs vr vl vv vd, v = .ref a ∧ H a = some (.tup [vt, vs, vr, vl, vv, .int x.born, .int x.tries, .int x.due, vd]) ∧ ItV H t x vt vs vr vl vv vd := by
  cases d with
  | tup ha hs =>
    cases hs with
    | cons h1 hs =>
    cases hs with
    | cons h2 hs =>
    cases hs with
    | cons h3 hs =>
    cases hs with
    | cons h4 hs =>
    cases hs with
    | cons h5 hs =>
    cases hs with
    | cons h6 hs =>
    cases hs with
    | cons h7 hs =>
    cases hs with
    | cons h8 hs =>
    cases hs with
    | cons h9 hs =>
    cases hs
    cases h6
    cases h7
    cases h8
    exact ⟨_, _, _, _, _, _, _, rfl, ha, ⟨h1, h2, h3, h4, h5, h9⟩⟩
theorem StA.len (st : StA K H v F S) : (keysA S.q).Nodup := by
  obtain ⟨s, P, _, st, _, rfl⟩ := st
  have e : keysA P.abs.q = keysA P.q := by
    show (P.q.map fun e => (e.1, e.2.2)).map (·.1) = _
    rw [List.map_map] <;> rfl
  rw [e]
  exact st.nq
theorem creates_snoc (snd : Option Adr) (ls : List Str) (via : List Adr) (t : Int) (r : Adr) : ∀ (rs : List Adr) (S : Sx), S.creates snd ls via t (rs ++ [r]) = (S.creates snd ls via t rs).create snd r ls via t
  | [], _ => rfl
  | x :: rs, S => creates_snoc snd ls via t r rs _
theorem creates_dom {snd : Option Adr} {ls : List Str} {via : List Adr} {t : Int} : ∀ {rs : List Adr} {S : Sx}, (S.creates snd ls via t rs).dom = S.dom
  | [], _ => rfl
  | _ :: rs, _ => creates_dom (rs := rs)
theorem creates_serial {snd : Option Adr} {ls : List Str} {via : List Adr} {t : Int} : ∀ {rs : List Adr} {S : Sx}, (S.creates snd ls via t rs).serial = S.serial + rs.length
  | [], _ => by simp [Sx.creates]
  | _ :: rs, S => by
    rw [Sx.creates, creates_serial (rs := rs), List.length_cons]
    show S.serial + 1 + (rs.length : Int) = S.serial + ((rs.length + 1 : Nat) : Int)
    omega
theorem creates_len {snd : Option Adr} {ls : List Str} {via : List Adr} {t : Int} : ∀ {rs : List Adr} {S : Sx}, (S.creates snd ls via t rs).q.length ≤ S.q.length + rs.length
  | [], _ => Nat.le_refl _
  | r :: rs, S => by
    have h1 := creates_len (snd := snd) (ls := ls) (via := via) (t := t) (rs := rs) (S := S.create snd r ls via t)
    have h2 := len_set S.q S.tagN ⟨snd, r, ls, via, t, 0, t, none⟩
    rw [List.length_cons]
    show (Sx.creates snd ls via t rs (S.create snd r ls via t)).q.length ≤ _
    have h3 : (S.create snd r ls via t).q.length ≤ S.q.length + 1 := h2
    omega
theorem tagsN_snoc (S : Sx) (n : Nat) : S.tagsN (n + 1) = S.tagsN n ++ [(S.dom, S.serial + 1 + n, 0)] := by
  unfold Sx.tagsN
  rw [List.range_succ, List.map_append] <;> rfl
theorem TgL.mono {vs : List V} {ts : List Tag} (h : TgL H vs ts) (g : Gro H H') : TgL H' vs ts := Paired.mapP h fun _ _ ⟨b, e, hb⟩ => ⟨b, e, g.tup _ _ hb⟩
theorem TgL.snoc {vs : List V} {ts : List Tag} {y : V} {t : Tag} (h : TgL H vs ts) (d : Dq H y (tagD t)) : TgL H (vs ++ [y]) (ts ++ [t]) := by
  obtain ⟨b, rfl, hb⟩ := d.tag
  exact Paired.snoc h ⟨b, rfl, hb⟩
theorem via_at {v : V} {l : List Adr} (h : Dq H v (viaD l)) : ∃ a xs, v = .ref a ∧ H a = some (.tup xs) ∧ Dqs H xs (l.map adrD) := by
  cases h with
  | tup ha hs => exact ⟨_, _, rfl, ha, hs⟩
theorem adr_at {v : V} {a : Adr} (h : Dq H v (adrD a)) : ∃ p, v = .ref p ∧ H p = some (.tup [.str a.1, .str a.2]) := by
  cases h with
  | tup ha hs =>
    cases hs with
    | cons h1 hs =>
    cases hs with
    | cons h2 hs =>
    cases hs
    cases h1
    cases h2
    exact ⟨_, rfl, ha⟩
theorem fp_popped (st : StP K H s P) (h : getA P.q t = some (p, x)) : p ∉ ({ P with q := delA P.q t } : Pst).fp s := fun m => by
  have hm := getA_mem h
  rcases fp_cases m with z | z | z | z | z | ⟨e, he, z⟩ | ⟨e, he, z⟩
  · exact st.s_i hm z
  · exact st.d_i st.q ndT.1 hm z
  · exact st.d_i st.b ndK.1 hm z
  · exact st.d_i st.t ndT.1 hm z
  · exact st.d_i st.o ndT.1 hm z
  · exact (mem_del he).2 (st.qi e (mem_del he).1 _ hm z)
  · exact st.i_x hm he z
/-- and a new list -/
theorem Chg.newl {H1 H2 : Hp} (c : Chg F F' H H1) (n : H1 p = none) (sm : Same H1 H2) : Chg F (p :: F') H H2 := by
  refine ⟨(c.snd sm).kp, fun b hb => ?_, (c.snd sm).gro⟩
  rcases List.mem_cons.mp hb with rfl | hb
  · cases e : H b with
    | none => exact .inr rfl
    | some o =>
      by_cases m : b ∈ F
      · exact .inl m
      · rw [c.kp b o e m] at n
        cases n
  · exact c.nw b hb
theorem StA.mth (st : StA K H (.ref s) F S) : ∃ P : Pst, Ins H s (He.ga K "State") (stF P) ∧ P.dom = S.dom ∧ P.count = S.count ∧ P.serial = S.serial := by
  obtain ⟨_, P, e, h, _, rfl⟩ := st
  cases e
  exact ⟨P, h.ins, rfl, rfl, rfl⟩
end
end Dk

/-! Events, and the items that a list makes. -/
namespace Dk
open PySem PySem.Spec PyProof.Rows L2
def Ev.isQ : Ev → Bool
  | .submit .. | .take .. | .passed .. | .deliver .. | .bounce .. | .expand .. => true
  | _ => false
section
variable {K : PySem.W.Frag} {H H' : Hp} {s p a : Addr} {P : Pst} {t : Tag} {x x' : Itm} {F F' G : List Addr} {v : V} {S : Sx}
theorem ev_at {e : Ev} (h : Dq H v (evD e)) : ∃ p vs, v = .ref p ∧ H p = some (.tup (.str e.kind :: vs)) ∧ Dqs H vs e.args := by
  cases h with
  | tup ha hs =>
    cases hs with
    | cons h1 hs =>
    cases h1
    exact ⟨_, _, rfl, ha, hs⟩
theorem dqs0 {vs : List V} (h : Dqs H vs []) : vs = [] := by cases h; rfl
theorem dqs1 {vs : List V} {d : PyData} {ds : List PyData} (h : Dqs H vs (d :: ds)) : ∃ v us, vs = v :: us ∧ Dq H v d ∧ Dqs H us ds := by
  cases h with
  | cons h1 h2 => exact ⟨_, _, rfl, h1, h2⟩
theorem dq_str {v : V} {z : Str} (h : Dq H v (.str z)) : v = .str z := by cases h; rfl
theorem dq_int {v : V} {i : Int} (h : Dq H v (.int i)) : v = .int i := by cases h; rfl
/-- what the comprehension over the recipients keeps -/
def CrI (K : PySem.W.Frag) (s : Addr) (S0 : Sx) (F0 : List Addr) (H2 : Hp) (snd : Option Adr) (ls : List Str) (via : List Adr) (tm : Int) (ms : List Adr) (D : Addr) (i : Nat) (ys : List V) (H' : Hp) : Prop :=
  ∃ F', StA K H' (.ref s) F' (S0.creates snd ls via tm (ms.take i)) ∧ Chg F0 F' H2 H' ∧ D ∉ F' ∧ TgL H' ys (S0.tagsN i)
variable {S0 : Sx} {F0 : List Addr} {H2 : Hp} {snd : Option Adr} {ls : List Str} {via ms : List Adr} {tm : Int} {D : Addr} {i : Nat} {ys : List V}
theorem CrI.init (sa : StA K H2 (.ref s) F0 S0) (nD : H2 D = none) (kD : ∀ b, b ≠ D → H' b = H2 b) : CrI K s S0 F0 H2 snd ls via tm ms D 0 [] H' := by
  have sm : Same H2 H' := fun b o z => by rw [kD b (ne_of_none z nD)]; exact z
  exact ⟨F0, sa.same sm, Chg.same sm, sa.new_out nD, .nil⟩
theorem CrI.step {H4 H5 H6 : Hp} {F4 F5 : List Addr} {r : Adr} {y : V} (nD : H2 D = none) (hD : H4 D = some (.lst ys)) (sa4 : StA K H4 (.ref s) F4 (S0.creates snd ls via tm (ms.take i))) (c4 : Chg F0 F4 H2 H4) (nF : D ∉ F4) (ty : TgL H4 ys (S0.tagsN i)) (hr : ms[i]? = some r)
    (sa5 : StA K H5 (.ref s) F5 ((S0.creates snd ls via tm (ms.take i)).create snd r ls via tm)) (c5 : Chg F4 F5 H4 H5) (dt : Dq H5 y (tagD (S0.creates snd ls via tm (ms.take i)).tagN)) (h6 : H6 D = some (.lst (ys ++ [y]))) (k6 : ∀ b, b ≠ D → H6 b = H5 b) : CrI K s S0 F0 H2 snd ls via tm ms D (i + 1) (ys ++ [y]) H6 := by
  have lt : (ms.take i).length = i := by
    have := (List.getElem?_eq_some_iff.mp hr).1
    rw [List.length_take]
    omega
  have nF5 : D ∉ F5 := c5.out hD nF
  have hD5 : H5 D = some (.lst ys) := c5.kp _ _ hD nF
  have g6 : Gro H5 H6 := gro_but hD5 k6
  have sa6 : StA K H6 (.ref s) F5 _ := StA.chg (mt_chg (F := [D]) (mt_lst hD5) k6 (List.mem_singleton.mpr rfl)) (dsj_one nF5) sa5
  refine ⟨F5, ?_, ⟨fun b o z n => ?_, fun b hb => ?_, (c4.gro.trans c5.gro).trans g6⟩, nF5, ?_⟩
  · rw [take_one hr, creates_snoc]
    exact sa6
  · rw [k6 b (ne_of_none z nD)]
    exact (c4.trans c5).kp b o z n
  · exact (c4.trans c5).nw b hb
  · rw [tagsN_snoc]
    refine ((ty.mono c5.gro).mono g6).snoc ?_
    have e1 : (S0.creates snd ls via tm (ms.take i)).tagN = (S0.dom, S0.serial + 1 + i, 0) := by
      unfold Sx.tagN
      rw [creates_dom, creates_serial, lt]
      have e2 : S0.serial + (i : Int) + 1 = S0.serial + 1 + i := by omega
      rw [e2]
    rw [← e1]
    exact dt.mono g6
theorem CrI.fin {n : Nat} (hn : n = ms.length) (nD : H2 D = none) (c2 : Chg F F0 H H2) (h : CrI K s S0 F0 H2 snd ls via tm ms D n ys H') : ∃ F', StA K H' (.ref s) F' (S0.creates snd ls via tm ms) ∧ Chg F (D :: F') H H' ∧ D ∉ F' ∧ TgL H' ys (S0.tagsN ms.length) := by
  subst hn
  obtain ⟨F', sa4, c4, nF, ty⟩ := h
  rw [List.take_of_length_le (Nat.le_refl _)] at sa4
  refine ⟨F', sa4, ⟨fun b o z n => (c2.trans c4).kp b o z n, fun b hb => ?_, (c2.trans c4).gro⟩, nF, ty⟩
  rcases List.mem_cons.mp hb with rfl | hb
  · cases e0 : H b with
    | none => exact .inr rfl
    | some o =>
      by_cases mm : b ∈ F
      · exact .inl mm
      · rw [c2.kp b o e0 mm] at nD
        cases nD
  · exact (c2.trans c4).nw b hb
theorem CrI.len (hi : i ≤ ms.length) : (S0.creates snd ls via tm (ms.take i)).q.length ≤ S0.q.length + ms.length := by
  have q := creates_len (snd := snd) (ls := ls) (via := via) (t := tm) (rs := ms.take i) (S := S0)
  rw [List.length_take] at q
  omega
/-- a new list: the state stands -/
theorem StA.putT (st : StP K H s P) {l : List (Tag × Str)} (h : H' P.ta = some (tgO V.str l)) (k : ∀ c, c ≠ P.ta → H' c = H c) (nd : (keysA l).Nodup) : StA K H' (.ref s) (P.fp s) { P.abs with tk := l } := ⟨s, _, rfl, st.putT h k nd, rfl, rfl⟩
theorem StA.putO (st : StP K H s P) {l : List (Tag × Str)} (h : H' P.oa = some (tgO V.str l)) (k : ∀ c, c ≠ P.oa → H' c = H c) (nd : (keysA l).Nodup) : StA K H' (.ref s) (P.fp s) { P.abs with ow := l } := ⟨s, _, rfl, st.putO h k nd, rfl, rfl⟩
theorem Sx.Lim.box {u : Str} (l : S.Lim) : (S.boxOf u).es.length ≤ 100000 := by
  unfold Sx.boxOf
  cases e : getA S.bx u with
  | none => exact Nat.zero_le _
  | some B => exact (l.es _ (getA_mem e)).1
theorem Sx.Lim.boxg {u : Str} (l : S.Lim) : (S.boxOf u).gs.length ≤ 100000 := by
  unfold Sx.boxOf
  cases e : getA S.bx u with
  | none => exact Nat.zero_le _
  | some B => exact (l.es _ (getA_mem e)).2
end
end Dk

/-! The value of a state. -/
namespace Dk
open PySem PySem.Spec PyProof.Rows L2
/-! the value of a state -/
def bxD (e : Str × Bx) : PyData := .tuple [.str e.1, boxD e.2]
def rmD (e : Tag × Str) : PyData := .tuple [tagD e.1, .str e.2]
/-- a value from its parts -/
def svD (d : Str) (c n : Int) (q : List (Tag × Itm)) (b : List (Str × Bx)) (t o : List (Tag × Str)) : PyData :=
  .tuple [.str d, .int c, .int n, .tuple (q.map fun e => itmD e.1 e.2), .tuple (b.map bxD), .tuple (t.map rmD), .tuple (o.map rmD)]
/-- sorted by the keys -/
def srtT {α : Type} (l : List (Tag × α)) : List (Tag × α) := (sortTg (keysA l)).filterMap fun t => (getA l t).map fun x => (t, x)
def srtS {α : Type} (l : List (Str × α)) : List (Str × α) := (sortSt (keysA l)).filterMap fun t => (getA l t).map fun x => (t, x)
def stD (S : Sx) : PyData := svD S.dom S.count S.serial (srtT S.q) (srtS S.bx) (srtT S.tk) (srtT S.ow)
def putsA {κ α : Type} [DecidableEq κ] (l : List (κ × α)) (es : List (κ × α)) : List (κ × α) := es.foldl (fun l e => setA l e.1 e.2) l
theorem srt_take {α β : Type} {f : α → Option β} {ts : List α} {i : Nat} {t : α} {y : β} (h : ts[i]? = some t) (e : f t = some y) : (ts.take (i + 1)).filterMap f = (ts.take i).filterMap f ++ [y] := by
  rw [take_one h, List.filterMap_append, List.filterMap_cons, e] <;> rfl
theorem len_sortTg (ts : List Tag) : (sortTg ts).length = ts.length := List.length_mergeSort _
theorem len_sortSt (ss : List Str) : (sortSt ss).length = ss.length := List.length_mergeSort _
theorem sortTg_mem {α : Type} {l : List (Tag × α)} {i : Nat} {t : Tag} (h : (sortTg (keysA l))[i]? = some t) : ∃ x, getA l t = some x := by
  have m : t ∈ keysA l := List.mem_mergeSort.mp (List.mem_of_getElem? h)
  exact Option.isSome_iff_exists.mp (getA_isSome.mpr m)
theorem sortSt_mem {α : Type} {l : List (Str × α)} {i : Nat} {t : Str} (h : (sortSt (keysA l))[i]? = some t) : ∃ x, getA l t = some x := by
  have m : t ∈ keysA l := List.mem_mergeSort.mp (List.mem_of_getElem? h)
  exact Option.isSome_iff_exists.mp (getA_isSome.mpr m)
theorem tgl_at {H : Hp} {vs : List V} {ts : List Tag} {i : Nat} {v : V} (h : TgL H vs ts) (e : vs[i]? = some v) : ∃ t, ts[i]? = some t ∧ Dq H v (tagD t) := by
  have l : vs.length = ts.length := Paired.length h
  have hi := (List.getElem?_eq_some_iff.mp e).1
  have hi2 : i < ts.length := by omega
  obtain ⟨b, rfl, hb⟩ := paired_at h e (List.getElem?_eq_getElem hi2)
  exact ⟨_, List.getElem?_eq_getElem hi2, mk_tag hb⟩
theorem keys_abs (P : Pst) : keysA P.abs.q = keysA P.q := by
  show (P.q.map fun e => (e.1, e.2.2)).map (·.1) = _
  rw [List.map_map] <;> rfl
theorem keys_absb (P : Pst) : keysA P.abs.bx = keysA P.bx := by
  show (P.bx.map fun e => (e.1, e.2.2.2.2)).map (·.1) = _
  rw [List.map_map] <;> rfl
theorem sv_at {H : Hp} {v : V} {d : Str} {c n : Int} {q : List (Tag × Itm)} {b : List (Str × Bx)} {t o : List (Tag × Str)} (h : Dq H v (svD d c n q b t o)) : ∃ p a4 a5 a6 a7 xs4 xs5 xs6 xs7, v = .ref p ∧ H p = some (.tup [.str d, .int c, .int n, .ref a4, .ref a5, .ref a6, .ref a7]) ∧
    H a4 = some (.tup xs4) ∧ H a5 = some (.tup xs5) ∧ H a6 = some (.tup xs6) ∧ H a7 = some (.tup xs7) ∧ Dqs H xs4 (q.map fun e => itmD e.1 e.2) ∧ Dqs H xs5 (b.map bxD) ∧ Dqs H xs6 (t.map rmD) ∧ Dqs H xs7 (o.map rmD) := by
  cases h with
  | tup ha hs =>
    cases hs with
    | cons h1 hs =>
    cases hs with
    | cons h2 hs =>
    cases hs with
    | cons h3 hs =>
    cases hs with
    | cons h4 hs =>
    cases hs with
    | cons h5 hs =>
    cases hs with
    | cons h6 hs =>
    cases hs with
    | cons h7 hs =>
    cases hs
    cases h1
    cases h2
    cases h3
    cases h4 with
    | tup a4 b4 =>
    cases h5 with
    | tup a5 b5 =>
    cases h6 with
    | tup a6 b6 =>
    cases h7 with
    | tup a7 b7 => exact ⟨_, _, _, _, _, _, _, _, _, rfl, ha, a4, a5, a6, a7, b4, b5, b6, b7⟩
theorem bxD_at {H : Hp} {v : V} {e : Str × Bx} (h : Dq H v (bxD e)) : ∃ p b, v = .ref p ∧ H p = some (.tup [.str e.1, .ref b]) ∧ Dq H (.ref b) (boxD e.2) := by
  cases h with
  | tup ha hs =>
    cases hs with
    | cons h1 hs =>
    cases hs with
    | cons h2 hs =>
    cases hs
    cases h1
    have h3 := h2
    cases h2 with
    | tup a2 b2 => exact ⟨_, _, rfl, ha, h3⟩
theorem rmD_at {H : Hp} {v : V} {e : Tag × Str} (h : Dq H v (rmD e)) : ∃ p b, v = .ref p ∧ H p = some (.tup [b, .str e.2]) ∧ Dq H b (tagD e.1) := by
  cases h with
  | tup ha hs =>
    cases hs with
    | cons h1 hs =>
    cases hs with
    | cons h2 hs =>
    cases hs
    cases h2
    exact ⟨_, _, rfl, ha, h1⟩
/-- a state that was made since H -/
def StN (K : PySem.W.Frag) (H H' : Hp) (s : Addr) (S : Sx) : Prop := ∃ P, StP K H' s P ∧ P.abs = S ∧ Same H H' ∧ ∀ z ∈ P.fp s, H z = none
theorem puts_snoc {κ α : Type} [DecidableEq κ] {es : List (κ × α)} {i : Nat} {e : κ × α} (h : es[i]? = some e) : putsA ([] : List (κ × α)) (es.take (i + 1)) = setA (putsA [] (es.take i)) e.1 e.2 := by
  unfold putsA
  rw [take_one h, List.foldl_append] <;> rfl
theorem puts_len {κ α : Type} [DecidableEq κ] : ∀ (es l : List (κ × α)), (putsA l es).length ≤ l.length + es.length
  | [], l => Nat.le_refl _
  | e :: es, l => by
    have h1 := puts_len es (setA l e.1 e.2)
    have h2 := len_set l e.1 e.2
    show (putsA (setA l e.1 e.2) es).length ≤ _
    rw [List.length_cons]
    omega
theorem StN.same {K : PySem.W.Frag} {H H1 H2 : Hp} {s : Addr} {S : Sx} (h : StN K H H1 s S) (sm : Same H1 H2) : StN K H H2 s S := let ⟨P, a, b, c, d⟩ := h; ⟨P, a.same sm, b, c.trans sm, d⟩
end Dk

/-! The law's plain model of a state. -/
namespace Dk
open PySem PySem.Spec PyProof.Rows L2
abbrev E3 := Int × List Str × List Str
def e3D (x : E3) : PyData := .tuple [.int x.1, sD x.2.1, sD x.2.2]
/-- the model's data -/
structure Mx where
  dom : Str
  serial : Int
  count : Int
  rows : List (Tag × Itm)
  bxs : List (Str × List E3)
  nums : List (Str × Int)
  tk : List (Tag × Str)
  ow : List (Tag × Str)
namespace Mx
def tagN (M : Mx) : Tag := (M.dom, M.serial + 1, 0)
def create (M : Mx) (snd : Option Adr) (r : Adr) (ls : List Str) (via : List Adr) (t : Int) : Mx := { M with serial := M.serial + 1, rows := setA M.rows M.tagN ⟨snd, r, ls, via, t, 0, t, none⟩ }
def creates (snd : Option Adr) (ls : List Str) (via : List Adr) (t : Int) : List Adr → Mx → Mx
  | [], M => M
  | r :: rs, M => creates snd ls via t rs (M.create snd r ls via t)
def tagsN (M : Mx) (n : Nat) : List Tag := (List.range n).map fun (i : Nat) => (M.dom, M.serial + 1 + i, 0)
def tr (M : Mx) (ls : List Str) : List Str := (trS ++ M.dom) :: ls
def pop (M : Mx) (t : Tag) : Mx := { M with rows := delA M.rows t }
def boxOf (M : Mx) (u : Str) : List E3 := (getA M.bxs u).getD []
def numOf (M : Mx) (u : Str) : Int := (getA M.nums u).getD 0
/-- what a box becomes -/
def boxed (M : Mx) : Ev → Mx
  | .deliver tag u => match getA M.rows tag with
    | some x => { M with nums := setA M.nums u (M.numOf u + 1), bxs := setA M.bxs u (M.boxOf u ++ [(M.numOf u + 1, x.ls, [])]) }
    | none => M
  | .flag u n fs _ => { M with bxs := setA M.bxs u ((M.boxOf u).map fun e => (e.1, e.2.1, if e.1 = n then fs else e.2.2)) }
  | .expunge u n => { M with bxs := setA M.bxs u ((M.boxOf u).filter fun e => decide (e.1 ≠ n)) }
  | _ => M
def act (M : Mx) (ev : Ev) : Mx × List Tag :=
  match ev with
  | .submit snd rs ls t => (M.creates snd (M.tr ls) [] t rs, M.tagsN rs.length)
  | .take p tag snd r via ls t => ({ M with rows := setA M.rows tag ⟨snd, r, M.tr ls, via, t, 0, t, none⟩, tk := setA M.tk tag p }, [tag])
  | .doubt tag h => match getA M.rows tag with
    | some x => ({ M with rows := setA M.rows tag { x with dbt := some h } }, [])
    | none => (M, [])
  | .retry tag n t => match getA M.rows tag with
    | some x => ({ M with rows := setA M.rows tag { x with tries := n, due := t, dbt := none } }, [])
    | none => (M, [])
  | .passed tag h => ({ M with rows := delA M.rows tag, ow := setA M.ow (tag.1, tag.2.1, tag.2.2 + 1) h }, [])
  | .deliver tag u => ((M.boxed (.deliver tag u)).pop tag, [])
  | .bounce tag w t => match getA M.rows tag with
    | some x => match x.snd with
      | none => (M.pop tag, [])
      | some a => ((M.pop tag).create none a (M.tr (reportM x.rcp.1 x.rcp.2 w)) [] t, [M.tagN])
    | none => (M, [])
  | .expand tag own ms t => match getA M.rows tag with
    | some x => ((M.pop tag).creates (ownM own x.snd) x.ls (x.via ++ [x.rcp]) t ms, M.tagsN ms.length)
    | none => (M, [])
  | .forgotten tag => ({ M with ow := delA M.ow tag }, [])
  | .forget tag => ({ M with tk := delA M.tk tag }, [])
  | .flag u n fs gs => (M.boxed (.flag u n fs gs), [])
  | .expunge u n => (M.boxed (.expunge u n), [])
def apply (M : Mx) (ev : Ev) : Mx × List Tag := Mx.act { M with count := M.count + 1 } ev
end Mx
/-- the model with its places -/
structure Pm where
  dom : Str
  serial : Int
  count : Int
  rows : List (Tag × (V × Itm))
  bxs : List (Str × (Addr × List E3))
  nums : List (Str × Int)
  tk : List (Tag × Str)
  ow : List (Tag × Str)
  ra : Addr
  ba : Addr
  na : Addr
  ta : Addr
  oa : Addr
def Pm.abs (P : Pm) : Mx := ⟨P.dom, P.serial, P.count, P.rows.map fun e => (e.1, e.2.2), P.bxs.map fun e => (e.1, e.2.2), P.nums, P.tk, P.ow⟩
def mdF (P : Pm) : List (Key × V) := [(.inr "domain", .str P.dom), (.inr "serial", .int P.serial), (.inr "count", .int P.count), (.inr "rows", .ref P.ra), (.inr "boxes", .ref P.ba), (.inr "numbers", .ref P.na), (.inr "taken", .ref P.ta), (.inr "owed", .ref P.oa)]
abbrev rowV : V × Itm → V := fun x => x.1
abbrev lstV : Addr × List E3 → V := fun x => .ref x.1
def Pm.fp (m : Addr) (P : Pm) : List Addr := m :: P.ra :: P.ba :: P.na :: P.ta :: P.oa :: P.bxs.map (·.2.1)
structure MdP (H : Hp) (m : Addr) (P : Pm) : Prop where
  d : H m = some (.dK (mdF P))
  r : H P.ra = some (tgO rowV P.rows)
  b : H P.ba = some (txO lstV P.bxs)
  n : H P.na = some (txO V.int P.nums)
  t : H P.ta = some (tgO V.str P.tk)
  o : H P.oa = some (tgO V.str P.ow)
  rt : P.ra ≠ P.ta
  ro : P.ra ≠ P.oa
  to : P.ta ≠ P.oa
  bn : P.ba ≠ P.na
  mb : m ≠ P.ba
  mn : m ≠ P.na
  rws : ∀ e ∈ P.rows, Dq H e.2.1 (itmD e.1 e.2.2)
  lss : ∀ e ∈ P.bxs, ∃ ys, H e.2.1 = some (.lst ys) ∧ Dqs H ys (e.2.2.map e3D)
  nr : (keysA P.rows).Nodup
  nb : (keysA P.bxs).Nodup
  nn : (keysA P.nums).Nodup
  nt : (keysA P.tk).Nodup
  no : (keysA P.ow).Nodup
def MdA (H : Hp) (v : V) (F : List Addr) (M : Mx) : Prop := ∃ m P, v = .ref m ∧ MdP H m P ∧ F = P.fp m ∧ M = P.abs
section
variable {H H' : Hp} {m a : Addr} {P : Pm} {t : Tag} {x : Itm} {F F' G : List Addr} {v : V} {M : Mx}
theorem mp_m : m ∈ P.fp m := List.mem_cons_self
theorem mp_r : P.ra ∈ P.fp m := by simp [Pm.fp]
theorem mp_b : P.ba ∈ P.fp m := by simp [Pm.fp]
theorem mp_n : P.na ∈ P.fp m := by simp [Pm.fp]
theorem mp_t : P.ta ∈ P.fp m := by simp [Pm.fp]
theorem mp_o : P.oa ∈ P.fp m := by simp [Pm.fp]
theorem mp_l {e : Str × (Addr × List E3)} (h : e ∈ P.bxs) : e.2.1 ∈ P.fp m := by
  simp only [Pm.fp, List.mem_cons, List.mem_map]
  exact .inr (.inr (.inr (.inr (.inr (.inr ⟨e, h, rfl⟩)))))
theorem mp_cases {z : Addr} (h : z ∈ P.fp m) : z = m ∨ z = P.ra ∨ z = P.ba ∨ z = P.na ∨ z = P.ta ∨ z = P.oa ∨ ∃ e ∈ P.bxs, e.2.1 = z := by
  simp only [Pm.fp, List.mem_cons, List.mem_map] at h
  exact h
theorem MdP.keep (st : MdP H m P) (g : Gro H H') (k : ∀ z o, H z = some o → z ∈ P.fp m → H' z = some o) : MdP H' m P :=
  ⟨k _ _ st.d mp_m, k _ _ st.r mp_r, k _ _ st.b mp_b, k _ _ st.n mp_n, k _ _ st.t mp_t, k _ _ st.o mp_o, st.rt, st.ro, st.to, st.bn, st.mb, st.mn, fun e h => (st.rws e h).mono g,
    fun e h => let ⟨ys, a, b⟩ := st.lss e h; ⟨ys, k _ _ a (mp_l h), b.mono g⟩, st.nr, st.nb, st.nn, st.nt, st.no⟩
theorem MdP.there (st : MdP H m P) : ∀ z ∈ P.fp m, Mt (H z) := by
  intro z h
  rcases mp_cases h with rfl | rfl | rfl | rfl | rfl | rfl | ⟨e, he, rfl⟩
  · exact mt_dK st.d
  · exact mt_dT st.r
  · exact mt_dK st.b
  · exact mt_dK st.n
  · exact mt_dT st.t
  · exact mt_dT st.o
  · obtain ⟨ys, a, _⟩ := st.lss e he
    exact mt_lst a
theorem MdP.same (sm : Same H H') (st : MdP H m P) : MdP H' m P := st.keep (Gro.same sm) fun z o h _ => sm z o h
theorem MdP.chg (c : Chg F F' H H') (n : Dsj F (P.fp m)) (st : MdP H m P) : MdP H' m P := st.keep c.gro fun z o h q => c.kp z o h fun w => n z w q
theorem MdA.same (sm : Same H H') (st : MdA H v F M) : MdA H' v F M := let ⟨s, P, e1, e2, e3, e4⟩ := st; ⟨s, P, e1, e2.same sm, e3, e4⟩
theorem MdA.chg (c : Chg G F' H H') (n : Dsj G F) (st : MdA H v F M) : MdA H' v F M := by
  obtain ⟨s, P, e1, e2, rfl, e4⟩ := st
  exact ⟨s, P, e1, e2.chg c n, rfl, e4⟩
theorem MdA.there (st : MdA H v F M) : ∀ z ∈ F, Mt (H z) := by
  obtain ⟨s, P, e1, e2, rfl, e4⟩ := st
  exact e2.there
theorem MdA.new_out (st : MdA H v F M) (n : H a = none) : a ∉ F := fun q => by
  obtain ⟨u, z, _⟩ := st.there a q
  rw [n] at z
  cases z
theorem MdA.apart (c : Chg G F' H H') (n : Dsj G F) (st : MdA H v F M) : Dsj F' F := fun b hb q => by
  obtain ⟨u, e, _⟩ := st.there b q
  exact c.out e (fun z => n b z q) hb
theorem MdA.stp {b : Addr} (sp : Stp b H H') (n : b ∉ F) (st : MdA H v F M) : MdA H' v F M := st.chg sp.chg (dsj_one n)
/-- one dict of the model is written; the lists stand -/
theorem MdP.put (st : MdP H m P) {P' : Pm} (h : a ∈ [m, P.ra, P.ba, P.na, P.ta, P.oa]) (k : ∀ c, c ≠ a → H' c = H c) (e1 : P'.ra = P.ra) (e2 : P'.ba = P.ba) (e3 : P'.na = P.na) (e4 : P'.ta = P.ta) (e5 : P'.oa = P.oa)
    (d : H' m = some (.dK (mdF P'))) (r : H' P.ra = some (tgO rowV P'.rows)) (b : H' P.ba = some (txO lstV P'.bxs)) (n : H' P.na = some (txO V.int P'.nums)) (t : H' P.ta = some (tgO V.str P'.tk)) (o : H' P.oa = some (tgO V.str P'.ow))
    (rws : ∀ e ∈ P'.rows, Dq H e.2.1 (itmD e.1 e.2.2)) (lss : ∀ e ∈ P'.bxs, ∃ ys, H e.2.1 = some (.lst ys) ∧ Dqs H ys (e.2.2.map e3D))
    (nr : (keysA P'.rows).Nodup) (nb : (keysA P'.bxs).Nodup) (nn : (keysA P'.nums).Nodup) (nt : (keysA P'.tk).Nodup) (no : (keysA P'.ow).Nodup) : MdP H' m P' := by
  have dk : ∀ z ∈ [m, P.ra, P.ba, P.na, P.ta, P.oa], (∃ kvs, H z = some (.dK kvs)) ∨ ∃ kvs, H z = some (.dT kvs) := by
    intro z hz
    simp only [List.mem_cons, List.not_mem_nil, or_false] at hz
    rcases hz with rfl | rfl | rfl | rfl | rfl | rfl
    · exact .inl ⟨_, st.d⟩
    · exact .inr ⟨_, st.r⟩
    · exact .inl ⟨_, st.b⟩
    · exact .inl ⟨_, st.n⟩
    · exact .inr ⟨_, st.t⟩
    · exact .inr ⟨_, st.o⟩
  have mt : Mt (H a) := (dk a h).elim (fun ⟨_, q⟩ => mt_dK q) fun ⟨_, q⟩ => mt_dT q
  have g : Gro H H' := gro_mt mt k
  refine ⟨d, by rw [e1]; exact r, by rw [e2]; exact b, by rw [e3]; exact n, by rw [e4]; exact t, by rw [e5]; exact o, by rw [e1, e4]; exact st.rt, by rw [e1, e5]; exact st.ro, by rw [e4, e5]; exact st.to, by rw [e2, e3]; exact st.bn, by rw [e2]; exact st.mb, by rw [e3]; exact st.mn,
    fun e he => (rws e he).mono g, fun e he => ?_, nr, nb, nn, nt, no⟩
  obtain ⟨ys, q1, q2⟩ := lss e he
  refine ⟨ys, ?_, q2.mono g⟩
  rw [k _ fun z => ?_]
  · exact q1
  · rw [z] at q1
    rcases dk a h with ⟨kvs, q⟩ | ⟨kvs, q⟩
    · rw [q] at q1
      cases q1
    · rw [q] at q1
      cases q1
theorem MdP.m_r (st : MdP H m P) : m ≠ P.ra := ne_kind st.d st.r fun z => by cases z
theorem MdP.m_t (st : MdP H m P) : m ≠ P.ta := ne_kind st.d st.t fun z => by cases z
theorem MdP.m_o (st : MdP H m P) : m ≠ P.oa := ne_kind st.d st.o fun z => by cases z
theorem MdP.b_r (st : MdP H m P) : P.ba ≠ P.ra := ne_kind st.b st.r fun z => by cases z
theorem MdP.b_t (st : MdP H m P) : P.ba ≠ P.ta := ne_kind st.b st.t fun z => by cases z
theorem MdP.b_o (st : MdP H m P) : P.ba ≠ P.oa := ne_kind st.b st.o fun z => by cases z
theorem MdP.n_r (st : MdP H m P) : P.na ≠ P.ra := ne_kind st.n st.r fun z => by cases z
theorem MdP.n_t (st : MdP H m P) : P.na ≠ P.ta := ne_kind st.n st.t fun z => by cases z
theorem MdP.n_o (st : MdP H m P) : P.na ≠ P.oa := ne_kind st.n st.o fun z => by cases z
theorem MdP.putD (st : MdP H m P) {s c : Int} (h : H' m = some (.dK (mdF { P with serial := s, count := c }))) (k : ∀ z, z ≠ m → H' z = H z) : MdP H' m { P with serial := s, count := c } :=
  st.put (P' := { P with serial := s, count := c }) (a := m) (by simp) k rfl rfl rfl rfl rfl h (by rw [k _ st.m_r.symm]; exact st.r) (by rw [k _ st.mb.symm]; exact st.b) (by rw [k _ st.mn.symm]; exact st.n) (by rw [k _ st.m_t.symm]; exact st.t) (by rw [k _ st.m_o.symm]; exact st.o) st.rws st.lss st.nr st.nb st.nn st.nt st.no
theorem MdP.putR (st : MdP H m P) {l : List (Tag × (V × Itm))} (h : H' P.ra = some (tgO rowV l)) (k : ∀ z, z ≠ P.ra → H' z = H z) (rl : ∀ e ∈ l, Dq H e.2.1 (itmD e.1 e.2.2)) (nd : (keysA l).Nodup) : MdP H' m { P with rows := l } :=
  st.put (P' := { P with rows := l }) (a := P.ra) (by simp) k rfl rfl rfl rfl rfl (by rw [k _ st.m_r]; exact st.d) h (by rw [k _ st.b_r]; exact st.b) (by rw [k _ st.n_r]; exact st.n) (by rw [k _ st.rt.symm]; exact st.t) (by rw [k _ st.ro.symm]; exact st.o) rl st.lss nd st.nb st.nn st.nt st.no
theorem MdP.putB (st : MdP H m P) {l : List (Str × (Addr × List E3))} (h : H' P.ba = some (txO lstV l)) (k : ∀ z, z ≠ P.ba → H' z = H z) (ll : ∀ e ∈ l, ∃ ys, H e.2.1 = some (.lst ys) ∧ Dqs H ys (e.2.2.map e3D)) (nd : (keysA l).Nodup) : MdP H' m { P with bxs := l } :=
  st.put (P' := { P with bxs := l }) (a := P.ba) (by simp) k rfl rfl rfl rfl rfl (by rw [k _ st.mb]; exact st.d) (by rw [k _ st.b_r.symm]; exact st.r) h (by rw [k _ st.bn.symm]; exact st.n) (by rw [k _ st.b_t.symm]; exact st.t) (by rw [k _ st.b_o.symm]; exact st.o) st.rws ll st.nr nd st.nn st.nt st.no
theorem MdP.putN (st : MdP H m P) {l : List (Str × Int)} (h : H' P.na = some (txO V.int l)) (k : ∀ z, z ≠ P.na → H' z = H z) (nd : (keysA l).Nodup) : MdP H' m { P with nums := l } :=
  st.put (P' := { P with nums := l }) (a := P.na) (by simp) k rfl rfl rfl rfl rfl (by rw [k _ st.mn]; exact st.d) (by rw [k _ st.n_r.symm]; exact st.r) (by rw [k _ st.bn]; exact st.b) h (by rw [k _ st.n_t.symm]; exact st.t) (by rw [k _ st.n_o.symm]; exact st.o) st.rws st.lss st.nr st.nb nd st.nt st.no
theorem MdP.putT (st : MdP H m P) {l : List (Tag × Str)} (h : H' P.ta = some (tgO V.str l)) (k : ∀ z, z ≠ P.ta → H' z = H z) (nd : (keysA l).Nodup) : MdP H' m { P with tk := l } :=
  st.put (P' := { P with tk := l }) (a := P.ta) (by simp) k rfl rfl rfl rfl rfl (by rw [k _ st.m_t]; exact st.d) (by rw [k _ st.rt]; exact st.r) (by rw [k _ st.b_t]; exact st.b) (by rw [k _ st.n_t]; exact st.n) h (by rw [k _ st.to.symm]; exact st.o) st.rws st.lss st.nr st.nb st.nn nd st.no
theorem MdP.putO (st : MdP H m P) {l : List (Tag × Str)} (h : H' P.oa = some (tgO V.str l)) (k : ∀ z, z ≠ P.oa → H' z = H z) (nd : (keysA l).Nodup) : MdP H' m { P with ow := l } :=
  st.put (P' := { P with ow := l }) (a := P.oa) (by simp) k rfl rfl rfl rfl rfl (by rw [k _ st.m_o]; exact st.d) (by rw [k _ st.ro]; exact st.r) (by rw [k _ st.b_o]; exact st.b) (by rw [k _ st.n_o]; exact st.n) (by rw [k _ st.to]; exact st.t) h st.rws st.lss st.nr st.nb st.nn st.nt nd
end
/-! the entries of the dict itself -/
section
variable {P : Pm} {p : Key × V} {l : List (Key × V)} {k : Key} {v : V}
theorem putK_ne (h : ¬ p.1 = k) (hk : (valV l k).isSome = true) : putK (p :: l) k v = p :: putK l k v := by
  unfold putK
  rw [valV_any, valV_any, valV_neg h, if_pos hk, if_pos hk, List.map_cons, if_neg h]
theorem putK_eq (h : p.1 = k) (hn : valV l k = none) : putK (p :: l) k v = (p.1, v) :: l := by
  unfold putK
  rw [valV_any, valV_pos h, if_pos Option.isSome_some, List.map_cons, if_pos h]
  have e : l.map (fun kv => if kv.1 = k then (kv.1, v) else kv) = l.map id := List.map_congr_left fun q hq => if_neg fun z => by
    have s : (l.any fun kv => decide (kv.1 = k)) = true := List.any_eq_true.mpr ⟨q, hq, decide_eq_true z⟩
    rw [valV_any, hn] at s
    cases s
  rw [e, List.map_id]
local macro_rules | `(tactic| walk_at "mdv") => `(tactic| repeat (first | exact valV_pos rfl | exact valV_nil | (rw [valV_neg (fun z => absurd (Sum.inr.inj z) (by decide +kernel))])))
theorem md_domain : valV (mdF P) (.inr "domain") = some (.str P.dom) := by unfold mdF; walk_at "mdv"
theorem md_serial : valV (mdF P) (.inr "serial") = some (.int P.serial) := by unfold mdF; walk_at "mdv"
theorem md_count : valV (mdF P) (.inr "count") = some (.int P.count) := by unfold mdF; walk_at "mdv"
theorem md_rows : valV (mdF P) (.inr "rows") = some (.ref P.ra) := by unfold mdF; walk_at "mdv"
theorem md_boxes : valV (mdF P) (.inr "boxes") = some (.ref P.ba) := by unfold mdF; walk_at "mdv"
theorem md_numbers : valV (mdF P) (.inr "numbers") = some (.ref P.na) := by unfold mdF; walk_at "mdv"
theorem md_taken : valV (mdF P) (.inr "taken") = some (.ref P.ta) := by unfold mdF; walk_at "mdv"
theorem md_owed : valV (mdF P) (.inr "owed") = some (.ref P.oa) := by unfold mdF; walk_at "mdv"
theorem ne_dom_ser : ¬ ((Sum.inr ("domain" : Str) : Key) = Sum.inr ("serial" : Str)) := fun z => absurd (Sum.inr.inj z) (by decide +kernel)
theorem ne_dom_cnt : ¬ ((Sum.inr ("domain" : Str) : Key) = Sum.inr ("count" : Str)) := fun z => absurd (Sum.inr.inj z) (by decide +kernel)
theorem ne_ser_cnt : ¬ ((Sum.inr ("serial" : Str) : Key) = Sum.inr ("count" : Str)) := fun z => absurd (Sum.inr.inj z) (by decide +kernel)
theorem md_putS {i : Int} : putK (mdF P) (.inr "serial") (.int i) = mdF { P with serial := i } := by
  unfold mdF
  refine (putK_ne ne_dom_ser ?_).trans (congrArg (List.cons _) (putK_eq rfl ?_))
  · rw [show (valV _ _ : Option V) = some (.int P.serial) from valV_pos rfl] <;> rfl
  · walk_at "mdv"
theorem md_putC {i : Int} : putK (mdF P) (.inr "count") (.int i) = mdF { P with count := i } := by
  unfold mdF
  refine (putK_ne ne_dom_cnt ?_).trans (congrArg (List.cons _) ((putK_ne ne_ser_cnt ?_).trans (congrArg (List.cons _) (putK_eq rfl ?_))))
  · rw [valV_neg ne_ser_cnt, valV_pos rfl] <;> rfl
  · rw [valV_pos rfl] <;> rfl
  · walk_at "mdv"
end
/-! what is drawn -/
def AdrOk (a : Adr) : Prop := Asc a.1 ∧ Asc a.2 ∧ a.1.length ≤ 100 ∧ a.2.length ≤ 100
def SndOk (o : Option Adr) : Prop := ∀ a, o = some a → AdrOk a
theorem digit_of {d : Int} (h0 : 0 ≤ d) (h1 : d < 10) : Asc (toString d : Str) ∧ (toString d : Str).length ≤ 1 := by
  have e : d = 0 ∨ d = 1 ∨ d = 2 ∨ d = 3 ∨ d = 4 ∨ d = 5 ∨ d = 6 ∨ d = 7 ∨ d = 8 ∨ d = 9 := by omega
  rcases e with rfl | rfl | rfl | rfl | rfl | rfl | rfl | rfl | rfl | rfl <;> exact ⟨by unfold Asc; decide +kernel, by decide +kernel⟩
theorem adr_ok {c : Str} {d : Int} {y : Str} (hc : Asc c) (h0 : 0 ≤ d) (h1 : d < 10) (hy : Asc y) (l1 : c.length ≤ 10) (l2 : y.length ≤ 100) : AdrOk (c ++ toString d, y) := by
  obtain ⟨a, b⟩ := digit_of h0 h1
  refine ⟨hc.app a, hy, ?_, l2⟩
  show (c ++ (toString d : Str)).length ≤ 100
  rw [PySem.Str.length_append]
  omega
theorem asc_s : Asc (Str.ofString "s") := by unfold Asc; decide +kernel
theorem asc_r : Asc (Str.ofString "r") := by unfold Asc; decide +kernel
theorem asc_x : Asc (Str.ofString "x.org") := by unfold Asc; decide +kernel
theorem asc_y : Asc (Str.ofString "y.net") := by unfold Asc; decide +kernel
/-! a displayed dict -/
theorem r_pairsC {tk tv : TE} {r : List (TE × TE)} {σ : L2.St} {H : Hp} {Q : List (V × V) → Hp → Prop} (q : tk σ H fun x H1 => tv σ H1 fun y H2 => tPairs r σ H2 fun ps H3 => Q ((x, y) :: ps) H3) : tPairs ((tk, tv) :: r) σ H Q := q
theorem r_pairsN {σ : L2.St} {H : Hp} {Q : List (V × V) → Hp → Prop} (q : Q [] H) : tPairs [] σ H Q := q
theorem merge_nodup : ∀ {more acc : List (Key × V)}, ((acc ++ more).map (·.1)).Nodup → mergeK acc more = acc ++ more
  | [], acc, _ => by
    rw [List.append_nil]
    rfl
  | kv :: r, acc, h => by
    have hn : valV acc kv.1 = none := by
      cases e : valV acc kv.1 with
      | none => rfl
      | some v =>
        have s : (acc.any fun z => decide (z.1 = kv.1)) = true := by rw [valV_any, e] <;> rfl
        obtain ⟨z, hz, q⟩ := List.any_eq_true.mp s
        rw [List.map_append, List.nodup_append] at h
        exact absurd (of_decide_eq_true q) (h.2.2 z.1 (List.mem_map.mpr ⟨z, hz, rfl⟩) kv.1 (List.mem_map.mpr ⟨kv, List.mem_cons_self, rfl⟩))
    show mergeK (putK acc kv.1 kv.2) r = _
    rw [putK_new _ hn, merge_nodup (by rw [List.append_assoc]; exact h), List.append_assoc] <;> rfl
theorem md_merge (P : Pm) : mergeK [] (mdF P) = mdF P := by
  refine (merge_nodup (acc := []) ?_).trans (List.nil_append _)
  show List.Nodup ([.inr ("domain" : Str), .inr ("serial" : Str), .inr ("count" : Str), .inr ("rows" : Str), .inr ("boxes" : Str), .inr ("numbers" : Str), .inr ("taken" : Str), .inr ("owed" : Str)] : List Key)
  decide +kernel
def dispq (p : Addr) (ps : List (V × V)) (H2 : Hp) (Q : VK) : Prop := H2 p = some (.dK []) ∧ ∃ kvs : List (Key × V), ps = kvs.map (fun kv => (kV kv.1, kv.2)) ∧ kvs.length ≤ 15 ∧ Q (.ref p) (upd H2 p (.dK (mergeK [] kvs)))
theorem r_disp {trs : List (TE × TE)} {σ : L2.St} {H : Hp} {Q : VK} (q : ∀ p H', H p = none → Same H H' → H' p = some (.dK []) → tPairs trs σ H' fun ps H2 => dispq p ps H2 Q) : tDisp trs σ H Q := fun p np => q p _ np (same_new np) upd_same
theorem r_dispM {p : Addr} {ps : List (V × V)} {H : Hp} {Q : VK} {P : Pm} (h : H p = some (.dK [])) (e : ps = (mdF P).map fun kv => (kV kv.1, kv.2)) (k : ∀ H', H' p = some (.dK (mdF P)) → (∀ b, b ≠ p → H' b = H b) → Q (.ref p) H') : dispq p ps H Q :=
  ⟨h, mdF P, e, by simp [mdF], by rw [md_merge]; exact k _ upd_same fun b hb => upd_ne hb⟩
theorem dig_log {d : Int} (h0 : 0 ≤ d) (h1 : d < 10) : d.natAbs.log2 < 1920 := by
  have e : d = 0 ∨ d = 1 ∨ d = 2 ∨ d = 3 ∨ d = 4 ∨ d = 5 ∨ d = 6 ∨ d = 7 ∨ d = 8 ∨ d = 9 := by omega
  rcases e with rfl | rfl | rfl | rfl | rfl | rfl | rfl | rfl | rfl | rfl <;> decide +kernel
theorem all_adr : ∀ {ds : List PyData}, (∀ (i : Nat) d, ds[i]? = some d → ∃ z, d = adrD z ∧ AdrOk z) → ∃ l : List Adr, ds = l.map adrD ∧ ∀ z ∈ l, AdrOk z
  | [], _ => ⟨[], rfl, fun z h => nomatch h⟩
  | d :: ds, h => by
    obtain ⟨z, rfl, hz⟩ := h 0 d rfl
    obtain ⟨l, e, hl⟩ := all_adr (ds := ds) fun i d q => h (i + 1) d (by simpa using q)
    refine ⟨z :: l, by rw [e] <;> rfl, fun y hy => ?_⟩
    rcases List.mem_cons.mp hy with q | q
    · rw [q]
      exact hz
    · exact hl y q
theorem mp_addR {P : Pm} {m : Addr} {l : List (Tag × (V × Itm))} : ({ P with rows := l } : Pm).fp m = P.fp m := rfl
theorem mabs_addR {P : Pm} {t : Tag} {v : V} {x : Itm} : ({ P with rows := setA P.rows t (v, x) } : Pm).abs = { P.abs with rows := setA P.abs.rows t x } := by
  show (⟨P.dom, P.serial, P.count, (setA P.rows t (v, x)).map (fun e => (e.1, e.2.2)), P.bxs.map (fun e => (e.1, e.2.2)), P.nums, P.tk, P.ow⟩ : Mx) = _
  rw [setA_map (f := fun y : V × Itm => y.2)] <;> rfl
theorem mabs_delR {P : Pm} {t : Tag} : ({ P with rows := delA P.rows t } : Pm).abs = { P.abs with rows := delA P.abs.rows t } := by
  show (⟨P.dom, P.serial, P.count, (delA P.rows t).map (fun e => (e.1, e.2.2)), P.bxs.map (fun e => (e.1, e.2.2)), P.nums, P.tk, P.ow⟩ : Mx) = _
  rw [delA_map (f := fun y : V × Itm => y.2)] <;> rfl
theorem mrow_some {P : Pm} {t : Tag} {x : Itm} (h : getA P.abs.rows t = some x) : ∃ v, getA P.rows t = some (v, x) := by
  have e : getA P.abs.rows t = (getA P.rows t).map (·.2) := getA_map (f := fun y : V × Itm => y.2)
  rw [e] at h
  cases q : getA P.rows t with
  | none => rw [q] at h; cases h
  | some y =>
    rw [q] at h
    cases h
    exact ⟨y.1, rfl⟩
structure MLim (M : Mx) : Prop where
  dom : M.dom.length ≤ 100000
  rows : M.rows.length ≤ 100000
  bxs : M.bxs.length ≤ 100000
  nums : M.nums.length ≤ 100000
  tk : M.tk.length ≤ 100000
  ow : M.ow.length ≤ 100000
  es : ∀ e ∈ M.bxs, e.2.length ≤ 100000
  it : ∀ e ∈ M.rows, e.2.ls.length ≤ 100000 ∧ e.2.via.length ≤ 100000 ∧ e.2.rcp.1.length + 1 + e.2.rcp.2.length ≤ 1000000
end Dk

/-! The model's items that a list makes. -/
namespace Dk
open PySem PySem.Spec PyProof.Rows L2
section
variable {snd : Option Adr} {ls : List Str} {via : List Adr} {t tm : Int}
theorem mcreates_snoc (snd : Option Adr) (ls : List Str) (via : List Adr) (t : Int) (r : Adr) : ∀ (rs : List Adr) (S : Mx), S.creates snd ls via t (rs ++ [r]) = (S.creates snd ls via t rs).create snd r ls via t
  | [], _ => rfl
  | x :: rs, S => mcreates_snoc snd ls via t r rs _
theorem mcreates_dom : ∀ {rs : List Adr} {S : Mx}, (S.creates snd ls via t rs).dom = S.dom
  | [], _ => rfl
  | _ :: rs, _ => mcreates_dom (rs := rs)
theorem mcreates_serial : ∀ {rs : List Adr} {S : Mx}, (S.creates snd ls via t rs).serial = S.serial + rs.length
  | [], _ => by simp [Mx.creates]
  | _ :: rs, S => by
    rw [Mx.creates, mcreates_serial (rs := rs), List.length_cons]
    show S.serial + 1 + (rs.length : Int) = S.serial + ((rs.length + 1 : Nat) : Int)
    omega
theorem mcreates_len : ∀ {rs : List Adr} {S : Mx}, (S.creates snd ls via t rs).rows.length ≤ S.rows.length + rs.length
  | [], _ => Nat.le_refl _
  | r :: rs, S => by
    have h1 := mcreates_len (rs := rs) (S := S.create snd r ls via t)
    have h2 := len_set S.rows S.tagN ⟨snd, r, ls, via, t, 0, t, none⟩
    rw [List.length_cons]
    show (Mx.creates snd ls via t rs (S.create snd r ls via t)).rows.length ≤ _
    have h3 : (S.create snd r ls via t).rows.length ≤ S.rows.length + 1 := h2
    omega
theorem mtagsN_snoc (S : Mx) (n : Nat) : S.tagsN (n + 1) = S.tagsN n ++ [(S.dom, S.serial + 1 + n, 0)] := by
  unfold Mx.tagsN
  rw [List.range_succ, List.map_append] <;> rfl
/-- what the comprehension over the recipients keeps -/
def CrM (m : Addr) (S0 : Mx) (F0 : List Addr) (H2 : Hp) (snd : Option Adr) (ls : List Str) (via : List Adr) (tm : Int) (ms : List Adr) (D : Addr) (i : Nat) (ys : List V) (H' : Hp) : Prop :=
  MdA H' (.ref m) F0 (S0.creates snd ls via tm (ms.take i)) ∧ Chg F0 F0 H2 H' ∧ D ∉ F0 ∧ TgL H' ys (S0.tagsN i)
variable {m : Addr} {S0 : Mx} {F F0 : List Addr} {H H' H2 : Hp} {ms : List Adr} {D : Addr} {i : Nat} {ys : List V}
theorem CrM.init (sa : MdA H2 (.ref m) F0 S0) (nD : H2 D = none) (kD : ∀ b, b ≠ D → H' b = H2 b) : CrM m S0 F0 H2 snd ls via tm ms D 0 [] H' := by
  have sm : Same H2 H' := fun b o z => by rw [kD b (ne_of_none z nD)]; exact z
  exact ⟨sa.same sm, Chg.same sm, sa.new_out nD, .nil⟩
theorem CrM.step {H4 H5 H6 : Hp} {r : Adr} {y : V} (nD : H2 D = none) (hD : H4 D = some (.lst ys)) (c4 : Chg F0 F0 H2 H4) (nF : D ∉ F0) (ty : TgL H4 ys (S0.tagsN i)) (hr : ms[i]? = some r)
    (sa5 : MdA H5 (.ref m) F0 ((S0.creates snd ls via tm (ms.take i)).create snd r ls via tm)) (c5 : Chg F0 F0 H4 H5) (dt : Dq H5 y (tagD (S0.creates snd ls via tm (ms.take i)).tagN)) (h6 : H6 D = some (.lst (ys ++ [y]))) (k6 : ∀ b, b ≠ D → H6 b = H5 b) : CrM m S0 F0 H2 snd ls via tm ms D (i + 1) (ys ++ [y]) H6 := by
  have lt : (ms.take i).length = i := by
    have := (List.getElem?_eq_some_iff.mp hr).1
    rw [List.length_take]
    omega
  have hD5 : H5 D = some (.lst ys) := c5.kp _ _ hD nF
  have g6 : Gro H5 H6 := gro_but hD5 k6
  have sa6 : MdA H6 (.ref m) F0 _ := MdA.chg (mt_chg (F := [D]) (mt_lst hD5) k6 (List.mem_singleton.mpr rfl)) (dsj_one nF) sa5
  refine ⟨?_, ⟨fun b o z n => ?_, fun b hb => .inl hb, (c4.gro.trans c5.gro).trans g6⟩, nF, ?_⟩
  · rw [take_one hr, mcreates_snoc]
    exact sa6
  · rw [k6 b (ne_of_none z nD)]
    exact (c4.trans c5).kp b o z n
  · rw [mtagsN_snoc]
    refine ((ty.mono c5.gro).mono g6).snoc ?_
    have e1 : (S0.creates snd ls via tm (ms.take i)).tagN = (S0.dom, S0.serial + 1 + i, 0) := by
      unfold Mx.tagN
      rw [mcreates_dom, mcreates_serial, lt]
      have e2 : S0.serial + (i : Int) + 1 = S0.serial + 1 + i := by omega
      rw [e2]
    rw [← e1]
    exact dt.mono g6
theorem CrM.fin {n : Nat} (hn : n = ms.length) (nD : H2 D = none) (c2 : Chg F F0 H H2) (h : CrM m S0 F0 H2 snd ls via tm ms D n ys H') : MdA H' (.ref m) F0 (S0.creates snd ls via tm ms) ∧ Chg F (D :: F0) H H' ∧ D ∉ F0 ∧ TgL H' ys (S0.tagsN ms.length) := by
  subst hn
  obtain ⟨sa4, c4, nF, ty⟩ := h
  rw [List.take_of_length_le (Nat.le_refl _)] at sa4
  refine ⟨sa4, ⟨fun b o z n => (c2.trans c4).kp b o z n, fun b hb => ?_, (c2.trans c4).gro⟩, nF, ty⟩
  rcases List.mem_cons.mp hb with rfl | hb
  · cases e0 : H b with
    | none => exact .inr rfl
    | some o =>
      by_cases mm : b ∈ F
      · exact .inl mm
      · rw [c2.kp b o e0 mm] at nD
        cases nD
  · exact (c2.trans c4).nw b hb
theorem CrM.len (hi : i ≤ ms.length) : (S0.creates snd ls via tm (ms.take i)).rows.length ≤ S0.rows.length + ms.length := by
  have q := mcreates_len (snd := snd) (ls := ls) (via := via) (t := tm) (rs := ms.take i) (S := S0)
  rw [List.length_take] at q
  omega
end
section
variable {K : PySem.W.Frag} {H : Hp} {Q : VK} {p : Addr} {z a b c d : Str}
theorem r_in3 (h : H p = some (.tup [.str a, .str b, .str c])) (q : Q (.bl (decide (z ∈ [a, b, c]))) H) : uIn K (.str z) (.ref p) H Q := r_inTs (ss := [a, b, c]) h q
theorem r_in4 (h : H p = some (.tup [.str a, .str b, .str c, .str d])) (q : Q (.bl (decide (z ∈ [a, b, c, d]))) H) : uIn K (.str z) (.ref p) H Q := r_inTs (ss := [a, b, c, d]) h q
end
/-- the event fits the model -/
def MFit (M : Mx) : Ev → Prop
  | .submit .. => True
  | .take .. => True
  | .doubt tag _ => (getA M.rows tag).isSome = true
  | .retry tag _ _ => (getA M.rows tag).isSome = true
  | .passed tag _ => (getA M.rows tag).isSome = true
  | .deliver tag _ => (getA M.rows tag).isSome = true
  | .bounce tag _ _ => (getA M.rows tag).isSome = true
  | .expand tag _ _ _ => (getA M.rows tag).isSome = true
  | .forgotten tag => (getA M.ow tag).isSome = true
  | .forget tag => (getA M.tk tag).isSome = true
  | .flag u _ _ _ => (getA M.bxs u).isSome = true
  | .expunge u _ => (getA M.bxs u).isSome = true
end Dk

/-! The state and the law's model go together. -/
namespace Dk
open PySem PySem.Spec PyProof.Rows L2
def e3s (B : Bx) : List E3 := B.es.map fun x => (x.n, x.ls, x.fs)
/-- what holds of a box -/
structure BxOk (B : Bx) : Prop where
  asc : B.es.Pairwise fun x y => x.n < y.n
  bn : ∀ x ∈ B.es, x.n ≤ B.n
structure Rel (S : Sx) (M : Mx) : Prop where
  dom : S.dom = M.dom
  cnt : S.count = M.count
  ser : S.serial = M.serial
  q : ∀ t, getA S.q t = getA M.rows t
  tk : ∀ t, getA S.tk t = getA M.tk t
  ow : ∀ t, getA S.ow t = getA M.ow t
  bx : ∀ u, getA M.bxs u = (getA S.bx u).map e3s
  nums : ∀ u, getA M.nums u = (getA S.bx u).map (·.n)
  ok : ∀ u B, getA S.bx u = some B → BxOk B
theorem Rel.tagN {S : Sx} {M : Mx} (r : Rel S M) : S.tagN = M.tagN := by
  unfold Sx.tagN Mx.tagN
  rw [r.dom, r.ser]
theorem Rel.tr {S : Sx} {M : Mx} (r : Rel S M) (ls : List Str) : S.tr ls = M.tr ls := by
  unfold Sx.tr Mx.tr
  rw [r.dom]
theorem Rel.tagsN {S : Sx} {M : Mx} (r : Rel S M) (n : Nat) : S.tagsN n = M.tagsN n := by
  unfold Sx.tagsN Mx.tagsN
  rw [r.dom, r.ser]
theorem Rel.create {S : Sx} {M : Mx} (r : Rel S M) (snd : Option Adr) (a : Adr) (ls : List Str) (via : List Adr) (t : Int) : Rel (S.create snd a ls via t) (M.create snd a ls via t) := by
  refine ⟨r.dom, r.cnt, ?_, fun u => ?_, r.tk, r.ow, r.bx, r.nums, r.ok⟩
  · show S.serial + 1 = M.serial + 1
    rw [r.ser]
  · show getA (setA S.q S.tagN _) u = getA (setA M.rows M.tagN _) u
    rw [getA_set, getA_set, r.tagN, r.q]
theorem Rel.creates (snd : Option Adr) (ls : List Str) (via : List Adr) (t : Int) : ∀ (rs : List Adr) {S : Sx} {M : Mx}, Rel S M → Rel (S.creates snd ls via t rs) (M.creates snd ls via t rs)
  | [], _, _, r => r
  | a :: rs, _, _, r => Rel.creates snd ls via t rs (r.create snd a ls via t)
theorem Rel.pop {S : Sx} {M : Mx} (r : Rel S M) (t : Tag) : Rel (S.pop t) (M.pop t) := by
  refine ⟨r.dom, r.cnt, r.ser, fun u => ?_, r.tk, r.ow, r.bx, r.nums, r.ok⟩
  show getA (delA S.q t) u = getA (delA M.rows t) u
  rw [getA_del, getA_del, r.q]
theorem Rel.count {S : Sx} {M : Mx} (r : Rel S M) : Rel { S with count := S.count + 1 } { M with count := M.count + 1 } := by
  refine ⟨r.dom, ?_, r.ser, r.q, r.tk, r.ow, r.bx, r.nums, r.ok⟩
  show S.count + 1 = M.count + 1
  rw [r.cnt]
theorem Rel.boxOf {S : Sx} {M : Mx} (r : Rel S M) (u : Str) : M.boxOf u = e3s (S.boxOf u) := by
  unfold Mx.boxOf Sx.boxOf
  rw [r.bx]
  cases getA S.bx u <;> rfl
theorem Rel.numOf {S : Sx} {M : Mx} (r : Rel S M) (u : Str) : M.numOf u = (S.boxOf u).n := by
  unfold Mx.numOf Sx.boxOf
  rw [r.nums]
  cases getA S.bx u <;> rfl
theorem Rel.okOf {S : Sx} {M : Mx} (r : Rel S M) (u : Str) : BxOk (S.boxOf u) := by
  unfold Sx.boxOf
  cases e : getA S.bx u with
  | none => exact ⟨List.Pairwise.nil, fun x h => nomatch h⟩
  | some B => exact r.ok u B e
theorem e3_dlv (B : Bx) (ls : List Str) : e3s (B.dlv ls) = e3s B ++ [(B.n + 1, ls, [])] := by
  unfold e3s Bx.dlv
  rw [List.map_append] <;> rfl
theorem BxOk.dlv {B : Bx} (o : BxOk B) (ls : List Str) : BxOk (B.dlv ls) := by
  refine ⟨List.pairwise_append.mpr ⟨o.asc, List.pairwise_singleton _ _, fun x hx y hy => ?_⟩, fun x hx => ?_⟩
  · rw [List.mem_singleton.mp hy]
    have := o.bn x hx
    show x.n < B.n + 1
    omega
  · show x.n ≤ B.n + 1
    rcases List.mem_append.mp hx with h | h
    · have := o.bn x h
      omega
    · rw [List.mem_singleton.mp h]
      exact Int.le_refl _
theorem e3_flag {B : Bx} (o : BxOk B) {n : Int} {i : Nat} (h : placeM B.es n = some i) (fs : List Str) : e3s (B.flag i n fs) = (e3s B).map fun e => (e.1, e.2.1, if e.1 = n then fs else e.2.2) := by
  have e1 := set_some o.asc h fun y => (⟨n, y.ls, fs, B.c + 1⟩ : Ent)
  obtain ⟨y, hy, _, _⟩ := place_at h
  have e2 : (B.flag i n fs).es = B.es.set i (⟨n, ((B.es[i]?).getD ⟨0, [], [], 0⟩).ls, fs, B.c + 1⟩ : Ent) := by
    unfold Bx.flag
    rw [hy] <;> rfl
  unfold e3s
  rw [e2, ← e1, List.map_map, List.map_map]
  refine List.map_congr_left fun z _ => ?_
  show ((if z.n = n then (⟨n, z.ls, fs, B.c + 1⟩ : Ent) else z).n, (if z.n = n then (⟨n, z.ls, fs, B.c + 1⟩ : Ent) else z).ls, (if z.n = n then (⟨n, z.ls, fs, B.c + 1⟩ : Ent) else z).fs) = (z.n, z.ls, if z.n = n then fs else z.fs)
  by_cases q : z.n = n
  · rw [if_pos q, if_pos q, q]
  · rw [if_neg q, if_neg q]
theorem e3_cut {B : Bx} (o : BxOk B) {n : Int} {i : Nat} (h : placeM B.es n = some i) : e3s (B.cut i n) = (e3s B).filter fun e => decide (e.1 ≠ n) := by
  have e1 := rest_some o.asc h
  unfold e3s Bx.cut
  show (B.es.eraseIdx i).map _ = _
  rw [← e1, List.filter_map]
  refine congrArg _ (List.filter_congr fun z _ => ?_)
  show (!decide (z.n = n)) = decide (z.n ≠ n)
  by_cases q : z.n = n
  · simp [q]
  · simp [q]
theorem BxOk.flag {B : Bx} (o : BxOk B) {n : Int} {i : Nat} (h : placeM B.es n = some i) (fs : List Str) : BxOk (B.flag i n fs) := by
  obtain ⟨y, hy, en, hl⟩ := place_at h
  have hes : (B.flag i n fs).es = B.es.set i (⟨n, y.ls, fs, B.c + 1⟩ : Ent) := by
    unfold Bx.flag
    rw [hy] <;> rfl
  refine ⟨?_, fun x hx => ?_⟩
  · rw [hes]
    exact asc_set o.asc hy (by rw [en])
  · rw [hes] at hx
    rcases List.mem_or_eq_of_mem_set hx with q | q
    · exact o.bn x q
    · rw [q]
      show n ≤ B.n
      rw [← en]
      exact o.bn y (List.mem_of_getElem? hy)
theorem BxOk.cut {B : Bx} (o : BxOk B) (n : Int) (i : Nat) : BxOk (B.cut i n) := by
  refine ⟨o.asc.sublist (List.eraseIdx_sublist ..), fun x hx => ?_⟩
  exact o.bn x (List.mem_of_mem_eraseIdx hx)
/-- a box is written in both -/
theorem Rel.box {S : Sx} {M : Mx} (r : Rel S M) (u : Str) (B : Bx) (o : BxOk B) : Rel { S with bx := setA S.bx u B } { M with bxs := setA M.bxs u (e3s B), nums := setA M.nums u B.n } := by
  refine ⟨r.dom, r.cnt, r.ser, r.q, r.tk, r.ow, fun w => ?_, fun w => ?_, fun w B' h => ?_⟩
  · show getA (setA M.bxs u (e3s B)) w = (getA (setA S.bx u B) w).map e3s
    rw [getA_set, getA_set]
    split
    · rfl
    · exact r.bx w
  · show getA (setA M.nums u B.n) w = (getA (setA S.bx u B) w).map (·.n)
    rw [getA_set, getA_set]
    split
    · rfl
    · exact r.nums w
  · have h : getA (setA S.bx u B) w = some B' := h
    rw [getA_set] at h
    split at h
    · cases h
      exact o
    · exact r.ok w B' h
theorem Rel.box2 {S : Sx} {M : Mx} (r : Rel S M) {u : Str} {B B0 : Bx} (o : BxOk B) (h0 : getA S.bx u = some B0) (en : B.n = B0.n) : Rel { S with bx := setA S.bx u B } { M with bxs := setA M.bxs u (e3s B) } := by
  obtain ⟨a1, a2, a3, a4, a5, a6, a7, a8, a9⟩ := r.box u B o
  refine ⟨a1, a2, a3, a4, a5, a6, a7, fun w => ?_, a9⟩
  show getA M.nums w = (getA (setA S.bx u B) w).map (·.n)
  rw [getA_set, r.nums]
  split
  · rename_i e
    rw [e, h0]
    show some B0.n = some B.n
    rw [en]
  · rfl
def SameFs : Ev → Prop
  | .flag _ _ fs gs => gs = fs
  | _ => True
theorem Rel.act {S : Sx} {M : Mx} (r : Rel S M) {ev : Ev} (f : S.Fits ev) (sf : SameFs ev) : Rel (S.act ev).1 (M.act ev).1 ∧ (S.act ev).2 = (M.act ev).2 := by
  cases ev with
  | submit snd rs ls t =>
    have e : M.tr ls = S.tr ls := (r.tr ls).symm
    refine ⟨?_, r.tagsN rs.length⟩
    show Rel (S.creates snd (S.tr ls) [] t rs) (M.creates snd (M.tr ls) [] t rs)
    rw [e]
    exact r.creates snd _ [] t rs
  | take p tag snd a via ls t =>
    refine ⟨⟨r.dom, r.cnt, r.ser, fun u => ?_, fun u => ?_, r.ow, r.bx, r.nums, r.ok⟩, rfl⟩
    · show getA (setA S.q tag _) u = getA (setA M.rows tag _) u
      rw [getA_set, getA_set, r.q, r.tr]
    · show getA (setA S.tk tag p) u = getA (setA M.tk tag p) u
      rw [getA_set, getA_set, r.tk]
  | doubt tag h =>
    obtain ⟨x, hx⟩ := Option.isSome_iff_exists.mp f
    have hx2 : getA M.rows tag = some x := by rw [← r.q]; exact hx
    simp only [Sx.act, Mx.act, hx, hx2]
    refine ⟨⟨r.dom, r.cnt, r.ser, fun u => ?_, r.tk, r.ow, r.bx, r.nums, r.ok⟩, trivial⟩
    show getA (setA S.q tag _) u = getA (setA M.rows tag _) u
    rw [getA_set, getA_set, r.q]
  | retry tag n t =>
    obtain ⟨x, hx⟩ := Option.isSome_iff_exists.mp f
    have hx2 : getA M.rows tag = some x := by rw [← r.q]; exact hx
    simp only [Sx.act, Mx.act, hx, hx2]
    refine ⟨⟨r.dom, r.cnt, r.ser, fun u => ?_, r.tk, r.ow, r.bx, r.nums, r.ok⟩, trivial⟩
    show getA (setA S.q tag _) u = getA (setA M.rows tag _) u
    rw [getA_set, getA_set, r.q]
  | passed tag h =>
    refine ⟨⟨r.dom, r.cnt, r.ser, fun u => ?_, r.tk, fun u => ?_, r.bx, r.nums, r.ok⟩, rfl⟩
    · show getA (delA S.q tag) u = getA (delA M.rows tag) u
      rw [getA_del, getA_del, r.q]
    · show getA (setA S.ow _ h) u = getA (setA M.ow _ h) u
      rw [getA_set, getA_set, r.ow]
  | deliver tag u =>
    obtain ⟨x, hx⟩ := Option.isSome_iff_exists.mp f
    have hx2 : getA M.rows tag = some x := by rw [← r.q]; exact hx
    have r2 := (r.box u ((S.boxOf u).dlv x.ls) ((r.okOf u).dlv x.ls)).pop tag
    have e : M.boxed (.deliver tag u) = { M with bxs := setA M.bxs u (e3s ((S.boxOf u).dlv x.ls)), nums := setA M.nums u ((S.boxOf u).dlv x.ls).n } := by
      simp only [Mx.boxed, hx2]
      rw [r.boxOf, r.numOf, e3_dlv] <;> rfl
    have e1 : (S.act (.deliver tag u)).1 = Sx.pop { S with bx := setA S.bx u ((S.boxOf u).dlv x.ls) } tag := by
      simp only [Sx.act, hx] <;> rfl
    have e3 : (S.act (.deliver tag u)).2 = [] := by simp only [Sx.act, hx]
    refine ⟨?_, e3⟩
    rw [e1]
    show Rel _ ((M.boxed (.deliver tag u)).pop tag)
    rw [e]
    exact r2
  | bounce tag w t =>
    obtain ⟨x, hx⟩ := Option.isSome_iff_exists.mp f
    have hx2 : getA M.rows tag = some x := by rw [← r.q]; exact hx
    cases hs : x.snd with
    | none =>
      simp only [Sx.act, Mx.act, hx, hx2, hs]
      exact ⟨r.pop tag, trivial⟩
    | some a =>
      simp only [Sx.act, Mx.act, hx, hx2, hs]
      refine ⟨?_, by rw [r.tagN]⟩
      have e : S.bounced x w = M.tr (reportM x.rcp.1 x.rcp.2 w) := r.tr _
      rw [e]
      exact (r.pop tag).create none a _ [] t
  | expand tag own ms t =>
    obtain ⟨x, hx⟩ := Option.isSome_iff_exists.mp f
    have hx2 : getA M.rows tag = some x := by rw [← r.q]; exact hx
    simp only [Sx.act, Mx.act, hx, hx2]
    exact ⟨Rel.creates _ _ _ t ms (r.pop tag), r.tagsN ms.length⟩
  | forgotten tag =>
    refine ⟨⟨r.dom, r.cnt, r.ser, r.q, r.tk, fun u => ?_, r.bx, r.nums, r.ok⟩, rfl⟩
    show getA (delA S.ow tag) u = getA (delA M.ow tag) u
    rw [getA_del, getA_del, r.ow]
  | forget tag =>
    refine ⟨⟨r.dom, r.cnt, r.ser, r.q, fun u => ?_, r.ow, r.bx, r.nums, r.ok⟩, rfl⟩
    show getA (delA S.tk tag) u = getA (delA M.tk tag) u
    rw [getA_del, getA_del, r.tk]
  | flag u n fs gs =>
    obtain ⟨f1, f2, _, _⟩ := f
    have eg : gs = fs := sf
    subst eg
    obtain ⟨B, hB⟩ := Option.isSome_iff_exists.mp f1
    obtain ⟨i, hi⟩ := Option.isSome_iff_exists.mp f2
    have eB : S.boxOf u = B := by unfold Sx.boxOf; rw [hB] <;> rfl
    refine ⟨?_, rfl⟩
    show Rel { S with bx := setA S.bx u ((S.boxOf u).flag ((placeM (S.boxOf u).es n).getD 0) n gs) } { M with bxs := setA M.bxs u ((M.boxOf u).map fun e => (e.1, e.2.1, if e.1 = n then gs else e.2.2)) }
    rw [hi, r.boxOf, ← e3_flag (r.okOf u) hi gs]
    exact r.box2 ((r.okOf u).flag hi gs) hB (by rw [eB] <;> rfl)
  | expunge u n =>
    obtain ⟨f1, f2⟩ := f
    obtain ⟨B, hB⟩ := Option.isSome_iff_exists.mp f1
    obtain ⟨i, hi⟩ := Option.isSome_iff_exists.mp f2
    have eB : S.boxOf u = B := by unfold Sx.boxOf; rw [hB] <;> rfl
    refine ⟨?_, rfl⟩
    show Rel { S with bx := setA S.bx u ((S.boxOf u).cut ((placeM (S.boxOf u).es n).getD 0) n) } { M with bxs := setA M.bxs u ((M.boxOf u).filter fun e => decide (e.1 ≠ n)) }
    rw [hi, r.boxOf, ← e3_cut (r.okOf u) hi]
    exact r.box2 ((r.okOf u).cut n i) hB (by rw [eB] <;> rfl)
/-! the same keys -/
theorem keys_perm {κ α β : Type} [DecidableEq κ] {l : List (κ × α)} {m : List (κ × β)} (nl : (keysA l).Nodup) (nm : (keysA m).Nodup) (h : ∀ k, (getA l k).isSome = (getA m k).isSome) : (keysA l).Perm (keysA m) :=
  (List.perm_ext_iff_of_nodup nl nm).mpr fun k => by rw [← getA_isSome, ← getA_isSome, h]
theorem Rel.sorted {S : Sx} {M : Mx} (r : Rel S M) (n1 : (keysA S.q).Nodup) (n2 : (keysA M.rows).Nodup) : sortTg (keysA S.q) = sortTg (keysA M.rows) := sortTg_perm (keys_perm n1 n2 fun k => by rw [r.q])
/-! the value of a state, and the state of the value -/
theorem get_puts {κ α : Type} [DecidableEq κ] : ∀ (es l : List (κ × α)) (k : κ), (keysA es).Nodup → getA (putsA l es) k = (getA es k).or (getA l k)
  | [], l, k, _ => by simp [putsA, getA_nil]
  | e :: es, l, k, h => by
    rw [keysA, List.map_cons, List.nodup_cons] at h
    show getA (putsA (setA l e.1 e.2) es) k = _
    rw [get_puts es _ k h.2, getA_set]
    by_cases q : e.1 = k
    · have n : getA es k = none := getA_none.mpr (by rw [← q]; exact h.1)
      rw [getA_pos q, n, if_pos q.symm] <;> rfl
    · rw [getA_neg q, if_neg fun z => q z.symm]
theorem nodup_puts {κ α : Type} [DecidableEq κ] : ∀ (es l : List (κ × α)), (keysA l).Nodup → (keysA (putsA l es)).Nodup
  | [], _, h => h
  | e :: es, l, h => nodup_puts es (setA l e.1 e.2) (nodup_set h)
theorem keys_fm {κ α : Type} [DecidableEq κ] {l : List (κ × α)} : ∀ {ks : List κ}, (∀ k ∈ ks, k ∈ keysA l) → keysA (ks.filterMap fun t => (getA l t).map fun x => (t, x)) = ks
  | [], _ => rfl
  | k :: ks, h => by
    obtain ⟨x, hx⟩ := Option.isSome_iff_exists.mp (getA_isSome.mpr (h k List.mem_cons_self))
    rw [List.filterMap_cons, hx]
    show k :: keysA (ks.filterMap fun t => (getA l t).map fun x => (t, x)) = k :: ks
    rw [keys_fm fun k hk => h k (List.mem_cons_of_mem _ hk)]
theorem get_fm {κ α : Type} [DecidableEq κ] {l : List (κ × α)} {j : κ} : ∀ {ks : List κ}, (∀ k ∈ ks, k ∈ keysA l) → getA (ks.filterMap fun t => (getA l t).map fun x => (t, x)) j = if j ∈ ks then getA l j else none
  | [], _ => by simp [getA_nil]
  | k :: ks, h => by
    obtain ⟨x, hx⟩ := Option.isSome_iff_exists.mp (getA_isSome.mpr (h k List.mem_cons_self))
    have ih := get_fm (j := j) (ks := ks) fun k hk => h k (List.mem_cons_of_mem _ hk)
    rw [List.filterMap_cons, hx]
    show getA ((k, x) :: ks.filterMap fun t => (getA l t).map fun x => (t, x)) j = _
    by_cases q : k = j
    · rw [getA_pos (e := (k, x)) q, if_pos (by rw [q]; exact List.mem_cons_self), ← q, hx]
    · rw [getA_neg (e := (k, x)) q, ih]
      by_cases m : j ∈ ks
      · rw [if_pos m, if_pos (List.mem_cons_of_mem _ m)]
      · rw [if_neg m, if_neg fun z => (List.mem_cons.mp z).elim (fun w => q w.symm) m]
section
variable {α : Type} {l : List (Tag × α)} {s : List (Str × α)}
theorem mem_sortTg {k : Tag} {ts : List Tag} : k ∈ sortTg ts ↔ k ∈ ts := List.mem_mergeSort
theorem mem_sortSt {k : Str} {ts : List Str} : k ∈ sortSt ts ↔ k ∈ ts := List.mem_mergeSort
theorem keys_srtT : keysA (srtT l) = sortTg (keysA l) := keys_fm fun k h => mem_sortTg.mp h
theorem keys_srtS : keysA (srtS s) = sortSt (keysA s) := keys_fm fun k h => mem_sortSt.mp h
theorem get_srtT (k : Tag) : getA (srtT l) k = getA l k := by
  unfold srtT
  rw [get_fm fun k h => mem_sortTg.mp h]
  split
  · rfl
  · rename_i n
    exact (getA_none.mpr fun z => n (mem_sortTg.mpr z)).symm
theorem get_srtS (k : Str) : getA (srtS s) k = getA s k := by
  unfold srtS
  rw [get_fm fun k h => mem_sortSt.mp h]
  split
  · rfl
  · rename_i n
    exact (getA_none.mpr fun z => n (mem_sortSt.mpr z)).symm
theorem nodup_srtT (h : (keysA l).Nodup) : (keysA (srtT l)).Nodup := by
  rw [keys_srtT]
  exact (List.mergeSort_perm _ _).nodup_iff.mpr h
theorem nodup_srtS (h : (keysA s).Nodup) : (keysA (srtS s)).Nodup := by
  rw [keys_srtS]
  exact (List.mergeSort_perm _ _).nodup_iff.mpr h
theorem get_backT (h : (keysA l).Nodup) (k : Tag) : getA (putsA [] (srtT l)) k = getA l k := by
  rw [get_puts _ _ _ (nodup_srtT h), getA_nil, get_srtT]
  cases getA l k <;> rfl
theorem get_backS (h : (keysA s).Nodup) (k : Str) : getA (putsA [] (srtS s)) k = getA s k := by
  rw [get_puts _ _ _ (nodup_srtS h), getA_nil, get_srtS]
  cases getA s k <;> rfl
end
/-- the state made of a state's value -/
def Sx.back (S : Sx) : Sx := ⟨S.dom, S.count, S.serial, putsA [] (srtT S.q), putsA [] (srtS S.bx), putsA [] (srtT S.tk), putsA [] (srtT S.ow)⟩
/-- no key twice -/
structure NdS (S : Sx) : Prop where
  q : (keysA S.q).Nodup
  b : (keysA S.bx).Nodup
  t : (keysA S.tk).Nodup
  o : (keysA S.ow).Nodup
theorem Rel.back {S : Sx} {M : Mx} (r : Rel S M) (n : NdS S) : Rel S.back M :=
  ⟨r.dom, r.cnt, r.ser, fun t => (get_backT n.q t).trans (r.q t), fun t => (get_backT n.t t).trans (r.tk t), fun t => (get_backT n.o t).trans (r.ow t),
    fun u => by rw [r.bx, ← get_backS n.b u]; rfl, fun u => by rw [r.nums, ← get_backS n.b u]; rfl, fun u B h => r.ok u B (by rw [← get_backS n.b u]; exact h)⟩
theorem NdS.back (S : Sx) : NdS S.back := ⟨nodup_puts _ _ List.nodup_nil, nodup_puts _ _ List.nodup_nil, nodup_puts _ _ List.nodup_nil, nodup_puts _ _ List.nodup_nil⟩
theorem sortSt_perm {ts us : List Str} (p : ts.Perm us) : sortSt ts = sortSt us := by
  have tl := PySem.W.sortLe_total (PyProof.Rows.listOrd PyProof.Rows.itemOrd) false fun t : Str => PySem.W.keyToks (PyData.str t)
  have anti : ∀ a b : Str, PySem.W.dataLe false PyData.str a b = true → PySem.W.dataLe false PyData.str b a = true → a = b := by
    intro a b h1 h2
    have q := (PyProof.Rows.listOrd PyProof.Rows.itemOrd).total (PySem.W.keyToks (PyData.str a)) (PySem.W.keyToks (PyData.str b)) (by simpa [PySem.W.dataLe, PySem.W.sortLe] using h2) (by simpa [PySem.W.dataLe, PySem.W.sortLe] using h1)
    simp only [PySem.W.keyToks, List.cons.injEq, Sum.inr.injEq, and_true] at q
    exact PySem.W.str_of_cps q
  exact List.Perm.eq_of_pairwise (le := fun a b => PySem.W.dataLe false PyData.str a b = true) (fun a b _ _ => anti a b) (PySem.W.sort_pairwise tl ts) (PySem.W.sort_pairwise tl us) ((List.mergeSort_perm ts _).trans (p.trans (List.mergeSort_perm us _).symm))
theorem srt_backT {α : Type} {l : List (Tag × α)} (h : (keysA l).Nodup) : srtT (putsA [] (srtT l)) = srtT l := by
  have e := sortTg_perm (keys_perm (l := putsA [] (srtT l)) (m := l) (nodup_puts _ _ List.nodup_nil) h fun k => by rw [get_backT h])
  show (sortTg (keysA (putsA [] (srtT l)))).filterMap _ = (sortTg (keysA l)).filterMap _
  rw [e]
  refine congrArg (fun f => List.filterMap f _) (funext fun k => ?_)
  rw [get_backT h]
theorem srt_backS {α : Type} {l : List (Str × α)} (h : (keysA l).Nodup) : srtS (putsA [] (srtS l)) = srtS l := by
  have e := sortSt_perm (keys_perm (l := putsA [] (srtS l)) (m := l) (nodup_puts _ _ List.nodup_nil) h fun k => by rw [get_backS h])
  show (sortSt (keysA (putsA [] (srtS l)))).filterMap _ = (sortSt (keysA l)).filterMap _
  rw [e]
  refine congrArg (fun f => List.filterMap f _) (funext fun k => ?_)
  rw [get_backS h]
theorem stD_back {S : Sx} (n : NdS S) : stD S.back = stD S := by
  show svD S.dom S.count S.serial (srtT (putsA [] (srtT S.q))) (srtS (putsA [] (srtS S.bx))) (srtT (putsA [] (srtT S.tk))) (srtT (putsA [] (srtT S.ow))) = _
  rw [srt_backT n.q, srt_backS n.b, srt_backT n.t, srt_backT n.o] <;> rfl
/-- two such dicts that hold the same -/
theorem r_neDq {H : Hp} {Q : VK} {a b : Addr} {l m : List (Tag × Str)} (h : H a = some (tgO V.str l)) (h' : H b = some (tgO V.str m)) (n : (keysA l).Nodup) (n' : (keysA m).Nodup) (e : ∀ t, getA l t = getA m t) (q : Q (.bl false) H) : neDq (.ref a) (.ref b) H Q := by
  refine ⟨a, b, _, _, rfl, rfl, h, h', ?_, fun p hp => ?_, q⟩
  · have z := (keys_perm n n' fun k => by rw [e]).length_eq
    rw [List.length_map, List.length_map] at z
    rw [List.length_map, List.length_map]
    exact z
  · obtain ⟨d, hd, rfl⟩ := List.mem_map.mp hp
    refine ⟨d.2, rfl, ?_⟩
    rw [valV_mapG tag_inj, ← e, getA_of_mem n hd] <;> rfl
end Dk

/-! Bounds of a state by the number of its events. -/
namespace Dk
open PySem PySem.Spec PyProof.Rows L2
structure ItG (n : Nat) (x : Itm) : Prop where
  snd : SndOk x.snd
  rcp : AdrOk x.rcp
  ll : x.ls.length ≤ 100
  la : ∀ s ∈ x.ls, Asc s
  vl : x.via.length ≤ 100 + n
  va : ∀ a ∈ x.via, AdrOk a
  db : ∀ h, x.dbt = some h → Asc h
structure BoxG (n : Nat) (B : Bx) : Prop where
  es : B.es.length ≤ n
  gs : B.gs.length ≤ n
  la : ∀ x ∈ B.es, (∀ s ∈ x.ls, Asc s) ∧ ∀ s ∈ x.fs, Asc s
structure Bd (n m : Nat) (S : Sx) : Prop where
  dom : Asc S.dom
  doml : S.dom.length ≤ 1000
  q : S.q.length ≤ m
  bx : S.bx.length ≤ n
  tk : S.tk.length ≤ n
  ow : S.ow.length ≤ n
  it : ∀ e ∈ S.q, Asc e.1.1 ∧ ItG n e.2
  bo : ∀ e ∈ S.bx, Asc e.1 ∧ BoxG n e.2
  ta : ∀ e ∈ S.tk, Asc e.1.1 ∧ Asc e.2
  oa : ∀ e ∈ S.ow, Asc e.1.1 ∧ Asc e.2
def EvG : Ev → Prop
  | .submit snd rs ls _ => SndOk snd ∧ rs.length ≤ 10 ∧ (∀ a ∈ rs, AdrOk a) ∧ ls.length ≤ 90 ∧ ∀ s ∈ ls, Asc s
  | .take p tag snd r via ls _ => Asc p ∧ Asc tag.1 ∧ SndOk snd ∧ AdrOk r ∧ via.length ≤ 90 ∧ (∀ a ∈ via, AdrOk a) ∧ ls.length ≤ 90 ∧ ∀ s ∈ ls, Asc s
  | .doubt _ h => Asc h
  | .retry .. => True
  | .passed _ h => Asc h
  | .deliver _ u => Asc u
  | .bounce _ w _ => Asc w ∧ w.length ≤ 1000
  | .expand _ own ms _ => SndOk own ∧ ms.length ≤ 10 ∧ ∀ a ∈ ms, AdrOk a
  | .forgotten _ => True
  | .forget _ => True
  | .flag u _ _ gs => Asc u ∧ ∀ s ∈ gs, Asc s
  | .expunge u _ => Asc u
theorem EvG.lim {e : Ev} (g : EvG e) : e.Lim := by
  cases e with
  | submit snd rs ls t => exact ⟨by have := g.2.1; omega, by have := g.2.2.2.1; omega⟩
  | take p tag snd r via ls t => exact Nat.le_trans g.2.2.2.2.2.2.1 (by omega)
  | bounce tag w t => exact Nat.le_trans g.2 (by omega)
  | expand tag own ms t => exact Nat.le_trans g.2.1 (by omega)
  | _ => trivial
section
variable {n m k j : Nat} {S : Sx} {x : Itm} {B : Bx}
theorem ItG.le (g : ItG n x) (h : n ≤ k) : ItG k x := ⟨g.snd, g.rcp, g.ll, g.la, by have := g.vl; omega, g.va, g.db⟩
theorem BoxG.le (g : BoxG n B) (h : n ≤ k) : BoxG k B := ⟨Nat.le_trans g.es h, Nat.le_trans g.gs h, g.la⟩
theorem Bd.le (b : Bd n m S) (h : n ≤ k) (h' : m ≤ j) : Bd k j S :=
  ⟨b.dom, b.doml, Nat.le_trans b.q h', Nat.le_trans b.bx h, Nat.le_trans b.tk h, Nat.le_trans b.ow h, fun e he => ⟨(b.it e he).1, (b.it e he).2.le h⟩, fun e he => ⟨(b.bo e he).1, (b.bo e he).2.le h⟩, b.ta, b.oa⟩
theorem Bd.count (b : Bd n m S) (c : Int) : Bd n m { S with count := c } := ⟨b.dom, b.doml, b.q, b.bx, b.tk, b.ow, b.it, b.bo, b.ta, b.oa⟩
theorem Bd.serial (b : Bd n m S) (c : Int) : Bd n m { S with serial := c } := ⟨b.dom, b.doml, b.q, b.bx, b.tk, b.ow, b.it, b.bo, b.ta, b.oa⟩
theorem Bd.putQ (b : Bd n m S) {t : Tag} (ht : Asc t.1) (g : ItG n x) : Bd n (m + 1) { S with q := setA S.q t x } := by
  refine ⟨b.dom, b.doml, ?_, b.bx, b.tk, b.ow, fun e he => ?_, b.bo, b.ta, b.oa⟩
  · have := len_set S.q t x
    have := b.q
    show (setA S.q t x).length ≤ m + 1
    omega
  · rcases mem_set he with rfl | h
    · exact ⟨ht, g⟩
    · exact b.it e h
theorem len_set_some {κ α : Type} [DecidableEq κ] {l : List (κ × α)} {t : κ} {x : α} (h : (getA l t).isSome = true) : (setA l t x).length = l.length := by
  unfold setA
  rw [if_pos h, List.length_map]
/-- an item that is there already is written -/
theorem Bd.setQ (b : Bd n m S) {t : Tag} {y : Itm} (h : getA S.q t = some y) (g : ItG n x) : Bd n m { S with q := setA S.q t x } := by
  refine ⟨b.dom, b.doml, ?_, b.bx, b.tk, b.ow, fun e he => ?_, b.bo, b.ta, b.oa⟩
  · show (setA S.q t x).length ≤ m
    rw [len_set_some (by rw [h] <;> rfl)]
    exact b.q
  · rcases mem_set he with rfl | h'
    · exact ⟨(b.it _ (getA_mem h)).1, g⟩
    · exact b.it e h'
theorem Bd.pop (b : Bd n m S) (t : Tag) : Bd n m { S with q := delA S.q t } :=
  ⟨b.dom, b.doml, Nat.le_trans (len_del S.q t) b.q, b.bx, b.tk, b.ow, fun e he => b.it e (mem_del he).1, b.bo, b.ta, b.oa⟩
theorem Bd.create (b : Bd n m S) {snd : Option Adr} {a : Adr} {ls : List Str} {via : List Adr} {t : Int} (g : ItG n ⟨snd, a, ls, via, t, 0, t, none⟩) : Bd n (m + 1) (S.create snd a ls via t) :=
  (b.putQ (t := S.tagN) b.dom g).serial _
theorem Bd.creates {snd : Option Adr} {ls : List Str} {via : List Adr} {t : Int} : ∀ {rs : List Adr} {m : Nat} {S : Sx}, Bd n m S → (∀ a ∈ rs, ItG n ⟨snd, a, ls, via, t, 0, t, none⟩) → Bd n (m + rs.length) (S.creates snd ls via t rs)
  | [], _, _, b, _ => b
  | a :: rs, m, S, b, g => by
    have h := Bd.creates (b.create (g a List.mem_cons_self)) fun z hz => g z (List.mem_cons_of_mem _ hz)
    exact h.le (Nat.le_refl _) (by rw [List.length_cons]; omega)
theorem Bd.putT (b : Bd n m S) {t : Tag} {p : Str} (ht : Asc t.1) (hp : Asc p) (h : n < k) : Bd k m { S with tk := setA S.tk t p } := by
  have b' := b.le (Nat.le_of_lt h) (Nat.le_refl m)
  refine ⟨b.dom, b.doml, b.q, b'.bx, ?_, b'.ow, b'.it, b'.bo, fun e he => ?_, b.oa⟩
  · have := len_set S.tk t p
    have := b.tk
    show (setA S.tk t p).length ≤ k
    omega
  · rcases mem_set he with rfl | h
    · exact ⟨ht, hp⟩
    · exact b.ta e h
theorem Bd.putO (b : Bd n m S) {t : Tag} {p : Str} (ht : Asc t.1) (hp : Asc p) (h : n < k) : Bd k m { S with ow := setA S.ow t p } := by
  have b' := b.le (Nat.le_of_lt h) (Nat.le_refl m)
  refine ⟨b.dom, b.doml, b.q, b'.bx, b'.tk, ?_, b'.it, b'.bo, b.ta, fun e he => ?_⟩
  · have := len_set S.ow t p
    have := b.ow
    show (setA S.ow t p).length ≤ k
    omega
  · rcases mem_set he with rfl | h
    · exact ⟨ht, hp⟩
    · exact b.oa e h
theorem Bd.delT (b : Bd n m S) (t : Tag) : Bd n m { S with tk := delA S.tk t } :=
  ⟨b.dom, b.doml, b.q, b.bx, Nat.le_trans (len_del S.tk t) b.tk, b.ow, b.it, b.bo, fun e he => b.ta e (mem_del he).1, b.oa⟩
theorem Bd.delO (b : Bd n m S) (t : Tag) : Bd n m { S with ow := delA S.ow t } :=
  ⟨b.dom, b.doml, b.q, b.bx, b.tk, Nat.le_trans (len_del S.ow t) b.ow, b.it, b.bo, b.ta, fun e he => b.oa e (mem_del he).1⟩
theorem Bd.putB (b : Bd n m S) {u : Str} (hu : Asc u) (h : n < k) (g : BoxG k B) : Bd k m { S with bx := setA S.bx u B } := by
  have b' := b.le (Nat.le_of_lt h) (Nat.le_refl m)
  refine ⟨b.dom, b.doml, b.q, ?_, b'.tk, b'.ow, b'.it, fun e he => ?_, b.ta, b.oa⟩
  · have := len_set S.bx u B
    have := b.bx
    show (setA S.bx u B).length ≤ k
    omega
  · rcases mem_set he with rfl | h
    · exact ⟨hu, g⟩
    · exact b'.bo e h
theorem Bd.boxOf (b : Bd n m S) (u : Str) : BoxG n (S.boxOf u) := by
  unfold Sx.boxOf
  cases e : getA S.bx u with
  | none => exact ⟨Nat.zero_le _, Nat.zero_le _, fun x h => nomatch h⟩
  | some B => exact (b.bo _ (getA_mem e)).2
theorem BoxG.dlv (g : BoxG n B) {ls : List Str} (h : ∀ s ∈ ls, Asc s) : BoxG (n + 1) (B.dlv ls) := by
  refine ⟨?_, Nat.le_trans g.gs (Nat.le_succ n), fun x hx => ?_⟩
  · show (B.es ++ [_]).length ≤ n + 1
    have := g.es
    rw [List.length_append, List.length_singleton]
    omega
  · rcases List.mem_append.mp hx with hx | hx
    · exact g.la x hx
    · rw [List.mem_singleton.mp hx]
      exact ⟨h, fun s hs => nomatch hs⟩
theorem BoxG.flag (g : BoxG n B) {i : Nat} {z : Int} {fs : List Str} (h : ∀ s ∈ fs, Asc s) : BoxG (n + 1) (B.flag i z fs) := by
  refine ⟨?_, Nat.le_trans g.gs (Nat.le_succ n), fun x hx => ?_⟩
  · show (B.es.set _ _).length ≤ n + 1
    have := g.es
    rw [List.length_set]
    omega
  · rcases List.mem_or_eq_of_mem_set hx with q | q
    · exact g.la x q
    · rw [q]
      refine ⟨fun s hs => ?_, h⟩
      cases e : B.es[i]? with
      | none =>
        simp only [e] at hs
        cases hs
      | some y =>
        simp only [e] at hs
        exact (g.la y (List.mem_of_getElem? e)).1 s hs
theorem BoxG.cut (g : BoxG n B) (i : Nat) (z : Int) : BoxG (n + 1) (B.cut i z) := by
  refine ⟨?_, ?_, fun x hx => g.la x (List.mem_of_mem_eraseIdx hx)⟩
  · show (B.es.eraseIdx i).length ≤ n + 1
    have := g.es
    have := List.length_eraseIdx_le B.es i
    omega
  · show (B.gs ++ [_]).length ≤ n + 1
    have := g.gs
    rw [List.length_append, List.length_singleton]
    omega
theorem Bd.tr (b : Bd n m S) {ls : List Str} (h : ∀ s ∈ ls, Asc s) : ∀ s ∈ S.tr ls, Asc s := fun s hs => by
  rcases List.mem_cons.mp hs with q | q
  · rw [q]
    exact tr_asc.app b.dom
  · exact h s q
theorem snd_none : SndOk none := fun _ h => nomatch h
theorem snd_some {a : Adr} (h : AdrOk a) : SndOk (some a) := fun b e => by cases e; exact h
theorem rep_asc {a : Adr} {w : Str} (h : AdrOk a) (hw : Asc w) : ∀ s ∈ reportM a.1 a.2 w, Asc s := fun s hs => by
  simp only [reportM, List.mem_cons, List.not_mem_nil, or_false] at hs
  rcases hs with rfl | rfl | rfl | rfl
  · unfold Asc
    decide +kernel
  · exact e_asc
  · exact Asc.app (by unfold Asc; decide +kernel) ((h.1.app at_asc).app h.2.1)
  · exact Asc.app (by unfold Asc; decide +kernel) hw
theorem own_ok {own snd : Option Adr} (h : SndOk own) (k : SndOk snd) : SndOk (ownM own snd) := by
  cases own with
  | none =>
    cases snd <;> exact k
  | some o =>
    cases snd with
    | none => exact k
    | some a => exact h
theorem Bd.act (b : Bd n m S) {ev : Ev} (f : S.Fits ev) (g : EvG ev) (hn : n ≤ 1000) : Bd (n + 1) (m + 10) (S.act ev).1 := by
  have b1 := b.le (Nat.le_succ n) (Nat.le_refl m)
  cases ev with
  | submit snd rs ls t =>
    obtain ⟨g1, g2, g3, g4, g5⟩ := g
    refine Bd.le (Bd.creates b1 fun a ha => ⟨g1, g3 a ha, ?_, b.tr g5, ?_, (fun _ h => nomatch h), fun z e => by have e : (none : Option Str) = some z := e; cases e⟩) (Nat.le_refl _) (by omega)
    · show (S.tr ls).length ≤ 100
      unfold Sx.tr
      rw [List.length_cons]
      omega
    · exact Nat.zero_le _
  | take p tag snd a via ls t =>
    obtain ⟨g1, g2, g3, g4, g5, g6, g7, g8⟩ := g
    have i : ItG n ⟨snd, a, S.tr ls, via, t, 0, t, none⟩ := ⟨g3, g4, by show (S.tr ls).length ≤ 100; unfold Sx.tr; rw [List.length_cons]; omega, b.tr g8, by show via.length ≤ 100 + n; omega, g6, fun z e => by have e : (none : Option Str) = some z := e; cases e⟩
    exact ((b.putQ g2 i).putT g2 g1 (Nat.lt_succ_self n)).le (Nat.le_refl _) (by omega)
  | doubt tag h =>
    obtain ⟨x, hx⟩ := Option.isSome_iff_exists.mp f
    have i : ItG n x := (b.it _ (getA_mem hx)).2
    simp only [Sx.act, hx]
    have j : ItG n { x with dbt := some h } := ⟨i.snd, i.rcp, i.ll, i.la, i.vl, i.va, fun z e => by have e : some h = some z := e; cases e; exact g⟩
    exact (b.setQ hx j).le (Nat.le_succ n) (by omega)
  | retry tag c t =>
    obtain ⟨x, hx⟩ := Option.isSome_iff_exists.mp f
    have i : ItG n x := (b.it _ (getA_mem hx)).2
    simp only [Sx.act, hx]
    have j : ItG n { x with tries := c, due := t, dbt := none } := ⟨i.snd, i.rcp, i.ll, i.la, i.vl, i.va, fun z e => by have e : (none : Option Str) = some z := e; cases e⟩
    exact (b.setQ hx j).le (Nat.le_succ n) (by omega)
  | passed tag h =>
    obtain ⟨x, hx⟩ := Option.isSome_iff_exists.mp f
    exact ((b.pop tag).putO (t := (tag.1, tag.2.1, tag.2.2 + 1)) (b.it _ (getA_mem hx)).1 g (Nat.lt_succ_self n)).le (Nat.le_refl _) (by omega)
  | deliver tag u =>
    obtain ⟨x, hx⟩ := Option.isSome_iff_exists.mp f
    have i : ItG n x := (b.it _ (getA_mem hx)).2
    simp only [Sx.act, hx]
    exact ((b.pop tag).putB g (Nat.lt_succ_self n) ((b.boxOf u).dlv i.la)).le (Nat.le_refl _) (by omega)
  | bounce tag w t =>
    obtain ⟨x, hx⟩ := Option.isSome_iff_exists.mp f
    have i : ItG n x := (b.it _ (getA_mem hx)).2
    cases hs : x.snd with
    | none =>
      simp only [Sx.act, hx, hs]
      exact (b.pop tag).le (Nat.le_succ n) (by omega)
    | some a =>
      simp only [Sx.act, hx, hs]
      refine ((b.pop tag).create (snd := none) (a := a) ⟨snd_none, i.snd a hs, ?_, b.tr (rep_asc i.rcp g.1), Nat.zero_le _, (fun _ h => absurd h List.not_mem_nil), fun z e => by have e : (none : Option Str) = some z := e; cases e⟩).le (Nat.le_succ n) (by omega)
      show (S.tr (reportM x.rcp.1 x.rcp.2 w)).length ≤ 100
      simp [Sx.tr, reportM]
  | expand tag own ms t =>
    obtain ⟨x, hx⟩ := Option.isSome_iff_exists.mp f
    obtain ⟨g1, g2, g3⟩ := g
    have i : ItG n x := (b.it _ (getA_mem hx)).2
    simp only [Sx.act, hx]
    refine Bd.le (Bd.creates (n := n + 1) (b1.pop tag) fun a ha => ⟨own_ok g1 i.snd, g3 a ha, i.ll, i.la, ?_, fun z hz => ?_, fun z e => by have e : (none : Option Str) = some z := e; cases e⟩) (Nat.le_refl _) (by omega)
    · show (x.via ++ [x.rcp]).length ≤ _
      have := i.vl
      rw [List.length_append, List.length_singleton]
      omega
    · rcases List.mem_append.mp hz with hz | hz
      · exact i.va z hz
      · rw [List.mem_singleton.mp hz]
        exact i.rcp
  | forgotten tag => exact (b.delO tag).le (Nat.le_succ n) (by omega)
  | forget tag => exact (b.delT tag).le (Nat.le_succ n) (by omega)
  | flag u z fs gs => exact (b.putB g.1 (Nat.lt_succ_self n) ((b.boxOf u).flag g.2)).le (Nat.le_refl _) (by omega)
  | expunge u z => exact (b.putB g (Nat.lt_succ_self n) ((b.boxOf u).cut _ _)).le (Nat.le_refl _) (by omega)
theorem Bd.lim (b : Bd n m S) (h : n ≤ 1000) (h' : m ≤ 100000) : S.Lim :=
  ⟨by have := b.doml; omega, Nat.le_trans b.q h', by have := b.bx; omega, by have := b.tk; omega, by have := b.ow; omega, fun e he => by
    have g := (b.bo e he).2
    exact ⟨by have := g.es; omega, by have := g.gs; omega⟩, fun e he => by
    have g := (b.it e he).2
    exact ⟨by have := g.ll; omega, by have := g.vl; omega, by have := g.rcp.2.2; omega⟩⟩
theorem mem_backT {α : Type} {l : List (Tag × α)} (h : (keysA l).Nodup) {e : Tag × α} (he : e ∈ putsA [] (srtT l)) : e ∈ l := by
  have q := getA_of_mem (nodup_puts _ [] (by exact List.nodup_nil)) he
  rw [get_backT h] at q
  exact getA_mem q
theorem mem_backS {α : Type} {l : List (Str × α)} (h : (keysA l).Nodup) {e : Str × α} (he : e ∈ putsA [] (srtS l)) : e ∈ l := by
  have q := getA_of_mem (nodup_puts _ [] (by exact List.nodup_nil)) he
  rw [get_backS h] at q
  exact getA_mem q
theorem len_keys {κ α : Type} {l : List (κ × α)} : (keysA l).length = l.length := List.length_map _
theorem len_backT {α : Type} {l : List (Tag × α)} (h : (keysA l).Nodup) : (putsA [] (srtT l)).length = l.length := by
  rw [← len_keys, ← len_keys (l := l)]
  exact (keys_perm (nodup_puts _ [] (by exact List.nodup_nil)) h fun k => by rw [get_backT h]).length_eq
theorem len_backS {α : Type} {l : List (Str × α)} (h : (keysA l).Nodup) : (putsA [] (srtS l)).length = l.length := by
  rw [← len_keys, ← len_keys (l := l)]
  exact (keys_perm (nodup_puts _ [] (by exact List.nodup_nil)) h fun k => by rw [get_backS h]).length_eq
theorem Bd.back (b : Bd n m S) (d : NdS S) : Bd n m S.back :=
  ⟨b.dom, b.doml, by show (putsA [] (srtT S.q)).length ≤ m; rw [len_backT d.q]; exact b.q, by show (putsA [] (srtS S.bx)).length ≤ n; rw [len_backS d.b]; exact b.bx, by show (putsA [] (srtT S.tk)).length ≤ n; rw [len_backT d.t]; exact b.tk, by show (putsA [] (srtT S.ow)).length ≤ n; rw [len_backT d.o]; exact b.ow,
    fun e he => b.it e (mem_backT d.q he), fun e he => b.bo e (mem_backS d.b he), fun e he => b.ta e (mem_backT d.t he), fun e he => b.oa e (mem_backT d.o he)⟩
end
/-! the same of the model -/
section
variable {n m : Nat} {S : Sx} {M : Mx}
structure NdM (M : Mx) : Prop where
  r : (keysA M.rows).Nodup
  b : (keysA M.bxs).Nodup
  n : (keysA M.nums).Nodup
  t : (keysA M.tk).Nodup
  o : (keysA M.ow).Nodup
theorem Rel.mlim (r : Rel S M) (d : NdS S) (dm : NdM M) (b : Bd n m S) (h : n ≤ 1000) (h' : m ≤ 100000) : MLim M := by
  have lk : ∀ {κ α β : Type} [DecidableEq κ] {l : List (κ × α)} {l' : List (κ × β)}, (keysA l).Nodup → (keysA l').Nodup → (∀ k, (getA l k).isSome = (getA l' k).isSome) → l.length = l'.length := fun a b c => by
    rw [← len_keys, ← len_keys (l := _)]
    exact (keys_perm a b c).length_eq
  have e1 : M.rows.length = S.q.length := lk dm.r d.q fun k => by rw [r.q]
  have e2 : M.bxs.length = S.bx.length := lk dm.b d.b fun k => by rw [r.bx]; cases getA S.bx k <;> rfl
  have e3 : M.nums.length = S.bx.length := lk dm.n d.b fun k => by rw [r.nums]; cases getA S.bx k <;> rfl
  have e4 : M.tk.length = S.tk.length := lk dm.t d.t fun k => by rw [r.tk]
  have e5 : M.ow.length = S.ow.length := lk dm.o d.o fun k => by rw [r.ow]
  have l := b.lim h h'
  refine ⟨by rw [← r.dom]; exact l.dom, by rw [e1]; exact l.q, by rw [e2]; exact l.bx, by rw [e3]; exact l.bx, by rw [e4]; exact l.tk, by rw [e5]; exact l.ow, fun e he => ?_, fun e he => ?_⟩
  · have q := getA_of_mem dm.b he
    rw [r.bx] at q
    obtain ⟨B, hB, q2⟩ : ∃ B, getA S.bx e.1 = some B ∧ e3s B = e.2 := Option.map_eq_some_iff.mp q
    rw [← q2]
    show (e3s B).length ≤ 100000
    unfold e3s
    rw [List.length_map]
    exact (l.es _ (getA_mem hB)).1
  · have q := getA_of_mem dm.r he
    rw [← r.q] at q
    exact l.it _ (getA_mem q)
theorem Rel.row (r : Rel S M) (dm : NdM M) (b : Bd n m S) {e : Tag × Itm} (he : e ∈ M.rows) : Asc e.1.1 ∧ ItG n e.2 := by
  have q := getA_of_mem dm.r he
  rw [← r.q] at q
  exact b.it _ (getA_mem q)
end
theorem adr_okd {a : Adr} (h : AdrOk a) : Okd 1 (adrD a) := by
  refine Okd.tup (n := 0) fun d hd => ?_
  simp only [List.mem_cons, List.not_mem_nil, or_false] at hd
  rcases hd with rfl | rfl
  · exact .str h.1
  · exact .str h.2.1
theorem snd_okd {o : Option Adr} (h : SndOk o) : Okd 1 (sndD o) := by
  cases o with
  | none => exact .non
  | some a => exact adr_okd (h a rfl)
theorem tag_okd {t : Tag} (h : Asc t.1) : Okd 1 (tagD t) := by
  refine Okd.tup (n := 0) fun d hd => ?_
  simp only [List.mem_cons, List.not_mem_nil, or_false] at hd
  rcases hd with rfl | rfl | rfl
  · exact .str h
  · exact .int _
  · exact .int _
theorem via_okd {l : List Adr} (h : ∀ a ∈ l, AdrOk a) : Okd 2 (viaD l) := by
  refine Okd.tup (n := 1) fun d hd => ?_
  obtain ⟨a, ha, rfl⟩ := List.mem_map.mp hd
  exact adr_okd (h a ha)
theorem dbt_okd {o : Option Str} (h : ∀ z, o = some z → Asc z) : Okd 1 (dbtD o) := by
  cases o with
  | none => exact .non
  | some a => exact .str (h a rfl)
theorem itm_okd {n : Nat} {t : Tag} {x : Itm} (ht : Asc t.1) (g : ItG n x) : Okd 3 (itmD t x) := by
  refine Okd.tup (n := 2) fun d hd => ?_
  simp only [List.mem_cons, List.not_mem_nil, or_false] at hd
  rcases hd with rfl | rfl | rfl | rfl | rfl | rfl | rfl | rfl | rfl
  · exact (tag_okd ht).le (by omega)
  · exact (snd_okd g.snd).le (by omega)
  · exact (adr_okd g.rcp).le (by omega)
  · exact (Okd.sD (n := 1) g.la)
  · exact via_okd g.va
  · exact .int _
  · exact .int _
  · exact .int _
  · exact (dbt_okd g.db).le (by omega)
theorem ent_okd {x : Ent} (h : (∀ s ∈ x.ls, Asc s) ∧ ∀ s ∈ x.fs, Asc s) : Okd 2 (entD x) := by
  refine Okd.tup (n := 1) fun d hd => ?_
  simp only [List.mem_cons, List.not_mem_nil, or_false] at hd
  rcases hd with rfl | rfl | rfl | rfl
  · exact .int _
  · exact Okd.sD (n := 0) h.1
  · exact Okd.sD (n := 0) h.2
  · exact .int _
theorem gon_okd (x : Int × Int) : Okd 1 (gonD x) := by
  refine Okd.tup (n := 0) fun d hd => ?_
  simp only [List.mem_cons, List.not_mem_nil, or_false] at hd
  rcases hd with rfl | rfl <;> exact .int _
theorem box_okd {n : Nat} {B : Bx} (g : BoxG n B) : Okd 4 (boxD B) := by
  refine Okd.tup (n := 3) fun d hd => ?_
  simp only [List.mem_cons, List.not_mem_nil, or_false] at hd
  rcases hd with rfl | rfl | rfl | rfl
  · exact .int _
  · exact .int _
  · refine Okd.tup (n := 2) fun d hd => ?_
    obtain ⟨x, hx, rfl⟩ := List.mem_map.mp hd
    exact ent_okd (g.la x hx)
  · refine (Okd.tup (n := 1) fun d hd => ?_).le (by omega)
    obtain ⟨x, hx, rfl⟩ := List.mem_map.mp hd
    exact gon_okd x
theorem mem_srtT {α : Type} {l : List (Tag × α)} {e : Tag × α} (h : e ∈ srtT l) : e ∈ l := by
  obtain ⟨t, _, q⟩ := List.mem_filterMap.mp h
  obtain ⟨x, hx, rfl⟩ := Option.map_eq_some_iff.mp q
  exact getA_mem hx
theorem mem_srtS {α : Type} {l : List (Str × α)} {e : Str × α} (h : e ∈ srtS l) : e ∈ l := by
  obtain ⟨t, _, q⟩ := List.mem_filterMap.mp h
  obtain ⟨x, hx, rfl⟩ := Option.map_eq_some_iff.mp q
  exact getA_mem hx
theorem st_okd {n m : Nat} {S : Sx} (b : Bd n m S) : Okd 7 (stD S) := by
  refine Okd.tup (n := 6) fun d hd => ?_
  simp only [List.mem_cons, List.not_mem_nil, or_false] at hd
  rcases hd with rfl | rfl | rfl | rfl | rfl | rfl | rfl
  · exact .str b.dom
  · exact .int _
  · exact .int _
  · refine (Okd.tup (n := 3) fun d hd => ?_).le (by omega)
    obtain ⟨e, he, rfl⟩ := List.mem_map.mp hd
    have g := b.it e (mem_srtT he)
    exact itm_okd g.1 g.2
  · refine Okd.tup (n := 5) fun d hd => ?_
    obtain ⟨e, he, rfl⟩ := List.mem_map.mp hd
    have g := b.bo e (mem_srtS he)
    refine Okd.tup (n := 4) fun d hd => ?_
    simp only [List.mem_cons, List.not_mem_nil, or_false] at hd
    rcases hd with rfl | rfl
    · exact .str g.1
    · exact box_okd g.2
  · refine (Okd.tup (n := 2) fun d hd => ?_).le (by omega)
    obtain ⟨e, he, rfl⟩ := List.mem_map.mp hd
    have g := b.ta e (mem_srtT he)
    refine Okd.tup (n := 1) fun d hd => ?_
    simp only [List.mem_cons, List.not_mem_nil, or_false] at hd
    rcases hd with rfl | rfl
    · exact tag_okd g.1
    · exact .str g.2
  · refine (Okd.tup (n := 2) fun d hd => ?_).le (by omega)
    obtain ⟨e, he, rfl⟩ := List.mem_map.mp hd
    have g := b.oa e (mem_srtT he)
    refine Okd.tup (n := 1) fun d hd => ?_
    simp only [List.mem_cons, List.not_mem_nil, or_false] at hd
    rcases hd with rfl | rfl
    · exact tag_okd g.1
    · exact .str g.2
theorem e3_lay {n : Nat} {B : Bx} (g : BoxG n B) : ∀ x ∈ e3s B, Lay 4 (e3D x) := fun x hx => by
  obtain ⟨y, hy, rfl⟩ := List.mem_map.mp hx
  have h := g.la y hy
  refine (Lay.tup (n := 3) fun d hd => ?_)
  simp only [List.mem_cons, List.not_mem_nil, or_false] at hd
  rcases hd with rfl | rfl | rfl
  · exact .int _
  · exact ((Okd.sD (n := 0) h.1).le (by omega)).lay
  · exact ((Okd.sD (n := 0) h.2).le (by omega)).lay
/-- the event fits, as it is drawn -/
def EvFit (M : Mx) : Ev → Prop
  | .flag u n fs gs => (getA M.bxs u).isSome = true ∧ (∃ x ∈ M.boxOf u, x.1 = n) ∧ gs = fs ∧ SortOf fs fs ∧ fs.length < 64
  | .expunge u n => (getA M.bxs u).isSome = true ∧ ∃ x ∈ M.boxOf u, x.1 = n
  | ev => MFit M ev
theorem EvFit.mfit {M : Mx} {ev : Ev} (f : EvFit M ev) : MFit M ev := by
  cases ev with
  | flag u n fs gs => exact f.1
  | expunge u n => exact f.1
  | _ => exact f
theorem EvFit.sfs {M : Mx} {ev : Ev} (f : EvFit M ev) : SameFs ev := by
  cases ev with
  | flag u n fs gs => exact f.2.2.1
  | _ => trivial
theorem place_of {es : List Ent} {n : Int} (h : ∃ x ∈ es.map (fun x => (x.n, x.ls, x.fs)), x.1 = n) : (placeM es n).isSome = true := by
  obtain ⟨x, hx, e⟩ := h
  obtain ⟨y, hy, rfl⟩ := List.mem_map.mp hx
  cases q : placeM es n with
  | some i => rfl
  | none => exact absurd e (place_not q y hy)
theorem Rel.fits {S : Sx} {M : Mx} (r : Rel S M) {ev : Ev} (f : EvFit M ev) : S.Fits ev := by
  have hb : ∀ u, (getA M.bxs u).isSome = true → (getA S.bx u).isSome = true := fun u h => by
    rw [r.bx] at h
    cases e : getA S.bx u with
    | none => rw [e] at h; cases h
    | some B => rfl
  cases ev with
  | submit snd rs ls t => trivial
  | take p tag snd a via ls t => trivial
  | doubt tag h => exact (congrArg Option.isSome (r.q tag)).trans f
  | retry tag c t => exact (congrArg Option.isSome (r.q tag)).trans f
  | passed tag h => exact (congrArg Option.isSome (r.q tag)).trans f
  | deliver tag u => exact (congrArg Option.isSome (r.q tag)).trans f
  | bounce tag w t => exact (congrArg Option.isSome (r.q tag)).trans f
  | expand tag own ms t => exact (congrArg Option.isSome (r.q tag)).trans f
  | forgotten tag => exact (congrArg Option.isSome (r.ow tag)).trans f
  | forget tag => exact (congrArg Option.isSome (r.tk tag)).trans f
  | flag u z fs gs =>
    obtain ⟨f1, f2, f3, f4, f5⟩ := f
    rw [r.boxOf] at f2
    refine ⟨hb u f1, place_of f2, ?_, f5⟩
    rw [f3]
    exact f4
  | expunge u z =>
    obtain ⟨f1, f2⟩ := f
    rw [r.boxOf] at f2
    exact ⟨hb u f1, place_of f2⟩
theorem so_nil : SortOf ([] : List Str) [] := ⟨List.nodup_nil, rfl, fun z => Iff.rfl⟩
theorem so_a : SortOf [Str.ofString "a"] [Str.ofString "a"] := ⟨by decide +kernel, by decide +kernel, fun z => Iff.rfl⟩
theorem so_ab : SortOf [Str.ofString "a", Str.ofString "b"] [Str.ofString "a", Str.ofString "b"] := ⟨by decide +kernel, by decide +kernel, fun z => Iff.rfl⟩
theorem num_ok : ∀ i : Fin 50, Asc (Str.ofString (toString ((i.1 : Nat) : Int))) ∧ (Str.ofString (toString ((i.1 : Nat) : Int))).length ≤ 4 := by
  unfold Asc
  decide +kernel
theorem num_of {d : Int} (h0 : 0 ≤ d) (h1 : d < 50) : Asc (toString d : Str) ∧ (toString d : Str).length ≤ 4 := by
  obtain ⟨j, rfl⟩ : ∃ j : Nat, d = j := ⟨d.toNat, by omega⟩
  exact num_ok ⟨j, by omega⟩
end Dk

/-! What stands between the turns of the law. -/
namespace Dk
open PySem PySem.Spec PyProof.Rows L2
section
variable {K : PySem.W.Frag} {H H' : Hp} {a b : Addr} {F G F' G' : List Addr} {S : Sx} {M : Mx} {n m : Nat} {sv mv : V}
theorem StA.nds (st : StA K H sv F S) : NdS S := by
  obtain ⟨s, P, rfl, st, rfl, rfl⟩ := st
  exact ⟨by rw [keys_abs]; exact st.nq, by rw [keys_absb]; exact st.nb, st.nt, st.no⟩
theorem mkeys_r (P : Pm) : keysA P.abs.rows = keysA P.rows := by
  show (P.rows.map fun e => (e.1, e.2.2)).map (·.1) = _
  rw [List.map_map] <;> rfl
theorem mkeys_b (P : Pm) : keysA P.abs.bxs = keysA P.bxs := by
  show (P.bxs.map fun e => (e.1, e.2.2)).map (·.1) = _
  rw [List.map_map] <;> rfl
theorem MdA.ndm (st : MdA H mv G M) : NdM M := by
  obtain ⟨s, P, rfl, st, rfl, rfl⟩ := st
  exact ⟨by rw [mkeys_r]; exact st.nr, by rw [mkeys_b]; exact st.nb, st.nn, st.nt, st.no⟩
theorem tags_asc (bd : Bd n m S) {ev : Ev} (g : EvG ev) : ∀ t ∈ (S.act ev).2, Asc t.1 := by
  have ht : ∀ k, ∀ t ∈ S.tagsN k, Asc t.1 := fun k t h => by
    obtain ⟨i, _, rfl⟩ := List.mem_map.mp h
    exact bd.dom
  have no : ∀ t ∈ ([] : List Tag), Asc t.1 := fun t h => absurd h List.not_mem_nil
  cases ev with
  | submit snd rs ls t => exact ht _
  | take p tag snd r via ls t =>
    intro t h
    rw [List.mem_singleton.mp h]
    exact g.2.1
  | doubt tag h =>
    cases e : getA S.q tag <;> (simp only [Sx.act, e]; exact no)
  | retry tag c t =>
    cases e : getA S.q tag <;> (simp only [Sx.act, e]; exact no)
  | passed tag h => exact no
  | deliver tag u =>
    cases e : getA S.q tag <;> (simp only [Sx.act, e]; exact no)
  | bounce tag w t =>
    cases e : getA S.q tag with
    | none =>
      simp only [Sx.act, e]
      exact no
    | some x =>
      cases hs : x.snd with
      | none =>
        simp only [Sx.act, e, hs]
        exact no
      | some z =>
        simp only [Sx.act, e, hs]
        intro t h
        rw [List.mem_singleton.mp h]
        exact bd.dom
  | expand tag own ms t =>
    cases e : getA S.q tag with
    | none =>
      simp only [Sx.act, e]
      exact no
    | some x =>
      simp only [Sx.act, e]
      exact ht _
  | forgotten tag => exact no
  | forget tag => exact no
  | flag u z fs gs => exact no
  | expunge u z => exact no
structure WI (K : PySem.W.Frag) (a b : Addr) (n : Nat) (sv mv : V) (F G : List Addr) (S : Sx) (M : Mx) (H : Hp) : Prop where
  dr : Drw H a
  sc : Scr K H b
  sa : StA K H sv F S
  ma : MdA H mv G M
  fg : Dsj F G
  aF : a ∉ F
  aG : a ∉ G
  r : Rel S M
  bd : Bd n (10 * n) S
theorem WI.same (w : WI K a b n sv mv F G S M H) (s : Same H H') : WI K a b n sv mv F G S M H' :=
  ⟨w.dr.mono s, w.sc.mono (Gro.same s), w.sa.same s, w.ma.same s, w.fg, w.aF, w.aG, w.r, w.bd⟩
theorem WI.stp (w : WI K a b n sv mv F G S M H) (s : Stp a H H') : WI K a b n sv mv F G S M H' :=
  ⟨s.drw, w.sc.mono s.gro, w.sa.stp s w.aF, w.ma.stp s w.aG, w.fg, w.aF, w.aG, w.r, w.bd⟩
theorem WI.lim (w : WI K a b n sv mv F G S M H) (h : n ≤ 1000) : S.Lim := w.bd.lim h (by omega)
theorem WI.mlim (w : WI K a b n sv mv F G S M H) (h : n ≤ 1000) : MLim M := w.r.mlim w.sa.nds w.ma.ndm w.bd h (by omega)
theorem WI.rows (w : WI K a b n sv mv F G S M H) : ∀ e ∈ M.rows, Asc e.1.1 ∧ Lay 4 (itmD e.1 e.2) := fun e he =>
  let g := w.r.row w.ma.ndm w.bd he
  ⟨g.1, ((itm_okd g.1 g.2).le (by omega)).lay⟩
theorem WI.dom (w : WI K a b n sv mv F G S M H) : Asc M.dom := by
  rw [← w.r.dom]
  exact w.bd.dom
theorem WI.e3 (w : WI K a b n sv mv F G S M H) : ∀ e ∈ S.bx, ∀ x ∈ e3s e.2, Lay 4 (e3D x) := fun e he => e3_lay (w.bd.bo e he).2
theorem WI.keys (w : WI K a b n sv mv F G S M H) : ∀ u ∈ keysA M.bxs, Asc u := fun u hu => by
  have h := getA_isSome.mpr hu
  rw [w.r.bx] at h
  cases e : getA S.bx u with
  | none => rw [e] at h; cases h
  | some B => exact (w.bd.bo _ (getA_mem e)).1
theorem tags_lay {ts : List Tag} (h : ∀ t ∈ ts, Asc t.1) : Lay 2 (.list (ts.map tagD)) := Lay.lst fun d hd => by
  obtain ⟨t, ht, rfl⟩ := List.mem_map.mp hd
  exact (tag_okd (h t ht)).lay
/-- the key that is delivered goes -/
theorem dlv_keys {t : Tag} {ts : List Tag} (nd : (keysA S.q).Nodup) (h : keysA S.q = t :: ts) (u : Str) : keysA ((S.apply (.deliver t u)).1).q = ts := by
  have hs : (getA S.q t).isSome = true := getA_isSome.mpr (by rw [h]; exact List.mem_cons_self)
  obtain ⟨x, hx⟩ := Option.isSome_iff_exists.mp hs
  have e : (S.apply (.deliver t u)).1.q = delA S.q t := by
    simp only [Sx.apply, Sx.act, hx]
  rw [e, keysA_del, h]
  rw [h, List.nodup_cons] at nd
  rw [List.filter_cons_of_neg (by simp)]
  exact List.filter_eq_self.mpr fun k hk => decide_eq_true fun z => nd.1 (z ▸ hk)
theorem dsj_new {F G : List Addr} (n : ∀ z ∈ F, H z = none) (t : ∀ z ∈ G, Mt (H z)) : Dsj F G := fun z hz q => by
  obtain ⟨u, e, _⟩ := t z q
  rw [n z hz] at e
  cases e
theorem dsj_le {F F' G : List Addr} (h : Dsj F G) (k : ∀ z ∈ F', z ∈ F) : Dsj F' G := fun z hz => h z (k z hz)
theorem tl_dsj {p : Addr} (h : Dsj (p :: F) G) : Dsj F G := fun z hz => h z (List.mem_cons_of_mem _ hz)
theorem WI.turn {H1 H2 : Hp} {p q : Addr} (w : WI K a b n sv mv F G S M H) (hn : n ≤ 900) {ev : Ev} (fit : EvFit M ev) (g : EvG ev) (c1 : Chg F (p :: F') H H1) (sa1 : StA K H1 sv F' (S.apply ev).1) (c2 : Chg G (q :: G') H1 H2) (ma2 : MdA H2 mv G' (M.apply ev).1) :
    WI K a b (n + 1) sv mv F' G' (S.apply ev).1 (M.apply ev).1 H2 ∧ p ∉ G ∧ (S.apply ev).2 = (M.apply ev).2 := by
  have ap := w.ma.apart c1 w.fg
  have d1 : Dsj F' G := tl_dsj ap
  have d1' : Dsj G F' := fun z h1 h2 => d1 z h2 h1
  have ap2 := sa1.apart c2 d1'
  have d2 : Dsj G' F' := tl_dsj ap2
  have dr1 := c1.drw w.dr w.aF
  have dr2 := c2.drw dr1 w.aG
  obtain ⟨x, y, ha⟩ := id w.dr
  obtain ⟨x1, y1, ha1⟩ := id dr1
  have f2 : Sx.Fits { S with count := S.count + 1 } ev := by
    have f := w.r.fits fit
    cases ev <;> exact f
  have ra := Rel.act w.r.count f2 fit.sfs
  exact ⟨⟨dr2, (w.sc.mono c1.gro).mono c2.gro, sa1.chg c2 d1', ma2, fun z h1 h2 => d2 z h2 h1, fun z => c1.out ha w.aF (List.mem_cons_of_mem _ z), fun z => c2.out ha1 w.aG (List.mem_cons_of_mem _ z), ra.1, ((w.bd.count _).act f2 g (by omega)).le (Nat.le_refl _) (by omega)⟩, ap p List.mem_cons_self, ra.2⟩
theorem len_srtT {α : Type} (l : List (Tag × α)) : (srtT l).length = l.length := by
  rw [← len_keys, keys_srtT, len_sortTg, len_keys]
theorem len_srtS {α : Type} (l : List (Str × α)) : (srtS l).length = l.length := by
  rw [← len_keys, keys_srtS, len_sortSt, len_keys]
/-- the state made of the value -/
theorem WI.other {x : Addr} {F1 : List Addr} (w : WI K a b n sv mv F G S M H) (sm : Same H H') (sa : StA K H' (.ref x) F1 S.back) (nw : ∀ z ∈ F1, H z = none) : WI K a b n (.ref x) mv F1 G S.back M H' ∧ Dsj F1 F := by
  obtain ⟨x0, y0, ha⟩ := id w.dr
  exact ⟨⟨w.dr.mono sm, w.sc.mono (Gro.same sm), sa, w.ma.same sm, dsj_new nw w.ma.there, fun z => (by rw [nw a z] at ha; cases ha), w.aG, w.r.back w.sa.nds, w.bd.back w.sa.nds⟩, dsj_new nw w.sa.there⟩
/-- something else is changed that is apart -/
theorem WI.chg {F1 F2 : List Addr} (w : WI K a b n sv mv F G S M H) (c : Chg F1 F2 H H') (h1 : Dsj F1 F) (h2 : Dsj F1 G) (h3 : a ∉ F1) : WI K a b n sv mv F G S M H' :=
  ⟨c.drw w.dr h3, w.sc.mono c.gro, w.sa.chg c h1, w.ma.chg c h2, w.fg, w.aF, w.aG, w.r, w.bd⟩
end
end Dk

namespace Dk
open PySem PySem.Spec PyProof.Rows L2
/-! steps of the walk -/
local macro_rules | `(tactic| walk_at "sz") => `(tactic| first | assumption | (rw [sizeLine_eq]; (try simp only [PySem.Str.length_append, trS_len, atS_len, eS_len, dotS_len, List.length_append, List.length_cons, List.length_nil, List.length_map]); omega) | ((try simp only [PySem.Str.length_append, trS_len, atS_len, eS_len, dotS_len, List.length_append, List.length_cons, List.length_nil, List.length_map]); omega))
local macro_rules | `(tactic| walk_at "gr") => `(tactic| first
  | assumption
  | ((with_reducible refine' Stp.gro ?f1); (case f1 => assumption))
  | ((with_reducible refine' Gro.same ?f1); (case f1 => assumption)))
local macro_rules | `(tactic| walk_at "grs") => `(tactic| first | with_reducible exact Gro.refl _ | ((with_reducible refine' Gro.trans ?_ ?g2); (case g2 => walk_at "gr")))
local macro_rules | `(tactic| walk_at "grc") => `(tactic| repeat (walk_at "grs"))
local macro_rules | `(tactic| walk_at "chs") => `(tactic| first
  | assumption
  | ((with_reducible refine' same_at ?e1 ?_); (case e1 => assumption))
  | ((with_reducible refine' Stp.at_ ?e1 ?_ ?e3); (case e1 => assumption); (case e3 => walk_at "hp")))
local macro_rules | `(tactic| walk_at "ch") => `(tactic| repeat (walk_at "chs"))
local macro_rules | `(tactic| walk_at "hp") => `(tactic| first
  | assumption
  | ((with_reducible refine' Stp.drw ?e1); (case e1 => assumption))
  | ((with_reducible refine' SqL.of ?e1); (case e1 => walk_at "hp"))
  | ((with_reducible refine' Drw.mono ?e1 ?e2); (case e1 => assumption); (case e2 => walk_at "hp"))
  | ((with_reducible refine' Scr.mono ?e1 ?e2); (case e2 => assumption); (case e1 => walk_at "grc"))
  | ((with_reducible refine' Dq.mono ?e1 ?e2); (case e2 => assumption); (case e1 => walk_at "grc"))
  | ((with_reducible refine' Dqs.mono ?e1 ?e2); (case e2 => assumption); (case e1 => walk_at "grc"))
  | ((with_reducible refine' Gro.tup ?e1 _ _ ?e2); (case e2 => assumption); (case e1 => walk_at "grc"))
  | ((with_reducible refine' ne_drw' ?e1 ?e2); (case e1 => assumption); (case e2 => walk_at "hp"))
  | ((with_reducible refine' from_ ?e1 ?e2); (case e1 => assumption); (case e2 => (intro hh; walk_at "ch"))))
local macro_rules | `(tactic| walk_at "st") => `(tactic| first
  | with_reducible refine' r_seq ?_
  | with_reducible refine' r_set ?_
  | with_reducible refine' r_if ?_
  | with_reducible refine' r_ret ?_
  | with_reducible refine' r_drop ?_
  | with_reducible refine' r_next ?_
  | with_reducible refine' r_asg ?_
  | with_reducible refine' r_break ?_
  | with_reducible refine' r_cont ?_
  | with_reducible refine' r_retN ?_
  | with_reducible refine' r_par ?_
  | with_reducible refine' r_par2 ?_
  | ((with_reducible refine' r_augI ?h ?_); (case h => rfl)))
local macro_rules | `(tactic| walk_at "ex") => `(tactic| first
  | ((with_reducible refine' r_var ?h ?_); (case h => rfl))
  | with_reducible refine' r_c ?_
  | with_reducible refine' r_op ?_
  | with_reducible refine' r_test ?_
  | with_reducible refine' r_tru ?_
  | with_reducible refine' r_cons ?_
  | with_reducible refine' r_nil ?_
  | with_reducible refine' r_cb ?_
  | with_reducible refine' r_call ?_
  | with_reducible refine' r_bm ?_
  | with_reducible refine' r_bm0 ?_
  | with_reducible refine' r_sl ?_
  | with_reducible refine' r_part ?_
  | with_reducible refine' r_nopart ?_
  | with_reducible refine' r_tup ?_
  | with_reducible refine' r_lst ?_
  | with_reducible refine' r_and ?_
  | with_reducible refine' r_or ?_
  | with_reducible refine' r_not ?_
  | with_reducible refine' r_andT ?_
  | with_reducible refine' r_orT ?_
  | with_reducible refine' r_notT ?_
  | with_reducible refine' r_ifx ?_
  | with_reducible refine' r_un ?_
  | with_reducible refine' r_chain ?_
  | with_reducible refine' r_tB ?_
  | with_reducible refine' r_gname ?_
  | with_reducible refine' r_gsub ?_)
local macro_rules | `(tactic| walk_at "va") => `(tactic| first
  | with_reducible refine' r_bl ?_
  | with_reducible refine' r_trub ?_
  | with_reducible refine' r_trui ?_
  | with_reducible refine' r_trun ?_
  | with_reducible refine' r_ex1 ?_
  | with_reducible refine' r_tys ?_
  | with_reducible refine' r_addI ?_
  | ((with_reducible refine' r_addS ?h ?_); (case h => walk_at "sz"))
  | with_reducible refine' r_eqI ?_
  | with_reducible refine' r_eqS ?_
  | with_reducible refine' r_neI ?_
  | with_reducible refine' r_neS ?_
  | with_reducible refine' r_I0 ?_
  | ((with_reducible refine' r_I ?h ?_); (case h => first | assumption | omega | (refine ⟨?_, ?_⟩ <;> omega) | exact ⟨by omega, by omega, by decide⟩))
  | ((with_reducible refine' r_mulI ?h ?_); (case h => first | exact .inl ⟨by decide, by decide⟩ | exact .inr ⟨by decide, by decide⟩ | exact .inl ⟨by omega, by omega⟩ | exact .inr ⟨by omega, by omega⟩))
  | with_reducible refine' r_intI ?_
  | with_reducible refine' r_intB ?_
  | with_reducible refine' r_S1 ?_
  | ((with_reducible refine' r_S1l ?h ?_); (case h => walk_at "sz"))
  | ((with_reducible refine' r_S0 ?h ?_); (case h => walk_at "sz"))
  | ((with_reducible refine' r_slS ?h ?_); (case h => walk_at "sz"))
  | ((with_reducible refine' r_lenS ?h ?_); (case h => walk_at "sz"))
  | with_reducible refine' r_isN ?_
  | with_reducible refine' r_isB ?_
  | with_reducible refine' r_isnotN ?_
  | with_reducible refine' r_isnotB ?_
  | with_reducible refine' r_inS ?_
  | with_reducible refine' r_notinS ?_
  | with_reducible refine' r_neg ?_
  | ((with_reducible refine' r_isi ?h ?h2 ?_); (case h => first | rfl | exact tyN_t (by walk_at "hp") | exact tyN_l (by walk_at "hp")); (case h2 => first | exact kit_NoneType_int | exact kit_NoneType_bool | exact kit_NoneType_tuple | exact kit_NoneType_str | exact kit_NoneType_list | exact kit_bool_int | exact kit_bool_bool | exact kit_bool_tuple | exact kit_bool_str | exact kit_bool_list | exact kit_int_int | exact kit_int_bool | exact kit_int_tuple | exact kit_int_str | exact kit_int_list | exact kit_str_int | exact kit_str_bool | exact kit_str_tuple | exact kit_str_str | exact kit_str_list | exact kit_list_int | exact kit_list_bool | exact kit_list_tuple | exact kit_list_str | exact kit_list_list | exact kit_tuple_int | exact kit_tuple_bool | exact kit_tuple_tuple | exact kit_tuple_str | exact kit_tuple_list))
  | with_reducible refine' r_iteT ?_
  | with_reducible refine' r_iteF ?_
  | with_reducible refine' r_itnT ?_
  | with_reducible refine' r_itnF ?_
  | ((with_reducible refine' r_new ?h ?_); (case h => walk_at "sz"); intro p H' np sm hp))
local macro_rules | `(tactic| walk_at "hv") => `(tactic| first
  | ((with_reducible refine' r_ixT ?h ?h2 ?_); (case h => walk_at "hp"); (case h2 => first | assumption | rfl | exact atI_nat (j := 0) rfl | exact atI_nat (j := 1) rfl | exact atI_nat (j := 2) rfl | exact atI_nat (j := 3) rfl | exact atI_nat (j := 4) rfl))
  | ((with_reducible refine' r_ixL ?h ?h2 ?_); (case h => walk_at "hp"); (case h2 => first | assumption | rfl | exact atI_nat (j := 0) rfl | exact atI_nat (j := 1) rfl | exact atI_nat (j := 2) rfl | exact atI_nat (j := 3) rfl | exact atI_nat (j := 4) rfl))
  | ((with_reducible refine' r_lenT ?h ?_); (case h => walk_at "hp"))
  | ((with_reducible refine' r_lenL ?h ?_); (case h => walk_at "hp"))
  | ((with_reducible refine' r_tyl ?h ?_); (case h => walk_at "hp"))
  | ((with_reducible refine' r_trul ?h ?_); (case h => walk_at "hp"))
  | ((with_reducible refine' r_trut ?h ?_); (case h => exact SqT.of (by walk_at "hp")))
  | ((with_reducible refine' r_setL ?h ?h2 ?_); (case h => walk_at "hp"); (case h2 => rfl); intro H' hp kp)
  | ((with_reducible refine' r_app ?h ?h2 ?_); (case h => walk_at "hp"); (case h2 => walk_at "sz"); intro H' hp kp)
  | ((with_reducible refine' r_addT ?h ?h1 ?h2 ?_); (case h => walk_at "hp"); (case h1 => walk_at "hp"); (case h2 => walk_at "sz"); intro p H' sm hp)
  | ((with_reducible refine' r_addL ?h ?h1 ?h2 ?_); (case h => walk_at "hp"); (case h1 => walk_at "hp"); (case h2 => walk_at "sz"); intro p H' np sm hp)
  | ((with_reducible refine' r_tupleL ?h ?_); (case h => walk_at "hp"); intro p H' np sm hp)
  | ((with_reducible refine' r_tupleT ?h ?_); (case h => walk_at "hp"))
  | ((with_reducible refine' r_listT ?h ?_); (case h => walk_at "hp"); intro p H' np sm hp)
  | ((with_reducible refine' r_listL ?h ?_); (case h => walk_at "hp"); intro p H' np sm hp)
  | ((with_reducible refine' r_gtup ?h ?h2 ?_); (case h => walk_at "hp"); (case h2 => rfl))
  | with_reducible refine' r_gcons ?_
  | with_reducible refine' r_gnil ?_)
local macro_rules | `(tactic| walk_at "call") => `(tactic| fail "no call")
local macro_rules | `(tactic| walk_at "s") => `(tactic| first | walk_at "st" | walk_at "ex" | walk_at "va" | walk_at "hv" | walk_at "call")
local macro_rules | `(tactic| walk_at "go") => `(tactic| repeat (walk_at "s"))
local macro_rules | `(tactic| walk_at "br") => `(tactic| first
  | ((with_reducible refine' r_ite ?_ ?_) <;> intro hc)
  | ((with_reducible refine' r_iten ?_ ?_) <;> intro hc)
  | ((with_reducible refine' r_itb ?_ ?_) <;> intro hc))
local macro_rules | `(tactic| walk_at "all") => `(tactic| repeat' (first | walk_at "s" | walk_at "br"))
local macro_rules | `(tactic| walk_at "nat") => `(tactic| first | omega | ((try simp only [List.length_map, List.length_cons, List.length_nil]); omega) | assumption | decide)
local macro_rules | `(tactic| walk_at "ex") => `(tactic| first | with_reducible refine' r_lcr ?_ | with_reducible refine' r_lcu ?_ | with_reducible refine' r_forr ?_ | with_reducible refine' r_foru ?_)
/-! own classes -/
local macro_rules | `(tactic| walk_at "lk") => `(tactic| first | with_reducible exact lk_hd | ((with_reducible refine' lk_tl ?h1 ?h2); (case h1 => decide +kernel); (case h2 => walk_at "lk")) | with_reducible exact lk_nil)
local macro_rules | `(tactic| walk_at "pf") => `(tactic| first | with_reducible exact pf_nil | with_reducible exact pf_hd | ((with_reducible refine' pf_tl ?h1 ?h2); (case h1 => decide +kernel); (case h2 => walk_at "pf")))
local macro_rules | `(tactic| walk_at "hp") => `(tactic| first
  | ((with_reducible refine' Ins.same ?e1 ?e2); (case e1 => assumption); (case e2 => walk_at "hp"))
  | ((with_reducible refine' Ins.stp ?e1 ?e2 ?e3); (case e1 => assumption); (case e2 => walk_at "hp"); (case e3 => walk_at "hp")))
local macro_rules | `(tactic| walk_at "ex") => `(tactic| first
  | with_reducible refine' r_fld ?_
  | with_reducible refine' r_sfld ?_
  | with_reducible refine' r_meth ?_
  | with_reducible refine' r_make ?_
  | with_reducible refine' r_strS ?_
  | ((with_reducible refine' r_strI ?h ?_); (case h => walk_at "nat")))
local macro_rules | `(tactic| walk_at "hv") => `(tactic| first
  | ((with_reducible refine' r_fldv ?h ?h2 ?h3 ?h4 ?_); (case h => walk_at "hp"); (case h2 => assumption); (case h3 => assumption); (case h4 => walk_at "lk"))
  | ((with_reducible refine' r_methv ?h ?h2 ?_); (case h => walk_at "hp"); (case h2 => walk_at "lk"))
  | ((with_reducible refine' r_sfldv ?h ?h2 ?h3 ?h4 ?h5 ?_); (case h => walk_at "hp"); (case h2 => assumption); (case h3 => assumption); (case h4 => first | decide | (simp only [List.length_cons, List.length_nil]; decide)); (case h5 => walk_at "pf"); intro H' hi hk))
local macro_rules | `(tactic| walk_at "hv") => `(tactic| first
  | ((with_reducible refine' r_inTs ?h ?_); (case h => walk_at "hp"))
  | ((with_reducible refine' r_inLs ?h ?_); (case h => walk_at "hp")))
local macro_rules | `(tactic| walk_at "va") => `(tactic| first
  | with_reducible refine' r_isNN ?_
  | with_reducible refine' r_isNS ?_
  | with_reducible refine' r_isNI ?_
  | with_reducible refine' r_isNR ?_
  | with_reducible refine' r_isNB ?_
  | with_reducible refine' r_isnotNN ?_
  | with_reducible refine' r_isnotNS ?_
  | with_reducible refine' r_isnotNI ?_
  | with_reducible refine' r_isnotNR ?_
  | with_reducible refine' r_isnotNB ?_)
local macro_rules | `(tactic| walk_at "ex") => `(tactic| first
  | with_reducible refine' r_fldaug ?_
  | with_reducible refine' r_inAdd ?_
  | with_reducible refine' r_inSub ?_
  | with_reducible refine' r_callS ?_
  | with_reducible refine' r_methX ?_
  | with_reducible refine' r_raise0 ?_
  | with_reducible refine' r_raise1 ?_
  | with_reducible refine' r_tryA ?_
  | with_reducible refine' r_tryO ?_)
local macro_rules | `(tactic| walk_at "hv") => `(tactic| first
  | ((with_reducible refine' r_augq ?h ?h2 ?h3 ?h4 ?_); (case h => walk_at "hp"); (case h2 => assumption); (case h3 => assumption); (case h4 => walk_at "lk"))
  | ((with_reducible refine' r_putq ?h ?h4 ?h5 ?_); (case h => walk_at "hp"); (case h4 => first | decide | (simp only [List.length_cons, List.length_nil]; decide)); (case h5 => walk_at "pf"); intro H' hi hk))
local macro_rules | `(tactic| walk_at "chs") => `(tactic| first
  | ((with_reducible refine' Fput.lst ?e1 ?_); (case e1 => assumption))
  | ((with_reducible refine' Fput.tup ?e1 ?_); (case e1 => assumption))
  | ((with_reducible refine' but_at ?e1 ?_ ?e3); (case e1 => assumption); (case e3 => first | assumption | exact Ne.symm (by assumption))))
local macro_rules | `(tactic| walk_at "gr") => `(tactic| ((with_reducible refine' Fput.gro ?f1); (case f1 => assumption)))
local macro_rules | `(tactic| walk_at "hp") => `(tactic| first
  | ((with_reducible refine' Ins.fput ?e1 ?e2 ?e3); (case e1 => assumption); (case e2 => first | assumption | exact Ne.symm (by assumption)); (case e3 => walk_at "hp"))
  | ((with_reducible refine' Fput.drw ?e1 ?e2); (case e1 => assumption); (case e2 => walk_at "hp")))
local macro_rules | `(tactic| walk_at "hv") => `(tactic| ((with_reducible refine' r_slL ?h ?_); (case h => walk_at "hp"); intro p H' np sm hp))
local macro_rules | `(tactic| walk_at "va") => `(tactic| first
  | ((with_reducible refine' r_isX ?h ?h2 ?_); (case h => assumption); (case h2 => assumption))
  | ((with_reducible refine' r_isXt ?h ?h2 ?_); (case h => assumption); (case h2 => assumption)))
local macro_rules | `(tactic| walk_at "va") => `(tactic| with_reducible refine' r_min2 ?_)
local macro_rules | `(tactic| walk_at "hv") => `(tactic| ((with_reducible refine' r_slT ?h ?_); (case h => walk_at "hp"); intro p H' sm hp))
/-! boxes: attributes as targets, del, sorted, enumerate -/
local macro_rules | `(tactic| walk_at "ex") => `(tactic| first
  | with_reducible refine' r_gfld ?_
  | with_reducible refine' r_delL ?_
  | with_reducible refine' r_fore ?_)
local macro_rules | `(tactic| walk_at "hv") => `(tactic| first
  | ((with_reducible refine' r_sortI ?h ?_); (case h => walk_at "hp"); intro p ns' H' np pm pw sm hp)
  | ((with_reducible refine' r_setT ?h ?h2 ?_); (case h => walk_at "hp"); (case h2 => walk_at "nat"); intro p l H' np mem nd le sm hp)
  | ((with_reducible refine' r_sortT ?h ?h2 ?_); (case h => walk_at "hp"); (case h2 => walk_at "nat"); intro r ys H' nr pm so sm hp))
/-! copies -/
local macro_rules | `(tactic| walk_at "ex") => `(tactic| with_reducible refine' r_sortK ?_)
local macro_rules | `(tactic| walk_at "hv") => `(tactic| first
  | ((with_reducible refine' r_ninTi ?h ?_); (case h => walk_at "hp"))
  | ((with_reducible refine' r_ninLi ?h ?_); (case h => walk_at "hp")))

/-! records -/
local macro_rules | `(tactic| walk_at "st") => `(tactic| first | ((with_reducible refine' r_augShr ?h ?_); (case h => rfl)) | with_reducible refine' r_raiseP ?_)
local macro_rules | `(tactic| walk_at "ex") => `(tactic| first | with_reducible refine' r_forr2 ?_ | with_reducible refine' r_xf ?_ | with_reducible refine' r_tryMA ?_ | with_reducible refine' r_tryMO ?_)
local macro_rules | `(tactic| walk_at "va") => `(tactic| first | with_reducible refine' r_neB ?_ | with_reducible refine' r_ord ?_ | ((with_reducible refine' r_mkP ?_); intro dx nd sm))
local macro_rules | `(tactic| walk_at "hv") => `(tactic| ((with_reducible refine' r_ext ?h ?h2 ?h3 ?_); (case h => walk_at "hp"); (case h2 => walk_at "hp"); (case h3 => walk_at "sz"); intro H' hp kp))
local macro_rules | `(tactic| walk_at "dec") => `(tactic| first
  | ((with_reducible refine' r_decT ?h ?_); (case h => with_reducible rfl))
  | ((with_reducible refine' r_decnF ?h ?_); (case h => with_reducible rfl))
  | ((with_reducible refine' r_decT ?h ?_); (case h => first | omega | (simp only [List.length_cons, List.length_nil]; omega)))
  | ((with_reducible refine' r_decF ?h ?_); (case h => first | omega | (simp only [List.length_cons, List.length_nil]; omega)))
  | ((with_reducible refine' r_decnT ?h ?_); (case h => first | omega | (simp only [List.length_cons, List.length_nil]; omega)))
  | ((with_reducible refine' r_decnF ?h ?_); (case h => first | omega | (simp only [List.length_cons, List.length_nil]; omega))))
local macro_rules | `(tactic| walk_at "decS") => `(tactic| first
  | ((with_reducible refine' r_decT ?h ?_); (case h => decide +kernel))
  | ((with_reducible refine' r_decF ?h ?_); (case h => decide +kernel))
  | ((with_reducible refine' r_decnT ?h ?_); (case h => decide +kernel))
  | ((with_reducible refine' r_decnF ?h ?_); (case h => decide +kernel)))
local macro_rules | `(tactic| walk_at "god") => `(tactic| repeat (first | walk_at "s" | walk_at "dec" | walk_at "decS"))
local macro_rules | `(tactic| walk_at "va") => `(tactic| first
  | ((with_reducible refine' r_I ?h ?_); (case h => exact cdivW (by omega) (by omega)))
  | ((with_reducible refine' r_mulSI ?h ?_); (case h => first | exact .inl ⟨by decide, by decide⟩ | exact .inr ⟨by decide, by decide⟩ | exact .inl ⟨by omega, by omega⟩ | exact .inr ⟨by omega, by omega⟩))
  | ((with_reducible refine' r_mulSS ?h ?h2 ?_); (case h => exact ⟨by omega, by omega⟩); (case h2 => first | exact ⟨by omega, by omega⟩ | exact ⟨by decide +kernel, by decide +kernel⟩)))
local macro_rules | `(tactic| walk_at "hv") => `(tactic| first
  | ((with_reducible refine' r_xfv ?h ?_); (case h => walk_at "hp"))
  | ((with_reducible refine' r_isY ?h ?hx ?hk ?_); (case h => assumption); (case hx => walk_at "hp"); (case hk => assumption)))
local macro_rules | `(tactic| walk_at "ex") => `(tactic| with_reducible refine' r_tupRg ?_)
local macro_rules | `(tactic| walk_at "va") => `(tactic| ((with_reducible refine' r_rgq ?h ?h2 ?_); (case h => omega); (case h2 => omega); intro p H' np sm hp))

/-! steps that may grow tables -/
local macro_rules | `(tactic| walk_at "ex") => `(tactic| with_reducible refine' r_gx ?_)
local macro_rules | `(tactic| walk_at "gr") => `(tactic| ((with_reducible refine' Sam.gro ?f1); (case f1 => assumption)))
local macro_rules | `(tactic| walk_at "chs") => `(tactic| first
  | ((with_reducible refine' Sam.lst ?e1 ?_); (case e1 => assumption))
  | ((with_reducible refine' Sam.tup ?e1 ?_); (case e1 => assumption)))
local macro_rules | `(tactic| walk_at "hp") => `(tactic| first
  | ((with_reducible refine' Sam.drw ?e1 ?e2); (case e1 => assumption); (case e2 => walk_at "hp"))
  | ((with_reducible refine' Sam.ins ?e1 ?e2); (case e1 => assumption); (case e2 => walk_at "hp"))
  | ((with_reducible refine' Sam.tabG ?e1 ?e2); (case e1 => assumption); (case e2 => walk_at "hp"))
  | ((with_reducible refine' tabG_same ?e1 ?e2); (case e1 => assumption); (case e2 => walk_at "hp")))
/-! dicts -/
local macro_rules | `(tactic| walk_at "ex") => `(tactic| first
  | with_reducible refine' r_dget ?_
  | with_reducible refine' r_din ?_
  | with_reducible refine' r_dnin ?_
  | with_reducible refine' r_dput ?_
  | with_reducible refine' r_ddel ?_
  | with_reducible refine' r_dpop ?_
  | with_reducible refine' r_dget2 ?_
  | with_reducible refine' r_dget1 ?_
  | ((with_reducible refine' r_newT ?_); intro p H' np sm hp)
  | ((with_reducible refine' r_newK ?_); intro p H' np sm hp))
local macro_rules | `(tactic| walk_at "hv") => `(tactic| first
  | ((with_reducible refine' r_dgetT ?h ?h2 ?h3 ?_); (case h => walk_at "hp"); (case h2 => walk_at "hp"); (case h3 => assumption))
  | ((with_reducible refine' r_dgetK ?h ?h3 ?_); (case h => walk_at "hp"); (case h3 => assumption))
  | ((with_reducible refine' r_dinT ?h ?h2 ?_); (case h => walk_at "hp"); (case h2 => walk_at "hp"))
  | ((with_reducible refine' r_dinK ?h ?_); (case h => walk_at "hp"))
  | ((with_reducible refine' r_dninT ?h ?h2 ?_); (case h => walk_at "hp"); (case h2 => walk_at "hp"))
  | ((with_reducible refine' r_dninK ?h ?_); (case h => walk_at "hp"))
  | ((with_reducible refine' r_isdT ?h ?_); (case h => walk_at "hp"))
  | ((with_reducible refine' r_isdK ?h ?_); (case h => walk_at "hp"))
  | ((with_reducible refine' r_dpopT ?h ?h2 ?h3 ?_); (case h => walk_at "hp"); (case h2 => walk_at "hp"); (case h3 => assumption); intro H' hp kp)
  | ((with_reducible refine' r_ddelT ?h ?h2 ?h3 ?_); (case h => walk_at "hp"); (case h2 => walk_at "hp"); (case h3 => assumption); intro H' hp kp)
  | ((with_reducible refine' r_dgetdK ?h ?_); (case h => walk_at "hp"))
  | ((with_reducible refine' r_sortDT ?h ?_); (case h => walk_at "hp"); intro ys p H' np ty sm hp)
  | ((with_reducible refine' r_sortDK ?h ?_); (case h => walk_at "hp"); intro p H' np sm hp)
  | ((with_reducible refine' r_listDT ?h ?_); (case h => walk_at "hp"); intro ys p H' np ty sm hp))
local macro_rules | `(tactic| walk_at "hv") => `(tactic| ((with_reducible refine' r_dgetV ?h ?h2 ?_); (case h => walk_at "hp"); (case h2 => assumption)))
local macro_rules | `(tactic| walk_at "ex") => `(tactic| first
  | with_reducible refine' r_pairsC ?_
  | with_reducible refine' r_pairsN ?_
  | ((with_reducible refine' r_disp ?_); intro p H' np sm hp))
local macro_rules | `(tactic| walk_at "hv") => `(tactic| first
  | ((with_reducible refine' r_in3 ?h ?_); (case h => walk_at "hp"))
  | ((with_reducible refine' r_in4 ?h ?_); (case h => walk_at "hp")))
local macro_rules | `(tactic| walk_at "ex") => `(tactic| with_reducible refine' r_truT ?_)
local macro_rules | `(tactic| walk_at "hv") => `(tactic| first
  | ((with_reducible refine' r_truTv ?h ?_); (case h => walk_at "hp"))
  | ((with_reducible refine' r_lenDT ?h ?_); (case h => walk_at "hp")))

def top (i : Nat) : Stmt := PySem.Challenge.pw_dawkline_k12_events_of_a_state.main.body.getD i (.Pass ⟨0, 0, 0, 0⟩)

/-! ### Box.__init__ -/
abbrev s_Box___init__ : Stmt := inClass (top 5) 0
abbrev N_Box___init__ : List Str := ["self"]
theorem sc_Box___init__ : FnScope N_Box___init__ ["self"] (defScope s_Box___init__) := ⟨rfl, rfl, rfl, by decide +kernel, rfl, by decide +kernel, by decide +kernel⟩
theorem bi_Box___init__ : BindQ "__init__" "Box.__init__" s_Box___init__ ["self"] := fun _ _ _ _ _ _ us hl => match us, hl with | [_], _ => rfl
def sp_Box___init__ (K : PySem.W.Frag) : Sp := sp1 fun x H Q _ => ∃ p, x = .ref p ∧ Ins H p (He.ga K "Box") [] ∧ ∀ H' A G, BxAt K H' p A G ⟨0, 0, [], []⟩ → (∀ b o, H b = some o → b ≠ p → H' b = some o) → H A = none → H G = none → Q .non H'
theorem ok_Box___init__ {e : Wd} (D : InitAt e (He.ga e.K "Box") "Box" "Box.__init__" s_Box___init__) (B : Bl e.mg) (kc_Box : Cls e.K (He.ga e.K "Box")) (kn_Box_number : NoAttr e.K (He.ga e.K "Box") "number") (kn_Box_change : NoAttr e.K (He.ga e.K "Box") "change") (kn_Box_entries : NoAttr e.K (He.ga e.K "Box") "entries") (kn_Box_gone : NoAttr e.K (He.ga e.K "Box") "gone") : CanN e 1 (He.ga e.K "Box") "Box" ["self"] (sp_Box___init__ e.K) := by
  refine canN_of D sc_Box___init__ bi_Box___init__ (fun _ _ _ _ h => sp1_len h) (fun cdv f A outer s H vs Q E hr h => ?_)
  obtain ⟨v0, rfl, h⟩ := sp1_ex h
  have nd := sc_Box___init__.nd
  obtain ⟨p, rfl, hi, k⟩ := h
  refine ⟨_, (pss_cons (ps_fldU (K := e.K) (pv 0) pe_int)
    (pss_cons (ps_fldU (K := e.K) (pv 0) pe_int)
    (pss_cons (ps_fldU (K := e.K) (pv 0) (pe_lst pa_nil))
    (pss_one (ps_fldU (K := e.K) (pv 0) (pe_lst pa_nil)))))), ?_⟩
  walk_at "go"
  rename_i H1 i1 f1 H2 i2 f2 A' H3 nA m3 hA H4 i4 f4 G H5 nG m5 hG H6 i6 f6
  have a4 : H4 A' = some (.lst []) := f4.lst hA
  have a6 : H6 A' = some (.lst []) := f6.lst (m5 _ _ a4)
  have g6 : H6 G = some (.lst []) := f6.lst hG
  refine k H6 A' G ⟨i6, ⟨[], a6, .nil⟩, ⟨[], g6, .nil⟩, ne_of_none a4 nG⟩ (fun b o hb n => ?_) (f1.fresh i1 (f2.fresh i2 nA)) (f1.fresh i1 (f2.fresh i2 (Same.before m3 (f4.fresh i4 nG))))
  rw [f6.kp b n]
  refine m5 _ _ ?_
  rw [f4.kp b n]
  refine m3 _ _ ?_
  rw [f2.kp b n, f1.kp b n]
  exact hb
theorem use_Box {K : PySem.W.Frag} {H : Hp} {Q : VK} {E : XK} (k : ∀ p A G H', H p = none → H A = none → H G = none → Same H H' → BxAt K H' p A G ⟨0, 0, [], []⟩ → Q (.ref p) H') : makeq (He.ga K "Box") (sp_Box___init__ K) E [] H Q :=
  r_makev fun p H1 np sm hi => ⟨p, rfl, hi, fun H2 A G b kp nA nG => ⟨rfl, k p A G H2 np (Same.before sm nA) (Same.before sm nG) (fun z o e => kp z o (sm z o e) (ne_of_none e np)) b⟩⟩
local macro_rules | `(tactic| walk_at "call") => `(tactic| ((with_reducible refine' use_Box ?_); intro p A G H' np nA nG sm b))

/-! ### Box.deliver -/
abbrev s_Box_deliver : Stmt := inClass (top 5) 1
abbrev N_Box_deliver : List Str := ["self", "lines"]
theorem sc_Box_deliver : FnScope N_Box_deliver ["self", "lines"] (defScope s_Box_deliver) := ⟨rfl, rfl, rfl, by decide +kernel, rfl, by decide +kernel, by decide +kernel⟩
theorem bi_Box_deliver : BindQ "deliver" "Box.deliver" s_Box_deliver ["self", "lines"] := fun _ _ _ _ _ _ us hl => match us, hl with | [_, _], _ => rfl
def sp_Box_deliver (K : PySem.W.Frag) : Sp := sp2 fun x y H Q _ => ∃ p A G bx t ls, x = .ref p ∧ y = .ref t ∧ BxAt K H p A G bx ∧ H t = some (.tup (ls.map V.str)) ∧ bx.es.length ≤ 100000 ∧
  ∀ H', BxAt K H' p A G (bx.dlv ls) → Chg (boxP p A G) (boxP p A G) H H' → Q (.int (bx.n + 1)) H'
theorem ok_Box_deliver {e : Wd} (D : MethAt e (He.ga e.K "Box") "deliver" "Box.deliver" s_Box_deliver) (B : Bl e.mg) (kc_Box : Cls e.K (He.ga e.K "Box")) (kn_Box_number : NoAttr e.K (He.ga e.K "Box") "number") (kn_Box_change : NoAttr e.K (He.ga e.K "Box") "change") (kn_Box_entries : NoAttr e.K (He.ga e.K "Box") "entries") : CanM e 1 (He.ga e.K "Box") "deliver" ["self", "lines"] (sp_Box_deliver e.K) := by
  refine canM_of D sc_Box_deliver bi_Box_deliver (fun _ _ _ _ h => sp2_len h) (fun cdv f A outer s H vs Q E hr h => ?_)
  obtain ⟨v0, v1, rfl, h⟩ := sp2_ex h
  have nd := sc_Box_deliver.nd
  obtain ⟨p, A', G, bx, t, ls, rfl, rfl, b, ht, hl, k⟩ := h
  have hi := b.ins
  obtain ⟨ys, he, hd⟩ := b.es
  have hy : ys.length ≤ 100000 := by rw [hd.len_map]; exact hl
  refine ⟨_, (pss_cons (ps_fldaugU (K := e.K) (pv 0) pe_int in_add)
    (pss_cons (ps_fldaugU (K := e.K) (pv 0) pe_int in_add)
    (pss_cons (ps_expr (pe_bmU (K := e.K) PySem.F.plainAttrs_list PySem.F.slot_list_append PySem.F.type_list_append mt_append (pe_fldU (K := e.K) (pv 0)) (pa_cons (pe_tup (pa_cons (pe_fldU (K := e.K) (pv 0)) (pa_cons (pv 1) (pa_cons (pe_tup pa_nil) (pa_cons (pe_fldU (K := e.K) (pv 0)) pa_nil))))) pa_nil)))
    (pss_one (ps_ret (pe_fldU (K := e.K) (pv 0))))))), ?_⟩
  walk_at "go"
  rename_i H1 i1 f1 H2 i2 f2 t0 H3 n0 m3 h0 t1 H4 n1 m4 h1 H5 h5 k5
  have b4 := (((b.fput f1 i1).fput f2 i2).same m3).same m4
  have hd4 := ((hd.mono f1.gro).mono f2.gro).mono (Gro.same (m3.trans m4))
  have dt : Dq H4 (.ref t) (sD ls) := .tup (m4 _ _ (m3 _ _ (f2.tup (f1.tup ht)))) (Dqs.strs ls)
  have d0 : Dq H4 (.ref t0) (sD []) := .tup (m4 _ _ h0) .nil
  have de : Dq H4 (.ref t1) (entD ⟨bx.n + 1, ls, [], bx.c + 1⟩) := ent_mk h1 dt d0
  have he4 : H4 A' = some (.lst ys) := m4 _ _ (m3 _ _ (f2.lst (f1.lst he)))
  have hd5 : Dqs H5 (ys ++ [.ref t1]) ((bx.es ++ [(⟨bx.n + 1, ls, [], bx.c + 1⟩ : Ent)]).map entD) := by
    rw [List.map_append]
    exact (hd4.app (.cons de .nil)).mono (gro_but he4 k5)
  have b5 := b4.putE h5 k5 hd5
  have hi5 := b5.ins
  walk_at "go"
  exact k H5 b5 (((((f1.chg (by simp)).trans (f2.chg (by simp))).snd m3).snd m4).trans (but_chg k5 he4 (by simp)))
theorem use_deliver {K : PySem.W.Frag} {p A G t : Addr} {bx : Bx} {ls : List Str} {H : Hp} {Q : VK} {E : XK} (h1 : BxAt K H p A G bx) (h2 : H t = some (.tup (ls.map V.str))) (h3 : bx.es.length ≤ 100000) (k : ∀ H', BxAt K H' p A G (bx.dlv ls) → Chg (boxP p A G) (boxP p A G) H H' → Q (.int (bx.n + 1)) H') : sp_Box_deliver K [.ref p, .ref t] H Q E :=
  ⟨p, A, G, bx, t, ls, rfl, rfl, h1, h2, h3, k⟩

/-! ### Box.place -/
abbrev s_Box_place : Stmt := inClass (top 5) 2
abbrev N_Box_place : List Str := ["self", "number", "index", "entry"]
theorem sc_Box_place : FnScope N_Box_place ["self", "number"] (defScope s_Box_place) := ⟨rfl, rfl, rfl, by decide +kernel, rfl, by decide +kernel, by decide +kernel⟩
theorem bi_Box_place : BindQ "place" "Box.place" s_Box_place ["self", "number"] := fun _ _ _ _ _ _ us hl => match us, hl with | [_, _], _ => rfl
def sp_Box_place (K : PySem.W.Frag) : Sp := sp2 fun x y H Q E => ∃ p A G bx n, x = .ref p ∧ y = .int n ∧ BxAt K H p A G bx ∧ (∀ i, placeM bx.es n = some i → ∀ H', Same H H' → Q (.int (i : Nat)) H') ∧ (placeM bx.es n = none → ∀ H', Same H H' → E (.ref (He.ga K "NoSuchEntry")) none H')
theorem ok_Box_place {e : Wd} (D : MethAt e (He.ga e.K "Box") "place" "Box.place" s_Box_place) (B : Bl e.mg) (kc_Box : Cls e.K (He.ga e.K "Box")) (kn_Box_entries : NoAttr e.K (He.ga e.K "Box") "entries") (gm_NoSuchEntry : e.mg "NoSuchEntry" = some (.ref (He.ga e.K "NoSuchEntry"))) (xo_NoSuchEntry : Xco e.K (He.ga e.K "NoSuchEntry")) : CanM e 1 (He.ga e.K "Box") "place" ["self", "number"] (sp_Box_place e.K) := by
  refine canMX_of D sc_Box_place bi_Box_place (fun _ _ _ _ h => sp2_len h) (fun cdv f A outer s H vs Q E hr h tk po => ?_)
  obtain ⟨v0, v1, rfl, h⟩ := sp2_ex h
  have nd := sc_Box_place.nd
  obtain ⟨p, A', G, bx, n, rfl, rfl, b, k1, k2⟩ := h
  have hi := b.ins
  obtain ⟨ys, he, hd⟩ := b.es
  refine ⟨_, (pss_cons (ps_for po rfl (pi_enum (by rfl) B.b_enumerate (pa_cons (pe_fldU (K := e.K) (pv 0)) pa_nil)) (pg_tupU (K := e.K) (n := 2) rfl (pgs_cons (pg_name (i := 2) nd rfl (by first | exact Or.inl rfl | exact Or.inr rfl)) (pgs_cons (pg_name (i := 3) nd rfl (by first | exact Or.inl rfl | exact Or.inr rfl)) pgs_nil))) (pss_one (ps_if (pt_cmpR (op_eqU (K := e.K) hr) (pe_ix (ix_U (K := e.K)) (pv 3) pe_int (fun _ _ => rfl)) (pv 1) (nomark _)) (pss_one (ps_ret (pv 2))) pss_nil)))
    (pss_one (ps_raiseU rfl tk (mk1 xo_NoSuchEntry gm_NoSuchEntry (pv 1))))), ?_⟩
  walk_at "go"
  refine for_E (fun i σ' H' => ∃ x y, σ' = [some (.ref p), some (.int n), x, y] ∧ Same H H' ∧ ∀ (j : Nat) z, j < i → bx.es[j]? = some z → z.n ≠ n) he ?_ ?_ ?_ ?_
  · exact ⟨_, _, rfl, Same.refl _, fun _ _ h => absurd h (Nat.not_lt_zero _)⟩
  · rintro i σ' H1 _ ⟨x, y, rfl, s1, _⟩
    exact SqL.of (s1 _ _ he)
  · rintro i v σ' H1 H2 hv ⟨x, y, rfl, s1, nn⟩ s2
    obtain ⟨z, hz, dz⟩ := hd.at_map hv
    have s12 := s1.trans s2
    obtain ⟨t, vl, vf, rfl, ht, _, _⟩ := ent_at (dz.mono (Gro.same s12))
    clear hi
    walk_at "go"
    refine r_ite (fun c => ?_) (fun c => ?_)
    · walk_at "go"
      exact k1 i (place_some hz c nn) H2 s12
    · walk_at "go"
      refine ⟨_, _, rfl, s12, fun j z' hj hz' => ?_⟩
      rcases Nat.lt_succ_iff_lt_or_eq.mp hj with hj | rfl
      · exact nn j z' hj hz'
      · rw [hz] at hz'
        cases hz'
        exact c
  · rintro σ' H1 ⟨x, y, rfl, s1, nn⟩
    walk_at "go"
    exact k2 (place_none fun j z hj hz => nn j z (by rw [hd.len_map]; exact hj) hz) H1 s1
theorem use_place {K : PySem.W.Frag} {p A G : Addr} {bx : Bx} {n : Int} {H : Hp} {Q : VK} {E : XK} (h1 : BxAt K H p A G bx) (k1 : ∀ i, placeM bx.es n = some i → ∀ H', Same H H' → Q (.int (i : Nat)) H') (k2 : placeM bx.es n = none → ∀ H', Same H H' → E (.ref (He.ga K "NoSuchEntry")) none H') : sp_Box_place K [.ref p, .int n] H Q E :=
  ⟨p, A, G, bx, n, rfl, rfl, h1, k1, k2⟩

/-! ### Box.set_flags -/
abbrev s_Box_set_flags : Stmt := inClass (top 5) 3
abbrev N_Box_set_flags : List Str := ["self", "number", "flags", "index"]
theorem sc_Box_set_flags : FnScope N_Box_set_flags ["self", "number", "flags"] (defScope s_Box_set_flags) := ⟨rfl, rfl, rfl, by decide +kernel, rfl, by decide +kernel, by decide +kernel⟩
theorem bi_Box_set_flags : BindQ "set_flags" "Box.set_flags" s_Box_set_flags ["self", "number", "flags"] := fun _ _ _ _ _ _ us hl => match us, hl with | [_, _, _], _ => rfl
def sp_Box_set_flags (K : PySem.W.Frag) : Sp := sp3 fun x y z H Q E => ∃ p A G bx n t ss, x = .ref p ∧ y = .int n ∧ z = .ref t ∧ BxAt K H p A G bx ∧ H t = some (.tup (ss.map V.str)) ∧ ss.length < 64 ∧
  (∀ i fs, placeM bx.es n = some i → SortOf fs ss → ∀ H', BxAt K H' p A G (bx.flag i n fs) → Chg (boxP p A G) (boxP p A G) H H' → Q .non H') ∧ (placeM bx.es n = none → ∀ H', Same H H' → E (.ref (He.ga K "NoSuchEntry")) none H')
theorem ok_Box_set_flags {e : Wd} (D : MethAt e (He.ga e.K "Box") "set_flags" "Box.set_flags" s_Box_set_flags) (B : Bl e.mg) (kc_Box : Cls e.K (He.ga e.K "Box")) (kn_Box_change : NoAttr e.K (He.ga e.K "Box") "change") (kn_Box_entries : NoAttr e.K (He.ga e.K "Box") "entries") (c_Box_place : CanM e 1 (He.ga e.K "Box") "place" ["self", "number"] (sp_Box_place e.K)) : CanM e 2 (He.ga e.K "Box") "set_flags" ["self", "number", "flags"] (sp_Box_set_flags e.K) := by
  refine canMX_of D sc_Box_set_flags bi_Box_set_flags (fun _ _ _ _ h => sp3_len h) (fun cdv f A outer s H vs Q E hr h tk po => ?_)
  obtain ⟨v0, v1, v2, rfl, h⟩ := sp3_ex h
  have nd := sc_Box_set_flags.nd
  obtain ⟨p, A', G, bx, n, t, ss, rfl, rfl, rfl, b, ht, hl, k1, k2⟩ := h
  have hi := b.ins
  refine ⟨_, (pss_cons (ps_set (i := 3) nd rfl (by first | exact Or.inl rfl | exact Or.inr rfl) (pe_canMX tk c_Box_place (hr.mono (by first | decide | omega)) (pv 0) (pa_cons (pv 1) pa_nil)))
    (pss_cons (ps_fldaugU (K := e.K) (pv 0) pe_int in_add)
    (pss_one (ps_asg (pe_tup (pa_cons (pv 1) (pa_cons (pe_ix (ix_U (K := e.K)) (pe_ix (ix_U (K := e.K)) (pe_fldU (K := e.K) (pv 0)) (pv 3) (fun _ _ => rfl)) pe_int (fun _ _ => rfl)) (pa_cons (pe_callTy (call_tupleU (K := e.K)) (by rfl) B.b_tuple bt_tuple (pa_cons (pe_callB (call_sortT rfl) (by rfl) B.b_sorted bt_sorted (pa_cons (pe_callTy (call_setT (K := e.K) rfl) (by rfl) B.b_set bt_set (pa_cons (pv 2) pa_nil)) pa_nil)) pa_nil)) (pa_cons (pe_fldU (K := e.K) (pv 0)) pa_nil))))) (pg_sub (pe_fldU (K := e.K) (pv 0)) (pv 3) set_list))))), ?_⟩
  walk_at "go"
  refine use_place b (fun i hp H1 s1 => ?_) (fun hp H1 s1 => k2 hp H1 s1)
  obtain ⟨y, hy, en, hy2⟩ := place_at hp
  have b1 := b.same s1
  have hi1 := b1.ins
  obtain ⟨ys, he, hd⟩ := b1.es
  obtain ⟨v, hv, dv⟩ := hd.has hy
  obtain ⟨te, vl, vf, rfl, hte, dl, df⟩ := ent_at dv
  have ai := atI_nn hv
  have iy := ixN_nat (n := ys.length) (i := i) (by rw [hd.len_map]; exact hy2)
  have ht1 := s1 _ _ ht
  clear hi ht
  walk_at "go"
  rename_i H2 i2 f2 q H3 l nq mem ln le m3 hq r fs H4 nr pm so m4 hr r2 H5 n5 m5 h5 r3 H6 n6 m6 h6
  have s26 : Same H2 H6 := ((m3.trans m4).trans m5).trans m6
  have he6 : H6 A' = some (.lst ys) := s26 _ _ (f2.lst he)
  refine r_setL he6 iy (fun H7 h7 k7 => ?_)
  have b2 := b1.fput f2 i2
  have b6 := b2.same s26
  have so1 : SortOf fs ss := ⟨pm.nodup_iff.mpr ln, so, fun z => pm.mem_iff.trans (mem z)⟩
  have g16 : Gro H1 H6 := f2.gro.trans (Gro.same s26)
  have dl6 := dl.mono g16
  have df6 : Dq H6 (.ref r2) (sD fs) := .tup (m6 _ _ h5) (Dqs.strs fs)
  have de : Dq H6 (.ref r3) (entD ⟨n, y.ls, fs, bx.c + 1⟩) := ent_mk h6 dl6 df6
  have d7 : Dqs H7 (ys.set i (.ref r3)) ((bx.es.set i ⟨n, y.ls, fs, bx.c + 1⟩).map entD) := by
    rw [map_setG]
    exact ((hd.mono g16).setAt i de).mono (gro_but he6 k7)
  have b7 := b6.putE h7 k7 d7
  have eq : bx.flag i n fs = { { bx with n := bx.n, c := bx.c + 1 } with es := bx.es.set i ⟨n, y.ls, fs, bx.c + 1⟩ } := by
    unfold Bx.flag
    rw [hy] <;> rfl
  exact k1 i fs hp so1 H7 (by rw [eq]; exact b7) (((Chg.same s1).trans ((f2.chg (by simp)).snd s26)).trans (but_chg k7 he6 (by simp)))
theorem use_set_flags {K : PySem.W.Frag} {p A G t : Addr} {bx : Bx} {n : Int} {ss : List Str} {H : Hp} {Q : VK} {E : XK} (h1 : BxAt K H p A G bx) (h2 : H t = some (.tup (ss.map V.str))) (h3 : ss.length < 64) (k1 : ∀ i fs, placeM bx.es n = some i → SortOf fs ss → ∀ H', BxAt K H' p A G (bx.flag i n fs) → Chg (boxP p A G) (boxP p A G) H H' → Q .non H')
    (k2 : placeM bx.es n = none → ∀ H', Same H H' → E (.ref (He.ga K "NoSuchEntry")) none H') : sp_Box_set_flags K [.ref p, .int n, .ref t] H Q E :=
  ⟨p, A, G, bx, n, t, ss, rfl, rfl, rfl, h1, h2, h3, k1, k2⟩

/-! ### Box.expunge -/
abbrev s_Box_expunge : Stmt := inClass (top 5) 4
abbrev N_Box_expunge : List Str := ["self", "number", "index"]
theorem sc_Box_expunge : FnScope N_Box_expunge ["self", "number"] (defScope s_Box_expunge) := ⟨rfl, rfl, rfl, by decide +kernel, rfl, by decide +kernel, by decide +kernel⟩
theorem bi_Box_expunge : BindQ "expunge" "Box.expunge" s_Box_expunge ["self", "number"] := fun _ _ _ _ _ _ us hl => match us, hl with | [_, _], _ => rfl
def sp_Box_expunge (K : PySem.W.Frag) : Sp := sp2 fun x y H Q E => ∃ p A G bx n, x = .ref p ∧ y = .int n ∧ BxAt K H p A G bx ∧ bx.es.length ≤ 100000 ∧ bx.gs.length ≤ 100000 ∧
  (∀ i, placeM bx.es n = some i → ∀ H', BxAt K H' p A G (bx.cut i n) → Chg (boxP p A G) (boxP p A G) H H' → Q .non H') ∧ (placeM bx.es n = none → ∀ H', Same H H' → E (.ref (He.ga K "NoSuchEntry")) none H')
theorem ok_Box_expunge {e : Wd} (D : MethAt e (He.ga e.K "Box") "expunge" "Box.expunge" s_Box_expunge) (B : Bl e.mg) (kc_Box : Cls e.K (He.ga e.K "Box")) (kn_Box_change : NoAttr e.K (He.ga e.K "Box") "change") (kn_Box_entries : NoAttr e.K (He.ga e.K "Box") "entries") (kn_Box_gone : NoAttr e.K (He.ga e.K "Box") "gone") (c_Box_place : CanM e 1 (He.ga e.K "Box") "place" ["self", "number"] (sp_Box_place e.K)) : CanM e 2 (He.ga e.K "Box") "expunge" ["self", "number"] (sp_Box_expunge e.K) := by
  refine canMX_of D sc_Box_expunge bi_Box_expunge (fun _ _ _ _ h => sp2_len h) (fun cdv f A outer s H vs Q E hr h tk po => ?_)
  obtain ⟨v0, v1, rfl, h⟩ := sp2_ex h
  have nd := sc_Box_expunge.nd
  obtain ⟨p, A', G, bx, n, rfl, rfl, b, hl, hg, k1, k2⟩ := h
  have hi := b.ins
  refine ⟨_, (pss_cons (ps_set (i := 2) nd rfl (by first | exact Or.inl rfl | exact Or.inr rfl) (pe_canMX tk c_Box_place (hr.mono (by first | decide | omega)) (pv 0) (pa_cons (pv 1) pa_nil)))
    (pss_cons (ps_fldaugU (K := e.K) (pv 0) pe_int in_add)
    (pss_cons (ps_delL (pe_fldU (K := e.K) (pv 0)) (pv 2))
    (pss_one (ps_expr (pe_bmU (K := e.K) PySem.F.plainAttrs_list PySem.F.slot_list_append PySem.F.type_list_append mt_append (pe_fldU (K := e.K) (pv 0)) (pa_cons (pe_tup (pa_cons (pv 1) (pa_cons (pe_fldU (K := e.K) (pv 0)) pa_nil))) pa_nil))))))), ?_⟩
  walk_at "go"
  refine use_place b (fun i hp H1 s1 => ?_) (fun hp H1 s1 => k2 hp H1 s1)
  obtain ⟨y, hy, en, hy2⟩ := place_at hp
  have b1 := b.same s1
  have hi1 := b1.ins
  obtain ⟨ys, he, hd⟩ := b1.es
  have ly := hd.len_map
  clear hi
  walk_at "go"
  rename_i H2 i2 f2
  have he2 := f2.lst he
  refine r_delv he2 (by omega) (by omega) (fun H3 h3 k3 => ?_)
  have b2 := b1.fput f2 i2
  have g12 := f2.gro
  have d3 : Dqs H3 (ys.eraseIdx i) ((bx.es.eraseIdx i).map entD) := by
    rw [map_eraseG]
    exact ((hd.mono g12).erase i).mono (gro_but he2 k3)
  have b3 := b2.putE h3 k3 d3
  have hi3 := b3.ins
  obtain ⟨zs, hz, dz⟩ := b3.gs
  have lz : zs.length ≤ 100000 := by rw [dz.len_map]; exact hg
  have ch3 := ((Chg.same s1).trans (f2.chg (fp := boxP p A' G) (by simp))).trans (but_chg k3 he2 (by simp))
  clear hi1 i2 f2 h3 k3 he2 b2 s1
  walk_at "go"
  rename_i t H4 n4 m4 h4 H5 h5 k5
  have d5 : Dqs H5 (zs ++ [.ref t]) ((bx.gs ++ [(n, bx.c + 1)]).map gonD) := by
    rw [List.map_append]
    exact ((dz.mono (Gro.same m4)).app (.cons (gon_mk h4) .nil)).mono (gro_but (m4 _ _ hz) k5)
  exact k1 i hp H5 ((b3.same m4).putG h5 k5 d5) ((ch3.snd m4).trans (but_chg k5 (m4 _ _ hz) (by simp)))
theorem use_expunge {K : PySem.W.Frag} {p A G : Addr} {bx : Bx} {n : Int} {H : Hp} {Q : VK} {E : XK} (h1 : BxAt K H p A G bx) (h2 : bx.es.length ≤ 100000) (h3 : bx.gs.length ≤ 100000) (k1 : ∀ i, placeM bx.es n = some i → ∀ H', BxAt K H' p A G (bx.cut i n) → Chg (boxP p A G) (boxP p A G) H H' → Q .non H')
    (k2 : placeM bx.es n = none → ∀ H', Same H H' → E (.ref (He.ga K "NoSuchEntry")) none H') : sp_Box_expunge K [.ref p, .int n] H Q E :=
  ⟨p, A, G, bx, n, rfl, rfl, h1, h2, h3, k1, k2⟩

/-! ### Box.to_value -/
abbrev s_Box_to_value : Stmt := inClass (top 5) 6
abbrev N_Box_to_value : List Str := ["self"]
theorem sc_Box_to_value : FnScope N_Box_to_value ["self"] (defScope s_Box_to_value) := ⟨rfl, rfl, rfl, by decide +kernel, rfl, by decide +kernel, by decide +kernel⟩
theorem bi_Box_to_value : BindQ "to_value" "Box.to_value" s_Box_to_value ["self"] := fun _ _ _ _ _ _ us hl => match us, hl with | [_], _ => rfl
def sp_Box_to_value (K : PySem.W.Frag) : Sp := sp1 fun x H Q _ => ∃ p A G bx, x = .ref p ∧ BxAt K H p A G bx ∧ ∀ t H', Same H H' → Dq H' (.ref t) (boxD bx) → Q (.ref t) H'
theorem ok_Box_to_value {e : Wd} (D : MethAt e (He.ga e.K "Box") "to_value" "Box.to_value" s_Box_to_value) (B : Bl e.mg) (kc_Box : Cls e.K (He.ga e.K "Box")) (kn_Box_number : NoAttr e.K (He.ga e.K "Box") "number") (kn_Box_change : NoAttr e.K (He.ga e.K "Box") "change") (kn_Box_entries : NoAttr e.K (He.ga e.K "Box") "entries") (kn_Box_gone : NoAttr e.K (He.ga e.K "Box") "gone") : CanM e 1 (He.ga e.K "Box") "to_value" ["self"] (sp_Box_to_value e.K) := by
  refine canM_of D sc_Box_to_value bi_Box_to_value (fun _ _ _ _ h => sp1_len h) (fun cdv f A outer s H vs Q E hr h => ?_)
  obtain ⟨v0, rfl, h⟩ := sp1_ex h
  have nd := sc_Box_to_value.nd
  obtain ⟨p, A', G, bx, rfl, b, k⟩ := h
  have hi := b.ins
  obtain ⟨ys, he, hd⟩ := b.es
  obtain ⟨zs, hz, dz⟩ := b.gs
  refine ⟨_, (pss_one (ps_ret (pe_tup (pa_cons (pe_fldU (K := e.K) (pv 0)) (pa_cons (pe_fldU (K := e.K) (pv 0)) (pa_cons (pe_callTy (call_tupleU (K := e.K)) (by rfl) B.b_tuple bt_tuple (pa_cons (pe_fldU (K := e.K) (pv 0)) pa_nil)) (pa_cons (pe_callTy (call_tupleU (K := e.K)) (by rfl) B.b_tuple bt_tuple (pa_cons (pe_fldU (K := e.K) (pv 0)) pa_nil)) pa_nil))))))), ?_⟩
  walk_at "go"
  rename_i a1 H1 n1 m1 h1 a2 H2 n2 m2 h2 a3 H3 n3 m3 h3
  have s13 := m2.trans m3
  exact k a3 H3 (m1.trans s13) (.tup h3 (.cons (.int _) (.cons (.int _) (.cons (.tup (s13 _ _ h1) (hd.mono (Gro.same (m1.trans s13)))) (.cons (.tup (m3 _ _ h2) (dz.mono (Gro.same (m1.trans s13)))) .nil)))))
theorem use_to_value {K : PySem.W.Frag} {p A G : Addr} {bx : Bx} {H : Hp} {Q : VK} {E : XK} (h1 : BxAt K H p A G bx) (k : ∀ t H', Same H H' → Dq H' (.ref t) (boxD bx) → Q (.ref t) H') : sp_Box_to_value K [.ref p] H Q E :=
  ⟨p, A, G, bx, rfl, h1, k⟩

/-! ### box_of -/
abbrev s_box_of : Stmt := top 6
abbrev N_box_of : List Str := ["value", "box"]
theorem sc_box_of : FnScope N_box_of ["value"] (defScope s_box_of) := ⟨rfl, rfl, rfl, by decide +kernel, rfl, by decide +kernel, by decide +kernel⟩
theorem bi_box_of : BindOk "box_of" s_box_of ["value"] := fun _ _ _ _ _ _ us hl => match us, hl with | [_], _ => rfl
def sp_box_of (K : PySem.W.Frag) : Sp := sp1 fun x H Q _ => ∃ t bx, x = .ref t ∧ Dq H (.ref t) (boxD bx) ∧ ∀ p A G H', H p = none → H A = none → H G = none → Same H H' → BxAt K H' p A G bx → Q (.ref p) H'
theorem ok_box_of {e : Wd} (D : DefAt e "box_of" s_box_of) (B : Bl e.mg) (kc_Box : Cls e.K (He.ga e.K "Box")) (kn_Box_number : NoAttr e.K (He.ga e.K "Box") "number") (kn_Box_change : NoAttr e.K (He.ga e.K "Box") "change") (kn_Box_entries : NoAttr e.K (He.ga e.K "Box") "entries") (kn_Box_gone : NoAttr e.K (He.ga e.K "Box") "gone") (c_Box___init__ : CanN e 1 (He.ga e.K "Box") "Box" ["self"] (sp_Box___init__ e.K)) : Can e 3 "box_of" ["value"] (sp_box_of e.K) := by
  refine can_of D sc_box_of bi_box_of (fun _ _ _ _ h => sp1_len h) (fun cdv f A outer s H vs Q E hr h => ?_)
  obtain ⟨v0, rfl, h⟩ := sp1_ex h
  have nd := sc_box_of.nd
  obtain ⟨t, bx, rfl, d, k⟩ := h
  obtain ⟨te, tg, ys, zs, ht, he, hg, dy, dz⟩ : ∃ te tg ys zs, H t = some (.tup [.int bx.n, .int bx.c, .ref te, .ref tg]) ∧ H te = some (.tup ys) ∧ H tg = some (.tup zs) ∧ Dqs H ys (bx.es.map entD) ∧ Dqs H zs (bx.gs.map gonD) := by
    cases d with
    | tup ha hs =>
      cases hs with
      | cons h1 hs =>
      cases hs with
      | cons h2 hs =>
      cases hs with
      | cons h3 hs =>
      cases hs with
      | cons h4 hs =>
      cases hs
      cases h1
      cases h2
      cases h3 with
      | tup a3 b3 =>
      cases h4 with
      | tup a4 b4 => exact ⟨_, _, _, _, ha, a3, a4, b3, b4⟩
  refine ⟨_, (pss_cons (ps_set (i := 1) nd rfl (by first | exact Or.inl rfl | exact Or.inr rfl) (pe_canN0 c_Box___init__ (hr.mono (by first | decide | omega)) passL))
    (pss_cons (ps_asg (pe_tup (pa_cons (pe_ix (ix_U (K := e.K)) (pv 0) pe_int (fun _ _ => rfl)) (pa_cons (pe_ix (ix_U (K := e.K)) (pv 0) pe_int (fun _ _ => rfl)) pa_nil))) (pg_tupU (K := e.K) (n := 2) rfl (pgs_cons (pg_fldU (K := e.K) (pv 1)) (pgs_cons (pg_fldU (K := e.K) (pv 1)) pgs_nil))))
    (pss_cons (ps_fldU (K := e.K) (pv 1) (pe_callTy (call_listU (K := e.K)) (by rfl) B.b_list bt_list (pa_cons (pe_ix (ix_U (K := e.K)) (pv 0) pe_int (fun _ _ => rfl)) pa_nil)))
    (pss_cons (ps_fldU (K := e.K) (pv 1) (pe_callTy (call_listU (K := e.K)) (by rfl) B.b_list bt_list (pa_cons (pe_ix (ix_U (K := e.K)) (pv 0) pe_int (fun _ _ => rfl)) pa_nil)))
    (pss_one (ps_ret (pv 1))))))), ?_⟩
  walk_at "go"
  rename_i p A0 G0 H1 np nA nG m1 b0 tp H2 n2 m2 h2
  have hi2 := (b0.same m2).ins
  have ht2 := m2 _ _ (m1 _ _ ht)
  have he2 := m2 _ _ (m1 _ _ he)
  have hg2 := m2 _ _ (m1 _ _ hg)
  clear ht he hg b0
  walk_at "go"
  rename_i H3 i3 f3 H4 i4 f4 A1 H5 n5 m5 h5 H6 i6 f6 G1 H7 n7 m7 h7 H8 i8 f8
  have s12 := m1.trans m2
  have s4 : Same H H4 := Same.fput (Same.fput s12 np f3) np f4
  have s6 : Same H H6 := Same.fput (s4.trans m5) np f6
  have s8 : Same H H8 := Same.fput (s6.trans m7) np f8
  have nA1 : H A1 = none := Same.before s4 n5
  have nG1 : H G1 = none := Same.before s6 n7
  have a8 : H8 A1 = some (.lst ys) := f8.lst (m7 _ _ (f6.lst h5))
  have g8 : H8 G1 = some (.lst zs) := f8.lst h7
  have h6 : H6 A1 = some (.lst ys) := f6.lst h5
  walk_at "go"
  exact k p A1 G1 H8 np nA1 nG1 s8 ⟨i8, ⟨ys, a8, dy.mono (Gro.same s8)⟩, ⟨zs, g8, dz.mono (Gro.same s8)⟩, ne_of_none h6 n7⟩
theorem use_box_of {K : PySem.W.Frag} {t : Addr} {bx : Bx} {H : Hp} {Q : VK} {E : XK} (h1 : Dq H (.ref t) (boxD bx)) (k : ∀ p A G H', H p = none → H A = none → H G = none → Same H H' → BxAt K H' p A G bx → Q (.ref p) H') : sp_box_of K [.ref t] H Q E :=
  ⟨t, bx, rfl, h1, k⟩

/-! ### format_address -/
abbrev s_format_address : Stmt := top 8
abbrev N_format_address : List Str := ["address"]
theorem sc_format_address : FnScope N_format_address ["address"] (defScope s_format_address) := ⟨rfl, rfl, rfl, by decide +kernel, rfl, by decide +kernel, by decide +kernel⟩
theorem bi_format_address : BindOk "format_address" s_format_address ["address"] := fun _ _ _ _ _ _ us hl => match us, hl with | [_], _ => rfl
def sp_format_address (K : PySem.W.Frag) : Sp := sp1 fun x H Q _ => ∃ p l d, x = .ref p ∧ H p = some (.tup [.str l, .str d]) ∧ l.length + 1 + d.length ≤ 1000000 ∧ Q (.str (l ++ atS ++ d)) H
theorem ok_format_address {e : Wd} (D : DefAt e "format_address" s_format_address) (B : Bl e.mg) : Can e 1 "format_address" ["address"] (sp_format_address e.K) := by
  refine can_of D sc_format_address bi_format_address (fun _ _ _ _ h => sp1_len h) (fun cdv f A outer s H vs Q E hr h => ?_)
  obtain ⟨v0, rfl, h⟩ := sp1_ex h
  have nd := sc_format_address.nd
  obtain ⟨p, l, d, rfl, hp, hl, k⟩ := h
  have n1 := atS_len
  refine ⟨_, (pss_one (ps_ret (pe_op (op_addU (K := e.K)) (pe_op (op_addU (K := e.K)) (pe_ix (ix_U (K := e.K)) (pv 0) pe_int (fun _ _ => rfl)) pe_str) (pe_ix (ix_U (K := e.K)) (pv 0) pe_int (fun _ _ => rfl))))), ?_⟩
  walk_at "go"
  exact k
theorem use_format_address {K : PySem.W.Frag} {p : Addr} {l d : Str} {H : Hp} {Q : VK} {E : XK} (h1 : H p = some (.tup [.str l, .str d])) (h2 : l.length + 1 + d.length ≤ 1000000) (k : Q (.str (l ++ atS ++ d)) H) : sp_format_address K [.ref p] H Q E :=
  ⟨p, l, d, rfl, h1, h2, k⟩
local macro_rules | `(tactic| walk_at "call") => `(tactic| ((with_reducible refine' use_format_address ?h1 ?h2 ?_); (case h1 => walk_at "hp"); (case h2 => walk_at "nat")))

/-! ### trace -/
abbrev s_trace : Stmt := top 11
abbrev N_trace : List Str := ["domain"]
theorem sc_trace : FnScope N_trace ["domain"] (defScope s_trace) := ⟨rfl, rfl, rfl, by decide +kernel, rfl, by decide +kernel, by decide +kernel⟩
theorem bi_trace : BindOk "trace" s_trace ["domain"] := fun _ _ _ _ _ _ us hl => match us, hl with | [_], _ => rfl
def sp_trace (K : PySem.W.Frag) : Sp := sp1 fun x H Q _ => ∃ d, x = .str d ∧ d.length ≤ 1000000 ∧ Q (.str (trS ++ d)) H
theorem ok_trace {e : Wd} (D : DefAt e "trace" s_trace) (B : Bl e.mg) (g_TRACE : ∃ t, e.mg "TRACE" = some (.str ("Received: by " : Str) t)) : Can e 1 "trace" ["domain"] (sp_trace e.K) := by
  refine can_of D sc_trace bi_trace (fun _ _ _ _ h => sp1_len h) (fun cdv f A outer s H vs Q E hr h => ?_)
  obtain ⟨v0, rfl, h⟩ := sp1_ex h
  have nd := sc_trace.nd
  obtain ⟨d, rfl, hl, k⟩ := h
  have n1 := trS_len
  refine ⟨_, (pss_one (ps_ret (pe_op (op_addU (K := e.K)) (pe_gs g_TRACE) (pv 0)))), ?_⟩
  walk_at "go"
  exact k
theorem use_trace {K : PySem.W.Frag} {d : Str} {H : Hp} {Q : VK} {E : XK} (h1 : d.length ≤ 1000000) (k : Q (.str (trS ++ d)) H) : sp_trace K [.str d] H Q E :=
  ⟨d, rfl, h1, k⟩
local macro_rules | `(tactic| walk_at "call") => `(tactic| ((with_reducible refine' use_trace ?h1 ?_); (case h1 => walk_at "nat")))

/-! ### report -/
abbrev s_report : Stmt := top 12
abbrev N_report : List Str := ["recipient", "reason"]
theorem sc_report : FnScope N_report ["recipient", "reason"] (defScope s_report) := ⟨rfl, rfl, rfl, by decide +kernel, rfl, by decide +kernel, by decide +kernel⟩
theorem bi_report : BindOk "report" s_report ["recipient", "reason"] := fun _ _ _ _ _ _ us hl => match us, hl with | [_, _], _ => rfl
def sp_report (K : PySem.W.Frag) : Sp := sp2 fun x y H Q _ => ∃ p l d r, x = .ref p ∧ y = .str r ∧ H p = some (.tup [.str l, .str d]) ∧ l.length + 1 + d.length ≤ 1000000 ∧ r.length ≤ 1000000 ∧
  ∀ q H', Same H H' → H' q = some (.tup ((reportM l d r).map V.str)) → Q (.ref q) H'
theorem ok_report {e : Wd} (D : DefAt e "report" s_report) (B : Bl e.mg) (c_format_address : Can e 1 "format_address" ["address"] (sp_format_address e.K)) : Can e 2 "report" ["recipient", "reason"] (sp_report e.K) := by
  refine can_of D sc_report bi_report (fun _ _ _ _ h => sp2_len h) (fun cdv f A outer s H vs Q E hr h => ?_)
  obtain ⟨v0, v1, rfl, h⟩ := sp2_ex h
  have nd := sc_report.nd
  obtain ⟨p, l, d, r, rfl, rfl, hp, hl, hr', k⟩ := h
  have n1 := atS_len
  have n2 : (Str.ofString "Recipient: ").length = 11 := by decide +kernel
  have n3 : (Str.ofString "Reason: ").length = 8 := by decide +kernel
  refine ⟨_, (pss_one (ps_ret (pe_tup (pa_cons pe_str (pa_cons pe_str (pa_cons (pe_op (op_addU (K := e.K)) pe_str (pe_can c_format_address (hr.mono (by first | decide | omega)) passL (pa_cons (pv 0) pa_nil))) (pa_cons (pe_op (op_addU (K := e.K)) pe_str (pv 1)) pa_nil))))))), ?_⟩
  walk_at "go"
  rename_i q H2 nq sm hq
  exact k q H2 sm hq
theorem use_report {K : PySem.W.Frag} {p : Addr} {l d r : Str} {H : Hp} {Q : VK} {E : XK} (h1 : H p = some (.tup [.str l, .str d])) (h2 : l.length + 1 + d.length ≤ 1000000) (h3 : r.length ≤ 1000000) (k : ∀ q H', Same H H' → H' q = some (.tup ((reportM l d r).map V.str)) → Q (.ref q) H') : sp_report K [.ref p, .str r] H Q E :=
  ⟨p, l, d, r, rfl, rfl, h1, h2, h3, k⟩
local macro_rules | `(tactic| walk_at "call") => `(tactic| ((with_reducible refine' use_report ?h1 ?h2 ?h3 ?_); (case h1 => walk_at "hp"); (case h2 => walk_at "nat"); (case h3 => walk_at "nat"); intro q H' sm hq))

/-! ### Item.__init__ -/
abbrev s_Item___init__ : Stmt := inClass (top 14) 0
abbrev N_Item___init__ : List Str := ["self", "tag", "sender", "recipient", "lines", "via", "born", "tries", "due", "doubt"]
theorem sc_Item___init__ : FnScope N_Item___init__ ["self", "tag", "sender", "recipient", "lines", "via", "born", "tries", "due", "doubt"] (defScope s_Item___init__) := ⟨rfl, rfl, rfl, by decide +kernel, rfl, by decide +kernel, by decide +kernel⟩
theorem bi_Item___init__ : BindQ "__init__" "Item.__init__" s_Item___init__ ["self", "tag", "sender", "recipient", "lines", "via", "born", "tries", "due", "doubt"] := fun _ _ _ _ _ _ us hl => match us, hl with | [_, _, _, _, _, _, _, _, _, _], _ => rfl
def sp_Item___init__ (K : PySem.W.Frag) : Sp := sp10 fun self t s r l v b n u d H Q _ => ∃ a, self = .ref a ∧ Ins H a (He.ga K "Item") [] ∧ ∀ H', Ins H' a (He.ga K "Item") [("tag", t), ("sender", s), ("recipient", r), ("lines", l), ("via", v), ("born", b), ("tries", n), ("due", u), ("doubt", d)] → (∀ c, c ≠ a → H' c = H c) → Q .non H'
theorem ok_Item___init__ {e : Wd} (D : InitAt e (He.ga e.K "Item") "Item" "Item.__init__" s_Item___init__) (B : Bl e.mg) (kc_Item : Cls e.K (He.ga e.K "Item")) (kn_Item_tag : NoAttr e.K (He.ga e.K "Item") "tag") (kn_Item_sender : NoAttr e.K (He.ga e.K "Item") "sender") (kn_Item_recipient : NoAttr e.K (He.ga e.K "Item") "recipient") (kn_Item_lines : NoAttr e.K (He.ga e.K "Item") "lines") (kn_Item_via : NoAttr e.K (He.ga e.K "Item") "via") (kn_Item_born : NoAttr e.K (He.ga e.K "Item") "born") (kn_Item_tries : NoAttr e.K (He.ga e.K "Item") "tries") (kn_Item_due : NoAttr e.K (He.ga e.K "Item") "due") (kn_Item_doubt : NoAttr e.K (He.ga e.K "Item") "doubt") : CanN e 1 (He.ga e.K "Item") "Item" ["self", "tag", "sender", "recipient", "lines", "via", "born", "tries", "due", "doubt"] (sp_Item___init__ e.K) := by
  refine canN_of D sc_Item___init__ bi_Item___init__ (fun _ _ _ _ h => sp10_len h) (fun cdv f A outer s H vs Q E hr h => ?_)
  obtain ⟨v0, v1, v2, v3, v4, v5, v6, v7, v8, v9, rfl, h⟩ := sp10_ex h
  have nd := sc_Item___init__.nd
  obtain ⟨a, rfl, hi, k⟩ := h
  refine ⟨_, (pss_cons (ps_fldU (K := e.K) (pv 0) (pv 1))
    (pss_cons (ps_fldU (K := e.K) (pv 0) (pv 2))
    (pss_cons (ps_fldU (K := e.K) (pv 0) (pv 3))
    (pss_cons (ps_fldU (K := e.K) (pv 0) (pv 4))
    (pss_cons (ps_fldU (K := e.K) (pv 0) (pv 5))
    (pss_cons (ps_fldU (K := e.K) (pv 0) (pv 6))
    (pss_cons (ps_fldU (K := e.K) (pv 0) (pv 7))
    (pss_cons (ps_fldU (K := e.K) (pv 0) (pv 8))
    (pss_one (ps_fldU (K := e.K) (pv 0) (pv 9))))))))))), ?_⟩
  walk_at "go"
  rename_i H1 i1 k1 H2 i2 k2 H3 i3 k3 H4 i4 k4 H5 i5 k5 H6 i6 k6 H7 i7 k7 H8 i8 k8 H9 i9 k9
  exact k _ i9 fun c hc => by rw [k9.kp c hc, k8.kp c hc, k7.kp c hc, k6.kp c hc, k5.kp c hc, k4.kp c hc, k3.kp c hc, k2.kp c hc, k1.kp c hc]
theorem use_Item {K : PySem.W.Frag} {t s r l v b n u d : V} {H : Hp} {Q : VK} {E : XK} (k : ∀ x H', H x = none → Same H H' → Ins H' x (He.ga K "Item") [("tag", t), ("sender", s), ("recipient", r), ("lines", l), ("via", v), ("born", b), ("tries", n), ("due", u), ("doubt", d)] → Q (.ref x) H') : makeq (He.ga K "Item") (sp_Item___init__ K) E [t, s, r, l, v, b, n, u, d] H Q :=
  r_makev fun x H1 nx sm hi => ⟨x, rfl, hi, fun H2 h2 hb => ⟨rfl, k x H2 nx (fun b o e => by rw [hb b (ne_of_none e nx)]; exact sm b o e) h2⟩⟩
local macro_rules | `(tactic| walk_at "call") => `(tactic| ((with_reducible refine' use_Item ?_); intro x H' nx sm hi))

/-! ### Item.to_value -/
abbrev s_Item_to_value : Stmt := inClass (top 14) 1
abbrev N_Item_to_value : List Str := ["self"]
theorem sc_Item_to_value : FnScope N_Item_to_value ["self"] (defScope s_Item_to_value) := ⟨rfl, rfl, rfl, by decide +kernel, rfl, by decide +kernel, by decide +kernel⟩
theorem bi_Item_to_value : BindQ "to_value" "Item.to_value" s_Item_to_value ["self"] := fun _ _ _ _ _ _ us hl => match us, hl with | [_], _ => rfl
def sp_Item_to_value (K : PySem.W.Frag) : Sp := sp1 fun self H Q _ => ∃ a t x, self = .ref a ∧ ItAt K H a t x ∧ ∀ p H', Same H H' → Dq H' (.ref p) (itmD t x) → Q (.ref p) H'
theorem ok_Item_to_value {e : Wd} (D : MethAt e (He.ga e.K "Item") "to_value" "Item.to_value" s_Item_to_value) (B : Bl e.mg) (kc_Item : Cls e.K (He.ga e.K "Item")) (kn_Item_tag : NoAttr e.K (He.ga e.K "Item") "tag") (kn_Item_sender : NoAttr e.K (He.ga e.K "Item") "sender") (kn_Item_recipient : NoAttr e.K (He.ga e.K "Item") "recipient") (kn_Item_lines : NoAttr e.K (He.ga e.K "Item") "lines") (kn_Item_via : NoAttr e.K (He.ga e.K "Item") "via") (kn_Item_born : NoAttr e.K (He.ga e.K "Item") "born") (kn_Item_tries : NoAttr e.K (He.ga e.K "Item") "tries") (kn_Item_due : NoAttr e.K (He.ga e.K "Item") "due") (kn_Item_doubt : NoAttr e.K (He.ga e.K "Item") "doubt") : CanM e 1 (He.ga e.K "Item") "to_value" ["self"] (sp_Item_to_value e.K) := by
  refine canM_of D sc_Item_to_value bi_Item_to_value (fun _ _ _ _ h => sp1_len h) (fun cdv f A outer s H vs Q E hr h => ?_)
  obtain ⟨v0, rfl, h⟩ := sp1_ex h
  have nd := sc_Item_to_value.nd
  obtain ⟨a, t, x, rfl, ⟨vt, vs, vr, vl, vv, vd, hi, iv⟩, k⟩ := h
  unfold itF at hi
  refine ⟨_, (pss_one (ps_ret (pe_tup (pa_cons (pe_fldU (K := e.K) (pv 0)) (pa_cons (pe_fldU (K := e.K) (pv 0)) (pa_cons (pe_fldU (K := e.K) (pv 0)) (pa_cons (pe_fldU (K := e.K) (pv 0)) (pa_cons (pe_fldU (K := e.K) (pv 0)) (pa_cons (pe_fldU (K := e.K) (pv 0)) (pa_cons (pe_fldU (K := e.K) (pv 0)) (pa_cons (pe_fldU (K := e.K) (pv 0)) (pa_cons (pe_fldU (K := e.K) (pv 0)) pa_nil)))))))))))), ?_⟩
  walk_at "go"
  rename_i p H' np sm hp
  have i2 := iv.mono (Gro.same sm)
  exact k p H' sm (.tup hp (.cons i2.t (.cons i2.s (.cons i2.r (.cons i2.l (.cons i2.v (.cons (.int _) (.cons (.int _) (.cons (.int _) (.cons i2.d .nil))))))))))
theorem use_Item_to_value {K : PySem.W.Frag} {a : Addr} {t : Tag} {x : Itm} {H : Hp} {Q : VK} {E : XK} (h : ItAt K H a t x) (k : ∀ p H', Same H H' → Dq H' (.ref p) (itmD t x) → Q (.ref p) H') : sp_Item_to_value K [.ref a] H Q E := ⟨a, t, x, rfl, h, k⟩

/-! ### item_of -/
abbrev s_item_of : Stmt := top 15
abbrev N_item_of : List Str := ["value"]
theorem sc_item_of : FnScope N_item_of ["value"] (defScope s_item_of) := ⟨rfl, rfl, rfl, by decide +kernel, rfl, by decide +kernel, by decide +kernel⟩
theorem bi_item_of : BindOk "item_of" s_item_of ["value"] := fun _ _ _ _ _ _ us hl => match us, hl with | [_], _ => rfl
def sp_item_of (K : PySem.W.Frag) : Sp := sp1 fun v H Q _ => ∃ t x, Dq H v (itmD t x) ∧ ∀ p H', H p = none → Same H H' → ItAt K H' p t x → Q (.ref p) H'
theorem ok_item_of {e : Wd} (D : DefAt e "item_of" s_item_of) (B : Bl e.mg) (c_Item___init__ : CanN e 1 (He.ga e.K "Item") "Item" ["self", "tag", "sender", "recipient", "lines", "via", "born", "tries", "due", "doubt"] (sp_Item___init__ e.K)) : Can e 3 "item_of" ["value"] (sp_item_of e.K) := by
  refine can_of D sc_item_of bi_item_of (fun _ _ _ _ h => sp1_len h) (fun cdv f A outer s H vs Q E hr h => ?_)
  obtain ⟨v0, rfl, h⟩ := sp1_ex h
  have nd := sc_item_of.nd
  obtain ⟨t, x, d, k⟩ := h
  obtain ⟨a, vt, vs, vr, vl, vv, vd, rfl, ha, iv⟩ := itm_at d
  refine ⟨_, (pss_one (ps_ret (pe_canN c_Item___init__ (hr.mono (by first | decide | omega)) passL (pa_cons (pe_ix (ix_U (K := e.K)) (pv 0) pe_int (fun _ _ => rfl)) (pa_cons (pe_ix (ix_U (K := e.K)) (pv 0) pe_int (fun _ _ => rfl)) (pa_cons (pe_ix (ix_U (K := e.K)) (pv 0) pe_int (fun _ _ => rfl)) (pa_cons (pe_ix (ix_U (K := e.K)) (pv 0) pe_int (fun _ _ => rfl)) (pa_cons (pe_ix (ix_U (K := e.K)) (pv 0) pe_int (fun _ _ => rfl)) (pa_cons (pe_ix (ix_U (K := e.K)) (pv 0) pe_int (fun _ _ => rfl)) (pa_cons (pe_ix (ix_U (K := e.K)) (pv 0) pe_int (fun _ _ => rfl)) (pa_cons (pe_ix (ix_U (K := e.K)) (pv 0) pe_int (fun _ _ => rfl)) (pa_cons (pe_ix (ix_U (K := e.K)) (pv 0) pe_int (fun _ _ => rfl)) pa_nil)))))))))))), ?_⟩
  have x5 : atI [vt, vs, vr, vl, vv, .int x.born, .int x.tries, .int x.due, vd] 5 = some (.int x.born) := atI_nat (j := 5) rfl
  have x6 : atI [vt, vs, vr, vl, vv, .int x.born, .int x.tries, .int x.due, vd] 6 = some (.int x.tries) := atI_nat (j := 6) rfl
  have x7 : atI [vt, vs, vr, vl, vv, .int x.born, .int x.tries, .int x.due, vd] 7 = some (.int x.due) := atI_nat (j := 7) rfl
  have x8 : atI [vt, vs, vr, vl, vv, .int x.born, .int x.tries, .int x.due, vd] 8 = some vd := atI_nat (j := 8) rfl
  walk_at "go"
  rename_i p H' np sm hi
  exact k p H' np sm ⟨_, _, _, _, _, _, hi, iv.mono (Gro.same sm)⟩
theorem use_item_of {K : PySem.W.Frag} {v : V} {t : Tag} {x : Itm} {H : Hp} {Q : VK} {E : XK} (h : Dq H v (itmD t x)) (k : ∀ p H', H p = none → Same H H' → ItAt K H' p t x → Q (.ref p) H') : sp_item_of K [v] H Q E := ⟨t, x, h, k⟩

/-! ### next_leg -/
abbrev s_next_leg : Stmt := top 16
abbrev N_next_leg : List Str := ["tag"]
theorem sc_next_leg : FnScope N_next_leg ["tag"] (defScope s_next_leg) := ⟨rfl, rfl, rfl, by decide +kernel, rfl, by decide +kernel, by decide +kernel⟩
theorem bi_next_leg : BindOk "next_leg" s_next_leg ["tag"] := fun _ _ _ _ _ _ us hl => match us, hl with | [_], _ => rfl
def sp_next_leg (K : PySem.W.Frag) : Sp := sp1 fun v H Q _ => ∃ t : Tag, Dq H v (tagD t) ∧ ∀ p H', H p = none → Same H H' → Dq H' (.ref p) (tagD (t.1, t.2.1, t.2.2 + 1)) → Q (.ref p) H'
theorem ok_next_leg {e : Wd} (D : DefAt e "next_leg" s_next_leg) (B : Bl e.mg) : Can e 1 "next_leg" ["tag"] (sp_next_leg e.K) := by
  refine can_of D sc_next_leg bi_next_leg (fun _ _ _ _ h => sp1_len h) (fun cdv f A outer s H vs Q E hr h => ?_)
  obtain ⟨v0, rfl, h⟩ := sp1_ex h
  have nd := sc_next_leg.nd
  obtain ⟨t, d, k⟩ := h
  obtain ⟨b, rfl, hb⟩ := d.tag
  refine ⟨_, (pss_one (ps_ret (pe_tup (pa_cons (pe_ix (ix_U (K := e.K)) (pv 0) pe_int (fun _ _ => rfl)) (pa_cons (pe_ix (ix_U (K := e.K)) (pv 0) pe_int (fun _ _ => rfl)) (pa_cons (pe_op (op_addU (K := e.K)) (pe_ix (ix_U (K := e.K)) (pv 0) pe_int (fun _ _ => rfl)) pe_int) pa_nil)))))), ?_⟩
  walk_at "go"
  rename_i p H' np sm hp
  exact k p H' np sm (mk_tag hp)
theorem use_next_leg {K : PySem.W.Frag} {v : V} {t : Tag} {H : Hp} {Q : VK} {E : XK} (h : Dq H v (tagD t)) (k : ∀ p H', H p = none → Same H H' → Dq H' (.ref p) (tagD (t.1, t.2.1, t.2.2 + 1)) → Q (.ref p) H') : sp_next_leg K [v] H Q E := ⟨t, h, k⟩

/-! ### State.__init__ -/
abbrev s_State___init__ : Stmt := inClass (top 17) 0
abbrev N_State___init__ : List Str := ["self", "domain"]
theorem sc_State___init__ : FnScope N_State___init__ ["self", "domain"] (defScope s_State___init__) := ⟨rfl, rfl, rfl, by decide +kernel, rfl, by decide +kernel, by decide +kernel⟩
theorem bi_State___init__ : BindQ "__init__" "State.__init__" s_State___init__ ["self", "domain"] := fun _ _ _ _ _ _ us hl => match us, hl with | [_, _], _ => rfl
def sp_State___init__ (K : PySem.W.Frag) : Sp := sp2 fun self d H Q _ => ∃ a z, self = .ref a ∧ d = .str z ∧ Ins H a (He.ga K "State") [] ∧ ∀ H' F, StA K H' (.ref a) F ⟨z, 0, 0, [], [], [], []⟩ → (∀ c o, H c = some o → c ≠ a → H' c = some o) → (∀ c ∈ F, c = a ∨ H c = none) → Q .non H'
theorem ok_State___init__ {e : Wd} (D : InitAt e (He.ga e.K "State") "State" "State.__init__" s_State___init__) (B : Bl e.mg) (kc_State : Cls e.K (He.ga e.K "State")) (kn_State_domain : NoAttr e.K (He.ga e.K "State") "domain") (kn_State_count : NoAttr e.K (He.ga e.K "State") "count") (kn_State_serial : NoAttr e.K (He.ga e.K "State") "serial") (kn_State_queue : NoAttr e.K (He.ga e.K "State") "queue") (kn_State_boxes : NoAttr e.K (He.ga e.K "State") "boxes") (kn_State_taken : NoAttr e.K (He.ga e.K "State") "taken") (kn_State_owed : NoAttr e.K (He.ga e.K "State") "owed") : CanN e 1 (He.ga e.K "State") "State" ["self", "domain"] (sp_State___init__ e.K) := by
  refine canN_of D sc_State___init__ bi_State___init__ (fun _ _ _ _ h => sp2_len h) (fun cdv f A outer s H vs Q E hr h => ?_)
  obtain ⟨v0, v1, rfl, h⟩ := sp2_ex h
  have nd := sc_State___init__.nd
  obtain ⟨a, z, rfl, rfl, hi, k⟩ := h
  refine ⟨_, (pss_cons (ps_fldU (K := e.K) (pv 0) (pv 1))
    (pss_cons (ps_fldU (K := e.K) (pv 0) pe_int)
    (pss_cons (ps_fldU (K := e.K) (pv 0) pe_int)
    (pss_cons (ps_fldU (K := e.K) (pv 0) pe_dnewT)
    (pss_cons (ps_fldU (K := e.K) (pv 0) pe_dnewK)
    (pss_cons (ps_fldU (K := e.K) (pv 0) pe_dnewT)
    (pss_one (ps_fldU (K := e.K) (pv 0) pe_dnewT)))))))), ?_⟩
  walk_at "go"
  rename_i H1 i1 f1 H2 i2 f2 H3 i3 f3 pq H4 n4 m4 h4 H5 i5 f5 pb H6 n6 m6 h6 H7 i7 f7 pt H8 n8 m8 h8 H9 i9 f9 po H10 n10 m10 h10 H11 i11 f11
  have fx : ∀ {o : HO}, (∀ C dx fs, o ≠ .ins C dx fs) → ∀ {c : Addr} {G G' : Hp}, Fput a G G' → G c = some o → G' c = some o := fun n _ _ _ f e => f.at_ e n
  have q5 : H5 pq = some (.dT []) := fx ndT.1 f5 h4
  have q7 : H7 pq = some (.dT []) := fx ndT.1 f7 (m6 _ _ q5)
  have q9 : H9 pq = some (.dT []) := fx ndT.1 f9 (m8 _ _ q7)
  have q11 : H11 pq = some (.dT []) := fx ndT.1 f11 (m10 _ _ q9)
  have b7 : H7 pb = some (.dK []) := fx ndK.1 f7 h6
  have b9 : H9 pb = some (.dK []) := fx ndK.1 f9 (m8 _ _ b7)
  have b11 : H11 pb = some (.dK []) := fx ndK.1 f11 (m10 _ _ b9)
  have t9 : H9 pt = some (.dT []) := fx ndT.1 f9 h8
  have t11 : H11 pt = some (.dT []) := fx ndT.1 f11 (m10 _ _ t9)
  have o11 : H11 po = some (.dT []) := fx ndT.1 f11 h10
  have st : StP e.K H11 a ⟨z, 0, 0, [], [], [], [], pq, pb, pt, po⟩ := ⟨i11, q11, b11, t11, o11, ne_of_none q7 n8, ne_of_none q9 n10, ne_of_none t9 n10, (fun _ h => absurd h List.not_mem_nil), (fun _ h => absurd h List.not_mem_nil), (fun _ h => absurd h List.not_mem_nil), (fun _ h => absurd h List.not_mem_nil), List.nodup_nil, List.nodup_nil, List.nodup_nil, List.nodup_nil⟩
  have z3 : ∀ {c : Addr}, H3 c = none → H c = none := fun n => f1.fresh i1 (f2.fresh i2 (f3.fresh i3 n))
  have z5 : ∀ {c : Addr}, H5 c = none → H c = none := fun n => z3 (Same.before m4 (f5.fresh i5 n))
  have z7 : ∀ {c : Addr}, H7 c = none → H c = none := fun n => z5 (Same.before m6 (f7.fresh i7 n))
  have z9 : ∀ {c : Addr}, H9 c = none → H c = none := fun n => z7 (Same.before m8 (f9.fresh i9 n))
  refine k H11 _ ⟨a, _, rfl, st, rfl, rfl⟩ (fun c o h n => ?_) fun c h => ?_
  · rw [f11.kp c n]
    refine m10 _ _ ?_
    rw [f9.kp c n]
    refine m8 _ _ ?_
    rw [f7.kp c n]
    refine m6 _ _ ?_
    rw [f5.kp c n]
    refine m4 _ _ ?_
    rw [f3.kp c n, f2.kp c n, f1.kp c n]
    exact h
  · rcases fp_cases h with rfl | rfl | rfl | rfl | rfl | ⟨e, he, _⟩ | ⟨e, he, _⟩
    · exact .inl rfl
    · exact .inr (z3 n4)
    · exact .inr (z5 n6)
    · exact .inr (z7 n8)
    · exact .inr (z9 n10)
    · exact absurd he List.not_mem_nil
    · exact absurd he List.not_mem_nil
theorem use_State {K : PySem.W.Frag} {z : Str} {H : Hp} {Q : VK} {E : XK} (k : ∀ x H' F, Same H H' → StA K H' (.ref x) F ⟨z, 0, 0, [], [], [], []⟩ → (∀ c ∈ F, H c = none) → Q (.ref x) H') : makeq (He.ga K "State") (sp_State___init__ K) E [.str z] H Q :=
  r_makev fun x H1 nx sm hi => ⟨x, z, rfl, rfl, hi, fun H2 F st kp nw => ⟨rfl, k x H2 F (fun c o e => kp c o (sm c o e) (ne_of_none e nx)) st fun c hc => (nw c hc).elim (fun z => z ▸ nx) fun z => Same.before sm z⟩⟩
local macro_rules | `(tactic| walk_at "call") => `(tactic| ((with_reducible refine' use_State ?_); intro x H' F sm st nw))

/-! ### State.create -/
abbrev s_State_create : Stmt := inClass (top 17) 1
abbrev N_State_create : List Str := ["self", "sender", "recipient", "lines", "via", "time", "tag"]
theorem sc_State_create : FnScope N_State_create ["self", "sender", "recipient", "lines", "via", "time"] (defScope s_State_create) := ⟨rfl, rfl, rfl, by decide +kernel, rfl, by decide +kernel, by decide +kernel⟩
theorem bi_State_create : BindQ "create" "State.create" s_State_create ["self", "sender", "recipient", "lines", "via", "time"] := fun _ _ _ _ _ _ us hl => match us, hl with | [_, _, _, _, _, _], _ => rfl
def sp_State_create (K : PySem.W.Frag) : Sp := sp6 fun self a1 a2 a3 a4 a5 H Q _ => ∃ F S snd r ls via t, StA K H self F S ∧ Dq H a1 (sndD snd) ∧ Dq H a2 (adrD r) ∧ Dq H a3 (sD ls) ∧ Dq H a4 (viaD via) ∧ a5 = .int t ∧ S.q.length ≤ 900000 ∧
  ∀ p H' F', StA K H' self F' (S.create snd r ls via t) → Chg F F' H H' → Dq H' (.ref p) (tagD S.tagN) → Q (.ref p) H'
theorem ok_State_create {e : Wd} (D : MethAt e (He.ga e.K "State") "create" "State.create" s_State_create) (B : Bl e.mg) (kc_State : Cls e.K (He.ga e.K "State")) (kn_State_serial : NoAttr e.K (He.ga e.K "State") "serial") (kn_State_domain : NoAttr e.K (He.ga e.K "State") "domain") (kn_State_queue : NoAttr e.K (He.ga e.K "State") "queue") (c_Item___init__ : CanN e 1 (He.ga e.K "Item") "Item" ["self", "tag", "sender", "recipient", "lines", "via", "born", "tries", "due", "doubt"] (sp_Item___init__ e.K)) : CanM e 3 (He.ga e.K "State") "create" ["self", "sender", "recipient", "lines", "via", "time"] (sp_State_create e.K) := by
  refine canM_of D sc_State_create bi_State_create (fun _ _ _ _ h => sp6_len h) (fun cdv f A outer s H vs Q E hr h => ?_)
  obtain ⟨v0, v1, v2, v3, v4, v5, rfl, h⟩ := sp6_ex h
  have nd := sc_State_create.nd
  obtain ⟨F, S, snd, r, ls, via, t, ⟨s, P, rfl, st, rfl, rfl⟩, d1, d2, d3, d4, rfl, hl, k⟩ := h
  have hi := st.ins
  unfold stF at hi
  have hl : P.q.length ≤ 900000 := by
    have e : P.abs.q.length = P.q.length := List.length_map _
    rw [← e]
    exact hl
  refine ⟨_, (pss_cons (ps_fldaugU (K := e.K) (pv 0) pe_int in_add)
    (pss_cons (ps_set (i := 6) nd rfl (by first | exact Or.inl rfl | exact Or.inr rfl) (pe_tup (pa_cons (pe_fldU (K := e.K) (pv 0)) (pa_cons (pe_fldU (K := e.K) (pv 0)) (pa_cons pe_int pa_nil)))))
    (pss_cons (ps_dput (hu_of hr) (pe_fldU (K := e.K) (pv 0)) (pv 6) (pe_canN c_Item___init__ (hr.mono (by first | decide | omega)) passL (pa_cons (pv 6) (pa_cons (pv 1) (pa_cons (pv 2) (pa_cons (pv 3) (pa_cons (pv 4) (pa_cons (pv 5) (pa_cons pe_int (pa_cons (pv 5) (pa_cons pe_non pa_nil)))))))))) (by rfl))
    (pss_one (ps_ret (pv 6)))))), ?_⟩
  walk_at "go"
  rename_i H1 i1 f1 pt H2 np m2 h2 x H3 nx m3 h3
  have st1 := st.fput (c := P.count) (n := P.serial + 1) f1 i1
  have st3 := st1.same (m2.trans m3)
  have g3 : Gro H H3 := f1.gro.trans (Gro.same (m2.trans m3))
  have dt3 : Dq H3 (.ref pt) (tagD P.abs.tagN) := mk_tag (t := P.abs.tagN) (m3 _ _ h2)
  have it : ItAt e.K H3 x P.abs.tagN ⟨snd, r, ls, via, t, 0, t, none⟩ := ⟨_, _, _, _, _, _, h3, dt3, d1.mono g3, d2.mono g3, d3.mono g3, d4.mono g3, .non⟩
  have nx1 : H1 x = none := Same.before m2 nx
  refine r_dputT (g := refI) (x := (x, ⟨snd, r, ls, via, t, 0, t, none⟩)) st3.q (by show P.q.length < 1000000; omega) dt3 rfl fun H4 h4 k4 => ?_
  have st4 := st3.addQ (p := x) (fun e he z => by
    obtain ⟨u, e1, _⟩ := (st1.its e he).there
    rw [z, nx1] at e1
    cases e1) it h4 k4
  have c3 : Chg (P.fp s) (P.fp s) H H3 := (f1.chg fp_s).snd (m2.trans m3)
  have c4 : Chg (P.fp s) (P.fp s) H H4 := c3.trans (mt_chg (mt_dT st3.q) k4 fp_q)
  walk_at "go"
  refine k pt H4 _ ⟨s, _, rfl, st4, rfl, ?_⟩ (c4.to fun b hb => (fp_addQ b hb).elim .inl fun z => .inr (by rw [z]; exact f1.fresh i1 nx1)) (dt3.mono (gro_mt (mt_dT st3.q) k4))
  rw [abs_addQ]
  rfl
theorem use_create {K : PySem.W.Frag} {self a1 a2 a3 a4 : V} {F : List Addr} {S : Sx} {snd : Option Adr} {r : Adr} {ls : List Str} {via : List Adr} {t : Int} {H : Hp} {Q : VK} {E : XK} (h1 : StA K H self F S) (h2 : Dq H a1 (sndD snd)) (h3 : Dq H a2 (adrD r)) (h4 : Dq H a3 (sD ls)) (h5 : Dq H a4 (viaD via)) (h6 : S.q.length ≤ 900000)
    (k : ∀ p H' F', StA K H' self F' (S.create snd r ls via t) → Chg F F' H H' → Dq H' (.ref p) (tagD S.tagN) → Q (.ref p) H') : sp_State_create K [self, a1, a2, a3, a4, .int t] H Q E := ⟨F, S, snd, r, ls, via, t, h1, h2, h3, h4, h5, rfl, h6, k⟩

/-! ### State.traced -/
abbrev s_State_traced : Stmt := inClass (top 17) 2
abbrev N_State_traced : List Str := ["self", "lines"]
theorem sc_State_traced : FnScope N_State_traced ["self", "lines"] (defScope s_State_traced) := ⟨rfl, rfl, rfl, by decide +kernel, rfl, by decide +kernel, by decide +kernel⟩
theorem bi_State_traced : BindQ "traced" "State.traced" s_State_traced ["self", "lines"] := fun _ _ _ _ _ _ us hl => match us, hl with | [_, _], _ => rfl
def sp_State_traced (K : PySem.W.Frag) : Sp := sp2 fun self l H Q _ => ∃ F S ls, StA K H self F S ∧ Dq H l (sD ls) ∧ S.dom.length ≤ 100000 ∧ ls.length ≤ 100000 ∧ ∀ p H', Same H H' → Dq H' (.ref p) (sD (S.tr ls)) → Q (.ref p) H'
theorem ok_State_traced {e : Wd} (D : MethAt e (He.ga e.K "State") "traced" "State.traced" s_State_traced) (B : Bl e.mg) (kc_State : Cls e.K (He.ga e.K "State")) (kn_State_domain : NoAttr e.K (He.ga e.K "State") "domain") (c_trace : Can e 1 "trace" ["domain"] (sp_trace e.K)) : CanM e 2 (He.ga e.K "State") "traced" ["self", "lines"] (sp_State_traced e.K) := by
  refine canM_of D sc_State_traced bi_State_traced (fun _ _ _ _ h => sp2_len h) (fun cdv f A outer s H vs Q E hr h => ?_)
  obtain ⟨v0, v1, rfl, h⟩ := sp2_ex h
  have nd := sc_State_traced.nd
  obtain ⟨F, S, ls, ⟨s, P, rfl, st, rfl, rfl⟩, d, hd, hl, k⟩ := h
  obtain ⟨t, rfl, ht⟩ := sD_at d
  have hd : P.dom.length ≤ 100000 := hd
  have hi := st.ins
  unfold stF at hi
  refine ⟨_, (pss_one (ps_ret (pe_op (op_addU (K := e.K)) (pe_tup (pa_cons (pe_can c_trace (hr.mono (by first | decide | omega)) passL (pa_cons (pe_fldU (K := e.K) (pv 0)) pa_nil)) pa_nil)) (pv 1)))), ?_⟩
  walk_at "go"
  rename_i q H1 nq m1 h1 p H2 m2 h2
  exact k p H2 (m1.trans m2) (.tup h2 (Dqs.strs ((trS ++ P.dom) :: ls)))
theorem use_traced {K : PySem.W.Frag} {self l : V} {F : List Addr} {S : Sx} {ls : List Str} {H : Hp} {Q : VK} {E : XK} (h1 : StA K H self F S) (h2 : Dq H l (sD ls)) (h3 : S.dom.length ≤ 100000) (h4 : ls.length ≤ 100000) (k : ∀ p H', Same H H' → Dq H' (.ref p) (sD (S.tr ls)) → Q (.ref p) H') : sp_State_traced K [self, l] H Q E := ⟨F, S, ls, h1, h2, h3, h4, k⟩

/-! ### State.expand -/
abbrev s_State_expand : Stmt := inClass (top 17) 3
abbrev N_State_expand : List Str := ["self", "tag", "owner", "members", "time", "item", "sender", "via", "member"]
theorem sc_State_expand : FnScope N_State_expand ["self", "tag", "owner", "members", "time"] (defScope s_State_expand) := ⟨rfl, rfl, rfl, by decide +kernel, rfl, by decide +kernel, by decide +kernel⟩
theorem bi_State_expand : BindQ "expand" "State.expand" s_State_expand ["self", "tag", "owner", "members", "time"] := fun _ _ _ _ _ _ us hl => match us, hl with | [_, _, _, _, _], _ => rfl
def sp_State_expand (K : PySem.W.Frag) : Sp := sp5 fun self a1 a2 a3 a4 H Q _ => ∃ F S t x own ms tm, StA K H self F S ∧ Dq H a1 (tagD t) ∧ Dq H a2 (sndD own) ∧ Dq H a3 (viaD ms) ∧ a4 = .int tm ∧ getA S.q t = some x ∧ S.q.length ≤ 400000 ∧ ms.length ≤ 400000 ∧ x.via.length ≤ 400000 ∧
  ∀ p ys H' F', StA K H' self F' ((S.pop t).creates (ownM own x.snd) x.ls (x.via ++ [x.rcp]) tm ms) → Chg F (p :: F') H H' → p ∉ F' → H' p = some (.lst ys) → TgL H' ys (S.tagsN ms.length) → Q (.ref p) H'
theorem ok_State_expand {e : Wd} (D : MethAt e (He.ga e.K "State") "expand" "State.expand" s_State_expand) (B : Bl e.mg) (kc_Item : Cls e.K (He.ga e.K "Item")) (kc_State : Cls e.K (He.ga e.K "State")) (kn_State_queue : NoAttr e.K (He.ga e.K "State") "queue") (kn_Item_sender : NoAttr e.K (He.ga e.K "Item") "sender") (kn_Item_via : NoAttr e.K (He.ga e.K "Item") "via") (kn_Item_recipient : NoAttr e.K (He.ga e.K "Item") "recipient") (kn_Item_lines : NoAttr e.K (He.ga e.K "Item") "lines") (c_State_create : CanM e 3 (He.ga e.K "State") "create" ["self", "sender", "recipient", "lines", "via", "time"] (sp_State_create e.K)) : CanM e 4 (He.ga e.K "State") "expand" ["self", "tag", "owner", "members", "time"] (sp_State_expand e.K) := by
  refine canM_of D sc_State_expand bi_State_expand (fun _ _ _ _ h => sp5_len h) (fun cdv f A outer s H vs Q E hr h => ?_)
  obtain ⟨v0, v1, v2, v3, v4, rfl, h⟩ := sp5_ex h
  have nd := sc_State_expand.nd
  obtain ⟨F, S, t, x, own, ms, tm, ⟨s, P, rfl, st, rfl, rfl⟩, d1, d2, d3, rfl, hx, hl, hm, hv, k⟩ := h
  obtain ⟨p, hp⟩ := abs_some hx
  have hi := st.ins
  unfold stF at hi
  have hq := st.q
  obtain ⟨vt, vs, vr, vl, vv, vd, hit, iv⟩ := st.q_at hp
  unfold itF at hit
  obtain ⟨va, vxs, rfl, hva, dva⟩ := via_at iv.v
  obtain ⟨m3, mxs, rfl, hm3, dm3⟩ := via_at d3
  have lva := dva.len_map
  have lms := dm3.len_map
  refine ⟨_, (pss_cons (ps_set (i := 5) nd rfl (by first | exact Or.inl rfl | exact Or.inr rfl) (pe_dpopU (hu_of hr) (pe_fldU (K := e.K) (pv 0)) (pv 1) ⟨by rfl, by rfl, by rfl, by rfl⟩))
    (pss_cons (ps_set (i := 6) nd rfl (by first | exact Or.inl rfl | exact Or.inr rfl) (pe_fldU (K := e.K) (pv 5)))
    (Evl.pss_cut (ps_if (PW.pt (pw_and (pt_cmpR op_isNotU (pv 2) pe_non (nomark _)) (pw_and1 (pt_cmpR op_isNotU (pv 6) pe_non (nomark _))))) (pss_one (ps_set (i := 6) nd rfl (by first | exact Or.inl rfl | exact Or.inr rfl) (pv 2))) pss_nil)
    (pss_cons (ps_set (i := 7) nd rfl (by first | exact Or.inl rfl | exact Or.inr rfl) (pe_op (op_addU (K := e.K)) (pe_fldU (K := e.K) (pv 5)) (pe_tup (pa_cons (pe_fldU (K := e.K) (pv 5)) pa_nil))))
    (pss_one (ps_ret (pe_lc (own := [("member", 8)]) (tt := tYes) rfl nd (pi_U (K := e.K) (pv 3)) (blkOk_by (N := N_State_expand) (sc := defScope s_State_expand) (by decide +kernel)) (fun _ _ _ _ _ => (pg_name (i := 8) nd rfl (by first | exact Or.inl rfl | exact Or.inr rfl))) (fun _ _ _ _ _ => pts_nil) (fun _ _ _ _ _ => (pe_canM c_State_create (hr.mono (by first | decide | omega)) passL (pv 0) (pa_cons (pv 6) (pa_cons (pv 8) (pa_cons (pe_fldU (K := e.K) (pv 5)) (pa_cons (pv 7) (pa_cons (pv 4) pa_nil)))))))))))))), ?_⟩
  walk_at "go"
  rename_i H1 h1 k1
  have g1 : Gro H H1 := gro_mt (mt_dT st.q) k1
  have st1 := st.delQ h1 k1
  have hit1 := Ins.mono (H' := H1) hit fun o z => by rw [show H1 p = H p from k1 _ (st.d_i st.q ndT.1 (getA_mem hp))]; exact z
  have np := fp_popped (s := s) st hp
  have c1 : Chg (P.fp s) (({ P with q := delA P.q t } : Pst).fp s) H H1 := (mt_chg (mt_dT st.q) k1 fp_q).to fun b hb => .inl (fp_delQ b hb)
  have hva1 := g1.tup _ _ hva
  have hm31 := g1.tup _ _ hm3
  clear hi hq hit
  show fldq e.K _ (V.ref p) H1 _
  walk_at "go"
  refine r_cut (fun σ' H' => H' = H1 ∧ ∃ w, σ' = [some (.ref s), some v1, some v2, some (.ref m3), some (.int tm), some (.ref p), some w, none, none] ∧ Dq H1 w (sndD (ownM own x.snd))) ?_ ?_
  · have ivs := iv.s
    cases own with
    | none =>
      cases d2
      walk_at "go"
      exact ⟨rfl, vs, rfl, by rw [show ownM none x.snd = x.snd from by cases x.snd <;> rfl]; exact ivs.mono g1⟩
    | some o =>
      obtain ⟨o1, rfl, ho1⟩ := adr_at d2
      cases hxs : x.snd with
      | none =>
        rw [hxs] at ivs
        cases ivs
        walk_at "go"
        exact ⟨rfl, .non, rfl, .non⟩
      | some z =>
        rw [hxs] at ivs
        obtain ⟨o2, rfl, ho2⟩ := adr_at ivs
        walk_at "go"
        exact ⟨rfl, .ref o1, rfl, d2.mono g1⟩
  · rintro σ' H' ⟨rfl, w, rfl, dw⟩
    walk_at "go"
    rename_i qv Hq nq mq hqv pv H2 mr hv2
    have m2 := mq.trans mr
    have dv2 : Dq H2 (.ref pv) (viaD (x.via ++ [x.rcp])) := by
      refine .tup hv2 ?_
      rw [List.map_append]
      exact ((dva.mono g1).app (.cons (iv.r.mono g1) .nil)).mono (Gro.same m2)
    have g2 : Gro H H2 := g1.trans (Gro.same m2)
    have hm32 := g2.tup _ _ hm3
    have c2 := c1.snd m2
    have sa2 : StA e.K H2 (.ref s) _ (P.abs.pop t) := ⟨s, _, rfl, st1.same m2, rfl, abs_delQ.symm⟩
    have hit2 := hit1.same m2
    have dvl2 := iv.l.mono g2
    have dw2 := dw.mono (Gro.same m2)
    have dms2 := dm3.mono g2
    have len0 : (P.abs.pop t).q.length ≤ 400000 := Nat.le_trans (len_del _ _) hl
    generalize hS0 : P.abs.pop t = S0 at sa2 len0
    generalize hF0 : ({ P with q := delA P.q t } : Pst).fp s = F0 at sa2 c2 np
    refine lc_TG hm32 (fun D i ys H' => ∃ F', StA e.K H' (.ref s) F' (S0.creates (ownM own x.snd) x.ls (x.via ++ [x.rcp]) tm (ms.take i)) ∧ Chg F0 F' H2 H' ∧ D ∉ F' ∧ TgL H' ys (S0.tagsN i)) (by omega) (fun _ => rfl) (fun D i ys H' ⟨F', _, c, _⟩ => c.gro.tup _ _ hm32) (fun D H' nD hD kD => ?_) (fun D i xx ys H4 Q1 hxx nD hD ⟨F', sa4, c4, nF, ty⟩ kk => ?_) (fun D H' ys nD hD ⟨F', sa4, c4, nF, ty⟩ => ?_)
    · have sm : Same H2 H' := fun b o z => by rw [kD b (ne_of_none z nD)]; exact z
      exact ⟨F0, sa2.same sm, Chg.same sm, sa2.new_out nD, .nil⟩
    · obtain ⟨r, hr1, dr⟩ := dms2.at_map hxx
      have hit4 := Ins.mono (H' := H4) hit2 fun o z => c4.kp _ _ z np
      obtain ⟨P4, hi4, _⟩ := sa4.mth
      unfold stF at hi4
      have hi1 : i ≤ ms.length := by
        have := (List.getElem?_eq_some_iff.mp hr1).1
        omega
      have lt : (ms.take i).length = i := by
        rw [List.length_take]
        omega
      walk_at "go"
      refine use_create sa4 (dw2.mono c4.gro) (dr.mono c4.gro) (dvl2.mono c4.gro) (dv2.mono c4.gro) (by
        have q := creates_len (snd := ownM own x.snd) (ls := x.ls) (via := x.via ++ [x.rcp]) (t := tm) (rs := ms.take i) (S := S0)
        omega) fun pt H5 F5 sa5 c5 dt => kk _ _ (c5.kp _ _ hD nF) fun H6 h6 k6 => ?_
      have nF5 : D ∉ F5 := c5.out hD nF
      have hD5 : H5 D = some (.lst ys) := c5.kp _ _ hD nF
      have g6 : Gro H5 H6 := gro_but hD5 k6
      have sa6 : StA e.K H6 (.ref s) F5 _ := StA.chg (mt_chg (F := [D]) (mt_lst hD5) k6 (List.mem_singleton.mpr rfl)) (dsj_one nF5) sa5
      refine ⟨F5, ?_, ⟨fun b o z n => ?_, fun b hb => ?_, (c4.gro.trans c5.gro).trans g6⟩, nF5, ?_⟩
      · rw [take_one hr1, creates_snoc]
        exact sa6
      · rw [k6 b (ne_of_none z nD)]
        exact (c4.trans c5).kp b o z n
      · exact (c4.trans c5).nw b hb
      · rw [tagsN_snoc]
        refine ((ty.mono c5.gro).mono g6).snoc ?_
        have e1 : (S0.creates (ownM own x.snd) x.ls (x.via ++ [x.rcp]) tm (ms.take i)).tagN = (S0.dom, S0.serial + 1 + i, 0) := by
          unfold Sx.tagN
          rw [creates_dom, creates_serial, lt]
          have e2 : S0.serial + (i : Int) + 1 = S0.serial + 1 + i := by omega
          rw [e2]
        rw [← e1]
        exact dt.mono g6
    · have lx : mxs.length = ms.length := lms
      rw [lx] at ty sa4
      rw [List.take_of_length_le (Nat.le_refl _)] at sa4
      subst hS0
      refine k D ys H' F' sa4 ⟨fun b o z n => (c2.trans c4).kp b o z n, fun b hb => ?_, (c2.trans c4).gro⟩ nF hD ty
      rcases List.mem_cons.mp hb with rfl | hb
      · cases e0 : H b with
        | none => exact .inr rfl
        | some o =>
          by_cases mm : b ∈ P.fp s
          · exact .inl mm
          · rw [c2.kp b o e0 mm] at nD
            cases nD
      · exact (c2.trans c4).nw b hb
theorem use_expand {K : PySem.W.Frag} {self a1 a2 a3 : V} {F : List Addr} {S : Sx} {t : Tag} {x : Itm} {own : Option Adr} {ms : List Adr} {tm : Int} {H : Hp} {Q : VK} {E : XK} (h1 : StA K H self F S) (h2 : Dq H a1 (tagD t)) (h3 : Dq H a2 (sndD own)) (h4 : Dq H a3 (viaD ms)) (h5 : getA S.q t = some x) (h6 : S.q.length ≤ 400000) (h7 : ms.length ≤ 400000) (h8 : x.via.length ≤ 400000)
    (k : ∀ p ys H' F', StA K H' self F' ((S.pop t).creates (ownM own x.snd) x.ls (x.via ++ [x.rcp]) tm ms) → Chg F (p :: F') H H' → p ∉ F' → H' p = some (.lst ys) → TgL H' ys (S.tagsN ms.length) → Q (.ref p) H') : sp_State_expand K [self, a1, a2, a3, .int tm] H Q E := ⟨F, S, t, x, own, ms, tm, h1, h2, h3, h4, rfl, h5, h6, h7, h8, k⟩

/-! ### State.bounce -/
abbrev s_State_bounce : Stmt := inClass (top 17) 4
abbrev N_State_bounce : List Str := ["self", "tag", "reason", "time", "item"]
theorem sc_State_bounce : FnScope N_State_bounce ["self", "tag", "reason", "time"] (defScope s_State_bounce) := ⟨rfl, rfl, rfl, by decide +kernel, rfl, by decide +kernel, by decide +kernel⟩
theorem bi_State_bounce : BindQ "bounce" "State.bounce" s_State_bounce ["self", "tag", "reason", "time"] := fun _ _ _ _ _ _ us hl => match us, hl with | [_, _, _, _], _ => rfl
def sp_State_bounce (K : PySem.W.Frag) : Sp := sp4 fun self a1 a2 a3 H Q _ => ∃ F S t x w tm, StA K H self F S ∧ Dq H a1 (tagD t) ∧ a2 = .str w ∧ a3 = .int tm ∧ getA S.q t = some x ∧ S.q.length ≤ 400000 ∧ S.dom.length ≤ 100000 ∧ w.length ≤ 1000000 ∧ x.rcp.1.length + 1 + x.rcp.2.length ≤ 1000000 ∧
  (x.snd = none → ∀ p H' F', StA K H' self F' (S.pop t) → Chg F (p :: F') H H' → p ∉ F' → H' p = some (.lst []) → Q (.ref p) H') ∧
  ∀ a, x.snd = some a → ∀ p y H' F', StA K H' self F' ((S.pop t).create none a (S.bounced x w) [] tm) → Chg F (p :: F') H H' → p ∉ F' → H' p = some (.lst [y]) → Dq H' y (tagD S.tagN) → Q (.ref p) H'
theorem ok_State_bounce {e : Wd} (D : MethAt e (He.ga e.K "State") "bounce" "State.bounce" s_State_bounce) (B : Bl e.mg) (kc_Item : Cls e.K (He.ga e.K "Item")) (kc_State : Cls e.K (He.ga e.K "State")) (kn_State_queue : NoAttr e.K (He.ga e.K "State") "queue") (kn_Item_sender : NoAttr e.K (He.ga e.K "Item") "sender") (kn_Item_recipient : NoAttr e.K (He.ga e.K "Item") "recipient") (c_State_create : CanM e 3 (He.ga e.K "State") "create" ["self", "sender", "recipient", "lines", "via", "time"] (sp_State_create e.K)) (c_State_traced : CanM e 2 (He.ga e.K "State") "traced" ["self", "lines"] (sp_State_traced e.K)) (c_report : Can e 2 "report" ["recipient", "reason"] (sp_report e.K)) : CanM e 4 (He.ga e.K "State") "bounce" ["self", "tag", "reason", "time"] (sp_State_bounce e.K) := by
  refine canM_of D sc_State_bounce bi_State_bounce (fun _ _ _ _ h => sp4_len h) (fun cdv f A outer s H vs Q E hr h => ?_)
  obtain ⟨v0, v1, v2, v3, rfl, h⟩ := sp4_ex h
  have nd := sc_State_bounce.nd
  obtain ⟨F, S, t, x, w, tm, ⟨s, P, rfl, st, rfl, rfl⟩, d1, rfl, rfl, hx, hl, hd, hw, hr2, k1, k2⟩ := h
  obtain ⟨p, hp⟩ := abs_some hx
  have hi := st.ins
  unfold stF at hi
  have hq := st.q
  obtain ⟨vt, vs, vr, vl, vv, vd, hit, iv⟩ := st.q_at hp
  unfold itF at hit
  refine ⟨_, (pss_cons (ps_set (i := 4) nd rfl (by first | exact Or.inl rfl | exact Or.inr rfl) (pe_dpopU (hu_of hr) (pe_fldU (K := e.K) (pv 0)) (pv 1) ⟨by rfl, by rfl, by rfl, by rfl⟩))
    (pss_cons (ps_if (pt_cmpR op_isU (pe_fldU (K := e.K) (pv 4)) pe_non (nomark _)) (pss_one (ps_ret (pe_lst pa_nil))) pss_nil)
    (pss_one (ps_ret (pe_lst (pa_cons (pe_canM c_State_create (hr.mono (by first | decide | omega)) passL (pv 0) (pa_cons pe_non (pa_cons (pe_fldU (K := e.K) (pv 4)) (pa_cons (pe_canM c_State_traced (hr.mono (by first | decide | omega)) passL (pv 0) (pa_cons (pe_can c_report (hr.mono (by first | decide | omega)) passL (pa_cons (pe_fldU (K := e.K) (pv 4)) (pa_cons (pv 2) pa_nil))) pa_nil)) (pa_cons (pe_tup pa_nil) (pa_cons (pv 3) pa_nil)))))) pa_nil)))))), ?_⟩
  walk_at "go"
  rename_i H1 h1 kk
  have g1 : Gro H H1 := gro_mt (mt_dT st.q) kk
  have st1 := st.delQ h1 kk
  have hit1 := Ins.mono (H' := H1) hit fun o z => by rw [show H1 p = H p from kk _ (st.d_i st.q ndT.1 (getA_mem hp))]; exact z
  have np := fp_popped (s := s) st hp
  have c1 : Chg (P.fp s) (({ P with q := delA P.q t } : Pst).fp s) H H1 := (mt_chg (mt_dT st.q) kk fp_q).to fun b hb => .inl (fp_delQ b hb)
  have sa1 : StA e.K H1 (.ref s) _ (P.abs.pop t) := ⟨s, _, rfl, st1, rfl, abs_delQ.symm⟩
  have hi1 := st1.ins
  unfold stF at hi1
  clear hi hq hit
  show fldq e.K _ (V.ref p) H1 _
  have ivs := iv.s
  cases hxs : x.snd with
  | none =>
    rw [hxs] at ivs
    cases ivs
    walk_at "go"
    rename_i D H2 nD m2 h2
    exact k1 hxs D H2 _ (sa1.same m2) (c1.newl nD m2) (sa1.new_out nD) h2
  | some a =>
    rw [hxs] at ivs
    obtain ⟨o2, rfl, ho2⟩ := adr_at ivs
    obtain ⟨o3, rfl, ho3⟩ := adr_at iv.r
    have ho31 := g1.tup _ _ ho3
    have hd1 : (P.abs.pop t).dom.length ≤ 100000 := hd
    walk_at "go"
    rename_i q H2 m2 h2
    have sa2 := sa1.same m2
    refine use_traced sa2 (.tup h2 (Dqs.strs _)) hd1 (by simp [reportM]) fun p2 H3 m3 d3 => ?_
    have sa3 := sa2.same m3
    have hi3 := (hi1.same m2).same m3
    have o23 := m3 _ _ (m2 _ _ (g1.tup _ _ ho2))
    walk_at "go"
    rename_i pe H4 n4 m4 h4
    refine use_create (snd := none) (sa3.same m4) .non (.tup (m4 _ _ o23) (.cons (.str _) (.cons (.str _) .nil))) (d3.mono (Gro.same m4)) (via := []) (.tup h4 .nil) (Nat.le_trans (len_del _ _) (by omega)) fun pt H5 F5 sa5 c5 dt => ?_
    walk_at "go"
    rename_i D H6 nD m6 h6
    exact k2 a hxs D (.ref pt) H6 F5 (sa5.same m6) ((((c1.snd m2).snd m3).snd m4).trans c5 |>.newl nD m6) (sa5.new_out nD) h6 (dt.mono (Gro.same m6))
theorem use_bounce {K : PySem.W.Frag} {self a1 : V} {w : Str} {F : List Addr} {S : Sx} {t : Tag} {x : Itm} {tm : Int} {H : Hp} {Q : VK} {E : XK} (h1 : StA K H self F S) (h2 : Dq H a1 (tagD t)) (h5 : getA S.q t = some x) (h6 : S.q.length ≤ 400000) (h7 : S.dom.length ≤ 100000) (h8 : w.length ≤ 1000000) (h9 : x.rcp.1.length + 1 + x.rcp.2.length ≤ 1000000)
    (k1 : x.snd = none → ∀ p H' F', StA K H' self F' (S.pop t) → Chg F (p :: F') H H' → p ∉ F' → H' p = some (.lst []) → Q (.ref p) H')
    (k2 : ∀ a, x.snd = some a → ∀ p y H' F', StA K H' self F' ((S.pop t).create none a (S.bounced x w) [] tm) → Chg F (p :: F') H H' → p ∉ F' → H' p = some (.lst [y]) → Dq H' y (tagD S.tagN) → Q (.ref p) H') : sp_State_bounce K [self, a1, .str w, .int tm] H Q E := ⟨F, S, t, x, w, tm, h1, h2, rfl, rfl, h5, h6, h7, h8, h9, k1, k2⟩

/-! ### State.box -/
abbrev s_State_box : Stmt := inClass (top 17) 6
abbrev N_State_box : List Str := ["self", "user"]
theorem sc_State_box : FnScope N_State_box ["self", "user"] (defScope s_State_box) := ⟨rfl, rfl, rfl, by decide +kernel, rfl, by decide +kernel, by decide +kernel⟩
theorem bi_State_box : BindQ "box" "State.box" s_State_box ["self", "user"] := fun _ _ _ _ _ _ us hl => match us, hl with | [_, _], _ => rfl
def sp_State_box (K : PySem.W.Frag) : Sp := sp2 fun self u H Q _ => ∃ s P z, self = .ref s ∧ u = .str z ∧ StP K H s P ∧ P.bx.length ≤ 900000 ∧
  ∀ p E G H' l, StP K H' s { P with bx := l } → Chg (P.fp s) (({ P with bx := l } : Pst).fp s) H H' → getA l z = some (p, E, G, P.abs.boxOf z) → (∀ B, (setA l z (p, E, G, B)).map (fun e => (e.1, e.2.2.2.2)) = setA P.abs.bx z B) → Q (.ref p) H'
theorem ok_State_box {e : Wd} (D : MethAt e (He.ga e.K "State") "box" "State.box" s_State_box) (B : Bl e.mg) (kc_State : Cls e.K (He.ga e.K "State")) (kn_State_boxes : NoAttr e.K (He.ga e.K "State") "boxes") (c_Box___init__ : CanN e 1 (He.ga e.K "Box") "Box" ["self"] (sp_Box___init__ e.K)) : CanM e 3 (He.ga e.K "State") "box" ["self", "user"] (sp_State_box e.K) := by
  refine canM_of D sc_State_box bi_State_box (fun _ _ _ _ h => sp2_len h) (fun cdv f A outer s H vs Q E hr h => ?_)
  obtain ⟨v0, v1, rfl, h⟩ := sp2_ex h
  have nd := sc_State_box.nd
  obtain ⟨s, P, z, rfl, rfl, st, hl, k⟩ := h
  have hi := st.ins
  unfold stF at hi
  have hb := st.b
  refine ⟨_, (pss_cons (ps_if (pt_cmp (pc_dnotin (hu_of hr) (pv 1) (pe_fldU (K := e.K) (pv 0)))) (pss_one (ps_dput (hu_of hr) (pe_fldU (K := e.K) (pv 0)) (pv 1) (pe_canN0 c_Box___init__ (hr.mono (by first | decide | omega)) passL) (by rfl))) pss_nil)
    (pss_one (ps_ret (pe_dget (hu_of hr) (pe_fldU (K := e.K) (pv 0)) (pv 1) (fun _ _ => rfl))))), ?_⟩
  walk_at "go"
  cases ez : getA P.bx z with
  | some y =>
    obtain ⟨p, E, G, B⟩ := y
    rw [if_neg (by simp [ez])]
    walk_at "go"
    refine k p E G H P.bx st (Chg.refl _ _) (by
      have e0 : getA P.abs.bx z = some B := by rw [abs_bx, ez] <;> rfl
      rw [ez, Sx.boxOf, e0] <;> rfl) fun B' => ?_
    exact setA_map (f := fun y : Addr × Addr × Addr × Bx => y.2.2.2)
  | none =>
    rw [if_pos (by simp [ez])]
    walk_at "go"
    rename_i p E G H1 np nE nG m1 b1
    have st1 := st.same m1
    refine r_dputK (g := refB) (x := (p, E, G, ⟨0, 0, [], []⟩)) st1.b (by omega) rfl fun H2 h2 k2 => ?_
    have new : ∀ w ∈ boxP p E G, H w = none := by
      intro w hw
      simp only [boxP, List.mem_cons, List.not_mem_nil, or_false] at hw
      rcases hw with rfl | rfl | rfl
      · exact np
      · exact nE
      · exact nG
    have st2 := st1.addB (p := p) (fun w hw hf => by
      obtain ⟨u, e1, _⟩ := st.there w hf
      rw [new w hw] at e1
      cases e1) b1 h2 k2
    have hi2 := st2.ins
    unfold stF at hi2
    have c2 : Chg (P.fp s) (P.fp s) H H2 := (Chg.same m1).trans (mt_chg (mt_dK st1.b) k2 fp_b)
    have ez2 : getA (setA P.bx z (p, E, G, (⟨0, 0, [], []⟩ : Bx))) z = some (p, E, G, ⟨0, 0, [], []⟩) := by rw [getA_set, if_pos rfl]
    walk_at "go"
    refine k p E G H2 _ st2 (c2.to fun b hb => (fp_addB b hb).elim .inl fun z => .inr (new b z)) (by
      have e0 : getA P.abs.bx z = none := by rw [abs_bx, ez] <;> rfl
      rw [ez2, Sx.boxOf, e0] <;> rfl) fun B' => ?_
    rw [set_set]
    exact setA_map (f := fun y : Addr × Addr × Addr × Bx => y.2.2.2)
theorem use_box {K : PySem.W.Frag} {s : Addr} {P : Pst} {z : Str} {H : Hp} {Q : VK} {E : XK} (h1 : StP K H s P) (h2 : P.bx.length ≤ 900000)
    (k : ∀ p E G H' l, StP K H' s { P with bx := l } → Chg (P.fp s) (({ P with bx := l } : Pst).fp s) H H' → getA l z = some (p, E, G, P.abs.boxOf z) → (∀ B, (setA l z (p, E, G, B)).map (fun e => (e.1, e.2.2.2.2)) = setA P.abs.bx z B) → Q (.ref p) H') : sp_State_box K [.ref s, .str z] H Q E := ⟨s, P, z, rfl, rfl, h1, h2, k⟩

/-! ### State.deliver -/
abbrev s_State_deliver : Stmt := inClass (top 17) 5
abbrev N_State_deliver : List Str := ["self", "tag", "user", "item"]
theorem sc_State_deliver : FnScope N_State_deliver ["self", "tag", "user"] (defScope s_State_deliver) := ⟨rfl, rfl, rfl, by decide +kernel, rfl, by decide +kernel, by decide +kernel⟩
theorem bi_State_deliver : BindQ "deliver" "State.deliver" s_State_deliver ["self", "tag", "user"] := fun _ _ _ _ _ _ us hl => match us, hl with | [_, _, _], _ => rfl
def sp_State_deliver (K : PySem.W.Frag) : Sp := sp3 fun self a1 a2 H Q _ => ∃ F S t x u, StA K H self F S ∧ Dq H a1 (tagD t) ∧ a2 = .str u ∧ getA S.q t = some x ∧ S.bx.length ≤ 400000 ∧ (S.boxOf u).es.length ≤ 100000 ∧
  ∀ p H' F', StA K H' self F' { S with q := delA S.q t, bx := setA S.bx u ((S.boxOf u).dlv x.ls) } → Chg F (p :: F') H H' → p ∉ F' → H' p = some (.lst []) → Q (.ref p) H'
theorem ok_State_deliver {e : Wd} (D : MethAt e (He.ga e.K "State") "deliver" "State.deliver" s_State_deliver) (B : Bl e.mg) (kc_Item : Cls e.K (He.ga e.K "Item")) (kc_State : Cls e.K (He.ga e.K "State")) (kn_State_queue : NoAttr e.K (He.ga e.K "State") "queue") (kn_Item_lines : NoAttr e.K (He.ga e.K "Item") "lines") (c_Box_deliver : CanM e 1 (He.ga e.K "Box") "deliver" ["self", "lines"] (sp_Box_deliver e.K)) (c_State_box : CanM e 3 (He.ga e.K "State") "box" ["self", "user"] (sp_State_box e.K)) : CanM e 4 (He.ga e.K "State") "deliver" ["self", "tag", "user"] (sp_State_deliver e.K) := by
  refine canM_of D sc_State_deliver bi_State_deliver (fun _ _ _ _ h => sp3_len h) (fun cdv f A outer s H vs Q E hr h => ?_)
  obtain ⟨v0, v1, v2, rfl, h⟩ := sp3_ex h
  have nd := sc_State_deliver.nd
  obtain ⟨F, S, t, x, u, ⟨s, P, rfl, st, rfl, rfl⟩, d1, rfl, hx, hl, he, k⟩ := h
  obtain ⟨p, hp⟩ := abs_some hx
  have hlb : P.bx.length ≤ 900000 := by
    have e : P.abs.bx.length = P.bx.length := List.length_map _
    omega
  have hi := st.ins
  unfold stF at hi
  have hq := st.q
  obtain ⟨vt, vs, vr, vl, vv, vd, hit, iv⟩ := st.q_at hp
  unfold itF at hit
  obtain ⟨tl', rfl, htl⟩ := sD_at iv.l
  refine ⟨_, (pss_cons (ps_set (i := 3) nd rfl (by first | exact Or.inl rfl | exact Or.inr rfl) (pe_dpopU (hu_of hr) (pe_fldU (K := e.K) (pv 0)) (pv 1) ⟨by rfl, by rfl, by rfl, by rfl⟩))
    (pss_cons (ps_expr (pe_canM c_Box_deliver (hr.mono (by first | decide | omega)) passL (pe_canM c_State_box (hr.mono (by first | decide | omega)) passL (pv 0) (pa_cons (pv 2) pa_nil)) (pa_cons (pe_fldU (K := e.K) (pv 3)) pa_nil)))
    (pss_one (ps_ret (pe_lst pa_nil))))), ?_⟩
  walk_at "go"
  rename_i H1 h1 kk
  have g1 : Gro H H1 := gro_mt (mt_dT st.q) kk
  have st1 := st.delQ h1 kk
  have hit1 := Ins.mono (H' := H1) hit fun o z => by rw [show H1 p = H p from kk _ (st.d_i st.q ndT.1 (getA_mem hp))]; exact z
  have np := fp_popped (s := s) st hp
  have c1 : Chg (P.fp s) (({ P with q := delA P.q t } : Pst).fp s) H H1 := (mt_chg (mt_dT st.q) kk fp_q).to fun b hb => .inl (fp_delQ b hb)
  have hi1 := st1.ins
  unfold stF at hi1
  clear hi hq hit
  walk_at "go"
  refine use_box st1 hlb fun bp E G H2 l st2 c2 hb ab => ?_
  have b2 := st2.b_at hb
  have hbi := b2.ins
  have hit2 := Ins.mono (H' := H2) hit1 fun o z => c2.kp _ _ z np
  have htl2 := c2.gro.tup _ _ (g1.tup _ _ htl)
  walk_at "go"
  refine use_deliver b2 htl2 he fun H3 b3 c3 => ?_
  have st3 := st2.box hb c3 b3
  have c13 := (c1.trans c2).trans (⟨fun b o e n => c3.kp b o e fun m => n (fp_x (e := (u, (bp, E, G, P.abs.boxOf u))) (getA_mem hb) m), fun b h => .inl (fp_box hb b h), c3.gro⟩ : Chg _ (({ ({ P with q := delA P.q t } : Pst) with bx := setA l u (bp, E, G, (P.abs.boxOf u).dlv x.ls) } : Pst).fp s) H2 H3)
  walk_at "go"
  rename_i D H4 nD m4 h4
  have sa3 : StA e.K H3 (.ref s) _ { P.abs with q := delA P.abs.q t, bx := setA P.abs.bx u ((P.abs.boxOf u).dlv x.ls) } := ⟨s, _, rfl, st3, rfl, by
    have e1 := ab ((P.abs.boxOf u).dlv x.ls)
    have e2 : (delA P.q t).map (fun e => (e.1, e.2.2)) = delA P.abs.q t := delA_map (f := fun y : Addr × Itm => y.2)
    show (⟨P.dom, P.count, P.serial, delA P.abs.q t, setA P.abs.bx u ((P.abs.boxOf u).dlv x.ls), P.tk, P.ow⟩ : Sx) = ⟨P.dom, P.count, P.serial, (delA P.q t).map (fun e => (e.1, e.2.2)), (setA l u (bp, E, G, (P.abs.boxOf u).dlv x.ls)).map (fun e => (e.1, e.2.2.2.2)), P.tk, P.ow⟩
    rw [e2]
    exact congrArg (fun z => (⟨P.dom, P.count, P.serial, delA P.abs.q t, z, P.tk, P.ow⟩ : Sx)) e1.symm⟩
  exact k D H4 _ (sa3.same m4) (c13.newl nD m4) (sa3.new_out nD) h4
theorem use_sdeliver {K : PySem.W.Frag} {self a1 : V} {F : List Addr} {S : Sx} {t : Tag} {x : Itm} {u : Str} {H : Hp} {Q : VK} {E : XK} (h1 : StA K H self F S) (h2 : Dq H a1 (tagD t)) (h5 : getA S.q t = some x) (h6 : S.bx.length ≤ 400000) (h7 : (S.boxOf u).es.length ≤ 100000)
    (k : ∀ p H' F', StA K H' self F' { S with q := delA S.q t, bx := setA S.bx u ((S.boxOf u).dlv x.ls) } → Chg F (p :: F') H H' → p ∉ F' → H' p = some (.lst []) → Q (.ref p) H') : sp_State_deliver K [self, a1, .str u] H Q E := ⟨F, S, t, x, u, h1, h2, rfl, h5, h6, h7, k⟩

/-! ### State.apply_to_queue -/
abbrev s_State_apply_to_queue : Stmt := inClass (top 17) 7
abbrev N_State_apply_to_queue : List Str := ["self", "event", "kind", "lines", "recipient", "name", "peer", "tag", "sender", "via", "time"]
theorem sc_State_apply_to_queue : FnScope N_State_apply_to_queue ["self", "event"] (defScope s_State_apply_to_queue) := ⟨rfl, rfl, rfl, by decide +kernel, rfl, by decide +kernel, by decide +kernel⟩
theorem bi_State_apply_to_queue : BindQ "apply_to_queue" "State.apply_to_queue" s_State_apply_to_queue ["self", "event"] := fun _ _ _ _ _ _ us hl => match us, hl with | [_, _], _ => rfl
def sp_State_apply_to_queue (K : PySem.W.Frag) : Sp := sp2 fun self ev H Q _ => ∃ F S e, StA K H self F S ∧ Dq H ev (evD e) ∧ e.isQ = true ∧ S.Fits e ∧ S.Lim ∧ e.Lim ∧
  ∀ p ys H' F', StA K H' self F' (S.act e).1 → Chg F (p :: F') H H' → p ∉ F' → H' p = some (.lst ys) → TgL H' ys (S.act e).2 → Q (.ref p) H'
theorem ok_State_apply_to_queue {e : Wd} (D : MethAt e (He.ga e.K "State") "apply_to_queue" "State.apply_to_queue" s_State_apply_to_queue) (B : Bl e.mg) (kc_State : Cls e.K (He.ga e.K "State")) (kn_State_queue : NoAttr e.K (He.ga e.K "State") "queue") (kn_State_taken : NoAttr e.K (He.ga e.K "State") "taken") (kn_State_owed : NoAttr e.K (He.ga e.K "State") "owed") (c_State_traced : CanM e 2 (He.ga e.K "State") "traced" ["self", "lines"] (sp_State_traced e.K)) (c_State_create : CanM e 3 (He.ga e.K "State") "create" ["self", "sender", "recipient", "lines", "via", "time"] (sp_State_create e.K)) (c_Item___init__ : CanN e 1 (He.ga e.K "Item") "Item" ["self", "tag", "sender", "recipient", "lines", "via", "born", "tries", "due", "doubt"] (sp_Item___init__ e.K)) (c_next_leg : Can e 1 "next_leg" ["tag"] (sp_next_leg e.K)) (c_State_expand : CanM e 4 (He.ga e.K "State") "expand" ["self", "tag", "owner", "members", "time"] (sp_State_expand e.K)) (c_State_bounce : CanM e 4 (He.ga e.K "State") "bounce" ["self", "tag", "reason", "time"] (sp_State_bounce e.K)) (c_State_deliver : CanM e 4 (He.ga e.K "State") "deliver" ["self", "tag", "user"] (sp_State_deliver e.K)) : CanM e 5 (He.ga e.K "State") "apply_to_queue" ["self", "event"] (sp_State_apply_to_queue e.K) := by
  refine canM_of D sc_State_apply_to_queue bi_State_apply_to_queue (fun _ _ _ _ h => sp2_len h) (fun cdv f A outer s H vs Q E hr h => ?_)
  obtain ⟨v0, v1, rfl, h⟩ := sp2_ex h
  have nd := sc_State_apply_to_queue.nd
  obtain ⟨F, S, ev, ⟨s, P, rfl, st, rfl, rfl⟩, d, isq, fit, lim, el, k⟩ := h
  have sa : StA e.K H (.ref s) (P.fp s) P.abs := ⟨s, P, rfl, st, rfl, rfl⟩
  have hi := st.ins
  unfold stF at hi
  have hdom := lim.dom
  have hql := lim.q
  have hqP : P.q.length ≤ 100000 := by
    have e : P.abs.q.length = P.q.length := List.length_map _
    omega
  have htP : P.tk.length ≤ 100000 := lim.tk
  have hoP : P.ow.length ≤ 100000 := lim.ow
  obtain ⟨pe, vs, rfl, he, ds⟩ := ev_at d
  refine ⟨_, (pss_cons (ps_set (i := 2) nd rfl (by first | exact Or.inl rfl | exact Or.inr rfl) (pe_ix (ix_U (K := e.K)) (pv 1) pe_int (fun _ _ => rfl)))
    (pss_cons (ps_if (pt_cmpR (op_eqU (K := e.K) hr) (pv 2) pe_str (nomark _)) (pss_cons (ps_set (i := 3) nd rfl (by first | exact Or.inl rfl | exact Or.inr rfl) (pe_canM c_State_traced (hr.mono (by first | decide | omega)) passL (pv 0) (pa_cons (pe_ix (ix_U (K := e.K)) (pv 1) pe_int (fun _ _ => rfl)) pa_nil)))
    (pss_one (ps_ret (pe_lc (own := [("recipient", 4)]) (tt := tYes) rfl nd (pi_U (K := e.K) (pe_ix (ix_U (K := e.K)) (pv 1) pe_int (fun _ _ => rfl))) (blkOk_by (N := N_State_apply_to_queue) (sc := defScope s_State_apply_to_queue) (by decide +kernel)) (fun _ _ _ _ _ => (pg_name (i := 4) nd rfl (by first | exact Or.inl rfl | exact Or.inr rfl))) (fun _ _ _ _ _ => pts_nil) (fun _ _ _ _ _ => (pe_canM c_State_create (hr.mono (by first | decide | omega)) passL (pv 0) (pa_cons (pe_ix (ix_U (K := e.K)) (pv 1) pe_int (fun _ _ => rfl)) (pa_cons (pv 4) (pa_cons (pv 3) (pa_cons (pe_tup pa_nil) (pa_cons (pe_ix (ix_U (K := e.K)) (pv 1) pe_int (fun _ _ => rfl)) pa_nil))))))))))) pss_nil)
    (pss_cons (ps_if (pt_cmpR (op_eqU (K := e.K) hr) (pv 2) pe_str (nomark _)) (pss_cons (ps_asg (pv 1) (pg_tupU (K := e.K) (n := 8) rfl (pgs_cons (pg_name (i := 5) nd rfl (by first | exact Or.inl rfl | exact Or.inr rfl)) (pgs_cons (pg_name (i := 6) nd rfl (by first | exact Or.inl rfl | exact Or.inr rfl)) (pgs_cons (pg_name (i := 7) nd rfl (by first | exact Or.inl rfl | exact Or.inr rfl)) (pgs_cons (pg_name (i := 8) nd rfl (by first | exact Or.inl rfl | exact Or.inr rfl)) (pgs_cons (pg_name (i := 4) nd rfl (by first | exact Or.inl rfl | exact Or.inr rfl)) (pgs_cons (pg_name (i := 9) nd rfl (by first | exact Or.inl rfl | exact Or.inr rfl)) (pgs_cons (pg_name (i := 3) nd rfl (by first | exact Or.inl rfl | exact Or.inr rfl)) (pgs_cons (pg_name (i := 10) nd rfl (by first | exact Or.inl rfl | exact Or.inr rfl)) pgs_nil))))))))))
    (pss_cons (ps_dput (hu_of hr) (pe_fldU (K := e.K) (pv 0)) (pv 7) (pe_canN c_Item___init__ (hr.mono (by first | decide | omega)) passL (pa_cons (pv 7) (pa_cons (pv 8) (pa_cons (pv 4) (pa_cons (pe_canM c_State_traced (hr.mono (by first | decide | omega)) passL (pv 0) (pa_cons (pv 3) pa_nil)) (pa_cons (pv 9) (pa_cons (pv 10) (pa_cons pe_int (pa_cons (pv 10) (pa_cons pe_non pa_nil)))))))))) (by rfl))
    (pss_cons (ps_dput (hu_of hr) (pe_fldU (K := e.K) (pv 0)) (pv 7) (pv 6) (by rfl))
    (pss_one (ps_ret (pe_lst (pa_cons (pv 7) pa_nil))))))) pss_nil)
    (pss_cons (ps_if (pt_cmpR (op_eqU (K := e.K) hr) (pv 2) pe_str (nomark _)) (pss_cons (ps_ddelU (hu_of hr) (pe_fldU (K := e.K) (pv 0)) (pe_ix (ix_U (K := e.K)) (pv 1) pe_int (fun _ _ => rfl)))
    (pss_cons (ps_dput (hu_of hr) (pe_fldU (K := e.K) (pv 0)) (pe_can c_next_leg (hr.mono (by first | decide | omega)) passL (pa_cons (pe_ix (ix_U (K := e.K)) (pv 1) pe_int (fun _ _ => rfl)) pa_nil)) (pe_ix (ix_U (K := e.K)) (pv 1) pe_int (fun _ _ => rfl)) (by rfl))
    (pss_one (ps_ret (pe_lst pa_nil))))) pss_nil)
    (pss_cons (ps_if (pt_cmpR (op_eqU (K := e.K) hr) (pv 2) pe_str (nomark _)) (pss_one (ps_ret (pe_canM c_State_expand (hr.mono (by first | decide | omega)) passL (pv 0) (pa_cons (pe_ix (ix_U (K := e.K)) (pv 1) pe_int (fun _ _ => rfl)) (pa_cons (pe_ix (ix_U (K := e.K)) (pv 1) pe_int (fun _ _ => rfl)) (pa_cons (pe_ix (ix_U (K := e.K)) (pv 1) pe_int (fun _ _ => rfl)) (pa_cons (pe_ix (ix_U (K := e.K)) (pv 1) pe_int (fun _ _ => rfl)) pa_nil))))))) pss_nil)
    (pss_cons (ps_if (pt_cmpR (op_eqU (K := e.K) hr) (pv 2) pe_str (nomark _)) (pss_one (ps_ret (pe_canM c_State_bounce (hr.mono (by first | decide | omega)) passL (pv 0) (pa_cons (pe_ix (ix_U (K := e.K)) (pv 1) pe_int (fun _ _ => rfl)) (pa_cons (pe_ix (ix_U (K := e.K)) (pv 1) pe_int (fun _ _ => rfl)) (pa_cons (pe_ix (ix_U (K := e.K)) (pv 1) pe_int (fun _ _ => rfl)) pa_nil)))))) pss_nil)
    (pss_one (ps_ret (pe_canM c_State_deliver (hr.mono (by first | decide | omega)) passL (pv 0) (pa_cons (pe_ix (ix_U (K := e.K)) (pv 1) pe_int (fun _ _ => rfl)) (pa_cons (pe_ix (ix_U (K := e.K)) (pv 1) pe_int (fun _ _ => rfl)) pa_nil))))))))))), ?_⟩
  cases ev with
  | doubt => cases isq
  | retry => cases isq
  | forgotten => cases isq
  | forget => cases isq
  | flag => cases isq
  | expunge => cases isq
  | submit snd rs ls tm =>
    obtain ⟨w1, _, rfl, e1, ds⟩ := dqs1 ds
    obtain ⟨w2, _, rfl, e2, ds⟩ := dqs1 ds
    obtain ⟨w3, _, rfl, e3, ds⟩ := dqs1 ds
    obtain ⟨w4, _, rfl, e4, ds⟩ := dqs1 ds
    cases dqs0 ds
    cases dq_int e4
    obtain ⟨tr, rxs, rfl, htr, drs⟩ := via_at e2
    have lrs := drs.len_map
    obtain ⟨el1, el2⟩ := el
    replace he : H pe = some (.tup [.str (Str.ofString "submit"), w1, .ref tr, w3, .int tm]) := he
    walk_at "god"
    refine use_traced sa e3 hdom el2 fun pl H1 m1 d1 => ?_
    have hi1 := hi.same m1
    walk_at "god"
    have htr1 := m1 _ _ htr
    refine lc_TG htr1 (CrI e.K s P.abs (P.fp s) H1 snd (P.abs.tr ls) [] tm rs) (by omega) (fun _ => rfl) (fun D i ys H' ⟨F', _, c, _⟩ => c.gro.tup _ _ htr1) (fun D H' nD hD kD => .init (sa.same m1) nD kD) (fun D i xx ys H4 Q1 hxx nD hD ⟨F', sa4, c4, nF, ty⟩ kk => ?_) (fun D H' ys nD hD iv => ?_)
    · have g4 : Gro H H4 := (Gro.same m1).trans c4.gro
      obtain ⟨r, hr1, dr⟩ := drs.at_map hxx
      obtain ⟨P4, hi4, _⟩ := sa4.mth
      unfold stF at hi4
      have hi1 : i ≤ rs.length := by
        have := (List.getElem?_eq_some_iff.mp hr1).1
        omega
      have he4 := g4.tup _ _ he
      walk_at "go"
      rename_i t5 H5 n5 m5 h5
      refine use_create (via := []) (sa4.same m5) ((e1.mono g4).mono (Gro.same m5)) ((dr.mono g4).mono (Gro.same m5)) ((d1.mono c4.gro).mono (Gro.same m5)) (.tup h5 .nil) (by
        have q := CrI.len (S0 := P.abs) (snd := snd) (ls := P.abs.tr ls) (via := []) (tm := tm) hi1
        omega) fun pt H6 F6 sa6 c6 dt => kk _ _ (c6.kp _ _ (m5 _ _ hD) nF) fun H7 h7 k7 => ?_
      exact CrI.step nD (m5 _ _ hD) (sa4.same m5) (c4.snd m5) nF (ty.mono (Gro.same m5)) hr1 sa6 c6 dt h7 k7
    · obtain ⟨F', a1, a2, a3, a4⟩ := CrI.fin lrs nD (Chg.same m1) iv
      exact k D ys H' F' a1 a2 a3 hD a4
  | take peer tag snd r via ls tm =>
    obtain ⟨w1, _, rfl, e1, ds⟩ := dqs1 ds
    obtain ⟨w2, _, rfl, e2, ds⟩ := dqs1 ds
    obtain ⟨w3, _, rfl, e3, ds⟩ := dqs1 ds
    obtain ⟨w4, _, rfl, e4, ds⟩ := dqs1 ds
    obtain ⟨w5, _, rfl, e5, ds⟩ := dqs1 ds
    obtain ⟨w6, _, rfl, e6, ds⟩ := dqs1 ds
    obtain ⟨w7, _, rfl, e7, ds⟩ := dqs1 ds
    cases dqs0 ds
    cases dq_str e1
    cases dq_int e7
    replace he : H pe = some (.tup [.str (Str.ofString "take"), .str peer, w2, w3, w4, w5, w6, .int tm]) := he
    walk_at "god"
    refine use_traced sa e6 hdom el fun pl H1 m1 d1 => ?_
    have st1 := st.same m1
    have hi1 := hi.same m1
    walk_at "god"
    rename_i x H2 nx m2 hi2
    have st2 := st1.same m2
    have m12 := m1.trans m2
    have g2 : Gro H H2 := Gro.same m12
    have it : ItAt e.K H2 x tag ⟨snd, r, P.abs.tr ls, via, tm, 0, tm, none⟩ := ⟨w2, w3, w4, .ref pl, w5, .non, hi2, ⟨e2.mono g2, e3.mono g2, e4.mono g2, d1.mono (Gro.same m2), e5.mono g2, .non⟩⟩
    have nx0 : H x = none := Same.before m1 nx
    refine r_dputT (g := refI) (x := (x, ⟨snd, r, P.abs.tr ls, via, tm, 0, tm, none⟩)) st2.q (by omega) (e2.mono g2) rfl fun H3 h3 k3 => ?_
    have st3 := st2.addQ (p := x) (fun ee hee z => by
      obtain ⟨u, q1, _⟩ := (st.its ee hee).there
      rw [z, nx0] at q1
      cases q1) it h3 k3
    have g3 : Gro H H3 := g2.trans (gro_mt (mt_dT st2.q) k3)
    have hi3 := st3.ins
    unfold stF at hi3
    clear hi1
    walk_at "god"
    refine r_dputT (g := V.str) (x := peer) st3.t (by show P.tk.length < 1000000; omega) (e2.mono g3) rfl fun H4 h4 k4 => ?_
    have sa4 := StA.putT st3 h4 k4 (nodup_set st3.nt)
    have g4 : Gro H H4 := g3.trans (gro_mt (mt_dT st3.t) k4)
    have c4 : Chg (P.fp s) (P.fp s) H H4 := ((Chg.same m12).trans (mt_chg (mt_dT st2.q) k3 fp_q)).trans (mt_chg (mt_dT st3.t) k4 fp_t)
    walk_at "god"
    rename_i D H5 nD m5 h5
    refine k D [w2] H5 _ ?_ ((c4.to fun b hb => (fp_addQ b hb).elim .inl fun z => .inr (by rw [z]; exact nx0)).newl nD m5) (sa4.new_out nD) h5 (TgL.snoc (vs := []) (ts := []) .nil ((e2.mono g4).mono (Gro.same m5)))
    have sa5 := sa4.same m5
    rw [abs_addQ] at sa5
    exact sa5
  | passed tag h =>
    obtain ⟨w1, _, rfl, e1, ds⟩ := dqs1 ds
    obtain ⟨w2, _, rfl, e2, ds⟩ := dqs1 ds
    cases dqs0 ds
    cases dq_str e2
    obtain ⟨x, hx⟩ := Option.isSome_iff_exists.mp fit
    obtain ⟨px, hp⟩ := abs_some hx
    have hq := st.q
    replace he : H pe = some (.tup [.str (Str.ofString "passed"), w1, .str h]) := he
    walk_at "god"
    rename_i H1 h1 k1
    have g1 : Gro H H1 := gro_mt (mt_dT st.q) k1
    have st1 := st.delQ h1 k1
    have hi1 := st1.ins
    unfold stF at hi1
    have he1 := g1.tup _ _ he
    clear hi hq
    walk_at "god"
    refine use_next_leg (e1.mono g1) fun pn H2 nn m2 dn => ?_
    have st2 := st1.same m2
    refine r_dputT (g := V.str) (x := h) st2.o (by show P.ow.length < 1000000; omega) dn rfl fun H3 h3 k3 => ?_
    have sa3 := StA.putO st2 h3 k3 (nodup_set st2.no)
    have c3 : Chg (P.fp s) (({ P with q := delA P.q tag } : Pst).fp s) H H3 := (((mt_chg (mt_dT st.q) k1 fp_q).snd m2).trans (mt_chg (mt_dT st2.o) k3 fp_o)).to fun b hb => .inl (fp_delQ b hb)
    walk_at "god"
    rename_i D H5 nD m5 h5
    refine k D [] H5 _ ?_ (c3.newl nD m5) (sa3.new_out nD) h5 .nil
    have sa5 := sa3.same m5
    rw [abs_delQ] at sa5
    exact sa5
  | deliver tag u =>
    obtain ⟨w1, _, rfl, e1, ds⟩ := dqs1 ds
    obtain ⟨w2, _, rfl, e2, ds⟩ := dqs1 ds
    cases dqs0 ds
    cases dq_str e2
    replace he : H pe = some (.tup [.str (Str.ofString "deliver"), w1, .str u]) := he
    walk_at "god"
    obtain ⟨x, hx⟩ := Option.isSome_iff_exists.mp fit
    refine use_sdeliver sa e1 hx (by have := lim.bx; omega) lim.box fun D H' F' a1 a2 a3 a4 => ?_
    have ea : P.abs.act (.deliver tag u) = ({ P.abs with q := delA P.abs.q tag, bx := setA P.abs.bx u ((P.abs.boxOf u).dlv x.ls) }, []) := by simp only [Sx.act, hx]
    rw [ea] at k
    exact k D [] H' F' a1 a2 a3 a4 .nil
  | bounce tag w tm =>
    obtain ⟨w1, _, rfl, e1, ds⟩ := dqs1 ds
    obtain ⟨w2, _, rfl, e2, ds⟩ := dqs1 ds
    obtain ⟨w3, _, rfl, e3, ds⟩ := dqs1 ds
    cases dqs0 ds
    cases dq_str e2
    cases dq_int e3
    replace he : H pe = some (.tup [.str (Str.ofString "bounce"), w1, .str w, .int tm]) := he
    walk_at "god"
    obtain ⟨x, hx⟩ := Option.isSome_iff_exists.mp fit
    have li : x.ls.length ≤ 100000 ∧ x.via.length ≤ 100000 ∧ x.rcp.1.length + 1 + x.rcp.2.length ≤ 1000000 := lim.it _ (getA_mem hx)
    refine use_bounce sa e1 hx (by omega) hdom el li.2.2 (fun hn D H' F' a1 a2 a3 a4 => ?_) fun a ha D y H' F' a1 a2 a3 a4 a5 => ?_
    · have ea : P.abs.act (.bounce tag w tm) = (P.abs.pop tag, []) := by simp only [Sx.act, hx, hn]
      rw [ea] at k
      exact k D [] H' F' a1 a2 a3 a4 .nil
    · have ea : P.abs.act (.bounce tag w tm) = ((P.abs.pop tag).create none a (P.abs.bounced x w) [] tm, [P.abs.tagN]) := by simp only [Sx.act, hx, ha]
      rw [ea] at k
      exact k D [y] H' F' a1 a2 a3 a4 (TgL.snoc (vs := []) (ts := []) .nil a5)
  | expand tag own ms tm =>
    obtain ⟨w1, _, rfl, e1, ds⟩ := dqs1 ds
    obtain ⟨w2, _, rfl, e2, ds⟩ := dqs1 ds
    obtain ⟨w3, _, rfl, e3, ds⟩ := dqs1 ds
    obtain ⟨w4, _, rfl, e4, ds⟩ := dqs1 ds
    cases dqs0 ds
    cases dq_int e4
    replace he : H pe = some (.tup [.str (Str.ofString "expand"), w1, w2, w3, .int tm]) := he
    walk_at "god"
    obtain ⟨x, hx⟩ := Option.isSome_iff_exists.mp fit
    have li : x.ls.length ≤ 100000 ∧ x.via.length ≤ 100000 ∧ x.rcp.1.length + 1 + x.rcp.2.length ≤ 1000000 := lim.it _ (getA_mem hx)
    refine use_expand sa e1 e2 e3 hx (by omega) (Nat.le_trans el (by decide)) (by omega) fun D ys H' F' a1 a2 a3 a4 a5 => ?_
    have ea : P.abs.act (.expand tag own ms tm) = ((P.abs.pop tag).creates (ownM own x.snd) x.ls (x.via ++ [x.rcp]) tm ms, P.abs.tagsN ms.length) := by simp only [Sx.act, hx]
    rw [ea] at k
    exact k D ys H' F' a1 a2 a3 a4 a5
theorem use_apply_to_queue {K : PySem.W.Frag} {self ev : V} {F : List Addr} {S : Sx} {e : Ev} {H : Hp} {Q : VK} {E : XK} (h1 : StA K H self F S) (h2 : Dq H ev (evD e)) (h3 : e.isQ = true) (h4 : S.Fits e) (h5 : S.Lim) (h6 : e.Lim)
    (k : ∀ p ys H' F', StA K H' self F' (S.act e).1 → Chg F (p :: F') H H' → p ∉ F' → H' p = some (.lst ys) → TgL H' ys (S.act e).2 → Q (.ref p) H') : sp_State_apply_to_queue K [self, ev] H Q E := ⟨F, S, e, h1, h2, h3, h4, h5, h6, k⟩

/-! ### State.apply_to_rest -/
abbrev s_State_apply_to_rest : Stmt := inClass (top 17) 8
abbrev N_State_apply_to_rest : List Str := ["self", "event", "kind", "item"]
theorem sc_State_apply_to_rest : FnScope N_State_apply_to_rest ["self", "event"] (defScope s_State_apply_to_rest) := ⟨rfl, rfl, rfl, by decide +kernel, rfl, by decide +kernel, by decide +kernel⟩
theorem bi_State_apply_to_rest : BindQ "apply_to_rest" "State.apply_to_rest" s_State_apply_to_rest ["self", "event"] := fun _ _ _ _ _ _ us hl => match us, hl with | [_, _], _ => rfl
theorem Fput.trans {a : Addr} {H H1 H2 : Hp} (f : Fput a H H1) (g : Fput a H1 H2) : Fput a H H2 := ⟨fun b n => by rw [g.kp b n, f.kp b n], f.old⟩
def sp_State_apply_to_rest (K : PySem.W.Frag) : Sp := sp2 fun self ev H Q _ => ∃ F S e, StA K H self F S ∧ Dq H ev (evD e) ∧ e.isQ = false ∧ S.Fits e ∧ S.Lim ∧ e.Lim ∧
  ∀ H' F', StA K H' self F' (S.act e).1 → Chg F F' H H' → Q .non H'
theorem ok_State_apply_to_rest {e : Wd} (D : MethAt e (He.ga e.K "State") "apply_to_rest" "State.apply_to_rest" s_State_apply_to_rest) (B : Bl e.mg) (kc_Item : Cls e.K (He.ga e.K "Item")) (kc_State : Cls e.K (He.ga e.K "State")) (kn_Item_doubt : NoAttr e.K (He.ga e.K "Item") "doubt") (kn_State_queue : NoAttr e.K (He.ga e.K "State") "queue") (kn_Item_tries : NoAttr e.K (He.ga e.K "Item") "tries") (kn_Item_due : NoAttr e.K (He.ga e.K "Item") "due") (kn_State_owed : NoAttr e.K (He.ga e.K "State") "owed") (kn_State_taken : NoAttr e.K (He.ga e.K "State") "taken") (c_Box_set_flags : CanM e 2 (He.ga e.K "Box") "set_flags" ["self", "number", "flags"] (sp_Box_set_flags e.K)) (c_State_box : CanM e 3 (He.ga e.K "State") "box" ["self", "user"] (sp_State_box e.K)) (c_Box_expunge : CanM e 2 (He.ga e.K "Box") "expunge" ["self", "number"] (sp_Box_expunge e.K)) : CanM e 4 (He.ga e.K "State") "apply_to_rest" ["self", "event"] (sp_State_apply_to_rest e.K) := by
  refine canM_of D sc_State_apply_to_rest bi_State_apply_to_rest (fun _ _ _ _ h => sp2_len h) (fun cdv f A outer s H vs Q E hr h => ?_)
  obtain ⟨v0, v1, rfl, h⟩ := sp2_ex h
  have nd := sc_State_apply_to_rest.nd
  obtain ⟨F, S, ev, ⟨s, P, rfl, st, rfl, rfl⟩, d, isq, fit, lim, el, k⟩ := h
  have sa : StA e.K H (.ref s) (P.fp s) P.abs := ⟨s, P, rfl, st, rfl, rfl⟩
  have hi := st.ins
  unfold stF at hi
  have hq := st.q
  have ht := st.t
  have ho := st.o
  have hlb : P.bx.length ≤ 900000 := by
    have e : P.abs.bx.length = P.bx.length := List.length_map _
    have := lim.bx
    omega
  obtain ⟨pe, vs, rfl, he, ds⟩ := ev_at d
  refine ⟨_, (pss_cons (ps_set (i := 2) nd rfl (by first | exact Or.inl rfl | exact Or.inr rfl) (pe_ix (ix_U (K := e.K)) (pv 1) pe_int (fun _ _ => rfl)))
    (pss_one (ps_if (pt_cmpR (op_eqU (K := e.K) hr) (pv 2) pe_str (nomark _)) (pss_one (ps_fldU (K := e.K) (pe_dget (hu_of hr) (pe_fldU (K := e.K) (pv 0)) (pe_ix (ix_U (K := e.K)) (pv 1) pe_int (fun _ _ => rfl)) (fun _ _ => rfl)) (pe_ix (ix_U (K := e.K)) (pv 1) pe_int (fun _ _ => rfl)))) (pss_one (ps_if (pt_cmpR (op_eqU (K := e.K) hr) (pv 2) pe_str (nomark _)) (pss_cons (ps_set (i := 3) nd rfl (by first | exact Or.inl rfl | exact Or.inr rfl) (pe_dget (hu_of hr) (pe_fldU (K := e.K) (pv 0)) (pe_ix (ix_U (K := e.K)) (pv 1) pe_int (fun _ _ => rfl)) (fun _ _ => rfl)))
    (pss_one (ps_asg (pe_tup (pa_cons (pe_ix (ix_U (K := e.K)) (pv 1) pe_int (fun _ _ => rfl)) (pa_cons (pe_ix (ix_U (K := e.K)) (pv 1) pe_int (fun _ _ => rfl)) (pa_cons pe_non pa_nil)))) (pg_tupU (K := e.K) (n := 3) rfl (pgs_cons (pg_fldU (K := e.K) (pv 3)) (pgs_cons (pg_fldU (K := e.K) (pv 3)) (pgs_cons (pg_fldU (K := e.K) (pv 3)) pgs_nil))))))) (pss_one (ps_if (pt_cmpR (op_eqU (K := e.K) hr) (pv 2) pe_str (nomark _)) (pss_one (ps_ddelU (hu_of hr) (pe_fldU (K := e.K) (pv 0)) (pe_ix (ix_U (K := e.K)) (pv 1) pe_int (fun _ _ => rfl)))) (pss_one (ps_if (pt_cmpR (op_eqU (K := e.K) hr) (pv 2) pe_str (nomark _)) (pss_one (ps_ddelU (hu_of hr) (pe_fldU (K := e.K) (pv 0)) (pe_ix (ix_U (K := e.K)) (pv 1) pe_int (fun _ _ => rfl)))) (pss_one (ps_if (pt_cmpR (op_eqU (K := e.K) hr) (pv 2) pe_str (nomark _)) (pss_one (ps_expr (pe_canM c_Box_set_flags (hr.mono (by first | decide | omega)) passL (pe_canM c_State_box (hr.mono (by first | decide | omega)) passL (pv 0) (pa_cons (pe_ix (ix_U (K := e.K)) (pv 1) pe_int (fun _ _ => rfl)) pa_nil)) (pa_cons (pe_ix (ix_U (K := e.K)) (pv 1) pe_int (fun _ _ => rfl)) (pa_cons (pe_ix (ix_U (K := e.K)) (pv 1) pe_int (fun _ _ => rfl)) pa_nil))))) (pss_one (ps_expr (pe_canM c_Box_expunge (hr.mono (by first | decide | omega)) passL (pe_canM c_State_box (hr.mono (by first | decide | omega)) passL (pv 0) (pa_cons (pe_ix (ix_U (K := e.K)) (pv 1) pe_int (fun _ _ => rfl)) pa_nil)) (pa_cons (pe_ix (ix_U (K := e.K)) (pv 1) pe_int (fun _ _ => rfl)) pa_nil))))))))))))))), ?_⟩
  cases ev with
  | submit => cases isq
  | take => cases isq
  | passed => cases isq
  | deliver => cases isq
  | bounce => cases isq
  | expand => cases isq
  | doubt tag h =>
    obtain ⟨w1, _, rfl, e1, ds⟩ := dqs1 ds
    obtain ⟨w2, _, rfl, e2, ds⟩ := dqs1 ds
    cases dqs0 ds
    cases dq_str e2
    obtain ⟨x, hx⟩ := Option.isSome_iff_exists.mp fit
    obtain ⟨px, hp⟩ := abs_some hx
    obtain ⟨vt, vs, vr, vl, vv, vd, hit, iv⟩ := st.q_at hp
    unfold itF at hit
    replace he : H pe = some (.tup [.str (Str.ofString "doubt"), w1, .str h]) := he
    walk_at "god"
    rename_i H1 i1 fp1
    have st1 := st.itm (x' := { x with dbt := some h }) fp1 hp ⟨vt, vs, vr, vl, vv, .str h, i1, { iv.mono fp1.gro with d := .str _ }⟩
    refine k H1 _ ⟨s, _, rfl, st1, rfl, ?_⟩ ((fp1.chg (fp_i (getA_mem hp))).to fun b hb => .inl (fp_itm hp b hb))
    rw [abs_addQ]
    simp only [Sx.act, hx]
  | retry tag n tm =>
    obtain ⟨w1, _, rfl, e1, ds⟩ := dqs1 ds
    obtain ⟨w2, _, rfl, e2, ds⟩ := dqs1 ds
    obtain ⟨w3, _, rfl, e3, ds⟩ := dqs1 ds
    cases dqs0 ds
    cases dq_int e2
    cases dq_int e3
    obtain ⟨x, hx⟩ := Option.isSome_iff_exists.mp fit
    obtain ⟨px, hp⟩ := abs_some hx
    obtain ⟨vt, vs, vr, vl, vv, vd, hit, iv⟩ := st.q_at hp
    unfold itF at hit
    replace he : H pe = some (.tup [.str (Str.ofString "retry"), w1, .int n, .int tm]) := he
    walk_at "god"
    rename_i tq Hq nq mq hq0 H1 i1 fp1 H2 i2 fp2 H3 i3 fp3
    have ff : Fput px Hq H3 := (Fput.trans fp1 fp2).trans fp3
    have st1 := (st.same mq).itm (x' := { x with tries := n, due := tm, dbt := none }) ff hp ⟨vt, vs, vr, vl, vv, .non, i3, { (iv.mono (Gro.same mq)).mono ff.gro with d := .non }⟩
    refine k H3 _ ⟨s, _, rfl, st1, rfl, ?_⟩ (((Chg.same mq).trans (ff.chg (fp_i (getA_mem hp)))).to fun b hb => .inl (fp_itm hp b hb))
    rw [abs_addQ]
    simp only [Sx.act, hx]
  | forgotten tag =>
    obtain ⟨w1, _, rfl, e1, ds⟩ := dqs1 ds
    cases dqs0 ds
    obtain ⟨x, hx⟩ := Option.isSome_iff_exists.mp fit
    have hx : getA P.ow tag = some x := hx
    replace he : H pe = some (.tup [.str (Str.ofString "forgotten"), w1]) := he
    walk_at "god"
    rename_i H1 h1 k1
    exact k H1 _ (StA.putO st h1 k1 (nodup_del st.no)) (mt_chg (mt_dT st.o) k1 fp_o)
  | forget tag =>
    obtain ⟨w1, _, rfl, e1, ds⟩ := dqs1 ds
    cases dqs0 ds
    obtain ⟨x, hx⟩ := Option.isSome_iff_exists.mp fit
    have hx : getA P.tk tag = some x := hx
    replace he : H pe = some (.tup [.str (Str.ofString "forget"), w1]) := he
    walk_at "god"
    rename_i H1 h1 k1
    exact k H1 _ (StA.putT st h1 k1 (nodup_del st.nt)) (mt_chg (mt_dT st.t) k1 fp_t)
  | flag u n fs gs =>
    obtain ⟨w1, _, rfl, e1, ds⟩ := dqs1 ds
    obtain ⟨w2, _, rfl, e2, ds⟩ := dqs1 ds
    obtain ⟨w3, _, rfl, e3, ds⟩ := dqs1 ds
    cases dqs0 ds
    cases dq_str e1
    cases dq_int e2
    obtain ⟨tf, rfl, htf⟩ := sD_at e3
    obtain ⟨f1, f2, f3, f4⟩ := fit
    replace he : H pe = some (.tup [.str (Str.ofString "flag"), .str u, .int n, .ref tf]) := he
    walk_at "god"
    refine use_box st hlb fun bp E G H1 l st1 c1 hb ab => ?_
    have b1 := st1.b_at hb
    have hbi := b1.ins
    have htf1 := c1.gro.tup _ _ htf
    have he1 := c1.gro.tup _ _ he
    clear he
    walk_at "god"
    refine use_set_flags b1 htf1 f4 (fun i fs' hpl so H2 b2 c2 => ?_) (fun hn => by rw [hn] at f2; cases f2)
    have st2 := st1.box hb c2 b2
    have c12 := c1.trans (⟨fun b o ee n => c2.kp b o ee fun m => n (fp_x (e := (u, (bp, E, G, P.abs.boxOf u))) (getA_mem hb) m), fun b h => .inl (fp_box hb b h), c2.gro⟩ : Chg _ (({ ({ P with bx := l } : Pst) with bx := setA l u (bp, E, G, (P.abs.boxOf u).flag i n fs') } : Pst).fp s) H1 H2)
    walk_at "god"
    refine k H2 _ ⟨s, _, rfl, st2, rfl, ?_⟩ c12
    have eg : fs' = gs := so.one f3
    have e1 := ab ((P.abs.boxOf u).flag i n fs')
    show (⟨P.dom, P.count, P.serial, P.abs.q, setA P.abs.bx u ((P.abs.boxOf u).flag ((placeM (P.abs.boxOf u).es n).getD 0) n gs), P.tk, P.ow⟩ : Sx) = ⟨P.dom, P.count, P.serial, P.abs.q, (setA l u (bp, E, G, (P.abs.boxOf u).flag i n fs')).map (fun e => (e.1, e.2.2.2.2)), P.tk, P.ow⟩
    rw [← eg, e1, hpl]
    rfl
  | expunge u n =>
    obtain ⟨w1, _, rfl, e1, ds⟩ := dqs1 ds
    obtain ⟨w2, _, rfl, e2, ds⟩ := dqs1 ds
    cases dqs0 ds
    cases dq_str e1
    cases dq_int e2
    obtain ⟨f1, f2⟩ := fit
    replace he : H pe = some (.tup [.str (Str.ofString "expunge"), .str u, .int n]) := he
    walk_at "god"
    refine use_box st hlb fun bp E G H1 l st1 c1 hb ab => ?_
    have b1 := st1.b_at hb
    have hbi := b1.ins
    have he1 := c1.gro.tup _ _ he
    clear he
    walk_at "god"
    refine use_expunge b1 lim.box lim.boxg (fun i hpl H2 b2 c2 => ?_) (fun hn => by rw [hn] at f2; cases f2)
    have st2 := st1.box hb c2 b2
    have c12 := c1.trans (⟨fun b o ee n => c2.kp b o ee fun m => n (fp_x (e := (u, (bp, E, G, P.abs.boxOf u))) (getA_mem hb) m), fun b h => .inl (fp_box hb b h), c2.gro⟩ : Chg _ (({ ({ P with bx := l } : Pst) with bx := setA l u (bp, E, G, (P.abs.boxOf u).cut i n) } : Pst).fp s) H1 H2)
    walk_at "god"
    refine k H2 _ ⟨s, _, rfl, st2, rfl, ?_⟩ c12
    have e1 := ab ((P.abs.boxOf u).cut i n)
    show (⟨P.dom, P.count, P.serial, P.abs.q, setA P.abs.bx u ((P.abs.boxOf u).cut ((placeM (P.abs.boxOf u).es n).getD 0) n), P.tk, P.ow⟩ : Sx) = ⟨P.dom, P.count, P.serial, P.abs.q, (setA l u (bp, E, G, (P.abs.boxOf u).cut i n)).map (fun e => (e.1, e.2.2.2.2)), P.tk, P.ow⟩
    rw [e1, hpl]
    rfl
theorem use_apply_to_rest {K : PySem.W.Frag} {self ev : V} {F : List Addr} {S : Sx} {e : Ev} {H : Hp} {Q : VK} {E : XK} (h1 : StA K H self F S) (h2 : Dq H ev (evD e)) (h3 : e.isQ = false) (h4 : S.Fits e) (h5 : S.Lim) (h6 : e.Lim)
    (k : ∀ H' F', StA K H' self F' (S.act e).1 → Chg F F' H H' → Q .non H') : sp_State_apply_to_rest K [self, ev] H Q E := ⟨F, S, e, h1, h2, h3, h4, h5, h6, k⟩

/-! ### State.apply -/
abbrev s_State_apply : Stmt := inClass (top 17) 9
abbrev N_State_apply : List Str := ["self", "event"]
theorem sc_State_apply : FnScope N_State_apply ["self", "event"] (defScope s_State_apply) := ⟨rfl, rfl, rfl, by decide +kernel, rfl, by decide +kernel, by decide +kernel⟩
theorem bi_State_apply : BindQ "apply" "State.apply" s_State_apply ["self", "event"] := fun _ _ _ _ _ _ us hl => match us, hl with | [_, _], _ => rfl
theorem kind_isQ (ev : Ev) : decide (ev.kind ∈ [Str.ofString "submit", Str.ofString "take", Str.ofString "passed", Str.ofString "expand", Str.ofString "bounce", Str.ofString "deliver"]) = ev.isQ := by
  cases ev with
  | submit => exact (show decide (Str.ofString "submit" ∈ [Str.ofString "submit", Str.ofString "take", Str.ofString "passed", Str.ofString "expand", Str.ofString "bounce", Str.ofString "deliver"]) = true from by decide +kernel)
  | take => exact (show decide (Str.ofString "take" ∈ [Str.ofString "submit", Str.ofString "take", Str.ofString "passed", Str.ofString "expand", Str.ofString "bounce", Str.ofString "deliver"]) = true from by decide +kernel)
  | doubt => exact (show decide (Str.ofString "doubt" ∈ [Str.ofString "submit", Str.ofString "take", Str.ofString "passed", Str.ofString "expand", Str.ofString "bounce", Str.ofString "deliver"]) = false from by decide +kernel)
  | retry => exact (show decide (Str.ofString "retry" ∈ [Str.ofString "submit", Str.ofString "take", Str.ofString "passed", Str.ofString "expand", Str.ofString "bounce", Str.ofString "deliver"]) = false from by decide +kernel)
  | passed => exact (show decide (Str.ofString "passed" ∈ [Str.ofString "submit", Str.ofString "take", Str.ofString "passed", Str.ofString "expand", Str.ofString "bounce", Str.ofString "deliver"]) = true from by decide +kernel)
  | deliver => exact (show decide (Str.ofString "deliver" ∈ [Str.ofString "submit", Str.ofString "take", Str.ofString "passed", Str.ofString "expand", Str.ofString "bounce", Str.ofString "deliver"]) = true from by decide +kernel)
  | bounce => exact (show decide (Str.ofString "bounce" ∈ [Str.ofString "submit", Str.ofString "take", Str.ofString "passed", Str.ofString "expand", Str.ofString "bounce", Str.ofString "deliver"]) = true from by decide +kernel)
  | expand => exact (show decide (Str.ofString "expand" ∈ [Str.ofString "submit", Str.ofString "take", Str.ofString "passed", Str.ofString "expand", Str.ofString "bounce", Str.ofString "deliver"]) = true from by decide +kernel)
  | forgotten => exact (show decide (Str.ofString "forgotten" ∈ [Str.ofString "submit", Str.ofString "take", Str.ofString "passed", Str.ofString "expand", Str.ofString "bounce", Str.ofString "deliver"]) = false from by decide +kernel)
  | forget => exact (show decide (Str.ofString "forget" ∈ [Str.ofString "submit", Str.ofString "take", Str.ofString "passed", Str.ofString "expand", Str.ofString "bounce", Str.ofString "deliver"]) = false from by decide +kernel)
  | flag => exact (show decide (Str.ofString "flag" ∈ [Str.ofString "submit", Str.ofString "take", Str.ofString "passed", Str.ofString "expand", Str.ofString "bounce", Str.ofString "deliver"]) = false from by decide +kernel)
  | expunge => exact (show decide (Str.ofString "expunge" ∈ [Str.ofString "submit", Str.ofString "take", Str.ofString "passed", Str.ofString "expand", Str.ofString "bounce", Str.ofString "deliver"]) = false from by decide +kernel)
def sp_State_apply (K : PySem.W.Frag) : Sp := sp2 fun self ev H Q _ => ∃ F S e, StA K H self F S ∧ Dq H ev (evD e) ∧ S.Fits e ∧ S.Lim ∧ e.Lim ∧
  ∀ p ys H' F', StA K H' self F' (S.apply e).1 → Chg F (p :: F') H H' → p ∉ F' → H' p = some (.lst ys) → TgL H' ys (S.apply e).2 → Q (.ref p) H'
theorem ok_State_apply {e : Wd} (D : MethAt e (He.ga e.K "State") "apply" "State.apply" s_State_apply) (B : Bl e.mg) (kc_State : Cls e.K (He.ga e.K "State")) (kn_State_count : NoAttr e.K (He.ga e.K "State") "count") (c_State_apply_to_queue : CanM e 5 (He.ga e.K "State") "apply_to_queue" ["self", "event"] (sp_State_apply_to_queue e.K)) (c_State_apply_to_rest : CanM e 4 (He.ga e.K "State") "apply_to_rest" ["self", "event"] (sp_State_apply_to_rest e.K)) : CanM e 6 (He.ga e.K "State") "apply" ["self", "event"] (sp_State_apply e.K) := by
  refine canM_of D sc_State_apply bi_State_apply (fun _ _ _ _ h => sp2_len h) (fun cdv f A outer s H vs Q E hr h => ?_)
  obtain ⟨v0, v1, rfl, h⟩ := sp2_ex h
  have nd := sc_State_apply.nd
  obtain ⟨F, S, ev, ⟨s, P, rfl, st, rfl, rfl⟩, d, fit, lim, el, k⟩ := h
  have hi := st.ins
  unfold stF at hi
  obtain ⟨pe, vs, rfl, he, ds⟩ := ev_at d
  refine ⟨_, (pss_cons (ps_fldaugU (K := e.K) (pv 0) pe_int in_add)
    (pss_cons (ps_if (pt_cmpR (op_inU (K := e.K) hr) (pe_ix (ix_U (K := e.K)) (pv 1) pe_int (fun _ _ => rfl)) (pe_tup (pa_cons pe_str (pa_cons pe_str (pa_cons pe_str (pa_cons pe_str (pa_cons pe_str (pa_cons pe_str pa_nil))))))) rfl) (pss_one (ps_ret (pe_canM c_State_apply_to_queue (hr.mono (by first | decide | omega)) passL (pv 0) (pa_cons (pv 1) pa_nil)))) pss_nil)
    (pss_cons (ps_expr (pe_canM c_State_apply_to_rest (hr.mono (by first | decide | omega)) passL (pv 0) (pa_cons (pv 1) pa_nil)))
    (pss_one (ps_ret (pe_lst pa_nil)))))), ?_⟩
  walk_at "go"
  rename_i H1 i1 f1 pt H2 np m2 h2
  have st1 := st.fput (c := P.count + 1) (n := P.serial) f1 i1
  have sa2 : StA e.K H2 (.ref s) (P.fp s) { P.abs with count := P.abs.count + 1 } := ⟨s, _, rfl, st1.same m2, rfl, rfl⟩
  have g2 : Gro H H2 := f1.gro.trans (Gro.same m2)
  have c2 : Chg (P.fp s) (P.fp s) H H2 := (f1.chg fp_s).snd m2
  have fit2 : Sx.Fits { P.abs with count := P.abs.count + 1 } ev := by cases ev <;> exact fit
  have lim2 : Sx.Lim { P.abs with count := P.abs.count + 1 } := ⟨lim.dom, lim.q, lim.bx, lim.tk, lim.ow, lim.es, lim.it⟩
  refine r_inTs (ss := [Str.ofString "submit", Str.ofString "take", Str.ofString "passed", Str.ofString "expand", Str.ofString "bounce", Str.ofString "deliver"]) h2 ?_
  rw [kind_isQ]
  cases hq : ev.isQ with
  | true =>
    walk_at "go"
    exact use_apply_to_queue sa2 (d.mono g2) hq fit2 lim2 el fun p ys H' F' a1 a2 a3 a4 a5 => k p ys H' F' a1 (c2.trans a2) a3 a4 a5
  | false =>
    walk_at "go"
    refine use_apply_to_rest sa2 (d.mono g2) hq fit2 lim2 el fun H3 F3 a1 a2 => ?_
    walk_at "go"
    rename_i D H4 nD m4 h4
    refine k D [] H4 F3 (a1.same m4) ((c2.trans a2).newl nD m4) (a1.new_out nD) h4 ?_
    have e2 : (P.abs.apply ev).2 = [] := by
      cases ev with
      | doubt tag h => simp only [Sx.apply, Sx.act]; split <;> rfl
      | retry tag n t => simp only [Sx.apply, Sx.act]; split <;> rfl
      | submit => cases hq
      | take => cases hq
      | passed => cases hq
      | deliver => cases hq
      | bounce => cases hq
      | expand => cases hq
      | forgotten => rfl
      | forget => rfl
      | flag => rfl
      | expunge => rfl
    rw [e2]
    exact .nil
theorem use_apply {K : PySem.W.Frag} {self ev : V} {F : List Addr} {S : Sx} {e : Ev} {H : Hp} {Q : VK} {E : XK} (h1 : StA K H self F S) (h2 : Dq H ev (evD e)) (h4 : S.Fits e) (h5 : S.Lim) (h6 : e.Lim)
    (k : ∀ p ys H' F', StA K H' self F' (S.apply e).1 → Chg F (p :: F') H H' → p ∉ F' → H' p = some (.lst ys) → TgL H' ys (S.apply e).2 → Q (.ref p) H') : sp_State_apply K [self, ev] H Q E := ⟨F, S, e, h1, h2, h4, h5, h6, k⟩

/-! ### State.to_value -/
abbrev s_State_to_value : Stmt := inClass (top 17) 10
abbrev N_State_to_value : List Str := ["self", "items", "boxes", "taken", "owed", "tag", "user"]
theorem sc_State_to_value : FnScope N_State_to_value ["self"] (defScope s_State_to_value) := ⟨rfl, rfl, rfl, by decide +kernel, rfl, by decide +kernel, by decide +kernel⟩
theorem bi_State_to_value : BindQ "to_value" "State.to_value" s_State_to_value ["self"] := fun _ _ _ _ _ _ us hl => match us, hl with | [_], _ => rfl
def sp_State_to_value (K : PySem.W.Frag) : Sp := sp1 fun self H Q _ => ∃ F S, StA K H self F S ∧ S.Lim ∧ ∀ p H', Same H H' → Dq H' (.ref p) (stD S) → Q (.ref p) H'
theorem ok_State_to_value {e : Wd} (D : MethAt e (He.ga e.K "State") "to_value" "State.to_value" s_State_to_value) (B : Bl e.mg) (kc_State : Cls e.K (He.ga e.K "State")) (kn_State_queue : NoAttr e.K (He.ga e.K "State") "queue") (kn_State_boxes : NoAttr e.K (He.ga e.K "State") "boxes") (kn_State_taken : NoAttr e.K (He.ga e.K "State") "taken") (kn_State_owed : NoAttr e.K (He.ga e.K "State") "owed") (kn_State_domain : NoAttr e.K (He.ga e.K "State") "domain") (kn_State_count : NoAttr e.K (He.ga e.K "State") "count") (kn_State_serial : NoAttr e.K (He.ga e.K "State") "serial") (c_Item_to_value : CanM e 1 (He.ga e.K "Item") "to_value" ["self"] (sp_Item_to_value e.K)) (c_Box_to_value : CanM e 1 (He.ga e.K "Box") "to_value" ["self"] (sp_Box_to_value e.K)) : CanM e 2 (He.ga e.K "State") "to_value" ["self"] (sp_State_to_value e.K) := by
  refine canM_of D sc_State_to_value bi_State_to_value (fun _ _ _ _ h => sp1_len h) (fun cdv f A outer s H vs Q E hr h => ?_)
  obtain ⟨v0, rfl, h⟩ := sp1_ex h
  have nd := sc_State_to_value.nd
  obtain ⟨F, S, ⟨s, P, rfl, st, rfl, rfl⟩, lim, k⟩ := h
  have hi := st.ins
  unfold stF at hi
  have hq := st.q
  have hb := st.b
  have ht := st.t
  have ho := st.o
  have hqP : (keysA P.q).length ≤ 100000 := by
    have := lim.q
    rw [← keys_abs, List.length_map]
    exact this
  have hbP : (keysA P.bx).length ≤ 100000 := by
    have := lim.bx
    rw [← keys_absb, List.length_map]
    exact this
  have htP : (keysA P.tk).length ≤ 100000 := by
    rw [List.length_map]
    exact lim.tk
  have hoP : (keysA P.ow).length ≤ 100000 := by
    rw [List.length_map]
    exact lim.ow
  refine ⟨_, (pss_cons (ps_set (i := 1) nd rfl (by first | exact Or.inl rfl | exact Or.inr rfl) (pe_callTy (call_tupleU (K := e.K)) (by rfl) B.b_tuple bt_tuple (pa_cons (pe_lc (own := [("tag", 5)]) (tt := tYes) rfl nd (pi_U (K := e.K) (pe_callB (cr_sortD rfl hr.units) (by rfl) B.b_sorted bt_sorted (pa_cons (pe_fldU (K := e.K) (pv 0)) pa_nil))) (blkOk_by (N := N_State_to_value) (sc := defScope s_State_to_value) (by decide +kernel)) (fun _ _ _ _ _ => (pg_name (i := 5) nd rfl (by first | exact Or.inl rfl | exact Or.inr rfl))) (fun _ _ _ _ _ => pts_nil) (fun _ _ _ _ _ => (pe_canM0 c_Item_to_value (hr.mono (by first | decide | omega)) passL (pe_dget (hu_of hr) (pe_fldU (K := e.K) (pv 0)) (pv 5) (fun _ _ => rfl))))) pa_nil)))
    (pss_cons (ps_set (i := 2) nd rfl (by first | exact Or.inl rfl | exact Or.inr rfl) (pe_callTy (call_tupleU (K := e.K)) (by rfl) B.b_tuple bt_tuple (pa_cons (pe_lc (own := [("user", 6)]) (tt := tYes) rfl nd (pi_U (K := e.K) (pe_callB (cr_sortD rfl hr.units) (by rfl) B.b_sorted bt_sorted (pa_cons (pe_fldU (K := e.K) (pv 0)) pa_nil))) (blkOk_by (N := N_State_to_value) (sc := defScope s_State_to_value) (by decide +kernel)) (fun _ _ _ _ _ => (pg_name (i := 6) nd rfl (by first | exact Or.inl rfl | exact Or.inr rfl))) (fun _ _ _ _ _ => pts_nil) (fun _ _ _ _ _ => (pe_tup (pa_cons (pv 6) (pa_cons (pe_canM0 c_Box_to_value (hr.mono (by first | decide | omega)) passL (pe_dget (hu_of hr) (pe_fldU (K := e.K) (pv 0)) (pv 6) (fun _ _ => rfl))) pa_nil))))) pa_nil)))
    (pss_cons (ps_set (i := 3) nd rfl (by first | exact Or.inl rfl | exact Or.inr rfl) (pe_callTy (call_tupleU (K := e.K)) (by rfl) B.b_tuple bt_tuple (pa_cons (pe_lc (own := [("tag", 5)]) (tt := tYes) rfl nd (pi_U (K := e.K) (pe_callB (cr_sortD rfl hr.units) (by rfl) B.b_sorted bt_sorted (pa_cons (pe_fldU (K := e.K) (pv 0)) pa_nil))) (blkOk_by (N := N_State_to_value) (sc := defScope s_State_to_value) (by decide +kernel)) (fun _ _ _ _ _ => (pg_name (i := 5) nd rfl (by first | exact Or.inl rfl | exact Or.inr rfl))) (fun _ _ _ _ _ => pts_nil) (fun _ _ _ _ _ => (pe_tup (pa_cons (pv 5) (pa_cons (pe_dget (hu_of hr) (pe_fldU (K := e.K) (pv 0)) (pv 5) (fun _ _ => rfl)) pa_nil))))) pa_nil)))
    (pss_cons (ps_set (i := 4) nd rfl (by first | exact Or.inl rfl | exact Or.inr rfl) (pe_callTy (call_tupleU (K := e.K)) (by rfl) B.b_tuple bt_tuple (pa_cons (pe_lc (own := [("tag", 5)]) (tt := tYes) rfl nd (pi_U (K := e.K) (pe_callB (cr_sortD rfl hr.units) (by rfl) B.b_sorted bt_sorted (pa_cons (pe_fldU (K := e.K) (pv 0)) pa_nil))) (blkOk_by (N := N_State_to_value) (sc := defScope s_State_to_value) (by decide +kernel)) (fun _ _ _ _ _ => (pg_name (i := 5) nd rfl (by first | exact Or.inl rfl | exact Or.inr rfl))) (fun _ _ _ _ _ => pts_nil) (fun _ _ _ _ _ => (pe_tup (pa_cons (pv 5) (pa_cons (pe_dget (hu_of hr) (pe_fldU (K := e.K) (pv 0)) (pv 5) (fun _ _ => rfl)) pa_nil))))) pa_nil)))
    (pss_one (ps_ret (pe_tup (pa_cons (pe_fldU (K := e.K) (pv 0)) (pa_cons (pe_fldU (K := e.K) (pv 0)) (pa_cons (pe_fldU (K := e.K) (pv 0)) (pa_cons (pv 1) (pa_cons (pv 2) (pa_cons (pv 3) (pa_cons (pv 4) pa_nil)))))))))))))), ?_⟩
  walk_at "go"
  rename_i ys l0 H1 n1 ty1 m1 hl1
  have ly1 : ys.length = (keysA P.q).length := (Paired.length ty1).trans (len_sortTg _)
  refine lc_L (S := Same) hl1 (fun H' sm => sm _ _ hl1) (sr_same H1) (fun i ds => ds = (((sortTg (keysA P.q)).take i).filterMap fun t => (getA P.abs.q t).map fun x => (t, x)).map fun e => itmD e.1 e.2) (by omega) rfl (fun _ => rfl) (fun i v H2 ds Q1 Qn hv sm rv k1 _ => r_tyes (r_iteT ?_)) (fun D1 H2 zs1 ds1 nD1 m2 hD1 dz1 rv1 => ?_)
  · obtain ⟨t, ht1, dt⟩ := tgl_at ty1 hv
    obtain ⟨⟨px, x⟩, hp⟩ := sortTg_mem ht1
    obtain ⟨vt, vs, vr, vl, vv, vd, hit, iv⟩ := st.q_at hp
    unfold itF at hit
    have dt2 := dt.mono (Gro.same sm)
    walk_at "go"
    refine use_Item_to_value (((st.q_at hp).keep (Gro.same m1) fun o z => m1 _ _ z).keep (Gro.same sm) fun o z => sm _ _ z) fun p H3 m3 d3 => k1 _ _ _ m3 d3 ?_
    rw [rv, srt_take (y := (t, x)) ht1 (by rw [abs_q, hp] <;> rfl), List.map_append] <;> rfl
  rw [ly1, ← len_sortTg, List.take_of_length_le (Nat.le_refl _)] at rv1
  have m12 := m1.trans m2
  have dq1 : Dqs H2 zs1 ((srtT P.abs.q).map fun e => itmD e.1 e.2) := by
    rw [rv1] at dz1
    unfold srtT
    rw [keys_abs]
    exact dz1
  clear hl1 rv1 dz1
  walk_at "go"
  rename_i v1 H3 nv1 mv1 hv1 l1 H4 n4 m4 hl4
  have m24 := mv1.trans m4
  have m14 := m12.trans m24
  refine lc_L (S := Same) hl4 (fun H' sm => sm _ _ hl4) (sr_same H4) (fun i ds => ds = (((sortSt (keysA P.bx)).take i).filterMap fun t => (getA P.abs.bx t).map fun x => (t, x)).map bxD) (by rw [List.length_map, len_sortSt]; omega) rfl (fun _ => rfl) (fun i v H5 ds Q1 Qn hv sm rv k1 _ => r_tyes (r_iteT ?_)) (fun D2 H5 zs2 ds2 nD2 m5 hD2 dz2 rv2 => ?_)
  · obtain ⟨u, hu, rfl⟩ := get_map hv
    obtain ⟨⟨bp, E0, G0, B0⟩, hbx⟩ := sortSt_mem hu
    have bat := st.b_at hbx
    have hbi := bat.ins
    walk_at "go"
    refine use_to_value ((bat.same m14).same sm) fun p H6 m6 d6 => ?_
    walk_at "go"
    rename_i tp H7 n7 m7 h7
    refine k1 _ (bxD (u, B0)) _ (m6.trans m7) (.tup h7 (.cons (.str _) (.cons (d6.mono (Gro.same m7)) .nil))) ?_
    rw [rv, srt_take (y := (u, B0)) hu (by rw [abs_bx, hbx] <;> rfl), List.map_append] <;> rfl
  rw [List.length_map, List.take_of_length_le (Nat.le_refl _)] at rv2
  have dq2 : Dqs H5 zs2 ((srtS P.abs.bx).map bxD) := by
    rw [rv2] at dz2
    unfold srtS
    rw [keys_absb]
    exact dz2
  have m15 := m14.trans m5
  clear hl4 rv2 dz2
  walk_at "go"
  rename_i v2 H6 nv2 mv2 hv2 ys2 l2 H7 n7 ty7 m7 hl7
  have m57 := mv2.trans m7
  have m17 := m15.trans m57
  have ly7 : ys2.length = (keysA P.tk).length := (Paired.length ty7).trans (len_sortTg _)
  refine lc_L (S := Same) hl7 (fun H' sm => sm _ _ hl7) (sr_same H7) (fun i ds => ds = (((sortTg (keysA P.tk)).take i).filterMap fun t => (getA P.tk t).map fun x => (t, x)).map rmD) (by omega) rfl (fun _ => rfl) (fun i v H8 ds Q1 Qn hv sm rv k1 _ => r_tyes (r_iteT ?_)) (fun D3 H8 zs3 ds3 nD3 m8 hD3 dz3 rv3 => ?_)
  · obtain ⟨t, ht1, dt⟩ := tgl_at ty7 hv
    obtain ⟨x, hp⟩ := sortTg_mem ht1
    have dt2 := dt.mono (Gro.same sm)
    walk_at "go"
    rename_i tp H9 n9 m9 h9
    refine k1 _ (rmD (t, x)) _ m9 (.tup h9 (.cons (dt2.mono (Gro.same m9)) (.cons (.str _) .nil))) ?_
    rw [rv, srt_take (y := (t, x)) ht1 (by rw [hp] <;> rfl), List.map_append] <;> rfl
  rw [ly7, ← len_sortTg, List.take_of_length_le (Nat.le_refl _)] at rv3
  have dq3 : Dqs H8 zs3 ((srtT P.tk).map rmD) := by
    rw [rv3] at dz3
    exact dz3
  have m18 := m17.trans m8
  clear hl7 rv3 dz3
  walk_at "go"
  rename_i v3 H9 nv3 mv3 hv3 ys3 l3 H10 n10 ty10 m10 hl10
  have m810 := mv3.trans m10
  have m110 := m18.trans m810
  have ly10 : ys3.length = (keysA P.ow).length := (Paired.length ty10).trans (len_sortTg _)
  refine lc_L (S := Same) hl10 (fun H' sm => sm _ _ hl10) (sr_same H10) (fun i ds => ds = (((sortTg (keysA P.ow)).take i).filterMap fun t => (getA P.ow t).map fun x => (t, x)).map rmD) (by omega) rfl (fun _ => rfl) (fun i v H11 ds Q1 Qn hv sm rv k1 _ => r_tyes (r_iteT ?_)) (fun D4 H11 zs4 ds4 nD4 m11 hD4 dz4 rv4 => ?_)
  · obtain ⟨t, ht1, dt⟩ := tgl_at ty10 hv
    obtain ⟨x, hp⟩ := sortTg_mem ht1
    have dt2 := dt.mono (Gro.same sm)
    walk_at "go"
    rename_i tp H12 n12 m12' h12
    refine k1 _ (rmD (t, x)) _ m12' (.tup h12 (.cons (dt2.mono (Gro.same m12')) (.cons (.str _) .nil))) ?_
    rw [rv, srt_take (y := (t, x)) ht1 (by rw [hp] <;> rfl), List.map_append] <;> rfl
  rw [ly10, ← len_sortTg, List.take_of_length_le (Nat.le_refl _)] at rv4
  have dq4 : Dqs H11 zs4 ((srtT P.ow).map rmD) := by
    rw [rv4] at dz4
    exact dz4
  have m111 := m110.trans m11
  clear hl10 rv4 dz4
  walk_at "go"
  rename_i v4 H12 nv4 mv4 hv4 pr H13 nr mr hr13
  have m1213 := mv4.trans mr
  have m913 := (m10.trans m11).trans m1213
  have m613 := ((m7.trans m8).trans mv3).trans m913
  have m313 := ((m4.trans m5).trans mv2).trans m613
  have d1 : Dq H13 (.ref v1) (.tuple ((srtT P.abs.q).map fun e => itmD e.1 e.2)) := .tup (m313 _ _ hv1) (dq1.mono (Gro.same (mv1.trans m313)))
  have d2 : Dq H13 (.ref v2) (.tuple ((srtS P.abs.bx).map bxD)) := .tup (m613 _ _ hv2) (dq2.mono (Gro.same (mv2.trans m613)))
  have d3 : Dq H13 (.ref v3) (.tuple ((srtT P.tk).map rmD)) := .tup (m913 _ _ hv3) (dq3.mono (Gro.same (mv3.trans m913)))
  have d4 : Dq H13 (.ref v4) (.tuple ((srtT P.ow).map rmD)) := .tup (mr _ _ hv4) (dq4.mono (Gro.same m1213))
  exact k pr H13 (m111.trans m1213) (.tup hr13 (.cons (.str _) (.cons (.int _) (.cons (.int _) (.cons d1 (.cons d2 (.cons d3 (.cons d4 .nil))))))))
theorem use_sto_value {K : PySem.W.Frag} {self : V} {F : List Addr} {S : Sx} {H : Hp} {Q : VK} {E : XK} (h1 : StA K H self F S) (h2 : S.Lim) (k : ∀ p H', Same H H' → Dq H' (.ref p) (stD S) → Q (.ref p) H') : sp_State_to_value K [self] H Q E := ⟨F, S, h1, h2, k⟩

/-! ### state_of -/
abbrev s_state_of : Stmt := top 18
abbrev N_state_of : List Str := ["value", "domain", "count", "serial", "items", "boxes", "taken", "owed", "state", "one", "user", "box", "tag", "peer"]
theorem sc_state_of : FnScope N_state_of ["value"] (defScope s_state_of) := ⟨rfl, rfl, rfl, by decide +kernel, rfl, by decide +kernel, by decide +kernel⟩
theorem bi_state_of : BindOk "state_of" s_state_of ["value"] := fun _ _ _ _ _ _ us hl => match us, hl with | [_], _ => rfl
def sp_state_of (K : PySem.W.Frag) : Sp := sp1 fun v H Q _ => ∃ d c n, ∃ (q : List (Tag × Itm)) (b : List (Str × Bx)) (t o : List (Tag × Str)), Dq H v (svD d c n q b t o) ∧ q.length ≤ 400000 ∧ b.length ≤ 400000 ∧ t.length ≤ 400000 ∧ o.length ≤ 400000 ∧
  ∀ x H' F', StA K H' (.ref x) F' ⟨d, c, n, putsA [] q, putsA [] b, putsA [] t, putsA [] o⟩ → Same H H' → (∀ z ∈ F', H z = none) → Q (.ref x) H'
theorem ok_state_of {e : Wd} (D : DefAt e "state_of" s_state_of) (B : Bl e.mg) (kc_State : Cls e.K (He.ga e.K "State")) (kn_State_count : NoAttr e.K (He.ga e.K "State") "count") (kn_State_serial : NoAttr e.K (He.ga e.K "State") "serial") (kn_State_queue : NoAttr e.K (He.ga e.K "State") "queue") (kn_State_boxes : NoAttr e.K (He.ga e.K "State") "boxes") (kn_State_taken : NoAttr e.K (He.ga e.K "State") "taken") (kn_State_owed : NoAttr e.K (He.ga e.K "State") "owed") (c_State___init__ : CanN e 1 (He.ga e.K "State") "State" ["self", "domain"] (sp_State___init__ e.K)) (c_item_of : Can e 3 "item_of" ["value"] (sp_item_of e.K)) (c_box_of : Can e 3 "box_of" ["value"] (sp_box_of e.K)) : Can e 4 "state_of" ["value"] (sp_state_of e.K) := by
  refine can_of D sc_state_of bi_state_of (fun _ _ _ _ h => sp1_len h) (fun cdv f A outer s H vs Q E hr h => ?_)
  obtain ⟨v0, rfl, h⟩ := sp1_ex h
  have nd := sc_state_of.nd
  obtain ⟨d, c, n, q, b, t, o, dv, lq, lb, lt, lo, k⟩ := h
  obtain ⟨p, a4, a5, a6, a7, xs4, xs5, xs6, xs7, rfl, hp, h4, h5, h6, h7, d4, d5, d6, d7⟩ := sv_at dv
  have l4 := d4.len_map
  have l5 := d5.len_map
  have l6 := d6.len_map
  have l7 := d7.len_map
  refine ⟨_, (pss_cons (ps_asg (pv 0) (pg_tupU (K := e.K) (n := 7) rfl (pgs_cons (pg_name (i := 1) nd rfl (by first | exact Or.inl rfl | exact Or.inr rfl)) (pgs_cons (pg_name (i := 2) nd rfl (by first | exact Or.inl rfl | exact Or.inr rfl)) (pgs_cons (pg_name (i := 3) nd rfl (by first | exact Or.inl rfl | exact Or.inr rfl)) (pgs_cons (pg_name (i := 4) nd rfl (by first | exact Or.inl rfl | exact Or.inr rfl)) (pgs_cons (pg_name (i := 5) nd rfl (by first | exact Or.inl rfl | exact Or.inr rfl)) (pgs_cons (pg_name (i := 6) nd rfl (by first | exact Or.inl rfl | exact Or.inr rfl)) (pgs_cons (pg_name (i := 7) nd rfl (by first | exact Or.inl rfl | exact Or.inr rfl)) pgs_nil)))))))))
    (pss_cons (ps_set (i := 8) nd rfl (by first | exact Or.inl rfl | exact Or.inr rfl) (pe_canN c_State___init__ (hr.mono (by first | decide | omega)) passL (pa_cons (pv 1) pa_nil)))
    (pss_cons (ps_asg (pe_tup (pa_cons (pv 2) (pa_cons (pv 3) pa_nil))) (pg_tupU (K := e.K) (n := 2) rfl (pgs_cons (pg_fldU (K := e.K) (pv 8)) (pgs_cons (pg_fldU (K := e.K) (pv 8)) pgs_nil))))
    (pss_cons (ps_for PassesOwn.never rfl (pi_U (K := e.K) (pv 4)) (pg_name (i := 9) nd rfl (by first | exact Or.inl rfl | exact Or.inr rfl)) (pss_one (ps_dput (hu_of hr) (pe_fldU (K := e.K) (pv 8)) (pe_ix (ix_U (K := e.K)) (pv 9) pe_int (fun _ _ => rfl)) (pe_can c_item_of (hr.mono (by first | decide | omega)) passL (pa_cons (pv 9) pa_nil)) (by rfl))))
    (pss_cons (ps_for PassesOwn.never rfl (pi_U (K := e.K) (pv 5)) (pg_tupU (K := e.K) (n := 2) rfl (pgs_cons (pg_name (i := 10) nd rfl (by first | exact Or.inl rfl | exact Or.inr rfl)) (pgs_cons (pg_name (i := 11) nd rfl (by first | exact Or.inl rfl | exact Or.inr rfl)) pgs_nil))) (pss_one (ps_dput (hu_of hr) (pe_fldU (K := e.K) (pv 8)) (pv 10) (pe_can c_box_of (hr.mono (by first | decide | omega)) passL (pa_cons (pv 11) pa_nil)) (by rfl))))
    (pss_cons (ps_for PassesOwn.never rfl (pi_U (K := e.K) (pv 6)) (pg_tupU (K := e.K) (n := 2) rfl (pgs_cons (pg_name (i := 12) nd rfl (by first | exact Or.inl rfl | exact Or.inr rfl)) (pgs_cons (pg_name (i := 13) nd rfl (by first | exact Or.inl rfl | exact Or.inr rfl)) pgs_nil))) (pss_one (ps_dput (hu_of hr) (pe_fldU (K := e.K) (pv 8)) (pv 12) (pv 13) (by rfl))))
    (pss_cons (ps_for PassesOwn.never rfl (pi_U (K := e.K) (pv 7)) (pg_tupU (K := e.K) (n := 2) rfl (pgs_cons (pg_name (i := 12) nd rfl (by first | exact Or.inl rfl | exact Or.inr rfl)) (pgs_cons (pg_name (i := 13) nd rfl (by first | exact Or.inl rfl | exact Or.inr rfl)) pgs_nil))) (pss_one (ps_dput (hu_of hr) (pe_fldU (K := e.K) (pv 8)) (pv 12) (pv 13) (by rfl))))
    (pss_one (ps_ret (pv 8)))))))))), ?_⟩
  walk_at "go"
  rename_i x H0 F1 m0 st0 nw0 tq H1 nq mq htq
  have sn1 : StN e.K H H1 x ⟨d, 0, 0, [], [], [], []⟩ := by
    obtain ⟨s, P, e1, e2, e3, e4⟩ := st0
    cases e1
    exact ⟨P, e2.same mq, e4.symm, m0.trans mq, fun z hz => nw0 z (by rw [e3]; exact hz)⟩
  clear st0 nw0
  obtain ⟨P1, sp1, ab1, m1, nw1⟩ := sn1
  have hi1 := sp1.ins
  unfold stF at hi1
  have ed : P1.dom = d := congrArg Sx.dom ab1
  walk_at "go"
  rename_i H2 i2 f2 H3 i3 f3
  have sp2 := sp1.fput (c := c) (n := P1.serial) f2 i2
  have sp3 := sp2.fput (c := c) (n := n) f3 i3
  have nx : H x = none := nw1 x fp_s
  have sn3 : StN e.K H H3 x ⟨d, c, n, [], [], [], []⟩ := ⟨_, sp3, by
    have q1 := congrArg Sx.q ab1
    have q2 := congrArg Sx.bx ab1
    have q3 := congrArg Sx.tk ab1
    have q4 := congrArg Sx.ow ab1
    show (⟨P1.dom, c, n, P1.abs.q, P1.abs.bx, P1.abs.tk, P1.abs.ow⟩ : Sx) = _
    rw [ed, q1, q2, q3, q4], Same.fput (Same.fput m1 nx f2) nx f3, nw1⟩
  clear sp2 sp3 f2 f3 i2 i3 hi1 sp1
  refine for_T (fun i σ' H' => ∃ o1 o2 o3 o4 o5, σ' = [some (.ref p), some (.str d), some (.int c), some (.int n), some (.ref a4), some (.ref a5), some (.ref a6), some (.ref a7), some (.ref x), o1, o2, o3, o4, o5] ∧ StN e.K H H' x ⟨d, c, n, putsA [] (q.take i), [], [], []⟩) (by obtain ⟨_, _, _, sm, _⟩ := sn3; exact sm _ _ h4) ⟨none, none, none, none, none, rfl, sn3⟩ (fun i σ' H' _ ⟨_, _, _, _, _, _, _, _, _, sm, _⟩ => sm _ _ h4) (fun i v σ' H' hv ⟨o1, o2, o3, o4, o5, es, sn⟩ => ?_) (fun σ' H' ⟨o1, o2, o3, o4, o5, es, sn⟩ => ?_)
  · subst es
    obtain ⟨⟨tg, it⟩, hq, dq⟩ := d4.at_map hv
    obtain ⟨P, sp, ab, sm, nw⟩ := sn
    have dq' := dq.mono (Gro.same sm)
    obtain ⟨a, vt, vs, vr, vl, vv, vd, rfl, ha, iv⟩ := itm_at dq'
    walk_at "go"
    refine use_item_of dq' fun pi H5 npi m5 iat => ?_
    have sp5 := sp.same m5
    have hi5 := sp5.ins
    unfold stF at hi5
    have vt5 := iv.t.mono (Gro.same m5)
    have lq2 : P.q.length ≤ 400000 := by
      have e1 : P.abs.q.length = P.q.length := List.length_map _
      have e2 := puts_len (q.take i) ([] : List (Tag × Itm))
      rw [ab] at e1
      rw [List.length_take, List.length_nil] at e2
      have e3 : (putsA ([] : List (Tag × Itm)) (q.take i)).length = P.q.length := e1
      omega
    walk_at "go"
    refine r_dputT (g := refI) (x := (pi, it)) sp5.q (by omega) vt5 rfl fun H6 h6 k6 => ?_
    have sp6 := sp5.addQ (p := pi) (fun ee hee z => by
      obtain ⟨u, q1, _⟩ := (sp.its ee hee).there
      rw [z, npi] at q1
      cases q1) iat h6 k6
    refine ⟨_, _, _, _, _, rfl, _, sp6, ?_, Same.but (sm.trans m5) (nw _ fp_q) k6, fun z hz => (fp_addQ z hz).elim (nw z) fun w => by rw [w]; exact Same.before sm npi⟩
    rw [abs_addQ, ab, puts_snoc hq]
  subst es
  rw [l4, List.take_of_length_le (Nat.le_refl _)] at sn
  walk_at "go"
  refine for_T (fun i σ' H' => ∃ o1 o2 o3 o4 o5, σ' = [some (.ref p), some (.str d), some (.int c), some (.int n), some (.ref a4), some (.ref a5), some (.ref a6), some (.ref a7), some (.ref x), o1, o2, o3, o4, o5] ∧ StN e.K H H' x ⟨d, c, n, putsA [] q, putsA [] (b.take i), [], []⟩) (by obtain ⟨_, _, _, sm, _⟩ := sn; exact sm _ _ h5) ⟨_, _, _, _, _, rfl, sn⟩ (fun i σ' H' _ ⟨_, _, _, _, _, _, _, _, _, sm, _⟩ => sm _ _ h5) (fun i v σ' H' hv ⟨o1, o2, o3, o4, o5, es, sn⟩ => ?_) (fun σ' H' ⟨o1, o2, o3, o4, o5, es, sn⟩ => ?_)
  · subst es
    obtain ⟨⟨u, B0⟩, hq, dq⟩ := d5.at_map hv
    obtain ⟨P, sp, ab, sm, nw⟩ := sn
    have dq' := dq.mono (Gro.same sm)
    obtain ⟨a, vb, rfl, ha, dB⟩ := bxD_at dq'
    walk_at "go"
    refine use_box_of dB fun bp A0 G0 H5 np nA nG m5 bat => ?_
    have sp5 := sp.same m5
    have hi5 := sp5.ins
    unfold stF at hi5
    have lq2 : P.bx.length ≤ 400000 := by
      have e1 : P.abs.bx.length = P.bx.length := List.length_map _
      have e2 := puts_len (b.take i) ([] : List (Str × Bx))
      rw [ab] at e1
      rw [List.length_take, List.length_nil] at e2
      have e3 : (putsA ([] : List (Str × Bx)) (b.take i)).length = P.bx.length := e1
      omega
    walk_at "go"
    have new : ∀ w ∈ boxP bp A0 G0, H' w = none := by
      intro w hw
      simp only [boxP, List.mem_cons, List.not_mem_nil, or_false] at hw
      rcases hw with rfl | rfl | rfl
      · exact np
      · exact nA
      · exact nG
    refine r_dputK (g := refB) (x := (bp, A0, G0, B0)) sp5.b (by omega) rfl fun H6 h6 k6 => ?_
    have sp6 := sp5.addB (p := bp) (fun w hw hf => by
      obtain ⟨u1, q1, _⟩ := sp.there w hf
      rw [new w hw] at q1
      cases q1) bat h6 k6
    refine ⟨_, _, _, _, _, rfl, _, sp6, ?_, Same.but (sm.trans m5) (nw _ fp_b) k6, fun z hz => (fp_addB z hz).elim (nw z) fun w => Same.before sm (new z w)⟩
    rw [abs_addB, ab, puts_snoc hq]
  subst es
  rw [l5, List.take_of_length_le (Nat.le_refl _)] at sn
  walk_at "go"
  refine for_T (fun i σ' H' => ∃ o1 o2 o3 o4 o5, σ' = [some (.ref p), some (.str d), some (.int c), some (.int n), some (.ref a4), some (.ref a5), some (.ref a6), some (.ref a7), some (.ref x), o1, o2, o3, o4, o5] ∧ StN e.K H H' x ⟨d, c, n, putsA [] q, putsA [] b, putsA [] (t.take i), []⟩) (by obtain ⟨_, _, _, sm, _⟩ := sn; exact sm _ _ h6) ⟨_, _, _, _, _, rfl, sn⟩ (fun i σ' H' _ ⟨_, _, _, _, _, _, _, _, _, sm, _⟩ => sm _ _ h6) (fun i v σ' H' hv ⟨o1, o2, o3, o4, o5, es, sn⟩ => ?_) (fun σ' H' ⟨o1, o2, o3, o4, o5, es, sn⟩ => ?_)
  · subst es
    obtain ⟨⟨u, z0⟩, hq, dq⟩ := d6.at_map hv
    obtain ⟨P, sp, ab, sm, nw⟩ := sn
    have dq' := dq.mono (Gro.same sm)
    obtain ⟨a, vb, rfl, ha, dB⟩ := rmD_at dq'
    have hi5 := sp.ins
    unfold stF at hi5
    have et : P.tk = putsA [] (t.take i) := congrArg Sx.tk ab
    have lq2 : P.tk.length ≤ 400000 := by
      have e2 := puts_len (t.take i) ([] : List (Tag × Str))
      rw [List.length_take, List.length_nil] at e2
      rw [et]
      omega
    walk_at "go"
    refine r_dputT (g := V.str) (x := z0) sp.t (by omega) dB rfl fun H6 h6 k6 => ?_
    have sp6 := sp.putT h6 k6 (nodup_set sp.nt)
    refine ⟨_, _, _, _, _, rfl, _, sp6, ?_, Same.but sm (nw _ fp_t) k6, nw⟩
    rw [puts_snoc hq, ← et]
    show ({ P.abs with tk := setA P.tk u z0 } : Sx) = _
    rw [ab]
  subst es
  rw [l6, List.take_of_length_le (Nat.le_refl _)] at sn
  walk_at "go"
  refine for_T (fun i σ' H' => ∃ o1 o2 o3 o4 o5, σ' = [some (.ref p), some (.str d), some (.int c), some (.int n), some (.ref a4), some (.ref a5), some (.ref a6), some (.ref a7), some (.ref x), o1, o2, o3, o4, o5] ∧ StN e.K H H' x ⟨d, c, n, putsA [] q, putsA [] b, putsA [] t, putsA [] (o.take i)⟩) (by obtain ⟨_, _, _, sm, _⟩ := sn; exact sm _ _ h7) ⟨_, _, _, _, _, rfl, sn⟩ (fun i σ' H' _ ⟨_, _, _, _, _, _, _, _, _, sm, _⟩ => sm _ _ h7) (fun i v σ' H' hv ⟨o1, o2, o3, o4, o5, es, sn⟩ => ?_) (fun σ' H' ⟨o1, o2, o3, o4, o5, es, sn⟩ => ?_)
  · subst es
    obtain ⟨⟨u, z0⟩, hq, dq⟩ := d7.at_map hv
    obtain ⟨P, sp, ab, sm, nw⟩ := sn
    have dq' := dq.mono (Gro.same sm)
    obtain ⟨a, vb, rfl, ha, dB⟩ := rmD_at dq'
    have hi5 := sp.ins
    unfold stF at hi5
    have et : P.ow = putsA [] (o.take i) := congrArg Sx.ow ab
    have lq2 : P.ow.length ≤ 400000 := by
      have e2 := puts_len (o.take i) ([] : List (Tag × Str))
      rw [List.length_take, List.length_nil] at e2
      rw [et]
      omega
    walk_at "go"
    refine r_dputT (g := V.str) (x := z0) sp.o (by omega) dB rfl fun H6 h6 k6 => ?_
    have sp6 := sp.putO h6 k6 (nodup_set sp.no)
    refine ⟨_, _, _, _, _, rfl, _, sp6, ?_, Same.but sm (nw _ fp_o) k6, nw⟩
    rw [puts_snoc hq, ← et]
    show ({ P.abs with ow := setA P.ow u z0 } : Sx) = _
    rw [ab]
  subst es
  rw [l7, List.take_of_length_le (Nat.le_refl _)] at sn
  walk_at "go"
  obtain ⟨P, sp, ab, sm, nw⟩ := sn
  exact k x H' _ ⟨x, P, rfl, sp, rfl, ab.symm⟩ sm nw
theorem use_state_of {K : PySem.W.Frag} {v : V} {d : Str} {c n : Int} {q : List (Tag × Itm)} {b : List (Str × Bx)} {t o : List (Tag × Str)} {H : Hp} {Q : VK} {E : XK} (h : Dq H v (svD d c n q b t o)) (h1 : q.length ≤ 400000) (h2 : b.length ≤ 400000) (h3 : t.length ≤ 400000) (h4 : o.length ≤ 400000)
    (k : ∀ x H' F', StA K H' (.ref x) F' ⟨d, c, n, putsA [] q, putsA [] b, putsA [] t, putsA [] o⟩ → Same H H' → (∀ z ∈ F', H z = none) → Q (.ref x) H') : sp_state_of K [v] H Q E := ⟨d, c, n, q, b, t, o, h, h1, h2, h3, h4, k⟩

/-! ### _law_refill -/
abbrev s_l_refill : Stmt := top 21
abbrev N_l_refill : List Str := ["_law_script", "_law_k", "_law_cell"]
theorem sc_l_refill : FnScope N_l_refill ["_law_script", "_law_k"] (defScope s_l_refill) := ⟨rfl, rfl, rfl, by decide +kernel, rfl, by decide +kernel, by decide +kernel⟩
theorem bi_l_refill : BindOk "_law_refill" s_l_refill ["_law_script", "_law_k"] := fun _ _ _ _ _ _ us hl => match us, hl with | [_, _], _ => rfl
def sp_l_refill (K : PySem.W.Frag) : Sp := sp2 fun sc k H Q _ => ∃ b n, sc = .ref b ∧ k = .int n ∧ Scr K H b ∧ ∀ d, Q (.int d) H
theorem ok_l_refill {e : Wd} (D : DefAt e "_law_refill" s_l_refill) (B : Bl e.mg) : Can e 1 "_law_refill" ["_law_script", "_law_k"] (sp_l_refill e.K) := by
  refine can_of D sc_l_refill bi_l_refill (fun _ _ _ _ h => sp2_len h) (fun cdv f A outer s H vs Q E hr h => ?_)
  obtain ⟨v0, v1, rfl, h⟩ := sp2_ex h
  have nd := sc_l_refill.nd
  obtain ⟨b, n, rfl, rfl, hs, k⟩ := h
  obtain ⟨ns, hl, hq⟩ := hs.seq
  refine ⟨_, (pss_cons (ps_set (i := 2) nd rfl (by first | exact Or.inl rfl | exact Or.inr rfl) pe_int)
    (Evl.pss_cut (ps_if (pt_tru (K := e.K) (pv 0)) (pss_one (ps_set (i := 2) nd rfl (by first | exact Or.inl rfl | exact Or.inr rfl) (pe_ix (ix_U (K := e.K)) (pv 0) (pe_op op_modU (pv 1) (pe_callB (call_lenU (K := e.K)) (by rfl) B.b_len bt_len (pa_cons (pv 0) pa_nil))) (fun _ _ => rfl)))) pss_nil)
    (Evl.pss_cut (ps_if (pt_cmpR op_ltU (pv 2) pe_int (nomark _)) (pss_one (ps_set (i := 2) nd rfl (by first | exact Or.inl rfl | exact Or.inr rfl) (pe_op op_subU pe_int (pe_op op_mulS pe_int (pv 2))))) pss_nil)
    (pss_cons (ps_if (PW.pt (pw_and (pt_cmpR op_geU (pv 2) (pe_op op_powU pe_int pe_int) (nomark _)) (pw_and1 (pt_cmpR op_ltU (pv 1) (pe_callB (call_lenU (K := e.K)) (by rfl) B.b_len bt_len (pa_cons (pv 0) pa_nil)) (nomark _))))) (pss_one (ps_ret (pv 2))) pss_nil)
    (pss_one (ps_ret (pe_op op_modU (pe_callTy call_intU (by rfl) B.b_int bt_int (pa_cons (pe_op (op_addU (K := e.K)) (pe_op op_mulS (pe_callTy call_intU (by rfl) B.b_int bt_int (pa_cons (pe_op (op_addU (K := e.K)) (pe_op (op_addU (K := e.K)) (pe_op op_mulS (pv 2) pe_int) (pe_op op_mulS (pv 1) pe_int)) pe_int) pa_nil)) pe_int) pe_int) pa_nil)) pe_int))))))), ?_⟩
  walk_at "go"
  refine r_cut (fun σ' H' => ∃ c : Int, σ' = [some (.ref b), some (.int n), some (.int c)] ∧ H = H') ?_ ?_
  · walk_at "go"
    refine r_itb (fun c => ?_) (fun _ => ?_)
    · have h0 : 0 < ns.length := by
        cases ns with
        | nil => cases c
        | cons x r => exact Nat.succ_pos _
      walk_at "go"
      refine r_I (by simp only [List.length_map]; omega) ?_
      obtain ⟨v, hv⟩ := atI_mod h0 n
      refine r_ixL hq (by simp only [List.length_map]; exact hv) ?_
      exact ⟨_, rfl, rfl⟩
    · walk_at "go"
      exact ⟨_, rfl, rfl⟩
  · rintro σ' H' ⟨c, rfl, rfl⟩
    refine r_cut (fun σ' H' => ∃ c : Int, σ' = [some (.ref b), some (.int n), some (.int c)] ∧ H = H') ?_ ?_
    · walk_at "all"
      all_goals exact ⟨_, rfl, rfl⟩
    · rintro σ' H' ⟨c, rfl, rfl⟩
      walk_at "all"
      all_goals exact k _

/-! ### _law_draw -/
abbrev s_l_draw : Stmt := top 22
abbrev N_l_draw : List Str := ["_law_state", "_law_script", "_law_size", "_law_digit"]
theorem sc_l_draw : FnScope N_l_draw ["_law_state", "_law_script", "_law_size"] (defScope s_l_draw) := ⟨rfl, rfl, rfl, by decide +kernel, rfl, by decide +kernel, by decide +kernel⟩
theorem bi_l_draw : BindOk "_law_draw" s_l_draw ["_law_state", "_law_script", "_law_size"] := fun _ _ _ _ _ _ us hl => match us, hl with | [_, _, _], _ => rfl
def sp_l_draw (K : PySem.W.Frag) : Sp := sp3 fun st sc n H Q _ => ∃ a b m, st = .ref a ∧ sc = .ref b ∧ n = .int m ∧ Drw H a ∧ Scr K H b ∧ (0 < m ∧ m < 1208925819614629174706176) ∧ ∀ d H', 0 ≤ d → d < m → Stp a H H' → Q (.int d) H'
theorem ok_l_draw {e : Wd} (D : DefAt e "_law_draw" s_l_draw) (B : Bl e.mg) (c_l_refill : Can e 1 "_law_refill" ["_law_script", "_law_k"] (sp_l_refill e.K)) : Can e 2 "_law_draw" ["_law_state", "_law_script", "_law_size"] (sp_l_draw e.K) := by
  refine can_of D sc_l_draw bi_l_draw (fun _ _ _ _ h => sp3_len h) (fun cdv f A outer s H vs Q E hr h => ?_)
  obtain ⟨v0, v1, v2, rfl, h⟩ := sp3_ex h
  have nd := sc_l_draw.nd
  obtain ⟨a, b, m, rfl, rfl, rfl, ⟨x, y, ha⟩, hs, hm, k⟩ := h
  have dr : Drw H a := ⟨x, y, ha⟩
  refine ⟨_, (Evl.pss_cut (ps_if (pt_cmpR (op_eqU (K := e.K) hr) (pe_ix (ix_U (K := e.K)) (pv 0) pe_int (fun _ _ => rfl)) pe_int (nomark _)) (pss_cons (ps_asg (pe_can c_l_refill (hr.mono (by first | decide | omega)) passL (pa_cons (pv 1) (pa_cons (pe_ix (ix_U (K := e.K)) (pv 0) pe_int (fun _ _ => rfl)) pa_nil))) (pg_sub (pv 0) pe_int set_list))
    (pss_one (ps_asg (pe_op (op_addU (K := e.K)) (pe_ix (ix_U (K := e.K)) (pv 0) pe_int (fun _ _ => rfl)) pe_int) (pg_sub (pv 0) pe_int set_list)))) pss_nil)
    (pss_cons (ps_set (i := 3) nd rfl (by first | exact Or.inl rfl | exact Or.inr rfl) (pe_op op_modU (pe_callTy call_intU (by rfl) B.b_int bt_int (pa_cons (pe_ix (ix_U (K := e.K)) (pv 0) pe_int (fun _ _ => rfl)) pa_nil)) (pv 2)))
    (pss_cons (ps_asg (pe_op op_divW (pe_ix (ix_U (K := e.K)) (pv 0) pe_int (fun _ _ => rfl)) (pv 2)) (pg_sub (pv 0) pe_int set_list))
    (pss_one (ps_ret (pv 3)))))), ?_⟩
  walk_at "go"
  refine r_cut (fun σ' H' => ∃ x y : Int, σ' = [some (.ref a), some (.ref b), some (.int m), none] ∧ Stp a H H' ∧ H' a = some (.lst [.int x, .int y])) ?_ ?_
  · walk_at "go"
    refine r_ite (fun _ => ?_) (fun _ => ?_)
    · walk_at "go"
      refine ⟨b, x, rfl, rfl, hs, fun d => ?_⟩
      walk_at "go"
      rename_i H1 hp1 kp1 H2 hp2 kp2
      exact ⟨x + 1, d, rfl, ((Stp.refl dr).but hp1 kp1).but hp2 kp2, hp2⟩
    · walk_at "go"
      exact ⟨x, y, rfl, Stp.refl dr, ha⟩
  · rintro σ' H' ⟨x, y, rfl, s1, h1⟩
    walk_at "go"
    rename_i H2 hp2 kp2
    exact k _ _ (Int.emod_nonneg _ (by omega)) (Int.emod_lt_of_pos _ hm.1) (s1.but hp2 kp2)
theorem use_draw {K : PySem.W.Frag} {a b : Addr} {m : Int} {H : Hp} {Q : VK} {E : XK} (h1 : Drw H a) (h2 : Scr K H b) (h3 : 0 < m) (h4 : m < 1208925819614629174706176) (k : ∀ d H', 0 ≤ d → d < m → Stp a H H' → Q (.int d) H') : sp_l_draw K [.ref a, .ref b, .int m] H Q E :=
  ⟨a, b, m, rfl, rfl, rfl, h1, h2, ⟨h3, h4⟩, k⟩
local macro_rules | `(tactic| walk_at "call") => `(tactic| ((with_reducible refine' use_draw ?h1 ?h2 ?h3 ?h4 ?_); (case h1 => walk_at "hp"); (case h2 => walk_at "hp"); (case h3 => walk_at "nat"); (case h4 => walk_at "nat"); intro d H' d0 d1 st))

/-! ### _law_pick -/
abbrev s_l_pick : Stmt := top 25
abbrev N_l_pick : List Str := ["_law_state", "_law_script", "_law_signs", "_law_k"]
theorem sc_l_pick : FnScope N_l_pick ["_law_state", "_law_script", "_law_signs"] (defScope s_l_pick) := ⟨rfl, rfl, rfl, by decide +kernel, rfl, by decide +kernel, by decide +kernel⟩
theorem bi_l_pick : BindOk "_law_pick" s_l_pick ["_law_state", "_law_script", "_law_signs"] := fun _ _ _ _ _ _ us hl => match us, hl with | [_, _, _], _ => rfl
def sp_l_pick (K : PySem.W.Frag) : Sp := sp3 fun st sc n H Q _ => ∃ a b z, st = .ref a ∧ sc = .ref b ∧ n = .str z ∧ Drw H a ∧ Scr K H b ∧ (0 < z.length ∧ z.length ≤ 1000) ∧ ∀ s H', (∃ c, c ∈ TL.tl z ∧ s = ⟨#[c]⟩) → Stp a H H' → Q (.str s) H'
theorem ok_l_pick {e : Wd} (D : DefAt e "_law_pick" s_l_pick) (B : Bl e.mg) (c_l_draw : Can e 2 "_law_draw" ["_law_state", "_law_script", "_law_size"] (sp_l_draw e.K)) : Can e 3 "_law_pick" ["_law_state", "_law_script", "_law_signs"] (sp_l_pick e.K) := by
  refine can_of D sc_l_pick bi_l_pick (fun _ _ _ _ h => sp3_len h) (fun cdv f A outer s H vs Q E hr h => ?_)
  obtain ⟨v0, v1, v2, rfl, h⟩ := sp3_ex h
  have nd := sc_l_pick.nd
  obtain ⟨a, b, z, rfl, rfl, rfl, dr, hs, ⟨hz1, hz2⟩, k⟩ := h
  refine ⟨_, (pss_cons (ps_set (i := 3) nd rfl (by first | exact Or.inl rfl | exact Or.inr rfl) (pe_can c_l_draw (hr.mono (by first | decide | omega)) passL (pa_cons (pv 0) (pa_cons (pv 1) (pa_cons (pe_callB (call_lenU (K := e.K)) (by rfl) B.b_len bt_len (pa_cons (pv 2) pa_nil)) pa_nil)))))
    (pss_one (ps_ret (pe_slice (sl_U (K := e.K)) (pv 2) (po_some (pv 3)) (po_some (pe_op (op_addU (K := e.K)) (pv 3) pe_int)))))), ?_⟩
  walk_at "go"
  rename_i d H' d0 d1 st
  obtain ⟨c, h1, h2⟩ := cut_one d0 d1
  exact k _ _ ⟨c, h1, h2⟩ st
theorem use_pick {K : PySem.W.Frag} {a b : Addr} {z : Str} {H : Hp} {Q : VK} {E : XK} (h1 : Drw H a) (h2 : Scr K H b) (h3 : 0 < z.length) (h4 : z.length ≤ 1000) (k : ∀ s H', (∃ c, c ∈ TL.tl z ∧ s = ⟨#[c]⟩) → Stp a H H' → Q (.str s) H') : sp_l_pick K [.ref a, .ref b, .str z] H Q E :=
  ⟨a, b, z, rfl, rfl, rfl, h1, h2, ⟨h3, h4⟩, k⟩
local macro_rules | `(tactic| walk_at "call") => `(tactic| ((with_reducible refine' use_pick ?h1 ?h2 ?h3 ?h4 ?_); (case h1 => walk_at "hp"); (case h2 => walk_at "hp"); (case h3 => walk_at "nat"); (case h4 => walk_at "nat"); intro s H' hs st))

/-! ### _law_domain -/
abbrev s_l_domain : Stmt := top 28
abbrev N_l_domain : List Str := ["_law_state", "_law_script", "_law_ends", "_law_labels", "_law_k", "_law_middle"]
theorem sc_l_domain : FnScope N_l_domain ["_law_state", "_law_script"] (defScope s_l_domain) := ⟨rfl, rfl, rfl, by decide +kernel, rfl, by decide +kernel, by decide +kernel⟩
theorem bi_l_domain : BindOk "_law_domain" s_l_domain ["_law_state", "_law_script"] := fun _ _ _ _ _ _ us hl => match us, hl with | [_, _], _ => rfl
def sp_l_domain (K : PySem.W.Frag) : Sp := sp2 fun st sc H Q _ => ∃ a b, st = .ref a ∧ sc = .ref b ∧ Drw H a ∧ Scr K H b ∧ ∀ s H', Dom (TL.tl s) → Stp a H H' → Q (.str s) H'
theorem ok_l_domain {e : Wd} (D : DefAt e "_law_domain" s_l_domain) (B : Bl e.mg) (c_l_draw : Can e 2 "_law_draw" ["_law_state", "_law_script", "_law_size"] (sp_l_draw e.K)) (c_l_pick : Can e 3 "_law_pick" ["_law_state", "_law_script", "_law_signs"] (sp_l_pick e.K)) : Can e 4 "_law_domain" ["_law_state", "_law_script"] (sp_l_domain e.K) := by
  refine can_of D sc_l_domain bi_l_domain (fun _ _ _ _ h => sp2_len h) (fun cdv f A outer s H vs Q E hr h => ?_)
  obtain ⟨v0, v1, rfl, h⟩ := sp2_ex h
  have nd := sc_l_domain.nd
  obtain ⟨a, b, rfl, rfl, dr, hs, k⟩ := h
  have n1 : (Str.ofString ".").length = 1 := by decide +kernel
  have z1 : 0 < dEnds.length := by decide +kernel
  have z2 : dEnds.length ≤ 1000 := by decide +kernel
  refine ⟨_, (pss_cons (ps_set (i := 2) nd rfl (by first | exact Or.inl rfl | exact Or.inr rfl) pe_str)
    (pss_cons (ps_set (i := 3) nd rfl (by first | exact Or.inl rfl | exact Or.inr rfl) (pe_lst pa_nil))
    (pss_cons (ps_for PassesOwn.never rfl (pi_range1 rfl B.b_range (pa_cons (pe_op (op_addU (K := e.K)) pe_int (pe_can c_l_draw (hr.mono (by first | decide | omega)) passL (pa_cons (pv 0) (pa_cons (pv 1) (pa_cons pe_int pa_nil))))) pa_nil)) (pg_name (i := 4) nd rfl (by first | exact Or.inl rfl | exact Or.inr rfl)) (pss_cons (ps_set (i := 5) nd rfl (by first | exact Or.inl rfl | exact Or.inr rfl) (pe_ix (ix_U (K := e.K)) (pe_lst (pa_cons pe_str (pa_cons pe_str (pa_cons pe_str (pa_cons pe_str (pa_cons pe_str pa_nil)))))) (pe_can c_l_draw (hr.mono (by first | decide | omega)) passL (pa_cons (pv 0) (pa_cons (pv 1) (pa_cons pe_int pa_nil)))) (fun _ _ => rfl)))
    (pss_one (ps_expr (pe_bmU (K := e.K) PySem.F.plainAttrs_list PySem.F.slot_list_append PySem.F.type_list_append mt_append (pv 3) (pa_cons (pe_op (op_addU (K := e.K)) (pe_op (op_addU (K := e.K)) (pe_can c_l_pick (hr.mono (by first | decide | omega)) passL (pa_cons (pv 0) (pa_cons (pv 1) (pa_cons (pv 2) pa_nil)))) (pv 5)) (pe_can c_l_pick (hr.mono (by first | decide | omega)) passL (pa_cons (pv 0) (pa_cons (pv 1) (pa_cons (pv 2) pa_nil))))) pa_nil))))))
    (pss_one (ps_ret (pe_bmU (K := e.K) PySem.F.plainAttrs_str PySem.F.slot_str_join PySem.F.type_str_join (mt_joinU (K := e.K)) pe_str (pa_cons (pv 3) pa_nil))))))), ?_⟩
  walk_at "go"
  rename_i D H0 np0 sm0 hp0 d H1 d0 d1 s1
  have s01 : Stp a H H1 := (Stp.same dr sm0).trans s1
  refine for_rng (fun i σ' H' => ∃ (ss : List Str) (x y : Option V), σ' = [some (.ref a), some (.ref b), some (.str dEnds), some (.ref D), x, y] ∧ Stp a H H' ∧ H' D = some (.lst (ss.map V.str)) ∧ ss.length = i ∧ ∀ s ∈ ss, Lab (TL.tl s)) (by omega) (by omega) ?_ ?_ ?_
  · exact ⟨[], none, none, rfl, s01, s1.at_ hp0 (ne_drw dr np0), rfl, fun s hs => nomatch hs⟩
  · rintro i σ' H' hi ⟨ss, x, y, rfl, s2, hD, hl, hw⟩
    have hs' : Scr e.K H' b := hs.mono s2.gro
    have na : D ≠ a := ne_drw dr np0
    have dr' : Drw H' a := s2.drw
    walk_at "go"
    rename_i p3 H3 np3 sm3 hp3 d4 H4 d40 d41 s4
    have h4 := s4.at_ hp3 (ne_drw' np3 dr')
    obtain ⟨v, hv, hm0⟩ := atI_get (xs := [V.str "", V.str "-", V.str "--", V.str "x-y", V.str "z9"]) d40 (by simpa using d41)
    obtain ⟨m, rfl, hm⟩ : ∃ m, v = V.str m ∧ m ∈ ["", "-", "--", "x-y", "z9"].map Str.ofString := by
      simp only [List.mem_cons, List.not_mem_nil, or_false] at hm0
      rcases hm0 with h | h | h | h | h <;> exact ⟨_, h, by simp⟩
    refine r_ixL (SqL.of h4) hv ?_
    have ml : m.length ≤ 3 := by
      have key : ∀ z ∈ ["", "-", "--", "x-y", "z9"].map Str.ofString, z.length ≤ 3 := by decide +kernel
      exact key m hm
    have hD4 : H4 D = some (.lst (ss.map V.str)) := s4.at_ (sm3 _ _ hD) na
    walk_at "go"
    rename_i s5 H5 hs5 st5
    obtain ⟨c5, hc5, rfl⟩ := hs5
    have o1 : ∀ c : Nat, (⟨#[c]⟩ : Str).length = 1 := fun _ => rfl
    have oc := o1 c5
    walk_at "go"
    rename_i s6 H6 hs6 st6
    obtain ⟨c6, hc6, rfl⟩ := hs6
    have oc6 := o1 c6
    have hD6 : H6 D = some (.lst (ss.map V.str)) := st6.at_ (st5.at_ hD4 na) na
    have hl3 : ss.length ≤ 3 := by omega
    walk_at "go"
    rename_i H7 hp7 kp7
    refine ⟨ss ++ [((⟨#[c5]⟩ : Str) ++ m) ++ (⟨#[c6]⟩ : Str)], _, _, rfl, ?_, by rw [hp7, List.map_append] <;> rfl, by simp [hl], fun s hs => ?_⟩
    · have s6 : Stp a H H6 := ((((s2.snd sm3).trans s4).trans st5).trans st6)
      refine ⟨fun q o h n => ?_, ⟨fun q xs h => ?_, fun q o u h => ?_⟩, ?_⟩
      · have nq : q ≠ D := fun e => by
          rw [e, np0] at h
          cases h
        rw [kp7 q nq]
        exact s6.fr q o h n
      · rw [kp7 q (ne_of (s6.gro.tup q xs h) hD6 (by intro z; cases z))]
        exact s6.gro.tup q xs h
      · rw [kp7 q (ne_of (s6.gro.frz q o u h) hD6 (by intro z; cases z))]
        exact s6.gro.frz q o u h
      · obtain ⟨u, v, q⟩ := s6.drw
        exact ⟨u, v, by rw [kp7 a (Ne.symm na)]; exact q⟩
    · rcases List.mem_append.mp hs with hs | hs
      · exact hw s hs
      · rw [List.mem_singleton.mp hs]
        exact lab_of hc5 hc6 hm
  · rintro σ' H' ⟨ss, x, y, rfl, s2, hD, hl, hw⟩
    walk_at "go"
    have hsum : (ss.map (·.length)).sum ≤ 5 * ss.length := sum_le fun s hs => by
      rw [TL.len_tl]
      exact (hw s hs).hi
    refine r_join hD (by rw [n1]; omega) ?_
    refine k _ _ ⟨⟨ss.map TL.tl, tl_joinDot ss, by simp; omega, by simp; omega, fun w h => ?_⟩⟩ s2
    obtain ⟨s, hs, rfl⟩ := List.mem_map.mp h
    exact hw s hs
theorem use_domain {K : PySem.W.Frag} {a b : Addr} {H : Hp} {Q : VK} {E : XK} (h1 : Drw H a) (h2 : Scr K H b) (k : ∀ s H', Dom (TL.tl s) → Stp a H H' → Q (.str s) H') : sp_l_domain K [.ref a, .ref b] H Q E :=
  ⟨a, b, rfl, rfl, h1, h2, k⟩
local macro_rules | `(tactic| walk_at "call") => `(tactic| ((with_reducible refine' use_domain ?h1 ?h2 ?_); (case h1 => walk_at "hp"); (case h2 => walk_at "hp"); intro s H' hs st))

/-! ### _law_line -/
abbrev s_l_line : Stmt := top 29
abbrev N_l_line : List Str := ["_law_state", "_law_script", "_law_pool", "_law_kind", "_law_signs", "_law_k"]
theorem sc_l_line : FnScope N_l_line ["_law_state", "_law_script"] (defScope s_l_line) := ⟨rfl, rfl, rfl, by decide +kernel, rfl, by decide +kernel, by decide +kernel⟩
theorem bi_l_line : BindOk "_law_line" s_l_line ["_law_state", "_law_script"] := fun _ _ _ _ _ _ us hl => match us, hl with | [_, _], _ => rfl
def sp_l_line (K : PySem.W.Frag) : Sp := sp2 fun st sc H Q _ => ∃ a b, st = .ref a ∧ sc = .ref b ∧ Drw H a ∧ Scr K H b ∧ ∀ s H', Lin s → Stp a H H' → Q (.str s) H'
theorem ok_l_line {e : Wd} (D : DefAt e "_law_line" s_l_line) (B : Bl e.mg) (c_l_draw : Can e 2 "_law_draw" ["_law_state", "_law_script", "_law_size"] (sp_l_draw e.K)) (c_l_pick : Can e 3 "_law_pick" ["_law_state", "_law_script", "_law_signs"] (sp_l_pick e.K)) : Can e 4 "_law_line" ["_law_state", "_law_script"] (sp_l_line e.K) := by
  refine can_of D sc_l_line bi_l_line (fun _ _ _ _ h => sp2_len h) (fun cdv f A outer s H vs Q E hr h => ?_)
  obtain ⟨v0, v1, rfl, h⟩ := sp2_ex h
  have nd := sc_l_line.nd
  obtain ⟨a, b, rfl, rfl, dr, hs, k⟩ := h
  have n0 : (Str.ofString "").length = 0 := by decide +kernel
  have z1 : 0 < signs.length := by decide +kernel
  have z2 : signs.length ≤ 1000 := by decide +kernel
  refine ⟨_, (pss_cons (ps_set (i := 2) nd rfl (by first | exact Or.inl rfl | exact Or.inr rfl) (pe_lst (pa_cons pe_str (pa_cons pe_str (pa_cons pe_str (pa_cons pe_str (pa_cons pe_str (pa_cons pe_str (pa_cons pe_str (pa_cons pe_str (pa_cons pe_str (pa_cons pe_str pa_nil))))))))))))
    (pss_cons (ps_set (i := 3) nd rfl (by first | exact Or.inl rfl | exact Or.inr rfl) (pe_can c_l_draw (hr.mono (by first | decide | omega)) passL (pa_cons (pv 0) (pa_cons (pv 1) (pa_cons pe_int pa_nil)))))
    (pss_cons (ps_if (pt_cmpR (op_eqU (K := e.K) hr) (pv 3) pe_int (nomark _)) (pss_one (ps_ret (pe_ix (ix_U (K := e.K)) (pv 2) (pe_can c_l_draw (hr.mono (by first | decide | omega)) passL (pa_cons (pv 0) (pa_cons (pv 1) (pa_cons pe_int pa_nil)))) (fun _ _ => rfl)))) pss_nil)
    (pss_cons (ps_set (i := 4) nd rfl (by first | exact Or.inl rfl | exact Or.inr rfl) pe_str)
    (pss_one (ps_ret (pe_bmU (K := e.K) PySem.F.plainAttrs_str PySem.F.slot_str_join PySem.F.type_str_join (mt_joinU (K := e.K)) pe_str (pa_cons (pe_lc (own := [("_law_k", 5)]) (tt := tYes) rfl nd (pi_range1 rfl B.b_range (pa_cons (pe_can c_l_draw (hr.mono (by first | decide | omega)) passL (pa_cons (pv 0) (pa_cons (pv 1) (pa_cons pe_int pa_nil)))) pa_nil)) (blkOk_by (N := N_l_line) (sc := defScope s_l_line) (by decide +kernel)) (fun _ _ _ _ _ => (pg_name (i := 5) nd rfl (by first | exact Or.inl rfl | exact Or.inr rfl))) (fun _ _ _ _ _ => pts_nil) (fun _ _ _ _ _ => (pe_can c_l_pick (hr.mono (by first | decide | omega)) passL (pa_cons (pv 0) (pa_cons (pv 1) (pa_cons (pv 4) pa_nil)))))) pa_nil)))))))), ?_⟩
  walk_at "go"
  rename_i p1 H1 np1 sm1 hp1 d H2 d0 d1 s2
  have h2 : H2 p1 = some (.lst (pool.map V.str)) := s2.at_ hp1 (ne_drw dr np1)
  have s12 : Stp a H H2 := (Stp.same dr sm1).trans s2
  clear hp1
  refine r_ite (fun _ => ?_) (fun _ => ?_)
  · walk_at "go"
    rename_i d3 H3 d30 d31 s3
    obtain ⟨v, hv, hm0⟩ := atI_get (xs := pool.map V.str) d30 (by simpa [pool] using d31)
    obtain ⟨m, hm, rfl⟩ := List.mem_map.mp hm0
    refine r_ixL (SqL.of (s3.at_ h2 (ne_drw dr np1))) hv ?_
    exact k _ _ (pool_lin m hm) (s12.trans s3)
  · walk_at "go"
    rename_i d3 H3 d30 d31 s3
    refine lcr_draw (a := a) (fun _ q => ∃ s, q = PyData.str s ∧ ∃ c, c ∈ TL.tl signs ∧ s = ⟨#[c]⟩) s3.drw (by omega) (by omega) (fun _ => rfl) (fun j H4 Q1 _ s4 k1 => ?_) fun D H4 ys ds hD s4 hl dq el pp => ?_
    · walk_at "go"
      exact k1 _ _ _ (by assumption) (.str _) ⟨_, rfl, by assumption⟩
    · obtain ⟨ss, e1, e2, e3⟩ := dq.all_strs pp
      subst e1
      walk_at "go"
      refine r_join hl ?_ ?_
      · rw [sum_ones e3, n0]
        omega
      · have w := wrd_join e3 rfl
        exact k _ _ ⟨by have := w.len; omega, fun c hc => signs_lin c (w.sg c hc)⟩ ((s12.trans s3).trans s4)
theorem use_line {K : PySem.W.Frag} {a b : Addr} {H : Hp} {Q : VK} {E : XK} (h1 : Drw H a) (h2 : Scr K H b) (k : ∀ s H', Lin s → Stp a H H' → Q (.str s) H') : sp_l_line K [.ref a, .ref b] H Q E :=
  ⟨a, b, rfl, rfl, h1, h2, k⟩
local macro_rules | `(tactic| walk_at "call") => `(tactic| ((with_reducible refine' use_line ?h1 ?h2 ?_); (case h1 => walk_at "hp"); (case h2 => walk_at "hp"); intro s H' hs st))

/-! ### _law_lines -/
abbrev s_l_lines : Stmt := top 30
abbrev N_l_lines : List Str := ["_law_state", "_law_script", "_law_most", "_law_k"]
theorem sc_l_lines : FnScope N_l_lines ["_law_state", "_law_script", "_law_most"] (defScope s_l_lines) := ⟨rfl, rfl, rfl, by decide +kernel, rfl, by decide +kernel, by decide +kernel⟩
theorem bi_l_lines : BindOk "_law_lines" s_l_lines ["_law_state", "_law_script", "_law_most"] := fun _ _ _ _ _ _ us hl => match us, hl with | [_, _, _], _ => rfl
def sp_l_lines (K : PySem.W.Frag) : Sp := sp3 fun st sc n H Q _ => ∃ a b m, st = .ref a ∧ sc = .ref b ∧ n = .int m ∧ Drw H a ∧ Scr K H b ∧ 0 ≤ m ∧ m ≤ 1000 ∧ ∀ p (ss : List Str) H', (∀ s ∈ ss, Lin s) → (ss.length : Int) ≤ m → H' p = some (.tup (ss.map V.str)) → Stp a H H' → Q (.ref p) H'
theorem ok_l_lines {e : Wd} (D : DefAt e "_law_lines" s_l_lines) (B : Bl e.mg) (c_l_line : Can e 4 "_law_line" ["_law_state", "_law_script"] (sp_l_line e.K)) (c_l_draw : Can e 2 "_law_draw" ["_law_state", "_law_script", "_law_size"] (sp_l_draw e.K)) : Can e 5 "_law_lines" ["_law_state", "_law_script", "_law_most"] (sp_l_lines e.K) := by
  refine can_of D sc_l_lines bi_l_lines (fun _ _ _ _ h => sp3_len h) (fun cdv f A outer s H vs Q E hr h => ?_)
  obtain ⟨v0, v1, v2, rfl, h⟩ := sp3_ex h
  have nd := sc_l_lines.nd
  obtain ⟨a, b, m, rfl, rfl, rfl, dr, hs, hm0, hm1, k⟩ := h
  refine ⟨_, (pss_one (ps_ret (pe_callTy (call_tupleU (K := e.K)) (by rfl) B.b_tuple bt_tuple (pa_cons (pe_lc (own := [("_law_k", 3)]) (tt := tYes) rfl nd (pi_range1 rfl B.b_range (pa_cons (pe_can c_l_draw (hr.mono (by first | decide | omega)) passL (pa_cons (pv 0) (pa_cons (pv 1) (pa_cons (pe_op (op_addU (K := e.K)) (pv 2) pe_int) pa_nil)))) pa_nil)) (blkOk_by (N := N_l_lines) (sc := defScope s_l_lines) (by decide +kernel)) (fun _ _ _ _ _ => (pg_name (i := 3) nd rfl (by first | exact Or.inl rfl | exact Or.inr rfl))) (fun _ _ _ _ _ => pts_nil) (fun _ _ _ _ _ => (pe_can c_l_line (hr.mono (by first | decide | omega)) passL (pa_cons (pv 0) (pa_cons (pv 1) pa_nil))))) pa_nil)))), ?_⟩
  walk_at "go"
  rename_i d3 H3 d30 d31 s3
  refine lcr_draw (a := a) (fun _ q => ∃ s, q = PyData.str s ∧ Lin s) s3.drw (by omega) (by omega) (fun _ => rfl) (fun j H4 Q1 _ s4 k1 => ?_) fun D H4 ys ds hD s4 hl dq el pp => ?_
  · walk_at "go"
    exact k1 _ _ _ (by assumption) (.str _) ⟨_, rfl, by assumption⟩
  · obtain ⟨ss, e1, e2, e3⟩ := dq.all_strs pp
    subst e1
    walk_at "go"
    rename_i p5 H5 np5 sm5 hp5
    exact k p5 ss _ e3 (by omega) hp5 ((s3.trans s4).snd sm5)
theorem use_lines {K : PySem.W.Frag} {a b : Addr} {m : Int} {H : Hp} {Q : VK} {E : XK} (h1 : Drw H a) (h2 : Scr K H b) (h3 : 0 ≤ m) (h4 : m ≤ 1000) (k : ∀ p (ss : List Str) H', (∀ s ∈ ss, Lin s) → (ss.length : Int) ≤ m → H' p = some (.tup (ss.map V.str)) → Stp a H H' → Q (.ref p) H') : sp_l_lines K [.ref a, .ref b, .int m] H Q E :=
  ⟨a, b, m, rfl, rfl, rfl, h1, h2, h3, h4, k⟩
local macro_rules | `(tactic| walk_at "call") => `(tactic| ((with_reducible refine' use_lines ?h1 ?h2 ?h3 ?h4 ?_); (case h1 => walk_at "hp"); (case h2 => walk_at "hp"); (case h3 => walk_at "nat"); (case h4 => walk_at "nat"); intro p ss H' hs hl hp st))

/-! ### _law_sender -/
abbrev s_l_sender : Stmt := top 31
abbrev N_l_sender : List Str := ["_law_state", "_law_script"]
theorem sc_l_sender : FnScope N_l_sender ["_law_state", "_law_script"] (defScope s_l_sender) := ⟨rfl, rfl, rfl, by decide +kernel, rfl, by decide +kernel, by decide +kernel⟩
theorem bi_l_sender : BindOk "_law_sender" s_l_sender ["_law_state", "_law_script"] := fun _ _ _ _ _ _ us hl => match us, hl with | [_, _], _ => rfl
def sp_l_sender (K : PySem.W.Frag) : Sp := sp2 fun st sc H Q _ => ∃ a b, st = .ref a ∧ sc = .ref b ∧ Drw H a ∧ Scr K H b ∧ ∀ v o H', Dq H' v (sndD o) → SndOk o → Stp a H H' → Q v H'
theorem ok_l_sender {e : Wd} (D : DefAt e "_law_sender" s_l_sender) (B : Bl e.mg) (c_l_draw : Can e 2 "_law_draw" ["_law_state", "_law_script", "_law_size"] (sp_l_draw e.K)) : Can e 3 "_law_sender" ["_law_state", "_law_script"] (sp_l_sender e.K) := by
  refine can_of D sc_l_sender bi_l_sender (fun _ _ _ _ h => sp2_len h) (fun cdv f A outer s H vs Q E hr h => ?_)
  obtain ⟨v0, v1, rfl, h⟩ := sp2_ex h
  have nd := sc_l_sender.nd
  obtain ⟨a, b, rfl, rfl, dr, hs, k⟩ := h
  have n1 : (Str.ofString "s").length = 1 := by decide +kernel
  refine ⟨_, (pss_cons (ps_if (pt_cmpR (op_eqU (K := e.K) hr) (pe_can c_l_draw (hr.mono (by first | decide | omega)) passL (pa_cons (pv 0) (pa_cons (pv 1) (pa_cons pe_int pa_nil)))) pe_int (nomark _)) (pss_one (ps_ret pe_non)) pss_nil)
    (pss_one (ps_ret (pe_tup (pa_cons (pe_op (op_addU (K := e.K)) pe_str (pe_callTy call_strU (by rfl) B.b_str bt_str (pa_cons (pe_can c_l_draw (hr.mono (by first | decide | omega)) passL (pa_cons (pv 0) (pa_cons (pv 1) (pa_cons pe_int pa_nil)))) pa_nil))) (pa_cons pe_str pa_nil)))))), ?_⟩
  walk_at "go"
  rename_i d1 H1 d10 d11 s1
  refine r_ite (fun _ => ?_) (fun _ => ?_)
  · walk_at "go"
    exact k .non none H1 .non (fun _ z => by cases z) s1
  · walk_at "go"
    rename_i d2 H2 d20 d21 s2
    have hz := (digit_of d20 (by omega)).2
    refine r_strI (dig_log d20 (by omega)) ?_
    refine r_addS (by rw [n1, sizeLine_eq]; omega) ?_
    walk_at "go"
    rename_i p H3 np sm hp
    exact k (.ref p) (some (Str.ofString "s" ++ toString d2, Str.ofString "x.org")) H3 (.tup hp (.cons (.str _) (.cons (.str _) .nil))) (fun _ z => by cases z; exact adr_ok asc_s d20 (by omega) asc_x (by decide +kernel) (by decide +kernel)) ((s1.trans s2).snd sm)
theorem use_sender {K : PySem.W.Frag} {a b : Addr} {H : Hp} {Q : VK} {E : XK} (h1 : Drw H a) (h2 : Scr K H b) (k : ∀ v o H', Dq H' v (sndD o) → SndOk o → Stp a H H' → Q v H') : sp_l_sender K [.ref a, .ref b] H Q E := ⟨a, b, rfl, rfl, h1, h2, k⟩

/-! ### _law_addresses -/
abbrev s_l_addresses : Stmt := top 32
abbrev N_l_addresses : List Str := ["_law_state", "_law_script", "_law_most", "_law_count", "_law_k"]
theorem sc_l_addresses : FnScope N_l_addresses ["_law_state", "_law_script", "_law_most"] (defScope s_l_addresses) := ⟨rfl, rfl, rfl, by decide +kernel, rfl, by decide +kernel, by decide +kernel⟩
theorem bi_l_addresses : BindOk "_law_addresses" s_l_addresses ["_law_state", "_law_script", "_law_most"] := fun _ _ _ _ _ _ us hl => match us, hl with | [_, _, _], _ => rfl
def sp_l_addresses (K : PySem.W.Frag) : Sp := sp3 fun st sc n H Q _ => ∃ a b m, st = .ref a ∧ sc = .ref b ∧ n = .int m ∧ Drw H a ∧ Scr K H b ∧ 0 ≤ m ∧ m ≤ 900 ∧ ∀ p (l : List Adr) H', Dq H' (.ref p) (viaD l) → (∀ z ∈ l, AdrOk z) → (l.length : Int) ≤ m → Stp a H H' → Q (.ref p) H'
theorem ok_l_addresses {e : Wd} (D : DefAt e "_law_addresses" s_l_addresses) (B : Bl e.mg) (c_l_draw : Can e 2 "_law_draw" ["_law_state", "_law_script", "_law_size"] (sp_l_draw e.K)) : Can e 3 "_law_addresses" ["_law_state", "_law_script", "_law_most"] (sp_l_addresses e.K) := by
  refine can_of D sc_l_addresses bi_l_addresses (fun _ _ _ _ h => sp3_len h) (fun cdv f A outer s H vs Q E hr h => ?_)
  obtain ⟨v0, v1, v2, rfl, h⟩ := sp3_ex h
  have nd := sc_l_addresses.nd
  obtain ⟨a, b, m, rfl, rfl, rfl, dr, hs, hm0, hm1, k⟩ := h
  have n1 : (Str.ofString "r").length = 1 := by decide +kernel
  refine ⟨_, (pss_cons (ps_set (i := 3) nd rfl (by first | exact Or.inl rfl | exact Or.inr rfl) (pe_can c_l_draw (hr.mono (by first | decide | omega)) passL (pa_cons (pv 0) (pa_cons (pv 1) (pa_cons (pe_op (op_addU (K := e.K)) (pv 2) pe_int) pa_nil)))))
    (pss_one (ps_ret (pe_callTy (call_tupleU (K := e.K)) (by rfl) B.b_tuple bt_tuple (pa_cons (pe_lc (own := [("_law_k", 4)]) (tt := tYes) rfl nd (pi_range1 rfl B.b_range (pa_cons (pv 3) pa_nil)) (blkOk_by (N := N_l_addresses) (sc := defScope s_l_addresses) (by decide +kernel)) (fun _ _ _ _ _ => (pg_name (i := 4) nd rfl (by first | exact Or.inl rfl | exact Or.inr rfl))) (fun _ _ _ _ _ => pts_nil) (fun _ _ _ _ _ => (pe_tup (pa_cons (pe_op (op_addU (K := e.K)) pe_str (pe_callTy call_strU (by rfl) B.b_str bt_str (pa_cons (pe_can c_l_draw (hr.mono (by first | decide | omega)) passL (pa_cons (pv 0) (pa_cons (pv 1) (pa_cons pe_int pa_nil)))) pa_nil))) (pa_cons (pe_ix (ix_U (K := e.K)) (pe_lst (pa_cons pe_str (pa_cons pe_str pa_nil))) (pe_can c_l_draw (hr.mono (by first | decide | omega)) passL (pa_cons (pv 0) (pa_cons (pv 1) (pa_cons pe_int pa_nil)))) (fun _ _ => rfl)) pa_nil))))) pa_nil))))), ?_⟩
  walk_at "go"
  rename_i d1 H1 d10 d11 s1
  refine lcr_draw (a := a) (fun _ q => ∃ z, q = adrD z ∧ AdrOk z) s1.drw (by omega) (by omega) (fun _ => rfl) (fun j H4 Q1 _ s4 k1 => ?_) fun D H4 ys ds hD s4 hl dq el pp => ?_
  · walk_at "go"
    rename_i d2 H5 d20 d21 s5
    have hz := (digit_of d20 (by omega)).2
    refine r_strI (dig_log d20 (by omega)) ?_
    refine r_addS (by rw [n1, sizeLine_eq]; omega) ?_
    have dr5 := s5.drw
    walk_at "go"
    rename_i pl H6 np6 m6 hp6 d3 H7 d30 d31 s7
    have hl7 : H7 pl = some (.lst [V.str (Str.ofString "x.org"), V.str (Str.ofString "y.net")]) := s7.at_ hp6 (ne_drw' np6 dr5)
    obtain ⟨v, hv, hm0⟩ := atI_get (xs := [V.str (Str.ofString "x.org"), V.str (Str.ofString "y.net")]) d30 (by simpa using d31)
    refine r_ixL (SqL.of hl7) hv ?_
    have s57 : Stp a H4 H7 := (s5.snd m6).trans s7
    have ok : ∃ y, v = V.str y ∧ Asc y ∧ y.length ≤ 100 := by
      simp only [List.mem_cons, List.not_mem_nil, or_false] at hm0
      rcases hm0 with rfl | rfl
      · exact ⟨_, rfl, asc_x, by decide +kernel⟩
      · exact ⟨_, rfl, asc_y, by decide +kernel⟩
    obtain ⟨y, rfl, ya, yl⟩ := ok
    walk_at "go"
    rename_i pt H8 n8 m8 h8
    exact k1 _ _ _ (s57.snd m8) (.tup h8 (.cons (.str _) (.cons (.str _) .nil))) ⟨_, rfl, adr_ok asc_r d20 (by omega) ya (by decide +kernel) yl⟩
  · obtain ⟨l, rfl, hlk⟩ := all_adr pp
    walk_at "go"
    rename_i p5 H5 np5 sm5 hp5
    refine k p5 l _ (.tup hp5 (dq.mono (Gro.same sm5))) hlk ?_ ((s1.trans s4).snd sm5)
    rw [List.length_map] at el
    omega
theorem use_addresses {K : PySem.W.Frag} {a b : Addr} {m : Int} {H : Hp} {Q : VK} {E : XK} (h1 : Drw H a) (h2 : Scr K H b) (h3 : 0 ≤ m) (h4 : m ≤ 900) (k : ∀ p (l : List Adr) H', Dq H' (.ref p) (viaD l) → (∀ z ∈ l, AdrOk z) → (l.length : Int) ≤ m → Stp a H H' → Q (.ref p) H') : sp_l_addresses K [.ref a, .ref b, .int m] H Q E := ⟨a, b, m, rfl, rfl, rfl, h1, h2, h3, h4, k⟩

/-! ### _law_row_made -/
abbrev s_l_row_made : Stmt := top 33
abbrev N_l_row_made : List Str := ["_law_model_here", "_law_sender_here", "_law_recipient", "_law_lines_here", "_law_via", "_law_time", "_law_tag", "_law_rows"]
theorem sc_l_row_made : FnScope N_l_row_made ["_law_model_here", "_law_sender_here", "_law_recipient", "_law_lines_here", "_law_via", "_law_time"] (defScope s_l_row_made) := ⟨rfl, rfl, rfl, by decide +kernel, rfl, by decide +kernel, by decide +kernel⟩
theorem bi_l_row_made : BindOk "_law_row_made" s_l_row_made ["_law_model_here", "_law_sender_here", "_law_recipient", "_law_lines_here", "_law_via", "_law_time"] := fun _ _ _ _ _ _ us hl => match us, hl with | [_, _, _, _, _, _], _ => rfl
def sp_l_row_made (K : PySem.W.Frag) : Sp := sp6 fun self a1 a2 a3 a4 a5 H Q _ => ∃ F M snd r ls via t, MdA H self F M ∧ Dq H a1 (sndD snd) ∧ Dq H a2 (adrD r) ∧ Dq H a3 (sD ls) ∧ Dq H a4 (viaD via) ∧ a5 = .int t ∧ M.rows.length ≤ 900000 ∧
  ∀ p H', MdA H' self F (M.create snd r ls via t) → Chg F F H H' → Dq H' (.ref p) (tagD M.tagN) → Q (.ref p) H'
theorem ok_l_row_made {e : Wd} (D : DefAt e "_law_row_made" s_l_row_made) (B : Bl e.mg) : Can e 1 "_law_row_made" ["_law_model_here", "_law_sender_here", "_law_recipient", "_law_lines_here", "_law_via", "_law_time"] (sp_l_row_made e.K) := by
  refine can_of D sc_l_row_made bi_l_row_made (fun _ _ _ _ h => sp6_len h) (fun cdv f A outer s H vs Q E hr h => ?_)
  obtain ⟨v0, v1, v2, v3, v4, v5, rfl, h⟩ := sp6_ex h
  have nd := sc_l_row_made.nd
  obtain ⟨F, M, snd, r, ls, via, t, ⟨m, P, rfl, st, rfl, rfl⟩, d1, d2, d3, d4, rfl, hl, k⟩ := h
  have hl : P.rows.length ≤ 900000 := by
    have e : P.abs.rows.length = P.rows.length := List.length_map _
    rw [← e]
    exact hl
  have hm := st.d
  have g2 := md_serial (P := P)
  refine ⟨_, (pss_cons (ps_dput (hu_of hr) (pv 0) pe_str (pe_op (op_addU (K := e.K)) (pe_dget (hu_of hr) (pv 0) pe_str (fun _ _ => rfl)) pe_int) (by rfl))
    (pss_cons (ps_set (i := 6) nd rfl (by first | exact Or.inl rfl | exact Or.inr rfl) (pe_tup (pa_cons (pe_dget (hu_of hr) (pv 0) pe_str (fun _ _ => rfl)) (pa_cons (pe_dget (hu_of hr) (pv 0) pe_str (fun _ _ => rfl)) (pa_cons pe_int pa_nil)))))
    (pss_cons (ps_set (i := 7) nd rfl (by first | exact Or.inl rfl | exact Or.inr rfl) (pe_dget (hu_of hr) (pv 0) pe_str (fun _ _ => rfl)))
    (pss_cons (ps_dput (hu_of hr) (pv 7) (pv 6) (pe_tup (pa_cons (pv 6) (pa_cons (pv 1) (pa_cons (pv 2) (pa_cons (pv 3) (pa_cons (pv 4) (pa_cons (pv 5) (pa_cons pe_int (pa_cons (pv 5) (pa_cons pe_non pa_nil)))))))))) (by rfl))
    (pss_one (ps_ret (pv 6))))))), ?_⟩
  walk_at "go"
  refine r_dputV hm (by simp [mdF]) md_putS fun H1 h1 k1 => ?_
  have st1 := st.putD (s := P.serial + 1) (c := P.count) h1 k1
  have g1 : Gro H H1 := gro_mt (mt_dK hm) k1
  have e1 := md_domain (P := { P with serial := P.serial + 1 })
  have e2 := md_serial (P := { P with serial := P.serial + 1 })
  have e3 := md_rows (P := { P with serial := P.serial + 1 })
  clear hm g2
  walk_at "go"
  rename_i pt H2 np m2 h2 pr H3 nr m3 h3
  have st3 := st1.same (m2.trans m3)
  have g3 : Gro H H3 := g1.trans (Gro.same (m2.trans m3))
  have dt3 : Dq H3 (.ref pt) (tagD P.abs.tagN) := mk_tag (t := P.abs.tagN) (m3 _ _ h2)
  have dr3 : Dq H3 (.ref pr) (itmD P.abs.tagN ⟨snd, r, ls, via, t, 0, t, none⟩) := .tup h3 (.cons dt3 (.cons (d1.mono g3) (.cons (d2.mono g3) (.cons (d3.mono g3) (.cons (d4.mono g3) (.cons (.int _) (.cons (.int _) (.cons (.int _) (.cons .non .nil)))))))))
  refine r_dputT (g := rowV) (x := (.ref pr, ⟨snd, r, ls, via, t, 0, t, none⟩)) st3.r (by show P.rows.length < 1000000; omega) dt3 rfl fun H4 h4 k4 => ?_
  have st4 := st3.putR h4 k4 (fun e he => (mem_set he).elim (fun z => by rw [z]; exact dr3) fun z => st3.rws e z) (nodup_set st3.nr)
  walk_at "go"
  have c4 : Chg (P.fp m) (P.fp m) H H4 := ((mt_chg (mt_dK st.d) k1 mp_m).snd (m2.trans m3)).trans (mt_chg (mt_dT st3.r) k4 mp_r)
  refine k pt H4 ⟨m, _, rfl, st4, rfl, ?_⟩ c4 (dt3.mono (gro_mt (mt_dT st3.r) k4))
  exact (mabs_addR (P := { P with serial := P.serial + 1 })).symm
theorem use_row_made {K : PySem.W.Frag} {self a1 a2 a3 a4 : V} {F : List Addr} {M : Mx} {snd : Option Adr} {r : Adr} {ls : List Str} {via : List Adr} {t : Int} {H : Hp} {Q : VK} {E : XK} (h1 : MdA H self F M) (h2 : Dq H a1 (sndD snd)) (h3 : Dq H a2 (adrD r)) (h4 : Dq H a3 (sD ls)) (h5 : Dq H a4 (viaD via)) (h6 : M.rows.length ≤ 900000)
    (k : ∀ p H', MdA H' self F (M.create snd r ls via t) → Chg F F H H' → Dq H' (.ref p) (tagD M.tagN) → Q (.ref p) H') : sp_l_row_made K [self, a1, a2, a3, a4, .int t] H Q E := ⟨F, M, snd, r, ls, via, t, h1, h2, h3, h4, h5, rfl, h6, k⟩

/-! ### _law_event -/
abbrev s_l_event : Stmt := top 34
abbrev N_l_event : List Str := ["_law_state", "_law_script", "_law_model_here", "_law_kind", "_law_time", "_law_tags", "_law_lines_here", "_law_tag", "_law_sender_here", "_law_via", "_law_user", "_law_number"]
theorem sc_l_event : FnScope N_l_event ["_law_state", "_law_script", "_law_model_here"] (defScope s_l_event) := ⟨rfl, rfl, rfl, by decide +kernel, rfl, by decide +kernel, by decide +kernel⟩
theorem bi_l_event : BindOk "_law_event" s_l_event ["_law_state", "_law_script", "_law_model_here"] := fun _ _ _ _ _ _ us hl => match us, hl with | [_, _, _], _ => rfl
def sp_l_event (K : PySem.W.Frag) : Sp := sp3 fun st sc md H Q _ => ∃ a b m P, st = .ref a ∧ sc = .ref b ∧ md = .ref m ∧ Drw H a ∧ Scr K H b ∧ MdP H m P ∧ a ∉ P.fp m ∧ MLim P.abs ∧ (∀ u ∈ keysA P.bxs, Asc u) ∧
  ∀ p ev H', Stp a H H' → Dq H' (.ref p) (evD ev) → EvFit P.abs ev → EvG ev → Q (.ref p) H'
theorem e3_at2 {H : Hp} {v : V} {x : E3} (h : Dq H v (e3D x)) : ∃ t vl vf, v = .ref t ∧ H t = some (.tup [.int x.1, vl, vf]) ∧ Dq H vl (sD x.2.1) ∧ Dq H vf (sD x.2.2) := by
  cases h with
  | tup ha hs =>
    obtain ⟨w1, _, rfl, h1, hs⟩ := dqs1 hs
    obtain ⟨w2, _, rfl, h2, hs⟩ := dqs1 hs
    obtain ⟨w3, _, rfl, h3, hs⟩ := dqs1 hs
    cases dqs0 hs
    cases h1
    exact ⟨_, _, _, rfl, ha, h2, h3⟩
theorem ok_l_event {e : Wd} (D : DefAt e "_law_event" s_l_event) (B : Bl e.mg) (c_l_draw : Can e 2 "_law_draw" ["_law_state", "_law_script", "_law_size"] (sp_l_draw e.K)) (c_l_lines : Can e 5 "_law_lines" ["_law_state", "_law_script", "_law_most"] (sp_l_lines e.K)) (c_l_sender : Can e 3 "_law_sender" ["_law_state", "_law_script"] (sp_l_sender e.K)) (c_l_addresses : Can e 3 "_law_addresses" ["_law_state", "_law_script", "_law_most"] (sp_l_addresses e.K)) : Can e 6 "_law_event" ["_law_state", "_law_script", "_law_model_here"] (sp_l_event e.K) := by
  refine can_of D sc_l_event bi_l_event (fun _ _ _ _ h => sp3_len h) (fun cdv f A outer s H vs Q E hr h => ?_)
  obtain ⟨v0, v1, v2, rfl, h⟩ := sp3_ex h
  have nd := sc_l_event.nd
  obtain ⟨a, b, m, P, rfl, rfl, rfl, dr, hs, st, na, lim, bu, fin⟩ := h
  have g1 := md_rows (P := P)
  have g2 := md_boxes (P := P)
  have g3 := md_taken (P := P)
  have g4 := md_owed (P := P)
  have hma : m ≠ a := fun z => na (z ▸ mp_m)
  have hra : P.ra ≠ a := fun z => na (z ▸ mp_r)
  have hba : P.ba ≠ a := fun z => na (z ▸ mp_b)
  have hta : P.ta ≠ a := fun z => na (z ▸ mp_t)
  have hoa : P.oa ≠ a := fun z => na (z ▸ mp_o)
  have hm := st.d
  have hr0 := st.r
  refine ⟨_, (pss_cons (ps_set (i := 3) nd rfl (by first | exact Or.inl rfl | exact Or.inr rfl) (pe_can c_l_draw (hr.mono (by first | decide | omega)) passL (pa_cons (pv 0) (pa_cons (pv 1) (pa_cons pe_int pa_nil)))))
    (pss_cons (ps_set (i := 4) nd rfl (by first | exact Or.inl rfl | exact Or.inr rfl) (pe_can c_l_draw (hr.mono (by first | decide | omega)) passL (pa_cons (pv 0) (pa_cons (pv 1) (pa_cons pe_int pa_nil)))))
    (pss_cons (ps_set (i := 5) nd rfl (by first | exact Or.inl rfl | exact Or.inr rfl) (pe_callB (cr_sortD rfl hr.units) (by rfl) B.b_sorted bt_sorted (pa_cons (pe_dget (hu_of hr) (pv 2) pe_str (fun _ _ => rfl)) pa_nil)))
    (pss_cons (ps_set (i := 6) nd rfl (by first | exact Or.inl rfl | exact Or.inr rfl) (pe_can c_l_lines (hr.mono (by first | decide | omega)) passL (pa_cons (pv 0) (pa_cons (pv 1) (pa_cons pe_int pa_nil)))))
    (Evl.pss_cut (ps_if (PW.pt (pw_or (pt_cmpR op_leU (pv 3) pe_int (nomark _)) (pw_or1 (PW.pt (pw_and (pt_not (pt_tru (K := e.K) (pv 5))) (pw_and1 (pt_cmpR op_leU (pv 3) pe_int (nomark _)))))))) (pss_one (ps_ret (pe_tup (pa_cons pe_str (pa_cons (pe_can c_l_sender (hr.mono (by first | decide | omega)) passL (pa_cons (pv 0) (pa_cons (pv 1) pa_nil))) (pa_cons (pe_op (op_addU (K := e.K)) (pe_can c_l_addresses (hr.mono (by first | decide | omega)) passL (pa_cons (pv 0) (pa_cons (pv 1) (pa_cons pe_int pa_nil)))) (pe_tup (pa_cons (pe_tup (pa_cons pe_str (pa_cons pe_str pa_nil))) pa_nil))) (pa_cons (pv 6) (pa_cons (pv 4) pa_nil)))))))) pss_nil)
    (Evl.pss_cut (ps_if (pt_cmpR op_leU (pv 3) pe_int (nomark _)) (pss_cons (ps_set (i := 7) nd rfl (by first | exact Or.inl rfl | exact Or.inr rfl) (pe_tup (pa_cons pe_str (pa_cons (pe_op (op_addU (K := e.K)) pe_int (pe_can c_l_draw (hr.mono (by first | decide | omega)) passL (pa_cons (pv 0) (pa_cons (pv 1) (pa_cons pe_int pa_nil))))) (pa_cons (pe_op (op_addU (K := e.K)) pe_int (pe_can c_l_draw (hr.mono (by first | decide | omega)) passL (pa_cons (pv 0) (pa_cons (pv 1) (pa_cons pe_int pa_nil))))) pa_nil)))))
    (pss_one (ps_if (PW.pt (pw_and (pt_cmp (pc_dnotin (hu_of hr) (pv 7) (pe_dget (hu_of hr) (pv 2) pe_str (fun _ _ => rfl)))) (pw_and1 (pt_cmp (pc_dnotin (hu_of hr) (pv 7) (pe_dget (hu_of hr) (pv 2) pe_str (fun _ _ => rfl))))))) (pss_cons (ps_set (i := 8) nd rfl (by first | exact Or.inl rfl | exact Or.inr rfl) (pe_can c_l_sender (hr.mono (by first | decide | omega)) passL (pa_cons (pv 0) (pa_cons (pv 1) pa_nil))))
    (pss_cons (ps_set (i := 9) nd rfl (by first | exact Or.inl rfl | exact Or.inr rfl) (pe_can c_l_addresses (hr.mono (by first | decide | omega)) passL (pa_cons (pv 0) (pa_cons (pv 1) (pa_cons pe_int pa_nil)))))
    (pss_one (ps_ret (pe_tup (pa_cons pe_str (pa_cons pe_str (pa_cons (pv 7) (pa_cons (pv 8) (pa_cons (pe_tup (pa_cons pe_str (pa_cons pe_str pa_nil))) (pa_cons (pv 9) (pa_cons (pv 6) (pa_cons (pv 4) pa_nil))))))))))))) pss_nil))) pss_nil)
    (Evl.pss_cut (ps_if (PW.pt (pw_and (pt_cmpR op_leU (pv 3) pe_int (nomark _)) (pw_and1 (pt_tru (K := e.K) (pv 5))))) (pss_cons (ps_set (i := 7) nd rfl (by first | exact Or.inl rfl | exact Or.inr rfl) (pe_ix (ix_U (K := e.K)) (pv 5) (pe_can c_l_draw (hr.mono (by first | decide | omega)) passL (pa_cons (pv 0) (pa_cons (pv 1) (pa_cons (pe_callB (call_lenU (K := e.K)) (by rfl) B.b_len bt_len (pa_cons (pv 5) pa_nil)) pa_nil)))) (fun _ _ => rfl)))
    (pss_one (ps_ret (pe_ix (ix_U (K := e.K)) (pe_lst (pa_cons (pe_tup (pa_cons pe_str (pa_cons (pv 7) (pa_cons pe_str pa_nil)))) (pa_cons (pe_tup (pa_cons pe_str (pa_cons (pv 7) (pa_cons (pe_op (op_addU (K := e.K)) pe_int (pe_can c_l_draw (hr.mono (by first | decide | omega)) passL (pa_cons (pv 0) (pa_cons (pv 1) (pa_cons pe_int pa_nil))))) (pa_cons (pv 4) pa_nil))))) (pa_cons (pe_tup (pa_cons pe_str (pa_cons (pv 7) (pa_cons pe_str pa_nil)))) (pa_cons (pe_tup (pa_cons pe_str (pa_cons (pv 7) (pa_cons (pe_op (op_addU (K := e.K)) pe_str (pe_callTy call_strU (by rfl) B.b_str bt_str (pa_cons (pe_op op_modU (pv 4) pe_int) pa_nil))) pa_nil)))) (pa_cons (pe_tup (pa_cons pe_str (pa_cons (pv 7) (pa_cons (pe_op (op_addU (K := e.K)) pe_str (pe_callTy call_strU (by rfl) B.b_str bt_str (pa_cons (pv 4) pa_nil))) (pa_cons (pv 4) pa_nil))))) (pa_cons (pe_tup (pa_cons pe_str (pa_cons (pv 7) (pa_cons (pe_ix (ix_U (K := e.K)) (pe_lst (pa_cons pe_non (pa_cons (pe_tup (pa_cons pe_str (pa_cons pe_str pa_nil))) pa_nil))) (pe_op op_modU (pv 4) pe_int) (fun _ _ => rfl)) (pa_cons (pe_can c_l_addresses (hr.mono (by first | decide | omega)) passL (pa_cons (pv 0) (pa_cons (pv 1) (pa_cons pe_int pa_nil)))) (pa_cons (pv 4) pa_nil)))))) pa_nil))))))) (pe_op op_subU (pv 3) pe_int) (fun _ _ => rfl))))) pss_nil)
    (Evl.pss_cut (ps_if (PW.pt (pw_and (pt_cmpR op_leU (pv 3) pe_int (nomark _)) (pw_and1 (pt_truT (pe_dget (hu_of hr) (pv 2) pe_str (fun _ _ => rfl)))))) (pss_one (ps_ret (pe_tup (pa_cons pe_str (pa_cons (pe_ix (ix_U (K := e.K)) (pe_callB (cr_sortD rfl hr.units) (by rfl) B.b_sorted bt_sorted (pa_cons (pe_dget (hu_of hr) (pv 2) pe_str (fun _ _ => rfl)) pa_nil)) pe_int (fun _ _ => rfl)) pa_nil))))) pss_nil)
    (Evl.pss_cut (ps_if (PW.pt (pw_and (pt_cmpR op_leU (pv 3) pe_int (nomark _)) (pw_and1 (pt_truT (pe_dget (hu_of hr) (pv 2) pe_str (fun _ _ => rfl)))))) (pss_one (ps_ret (pe_tup (pa_cons pe_str (pa_cons (pe_ix (ix_U (K := e.K)) (pe_callB (cr_sortD rfl hr.units) (by rfl) B.b_sorted bt_sorted (pa_cons (pe_dget (hu_of hr) (pv 2) pe_str (fun _ _ => rfl)) pa_nil)) pe_int (fun _ _ => rfl)) pa_nil))))) pss_nil)
    (Evl.pss_cut (ps_for PassesOwn.never rfl (pi_U (K := e.K) (pe_callB (cr_sortD rfl hr.units) (by rfl) B.b_sorted bt_sorted (pa_cons (pe_dget (hu_of hr) (pv 2) pe_str (fun _ _ => rfl)) pa_nil))) (pg_name (i := 10) nd rfl (by first | exact Or.inl rfl | exact Or.inr rfl)) (pss_one (ps_if (pt_tru (K := e.K) (pe_dget (hu_of hr) (pe_dget (hu_of hr) (pv 2) pe_str (fun _ _ => rfl)) (pv 10) (fun _ _ => rfl))) (pss_cons (ps_set (i := 11) nd rfl (by first | exact Or.inl rfl | exact Or.inr rfl) (pe_ix (ix_U (K := e.K)) (pe_ix (ix_U (K := e.K)) (pe_dget (hu_of hr) (pe_dget (hu_of hr) (pv 2) pe_str (fun _ _ => rfl)) (pv 10) (fun _ _ => rfl)) pe_int (fun _ _ => rfl)) pe_int (fun _ _ => rfl)))
    (pss_one (ps_ret (pe_ix (ix_U (K := e.K)) (pe_lst (pa_cons (pe_tup (pa_cons pe_str (pa_cons (pv 10) (pa_cons (pv 11) (pa_cons (pe_slice (sl_U (K := e.K)) (pe_tup (pa_cons pe_str (pa_cons pe_str pa_nil))) po_none (po_some (pe_op op_modU (pv 4) pe_int))) pa_nil))))) (pa_cons (pe_tup (pa_cons pe_str (pa_cons (pv 10) (pa_cons (pv 11) pa_nil)))) pa_nil))) (pe_op op_modU (pv 4) pe_int) (fun _ _ => rfl))))) pss_nil)))
    (pss_one (ps_ret (pe_tup (pa_cons pe_str (pa_cons pe_non (pa_cons (pe_tup (pa_cons (pe_tup (pa_cons pe_str (pa_cons pe_str pa_nil))) pa_nil)) (pa_cons (pv 6) (pa_cons (pv 4) pa_nil)))))))))))))))))), ?_⟩
  walk_at "go"
  rename_i k H1 k0 k1 s1 t H2 t0 t1 s2 ys l H3 n3 ty3 m3 h3 pl ss H4 hss hsl h4 s4
  have s14 : Stp a H H4 := ((s1.trans s2).snd m3).trans s4
  have st4 : MdP H4 m P := st.chg s14.chg (dsj_one na)
  have dr4 := s14.drw
  have hs4 : Scr e.K H4 b := hs.mono s14.gro
  have nla : l ≠ a := ne_drw' n3 s2.drw
  have hl4 : H4 l = some (.lst ys) := s4.at_ h3 nla
  have ty4 : TgL H4 ys (sortTg (keysA P.rows)) := ty3.mono s4.gro
  have dl4 : Dq H4 (.ref pl) (sD ss) := Dq.strs h4
  have lys : ys.length = P.rows.length := (Paired.length ty4).trans ((len_sortTg _).trans (List.length_map _))
  have lrw : P.rows.length ≤ 100000 := by
    have := lim.rows
    have e : P.abs.rows.length = P.rows.length := List.length_map _
    omega
  have lin : ∀ s ∈ ss, Asc s := fun s q => (hss s q).asc
  have lss : ss.length ≤ 90 := by omega
  have fin := fun p ev H' (s : Stp a H4 H') => fin p ev H' (s14.trans s)
  have mrow : ∀ u, (getA P.rows u).isSome = true → (getA P.abs.rows u).isSome = true := fun u q => by
    have e : getA P.abs.rows u = (getA P.rows u).map (·.2) := getA_map (f := fun y : V × Itm => y.2)
    rw [e, Option.isSome_map]
    exact q
  clear hm hr0 s1 s2 m3 h3 s4 ty3 hs dr st h4 n3 s14 hss hsl
  refine r_cut (fun σ' H' => σ' = [some (.ref a), some (.ref b), some (.ref m), some (.int k), some (.int t), some (.ref l), some (.ref pl), none, none, none, none, none] ∧ H4 = H' ∧ 2 < k ∧ (k ≤ 9 → 0 < ys.length)) ?_ ?_
  · refine r_ifP (decide (k ≤ 2) || (ys.isEmpty && decide (k ≤ 9))) (fun H' => H4 = H') (fun QB q => ?_) (fun H' e hk => ?_) (fun H' e hk => ?_)
    · replace q := q _ rfl
      walk_at "all"
      all_goals (refine cast_q q ?_; clear q nd fin; grind)
    · subst e
      walk_at "go"
      refine use_sender dr4 hs4 fun v1 o1 H5 d5 ok5 s5 => ?_
      walk_at "go"
      refine use_addresses s5.drw (hs4.mono s5.gro) (by decide) (by decide) fun p6 l6 H6 d6 ok6 len6 s6 => ?_
      walk_at "go"
      rename_i p7 H7 n7 m7 h7 p8 H8 n8 m8 h8
      obtain ⟨_, xs6, e6, h6, dx6⟩ := via_at d6
      cases e6
      have l6' := dx6.len_map
      refine r_addT ((m7.trans m8) _ _ h6) h8 (by rw [sizeLine_eq, List.length_singleton]; omega) fun p9 H9 m9 h9 => ?_
      walk_at "go"
      rename_i p10 H10 n10 m10 h10
      have m610 := ((m7.trans m8).trans m9).trans m10
      have s410 : Stp a H4 H10 := (s5.trans s6).snd m610
      have dvia : Dq H10 (.ref p9) (viaD (l6 ++ [(Str.ofString "r9", Str.ofString "x.org")])) := by
        unfold viaD
        rw [List.map_append]
        refine .tup (m10 _ _ h9) ((dx6.mono (Gro.same m610)).snoc (d := adrD (Str.ofString "r9", Str.ofString "x.org")) ?_)
        exact .tup ((m8.trans (m9.trans m10)) _ _ h7) (.cons (.str _) (.cons (.str _) .nil))
      refine fin p10 (.submit o1 (l6 ++ [(Str.ofString "r9", Str.ofString "x.org")]) ss t) H10 s410 (.tup h10 (.cons (.str _) (.cons (d5.mono (s6.gro.trans (Gro.same m610))) (.cons dvia (.cons (dl4.mono s410.gro) (.cons (.int _) .nil)))))) trivial ⟨ok5, ?_, ?_, lss, lin⟩
      · rw [List.length_append, List.length_singleton]
        omega
      · intro z hz
        rcases List.mem_append.mp hz with hz | hz
        · exact ok6 z hz
        · rw [List.mem_singleton.mp hz]
          exact ⟨by unfold Asc; decide +kernel, by unfold Asc; decide +kernel, by decide +kernel, by decide +kernel⟩
    · subst e
      walk_at "go"
      refine ⟨rfl, rfl, ?_, fun h9 => ?_⟩
      · simp only [Bool.or_eq_false_iff, decide_eq_false_iff_not] at hk
        omega
      · cases ys with
        | nil => simp [h9] at hk
        | cons y ys => simp
  rintro _ _ ⟨rfl, rfl, hk2, hk9⟩
  refine r_cut (fun σ' H' => ∃ o7 o8 o9, σ' = [some (.ref a), some (.ref b), some (.ref m), some (.int k), some (.int t), some (.ref l), some (.ref pl), o7, o8, o9, none, none] ∧ Stp a H4 H') ?_ ?_
  · walk_at "go"
    refine r_ite (fun hk => ?_) (fun hk => ?_)
    · walk_at "go"
      rename_i d5 H5 d50 d51 s5 d6 H6 d60 d61 s6 p7 H7 n7 m7 h7
      have s47 : Stp a H4 H7 := (s5.trans s6).snd m7
      have st7 : MdP H7 m P := st4.chg s47.chg (dsj_one na)
      have hm7 := st7.d
      have hr7 := st7.r
      have ht7 := st7.t
      have dt7 : Dq H7 (.ref p7) (tagD (Str.ofString "y.net", 1 + d5, 1 + d6)) := mk_tag h7
      walk_at "go"
      have out : ∃ o7 o8 o9, [some (V.ref a), some (V.ref b), some (V.ref m), some (V.int k), some (V.int t), some (V.ref l), some (V.ref pl), some (V.ref p7), none, none, none, none] = [some (V.ref a), some (V.ref b), some (V.ref m), some (V.int k), some (V.int t), some (V.ref l), some (V.ref pl), o7, o8, o9, none, none] ∧ Stp a H4 H7 := ⟨_, _, _, rfl, s47⟩
      refine r_itb (fun _ => ?_) (fun _ => by walk_at "go"; exact out)
      walk_at "go"
      refine r_itb (fun _ => ?_) (fun _ => by walk_at "go"; exact out)
      · clear out
        have hs7 : Scr e.K H7 b := hs4.mono s47.gro
        walk_at "go"
        refine use_sender s47.drw hs7 fun v1 o1 H8 d8 ok8 s8 => ?_
        walk_at "go"
        refine use_addresses s8.drw (hs7.mono s8.gro) (by decide) (by decide) fun p9 l9 H9 d9 ok9 len9 s9 => ?_
        walk_at "go"
        rename_i p10 H10 n10 m10 h10 p11 H11 n11 m11 h11
        have s711 : Stp a H7 H11 := (s8.trans s9).snd (m10.trans m11)
        have s411 := s47.trans s711
        refine fin p11 (.take (Str.ofString "y.net") (Str.ofString "y.net", 1 + d5, 1 + d6) o1 (Str.ofString "r1", Str.ofString "x.org") l9 ss t) H11 s411 (.tup h11 (.cons (.str _) (.cons (.str _) (.cons (dt7.mono s711.gro) (.cons (d8.mono (s9.gro.trans (Gro.same (m10.trans m11)))) (.cons (.tup (m11 _ _ h10) (.cons (.str _) (.cons (.str _) .nil))) (.cons (d9.mono (Gro.same (m10.trans m11))) (.cons (dl4.mono s411.gro) (.cons (.int _) .nil))))))))) trivial ⟨asc_y, asc_y, ok8, ⟨by unfold Asc; decide +kernel, by unfold Asc; decide +kernel, by decide +kernel, by decide +kernel⟩, by omega, ok9, lss, lin⟩
    · walk_at "go"
      exact ⟨_, _, _, rfl, Stp.refl dr4⟩
  rintro _ H5 ⟨o7, o8, o9, rfl, s5⟩
  have st5 : MdP H5 m P := st4.chg s5.chg (dsj_one na)
  have dr5 := s5.drw
  have hs5 : Scr e.K H5 b := hs4.mono s5.gro
  have hl5 := s5.at_ hl4 nla
  have ty5 := ty4.mono s5.gro
  have dl5 := dl4.mono s5.gro
  have fin := fun p ev H' (s : Stp a H5 H') => fin p ev H' (s5.trans s)
  clear st4 dr4 hs4 hl4 ty4 dl4 s5
  refine r_cut (fun σ' H' => ∃ o7 o8 o9, σ' = [some (.ref a), some (.ref b), some (.ref m), some (.int k), some (.int t), some (.ref l), some (.ref pl), o7, o8, o9, none, none] ∧ H5 = H') ?_ ?_
  · refine r_ifP (decide (k ≤ 9) && !ys.isEmpty) (fun H' => H5 = H') (fun QB q => ?_) (fun H' e hk => ?_) (fun H' e hk => ?_)
    · replace q := q _ rfl
      walk_at "all"
      all_goals (refine cast_q q ?_; clear q nd fin; grind)
    · subst e
      simp only [Bool.and_eq_true, decide_eq_true_eq] at hk
      have hk9' := hk.1
      have ypos := hk9 hk9'
      walk_at "go"
      rename_i d6 H6 d60 d61 s6
      obtain ⟨j, rfl⟩ : ∃ j : Nat, d6 = j := ⟨d6.toNat, by omega⟩
      have hv : ys[j]? = some ys[j] := List.getElem?_eq_getElem (by omega)
      obtain ⟨tg, htg, dtg⟩ := tgl_at (ty5.mono s6.gro) hv
      obtain ⟨rx, hrx⟩ := sortTg_mem htg
      generalize ys[j] = vt at hv dtg
      have hl6 := s6.at_ hl5 nla
      refine r_ixL (SqL.of hl6) (atI_nn hv) ?_
      have fit : (getA P.abs.rows tg).isSome = true := mrow _ (by rw [hrx] <;> rfl)
      have dr6 := s6.drw
      have hs6 := hs5.mono s6.gro
      have ud := digit_of (d := t % 2) (by omega) (by omega)
      have nd := num_of t0 t1
      have l2 : (Str.ofString "no ").length = 3 := by decide +kernel
      have l1 : (Str.ofString "u").length = 1 := by decide +kernel
      walk_at "go"
      rename_i p7 H7 n7 m7 h7 d8 H8 d80 d81 s8 p9 H9 n9 m9 h9 p10 H10 n10 m10 h10
      refine r_strI (Nat.lt_of_le_of_lt (Nat.log2_le_self _) (by omega)) ?_
      refine r_addS (by have := ud.2; rw [l1, sizeLine_eq]; omega) ?_
      walk_at "go"
      rename_i p11 H11 n11 m11 h11
      refine r_strI (Nat.lt_of_le_of_lt (Nat.log2_le_self _) (by omega)) ?_
      refine r_addS (by have := nd.2; rw [l2, sizeLine_eq]; omega) ?_
      walk_at "go"
      rename_i p12 H12 n12 m12 h12 p13 H13 n13 m13 h13 p14 H14 n14 m14 h14
      have ok_o : AdrOk (Str.ofString "o", Str.ofString "y.net") := ⟨by unfold Asc; decide +kernel, asc_y, by decide +kernel, by decide +kernel⟩
      have own : ∃ v o, atI [V.non, .ref p13] (t % 2) = some v ∧ Dq H14 v (sndD o) ∧ SndOk o := by
        have z : t % 2 = 0 ∨ t % 2 = 1 := by omega
        rcases z with z | z
        · rw [z]
          exact ⟨.non, none, rfl, .non, snd_none⟩
        · rw [z]
          exact ⟨.ref p13, some (Str.ofString "o", Str.ofString "y.net"), rfl, .tup (m14 _ _ h13) (.cons (.str _) (.cons (.str _) .nil)), snd_some ok_o⟩
      obtain ⟨vo, oo, hvo, dvo, oko⟩ := own
      refine r_ixL (SqL.of h14) hvo ?_
      walk_at "go"
      have m1114 := (m12.trans m13).trans m14
      have m1014 := m11.trans m1114
      have m914 := m10.trans m1014
      have m814 := m9.trans m914
      have s614 : Stp a H6 H14 := (((Stp.refl dr6).snd m7).trans s8).snd m814
      refine use_addresses s614.drw (hs6.mono s614.gro) (by decide) (by decide) fun p15 l15 H15 d15 ok15 len15 s15 => ?_
      walk_at "go"
      rename_i p16 H16 n16 m16 h16 p17 H17 n17 m17 h17
      have s1417 : Stp a H14 H17 := s15.snd (m16.trans m17)
      have s617 : Stp a H6 H17 := s614.trans s1417
      have s517 : Stp a H5 H17 := s6.trans s617
      have g14 := s1417.gro
      have g12 : Gro H12 H17 := (Gro.same (m13.trans m14)).trans g14
      have g11 : Gro H11 H17 := (Gro.same m1114).trans g14
      have g10 : Gro H10 H17 := (Gro.same m1014).trans g14
      have g9 : Gro H9 H17 := (Gro.same m914).trans g14
      have g7 : Gro H7 H17 := s8.gro.trans ((Gro.same m814).trans g14)
      have dtag : Dq H17 vt (tagD tg) := dtg.mono s617.gro
      have fin := fun p ev => fin p ev H17 s517
      have z : k = 3 ∨ k = 4 ∨ k = 5 ∨ k = 6 ∨ k = 7 ∨ k = 8 ∨ k = 9 := by omega
      have ex : Q (.ref p16) H17 := fin p16 (.expand tg oo l15 t) (.tup (m17 _ _ h16) (.cons (.str _) (.cons dtag (.cons (dvo.mono g14) (.cons (d15.mono (Gro.same (m16.trans m17))) (.cons (.int _) .nil)))))) fit ⟨oko, by omega, ok15⟩
      rcases z with rfl | rfl | rfl | rfl | rfl | rfl | rfl
      · refine r_ixL (v := .ref p16) (SqL.of h17) rfl ?_
        exact ex
      · refine r_ixL (v := .ref p7) (SqL.of h17) rfl ?_
        exact fin p7 (.doubt tg (Str.ofString "y.net")) (.tup (g7.tup _ _ h7) (.cons (.str _) (.cons dtag (.cons (.str _) .nil)))) fit asc_y
      · refine r_ixL (v := .ref p9) (SqL.of h17) rfl ?_
        exact fin p9 (.retry tg (1 + d8) t) (.tup (g9.tup _ _ h9) (.cons (.str _) (.cons dtag (.cons (.int _) (.cons (.int _) .nil))))) fit trivial
      · refine r_ixL (v := .ref p10) (SqL.of h17) rfl ?_
        exact fin p10 (.passed tg (Str.ofString "z.z")) (.tup (g10.tup _ _ h10) (.cons (.str _) (.cons dtag (.cons (.str _) .nil)))) fit (by show Asc _; unfold Asc; decide +kernel)
      · refine r_ixL (v := .ref p11) (SqL.of h17) rfl ?_
        exact fin p11 (.deliver tg (Str.ofString "u" ++ toString (t % 2))) (.tup (g11.tup _ _ h11) (.cons (.str _) (.cons dtag (.cons (.str _) .nil)))) fit (Asc.app (by unfold Asc; decide +kernel) ud.1)
      · refine r_ixL (v := .ref p12) (SqL.of h17) rfl ?_
        refine fin p12 (.bounce tg (Str.ofString "no " ++ toString t) t) (.tup (g12.tup _ _ h12) (.cons (.str _) (.cons dtag (.cons (.str _) (.cons (.int _) .nil))))) fit ⟨Asc.app (by unfold Asc; decide +kernel) nd.1, ?_⟩
        have := nd.2
        rw [PySem.Str.length_append, l2]
        omega
      · refine r_ixL (v := .ref p16) (SqL.of h17) rfl ?_
        exact ex
    · subst e
      walk_at "go"
      exact ⟨_, _, _, rfl, rfl⟩
  rintro _ _ ⟨o7, o8, o9, rfl, rfl⟩
  have hm5 := st5.d
  have ho5 := st5.o
  have ht5 := st5.t
  have hb5 := st5.b
  have hm5' := hm5
  refine r_cut (fun σ' H' => ∃ o7 o8 o9, σ' = [some (.ref a), some (.ref b), some (.ref m), some (.int k), some (.int t), some (.ref l), some (.ref pl), o7, o8, o9, none, none] ∧ H5 = H') ?_ ?_
  · refine r_ifP (decide (k ≤ 10) && !P.ow.isEmpty) (fun H' => H5 = H') (fun QB q => ?_) (fun H' e hk => ?_) (fun H' e hk => ?_)
    · replace q := q _ rfl
      walk_at "all"
      all_goals (refine cast_q q ?_; clear q nd fin; grind)
    · subst e
      simp only [Bool.and_eq_true, decide_eq_true_eq] at hk
      walk_at "go"
      rename_i zs p6 H6 n6 tz6 m6 h6
      have lz : zs.length = P.ow.length := (Paired.length tz6).trans ((len_sortTg _).trans (List.length_map _))
      have pos : 0 < zs.length := by
        rw [lz]
        cases e : P.ow with
        | nil => rw [e] at hk; exact absurd hk.2 (by simp)
        | cons x xs => simp
      have hv : zs[0]? = some zs[0] := List.getElem?_eq_getElem pos
      obtain ⟨tg, htg, dtg⟩ := tgl_at tz6 hv
      obtain ⟨rx, hrx⟩ := sortTg_mem htg
      generalize zs[0] = vt at hv dtg
      refine r_ixL (SqL.of h6) (atI_nn (j := 0) hv) ?_
      walk_at "go"
      rename_i p7 H7 n7 m7 h7
      exact fin p7 (.forgotten tg) H7 ((Stp.refl dr5).snd (m6.trans m7)) (.tup h7 (.cons (.str _) (.cons (dtg.mono (Gro.same m7)) .nil))) (by show (getA P.ow tg).isSome = true; rw [hrx] <;> rfl) trivial
    · subst e
      walk_at "go"
      exact ⟨_, _, _, rfl, rfl⟩
  rintro _ _ ⟨o7, o8, o9, rfl, rfl⟩
  refine r_cut (fun σ' H' => ∃ o7 o8 o9, σ' = [some (.ref a), some (.ref b), some (.ref m), some (.int k), some (.int t), some (.ref l), some (.ref pl), o7, o8, o9, none, none] ∧ H5 = H') ?_ ?_
  · refine r_ifP (decide (k ≤ 11) && !P.tk.isEmpty) (fun H' => H5 = H') (fun QB q => ?_) (fun H' e hk => ?_) (fun H' e hk => ?_)
    · replace q := q _ rfl
      walk_at "all"
      all_goals (refine cast_q q ?_; clear q nd fin; grind)
    · subst e
      simp only [Bool.and_eq_true, decide_eq_true_eq] at hk
      walk_at "go"
      rename_i zs p6 H6 n6 tz6 m6 h6
      have lz : zs.length = P.tk.length := (Paired.length tz6).trans ((len_sortTg _).trans (List.length_map _))
      have pos : 0 < zs.length := by
        rw [lz]
        cases e : P.tk with
        | nil => rw [e] at hk; exact absurd hk.2 (by simp)
        | cons x xs => simp
      have hv : zs[0]? = some zs[0] := List.getElem?_eq_getElem pos
      obtain ⟨tg, htg, dtg⟩ := tgl_at tz6 hv
      obtain ⟨rx, hrx⟩ := sortTg_mem htg
      generalize zs[0] = vt at hv dtg
      refine r_ixL (SqL.of h6) (atI_nn (j := 0) hv) ?_
      walk_at "go"
      rename_i p7 H7 n7 m7 h7
      exact fin p7 (.forget tg) H7 ((Stp.refl dr5).snd (m6.trans m7)) (.tup h7 (.cons (.str _) (.cons (dtg.mono (Gro.same m7)) .nil))) (by show (getA P.tk tg).isSome = true; rw [hrx] <;> rfl) trivial
    · subst e
      walk_at "go"
      exact ⟨_, _, _, rfl, rfl⟩
  rintro _ _ ⟨o7, o8, o9, rfl, rfl⟩
  refine r_cut (fun σ' H' => ∃ o7 o8 o9 o10 o11, σ' = [some (.ref a), some (.ref b), some (.ref m), some (.int k), some (.int t), some (.ref l), some (.ref pl), o7, o8, o9, o10, o11] ∧ Same H5 H') ?_ ?_
  · walk_at "go"
    rename_i p6 H6 n6 m6 h6
    refine for_L (fun i σ' H' => (∃ o7 o8 o9 o10 o11, σ' = [some (.ref a), some (.ref b), some (.ref m), some (.int k), some (.int t), some (.ref l), some (.ref pl), o7, o8, o9, o10, o11]) ∧ Same H6 H') (SqL.of h6) ⟨⟨_, _, _, _, _, rfl⟩, Same.refl _⟩ (fun i σ' H' _ ⟨_, sm⟩ => SqL.of (sm _ _ h6)) (fun i v σ' H' hv ⟨⟨o7, o8, o9, o10, o11, es⟩, sm⟩ => ?_) (fun σ' H' ⟨⟨o7, o8, o9, o10, o11, es⟩, sm⟩ => ?_)
    · subst es
      obtain ⟨u, hu, rfl⟩ := get_map hv
      obtain ⟨⟨l0, es0⟩, hbx⟩ := sortSt_mem hu
      have st7 := (st5.same m6).same sm
      have hm7 := st7.d
      have hb7 := st7.b
      obtain ⟨ws, hl0, dws⟩ := st7.lss _ (getA_mem hbx)
      have hl0 : H' l0 = some (.lst ws) := hl0
      have uasc : Asc u := bu u (getA_isSome.mp (by rw [hbx] <;> rfl))
      have gbx : getA P.abs.bxs u = some es0 := by
        have e : getA P.abs.bxs u = (getA P.bxs u).map (·.2) := getA_map (f := fun y : Addr × List E3 => y.2)
        rw [e, hbx] <;> rfl
      have sm5 := m6.trans sm
      walk_at "go"
      cases es0 with
      | nil =>
        cases dws
        walk_at "go"
        exact ⟨⟨_, _, _, _, _, rfl⟩, sm⟩
      | cons x es1 =>
        rw [List.map_cons] at dws
        obtain ⟨w, ws1, rfl, dw, _⟩ := dqs1 dws
        obtain ⟨te, vl, vf, rfl, hte, dl, df⟩ := e3_at2 dw
        walk_at "go"
        refine r_iteT ?_
        walk_at "go"
        rename_i p8 H8 n8 m8 h8 p9 H9 m9 h9 p10 H10 n10 m10 h10 p11 H11 n11 m11 h11 p12 H12 n12 m12 h12
        have fl : ∃ fs, cutV [V.str (Str.ofString "a"), V.str (Str.ofString "b")] none (some (t % 3)) = fs.map V.str ∧ SortOf fs fs ∧ (∀ s ∈ fs, Asc s) ∧ fs.length < 64 := by
          have z : t % 3 = 0 ∨ t % 3 = 1 ∨ t % 3 = 2 := by omega
          have aa : Asc (Str.ofString "a") := by unfold Asc; decide +kernel
          have ab : Asc (Str.ofString "b") := by unfold Asc; decide +kernel
          rcases z with z | z | z
          · rw [z]
            exact ⟨[], rfl, so_nil, (fun s h => nomatch h), by decide⟩
          · rw [z]
            exact ⟨[Str.ofString "a"], rfl, so_a, (fun s h => by rw [List.mem_singleton.mp h]; exact aa), by decide⟩
          · rw [z]
            refine ⟨[Str.ofString "a", Str.ofString "b"], rfl, so_ab, (fun s h => ?_), by decide⟩
            simp only [List.mem_cons, List.not_mem_nil, or_false] at h
            rcases h with rfl | rfl
            · exact aa
            · exact ab
        obtain ⟨fs, efs, so, fa, fl⟩ := fl
        rw [efs] at h9
        have m912 := (m10.trans m11).trans m12
        have s512 : Stp a H5 H12 := (Stp.refl dr5).snd (((m6.trans sm).trans (m8.trans m9)).trans m912)
        have mem : ∃ y ∈ P.abs.boxOf u, y.1 = x.1 := by
          refine ⟨x, ?_, rfl⟩
          unfold Mx.boxOf
          rw [gbx]
          exact List.mem_cons_self
        have z : t % 2 = 0 ∨ t % 2 = 1 := by omega
        rcases z with z | z
        · refine r_ixL (v := .ref p10) (SqL.of h12) (by rw [z]; rfl) ?_
          exact fin p10 (.flag u x.1 fs fs) H12 s512 (.tup ((m11.trans m12) _ _ h10) (.cons (.str _) (.cons (.str _) (.cons (.int _) (.cons (Dq.strs (m912 _ _ h9)) .nil))))) ⟨by rw [gbx] <;> rfl, mem, rfl, so, fl⟩ ⟨uasc, fa⟩
        · refine r_ixL (v := .ref p11) (SqL.of h12) (by rw [z]; rfl) ?_
          exact fin p11 (.expunge u x.1) H12 s512 (.tup (m12 _ _ h11) (.cons (.str _) (.cons (.str _) (.cons (.int _) .nil)))) ⟨by rw [gbx] <;> rfl, mem⟩ uasc
    · subst es
      exact ⟨_, _, _, _, _, rfl, m6.trans sm⟩
  rintro _ H6 ⟨o7, o8, o9, o10, o11, rfl, m6⟩
  have dl6 := dl5.mono (Gro.same m6)
  walk_at "go"
  rename_i p7 H7 n7 m7 h7 p8 H8 n8 m8 h8 p9 H9 n9 m9 h9
  have s59 : Stp a H5 H9 := (Stp.refl dr5).snd (((m6.trans m7).trans m8).trans m9)
  refine fin p9 (.submit none [(Str.ofString "r1", Str.ofString "y.net")] ss t) H9 s59 (.tup h9 (.cons (.str _) (.cons .non (.cons (.tup (m9 _ _ h8) (.cons (.tup ((m8.trans m9) _ _ h7) (.cons (.str _) (.cons (.str _) .nil))) .nil)) (.cons (dl5.mono s59.gro) (.cons (.int _) .nil)))))) trivial ⟨snd_none, by decide, fun z hz => ?_, lss, lin⟩
  rw [List.mem_singleton.mp hz]
  exact ⟨by unfold Asc; decide +kernel, asc_y, by decide +kernel, by decide +kernel⟩
theorem use_event {K : PySem.W.Frag} {a b m : Addr} {P : Pm} {H : Hp} {Q : VK} {E : XK} (h1 : Drw H a) (h2 : Scr K H b) (h3 : MdP H m P) (h4 : a ∉ P.fp m) (h5 : MLim P.abs) (h6 : ∀ u ∈ keysA P.bxs, Asc u)
    (k : ∀ p ev H', Stp a H H' → Dq H' (.ref p) (evD ev) → EvFit P.abs ev → EvG ev → Q (.ref p) H') : sp_l_event K [.ref a, .ref b, .ref m] H Q E := ⟨a, b, m, P, rfl, rfl, rfl, h1, h2, h3, h4, h5, h6, k⟩

/-! ### _law_traced -/
abbrev s_l_traced : Stmt := top 35
abbrev N_l_traced : List Str := ["_law_model_here", "_law_lines_here"]
theorem sc_l_traced : FnScope N_l_traced ["_law_model_here", "_law_lines_here"] (defScope s_l_traced) := ⟨rfl, rfl, rfl, by decide +kernel, rfl, by decide +kernel, by decide +kernel⟩
theorem bi_l_traced : BindOk "_law_traced" s_l_traced ["_law_model_here", "_law_lines_here"] := fun _ _ _ _ _ _ us hl => match us, hl with | [_, _], _ => rfl
def sp_l_traced (K : PySem.W.Frag) : Sp := sp2 fun self l H Q _ => ∃ F M ls, MdA H self F M ∧ Dq H l (sD ls) ∧ M.dom.length ≤ 100000 ∧ ls.length ≤ 100000 ∧ ∀ p H', Same H H' → Dq H' (.ref p) (sD (M.tr ls)) → Q (.ref p) H'
theorem ok_l_traced {e : Wd} (D : DefAt e "_law_traced" s_l_traced) (B : Bl e.mg) : Can e 1 "_law_traced" ["_law_model_here", "_law_lines_here"] (sp_l_traced e.K) := by
  refine can_of D sc_l_traced bi_l_traced (fun _ _ _ _ h => sp2_len h) (fun cdv f A outer s H vs Q E hr h => ?_)
  obtain ⟨v0, v1, rfl, h⟩ := sp2_ex h
  have nd := sc_l_traced.nd
  obtain ⟨F, M, ls, ⟨m, P, rfl, st, rfl, rfl⟩, d, hd, hl, k⟩ := h
  obtain ⟨t, rfl, ht⟩ := sD_at d
  have hd : P.dom.length ≤ 100000 := hd
  have hm := st.d
  have g1 := md_domain (P := P)
  have n1 := trS_len
  refine ⟨_, (pss_one (ps_ret (pe_op (op_addU (K := e.K)) (pe_tup (pa_cons (pe_op (op_addU (K := e.K)) pe_str (pe_dget (hu_of hr) (pv 0) pe_str (fun _ _ => rfl))) pa_nil)) (pv 1)))), ?_⟩
  walk_at "go"
  rename_i q H1 nq m1 h1 p H2 m2 h2
  exact k p H2 (m1.trans m2) (.tup h2 (Dqs.strs ((trS ++ P.dom) :: ls)))
theorem use_ltraced {K : PySem.W.Frag} {self l : V} {F : List Addr} {M : Mx} {ls : List Str} {H : Hp} {Q : VK} {E : XK} (h1 : MdA H self F M) (h2 : Dq H l (sD ls)) (h3 : M.dom.length ≤ 100000) (h4 : ls.length ≤ 100000) (k : ∀ p H', Same H H' → Dq H' (.ref p) (sD (M.tr ls)) → Q (.ref p) H') : sp_l_traced K [self, l] H Q E := ⟨F, M, ls, h1, h2, h3, h4, k⟩

/-! ### _law_boxed -/
abbrev s_l_boxed : Stmt := top 36
abbrev N_l_boxed : List Str := ["_law_model_here", "_law_event_here", "_law_boxes", "_law_numbers", "_law_one"]
theorem sc_l_boxed : FnScope N_l_boxed ["_law_model_here", "_law_event_here"] (defScope s_l_boxed) := ⟨rfl, rfl, rfl, by decide +kernel, rfl, by decide +kernel, by decide +kernel⟩
theorem bi_l_boxed : BindOk "_law_boxed" s_l_boxed ["_law_model_here", "_law_event_here"] := fun _ _ _ _ _ _ us hl => match us, hl with | [_, _], _ => rfl
theorem e3_at {H : Hp} {v : V} {x : E3} (h : Dq H v (e3D x)) : ∃ t vl vf, v = .ref t ∧ H t = some (.tup [.int x.1, vl, vf]) ∧ Dq H vl (sD x.2.1) ∧ Dq H vf (sD x.2.2) := by
  cases h with
  | tup ha hs =>
    cases hs with
    | cons h1 hs =>
    cases hs with
    | cons h2 hs =>
    cases hs with
    | cons h3 hs =>
    cases hs
    cases h1
    exact ⟨_, _, _, rfl, ha, h2, h3⟩
theorem mabs_bxs {P : Pm} {u : Str} {l : Addr} {es : List E3} : ({ P with bxs := setA P.bxs u (l, es) } : Pm).abs = { P.abs with bxs := setA P.abs.bxs u es } := by
  show (⟨P.dom, P.serial, P.count, P.rows.map (fun e => (e.1, e.2.2)), (setA P.bxs u (l, es)).map (fun e => (e.1, e.2.2)), P.nums, P.tk, P.ow⟩ : Mx) = _
  rw [setA_map (f := fun y : Addr × List E3 => y.2)] <;> rfl
theorem mabs_box (P : Pm) (u : Str) : getA P.abs.bxs u = (getA P.bxs u).map (·.2) := getA_map (f := fun y : Addr × List E3 => y.2)
theorem mp_addB {P : Pm} {m : Addr} {u : Str} {l : Addr} {es : List E3} : ∀ b ∈ ({ P with bxs := setA P.bxs u (l, es) } : Pm).fp m, b ∈ P.fp m ∨ b = l := by
  intro b h
  rcases mp_cases h with rfl | rfl | rfl | rfl | rfl | rfl | ⟨e, he, rfl⟩
  · exact .inl mp_m
  · exact .inl mp_r
  · exact .inl mp_b
  · exact .inl mp_n
  · exact .inl mp_t
  · exact .inl mp_o
  · rcases mem_set he with rfl | he
    · exact .inr rfl
    · exact .inl (mp_l he)
/-- a box is written -/
theorem MdP.box {H H' : Hp} {m l : Addr} {P : Pm} {u : Str} {es : List E3} {ys : List V} (st : MdP H m P) (hl : H l = some (.lst ys)) (hd : Dqs H ys (es.map e3D)) (h : H' P.ba = some (txO lstV (setA P.bxs u (l, es)))) (k : ∀ z, z ≠ P.ba → H' z = H z) : MdP H' m { P with bxs := setA P.bxs u (l, es) } :=
  st.putB h k (fun e he => (mem_set he).elim (fun z => by rw [z]; exact ⟨ys, hl, hd⟩) fun z => st.lss e z) (nodup_set st.nb)
def BoxFit (M : Mx) : Ev → Prop
  | .deliver tag _ => (getA M.rows tag).isSome = true
  | .flag u _ _ _ => (getA M.bxs u).isSome = true
  | .expunge u _ => (getA M.bxs u).isSome = true
  | _ => False
def sp_l_boxed (K : PySem.W.Frag) : Sp := sp2 fun self ev H Q _ => ∃ m P e, self = .ref m ∧ MdP H m P ∧ Dq H ev (evD e) ∧ BoxFit P.abs e ∧ MLim P.abs ∧
  ∀ H' P', MdP H' m P' → P'.abs = P.abs.boxed e → P'.ra = P.ra → Chg (P.fp m) (P'.fp m) H H' → Q .non H'
theorem ok_l_boxed {e : Wd} (D : DefAt e "_law_boxed" s_l_boxed) (B : Bl e.mg) : Can e 1 "_law_boxed" ["_law_model_here", "_law_event_here"] (sp_l_boxed e.K) := by
  refine can_of D sc_l_boxed bi_l_boxed (fun _ _ _ _ h => sp2_len h) (fun cdv f A outer s H vs Q E hr h => ?_)
  obtain ⟨v0, v1, rfl, h⟩ := sp2_ex h
  have nd := sc_l_boxed.nd
  obtain ⟨m, P, ev, rfl, st, d, fit, lim, k⟩ := h
  have hm := st.d
  have hb := st.b
  have hn := st.n
  have hrw := st.r
  have g1 := md_boxes (P := P)
  have g2 := md_numbers (P := P)
  have g3 := md_rows (P := P)
  have hbl : P.bxs.length ≤ 100000 := by
    have e : P.abs.bxs.length = P.bxs.length := List.length_map _
    rw [← e]
    exact lim.bxs
  have hnl : P.nums.length ≤ 100000 := lim.nums
  obtain ⟨pe, vs, rfl, he, ds⟩ := ev_at d
  refine ⟨_, (pss_cons (ps_set (i := 2) nd rfl (by first | exact Or.inl rfl | exact Or.inr rfl) (pe_dget (hu_of hr) (pv 0) pe_str (fun _ _ => rfl)))
    (pss_one (ps_if (pt_cmpR (op_eqU (K := e.K) hr) (pe_ix (ix_U (K := e.K)) (pv 1) pe_int (fun _ _ => rfl)) pe_str (nomark _)) (pss_cons (ps_set (i := 3) nd rfl (by first | exact Or.inl rfl | exact Or.inr rfl) (pe_dget (hu_of hr) (pv 0) pe_str (fun _ _ => rfl)))
    (pss_cons (ps_dput (hu_of hr) (pv 3) (pe_ix (ix_U (K := e.K)) (pv 1) pe_int (fun _ _ => rfl)) (pe_op (op_addU (K := e.K)) (pe_dget2 (hu_of hr) (pv 3) (pe_ix (ix_U (K := e.K)) (pv 1) pe_int (fun _ _ => rfl)) pe_int ⟨by rfl, by rfl, by rfl, by rfl⟩) pe_int) (by rfl))
    (pss_one (ps_dput (hu_of hr) (pv 2) (pe_ix (ix_U (K := e.K)) (pv 1) pe_int (fun _ _ => rfl)) (pe_op (op_addU (K := e.K)) (pe_dget2 (hu_of hr) (pv 2) (pe_ix (ix_U (K := e.K)) (pv 1) pe_int (fun _ _ => rfl)) (pe_lst pa_nil) ⟨by rfl, by rfl, by rfl, by rfl⟩) (pe_lst (pa_cons (pe_tup (pa_cons (pe_dget (hu_of hr) (pv 3) (pe_ix (ix_U (K := e.K)) (pv 1) pe_int (fun _ _ => rfl)) (fun _ _ => rfl)) (pa_cons (pe_ix (ix_U (K := e.K)) (pe_dget (hu_of hr) (pe_dget (hu_of hr) (pv 0) pe_str (fun _ _ => rfl)) (pe_ix (ix_U (K := e.K)) (pv 1) pe_int (fun _ _ => rfl)) (fun _ _ => rfl)) pe_int (fun _ _ => rfl)) (pa_cons (pe_tup pa_nil) pa_nil)))) pa_nil))) (by rfl))))) (pss_one (ps_if (pt_cmpR (op_eqU (K := e.K) hr) (pe_ix (ix_U (K := e.K)) (pv 1) pe_int (fun _ _ => rfl)) pe_str (nomark _)) (pss_one (ps_dput (hu_of hr) (pv 2) (pe_ix (ix_U (K := e.K)) (pv 1) pe_int (fun _ _ => rfl)) (pe_lc (own := [("_law_one", 4)]) (tt := tYes) rfl nd (pi_U (K := e.K) (pe_dget (hu_of hr) (pv 2) (pe_ix (ix_U (K := e.K)) (pv 1) pe_int (fun _ _ => rfl)) (fun _ _ => rfl))) (blkOk_by (N := N_l_boxed) (sc := defScope s_l_boxed) (by decide +kernel)) (fun _ _ _ _ _ => (pg_name (i := 4) nd rfl (by first | exact Or.inl rfl | exact Or.inr rfl))) (fun _ _ _ _ _ => pts_nil) (fun _ _ _ _ _ => (pe_tup (pa_cons (pe_ix (ix_U (K := e.K)) (pv 4) pe_int (fun _ _ => rfl)) (pa_cons (pe_ix (ix_U (K := e.K)) (pv 4) pe_int (fun _ _ => rfl)) (pa_cons (pe_ix (ix_U (K := e.K)) (pe_lst (pa_cons (pe_ix (ix_U (K := e.K)) (pv 4) pe_int (fun _ _ => rfl)) (pa_cons (pe_ix (ix_U (K := e.K)) (pv 1) pe_int (fun _ _ => rfl)) pa_nil))) (pe_callTy call_intU (by rfl) B.b_int bt_int (pa_cons (pe_cmpR (op_eqU (K := e.K) hr) (pe_ix (ix_U (K := e.K)) (pv 4) pe_int (fun _ _ => rfl)) (pe_ix (ix_U (K := e.K)) (pv 1) pe_int (fun _ _ => rfl)) (nomark _)) pa_nil)) (fun _ _ => rfl)) pa_nil)))))) (by rfl))) (pss_one (ps_dput (hu_of hr) (pv 2) (pe_ix (ix_U (K := e.K)) (pv 1) pe_int (fun _ _ => rfl)) (pe_lc (own := [("_law_one", 4)]) rfl nd (pi_U (K := e.K) (pe_dget (hu_of hr) (pv 2) (pe_ix (ix_U (K := e.K)) (pv 1) pe_int (fun _ _ => rfl)) (fun _ _ => rfl))) (blkOk_by (N := N_l_boxed) (sc := defScope s_l_boxed) (by decide +kernel)) (fun _ _ _ _ _ => (pg_name (i := 4) nd rfl (by first | exact Or.inl rfl | exact Or.inr rfl))) (fun _ _ _ _ _ => (pts_one (pt_cmpR (op_neU (K := e.K) hr) (pe_ix (ix_U (K := e.K)) (pv 4) pe_int (fun _ _ => rfl)) (pe_ix (ix_U (K := e.K)) (pv 1) pe_int (fun _ _ => rfl)) (nomark _)))) (fun _ _ _ _ _ => (pv 4))) (by rfl)))))))), ?_⟩
  cases ev with
  | submit => exact fit.elim
  | take => exact fit.elim
  | doubt => exact fit.elim
  | retry => exact fit.elim
  | passed => exact fit.elim
  | bounce => exact fit.elim
  | expand => exact fit.elim
  | forgotten => exact fit.elim
  | forget => exact fit.elim
  | deliver tag u =>
    obtain ⟨w1, _, rfl, e1, ds⟩ := dqs1 ds
    obtain ⟨w2, _, rfl, e2, ds⟩ := dqs1 ds
    cases dqs0 ds
    cases dq_str e2
    obtain ⟨x, hx⟩ := Option.isSome_iff_exists.mp fit
    obtain ⟨v, hv⟩ := mrow_some hx
    replace he : H pe = some (.tup [.str (Str.ofString "deliver"), w1, .str u]) := he
    have en : ((getA P.nums u).map V.int).getD (V.int 0) = V.int (P.abs.numOf u) := by
      unfold Mx.numOf
      show _ = V.int ((getA P.nums u).getD 0)
      cases getA P.nums u <;> rfl
    walk_at "god"
    rw [en]
    walk_at "god"
    refine r_dputK (g := V.int) (x := P.abs.numOf u + 1) hn (by omega) rfl fun H1 h1 k1 => ?_
    have st1 := st.putN h1 k1 (nodup_set st.nn)
    have gro1 : Gro H H1 := gro_mt (mt_dK st.n) k1
    have he1 := gro1.tup _ _ he
    have e11 := e1.mono gro1
    have hb1 : H1 P.ba = some (txO lstV P.bxs) := st1.b
    have hm1 := st1.d
    have hrw1 : H1 P.ra = some (tgO rowV P.rows) := st1.r
    have g31 := md_rows (P := { P with nums := setA P.nums u (P.abs.numOf u + 1) })
    have hnu : getA (setA P.nums u (P.abs.numOf u + 1)) u = some (P.abs.numOf u + 1) := by rw [getA_set, if_pos rfl]
    obtain ⟨ra, vt, vs1, vr, vl, vv, vd, rfl, hra, iv⟩ := itm_at (st1.rws _ (getA_mem hv))
    have x3 : atI [vt, vs1, vr, vl, vv, .int x.born, .int x.tries, .int x.due, vd] 3 = some vl := atI_nat (j := 3) rfl
    clear hm hb hn hrw he g1 g2 g3
    walk_at "god"
    rename_i p0 H2 n2 m2 h2 p1 H3 n3 m3 h3 p2 H4 n4 m4 h4 p3 H5 n5 m5 h5
    have m15 := ((m2.trans m3).trans m4).trans m5
    have d5 : Dq H5 (.ref p2) (e3D (P.abs.numOf u + 1, x.ls, [])) := .tup (m5 _ _ h4) (.cons (.int _) (.cons (iv.l.mono (Gro.same m15)) (.cons (.tup (m5 _ _ (m4 _ _ h3)) .nil) .nil)))
    have fin : ∀ (es : List E3) (ys : List V) p6 H6, P.abs.boxOf u = es → H5 p6 = none → Same H5 H6 → H6 p6 = some (.lst (ys ++ [.ref p2])) → Dqs H5 ys (es.map e3D) → ∀ H7, H7 P.ba = some (txO lstV (setA P.bxs u (p6, es ++ [(P.abs.numOf u + 1, x.ls, [])]))) → (∀ z, z ≠ P.ba → H7 z = H6 z) → Q .non H7 := by
      intro es ys p6 H6 ees n6 m6 h6 dys H7 h7 k7
      have st6 := st1.same (m15.trans m6)
      have dd : Dqs H6 (ys ++ [.ref p2]) ((es ++ [((P.abs.numOf u + 1, x.ls, []) : E3)]).map e3D) := by
        rw [List.map_append]
        exact ((dys.mono (Gro.same m6)).app (.cons (d5.mono (Gro.same m6)) .nil))
      have st7 := st6.box h6 dd h7 k7
      refine k H7 _ st7 ?_ rfl ((((mt_chg (mt_dK st.n) k1 mp_n).snd (m15.trans m6)).trans (mt_chg (mt_dK st6.b) k7 mp_b)).to fun b hb => (mp_addB b hb).elim .inl fun z => .inr ?_)
      · rw [mabs_bxs]
        simp only [Mx.boxed, hx, ees]
        rfl
      · rw [z]
        have n1 : H1 p6 = none := Same.before m15 n6
        rw [← k1 _ fun w => by rw [w, h1] at n1; cases n1]
        exact n1
    cases hbx : getA P.bxs u with
    | none =>
      show uAdd e.K (V.ref p0) (V.ref p3) H5 _
      have h25 := m5 _ _ (m4 _ _ (m3 _ _ h2))
      refine r_addL h25 h5 (by rw [sizeLine_eq]; simp) fun p6 H6 n6 m6 h6 => ?_
      have he6 := (m15.trans m6) _ _ he1
      walk_at "god"
      refine r_dputK (g := lstV) (x := (p6, [(P.abs.numOf u + 1, x.ls, [])])) ((m15.trans m6) _ _ hb1) (by omega) rfl fun H7 h7 k7 => ?_
      refine fin [] [] p6 H6 ?_ n6 m6 h6 .nil H7 h7 k7
      unfold Mx.boxOf
      rw [mabs_box, hbx] <;> rfl
    | some y =>
      obtain ⟨l0, es0⟩ := y
      obtain ⟨ys, hl0, dys⟩ := st1.lss _ (getA_mem hbx)
      have hl5 := m15 _ _ hl0
      show uAdd e.K (V.ref l0) (V.ref p3) H5 _
      have lys : ys.length = es0.length := dys.len_map
      have les : es0.length ≤ 100000 := lim.es (u, es0) (getA_mem (by rw [mabs_box, hbx] <;> rfl))
      refine r_addL hl5 h5 (by rw [sizeLine_eq, List.length_singleton]; omega) fun p6 H6 n6 m6 h6 => ?_
      have he6 := (m15.trans m6) _ _ he1
      walk_at "god"
      refine r_dputK (g := lstV) (x := (p6, es0 ++ [(P.abs.numOf u + 1, x.ls, [])])) ((m15.trans m6) _ _ hb1) (by omega) rfl fun H7 h7 k7 => ?_
      refine fin es0 ys p6 H6 ?_ n6 m6 h6 (dys.mono (Gro.same m15)) H7 h7 k7
      unfold Mx.boxOf
      rw [mabs_box, hbx] <;> rfl
  | flag u n fs gs =>
    obtain ⟨w1, _, rfl, e1, ds⟩ := dqs1 ds
    obtain ⟨w2, _, rfl, e2, ds⟩ := dqs1 ds
    obtain ⟨w3, _, rfl, e3, ds⟩ := dqs1 ds
    cases dqs0 ds
    cases dq_str e1
    cases dq_int e2
    obtain ⟨tf, rfl, htf⟩ := sD_at e3
    obtain ⟨es, hx⟩ := Option.isSome_iff_exists.mp fit
    rw [mabs_box] at hx
    obtain ⟨⟨l0, es0⟩, hv, q⟩ := Option.map_eq_some_iff.mp hx
    cases q
    obtain ⟨ys, hl0, dys⟩ := st.lss _ (getA_mem hv)
    replace he : H pe = some (.tup [.str (Str.ofString "flag"), .str u, .int n, .ref tf]) := he
    have lys : ys.length = es0.length := dys.len_map
    have ebx : P.abs.boxOf u = es0 := by
      unfold Mx.boxOf
      rw [mabs_box, hv] <;> rfl
    have les : es0.length ≤ 100000 := lim.es (u, es0) (getA_mem (by rw [mabs_box, hv] <;> rfl))
    walk_at "god"
    refine lc_L (S := Same) (p := l0) hl0 (fun H' sm => sm _ _ hl0) (sr_same H) (fun i ds => ds = ((es0.take i).map fun e => (e.1, e.2.1, if e.1 = n then fs else e.2.2)).map e3D) (by omega) rfl (fun _ => rfl) (fun i v H1 ds Q1 Qn hv1 sm rv k1 _ => r_tyes (r_iteT ?_)) (fun D1 H1 zs1 ds1 nD1 m1 hD1 dz1 rv1 => ?_)
    · obtain ⟨x, hx1, dx⟩ := dys.at_map hv1
      obtain ⟨t1, vl, vf, rfl, ht1, dl, df⟩ := e3_at (dx.mono (Gro.same sm))
      walk_at "god"
      rename_i pl H2 n2 m2 h2
      have key : ∀ (w : V) (gs' : List Str), gs' = (if x.1 = n then fs else x.2.2) → Dq H2 w (sD gs') → atI [vf, V.ref tf] (if decide (x.1 = n) = true then 1 else 0) = some w → uIx e.K (V.ref pl) (V.int (if decide (x.1 = n) = true then 1 else 0)) H2 fun x_1 H1 => newq 3 (HO.tup [V.int x.1, vl, x_1]) H1 Q1 := by
        intro w gs' eg dw ha
        refine r_ixL (SqL.of h2) ha ?_
        walk_at "god"
        rename_i pt H3 n3 m3 h3
        refine k1 _ (e3D (x.1, x.2.1, gs')) _ (m2.trans m3) (.tup h3 (.cons (.int _) (.cons (dl.mono (Gro.same (m2.trans m3))) (.cons (dw.mono (Gro.same m3)) .nil)))) ?_
        rw [rv, take_one hx1, List.map_append, List.map_append, eg] <;> rfl
      by_cases hxn : x.1 = n
      · exact key (.ref tf) fs (by rw [if_pos hxn]) (((e3.mono (Gro.same sm)).mono (Gro.same m2))) (by rw [if_pos (decide_eq_true hxn)]; exact atI_nat (j := 1) rfl)
      · exact key vf x.2.2 (by rw [if_neg hxn]) (df.mono (Gro.same m2)) (by rw [if_neg (by simpa using hxn)]; exact atI_nat (j := 0) rfl)
    · have lx : ys.length = es0.length := lys
      rw [lx, List.take_of_length_le (Nat.le_refl _)] at rv1
      have he1 := m1 _ _ he
      have st1 := st.same m1
      walk_at "god"
      refine r_dputK (g := lstV) (x := (D1, es0.map fun e => (e.1, e.2.1, if e.1 = n then fs else e.2.2))) st1.b (by omega) rfl fun H2 h2 k2 => ?_
      have st2 := st1.box hD1 (by rw [rv1] at dz1; exact dz1) h2 k2
      refine k H2 _ st2 ?_ rfl (((Chg.same m1).trans (mt_chg (mt_dK st1.b) k2 mp_b)).to fun b hb => (mp_addB b hb).elim .inl fun z => .inr (by rw [z]; exact nD1))
      rw [mabs_bxs]
      simp only [Mx.boxed, ebx]
  | expunge u n =>
    obtain ⟨w1, _, rfl, e1, ds⟩ := dqs1 ds
    obtain ⟨w2, _, rfl, e2, ds⟩ := dqs1 ds
    cases dqs0 ds
    cases dq_str e1
    cases dq_int e2
    obtain ⟨es, hx⟩ := Option.isSome_iff_exists.mp fit
    rw [mabs_box] at hx
    obtain ⟨⟨l0, es0⟩, hv, q⟩ := Option.map_eq_some_iff.mp hx
    cases q
    obtain ⟨ys, hl0, dys⟩ := st.lss _ (getA_mem hv)
    replace he : H pe = some (.tup [.str (Str.ofString "expunge"), .str u, .int n]) := he
    have lys : ys.length = es0.length := dys.len_map
    have ebx : P.abs.boxOf u = es0 := by
      unfold Mx.boxOf
      rw [mabs_box, hv] <;> rfl
    have les : es0.length ≤ 100000 := lim.es (u, es0) (getA_mem (by rw [mabs_box, hv] <;> rfl))
    walk_at "god"
    refine lc_L (S := Same) (p := l0) hl0 (fun H' sm => sm _ _ hl0) (sr_same H) (fun i ds => ds = ((es0.take i).filter fun e => decide (e.1 ≠ n)).map e3D) (by omega) rfl (fun _ => rfl) (fun i v H1 ds Q1 Qn hv1 sm rv k1 k2 => ?_) (fun D1 H1 zs1 ds1 nD1 m1 hD1 dz1 rv1 => ?_)
    · obtain ⟨x, hx1, dx⟩ := dys.at_map hv1
      have dx1 := dx.mono (Gro.same sm)
      obtain ⟨t1, vl, vf, rfl, ht1, dl, df⟩ := e3_at dx1
      walk_at "god"
      have tk := take_one hx1
      by_cases hxn : x.1 = n
      · rw [if_neg (by simp [hxn])]
        refine k2 _ (Same.refl _) ?_
        rw [rv, tk, List.filter_append, List.filter_cons_of_neg (by simp [hxn]), List.filter_nil, List.append_nil]
      · rw [if_pos (by simp [hxn])]
        walk_at "god"
        refine k1 _ (e3D x) _ (Same.refl _) dx1 ?_
        rw [rv, tk, List.filter_append, List.filter_cons_of_pos (by simp [hxn]), List.filter_nil, List.map_append] <;> rfl
    · have lx : ys.length = es0.length := lys
      rw [lx, List.take_of_length_le (Nat.le_refl _)] at rv1
      have he1 := m1 _ _ he
      have st1 := st.same m1
      walk_at "god"
      refine r_dputK (g := lstV) (x := (D1, es0.filter fun e => decide (e.1 ≠ n))) st1.b (by omega) rfl fun H2 h2 k2 => ?_
      have st2 := st1.box hD1 (by rw [rv1] at dz1; exact dz1) h2 k2
      refine k H2 _ st2 ?_ rfl (((Chg.same m1).trans (mt_chg (mt_dK st1.b) k2 mp_b)).to fun b hb => (mp_addB b hb).elim .inl fun z => .inr (by rw [z]; exact nD1))
      rw [mabs_bxs]
      simp only [Mx.boxed, ebx]
theorem use_boxed {K : PySem.W.Frag} {m : Addr} {P : Pm} {ev : V} {e : Ev} {H : Hp} {Q : VK} {E : XK} (h1 : MdP H m P) (h2 : Dq H ev (evD e)) (h3 : BoxFit P.abs e) (h4 : MLim P.abs) (k : ∀ H' P', MdP H' m P' → P'.abs = P.abs.boxed e → P'.ra = P.ra → Chg (P.fp m) (P'.fp m) H H' → Q .non H') : sp_l_boxed K [.ref m, ev] H Q E := ⟨m, P, e, rfl, h1, h2, h3, h4, k⟩

/-! ### _law_apply -/
abbrev s_l_apply : Stmt := top 37
abbrev N_l_apply : List Str := ["_law_model_here", "_law_event_here", "_law_kind", "_law_rows", "_law_row", "_law_lines_here", "_law_taken", "_law_owed", "_law_sender_here", "_law_via", "_law_words", "_law_one"]
theorem sc_l_apply : FnScope N_l_apply ["_law_model_here", "_law_event_here"] (defScope s_l_apply) := ⟨rfl, rfl, rfl, by decide +kernel, rfl, by decide +kernel, by decide +kernel⟩
theorem bi_l_apply : BindOk "_law_apply" s_l_apply ["_law_model_here", "_law_event_here"] := fun _ _ _ _ _ _ us hl => match us, hl with | [_, _], _ => rfl
def sp_l_apply (K : PySem.W.Frag) : Sp := sp2 fun self ev H Q _ => ∃ F M e, MdA H self F M ∧ Dq H ev (evD e) ∧ MFit M e ∧ MLim M ∧ e.Lim ∧
  ∀ p ys H' F', MdA H' self F' (M.apply e).1 → Chg F (p :: F') H H' → p ∉ F' → H' p = some (.lst ys) → TgL H' ys (M.apply e).2 → Q (.ref p) H'
theorem ok_l_apply {e : Wd} (D : DefAt e "_law_apply" s_l_apply) (B : Bl e.mg) (c_l_boxed : Can e 1 "_law_boxed" ["_law_model_here", "_law_event_here"] (sp_l_boxed e.K)) (c_l_traced : Can e 1 "_law_traced" ["_law_model_here", "_law_lines_here"] (sp_l_traced e.K)) (c_l_row_made : Can e 1 "_law_row_made" ["_law_model_here", "_law_sender_here", "_law_recipient", "_law_lines_here", "_law_via", "_law_time"] (sp_l_row_made e.K)) : Can e 2 "_law_apply" ["_law_model_here", "_law_event_here"] (sp_l_apply e.K) := by
  refine can_of D sc_l_apply bi_l_apply (fun _ _ _ _ h => sp2_len h) (fun cdv f A outer s H vs Q E hr h => ?_)
  obtain ⟨v0, v1, rfl, h⟩ := sp2_ex h
  have nd := sc_l_apply.nd
  obtain ⟨F, M, ev, ⟨m, P0, rfl, st0, rfl, rfl⟩, d, fit, lim, el, k⟩ := h
  have hm0 := st0.d
  have g1 := md_rows (P := P0)
  have g2 := md_count (P := P0)
  obtain ⟨pe, vs, rfl, he, ds⟩ := ev_at d
  refine ⟨_, (pss_cons (ps_set (i := 2) nd rfl (by first | exact Or.inl rfl | exact Or.inr rfl) (pe_ix (ix_U (K := e.K)) (pv 1) pe_int (fun _ _ => rfl)))
    (pss_cons (ps_set (i := 3) nd rfl (by first | exact Or.inl rfl | exact Or.inr rfl) (pe_dget (hu_of hr) (pv 0) pe_str (fun _ _ => rfl)))
    (pss_cons (ps_dput (hu_of hr) (pv 0) pe_str (pe_op (op_addU (K := e.K)) (pe_dget (hu_of hr) (pv 0) pe_str (fun _ _ => rfl)) pe_int) (by rfl))
    (pss_cons (ps_if (pt_cmpR (op_inU (K := e.K) hr) (pv 2) (pe_tup (pa_cons pe_str (pa_cons pe_str (pa_cons pe_str pa_nil)))) rfl) (pss_one (ps_expr (pe_can c_l_boxed (hr.mono (by first | decide | omega)) passL (pa_cons (pv 0) (pa_cons (pv 1) pa_nil))))) pss_nil)
    (pss_cons (ps_set (i := 4) nd rfl (by first | exact Or.inl rfl | exact Or.inr rfl) pe_non)
    (pss_cons (ps_if (pt_cmpR (op_inU (K := e.K) hr) (pv 2) (pe_tup (pa_cons pe_str (pa_cons pe_str (pa_cons pe_str (pa_cons pe_str pa_nil))))) rfl) (pss_one (ps_set (i := 4) nd rfl (by first | exact Or.inl rfl | exact Or.inr rfl) (pe_dpopU (hu_of hr) (pv 3) (pe_ix (ix_U (K := e.K)) (pv 1) pe_int (fun _ _ => rfl)) ⟨by rfl, by rfl, by rfl, by rfl⟩))) pss_nil)
    (pss_cons (ps_if (pt_cmpR (op_eqU (K := e.K) hr) (pv 2) pe_str (nomark _)) (pss_cons (ps_set (i := 5) nd rfl (by first | exact Or.inl rfl | exact Or.inr rfl) (pe_can c_l_traced (hr.mono (by first | decide | omega)) passL (pa_cons (pv 0) (pa_cons (pe_ix (ix_U (K := e.K)) (pv 1) pe_int (fun _ _ => rfl)) pa_nil))))
    (pss_one (ps_ret (pe_lc (own := [("_law_one", 11)]) (tt := tYes) rfl nd (pi_U (K := e.K) (pe_ix (ix_U (K := e.K)) (pv 1) pe_int (fun _ _ => rfl))) (blkOk_by (N := N_l_apply) (sc := defScope s_l_apply) (by decide +kernel)) (fun _ _ _ _ _ => (pg_name (i := 11) nd rfl (by first | exact Or.inl rfl | exact Or.inr rfl))) (fun _ _ _ _ _ => pts_nil) (fun _ _ _ _ _ => (pe_can c_l_row_made (hr.mono (by first | decide | omega)) passL (pa_cons (pv 0) (pa_cons (pe_ix (ix_U (K := e.K)) (pv 1) pe_int (fun _ _ => rfl)) (pa_cons (pv 11) (pa_cons (pv 5) (pa_cons (pe_tup pa_nil) (pa_cons (pe_ix (ix_U (K := e.K)) (pv 1) pe_int (fun _ _ => rfl)) pa_nil)))))))))))) pss_nil)
    (pss_cons (ps_if (pt_cmpR (op_eqU (K := e.K) hr) (pv 2) pe_str (nomark _)) (pss_cons (ps_set (i := 5) nd rfl (by first | exact Or.inl rfl | exact Or.inr rfl) (pe_can c_l_traced (hr.mono (by first | decide | omega)) passL (pa_cons (pv 0) (pa_cons (pe_ix (ix_U (K := e.K)) (pv 1) pe_int (fun _ _ => rfl)) pa_nil))))
    (pss_cons (ps_dput (hu_of hr) (pv 3) (pe_ix (ix_U (K := e.K)) (pv 1) pe_int (fun _ _ => rfl)) (pe_tup (pa_cons (pe_ix (ix_U (K := e.K)) (pv 1) pe_int (fun _ _ => rfl)) (pa_cons (pe_ix (ix_U (K := e.K)) (pv 1) pe_int (fun _ _ => rfl)) (pa_cons (pe_ix (ix_U (K := e.K)) (pv 1) pe_int (fun _ _ => rfl)) (pa_cons (pv 5) (pa_cons (pe_ix (ix_U (K := e.K)) (pv 1) pe_int (fun _ _ => rfl)) (pa_cons (pe_ix (ix_U (K := e.K)) (pv 1) pe_int (fun _ _ => rfl)) (pa_cons pe_int (pa_cons (pe_ix (ix_U (K := e.K)) (pv 1) pe_int (fun _ _ => rfl)) (pa_cons pe_non pa_nil)))))))))) (by rfl))
    (pss_cons (ps_set (i := 6) nd rfl (by first | exact Or.inl rfl | exact Or.inr rfl) (pe_dget (hu_of hr) (pv 0) pe_str (fun _ _ => rfl)))
    (pss_cons (ps_dput (hu_of hr) (pv 6) (pe_ix (ix_U (K := e.K)) (pv 1) pe_int (fun _ _ => rfl)) (pe_ix (ix_U (K := e.K)) (pv 1) pe_int (fun _ _ => rfl)) (by rfl))
    (pss_one (ps_ret (pe_lst (pa_cons (pe_ix (ix_U (K := e.K)) (pv 1) pe_int (fun _ _ => rfl)) pa_nil)))))))) pss_nil)
    (pss_cons (ps_if (pt_cmpR (op_eqU (K := e.K) hr) (pv 2) pe_str (nomark _)) (pss_one (ps_dput (hu_of hr) (pv 3) (pe_ix (ix_U (K := e.K)) (pv 1) pe_int (fun _ _ => rfl)) (pe_op (op_addU (K := e.K)) (pe_slice (sl_U (K := e.K)) (pe_dget (hu_of hr) (pv 3) (pe_ix (ix_U (K := e.K)) (pv 1) pe_int (fun _ _ => rfl)) (fun _ _ => rfl)) po_none (po_some pe_int)) (pe_tup (pa_cons (pe_ix (ix_U (K := e.K)) (pv 1) pe_int (fun _ _ => rfl)) pa_nil))) (by rfl))) pss_nil)
    (pss_cons (ps_if (pt_cmpR (op_eqU (K := e.K) hr) (pv 2) pe_str (nomark _)) (pss_one (ps_dput (hu_of hr) (pv 3) (pe_ix (ix_U (K := e.K)) (pv 1) pe_int (fun _ _ => rfl)) (pe_op (op_addU (K := e.K)) (pe_slice (sl_U (K := e.K)) (pe_dget (hu_of hr) (pv 3) (pe_ix (ix_U (K := e.K)) (pv 1) pe_int (fun _ _ => rfl)) (fun _ _ => rfl)) po_none (po_some pe_int)) (pe_tup (pa_cons (pe_ix (ix_U (K := e.K)) (pv 1) pe_int (fun _ _ => rfl)) (pa_cons (pe_ix (ix_U (K := e.K)) (pv 1) pe_int (fun _ _ => rfl)) (pa_cons pe_non pa_nil))))) (by rfl))) pss_nil)
    (pss_cons (ps_if (pt_cmpR (op_eqU (K := e.K) hr) (pv 2) pe_str (nomark _)) (pss_cons (ps_set (i := 7) nd rfl (by first | exact Or.inl rfl | exact Or.inr rfl) (pe_dget (hu_of hr) (pv 0) pe_str (fun _ _ => rfl)))
    (pss_one (ps_dput (hu_of hr) (pv 7) (pe_tup (pa_cons (pe_ix (ix_U (K := e.K)) (pe_ix (ix_U (K := e.K)) (pv 1) pe_int (fun _ _ => rfl)) pe_int (fun _ _ => rfl)) (pa_cons (pe_ix (ix_U (K := e.K)) (pe_ix (ix_U (K := e.K)) (pv 1) pe_int (fun _ _ => rfl)) pe_int (fun _ _ => rfl)) (pa_cons (pe_op (op_addU (K := e.K)) (pe_ix (ix_U (K := e.K)) (pe_ix (ix_U (K := e.K)) (pv 1) pe_int (fun _ _ => rfl)) pe_int (fun _ _ => rfl)) pe_int) pa_nil)))) (pe_ix (ix_U (K := e.K)) (pv 1) pe_int (fun _ _ => rfl)) (by rfl)))) pss_nil)
    (pss_cons (ps_if (pt_cmpR (op_eqU (K := e.K) hr) (pv 2) pe_str (nomark _)) (pss_cons (ps_set (i := 7) nd rfl (by first | exact Or.inl rfl | exact Or.inr rfl) (pe_dget (hu_of hr) (pv 0) pe_str (fun _ _ => rfl)))
    (pss_one (ps_expr (pe_dpopU (hu_of hr) (pv 7) (pe_ix (ix_U (K := e.K)) (pv 1) pe_int (fun _ _ => rfl)) ⟨by rfl, by rfl, by rfl, by rfl⟩)))) pss_nil)
    (pss_cons (ps_if (pt_cmpR (op_eqU (K := e.K) hr) (pv 2) pe_str (nomark _)) (pss_cons (ps_set (i := 6) nd rfl (by first | exact Or.inl rfl | exact Or.inr rfl) (pe_dget (hu_of hr) (pv 0) pe_str (fun _ _ => rfl)))
    (pss_one (ps_expr (pe_dpopU (hu_of hr) (pv 6) (pe_ix (ix_U (K := e.K)) (pv 1) pe_int (fun _ _ => rfl)) ⟨by rfl, by rfl, by rfl, by rfl⟩)))) pss_nil)
    (pss_cons (ps_if (pt_cmpR (op_eqU (K := e.K) hr) (pv 2) pe_str (nomark _)) (pss_cons (ps_set (i := 8) nd rfl (by first | exact Or.inl rfl | exact Or.inr rfl) (pe_ix (ix_U (K := e.K)) (pv 4) pe_int (fun _ _ => rfl)))
    (Evl.pss_cut (ps_if (PW.pt (pw_and (pt_cmpR op_isNotU (pv 8) pe_non (nomark _)) (pw_and1 (pt_cmpR op_isNotU (pe_ix (ix_U (K := e.K)) (pv 1) pe_int (fun _ _ => rfl)) pe_non (nomark _))))) (pss_one (ps_set (i := 8) nd rfl (by first | exact Or.inl rfl | exact Or.inr rfl) (pe_ix (ix_U (K := e.K)) (pv 1) pe_int (fun _ _ => rfl)))) pss_nil)
    (pss_cons (ps_set (i := 9) nd rfl (by first | exact Or.inl rfl | exact Or.inr rfl) (pe_op (op_addU (K := e.K)) (pe_ix (ix_U (K := e.K)) (pv 4) pe_int (fun _ _ => rfl)) (pe_tup (pa_cons (pe_ix (ix_U (K := e.K)) (pv 4) pe_int (fun _ _ => rfl)) pa_nil))))
    (pss_one (ps_ret (pe_lc (own := [("_law_one", 11)]) (tt := tYes) rfl nd (pi_U (K := e.K) (pe_ix (ix_U (K := e.K)) (pv 1) pe_int (fun _ _ => rfl))) (blkOk_by (N := N_l_apply) (sc := defScope s_l_apply) (by decide +kernel)) (fun _ _ _ _ _ => (pg_name (i := 11) nd rfl (by first | exact Or.inl rfl | exact Or.inr rfl))) (fun _ _ _ _ _ => pts_nil) (fun _ _ _ _ _ => (pe_can c_l_row_made (hr.mono (by first | decide | omega)) passL (pa_cons (pv 0) (pa_cons (pv 8) (pa_cons (pv 11) (pa_cons (pe_ix (ix_U (K := e.K)) (pv 4) pe_int (fun _ _ => rfl)) (pa_cons (pv 9) (pa_cons (pe_ix (ix_U (K := e.K)) (pv 1) pe_int (fun _ _ => rfl)) pa_nil)))))))))))))) pss_nil)
    (pss_cons (ps_if (PW.pt (pw_and (pt_cmpR (op_eqU (K := e.K) hr) (pv 2) pe_str (nomark _)) (pw_and1 (pt_cmpR op_isNotU (pe_ix (ix_U (K := e.K)) (pv 4) pe_int (fun _ _ => rfl)) pe_non (nomark _))))) (pss_cons (ps_set (i := 10) nd rfl (by first | exact Or.inl rfl | exact Or.inr rfl) (pe_tup (pa_cons pe_str (pa_cons pe_str (pa_cons (pe_op (op_addU (K := e.K)) (pe_op (op_addU (K := e.K)) (pe_op (op_addU (K := e.K)) pe_str (pe_ix (ix_U (K := e.K)) (pe_ix (ix_U (K := e.K)) (pv 4) pe_int (fun _ _ => rfl)) pe_int (fun _ _ => rfl))) pe_str) (pe_ix (ix_U (K := e.K)) (pe_ix (ix_U (K := e.K)) (pv 4) pe_int (fun _ _ => rfl)) pe_int (fun _ _ => rfl))) (pa_cons (pe_op (op_addU (K := e.K)) pe_str (pe_ix (ix_U (K := e.K)) (pv 1) pe_int (fun _ _ => rfl))) pa_nil))))))
    (pss_one (ps_ret (pe_lst (pa_cons (pe_can c_l_row_made (hr.mono (by first | decide | omega)) passL (pa_cons (pv 0) (pa_cons pe_non (pa_cons (pe_ix (ix_U (K := e.K)) (pv 4) pe_int (fun _ _ => rfl)) (pa_cons (pe_can c_l_traced (hr.mono (by first | decide | omega)) passL (pa_cons (pv 0) (pa_cons (pv 10) pa_nil))) (pa_cons (pe_tup pa_nil) (pa_cons (pe_ix (ix_U (K := e.K)) (pv 1) pe_int (fun _ _ => rfl)) pa_nil))))))) pa_nil))))) pss_nil)
    (pss_one (ps_ret (pe_lst pa_nil)))))))))))))))))), ?_⟩
  walk_at "god"
  refine r_dputV hm0 (by simp [mdF]) md_putC fun H1 hm1 kk1 => ?_
  have st1 := st0.putD (s := P0.serial) (c := P0.count + 1) hm1 kk1
  have gr1 : Gro H H1 := gro_mt (mt_dK hm0) kk1
  have c1 : Chg (P0.fp m) (P0.fp m) H H1 := mt_chg (mt_dK hm0) kk1 mp_m
  have key : ∃ P : Pm, MdP H1 m P ∧ P.abs = { P0.abs with count := P0.abs.count + 1 } ∧ P.fp m = P0.fp m ∧ P.ra = P0.ra := ⟨_, st1, rfl, rfl, rfl⟩
  clear hm1 kk1 g1 g2 hm0 st1
  obtain ⟨P, st, eP, eF, eR⟩ := key
  have ea : P0.abs.apply ev = P.abs.act ev := by rw [eP] <;> rfl
  rw [ea, ← eF] at k
  rw [← eF] at c1
  have fit : MFit P.abs ev := by rw [eP]; cases ev <;> exact fit
  have lim : MLim P.abs := by rw [eP]; exact ⟨lim.dom, lim.rows, lim.bxs, lim.nums, lim.tk, lim.ow, lim.es, lim.it⟩
  rw [← eR]
  clear ea eP eF eR st0
  have he1 := gr1.tup _ _ he
  have hrl : P.rows.length ≤ 100000 := by
    have e : P.abs.rows.length = P.rows.length := List.length_map _
    rw [← e]
    exact lim.rows
  have htl : P.tk.length ≤ 100000 := lim.tk
  have hol : P.ow.length ≤ 100000 := lim.ow
  have hdom := lim.dom
  have hm := st.d
  have hr1 := st.r
  have ht1 := st.t
  have ho1 := st.o
  have g6 := md_taken (P := P)
  have g7 := md_owed (P := P)
  clear he
  generalize hkd : ev.kind = kd at he1 ⊢
  cases ev with
  | submit snd rs ls tm =>
    obtain ⟨w1, _, rfl, e1, ds⟩ := dqs1 ds
    obtain ⟨w2, _, rfl, e2, ds⟩ := dqs1 ds
    obtain ⟨w3, _, rfl, e3, ds⟩ := dqs1 ds
    obtain ⟨w4, _, rfl, e4, ds⟩ := dqs1 ds
    cases dqs0 ds
    cases dq_int e4
    obtain ⟨tr0, rxs, rfl, htr, drs⟩ := via_at e2
    have lrs := drs.len_map
    obtain ⟨el1, el2⟩ := el
    obtain rfl : kd = Str.ofString "submit" := hkd.symm
    replace he1 : H1 pe = some (.tup [.str (Str.ofString "submit"), w1, .ref tr0, w3, .int tm]) := he1
    walk_at "god"
    rename_i pa H2 na m2 ha pb H3 nb m3 hb
    have m13 := m2.trans m3
    have gr3 := gr1.trans (Gro.same m13)
    have sa3 : MdA H3 (.ref m) (P.fp m) P.abs := ⟨m, P, rfl, st.same m13, rfl, rfl⟩
    refine use_ltraced sa3 (e3.mono gr3) hdom el2 fun pl H4 m4 d4 => ?_
    have sa4 := sa3.same m4
    have gr4 := gr3.trans (Gro.same m4)
    have htr4 := gr4.tup _ _ htr
    have he4 := (m13.trans m4) _ _ he1
    have c4 := (c1.snd m13).snd m4
    walk_at "god"
    refine lc_TG htr4 (CrM m P.abs (P.fp m) H4 snd (P.abs.tr ls) [] tm rs) (by omega) (fun _ => rfl) (fun D i ys H' ⟨_, c, _⟩ => c.gro.tup _ _ htr4) (fun D H' nD hD kD => .init sa4 nD kD) (fun D i xx ys H5 Q1 hxx nD hD ⟨sa5, c5, nF, ty⟩ kk => ?_) (fun D H' ys nD hD iv => ?_)
    · have g5 : Gro H H5 := gr4.trans c5.gro
      obtain ⟨r, hr1', dr⟩ := drs.at_map hxx
      have hi1 : i ≤ rs.length := by
        have := (List.getElem?_eq_some_iff.mp hr1').1
        omega
      have he5 := c5.gro.tup _ _ he4
      walk_at "go"
      rename_i t6 H6 n6 m6 h6
      refine use_row_made (via := []) (sa5.same m6) ((e1.mono g5).mono (Gro.same m6)) ((dr.mono g5).mono (Gro.same m6)) ((d4.mono c5.gro).mono (Gro.same m6)) (.tup h6 .nil) (by
        have q := CrM.len (S0 := P.abs) (snd := snd) (ls := P.abs.tr ls) (via := []) (tm := tm) hi1
        have := lim.rows
        omega) fun pt H7 sa7 c7 dt => kk _ _ (c7.kp _ _ (m6 _ _ hD) nF) fun H8 h8 k8 => ?_
      exact CrM.step nD (m6 _ _ hD) (c5.snd m6) nF (ty.mono (Gro.same m6)) hr1' sa7 c7 dt h8 k8
    · obtain ⟨a1, a2, a3, a4⟩ := CrM.fin lrs nD c4 iv
      exact k D ys H' _ a1 a2 a3 hD a4
  | take peer tag snd r via ls tm =>
    obtain ⟨w1, _, rfl, e1, ds⟩ := dqs1 ds
    obtain ⟨w2, _, rfl, e2, ds⟩ := dqs1 ds
    obtain ⟨w3, _, rfl, e3, ds⟩ := dqs1 ds
    obtain ⟨w4, _, rfl, e4, ds⟩ := dqs1 ds
    obtain ⟨w5, _, rfl, e5, ds⟩ := dqs1 ds
    obtain ⟨w6, _, rfl, e6, ds⟩ := dqs1 ds
    obtain ⟨w7, _, rfl, e7, ds⟩ := dqs1 ds
    cases dqs0 ds
    cases dq_str e1
    cases dq_int e7
    obtain rfl : kd = Str.ofString "take" := hkd.symm
    replace he1 : H1 pe = some (.tup [.str (Str.ofString "take"), .str peer, w2, w3, w4, w5, w6, .int tm]) := he1
    have x5 : atI [V.str (Str.ofString "take"), .str peer, w2, w3, w4, w5, w6, .int tm] 5 = some w5 := atI_nat (j := 5) rfl
    have x6 : atI [V.str (Str.ofString "take"), .str peer, w2, w3, w4, w5, w6, .int tm] 6 = some w6 := atI_nat (j := 6) rfl
    have x7 : atI [V.str (Str.ofString "take"), .str peer, w2, w3, w4, w5, w6, .int tm] 7 = some (.int tm) := atI_nat (j := 7) rfl
    walk_at "god"
    rename_i pa H2 na m2 ha pb H3 nb m3 hb
    have m13 := m2.trans m3
    have gr3 := gr1.trans (Gro.same m13)
    have sa3 : MdA H3 (.ref m) (P.fp m) P.abs := ⟨m, P, rfl, st.same m13, rfl, rfl⟩
    refine use_ltraced sa3 (e6.mono gr3) hdom el fun pl H4 m4 d4 => ?_
    have m14 := m13.trans m4
    have he4 := m14 _ _ he1
    have st4 := st.same m14
    have gr4 := gr3.trans (Gro.same m4)
    walk_at "god"
    rename_i pr H5 n5 m5 h5
    have st5 := st4.same m5
    have gr5 := gr4.trans (Gro.same m5)
    have dr5 : Dq H5 (.ref pr) (itmD tag ⟨snd, r, P.abs.tr ls, via, tm, 0, tm, none⟩) := .tup h5 (.cons (e2.mono gr5) (.cons (e3.mono gr5) (.cons (e4.mono gr5) (.cons (d4.mono (Gro.same m5)) (.cons (e5.mono gr5) (.cons (.int _) (.cons (.int _) (.cons (.int _) (.cons .non .nil)))))))))
    refine r_dputT (g := rowV) (x := (.ref pr, ⟨snd, r, P.abs.tr ls, via, tm, 0, tm, none⟩)) st5.r (by omega) (e2.mono gr5) rfl fun H6 h6 k6 => ?_
    have st6 := st5.putR h6 k6 (fun e he => (mem_set he).elim (fun z => by rw [z]; exact dr5) fun z => st5.rws e z) (nodup_set st5.nr)
    have gr6 := gr5.trans (gro_mt (mt_dT st5.r) k6)
    have he6 := (gro_mt (mt_dT st5.r) k6).tup _ _ (m5 _ _ he4)
    have hm6 := st6.d
    have g66 := md_taken (P := { P with rows := setA P.rows tag (.ref pr, ⟨snd, r, P.abs.tr ls, via, tm, 0, tm, none⟩) })
    clear hm g6 g7
    walk_at "god"
    refine r_dputT (g := V.str) (x := peer) st6.t (by show P.tk.length < 1000000; omega) (e2.mono gr6) rfl fun H7 h7 k7 => ?_
    have st7 := st6.putT h7 k7 (nodup_set st6.nt)
    have gr7 := gr6.trans (gro_mt (mt_dT st6.t) k7)
    have he7 := (gro_mt (mt_dT st6.t) k7).tup _ _ he6
    have c7 : Chg (P.fp m) (P.fp m) H H7 := ((c1.snd (m14.trans m5)).trans (mt_chg (mt_dT st5.r) k6 mp_r)).trans (mt_chg (mt_dT st6.t) k7 mp_t)
    walk_at "god"
    rename_i D H8 nD m8 h8
    have sa7 : MdA H7 (.ref m) (P.fp m) (P.abs.act (.take peer tag snd r via ls tm)).1 := ⟨m, _, rfl, st7, rfl, (congrArg (fun z : Mx => { z with tk := setA P.tk tag peer }) (mabs_addR (P := P))).symm⟩
    exact k D [w2] H8 _ (sa7.same m8) (c7.newl nD m8) (sa7.new_out nD) h8 (TgL.snoc (vs := []) (ts := []) .nil ((e2.mono gr7).mono (Gro.same m8)))
  | doubt tag h =>
    obtain ⟨w1, _, rfl, e1, ds⟩ := dqs1 ds
    obtain ⟨w2, _, rfl, e2, ds⟩ := dqs1 ds
    cases dqs0 ds
    cases dq_str e2
    obtain ⟨x, hx⟩ := Option.isSome_iff_exists.mp fit
    obtain ⟨v, hv⟩ := mrow_some hx
    obtain ⟨ra, vt, vs1, vr, vl, vv, vd, rfl, hra, iv⟩ := itm_at (st.rws _ (getA_mem hv))
    obtain rfl : kd = Str.ofString "doubt" := hkd.symm
    replace he1 : H1 pe = some (.tup [.str (Str.ofString "doubt"), w1, .str h]) := he1
    walk_at "god"
    rename_i pa H2 na m2 ha pb H3 nb m3 hb pc H4 m4 h4 pd H5 n5 m5 h5
    have m15 := ((m2.trans m3).trans m4).trans m5
    have h45 : H5 pc = some (.tup [vt, vs1, vr, vl, vv, .int x.born, .int x.tries, .int x.due]) := m5 _ _ h4
    have he5 := m15 _ _ he1
    refine r_addT h45 h5 (by rw [sizeLine_eq]; simp) fun pr H6 m6 h6 => ?_
    have m16 := m15.trans m6
    have st6 := st.same m16
    have he6 := m6 _ _ he5
    have gr6 := gr1.trans (Gro.same m16)
    have iv6 := iv.mono (Gro.same m16)
    have dr6 : Dq H6 (.ref pr) (itmD tag { x with dbt := some h }) := .tup h6 (.cons iv6.t (.cons iv6.s (.cons iv6.r (.cons iv6.l (.cons iv6.v (.cons (.int _) (.cons (.int _) (.cons (.int _) (.cons (.str _) .nil)))))))))
    walk_at "god"
    refine r_dputT (g := rowV) (x := (.ref pr, { x with dbt := some h })) st6.r (by omega) (e1.mono gr6) rfl fun H7 h7 k7 => ?_
    have st7 := st6.putR h7 k7 (fun e he => (mem_set he).elim (fun z => by rw [z]; exact dr6) fun z => st6.rws e z) (nodup_set st6.nr)
    have he7 := (gro_mt (mt_dT st6.r) k7).tup _ _ he6
    have c7 : Chg (P.fp m) (P.fp m) H H7 := (c1.snd m16).trans (mt_chg (mt_dT st6.r) k7 mp_r)
    have sa7 : MdA H7 (.ref m) (P.fp m) (P.abs.act (.doubt tag h)).1 := ⟨m, _, rfl, st7, rfl, by
      rw [mabs_addR]
      simp only [Mx.act, hx]⟩
    have e2' : (P.abs.act (.doubt tag h)).2 = [] := by simp only [Mx.act, hx]
    walk_at "god"
    rename_i D H8 nD m8 h8
    exact k D [] H8 _ (sa7.same m8) (c7.newl nD m8) (sa7.new_out nD) h8 (by rw [e2']; exact .nil)
  | retry tag n tm =>
    obtain ⟨w1, _, rfl, e1, ds⟩ := dqs1 ds
    obtain ⟨w2, _, rfl, e2, ds⟩ := dqs1 ds
    obtain ⟨w3, _, rfl, e3, ds⟩ := dqs1 ds
    cases dqs0 ds
    cases dq_int e2
    cases dq_int e3
    obtain ⟨x, hx⟩ := Option.isSome_iff_exists.mp fit
    obtain ⟨v, hv⟩ := mrow_some hx
    obtain ⟨ra, vt, vs1, vr, vl, vv, vd, rfl, hra, iv⟩ := itm_at (st.rws _ (getA_mem hv))
    obtain rfl : kd = Str.ofString "retry" := hkd.symm
    replace he1 : H1 pe = some (.tup [.str (Str.ofString "retry"), w1, .int n, .int tm]) := he1
    walk_at "god"
    rename_i pa H2 na m2 ha pb H3 nb m3 hb pc H4 m4 h4 pd H5 n5 m5 h5
    have m15 := ((m2.trans m3).trans m4).trans m5
    have h45 : H5 pc = some (.tup [vt, vs1, vr, vl, vv, .int x.born]) := m5 _ _ h4
    have he5 := m15 _ _ he1
    refine r_addT h45 h5 (by rw [sizeLine_eq]; simp) fun pr H6 m6 h6 => ?_
    have m16 := m15.trans m6
    have st6 := st.same m16
    have he6 := m6 _ _ he5
    have gr6 := gr1.trans (Gro.same m16)
    have iv6 := iv.mono (Gro.same m16)
    have dr6 : Dq H6 (.ref pr) (itmD tag { x with tries := n, due := tm, dbt := none }) := .tup h6 (.cons iv6.t (.cons iv6.s (.cons iv6.r (.cons iv6.l (.cons iv6.v (.cons (.int _) (.cons (.int _) (.cons (.int _) (.cons .non .nil)))))))))
    walk_at "god"
    refine r_dputT (g := rowV) (x := (.ref pr, { x with tries := n, due := tm, dbt := none })) st6.r (by omega) (e1.mono gr6) rfl fun H7 h7 k7 => ?_
    have st7 := st6.putR h7 k7 (fun e he => (mem_set he).elim (fun z => by rw [z]; exact dr6) fun z => st6.rws e z) (nodup_set st6.nr)
    have he7 := (gro_mt (mt_dT st6.r) k7).tup _ _ he6
    have c7 : Chg (P.fp m) (P.fp m) H H7 := (c1.snd m16).trans (mt_chg (mt_dT st6.r) k7 mp_r)
    have sa7 : MdA H7 (.ref m) (P.fp m) (P.abs.act (.retry tag n tm)).1 := ⟨m, _, rfl, st7, rfl, by
      rw [mabs_addR]
      simp only [Mx.act, hx]⟩
    have e2' : (P.abs.act (.retry tag n tm)).2 = [] := by simp only [Mx.act, hx]
    walk_at "god"
    rename_i D H8 nD m8 h8
    exact k D [] H8 _ (sa7.same m8) (c7.newl nD m8) (sa7.new_out nD) h8 (by rw [e2']; exact .nil)
  | passed tag h =>
    obtain ⟨w1, _, rfl, e1, ds⟩ := dqs1 ds
    obtain ⟨w2, _, rfl, e2, ds⟩ := dqs1 ds
    cases dqs0 ds
    cases dq_str e2
    obtain ⟨x, hx⟩ := Option.isSome_iff_exists.mp fit
    obtain ⟨v, hv⟩ := mrow_some hx
    obtain ⟨tq, rfl, htq⟩ := e1.tag
    obtain rfl : kd = Str.ofString "passed" := hkd.symm
    replace he1 : H1 pe = some (.tup [.str (Str.ofString "passed"), .ref tq, .str h]) := he1
    walk_at "god"
    rename_i pa H2 na m2 ha pb H3 nb m3 hb H4 h4 k4
    have m13 := m2.trans m3
    have st3 := st.same m13
    have st4 := st3.putR h4 k4 (fun e he => st3.rws e (mem_del he).1) (nodup_del st3.nr)
    have gr4 := (gr1.trans (Gro.same m13)).trans (gro_mt (mt_dT st3.r) k4)
    have he4 := (gro_mt (mt_dT st3.r) k4).tup _ _ (m13 _ _ he1)
    have htq4 := gr4.tup _ _ htq
    have hm4 := st4.d
    have g74 := md_owed (P := { P with rows := delA P.rows tag })
    clear hm g6 g7 hr1 ht1 ho1 he1
    walk_at "god"
    rename_i pk H5 n5 m5 h5
    refine r_dputT (g := V.str) (x := h) (st4.same m5).o (by show P.ow.length < 1000000; omega) (mk_tag (t := (tag.1, tag.2.1, tag.2.2 + 1)) h5) rfl fun H6 h6 k6 => ?_
    have st6 := (st4.same m5).putO h6 k6 (nodup_set st4.no)
    have he6 := (gro_mt (mt_dT (st4.same m5).o) k6).tup _ _ (m5 _ _ he4)
    have c6 : Chg (P.fp m) (P.fp m) H H6 := ((((c1.snd m13).trans (mt_chg (mt_dT st3.r) k4 mp_r)).snd m5).trans (mt_chg (mt_dT (st4.same m5).o) k6 mp_o))
    have sa6 : MdA H6 (.ref m) (P.fp m) (P.abs.act (.passed tag h)).1 := ⟨m, _, rfl, st6, rfl, (congrArg (fun z : Mx => { z with ow := setA P.ow (tag.1, tag.2.1, tag.2.2 + 1) h }) (mabs_delR (P := P))).symm⟩
    walk_at "god"
    rename_i D H7 nD m7 h7
    exact k D [] H7 _ (sa6.same m7) (c6.newl nD m7) (sa6.new_out nD) h7 .nil
  | deliver tag u =>
    obtain ⟨w1, _, rfl, e1, ds⟩ := dqs1 ds
    obtain ⟨w2, _, rfl, e2, ds⟩ := dqs1 ds
    cases dqs0 ds
    cases dq_str e2
    obtain ⟨x, hx⟩ := Option.isSome_iff_exists.mp fit
    obtain ⟨v, hv⟩ := mrow_some hx
    obtain rfl : kd = Str.ofString "deliver" := hkd.symm
    replace he1 : H1 pe = some (.tup [.str (Str.ofString "deliver"), w1, .str u]) := he1
    walk_at "god"
    rename_i pa H2 na m2 ha
    have gr2 := gr1.trans (Gro.same m2)
    refine use_boxed (st.same m2) (d.mono gr2) fit lim fun H3 P3 st3 eP3 eR3 c3 => ?_
    have gr3 := gr2.trans c3.gro
    have he3 := c3.gro.tup _ _ (m2 _ _ he1)
    clear he1 hr1 ht1 ho1 hm g6 g7
    have erw : P3.abs.rows = P.abs.rows := by
      rw [eP3]
      simp only [Mx.boxed, hx]
    obtain ⟨v3, hv3⟩ := mrow_some (P := P3) (x := x) (t := tag) (by rw [erw]; exact hx)
    have hr3 := st3.r
    have e13 := e1.mono gr3
    rw [← eR3]
    walk_at "god"
    rename_i pb H4 nb m4 hb H5 h5 k5 D H6 nD m6 h6
    have st5 := (st3.same m4).putR h5 k5 (fun e he => (st3.same m4).rws e (mem_del he).1) (nodup_del st3.nr)
    have c5 : Chg (P.fp m) (P3.fp m) H H5 := (((c1.snd m2).trans c3).snd m4).trans (mt_chg (mt_dT (st3.same m4).r) k5 mp_r)
    have he5 := (gro_mt (mt_dT (st3.same m4).r) k5).tup _ _ (m4 _ _ he3)
    have sa5 : MdA H5 (.ref m) (P3.fp m) (P.abs.act (.deliver tag u)).1 := ⟨m, _, rfl, st5, rfl, by
      rw [mabs_delR, eP3]
      rfl⟩
    exact k D [] H6 _ (sa5.same m6) (c5.newl nD m6) (sa5.new_out nD) h6 .nil
  | bounce tag w tm =>
    obtain ⟨w1, _, rfl, e1, ds⟩ := dqs1 ds
    obtain ⟨w2, _, rfl, e2, ds⟩ := dqs1 ds
    obtain ⟨w3, _, rfl, e3, ds⟩ := dqs1 ds
    cases dqs0 ds
    cases dq_str e2
    cases dq_int e3
    obtain ⟨x, hx⟩ := Option.isSome_iff_exists.mp fit
    obtain ⟨v, hv⟩ := mrow_some hx
    obtain ⟨ra, vt, vs1, vr, vl, vv, vd, rfl, hra, iv⟩ := itm_at (st.rws _ (getA_mem hv))
    obtain rfl : kd = Str.ofString "bounce" := hkd.symm
    replace he1 : H1 pe = some (.tup [.str (Str.ofString "bounce"), w1, .str w, .int tm]) := he1
    have el : w.length ≤ 1000000 := el
    have n1 : (Str.ofString "@").length = 1 := by decide +kernel
    have n2 : (Str.ofString "Recipient: ").length = 11 := by decide +kernel
    have n3 : (Str.ofString "Reason: ").length = 8 := by decide +kernel
    obtain ⟨o3, rfl, ho3⟩ := adr_at iv.r
    have ho3 : H1 o3 = some (.tup [.str x.rcp.1, .str x.rcp.2]) := ho3
    have lit := lim.it _ (getA_mem hx)
    have lit2 : x.ls.length ≤ 100000 ∧ x.via.length ≤ 100000 ∧ x.rcp.1.length + 1 + x.rcp.2.length ≤ 1000000 := lit
    obtain ⟨lit3, lit4, lit5⟩ := lit2
    walk_at "god"
    rename_i pa H2 na m2 ha pb H3 nb m3 hb H4 h4 k4
    have m13 := m2.trans m3
    have st3 := st.same m13
    have st4 := st3.putR h4 k4 (fun e he => st3.rws e (mem_del he).1) (nodup_del st3.nr)
    have gk := gro_mt (mt_dT st3.r) k4
    have gr4 := (gr1.trans (Gro.same m13)).trans gk
    have he4 := gk.tup _ _ (m13 _ _ he1)
    have hra4 : H4 ra = some (.tup [vt, vs1, .ref o3, vl, vv, .int x.born, .int x.tries, .int x.due, vd]) := gk.tup _ _ (m13 _ _ hra)
    have iv4 := (iv.mono (Gro.same m13)).mono gk
    have c4 : Chg (P.fp m) (P.fp m) H H4 := (c1.snd m13).trans (mt_chg (mt_dT st3.r) k4 mp_r)
    have sa4 : MdA H4 (.ref m) (P.fp m) (P.abs.pop tag) := ⟨m, _, rfl, st4, rfl, (mabs_delR (P := P)).symm⟩
    clear hm g6 g7 hr1 ht1 ho1 he1
    show uIx e.K (V.ref ra) (V.int 1) H4 _
    have ivs := iv4.s
    have ho34 := gk.tup _ _ (m13 _ _ ho3)
    cases hxs : x.snd with
    | none =>
      have ivs : Dq H4 vs1 (sndD none) := by rw [← hxs]; exact ivs
      cases ivs
      walk_at "god"
      rename_i D H5 nD m5 h5
      have ea : P.abs.act (.bounce tag w tm) = (P.abs.pop tag, []) := by simp only [Mx.act, hx, hxs]
      rw [ea] at k
      exact k D [] H5 _ (sa4.same m5) (c4.newl nD m5) (sa4.new_out nD) h5 .nil
    | some z =>
      have ivs : Dq H4 vs1 (sndD (some z)) := by rw [← hxs]; exact ivs
      have ivs2 := ivs
      obtain ⟨o2, rfl, ho2⟩ := adr_at ivs
      walk_at "god"
      rename_i pw H5 n5 m5 h5
      have sa5 := sa4.same m5
      have e9 : [V.str (Str.ofString "Subject: undelivered"), V.str (Str.ofString ""), V.str (Str.ofString "Recipient: " ++ x.rcp.1 ++ Str.ofString "@" ++ x.rcp.2), V.str (Str.ofString "Reason: " ++ w)] = (reportM x.rcp.1 x.rcp.2 w).map V.str := by
        show _ = [V.str (Str.ofString "Subject: undelivered"), V.str (Str.ofString ""), V.str (Str.ofString "Recipient: " ++ (x.rcp.1 ++ Str.ofString "@" ++ x.rcp.2)), V.str (Str.ofString "Reason: " ++ w)]
        simp only [str_assoc]
      have dw : Dq H5 (.ref pw) (sD (reportM x.rcp.1 x.rcp.2 w)) := .tup (by rw [← e9]; exact h5) (Dqs.strs _)
      refine use_ltraced sa5 dw hdom (by simp [reportM]) fun pl H6 m6 d6 => ?_
      have sa6 := sa5.same m6
      have he6 := m6 _ _ (m5 _ _ he4)
      have dz6 : Dq H6 (.ref o2) (adrD z) := (ivs2.mono (Gro.same m5)).mono (Gro.same m6)
      walk_at "god"
      rename_i pq H7 n7 m7 h7
      refine use_row_made (snd := none) (via := []) (sa6.same m7) .non (dz6.mono (Gro.same m7)) (d6.mono (Gro.same m7)) (.tup h7 .nil) (by
        have q2 : (P.abs.pop tag).rows.length ≤ P.abs.rows.length := len_del _ _
        have := lim.rows
        omega) fun pt H8 sa8 c8 dt => ?_
      walk_at "god"
      rename_i D H9 nD m9 h9
      have ea : P.abs.act (.bounce tag w tm) = ((P.abs.pop tag).create none z (P.abs.tr (reportM x.rcp.1 x.rcp.2 w)) [] tm, [P.abs.tagN]) := by simp only [Mx.act, hx, hxs]
      rw [ea] at k
      exact k D [.ref pt] H9 _ (sa8.same m9) (((((c4.snd m5).snd m6).snd m7).trans c8).newl nD m9) (sa8.new_out nD) h9 (TgL.snoc (vs := []) (ts := []) .nil (dt.mono (Gro.same m9)))
  | expand tag own ms tm =>
    obtain ⟨w1, _, rfl, e1, ds⟩ := dqs1 ds
    obtain ⟨w2, _, rfl, e2, ds⟩ := dqs1 ds
    obtain ⟨w3, _, rfl, e3, ds⟩ := dqs1 ds
    obtain ⟨w4, _, rfl, e4, ds⟩ := dqs1 ds
    cases dqs0 ds
    cases dq_int e4
    obtain ⟨m3x, mxs, rfl, hmx, dmx⟩ := via_at e3
    obtain ⟨x, hx⟩ := Option.isSome_iff_exists.mp fit
    obtain ⟨v, hv⟩ := mrow_some hx
    obtain ⟨ra, vt, vs1, vr, vl, vv, vd, rfl, hra, iv⟩ := itm_at (st.rws _ (getA_mem hv))
    obtain rfl : kd = Str.ofString "expand" := hkd.symm
    replace he1 : H1 pe = some (.tup [.str (Str.ofString "expand"), w1, w2, .ref m3x, .int tm]) := he1
    obtain ⟨va, vxs, rfl, hva, dva⟩ := via_at iv.v
    have lva : vxs.length = x.via.length := dva.len_map
    have lms := dmx.len_map
    have el : ms.length ≤ 100000 := el
    have lit := lim.it _ (getA_mem hx)
    have lit2 : x.ls.length ≤ 100000 ∧ x.via.length ≤ 100000 ∧ x.rcp.1.length + 1 + x.rcp.2.length ≤ 1000000 := lit
    obtain ⟨lit3, lit4, lit5⟩ := lit2
    walk_at "god"
    rename_i pa H2 na m2 ha pb H3 nb m3 hb H4 h4 k4
    have m13 := m2.trans m3
    have st3 := st.same m13
    have st4 := st3.putR h4 k4 (fun e he => st3.rws e (mem_del he).1) (nodup_del st3.nr)
    have gk := gro_mt (mt_dT st3.r) k4
    have gr4 := (gr1.trans (Gro.same m13)).trans gk
    have he4 := gk.tup _ _ (m13 _ _ he1)
    have hra4 : H4 ra = some (.tup [vt, vs1, vr, vl, .ref va, .int x.born, .int x.tries, .int x.due, vd]) := gk.tup _ _ (m13 _ _ hra)
    have iv4 := (iv.mono (Gro.same m13)).mono gk
    have c4 : Chg (P.fp m) (P.fp m) H H4 := (c1.snd m13).trans (mt_chg (mt_dT st3.r) k4 mp_r)
    have sa4 : MdA H4 (.ref m) (P.fp m) (P.abs.pop tag) := ⟨m, _, rfl, st4, rfl, (mabs_delR (P := P)).symm⟩
    clear hm g6 g7 hr1 ht1 ho1 he1
    show uIx e.K (V.ref ra) (V.int 1) H4 _
    walk_at "god"
    refine r_cut (fun σ' H' => H' = H4 ∧ ∃ w, σ' = [some (.ref m), some (.ref pe), some (.str (Str.ofString "expand")), some (.ref P.ra), some (.ref ra), none, none, none, some w, none, none, none] ∧ Dq H4 w (sndD (ownM own x.snd))) ?_ ?_
    · have ivs := iv4.s
      have e24 := e2.mono gr4
      cases hxs : x.snd with
      | none =>
        have ivs : Dq H4 vs1 (sndD none) := by rw [← hxs]; exact ivs
        cases ivs
        walk_at "god"
        exact ⟨rfl, .non, rfl, by cases own <;> exact .non⟩
      | some z =>
        have ivs : Dq H4 vs1 (sndD (some z)) := by rw [← hxs]; exact ivs
        obtain ⟨o2, rfl, ho2⟩ := adr_at ivs
        cases own with
        | none =>
          cases e24
          walk_at "god"
          exact ⟨rfl, .ref o2, rfl, ivs⟩
        | some o =>
          have e25 := e24
          obtain ⟨o1, rfl, ho1⟩ := adr_at e24
          walk_at "god"
          exact ⟨rfl, .ref o1, rfl, e25⟩
    · rintro σ' H' ⟨rfl, w, rfl, dw⟩
      have hva4 := gk.tup _ _ (m13 _ _ hva)
      walk_at "god"
      rename_i qv Hq nq mq hqv pv H5 mr hv5
      have m45 := mq.trans mr
      have dv5 : Dq H5 (.ref pv) (viaD (x.via ++ [x.rcp])) := by
        refine .tup hv5 ?_
        rw [List.map_append]
        exact ((((dva.mono (Gro.same m13)).mono gk).app (.cons iv4.r .nil))).mono (Gro.same m45)
      have sa5 := sa4.same m45
      have gr5 := gr4.trans (Gro.same m45)
      have hmx5 := gr5.tup _ _ hmx
      have he5 := m45 _ _ he4
      have hra5 := m45 _ _ hra4
      have c5 := c4.snd m45
      have dl5 := iv4.l.mono (Gro.same m45)
      have dw5 := dw.mono (Gro.same m45)
      have dm5 := dmx.mono gr5
      refine lc_TG hmx5 (CrM m (P.abs.pop tag) (P.fp m) H5 (ownM own x.snd) x.ls (x.via ++ [x.rcp]) tm ms) (by omega) (fun _ => rfl) (fun D i ys H' ⟨_, c, _⟩ => c.gro.tup _ _ hmx5) (fun D H' nD hD kD => .init sa5 nD kD) (fun D i xx ys H6 Q1 hxx nD hD ⟨sa6, c6, nF, ty⟩ kk => ?_) (fun D H' ys nD hD iv => ?_)
      · obtain ⟨r, hr1', dr⟩ := dm5.at_map hxx
        have hi1 : i ≤ ms.length := by
          have := (List.getElem?_eq_some_iff.mp hr1').1
          omega
        have he6 := c6.gro.tup _ _ he5
        have hra6 := c6.gro.tup _ _ hra5
        walk_at "go"
        refine use_row_made sa6 (dw5.mono c6.gro) (dr.mono c6.gro) (dl5.mono c6.gro) (dv5.mono c6.gro) (by
          have q := CrM.len (S0 := P.abs.pop tag) (snd := ownM own x.snd) (ls := x.ls) (via := x.via ++ [x.rcp]) (tm := tm) hi1
          have q2 : (P.abs.pop tag).rows.length ≤ P.abs.rows.length := len_del _ _
          have := lim.rows
          omega) fun pt H7 sa7 c7 dt => kk _ _ (c7.kp _ _ hD nF) fun H8 h8 k8 => ?_
        exact CrM.step nD hD c6 nF ty hr1' sa7 c7 dt h8 k8
      · obtain ⟨a1, a2, a3, a4⟩ := CrM.fin lms nD c5 iv
        have ea : P.abs.act (.expand tag own ms tm) = ((P.abs.pop tag).creates (ownM own x.snd) x.ls (x.via ++ [x.rcp]) tm ms, P.abs.tagsN ms.length) := by simp only [Mx.act, hx]
        rw [ea] at k
        exact k D ys H' _ a1 a2 a3 hD a4
  | forgotten tag =>
    obtain ⟨w1, _, rfl, e1, ds⟩ := dqs1 ds
    cases dqs0 ds
    obtain ⟨x, hx⟩ := Option.isSome_iff_exists.mp fit
    have hx : getA P.ow tag = some x := hx
    obtain rfl : kd = Str.ofString "forgotten" := hkd.symm
    replace he1 : H1 pe = some (.tup [.str (Str.ofString "forgotten"), w1]) := he1
    walk_at "god"
    rename_i pa H2 na m2 ha pb H3 nb m3 hb H4 h4 k4 D H5 nD m5 h5
    have m13 := m2.trans m3
    have st4 := (st.same m13).putO h4 k4 (nodup_del (st.same m13).no)
    have c4 : Chg (P.fp m) (P.fp m) H H4 := (c1.snd m13).trans (mt_chg (mt_dT (st.same m13).o) k4 mp_o)
    have he4 := (gro_mt (mt_dT (st.same m13).o) k4).tup _ _ (m13 _ _ he1)
    have sa4 : MdA H4 (.ref m) (P.fp m) (P.abs.act (.forgotten tag)).1 := ⟨m, _, rfl, st4, rfl, rfl⟩
    exact k D [] H5 _ (sa4.same m5) (c4.newl nD m5) (sa4.new_out nD) h5 .nil
  | forget tag =>
    obtain ⟨w1, _, rfl, e1, ds⟩ := dqs1 ds
    cases dqs0 ds
    obtain ⟨x, hx⟩ := Option.isSome_iff_exists.mp fit
    have hx : getA P.tk tag = some x := hx
    obtain rfl : kd = Str.ofString "forget" := hkd.symm
    replace he1 : H1 pe = some (.tup [.str (Str.ofString "forget"), w1]) := he1
    walk_at "god"
    rename_i pa H2 na m2 ha pb H3 nb m3 hb H4 h4 k4 D H5 nD m5 h5
    have m13 := m2.trans m3
    have st4 := (st.same m13).putT h4 k4 (nodup_del (st.same m13).nt)
    have c4 : Chg (P.fp m) (P.fp m) H H4 := (c1.snd m13).trans (mt_chg (mt_dT (st.same m13).t) k4 mp_t)
    have he4 := (gro_mt (mt_dT (st.same m13).t) k4).tup _ _ (m13 _ _ he1)
    have sa4 : MdA H4 (.ref m) (P.fp m) (P.abs.act (.forget tag)).1 := ⟨m, _, rfl, st4, rfl, rfl⟩
    exact k D [] H5 _ (sa4.same m5) (c4.newl nD m5) (sa4.new_out nD) h5 .nil
  | flag u n fs gs =>
    obtain ⟨w1, _, rfl, e1, ds⟩ := dqs1 ds
    obtain ⟨w2, _, rfl, e2, ds⟩ := dqs1 ds
    obtain ⟨w3, _, rfl, e3, ds⟩ := dqs1 ds
    cases dqs0 ds
    cases dq_str e1
    cases dq_int e2
    obtain rfl : kd = Str.ofString "flag" := hkd.symm
    replace he1 : H1 pe = some (.tup [.str (Str.ofString "flag"), .str u, .int n, w3]) := he1
    walk_at "god"
    rename_i pa H2 na m2 ha
    have gr2 := gr1.trans (Gro.same m2)
    refine use_boxed (st.same m2) (d.mono gr2) fit lim fun H3 P3 st3 eP3 eR3 c3 => ?_
    have gr3 := gr2.trans c3.gro
    have he3 := c3.gro.tup _ _ (m2 _ _ he1)
    clear he1 hr1 ht1 ho1 hm g6 g7
    have sa3 : MdA H3 (.ref m) (P3.fp m) (P.abs.act (.flag u n fs gs)).1 := ⟨m, _, rfl, st3, rfl, eP3.symm⟩
    have c3' := (c1.snd m2).trans c3
    walk_at "god"
    rename_i pb H4 nb m4 hb D H5 nD m5 h5
    have sa4 := sa3.same m4
    exact k D [] H5 _ (sa4.same m5) ((c3'.snd m4).newl nD m5) (sa4.new_out nD) h5 .nil
  | expunge u n =>
    obtain ⟨w1, _, rfl, e1, ds⟩ := dqs1 ds
    obtain ⟨w2, _, rfl, e2, ds⟩ := dqs1 ds
    cases dqs0 ds
    cases dq_str e1
    cases dq_int e2
    obtain rfl : kd = Str.ofString "expunge" := hkd.symm
    replace he1 : H1 pe = some (.tup [.str (Str.ofString "expunge"), .str u, .int n]) := he1
    walk_at "god"
    rename_i pa H2 na m2 ha
    have gr2 := gr1.trans (Gro.same m2)
    refine use_boxed (st.same m2) (d.mono gr2) fit lim fun H3 P3 st3 eP3 eR3 c3 => ?_
    have gr3 := gr2.trans c3.gro
    have he3 := c3.gro.tup _ _ (m2 _ _ he1)
    clear he1 hr1 ht1 ho1 hm g6 g7
    have sa3 : MdA H3 (.ref m) (P3.fp m) (P.abs.act (.expunge u n)).1 := ⟨m, _, rfl, st3, rfl, eP3.symm⟩
    have c3' := (c1.snd m2).trans c3
    walk_at "god"
    rename_i pb H4 nb m4 hb D H5 nD m5 h5
    have sa4 := sa3.same m4
    exact k D [] H5 _ (sa4.same m5) ((c3'.snd m4).newl nD m5) (sa4.new_out nD) h5 .nil
theorem use_lapply {K : PySem.W.Frag} {self ev : V} {F : List Addr} {M : Mx} {e : Ev} {H : Hp} {Q : VK} {E : XK} (h1 : MdA H self F M) (h2 : Dq H ev (evD e)) (h3 : MFit M e) (h4 : MLim M) (h5 : e.Lim)
    (k : ∀ p ys H' F', MdA H' self F' (M.apply e).1 → Chg F (p :: F') H H' → p ∉ F' → H' p = some (.lst ys) → TgL H' ys (M.apply e).2 → Q (.ref p) H') : sp_l_apply K [self, ev] H Q E := ⟨F, M, e, h1, h2, h3, h4, h5, k⟩

/-! ### _law_model -/
abbrev s_l_model : Stmt := top 38
abbrev N_l_model : List Str := ["_law_domain_here"]
theorem sc_l_model : FnScope N_l_model ["_law_domain_here"] (defScope s_l_model) := ⟨rfl, rfl, rfl, by decide +kernel, rfl, by decide +kernel, by decide +kernel⟩
theorem bi_l_model : BindOk "_law_model" s_l_model ["_law_domain_here"] := fun _ _ _ _ _ _ us hl => match us, hl with | [_], _ => rfl
def sp_l_model (K : PySem.W.Frag) : Sp := sp1 fun d H Q _ => ∃ z, d = .str z ∧ ∀ m H' F, Same H H' → MdA H' (.ref m) F ⟨z, 0, 0, [], [], [], [], []⟩ → (∀ c ∈ F, H c = none) → Q (.ref m) H'
theorem ok_l_model {e : Wd} (D : DefAt e "_law_model" s_l_model) (B : Bl e.mg) : Can e 1 "_law_model" ["_law_domain_here"] (sp_l_model e.K) := by
  refine can_of D sc_l_model bi_l_model (fun _ _ _ _ h => sp1_len h) (fun cdv f A outer s H vs Q E hr h => ?_)
  obtain ⟨v0, rfl, h⟩ := sp1_ex h
  have nd := sc_l_model.nd
  obtain ⟨z, rfl, k⟩ := h
  refine ⟨_, (pss_one (ps_ret (pe_disp (pps_cons pe_str (pv 0) (pps_cons pe_str pe_int (pps_cons pe_str pe_int (pps_cons pe_str pe_dnewT (pps_cons pe_str pe_dnewK (pps_cons pe_str pe_dnewK (pps_cons pe_str pe_dnewT (pps_cons pe_str pe_dnewT pps_nil)))))))) (by rfl) (by rfl) (fun z => by cases z) (by decide)))), ?_⟩
  walk_at "go"
  rename_i m H1 nm m1 h1 pr H2 nr m2 h2 pb H3 nb m3 h3 pn H4 nn m4 h4 pt H5 nt m5 h5 po H6 no m6 h6
  have m56 := m5.trans m6
  have m46 := m4.trans m56
  have m36 := m3.trans m46
  have m26 := m2.trans m36
  have m16 := m1.trans m26
  refine r_dispM (P := ⟨z, 0, 0, [], [], [], [], [], pr, pb, pn, pt, po⟩) (m26 _ _ h1) rfl fun H7 h7 k7 => ?_
  have ne : ∀ {b : Addr} {G : Hp}, Same H1 G → G b = none → b ≠ m := fun s n q => by
    rw [q, s _ _ h1] at n
    cases n
  have q2 := ne (Same.refl H1) nr
  have q3 := ne m2 nb
  have q4 := ne (m2.trans m3) nn
  have q5 := ne ((m2.trans m3).trans m4) nt
  have q6 := ne (((m2.trans m3).trans m4).trans m5) no
  have md : MdP H7 m ⟨z, 0, 0, [], [], [], [], [], pr, pb, pn, pt, po⟩ := ⟨h7, by rw [k7 _ q2]; exact m36 _ _ h2, by rw [k7 _ q3]; exact m46 _ _ h3, by rw [k7 _ q4]; exact m56 _ _ h4, by rw [k7 _ q5]; exact m6 _ _ h5, by rw [k7 _ q6]; exact h6,
    ne_of_none (m4 _ _ (m3 _ _ h2)) nt, ne_of_none (m5 _ _ (m4 _ _ (m3 _ _ h2))) no, ne_of_none h5 no, ne_of_none h3 nn, q3.symm, q4.symm, (fun _ h => absurd h List.not_mem_nil), (fun _ h => absurd h List.not_mem_nil), List.nodup_nil, List.nodup_nil, List.nodup_nil, List.nodup_nil, List.nodup_nil⟩
  refine k m H7 _ (Same.but m16 nm k7) ⟨m, _, rfl, md, rfl, rfl⟩ fun c hc => ?_
  rcases mp_cases hc with rfl | rfl | rfl | rfl | rfl | rfl | ⟨e, he, _⟩
  · exact nm
  · exact Same.before m1 nr
  · exact Same.before (m1.trans m2) nb
  · exact Same.before ((m1.trans m2).trans m3) nn
  · exact Same.before (((m1.trans m2).trans m3).trans m4) nt
  · exact Same.before ((((m1.trans m2).trans m3).trans m4).trans m5) no
  · exact absurd he List.not_mem_nil
theorem use_model {K : PySem.W.Frag} {z : Str} {H : Hp} {Q : VK} {E : XK} (k : ∀ m H' F, Same H H' → MdA H' (.ref m) F ⟨z, 0, 0, [], [], [], [], []⟩ → (∀ c ∈ F, H c = none) → Q (.ref m) H') : sp_l_model K [.str z] H Q E := ⟨z, rfl, k⟩

/-! ### _law_state_same -/
abbrev s_l_state_same : Stmt := top 39
abbrev N_l_state_same : List Str := ["_law_actual", "_law_model_here", "_law_tag", "_law_item", "_law_told", "_law_user", "_law_entry"]
theorem sc_l_state_same : FnScope N_l_state_same ["_law_actual", "_law_model_here"] (defScope s_l_state_same) := ⟨rfl, rfl, rfl, by decide +kernel, rfl, by decide +kernel, by decide +kernel⟩
theorem bi_l_state_same : BindOk "_law_state_same" s_l_state_same ["_law_actual", "_law_model_here"] := fun _ _ _ _ _ _ us hl => match us, hl with | [_, _], _ => rfl
/-- all texts of an item may be compared -/
def ItOk (t : Tag) (x : Itm) : Prop := Asc t.1 ∧ Lay 4 (itmD t x)
def sp_l_state_same (K : PySem.W.Frag) : Sp := sp2 fun self md H Q _ => ∃ F S G M, StA K H self F S ∧ MdA H md G M ∧ Dsj F G ∧ Rel S M ∧ S.Lim ∧ MLim M ∧ (∀ e ∈ M.rows, ItOk e.1 e.2) ∧ Asc M.dom ∧ (∀ e ∈ S.bx, ∀ x ∈ e3s e.2, Lay 4 (e3D x)) ∧ ∀ H', Same H H' → Q (.bl true) H'
theorem ok_l_state_same {e : Wd} (D : DefAt e "_law_state_same" s_l_state_same) (B : Bl e.mg) (kc_Box : Cls e.K (He.ga e.K "Box")) (kc_Item : Cls e.K (He.ga e.K "Item")) (kc_State : Cls e.K (He.ga e.K "State")) (kn_State_domain : NoAttr e.K (He.ga e.K "State") "domain") (kn_State_count : NoAttr e.K (He.ga e.K "State") "count") (kn_State_serial : NoAttr e.K (He.ga e.K "State") "serial") (kn_State_queue : NoAttr e.K (He.ga e.K "State") "queue") (kn_State_taken : NoAttr e.K (He.ga e.K "State") "taken") (kn_State_owed : NoAttr e.K (He.ga e.K "State") "owed") (kn_Item_tag : NoAttr e.K (He.ga e.K "Item") "tag") (kn_Item_sender : NoAttr e.K (He.ga e.K "Item") "sender") (kn_Item_recipient : NoAttr e.K (He.ga e.K "Item") "recipient") (kn_Item_lines : NoAttr e.K (He.ga e.K "Item") "lines") (kn_Item_via : NoAttr e.K (He.ga e.K "Item") "via") (kn_Item_born : NoAttr e.K (He.ga e.K "Item") "born") (kn_Item_tries : NoAttr e.K (He.ga e.K "Item") "tries") (kn_Item_due : NoAttr e.K (He.ga e.K "Item") "due") (kn_Item_doubt : NoAttr e.K (He.ga e.K "Item") "doubt") (kn_State_boxes : NoAttr e.K (He.ga e.K "State") "boxes") (kn_Box_entries : NoAttr e.K (He.ga e.K "Box") "entries") (c_Item_to_value : CanM e 1 (He.ga e.K "Item") "to_value" ["self"] (sp_Item_to_value e.K)) : Can e 2 "_law_state_same" ["_law_actual", "_law_model_here"] (sp_l_state_same e.K) := by
  refine can_of D sc_l_state_same bi_l_state_same (fun _ _ _ _ h => sp2_len h) (fun cdv f A outer s H vs Q E hr h => ?_)
  obtain ⟨v0, v1, rfl, h⟩ := sp2_ex h
  have nd := sc_l_state_same.nd
  obtain ⟨F, S, G, M, ⟨s, P, rfl, st, rfl, rfl⟩, ⟨m, P2, rfl, md, rfl, rfl⟩, dj, r, lim, mlim, ok, ad, okb, k⟩ := h
  have hi := st.ins
  unfold stF at hi
  have hm := md.d
  have g1 := md_domain (P := P2)
  have g2 := md_count (P := P2)
  have g3 := md_serial (P := P2)
  have g4 := md_rows (P := P2)
  have g5 := md_boxes (P := P2)
  have g6 := md_taken (P := P2)
  have g7 := md_owed (P := P2)
  have hq := st.q
  have hr0 := md.r
  have hb := st.b
  have ht := st.t
  have ho := st.o
  refine ⟨_, (pss_cons (ps_if (pt_cmpR (op_neU (K := e.K) hr) (pe_tup (pa_cons (pe_fldU (K := e.K) (pv 0)) (pa_cons (pe_fldU (K := e.K) (pv 0)) (pa_cons (pe_fldU (K := e.K) (pv 0)) pa_nil)))) (pe_tup (pa_cons (pe_dget (hu_of hr) (pv 1) pe_str (fun _ _ => rfl)) (pa_cons (pe_dget (hu_of hr) (pv 1) pe_str (fun _ _ => rfl)) (pa_cons (pe_dget (hu_of hr) (pv 1) pe_str (fun _ _ => rfl)) pa_nil)))) (nomark _)) (pss_one (ps_ret pe_bl)) pss_nil)
    (pss_cons (ps_if (PW.pt (pw_or (pt_cmpR (op_neU (K := e.K) hr) (pe_callB (cr_sortD rfl hr.units) (by rfl) B.b_sorted bt_sorted (pa_cons (pe_fldU (K := e.K) (pv 0)) pa_nil)) (pe_callB (cr_sortD rfl hr.units) (by rfl) B.b_sorted bt_sorted (pa_cons (pe_dget (hu_of hr) (pv 1) pe_str (fun _ _ => rfl)) pa_nil)) (nomark _)) (pw_or (pt_cmpR (op_neD hr.units) (pe_fldU (K := e.K) (pv 0)) (pe_dget (hu_of hr) (pv 1) pe_str (fun _ _ => rfl)) (nomark _)) (pw_or1 (pt_cmpR (op_neD hr.units) (pe_fldU (K := e.K) (pv 0)) (pe_dget (hu_of hr) (pv 1) pe_str (fun _ _ => rfl)) (nomark _)))))) (pss_one (ps_ret pe_bl)) pss_nil)
    (pss_cons (ps_lock (ps_for PassesOwn.never rfl (pi_keys (pe_dget (hu_of hr) (pv 1) pe_str (fun _ _ => rfl))) (pg_name (i := 2) nd rfl (by first | exact Or.inl rfl | exact Or.inr rfl)) (pss_cons (ps_set (i := 3) nd rfl (by first | exact Or.inl rfl | exact Or.inr rfl) (pe_dget (hu_of hr) (pe_fldU (K := e.K) (pv 0)) (pv 2) (fun _ _ => rfl)))
    (pss_cons (ps_set (i := 4) nd rfl (by first | exact Or.inl rfl | exact Or.inr rfl) (pe_tup (pa_cons (pe_fldU (K := e.K) (pv 3)) (pa_cons (pe_fldU (K := e.K) (pv 3)) (pa_cons (pe_fldU (K := e.K) (pv 3)) (pa_cons (pe_fldU (K := e.K) (pv 3)) (pa_cons (pe_fldU (K := e.K) (pv 3)) (pa_cons (pe_fldU (K := e.K) (pv 3)) (pa_cons (pe_fldU (K := e.K) (pv 3)) (pa_cons (pe_fldU (K := e.K) (pv 3)) (pa_cons (pe_fldU (K := e.K) (pv 3)) pa_nil)))))))))))
    (pss_one (ps_if (PW.pt (pw_or (pt_cmpR (op_neU (K := e.K) hr) (pv 4) (pe_dget (hu_of hr) (pe_dget (hu_of hr) (pv 1) pe_str (fun _ _ => rfl)) (pv 2) (fun _ _ => rfl)) (nomark _)) (pw_or1 (pt_cmpR (op_neU (K := e.K) hr) (pe_canM0 c_Item_to_value (hr.mono (by first | decide | omega)) passL (pv 3)) (pv 4) (nomark _))))) (pss_one (ps_ret pe_bl)) pss_nil))))))
    (pss_cons (ps_for PassesOwn.never rfl (pi_U (K := e.K) (pe_callB (cr_sortD rfl hr.units) (by rfl) B.b_sorted bt_sorted (pa_cons (pe_fldU (K := e.K) (pv 0)) pa_nil))) (pg_name (i := 5) nd rfl (by first | exact Or.inl rfl | exact Or.inr rfl)) (pss_one (ps_if (pt_cmpR (op_neU (K := e.K) hr) (pe_lc (own := [("_law_entry", 6)]) (tt := tYes) rfl nd (pi_U (K := e.K) (pe_fldU (K := e.K) (pe_dget (hu_of hr) (pe_fldU (K := e.K) (pv 0)) (pv 5) (fun _ _ => rfl)))) (blkOk_by (N := N_l_state_same) (sc := defScope s_l_state_same) (by decide +kernel)) (fun _ _ _ _ _ => (pg_name (i := 6) nd rfl (by first | exact Or.inl rfl | exact Or.inr rfl))) (fun _ _ _ _ _ => pts_nil) (fun _ _ _ _ _ => (pe_slice (sl_U (K := e.K)) (pv 6) po_none (po_some pe_int)))) (pe_dget2 (hu_of hr) (pe_dget (hu_of hr) (pv 1) pe_str (fun _ _ => rfl)) (pv 5) (pe_lst pa_nil) ⟨by rfl, by rfl, by rfl, by rfl⟩) (nomark _)) (pss_one (ps_ret pe_bl)) pss_nil)))
    (pss_one (ps_ret (pe_callB (call_allU (K := e.K) rfl) (by rfl) B.b_all bt_all (pa_cons (pe_lock (pe_lc (own := [("_law_user", 5)]) (tt := tYes) rfl nd (pi_keys (pe_dget (hu_of hr) (pv 1) pe_str (fun _ _ => rfl))) (blkOk_by (N := N_l_state_same) (sc := defScope s_l_state_same) (by decide +kernel)) (fun _ _ _ _ _ => (pg_name (i := 5) nd rfl (by first | exact Or.inl rfl | exact Or.inr rfl))) (fun _ _ _ _ _ => pts_nil) (fun _ _ _ _ _ => (pe_cmp (pc_din (hu_of hr) (pv 5) (pe_fldU (K := e.K) (pv 0))))))) pa_nil)))))))), ?_⟩
  have ed : P2.dom = P.dom := r.dom.symm
  have ec : P2.count = P.count := r.cnt.symm
  have es : P2.serial = P.serial := r.ser.symm
  have ad : Asc P.dom := by rw [← ed]; exact ad
  walk_at "go"
  rename_i p1 H1 n1 m1 h1 p2 H2 n2 m2 h2
  rw [ed, ec, es] at h2
  have m12 := m1.trans m2
  refine r_neOk (d := .tuple [.str P.dom, .int P.count, .int P.serial]) (n := 1) (.tup (m2 _ _ h1) (.cons (.str _) (.cons (.int _) (.cons (.int _) .nil)))) (.tup h2 (.cons (.str _) (.cons (.int _) (.cons (.int _) .nil)))) (.tup fun d hd => ?_) (by decide) ?_
  · simp only [List.mem_cons, List.not_mem_nil, or_false] at hd
    rcases hd with rfl | rfl | rfl
    · exact .str ad
    · exact .int _
    · exact .int _
  have nq2 : (keysA P2.abs.rows).Nodup := by
    have e : keysA P2.abs.rows = keysA P2.rows := by
      show (P2.rows.map fun e => (e.1, e.2.2)).map (·.1) = _
      rw [List.map_map] <;> rfl
    rw [e]
    exact md.nr
  have esort : sortTg (keysA P2.rows) = sortTg (keysA P.q) := by
    have e := r.sorted (by rw [keys_abs]; exact st.nq) nq2
    rw [keys_abs] at e
    rw [e]
    show _ = sortTg ((P2.rows.map fun e => (e.1, e.2.2)).map (·.1))
    rw [List.map_map] <;> rfl
  walk_at "go"
  rename_i ys3 p3 H3 n3 ty3 m3 h3 ys4 p4 H4 n4 ty4 m4 h4
  rw [esort] at ty4
  have ty3' := ty3.mono (Gro.same m4)
  refine r_neLay (d := .list ((sortTg (keysA P.q)).map tagD)) (n := 2) (.lst (SqL.of (m4 _ _ h3)) (Dqs.dp ty3'.dqs)) (.lst (SqL.of h4) (Dqs.dp ty4.dqs)) (Lay.lst fun d hd => ?_) (by decide) ?_
  · obtain ⟨t, ht0, rfl⟩ := List.mem_map.mp hd
    have hk : t ∈ keysA P.abs.q := by rw [keys_abs]; exact mem_sortTg.mp ht0
    obtain ⟨x, hx⟩ := Option.isSome_iff_exists.mp (getA_isSome.mpr hk)
    rw [r.q] at hx
    have at1 : Asc t.1 := (ok _ (getA_mem hx)).1
    refine (Lay.tup (n := 0) fun d hd => ?_)
    simp only [List.mem_cons, List.not_mem_nil, or_false] at hd
    rcases hd with rfl | rfl | rfl
    · exact (Okd.str at1).lay
    · exact .int _
    · exact .int _
  have m14 := (m12.trans m3).trans m4
  have rtk : ∀ u, getA P.tk u = getA P2.tk u := r.tk
  have row : ∀ u, getA P.ow u = getA P2.ow u := r.ow
  have ht4 := m14 _ _ ht
  have h2t4 := m14 _ _ md.t
  have ho4 := m14 _ _ ho
  have h2o4 := m14 _ _ md.o
  walk_at "go"
  refine r_neDq ht4 h2t4 st.nt md.nt rtk ?_
  walk_at "go"
  refine r_neDq ho4 h2o4 st.no md.no row ?_
  walk_at "go"
  refine r_lockS (a := P2.ra) (m14 _ _ hr0) mut_dT' fun od H5 lk => ?_
  have hm4 : H4 m = some (.dK (mdF P2)) := m14 _ _ hm
  have hm5 : H5 m = some (.dK (mdF P2)) := lk.ne hm4 fun z => by cases z
  have st4 := st.same m14
  have st5 : StP e.K H5 s P := st4.keep lk.gro fun z o h hz => by
    rw [lk.kp z fun w => dj z hz (w ▸ mp_r)]
    exact h
  have g45 : Gro H4 H5 := lk.gro
  have hi5 := st5.ins
  unfold stF at hi5
  have hq5 := st5.q
  have kvl : (P2.rows.map fun e => (tagK e.1, rowV e.2)).length = P2.rows.length := List.length_map _
  walk_at "go"
  refine for_kT (fun i σ' H' => Same H5 H' ∧ ∃ o2 o3 o4 o5 o6, σ' = [some (.ref s), some (.ref m), o2, o3, o4, o5, o6]) lk.at_ ⟨Same.refl _, _, _, _, _, _, rfl⟩ (fun i σ' H' _ ⟨sm, _⟩ => sm _ _ lk.at_) (fun i k v q σ' H' hk ⟨sm, o2, o3, o4, o5, o6, es⟩ hqt => ?_) (fun σ' H' ⟨sm, o2, o3, o4, o5, o6, es⟩ => ?_)
  · subst es
    obtain ⟨⟨t, vr, x⟩, hrow, e1⟩ := get_mapG hk
    cases e1
    have dt : Dq H' (.ref q) (tagD t) := mk_tag hqt
    have mem := List.mem_of_getElem? hrow
    have gr : getA P2.rows t = some (vr, x) := getA_of_mem md.nr mem
    have gq : getA P.abs.q t = some x := by
      rw [r.q]
      show getA (P2.rows.map fun e => (e.1, e.2.2)) t = _
      rw [getA_map, gr] <;> rfl
    obtain ⟨pi, hpi⟩ := abs_some gq
    have iat : ItAt e.K H' pi t x := (st5.q_at hpi).keep (Gro.same sm) fun o z => sm _ _ z
    have iat' := iat
    obtain ⟨vt, vs, vrr, vl, vv, vd, hit, iv⟩ := iat'
    unfold itF at hit
    have lkr := sm _ _ lk.at_
    have ly : Lay 4 (itmD t x) := (ok (t, x) (getA_mem (by show getA (P2.rows.map fun e => (e.1, e.2.2)) t = _; rw [getA_map, gr] <;> rfl))).2
    have dvr : Dq H5 vr (itmD t x) := ((md.rws _ mem).mono (Gro.same m14)).mono g45
    have dvr' := dvr.mono (Gro.same sm)
    walk_at "go"
    rename_i pt H6 n6 m6 h6
    have dtold : Dq H6 (.ref pt) (itmD t x) := by
      have i2 := iv.mono (Gro.same m6)
      exact .tup h6 (.cons i2.t (.cons i2.s (.cons i2.r (.cons i2.l (.cons i2.v (.cons (.int _) (.cons (.int _) (.cons (.int _) (.cons i2.d .nil)))))))))
    have lkr6 := m6 _ _ lkr
    refine r_dgetTf lkr6 (dt.mono (Gro.same m6)) gr ?_
    refine r_neLay dtold.dp (dvr'.mono (Gro.same m6)).dp ly (by decide) ?_
    walk_at "go"
    refine use_Item_to_value (iat.keep (Gro.same m6) fun o z => m6 _ _ z) fun p7 H7 m7 d7 => ?_
    walk_at "go"
    refine r_neLay d7.dp (dtold.mono (Gro.same m7)).dp ly (by decide) ?_
    walk_at "go"
    exact ⟨(sm.trans m6).trans m7, _, _, _, _, _, rfl⟩
  subst es
  refine ⟨sm _ _ lk.at_, ?_⟩
  have mun := lk.un sm
  generalize hH6 : upd H' P2.ra (.dT (P2.rows.map fun e => (tagK e.1, rowV e.2))) = H6 at mun ⊢
  clear hH6 sm lk hm5 st5 g45 hi5 hq5
  have st6 := st4.same mun
  have md6 := (md.same m14).same mun
  have hi6 := st6.ins
  unfold stF at hi6
  have hb6 := st6.b
  have hm6 := md6.d
  have h2b6 := md6.b
  walk_at "go"
  rename_i p7 H7 n7 m7 h7
  have st7 := st6.same m7
  have md7 := md6.same m7
  refine for_L (fun i σ' H' => Same H7 H' ∧ ∃ o2 o3 o4 o5 o6, σ' = [some (.ref s), some (.ref m), o2, o3, o4, o5, o6]) (SqL.of h7) ⟨Same.refl _, _, _, _, _, _, rfl⟩ (fun i σ' H' _ ⟨sm, _⟩ => SqL.of (sm _ _ h7)) (fun i v σ' H' hv ⟨sm, o2, o3, o4, o5, o6, es⟩ => ?_) (fun σ' H' ⟨sm, o2, o3, o4, o5, o6, es⟩ => ?_)
  · subst es
    obtain ⟨u, hu, rfl⟩ := get_map hv
    obtain ⟨⟨bp, E0, G0, B0⟩, hbx⟩ := sortSt_mem hu
    have bat := (st7.b_at hbx).same sm
    have hbi := bat.ins
    obtain ⟨ys, hE, dys⟩ := bat.es
    have st8 := st7.same sm
    have hi8 := st8.ins
    unfold stF at hi8
    have hb8 := st8.b
    have md8 := md7.same sm
    have hm8 := md8.d
    have h2b8 := md8.b
    have gbx : getA P.abs.bx u = some B0 := by rw [abs_bx, hbx] <;> rfl
    have gm : getA P2.abs.bxs u = some (e3s B0) := by rw [r.bx, gbx] <;> rfl
    have gm2 : ∃ l0, getA P2.bxs u = some (l0, e3s B0) := by
      have e : getA P2.abs.bxs u = (getA P2.bxs u).map (·.2) := getA_map (f := fun y : Addr × List E3 => y.2)
      rw [e] at gm
      obtain ⟨⟨l0, x⟩, h1, h2⟩ := Option.map_eq_some_iff.mp gm
      have h2 : x = e3s B0 := h2
      exact ⟨l0, by rw [← h2]; exact h1⟩
    obtain ⟨l0, gl0⟩ := gm2
    have lsm : ys.length ≤ 100000 := by
      rw [dys.len_map]
      exact (lim.es (u, B0) (getA_mem gbx)).1
    walk_at "go"
    refine lc_L (S := Same) hE (fun H2 s2 => s2 _ _ hE) (sr_same H') (fun i ds => ds = (B0.es.take i).map fun x => e3D (x.n, x.ls, x.fs)) (by omega) rfl (fun _ => rfl) (fun i v H2 ds Q1 Qn hv2 s2 rv k1 _ => r_tyes (r_iteT ?_)) (fun D3 H3 zs ds nD m3 hD3 dz rv => ?_)
    · obtain ⟨x, hx, dx⟩ := dys.at_map hv2
      obtain ⟨tt, vl, vf, rfl, htt, dl, df⟩ := ent_at (dx.mono (Gro.same s2))
      walk_at "go"
      rename_i p9 H9 m9 h9
      refine k1 _ _ _ m9 (.tup (ds := [.int x.n, sD x.ls, sD x.fs]) h9 (.cons (.int _) (.cons (dl.mono (Gro.same m9)) (.cons (df.mono (Gro.same m9)) .nil)))) ?_
      rw [rv, take_one hx, List.map_append] <;> rfl
    · have ly : ys.length = B0.es.length := dys.len_map
      rw [ly, List.take_of_length_le (Nat.le_refl _)] at rv
      have rv : ds = (e3s B0).map e3D := by
        rw [rv]
        unfold e3s
        rw [List.map_map] <;> rfl
      subst rv
      walk_at "go"
      rename_i p10 H10 n10 m10 h10
      have m310 := m3.trans m10
      obtain ⟨zs2, hz2, dz2⟩ := md8.lss _ (getA_mem gl0)
      rw [gl0]
      refine r_neLay (d := .list ((e3s B0).map e3D)) (n := 5) (.lst (SqL.of (m10 _ _ hD3)) (Dqs.dp (dz.mono (Gro.same m10)))) (.lst (SqL.of (m310 _ _ hz2)) (Dqs.dp (dz2.mono (Gro.same m310)))) (Lay.lst fun d hd => ?_) (by decide) ?_
      · obtain ⟨x, hx, rfl⟩ := List.mem_map.mp hd
        exact okb _ (getA_mem gbx) x hx
      walk_at "go"
      exact ⟨(sm.trans m3).trans m10, _, _, _, _, _, rfl⟩
  subst es
  have mfin := (mun.trans m7).trans sm
  have st8 := st7.same sm
  have hi8 := st8.ins
  unfold stF at hi8
  have hb8 := st8.b
  have md8 := md7.same sm
  have hm8 := md8.d
  have h2b8 := md8.b
  walk_at "go"
  refine r_lockE (a := P2.ba) h2b8 mut_dK' fun od H9 lk => ?_
  have hm9 : H9 m = some (.dK (mdF P2)) := by
    rw [lk.kp _ md8.mb]
    exact hm8
  have st9 : StP e.K H9 s P := st8.keep lk.gro fun z o h hz => by
    rw [lk.kp z fun w => dj z hz (w ▸ mp_b)]
    exact h
  have hi9 := st9.ins
  unfold stF at hi9
  have hb9 := st9.b
  have kvl : (P2.bxs.map fun e => ((Sum.inr e.1 : Key), lstV e.2)).length = P2.bxs.length := List.length_map _
  have bl : P2.bxs.length ≤ 100000 := by
    have := mlim.bxs
    have e : P2.abs.bxs.length = P2.bxs.length := List.length_map _
    omega
  walk_at "go"
  refine lc_kK (S := Same) lk.at_ (sr_same H9) (fun i ds => ds = List.replicate i (.bool true)) (fun H' s2 => s2 _ _ lk.at_) (by omega) rfl (fun _ => rfl) (fun i x v H2 ds Q1 Qn hv2 s2 rv k1 _ => r_tyes (r_iteT ?_)) (fun D3 H3 zs ds nD m3 hD3 dz rv => ?_)
  · obtain ⟨⟨u, l0, es0⟩, hu, e1⟩ := get_mapG hv2
    cases e1
    have gu : getA P2.bxs u = some (l0, es0) := getA_of_mem md.nb (List.mem_of_getElem? hu)
    have gs : (getA P.bx u).isSome = true := by
      have e : getA P2.abs.bxs u = (getA P2.bxs u).map (·.2) := getA_map (f := fun y : Addr × List E3 => y.2)
      rw [gu, r.bx, abs_bx] at e
      cases z : getA P.bx u with
      | none => rw [z] at e; cases e
      | some w => rfl
    have hb2 := s2 _ _ hb9
    have hi2 := hi9.same s2
    walk_at "go"
    refine r_dinK (s := u) hb2 ?_
    rw [gs]
    refine k1 _ _ _ (Same.refl _) (.bl _) ?_
    rw [rv, List.replicate_succ'] <;> rfl
  refine ⟨m3 _ _ lk.at_, ?_⟩
  have mun2 := lk.un m3
  have hD' : upd H3 P2.ba (txO lstV P2.bxs) D3 = some (.lst zs) := by
    rw [upd_ne (fun z => by rw [z, lk.at_] at nD; cases nD)]
    exact hD3
  have ezs : zs = (List.replicate P2.bxs.length true).map V.bl := by
    rw [kvl] at rv
    subst rv
    clear hD3 hD' 
    generalize P2.bxs.length = N at dz
    exact all_true dz
  rw [ezs] at hD'
  generalize upd H3 P2.ba (txO lstV P2.bxs) = HF at mun2 hD' ⊢
  walk_at "go"
  refine r_all hD' ?_
  walk_at "go"
  have ea : (List.replicate P2.bxs.length true).all id = true := by
    simp
  rw [ea]
  exact k _ (((m14.trans mun).trans (m7.trans sm)).trans mun2)
theorem use_state_same {K : PySem.W.Frag} {self md : V} {F G : List Addr} {S : Sx} {M : Mx} {H : Hp} {Q : VK} {E : XK} (h1 : StA K H self F S) (h2 : MdA H md G M) (h3 : Dsj F G) (h4 : Rel S M) (h5 : S.Lim) (h6 : MLim M) (h7 : ∀ e ∈ M.rows, ItOk e.1 e.2) (h8 : Asc M.dom) (h9 : ∀ e ∈ S.bx, ∀ x ∈ e3s e.2, Lay 4 (e3D x))
    (k : ∀ H', Same H H' → Q (.bl true) H') : sp_l_state_same K [self, md] H Q E := ⟨F, S, G, M, h1, h2, h3, h4, h5, h6, h7, h8, h9, k⟩

/-! ### law -/
abbrev s_law : Stmt := top 40
abbrev N_law : List Str := ["_law_script", "_law_state", "_law_domain_here", "_law_actual", "_law_model_here", "_law_when", "_law_k", "_law_event_here", "_law_tags", "_law_told", "_law_other", "_law_tag"]
theorem sc_law : FnScope N_law ["_law_script"] (defScope s_law) := ⟨rfl, rfl, rfl, by decide +kernel, rfl, by decide +kernel, by decide +kernel⟩
theorem bi_law : BindOk "law" s_law ["_law_script"] := fun _ _ _ _ _ _ us hl => match us, hl with | [_], _ => rfl
def sp_law (K : PySem.W.Frag) : Sp := sp1 fun x H Q _ => ∃ b, x = .ref b ∧ Scr K H b ∧ ∀ H', Q (.bl true) H'
/-- the variables between the turns -/
def SI (K : PySem.W.Frag) (a b : Addr) (i : Nat) (σ : L2.St) (H : Hp) : Prop := ∃ dm s m F G S M wh x6 x7 x8 x9 x10 x11, σ = [some (.ref b), some (.ref a), some (.str dm), some (.ref s), some (.ref m), some (.int wh), x6, x7, x8, x9, x10, x11] ∧ WI K a b i (.ref s) (.ref m) F G S M H
/-- while the old state is spoilt -/
def SP (K : PySem.W.Frag) (a b : Addr) (N : Nat) (dm : Str) (s x m : Addr) (wh : Int) (x6 x7 x8 x9 : Option V) (F1 G : List Addr) (S1 : Sx) (M : Mx) (l : Addr) (ys : List V) (ts : List Tag) (i : Nat) (σ : L2.St) (H : Hp) : Prop :=
  ∃ x11 F S, σ = [some (.ref b), some (.ref a), some (.str dm), some (.ref s), some (.ref m), some (.int wh), x6, x7, x8, x9, some (.ref x), x11] ∧ WI K a b N (.ref x) (.ref m) F1 G S1 M H ∧ StA K H (.ref s) F S ∧ Dsj F F1 ∧ Dsj F G ∧ a ∉ F ∧ l ∉ F ∧ H l = some (.lst ys) ∧ TgL H ys ts ∧ keysA S.q = ts.drop i ∧ Bd (N + 1 + i) (10 * (N + 1 + i)) S
theorem ok_law {e : Wd} {f0 : Addr} {fd : FuncData} (D : FunD e.K "law" "law" (defArgs s_law) (defBody s_law) (defScope s_law) [] [] f0 fd) (B : Bl e.mg) (kc_State : Cls e.K (He.ga e.K "State")) (kn_State_queue : NoAttr e.K (He.ga e.K "State") "queue") (c_l_domain : Can e 4 "_law_domain" ["_law_state", "_law_script"] (sp_l_domain e.K)) (c_State___init__ : CanN e 1 (He.ga e.K "State") "State" ["self", "domain"] (sp_State___init__ e.K)) (c_l_model : Can e 1 "_law_model" ["_law_domain_here"] (sp_l_model e.K)) (c_l_draw : Can e 2 "_law_draw" ["_law_state", "_law_script", "_law_size"] (sp_l_draw e.K)) (c_l_event : Can e 6 "_law_event" ["_law_state", "_law_script", "_law_model_here"] (sp_l_event e.K)) (c_State_apply : CanM e 6 (He.ga e.K "State") "apply" ["self", "event"] (sp_State_apply e.K)) (c_l_apply : Can e 2 "_law_apply" ["_law_model_here", "_law_event_here"] (sp_l_apply e.K)) (c_l_state_same : Can e 2 "_law_state_same" ["_law_actual", "_law_model_here"] (sp_l_state_same e.K)) (c_State_to_value : CanM e 2 (He.ga e.K "State") "to_value" ["self"] (sp_State_to_value e.K)) (c_state_of : Can e 4 "state_of" ["value"] (sp_state_of e.K)) : FnOk e.P e.w e.K e.mg e.base (L2.CX e.P e.w) 7 f0 fd ["_law_script"] (sp_law e.K) := by
  refine fnok_of D sc_law (fun _ _ _ _ h => sp1_len h) (fun cdv f A outer s H vs Q E hr h => ?_)
  obtain ⟨v0, rfl, h⟩ := sp1_ex h
  have nd := sc_law.nd
  obtain ⟨b, rfl, hs, k⟩ := h
  refine ⟨_, (pss_cons (ps_set (i := 1) nd rfl (by first | exact Or.inl rfl | exact Or.inr rfl) (pe_lst (pa_cons pe_int (pa_cons pe_int pa_nil))))
    (pss_cons (ps_set (i := 2) nd rfl (by first | exact Or.inl rfl | exact Or.inr rfl) (pe_op (op_addU (K := e.K)) (pe_can c_l_domain (hr.mono (by first | decide | omega)) passL (pa_cons (pv 1) (pa_cons (pv 0) pa_nil))) pe_str))
    (pss_cons (ps_set (i := 3) nd rfl (by first | exact Or.inl rfl | exact Or.inr rfl) (pe_canN c_State___init__ (hr.mono (by first | decide | omega)) passL (pa_cons (pv 2) pa_nil)))
    (pss_cons (ps_set (i := 4) nd rfl (by first | exact Or.inl rfl | exact Or.inr rfl) (pe_can c_l_model (hr.mono (by first | decide | omega)) passL (pa_cons (pv 2) pa_nil)))
    (pss_cons (ps_set (i := 5) nd rfl (by first | exact Or.inl rfl | exact Or.inr rfl) (pe_can c_l_draw (hr.mono (by first | decide | omega)) passL (pa_cons (pv 1) (pa_cons (pv 0) (pa_cons pe_int pa_nil)))))
    (pss_cons (ps_for PassesOwn.never rfl (pi_range1 rfl B.b_range (pa_cons (pe_can c_l_draw (hr.mono (by first | decide | omega)) passL (pa_cons (pv 1) (pa_cons (pv 0) (pa_cons pe_int pa_nil)))) pa_nil)) (pg_name (i := 6) nd rfl (by first | exact Or.inl rfl | exact Or.inr rfl)) (pss_cons (ps_set (i := 7) nd rfl (by first | exact Or.inl rfl | exact Or.inr rfl) (pe_can c_l_event (hr.mono (by first | decide | omega)) passL (pa_cons (pv 1) (pa_cons (pv 0) (pa_cons (pv 4) pa_nil)))))
    (pss_cons (ps_set (i := 8) nd rfl (by first | exact Or.inl rfl | exact Or.inr rfl) (pe_canM c_State_apply (hr.mono (by first | decide | omega)) passL (pv 3) (pa_cons (pv 7) pa_nil)))
    (pss_cons (ps_if (PW.pt (pw_or (pt_not (pt_tru (K := e.K) (pe_callB (call_isiU (K := e.K)) (by rfl) B.b_isinstance bt_isinstance (pa_cons (pv 8) (pa_cons (pe_bltn (v := .ty "list") (by rfl) B.b_list bt_list rfl) pa_nil))))) (pw_or (pt_cmpR (op_neU (K := e.K) hr) (pv 8) (pe_can c_l_apply (hr.mono (by first | decide | omega)) passL (pa_cons (pv 4) (pa_cons (pv 7) pa_nil))) (nomark _)) (pw_or1 (pt_not (pt_tru (K := e.K) (pe_can c_l_state_same (hr.mono (by first | decide | omega)) passL (pa_cons (pv 3) (pa_cons (pv 4) pa_nil))))))))) (pss_one (ps_ret pe_bl)) pss_nil)
    (pss_one (ps_if (pt_cmpR (op_eqU (K := e.K) hr) (pv 6) (pv 5) (nomark _)) (pss_cons (ps_set (i := 9) nd rfl (by first | exact Or.inl rfl | exact Or.inr rfl) (pe_canM0 c_State_to_value (hr.mono (by first | decide | omega)) passL (pv 3)))
    (pss_cons (ps_set (i := 10) nd rfl (by first | exact Or.inl rfl | exact Or.inr rfl) (pe_can c_state_of (hr.mono (by first | decide | omega)) passL (pa_cons (pv 9) pa_nil)))
    (pss_cons (ps_if (PW.pt (pw_or (pt_cmpR (op_neU (K := e.K) hr) (pe_canM0 c_State_to_value (hr.mono (by first | decide | omega)) passL (pv 10)) (pv 9) (nomark _)) (pw_or1 (pt_not (pt_tru (K := e.K) (pe_can c_l_state_same (hr.mono (by first | decide | omega)) passL (pa_cons (pv 10) (pa_cons (pv 4) pa_nil)))))))) (pss_one (ps_ret pe_bl)) pss_nil)
    (pss_cons (ps_expr (pe_canM c_State_apply (hr.mono (by first | decide | omega)) passL (pv 3) (pa_cons (pe_tup (pa_cons pe_str (pa_cons pe_non (pa_cons (pe_tup (pa_cons (pe_tup (pa_cons pe_str (pa_cons pe_str pa_nil))) pa_nil)) (pa_cons (pe_tup (pa_cons pe_str pa_nil)) (pa_cons pe_int pa_nil)))))) pa_nil)))
    (pss_cons (ps_for PassesOwn.never rfl (pi_U (K := e.K) (pe_callTy (call_listD rfl) (by rfl) B.b_list bt_list (pa_cons (pe_fldU (K := e.K) (pv 3)) pa_nil))) (pg_name (i := 11) nd rfl (by first | exact Or.inl rfl | exact Or.inr rfl)) (pss_one (ps_expr (pe_canM c_State_apply (hr.mono (by first | decide | omega)) passL (pv 3) (pa_cons (pe_tup (pa_cons pe_str (pa_cons (pv 11) (pa_cons pe_str pa_nil)))) pa_nil)))))
    (pss_cons (ps_set (i := 3) nd rfl (by first | exact Or.inl rfl | exact Or.inr rfl) (pv 10))
    (pss_one (ps_if (pt_not (pt_tru (K := e.K) (pe_can c_l_state_same (hr.mono (by first | decide | omega)) passL (pa_cons (pv 3) (pa_cons (pv 4) pa_nil))))) (pss_one (ps_ret pe_bl)) pss_nil)))))))) pss_nil))))))
    (pss_one (ps_ret (pe_cmpR (op_eqU (K := e.K) hr) (pe_canM0 c_State_to_value (hr.mono (by first | decide | omega)) passL (pe_can c_state_of (hr.mono (by first | decide | omega)) passL (pa_cons (pe_canM0 c_State_to_value (hr.mono (by first | decide | omega)) passL (pv 3)) pa_nil))) (pe_canM0 c_State_to_value (hr.mono (by first | decide | omega)) passL (pv 3)) (nomark _)))))))))), ?_⟩
  walk_at "go"
  rename_i a H1 n1 m1 h1
  have dr1 : Drw H1 a := ⟨0, 0, h1⟩
  have sc1 : Scr e.K H1 b := hs.mono (Gro.same m1)
  refine use_domain dr1 sc1 fun z H2 hz s2 => ?_
  have lz := hz.len
  have lq : (Str.ofString ".q").length = 2 := by decide +kernel
  refine r_c ?_
  refine r_addS (by rw [lq, sizeLine_eq]; omega) ?_
  have zasc : Asc (z ++ Str.ofString ".q") := hz.asc.app (by unfold Asc; decide +kernel)
  have zlen : (z ++ Str.ofString ".q").length ≤ 1000 := by
    rw [PySem.Str.length_append, lq]
    omega
  generalize z ++ Str.ofString ".q" = dm at zasc zlen
  walk_at "go"
  rename_i s H3 F m3 sa3 nw3
  refine use_model fun m H4 G m4 ma4 nw4 => ?_
  have w4 : WI e.K a b 0 (.ref s) (.ref m) F G ⟨dm, 0, 0, [], [], [], []⟩ ⟨dm, 0, 0, [], [], [], [], []⟩ H4 := by
    have dr2 := s2.drw
    obtain ⟨x, y, ha⟩ := id dr2
    refine ⟨(dr2.mono m3).mono m4, ((sc1.mono s2.gro).mono (Gro.same m3)).mono (Gro.same m4), sa3.same m4, ma4, fun z h1 h2 => ?_, fun q => ?_, fun q => ?_, ?_, ?_⟩
    · obtain ⟨u, q, _⟩ := sa3.there z h1
      rw [nw4 z h2] at q
      cases q
    · rw [nw3 a q] at ha
      cases ha
    · have q2 := nw4 a q
      rw [m3 _ _ ha] at q2
      cases q2
    · exact ⟨rfl, rfl, rfl, fun _ => rfl, fun _ => rfl, fun _ => rfl, fun _ => rfl, fun _ => rfl, fun u B h => by cases h⟩
    · exact ⟨zasc, zlen, Nat.zero_le _, Nat.zero_le _, Nat.zero_le _, Nat.zero_le _, (fun _ h => absurd h List.not_mem_nil), (fun _ h => absurd h List.not_mem_nil), (fun _ h => absurd h List.not_mem_nil), fun _ h => absurd h List.not_mem_nil⟩
  clear hs n1 m1 h1 dr1 sc1 s2 hz lz m3 sa3 nw3 m4 ma4 nw4 zasc zlen
  have dr4 := w4.dr
  have sc4 := w4.sc
  walk_at "go"
  rename_i wh H5 w0 w1 s5 cn H6 c0 c1 s6
  have w6 := (w4.stp s5).stp s6
  clear dr4 sc4 s5 s6 w4
  refine for_rng (fun i σ' H' => SI e.K a b i σ' H') (by omega) (by omega) ⟨dm, s, m, F, G, _, _, wh, none, none, none, none, none, none, rfl, w6⟩ ?_ ?_
  · clear w6
    rintro i σ' H1 hi ⟨dm, s, m, F, G, S, M, wh, x6, x7, x8, x9, x10, x11, rfl, w⟩
    have iN : i ≤ 30 := by omega
    have dr := w.dr
    have sc := w.sc
    walk_at "go"
    obtain ⟨m', P, em, mp, eG, eM⟩ := id w.ma
    cases em
    refine use_event dr sc mp (by rw [← eG]; exact w.aG) (by rw [← eM]; exact w.mlim (by omega)) (by rw [← mkeys_b, ← eM]; exact w.keys) fun pe ev H2 s2 d2 fit g => ?_
    rw [← eM] at fit
    clear mp eG eM P
    have w2 := w.stp s2
    clear dr sc s2 w
    obtain ⟨P2, hi2, _⟩ := w2.sa.mth
    unfold stF at hi2
    walk_at "go"
    refine use_apply w2.sa d2 (w2.r.fits fit) (w2.lim (by omega)) g.lim fun pt0 ys H3 F4' sa3 c3 np3 h3 ty3 => ?_
    walk_at "go"
    refine use_lapply (w2.ma.chg c3 w2.fg) (d2.mono c3.gro) fit.mfit (w2.mlim (by omega)) g.lim fun pu zs H4 G4 ma4 c4 np4 h4 ty4 => ?_
    obtain ⟨w4, npG, etg⟩ := w2.turn (by omega) fit g c3 sa3 c4 ma4
    have tasc := tags_asc (w2.bd.count (S.count + 1)) g
    rw [← etg] at ty4
    refine r_neLay (d := .list ((S.apply ev).2.map tagD)) (n := 2) (.lst (SqL.of (c4.at_ h3 npG)) (Dqs.dp (ty3.mono c4.gro).dqs)) (.lst (SqL.of h4) (Dqs.dp ty4.dqs)) (tags_lay tasc) (by decide) ?_
    walk_at "go"
    refine use_state_same w4.sa w4.ma w4.fg w4.r (w4.lim (by omega)) (w4.mlim (by omega)) w4.rows w4.dom w4.e3 fun H5 m5 => ?_
    have w5 := w4.same m5
    generalize (S.apply ev).1 = S5 at w5
    generalize (M.apply ev).1 = M5 at w5
    clear w2 hi2 sa3 c3 np3 h3 ty3 ma4 c4 np4 h4 ty4 w4 npG etg tasc d2 fit g m5
    walk_at "go"
    refine r_ite (fun hk => ?_) (fun hk => ?_)
    · obtain ⟨P5, hi5, _⟩ := w5.sa.mth
      unfold stF at hi5
      walk_at "go"
      refine use_sto_value w5.sa (w5.lim (by omega)) fun p6 H6 m6 d6 => ?_
      walk_at "go"
      have w6 := w5.same m6
      have l1 := Nat.le_trans (Nat.le_of_eq (len_srtT S5.q)) w5.bd.q
      have l2 := Nat.le_trans (Nat.le_of_eq (len_srtS S5.bx)) w5.bd.bx
      have l3 := Nat.le_trans (Nat.le_of_eq (len_srtT S5.tk)) w5.bd.tk
      have l4 := Nat.le_trans (Nat.le_of_eq (len_srtT S5.ow)) w5.bd.ow
      refine use_state_of d6 (by omega) (by omega) (by omega) (by omega) fun x H7 F7 sa7 m7 nw7 => ?_
      obtain ⟨w7, dj7⟩ := w6.other m7 sa7 nw7
      have old7 := w6.sa.same m7
      have fg7 := w6.fg
      have aF7 := w6.aF
      have d7 := d6.mono (Gro.same m7)
      obtain ⟨P7, hi7, _⟩ := w7.sa.mth
      unfold stF at hi7
      walk_at "go"
      refine use_sto_value w7.sa (w7.lim (by omega)) fun p8 H8 m8 d8 => ?_
      rw [stD_back w6.sa.nds] at d8
      walk_at "go"
      refine r_neOk d8 (d7.mono (Gro.same m8)) (st_okd w6.bd) (by decide) ?_
      walk_at "go"
      have w8 := w7.same m8
      refine use_state_same w8.sa w8.ma w8.fg w8.r (w8.lim (by omega)) (w8.mlim (by omega)) w8.rows w8.dom w8.e3 fun H9 m9 => ?_
      have w9 := w8.same m9
      have old9 := (old7.same m8).same m9
      obtain ⟨P9, hi9, _⟩ := old9.mth
      unfold stF at hi9
      walk_at "go"
      rename_i p10 H10 n10 m10 h10 p11 H11 n11 m11 h11 p12 H12 n12 m12 h12 p13 H13 n13 m13 h13
      have m913 := ((m10.trans m11).trans m12).trans m13
      have old13 := old9.same m913
      have w13 := w9.same m913
      have dev : Dq H13 (.ref p13) (evD (.submit none [(Str.ofString "w", Str.ofString "w")] [Str.ofString "spoil"] 3)) :=
        .tup h13 (.cons (.str _) (.cons .non (.cons (.tup ((m12.trans m13) _ _ h11) (.cons (.tup (((m11.trans m12).trans m13) _ _ h10) (.cons (.str _) (.cons (.str _) .nil))) .nil)) (.cons (.tup (m13 _ _ h12) (.cons (.str _) .nil)) (.cons (.int _) .nil)))))
      have gs : EvG (.submit none [(Str.ofString "w", Str.ofString "w")] [Str.ofString "spoil"] 3) := by
        refine ⟨snd_none, by decide, fun z hz => ?_, by decide, fun z hz => ?_⟩
        · rw [List.mem_singleton.mp hz]
          exact ⟨by unfold Asc; decide +kernel, by unfold Asc; decide +kernel, by decide +kernel, by decide +kernel⟩
        · rw [List.mem_singleton.mp hz]
          unfold Asc
          decide +kernel
      have dj7' : Dsj F4' F7 := fun z h1 h2 => dj7 z h2 h1
      refine use_apply old13 dev trivial (w6.lim (by omega)) gs.lim fun pt ys H14 F14 sa14 c14 np14 h14 ty14 => ?_
      have w14 := w13.chg c14 dj7' fg7 aF7
      have ap1 := tl_dsj (w13.sa.apart c14 dj7')
      have ap2 := tl_dsj (w13.ma.apart c14 fg7)
      have aF14 : a ∉ F14 := by
        obtain ⟨x0, y0, ha⟩ := id w13.dr
        exact fun z => c14.out ha aF7 (List.mem_cons_of_mem _ z)
      have bd14 : Bd (i + 1 + 1) (10 * (i + 1 + 1)) (S5.apply (.submit none [(Str.ofString "w", Str.ofString "w")] [Str.ofString "spoil"] 3)).1 := ((w6.bd.count (S5.count + 1)).act (ev := .submit none [(Str.ofString "w", Str.ofString "w")] [Str.ofString "spoil"] 3) trivial gs (by omega)).le (Nat.le_refl _) (by omega)
      generalize (S5.apply (.submit none [(Str.ofString "w", Str.ofString "w")] [Str.ofString "spoil"] 3)).1 = S14 at sa14 bd14
      clear w5 hi5 m6 d6 l1 l2 l3 l4 sa7 m7 nw7 dj7 old7 fg7 aF7 d7 hi7 m8 d8 m9 w8 w9 old9 hi9 n10 m10 h10 n11 m11 h11 n12 m12 h12 n13 m13 h13 m913 old13 w13 dev gs dj7' c14 np14 h14 ty14 w6 w7
      obtain ⟨s', P14, es, sp14, eF14, eS14⟩ := id sa14
      cases es
      have hi14 := sp14.ins
      unfold stF at hi14
      have hq14 := sp14.q
      walk_at "go"
      rename_i zs l H15 n15 ty15 m15 h15
      have lts : (keysA P14.q).length ≤ 10 * (i + 1 + 1) := by
        have q := bd14.q
        rw [eS14, ← len_keys, keys_abs] at q
        exact q
      have lzs : zs.length = (keysA P14.q).length := Paired.length ty15
      refine for_L (fun j σ' H' => SP e.K a b (i + 1) dm s x m wh (some (.int (i : Int))) (some (.ref pe)) (some (.ref pt0)) (some (.ref p6)) F7 G4 S5.back M5 l zs (keysA P14.q) j σ' H') (SqL.of h15) ⟨_, F14, S14, rfl, w14.same m15, sa14.same m15, ap1, ap2, aF14, (fun z => sa14.new_out n15 z), h15, ty15, by rw [eS14, keys_abs] <;> rfl, bd14⟩ (fun j σ' H' _ ⟨_, _, _, _, _, _, _, _, _, _, hl, _⟩ => SqL.of hl) (fun j v σ' H' hv ⟨x11, F', S', es, w', sa', dF, dG, aF', lF', hl', tg', ky', bd'⟩ => ?_) (fun σ' H' ⟨x11, F', S', es, w', sa', dF, dG, aF', lF', hl', tg', ky', bd'⟩ => ?_)
      · subst es
        obtain ⟨t, ht, dt⟩ := tgl_at tg' hv
        have jl := (List.getElem?_eq_some_iff.mp ht).1
        have kd : keysA S'.q = t :: (keysA P14.q).drop (j + 1) := by
          rw [ky', List.drop_eq_getElem_cons jl]
          rw [List.getElem?_eq_getElem jl] at ht
          rw [Option.some.inj ht]
        obtain ⟨P', hi', _⟩ := sa'.mth
        unfold stF at hi'
        walk_at "go"
        rename_i p16 H16 n16 m16 h16
        have gd : EvG (.deliver t (Str.ofString "u0")) := by
          show Asc _
          unfold Asc
          decide +kernel
        have fd : S'.Fits (.deliver t (Str.ofString "u0")) := getA_isSome.mpr (by rw [kd]; exact List.mem_cons_self)
        have fd2 : Sx.Fits { S' with count := S'.count + 1 } (.deliver t (Str.ofString "u0")) := fd
        have w16 := w'.same m16
        refine use_apply (sa'.same m16) (e := .deliver t (Str.ofString "u0")) (.tup h16 (.cons (.str _) (.cons (dt.mono (Gro.same m16)) (.cons (.str _) .nil)))) fd (bd'.lim (by omega) (by omega)) gd.lim fun pt ys H17 F17 sa17 c17 np17 h17 ty17 => ?_
        walk_at "go"
        have hl16 := m16 _ _ hl'
        refine ⟨_, F17, _, rfl, w16.chg c17 dF dG aF', sa17, tl_dsj (w16.sa.apart c17 dF), tl_dsj (w16.ma.apart c17 dG), ?_, fun z => c17.out hl16 lF' (List.mem_cons_of_mem _ z), c17.at_ hl16 lF', (tg'.mono (Gro.same m16)).mono c17.gro, dlv_keys sa'.nds.q kd _, ((bd'.count _).act fd2 gd (by omega)).le (by omega) (by omega)⟩
        obtain ⟨x0, y0, ha⟩ := id w16.dr
        exact fun z => c17.out ha aF' (List.mem_cons_of_mem _ z)
      · subst es
        walk_at "go"
        refine use_state_same w'.sa w'.ma w'.fg w'.r (w'.lim (by omega)) (w'.mlim (by omega)) w'.rows w'.dom w'.e3 fun H9 m9 => ?_
        walk_at "go"
        exact ⟨dm, x, m, _, _, _, _, wh, _, _, _, _, _, _, rfl, w'.same m9⟩
    · walk_at "go"
      exact ⟨dm, s, m, _, _, _, _, wh, _, _, _, _, _, _, rfl, w5⟩
  · rintro σ' H1 ⟨dm, s, m, F, G, S, M, wh, x6, x7, x8, x9, x10, x11, rfl, w⟩
    have iN : cn.toNat ≤ 30 := by omega
    obtain ⟨P1, hi1, _⟩ := w.sa.mth
    unfold stF at hi1
    walk_at "go"
    refine use_sto_value w.sa (w.lim (by omega)) fun p2 H2 m2 d2 => ?_
    have w2 := w.same m2
    have l1 := Nat.le_trans (Nat.le_of_eq (len_srtT S.q)) w2.bd.q
    have l2 := Nat.le_trans (Nat.le_of_eq (len_srtS S.bx)) w2.bd.bx
    have l3 := Nat.le_trans (Nat.le_of_eq (len_srtT S.tk)) w2.bd.tk
    have l4 := Nat.le_trans (Nat.le_of_eq (len_srtT S.ow)) w2.bd.ow
    walk_at "go"
    refine use_state_of d2 (by omega) (by omega) (by omega) (by omega) fun x H3 F3 sa3 m3 nw3 => ?_
    obtain ⟨w3, dj3⟩ := w2.other m3 sa3 nw3
    obtain ⟨P3, hi3, _⟩ := w3.sa.mth
    unfold stF at hi3
    walk_at "go"
    refine use_sto_value w3.sa (w3.lim (by omega)) fun p4 H4 m4 d4 => ?_
    rw [stD_back w2.sa.nds] at d4
    have sa4 := ((w2.sa.same m3).same m4)
    obtain ⟨P4, hi4, _⟩ := sa4.mth
    unfold stF at hi4
    walk_at "go"
    refine use_sto_value sa4 (w2.lim (by omega)) fun p5 H5 m5 d5 => ?_
    refine r_eqOk (d4.mono (Gro.same m5)) d5 (st_okd w2.bd) (by decide) ?_
    exact k H5

def d_Box___init__ : He.DefD := ⟨("Box", some "__init__"), "__init__", "Box.__init__", defArgs s_Box___init__, defBody s_Box___init__, defScope s_Box___init__, [], []⟩
def d_Box_deliver : He.DefD := ⟨("Box", some "deliver"), "deliver", "Box.deliver", defArgs s_Box_deliver, defBody s_Box_deliver, defScope s_Box_deliver, [], []⟩
def d_Box_place : He.DefD := ⟨("Box", some "place"), "place", "Box.place", defArgs s_Box_place, defBody s_Box_place, defScope s_Box_place, [], []⟩
def d_Box_set_flags : He.DefD := ⟨("Box", some "set_flags"), "set_flags", "Box.set_flags", defArgs s_Box_set_flags, defBody s_Box_set_flags, defScope s_Box_set_flags, [], []⟩
def d_Box_expunge : He.DefD := ⟨("Box", some "expunge"), "expunge", "Box.expunge", defArgs s_Box_expunge, defBody s_Box_expunge, defScope s_Box_expunge, [], []⟩
def d_Box_to_value : He.DefD := ⟨("Box", some "to_value"), "to_value", "Box.to_value", defArgs s_Box_to_value, defBody s_Box_to_value, defScope s_Box_to_value, [], []⟩
def d_box_of : He.DefD := ⟨("box_of", none), "box_of", "box_of", defArgs s_box_of, defBody s_box_of, defScope s_box_of, [], []⟩
def d_format_address : He.DefD := ⟨("format_address", none), "format_address", "format_address", defArgs s_format_address, defBody s_format_address, defScope s_format_address, [], []⟩
def d_trace : He.DefD := ⟨("trace", none), "trace", "trace", defArgs s_trace, defBody s_trace, defScope s_trace, [], []⟩
def d_report : He.DefD := ⟨("report", none), "report", "report", defArgs s_report, defBody s_report, defScope s_report, [], []⟩
def d_Item___init__ : He.DefD := ⟨("Item", some "__init__"), "__init__", "Item.__init__", defArgs s_Item___init__, defBody s_Item___init__, defScope s_Item___init__, [], []⟩
def d_Item_to_value : He.DefD := ⟨("Item", some "to_value"), "to_value", "Item.to_value", defArgs s_Item_to_value, defBody s_Item_to_value, defScope s_Item_to_value, [], []⟩
def d_item_of : He.DefD := ⟨("item_of", none), "item_of", "item_of", defArgs s_item_of, defBody s_item_of, defScope s_item_of, [], []⟩
def d_next_leg : He.DefD := ⟨("next_leg", none), "next_leg", "next_leg", defArgs s_next_leg, defBody s_next_leg, defScope s_next_leg, [], []⟩
def d_State___init__ : He.DefD := ⟨("State", some "__init__"), "__init__", "State.__init__", defArgs s_State___init__, defBody s_State___init__, defScope s_State___init__, [], []⟩
def d_State_create : He.DefD := ⟨("State", some "create"), "create", "State.create", defArgs s_State_create, defBody s_State_create, defScope s_State_create, [], []⟩
def d_State_traced : He.DefD := ⟨("State", some "traced"), "traced", "State.traced", defArgs s_State_traced, defBody s_State_traced, defScope s_State_traced, [], []⟩
def d_State_expand : He.DefD := ⟨("State", some "expand"), "expand", "State.expand", defArgs s_State_expand, defBody s_State_expand, defScope s_State_expand, [], []⟩
def d_State_bounce : He.DefD := ⟨("State", some "bounce"), "bounce", "State.bounce", defArgs s_State_bounce, defBody s_State_bounce, defScope s_State_bounce, [], []⟩
def d_State_deliver : He.DefD := ⟨("State", some "deliver"), "deliver", "State.deliver", defArgs s_State_deliver, defBody s_State_deliver, defScope s_State_deliver, [], []⟩
def d_State_box : He.DefD := ⟨("State", some "box"), "box", "State.box", defArgs s_State_box, defBody s_State_box, defScope s_State_box, [], []⟩
def d_State_apply_to_queue : He.DefD := ⟨("State", some "apply_to_queue"), "apply_to_queue", "State.apply_to_queue", defArgs s_State_apply_to_queue, defBody s_State_apply_to_queue, defScope s_State_apply_to_queue, [], []⟩
def d_State_apply_to_rest : He.DefD := ⟨("State", some "apply_to_rest"), "apply_to_rest", "State.apply_to_rest", defArgs s_State_apply_to_rest, defBody s_State_apply_to_rest, defScope s_State_apply_to_rest, [], []⟩
def d_State_apply : He.DefD := ⟨("State", some "apply"), "apply", "State.apply", defArgs s_State_apply, defBody s_State_apply, defScope s_State_apply, [], []⟩
def d_State_to_value : He.DefD := ⟨("State", some "to_value"), "to_value", "State.to_value", defArgs s_State_to_value, defBody s_State_to_value, defScope s_State_to_value, [], []⟩
def d_state_of : He.DefD := ⟨("state_of", none), "state_of", "state_of", defArgs s_state_of, defBody s_state_of, defScope s_state_of, [], []⟩
def d_l_refill : He.DefD := ⟨("_law_refill", none), "_law_refill", "_law_refill", defArgs s_l_refill, defBody s_l_refill, defScope s_l_refill, [], []⟩
def d_l_draw : He.DefD := ⟨("_law_draw", none), "_law_draw", "_law_draw", defArgs s_l_draw, defBody s_l_draw, defScope s_l_draw, [], []⟩
def d_l_pick : He.DefD := ⟨("_law_pick", none), "_law_pick", "_law_pick", defArgs s_l_pick, defBody s_l_pick, defScope s_l_pick, [], []⟩
def d_l_domain : He.DefD := ⟨("_law_domain", none), "_law_domain", "_law_domain", defArgs s_l_domain, defBody s_l_domain, defScope s_l_domain, [], []⟩
def d_l_line : He.DefD := ⟨("_law_line", none), "_law_line", "_law_line", defArgs s_l_line, defBody s_l_line, defScope s_l_line, [], []⟩
def d_l_lines : He.DefD := ⟨("_law_lines", none), "_law_lines", "_law_lines", defArgs s_l_lines, defBody s_l_lines, defScope s_l_lines, [], []⟩
def d_l_sender : He.DefD := ⟨("_law_sender", none), "_law_sender", "_law_sender", defArgs s_l_sender, defBody s_l_sender, defScope s_l_sender, [], []⟩
def d_l_addresses : He.DefD := ⟨("_law_addresses", none), "_law_addresses", "_law_addresses", defArgs s_l_addresses, defBody s_l_addresses, defScope s_l_addresses, [], []⟩
def d_l_row_made : He.DefD := ⟨("_law_row_made", none), "_law_row_made", "_law_row_made", defArgs s_l_row_made, defBody s_l_row_made, defScope s_l_row_made, [], []⟩
def d_l_event : He.DefD := ⟨("_law_event", none), "_law_event", "_law_event", defArgs s_l_event, defBody s_l_event, defScope s_l_event, [], []⟩
def d_l_traced : He.DefD := ⟨("_law_traced", none), "_law_traced", "_law_traced", defArgs s_l_traced, defBody s_l_traced, defScope s_l_traced, [], []⟩
def d_l_boxed : He.DefD := ⟨("_law_boxed", none), "_law_boxed", "_law_boxed", defArgs s_l_boxed, defBody s_l_boxed, defScope s_l_boxed, [], []⟩
def d_l_apply : He.DefD := ⟨("_law_apply", none), "_law_apply", "_law_apply", defArgs s_l_apply, defBody s_l_apply, defScope s_l_apply, [], []⟩
def d_l_model : He.DefD := ⟨("_law_model", none), "_law_model", "_law_model", defArgs s_l_model, defBody s_l_model, defScope s_l_model, [], []⟩
def d_l_state_same : He.DefD := ⟨("_law_state_same", none), "_law_state_same", "_law_state_same", defArgs s_l_state_same, defBody s_l_state_same, defScope s_l_state_same, [], []⟩
def d_law : He.DefD := ⟨("law", none), "law", "law", defArgs s_law, defBody s_law, defScope s_law, [], []⟩
def fnL : List He.DefD := [d_Box___init__, d_Box_deliver, d_Box_place, d_Box_set_flags, d_Box_expunge, d_Box_to_value, d_box_of, d_format_address, d_trace, d_report, d_Item___init__, d_Item_to_value, d_item_of, d_next_leg, d_State___init__, d_State_create, d_State_traced, d_State_expand, d_State_bounce, d_State_deliver, d_State_box, d_State_apply_to_queue, d_State_apply_to_rest, d_State_apply, d_State_to_value, d_state_of, d_l_refill, d_l_draw, d_l_pick, d_l_domain, d_l_line, d_l_lines, d_l_sender, d_l_addresses, d_l_row_made, d_l_event, d_l_traced, d_l_boxed, d_l_apply, d_l_model, d_l_state_same, d_law]
def faL0 : List He.Fa := [.glo "box_of", .glo "format_address", .glo "trace", .glo "report", .glo "item_of", .glo "next_leg", .glo "state_of", .glo "_law_refill", .glo "_law_draw", .glo "_law_pick", .glo "_law_domain", .glo "_law_line", .glo "_law_lines", .glo "_law_sender", .glo "_law_addresses", .glo "_law_row_made", .glo "_law_event", .glo "_law_traced", .glo "_law_boxed", .glo "_law_apply"]
def faL1 : List He.Fa := [.glo "_law_model", .glo "_law_state_same", .glo "law", .free "len", .free "int", .free "str", .free "bool", .free "tuple", .free "list", .free "isinstance", .free "range", .free "ord", .free "sorted", .free "min", .free "max", .free "sum", .free "all", .free "any", .free "enumerate", .free "set"]
def faL2 : List He.Fa := [.free "zip", .free "dict", .free "reversed", .free "ValueError", .glo "Box", .cls "Box", .glo "Item", .cls "Item", .glo "State", .cls "State", .mkr "Box", .noat "Box" "number", .noat "Box" "change", .noat "Box" "entries", .noat "Box" "gone", .meth "Box" "deliver", .meth "Box" "place", .meth "Box" "set_flags", .meth "Box" "expunge", .meth "Box" "to_value"]
def faL3 : List He.Fa := [.mkr "Item", .noat "Item" "tag", .noat "Item" "sender", .noat "Item" "recipient", .noat "Item" "lines", .noat "Item" "via", .noat "Item" "born", .noat "Item" "tries", .noat "Item" "due", .noat "Item" "doubt", .meth "Item" "to_value", .mkr "State", .noat "State" "domain", .noat "State" "count", .noat "State" "serial", .noat "State" "queue", .noat "State" "boxes", .noat "State" "taken", .noat "State" "owed", .meth "State" "create"]
def faL4 : List He.Fa := [.meth "State" "traced", .meth "State" "expand", .meth "State" "bounce", .meth "State" "deliver", .meth "State" "box", .meth "State" "apply_to_queue", .meth "State" "apply_to_rest", .meth "State" "apply", .meth "State" "to_value", .glo "NoSuchEntry", .exc "NoSuchEntry", .str "TRACE" ("Received: by " : Str)]
def faL : List He.Fa := faL0 ++ faL1 ++ faL2 ++ faL3 ++ faL4
abbrev Rr : PySem.W.OpenRow := PySem.W.OpenLaw.row PySem.Challenge.rw_dawkline_k12_events_of_a_state
abbrev hkL : PySem.W.Hook := He.hookD 4 faL fnL
def obL (s : PySem.W.SharedT) : He.AlD := He.obsDG 4 faL fnL (HandSHeadRun.getT s)
theorem obL_eq (s : PySem.W.SharedT) : obL s = hkL.obs s.abs := He.obsDG_eq (HandSHeadRun.getT_eq s)
def looseL0 : List Str := ["_wall", "box_of", "format_address", "trace", "report", "item_of", "next_leg", "state_of", "_law_is_integer", "_law_refill", "_law_draw", "_law_wide", "_law_junk", "_law_pick", "_law_word", "_law_local", "_law_domain", "_law_line", "_law_lines", "_law_sender"]
def looseL1 : List Str := ["_law_addresses", "_law_row_made", "_law_event", "_law_traced", "_law_boxed", "_law_apply", "_law_model", "_law_state_same", "TRACE", "MailError", "NoSuchEntry", "Box", "Item", "State"]
def looseL : List Str := looseL0 ++ looseL1
theorem runL (w : World) : HandSHeadRun.RunEq Rr (PySem.W.view Rr.prog [40]) hkL obL 8000 looseL w := by
  intro os
  kernel_rfl
theorem factsL {P : Program} {w : World} {K : PySem.W.Frag} {h : Heap} {mg : Str → Option Value} {f : Addr} (X : K.In h) (G : h.Ns mainGlobals mg) (hfa : mg ("law" : Str) = some (.ref f)) (c : He.SaysD faL fnL K) :
    ∃ fd : FuncData, (∀ (s : Shared) (v : Value), BindsTo s fd ⟨[v], []⟩ [("_law_script", v)]) ∧ ∀ base : Heap, K.In base → base.Ns mainGlobals mg → FnOk P w K mg base CX0 7 f fd ["_law_script"] (sp_law K) := by
  have B : Bl mg := ⟨He.free_ok X G (c.fact 23 (f := .free "len") rfl), He.free_ok X G (c.fact 24 (f := .free "int") rfl), He.free_ok X G (c.fact 25 (f := .free "str") rfl), He.free_ok X G (c.fact 26 (f := .free "bool") rfl), He.free_ok X G (c.fact 27 (f := .free "tuple") rfl), He.free_ok X G (c.fact 28 (f := .free "list") rfl), He.free_ok X G (c.fact 29 (f := .free "isinstance") rfl), He.free_ok X G (c.fact 30 (f := .free "range") rfl), He.free_ok X G (c.fact 31 (f := .free "ord") rfl), He.free_ok X G (c.fact 32 (f := .free "sorted") rfl), He.free_ok X G (c.fact 33 (f := .free "min") rfl), He.free_ok X G (c.fact 34 (f := .free "max") rfl), He.free_ok X G (c.fact 35 (f := .free "sum") rfl), He.free_ok X G (c.fact 36 (f := .free "all") rfl), He.free_ok X G (c.fact 37 (f := .free "any") rfl), He.free_ok X G (c.fact 38 (f := .free "enumerate") rfl), He.free_ok X G (c.fact 39 (f := .free "set") rfl), He.free_ok X G (c.fact 40 (f := .free "zip") rfl), He.free_ok X G (c.fact 41 (f := .free "dict") rfl), He.free_ok X G (c.fact 42 (f := .free "reversed") rfl), He.free_ok X G (c.fact 43 (f := .free "ValueError") rfl)⟩
  have g_TRACE := He.str_ok X G (c.fact 91 (f := .str "TRACE" ("Received: by " : Str)) rfl)
  have gl_Box := He.glo_ok X G (c.fact 44 (f := .glo "Box") rfl)
  have kc_Box := He.cls_ok (c.fact 45 (f := .cls "Box") rfl)
  have gl_Item := He.glo_ok X G (c.fact 46 (f := .glo "Item") rfl)
  have kc_Item := He.cls_ok (c.fact 47 (f := .cls "Item") rfl)
  have gl_State := He.glo_ok X G (c.fact 48 (f := .glo "State") rfl)
  have kc_State := He.cls_ok (c.fact 49 (f := .cls "State") rfl)
  have kn_Box_number := He.noat_ok (c.fact 51 (f := .noat "Box" "number") rfl)
  have kn_Box_change := He.noat_ok (c.fact 52 (f := .noat "Box" "change") rfl)
  have kn_Box_entries := He.noat_ok (c.fact 53 (f := .noat "Box" "entries") rfl)
  have kn_Box_gone := He.noat_ok (c.fact 54 (f := .noat "Box" "gone") rfl)
  have kn_Item_tag := He.noat_ok (c.fact 61 (f := .noat "Item" "tag") rfl)
  have kn_Item_sender := He.noat_ok (c.fact 62 (f := .noat "Item" "sender") rfl)
  have kn_Item_recipient := He.noat_ok (c.fact 63 (f := .noat "Item" "recipient") rfl)
  have kn_Item_lines := He.noat_ok (c.fact 64 (f := .noat "Item" "lines") rfl)
  have kn_Item_via := He.noat_ok (c.fact 65 (f := .noat "Item" "via") rfl)
  have kn_Item_born := He.noat_ok (c.fact 66 (f := .noat "Item" "born") rfl)
  have kn_Item_tries := He.noat_ok (c.fact 67 (f := .noat "Item" "tries") rfl)
  have kn_Item_due := He.noat_ok (c.fact 68 (f := .noat "Item" "due") rfl)
  have kn_Item_doubt := He.noat_ok (c.fact 69 (f := .noat "Item" "doubt") rfl)
  have kn_State_domain := He.noat_ok (c.fact 72 (f := .noat "State" "domain") rfl)
  have kn_State_count := He.noat_ok (c.fact 73 (f := .noat "State" "count") rfl)
  have kn_State_serial := He.noat_ok (c.fact 74 (f := .noat "State" "serial") rfl)
  have kn_State_queue := He.noat_ok (c.fact 75 (f := .noat "State" "queue") rfl)
  have kn_State_boxes := He.noat_ok (c.fact 76 (f := .noat "State" "boxes") rfl)
  have kn_State_taken := He.noat_ok (c.fact 77 (f := .noat "State" "taken") rfl)
  have kn_State_owed := He.noat_ok (c.fact 78 (f := .noat "State" "owed") rfl)
  have gm_NoSuchEntry := He.glo_ok X G (c.fact 89 (f := .glo "NoSuchEntry") rfl)
  have xo_NoSuchEntry : Xco K (He.ga K "NoSuchEntry") := He.exc_ok (c.fact 90 (f := .exc "NoSuchEntry") rfl)
  obtain ⟨fd_Box___init__, F_Box___init__⟩ := c.def_ 0 (d := d_Box___init__) rfl
  obtain ⟨fd_Box_deliver, F_Box_deliver⟩ := c.def_ 1 (d := d_Box_deliver) rfl
  obtain ⟨fd_Box_place, F_Box_place⟩ := c.def_ 2 (d := d_Box_place) rfl
  obtain ⟨fd_Box_set_flags, F_Box_set_flags⟩ := c.def_ 3 (d := d_Box_set_flags) rfl
  obtain ⟨fd_Box_expunge, F_Box_expunge⟩ := c.def_ 4 (d := d_Box_expunge) rfl
  obtain ⟨fd_Box_to_value, F_Box_to_value⟩ := c.def_ 5 (d := d_Box_to_value) rfl
  obtain ⟨fd_box_of, F_box_of⟩ := c.def_ 6 (d := d_box_of) rfl
  have m_box_of : mg "box_of" = some (.ref _) := He.glo_ok X G (c.fact 0 (f := .glo "box_of") rfl)
  obtain ⟨fd_format_address, F_format_address⟩ := c.def_ 7 (d := d_format_address) rfl
  have m_format_address : mg "format_address" = some (.ref _) := He.glo_ok X G (c.fact 1 (f := .glo "format_address") rfl)
  obtain ⟨fd_trace, F_trace⟩ := c.def_ 8 (d := d_trace) rfl
  have m_trace : mg "trace" = some (.ref _) := He.glo_ok X G (c.fact 2 (f := .glo "trace") rfl)
  obtain ⟨fd_report, F_report⟩ := c.def_ 9 (d := d_report) rfl
  have m_report : mg "report" = some (.ref _) := He.glo_ok X G (c.fact 3 (f := .glo "report") rfl)
  obtain ⟨fd_Item___init__, F_Item___init__⟩ := c.def_ 10 (d := d_Item___init__) rfl
  obtain ⟨fd_Item_to_value, F_Item_to_value⟩ := c.def_ 11 (d := d_Item_to_value) rfl
  obtain ⟨fd_item_of, F_item_of⟩ := c.def_ 12 (d := d_item_of) rfl
  have m_item_of : mg "item_of" = some (.ref _) := He.glo_ok X G (c.fact 4 (f := .glo "item_of") rfl)
  obtain ⟨fd_next_leg, F_next_leg⟩ := c.def_ 13 (d := d_next_leg) rfl
  have m_next_leg : mg "next_leg" = some (.ref _) := He.glo_ok X G (c.fact 5 (f := .glo "next_leg") rfl)
  obtain ⟨fd_State___init__, F_State___init__⟩ := c.def_ 14 (d := d_State___init__) rfl
  obtain ⟨fd_State_create, F_State_create⟩ := c.def_ 15 (d := d_State_create) rfl
  obtain ⟨fd_State_traced, F_State_traced⟩ := c.def_ 16 (d := d_State_traced) rfl
  obtain ⟨fd_State_expand, F_State_expand⟩ := c.def_ 17 (d := d_State_expand) rfl
  obtain ⟨fd_State_bounce, F_State_bounce⟩ := c.def_ 18 (d := d_State_bounce) rfl
  obtain ⟨fd_State_deliver, F_State_deliver⟩ := c.def_ 19 (d := d_State_deliver) rfl
  obtain ⟨fd_State_box, F_State_box⟩ := c.def_ 20 (d := d_State_box) rfl
  obtain ⟨fd_State_apply_to_queue, F_State_apply_to_queue⟩ := c.def_ 21 (d := d_State_apply_to_queue) rfl
  obtain ⟨fd_State_apply_to_rest, F_State_apply_to_rest⟩ := c.def_ 22 (d := d_State_apply_to_rest) rfl
  obtain ⟨fd_State_apply, F_State_apply⟩ := c.def_ 23 (d := d_State_apply) rfl
  obtain ⟨fd_State_to_value, F_State_to_value⟩ := c.def_ 24 (d := d_State_to_value) rfl
  obtain ⟨fd_state_of, F_state_of⟩ := c.def_ 25 (d := d_state_of) rfl
  have m_state_of : mg "state_of" = some (.ref _) := He.glo_ok X G (c.fact 6 (f := .glo "state_of") rfl)
  obtain ⟨fd_l_refill, F_l_refill⟩ := c.def_ 26 (d := d_l_refill) rfl
  have m_l_refill : mg "_law_refill" = some (.ref _) := He.glo_ok X G (c.fact 7 (f := .glo "_law_refill") rfl)
  obtain ⟨fd_l_draw, F_l_draw⟩ := c.def_ 27 (d := d_l_draw) rfl
  have m_l_draw : mg "_law_draw" = some (.ref _) := He.glo_ok X G (c.fact 8 (f := .glo "_law_draw") rfl)
  obtain ⟨fd_l_pick, F_l_pick⟩ := c.def_ 28 (d := d_l_pick) rfl
  have m_l_pick : mg "_law_pick" = some (.ref _) := He.glo_ok X G (c.fact 9 (f := .glo "_law_pick") rfl)
  obtain ⟨fd_l_domain, F_l_domain⟩ := c.def_ 29 (d := d_l_domain) rfl
  have m_l_domain : mg "_law_domain" = some (.ref _) := He.glo_ok X G (c.fact 10 (f := .glo "_law_domain") rfl)
  obtain ⟨fd_l_line, F_l_line⟩ := c.def_ 30 (d := d_l_line) rfl
  have m_l_line : mg "_law_line" = some (.ref _) := He.glo_ok X G (c.fact 11 (f := .glo "_law_line") rfl)
  obtain ⟨fd_l_lines, F_l_lines⟩ := c.def_ 31 (d := d_l_lines) rfl
  have m_l_lines : mg "_law_lines" = some (.ref _) := He.glo_ok X G (c.fact 12 (f := .glo "_law_lines") rfl)
  obtain ⟨fd_l_sender, F_l_sender⟩ := c.def_ 32 (d := d_l_sender) rfl
  have m_l_sender : mg "_law_sender" = some (.ref _) := He.glo_ok X G (c.fact 13 (f := .glo "_law_sender") rfl)
  obtain ⟨fd_l_addresses, F_l_addresses⟩ := c.def_ 33 (d := d_l_addresses) rfl
  have m_l_addresses : mg "_law_addresses" = some (.ref _) := He.glo_ok X G (c.fact 14 (f := .glo "_law_addresses") rfl)
  obtain ⟨fd_l_row_made, F_l_row_made⟩ := c.def_ 34 (d := d_l_row_made) rfl
  have m_l_row_made : mg "_law_row_made" = some (.ref _) := He.glo_ok X G (c.fact 15 (f := .glo "_law_row_made") rfl)
  obtain ⟨fd_l_event, F_l_event⟩ := c.def_ 35 (d := d_l_event) rfl
  have m_l_event : mg "_law_event" = some (.ref _) := He.glo_ok X G (c.fact 16 (f := .glo "_law_event") rfl)
  obtain ⟨fd_l_traced, F_l_traced⟩ := c.def_ 36 (d := d_l_traced) rfl
  have m_l_traced : mg "_law_traced" = some (.ref _) := He.glo_ok X G (c.fact 17 (f := .glo "_law_traced") rfl)
  obtain ⟨fd_l_boxed, F_l_boxed⟩ := c.def_ 37 (d := d_l_boxed) rfl
  have m_l_boxed : mg "_law_boxed" = some (.ref _) := He.glo_ok X G (c.fact 18 (f := .glo "_law_boxed") rfl)
  obtain ⟨fd_l_apply, F_l_apply⟩ := c.def_ 38 (d := d_l_apply) rfl
  have m_l_apply : mg "_law_apply" = some (.ref _) := He.glo_ok X G (c.fact 19 (f := .glo "_law_apply") rfl)
  obtain ⟨fd_l_model, F_l_model⟩ := c.def_ 39 (d := d_l_model) rfl
  have m_l_model : mg "_law_model" = some (.ref _) := He.glo_ok X G (c.fact 20 (f := .glo "_law_model") rfl)
  obtain ⟨fd_l_state_same, F_l_state_same⟩ := c.def_ 40 (d := d_l_state_same) rfl
  have m_l_state_same : mg "_law_state_same" = some (.ref _) := He.glo_ok X G (c.fact 21 (f := .glo "_law_state_same") rfl)
  obtain ⟨fd_law, F_law⟩ := c.def_ 41 (d := d_law) rfl
  have m_law : mg "law" = some (.ref _) := He.glo_ok X G (c.fact 22 (f := .glo "law") rfl)
  have e := hfa.symm.trans m_law
  cases e
  have b := FunD.bindsA (ps := ["_law_script"]) F_law fun _ _ _ _ _ _ us hl => match us, hl with | [_], _ => rfl
  refine ⟨fd_law, fun s v => b s [v] rfl, fun base KB GB => ?_⟩
  let e : Wd := ⟨P, w, K, mg, base⟩
  have c_Box___init__ : CanN e 1 (He.ga e.K "Box") "Box" ["self"] (sp_Box___init__ e.K) := ok_Box___init__ (e := e) ⟨_, _, F_Box___init__, He.mkr_ok (c.fact 50 (f := .mkr "Box") rfl), gl_Box⟩ B kc_Box kn_Box_number kn_Box_change kn_Box_entries kn_Box_gone
  have c_Box_deliver : CanM e 1 (He.ga e.K "Box") "deliver" ["self", "lines"] (sp_Box_deliver e.K) := ok_Box_deliver (e := e) ⟨_, _, F_Box_deliver, He.meth_ok (c.fact 55 (f := .meth "Box" "deliver") rfl), kc_Box⟩ B kc_Box kn_Box_number kn_Box_change kn_Box_entries
  have c_Box_place : CanM e 1 (He.ga e.K "Box") "place" ["self", "number"] (sp_Box_place e.K) := ok_Box_place (e := e) ⟨_, _, F_Box_place, He.meth_ok (c.fact 56 (f := .meth "Box" "place") rfl), kc_Box⟩ B kc_Box kn_Box_entries gm_NoSuchEntry xo_NoSuchEntry
  have c_Box_to_value : CanM e 1 (He.ga e.K "Box") "to_value" ["self"] (sp_Box_to_value e.K) := ok_Box_to_value (e := e) ⟨_, _, F_Box_to_value, He.meth_ok (c.fact 59 (f := .meth "Box" "to_value") rfl), kc_Box⟩ B kc_Box kn_Box_number kn_Box_change kn_Box_entries kn_Box_gone
  have c_format_address : Can e 1 "format_address" ["address"] (sp_format_address e.K) := ok_format_address (e := e) ⟨_, _, F_format_address, m_format_address⟩ B
  have c_trace : Can e 1 "trace" ["domain"] (sp_trace e.K) := ok_trace (e := e) ⟨_, _, F_trace, m_trace⟩ B g_TRACE
  have c_Item___init__ : CanN e 1 (He.ga e.K "Item") "Item" ["self", "tag", "sender", "recipient", "lines", "via", "born", "tries", "due", "doubt"] (sp_Item___init__ e.K) := ok_Item___init__ (e := e) ⟨_, _, F_Item___init__, He.mkr_ok (c.fact 60 (f := .mkr "Item") rfl), gl_Item⟩ B kc_Item kn_Item_tag kn_Item_sender kn_Item_recipient kn_Item_lines kn_Item_via kn_Item_born kn_Item_tries kn_Item_due kn_Item_doubt
  have c_Item_to_value : CanM e 1 (He.ga e.K "Item") "to_value" ["self"] (sp_Item_to_value e.K) := ok_Item_to_value (e := e) ⟨_, _, F_Item_to_value, He.meth_ok (c.fact 70 (f := .meth "Item" "to_value") rfl), kc_Item⟩ B kc_Item kn_Item_tag kn_Item_sender kn_Item_recipient kn_Item_lines kn_Item_via kn_Item_born kn_Item_tries kn_Item_due kn_Item_doubt
  have c_next_leg : Can e 1 "next_leg" ["tag"] (sp_next_leg e.K) := ok_next_leg (e := e) ⟨_, _, F_next_leg, m_next_leg⟩ B
  have c_State___init__ : CanN e 1 (He.ga e.K "State") "State" ["self", "domain"] (sp_State___init__ e.K) := ok_State___init__ (e := e) ⟨_, _, F_State___init__, He.mkr_ok (c.fact 71 (f := .mkr "State") rfl), gl_State⟩ B kc_State kn_State_domain kn_State_count kn_State_serial kn_State_queue kn_State_boxes kn_State_taken kn_State_owed
  have c_l_refill : Can e 1 "_law_refill" ["_law_script", "_law_k"] (sp_l_refill e.K) := ok_l_refill (e := e) ⟨_, _, F_l_refill, m_l_refill⟩ B
  have c_l_row_made : Can e 1 "_law_row_made" ["_law_model_here", "_law_sender_here", "_law_recipient", "_law_lines_here", "_law_via", "_law_time"] (sp_l_row_made e.K) := ok_l_row_made (e := e) ⟨_, _, F_l_row_made, m_l_row_made⟩ B
  have c_l_traced : Can e 1 "_law_traced" ["_law_model_here", "_law_lines_here"] (sp_l_traced e.K) := ok_l_traced (e := e) ⟨_, _, F_l_traced, m_l_traced⟩ B
  have c_l_boxed : Can e 1 "_law_boxed" ["_law_model_here", "_law_event_here"] (sp_l_boxed e.K) := ok_l_boxed (e := e) ⟨_, _, F_l_boxed, m_l_boxed⟩ B
  have c_l_model : Can e 1 "_law_model" ["_law_domain_here"] (sp_l_model e.K) := ok_l_model (e := e) ⟨_, _, F_l_model, m_l_model⟩ B
  have c_Box_set_flags : CanM e 2 (He.ga e.K "Box") "set_flags" ["self", "number", "flags"] (sp_Box_set_flags e.K) := ok_Box_set_flags (e := e) ⟨_, _, F_Box_set_flags, He.meth_ok (c.fact 57 (f := .meth "Box" "set_flags") rfl), kc_Box⟩ B kc_Box kn_Box_change kn_Box_entries c_Box_place
  have c_Box_expunge : CanM e 2 (He.ga e.K "Box") "expunge" ["self", "number"] (sp_Box_expunge e.K) := ok_Box_expunge (e := e) ⟨_, _, F_Box_expunge, He.meth_ok (c.fact 58 (f := .meth "Box" "expunge") rfl), kc_Box⟩ B kc_Box kn_Box_change kn_Box_entries kn_Box_gone c_Box_place
  have c_report : Can e 2 "report" ["recipient", "reason"] (sp_report e.K) := ok_report (e := e) ⟨_, _, F_report, m_report⟩ B c_format_address
  have c_State_traced : CanM e 2 (He.ga e.K "State") "traced" ["self", "lines"] (sp_State_traced e.K) := ok_State_traced (e := e) ⟨_, _, F_State_traced, He.meth_ok (c.fact 80 (f := .meth "State" "traced") rfl), kc_State⟩ B kc_State kn_State_domain c_trace
  have c_State_to_value : CanM e 2 (He.ga e.K "State") "to_value" ["self"] (sp_State_to_value e.K) := ok_State_to_value (e := e) ⟨_, _, F_State_to_value, He.meth_ok (c.fact 88 (f := .meth "State" "to_value") rfl), kc_State⟩ B kc_State kn_State_queue kn_State_boxes kn_State_taken kn_State_owed kn_State_domain kn_State_count kn_State_serial c_Item_to_value c_Box_to_value
  have c_l_draw : Can e 2 "_law_draw" ["_law_state", "_law_script", "_law_size"] (sp_l_draw e.K) := ok_l_draw (e := e) ⟨_, _, F_l_draw, m_l_draw⟩ B c_l_refill
  have c_l_apply : Can e 2 "_law_apply" ["_law_model_here", "_law_event_here"] (sp_l_apply e.K) := ok_l_apply (e := e) ⟨_, _, F_l_apply, m_l_apply⟩ B c_l_boxed c_l_traced c_l_row_made
  have c_l_state_same : Can e 2 "_law_state_same" ["_law_actual", "_law_model_here"] (sp_l_state_same e.K) := ok_l_state_same (e := e) ⟨_, _, F_l_state_same, m_l_state_same⟩ B kc_Box kc_Item kc_State kn_State_domain kn_State_count kn_State_serial kn_State_queue kn_State_taken kn_State_owed kn_Item_tag kn_Item_sender kn_Item_recipient kn_Item_lines kn_Item_via kn_Item_born kn_Item_tries kn_Item_due kn_Item_doubt kn_State_boxes kn_Box_entries c_Item_to_value
  have c_box_of : Can e 3 "box_of" ["value"] (sp_box_of e.K) := ok_box_of (e := e) ⟨_, _, F_box_of, m_box_of⟩ B kc_Box kn_Box_number kn_Box_change kn_Box_entries kn_Box_gone c_Box___init__
  have c_item_of : Can e 3 "item_of" ["value"] (sp_item_of e.K) := ok_item_of (e := e) ⟨_, _, F_item_of, m_item_of⟩ B c_Item___init__
  have c_State_create : CanM e 3 (He.ga e.K "State") "create" ["self", "sender", "recipient", "lines", "via", "time"] (sp_State_create e.K) := ok_State_create (e := e) ⟨_, _, F_State_create, He.meth_ok (c.fact 79 (f := .meth "State" "create") rfl), kc_State⟩ B kc_State kn_State_serial kn_State_domain kn_State_queue c_Item___init__
  have c_State_box : CanM e 3 (He.ga e.K "State") "box" ["self", "user"] (sp_State_box e.K) := ok_State_box (e := e) ⟨_, _, F_State_box, He.meth_ok (c.fact 84 (f := .meth "State" "box") rfl), kc_State⟩ B kc_State kn_State_boxes c_Box___init__
  have c_l_pick : Can e 3 "_law_pick" ["_law_state", "_law_script", "_law_signs"] (sp_l_pick e.K) := ok_l_pick (e := e) ⟨_, _, F_l_pick, m_l_pick⟩ B c_l_draw
  have c_l_sender : Can e 3 "_law_sender" ["_law_state", "_law_script"] (sp_l_sender e.K) := ok_l_sender (e := e) ⟨_, _, F_l_sender, m_l_sender⟩ B c_l_draw
  have c_l_addresses : Can e 3 "_law_addresses" ["_law_state", "_law_script", "_law_most"] (sp_l_addresses e.K) := ok_l_addresses (e := e) ⟨_, _, F_l_addresses, m_l_addresses⟩ B c_l_draw
  have c_State_expand : CanM e 4 (He.ga e.K "State") "expand" ["self", "tag", "owner", "members", "time"] (sp_State_expand e.K) := ok_State_expand (e := e) ⟨_, _, F_State_expand, He.meth_ok (c.fact 81 (f := .meth "State" "expand") rfl), kc_State⟩ B kc_Item kc_State kn_State_queue kn_Item_sender kn_Item_via kn_Item_recipient kn_Item_lines c_State_create
  have c_State_bounce : CanM e 4 (He.ga e.K "State") "bounce" ["self", "tag", "reason", "time"] (sp_State_bounce e.K) := ok_State_bounce (e := e) ⟨_, _, F_State_bounce, He.meth_ok (c.fact 82 (f := .meth "State" "bounce") rfl), kc_State⟩ B kc_Item kc_State kn_State_queue kn_Item_sender kn_Item_recipient c_State_create c_State_traced c_report
  have c_State_deliver : CanM e 4 (He.ga e.K "State") "deliver" ["self", "tag", "user"] (sp_State_deliver e.K) := ok_State_deliver (e := e) ⟨_, _, F_State_deliver, He.meth_ok (c.fact 83 (f := .meth "State" "deliver") rfl), kc_State⟩ B kc_Item kc_State kn_State_queue kn_Item_lines c_Box_deliver c_State_box
  have c_State_apply_to_rest : CanM e 4 (He.ga e.K "State") "apply_to_rest" ["self", "event"] (sp_State_apply_to_rest e.K) := ok_State_apply_to_rest (e := e) ⟨_, _, F_State_apply_to_rest, He.meth_ok (c.fact 86 (f := .meth "State" "apply_to_rest") rfl), kc_State⟩ B kc_Item kc_State kn_Item_doubt kn_State_queue kn_Item_tries kn_Item_due kn_State_owed kn_State_taken c_Box_set_flags c_State_box c_Box_expunge
  have c_state_of : Can e 4 "state_of" ["value"] (sp_state_of e.K) := ok_state_of (e := e) ⟨_, _, F_state_of, m_state_of⟩ B kc_State kn_State_count kn_State_serial kn_State_queue kn_State_boxes kn_State_taken kn_State_owed c_State___init__ c_item_of c_box_of
  have c_l_domain : Can e 4 "_law_domain" ["_law_state", "_law_script"] (sp_l_domain e.K) := ok_l_domain (e := e) ⟨_, _, F_l_domain, m_l_domain⟩ B c_l_draw c_l_pick
  have c_l_line : Can e 4 "_law_line" ["_law_state", "_law_script"] (sp_l_line e.K) := ok_l_line (e := e) ⟨_, _, F_l_line, m_l_line⟩ B c_l_draw c_l_pick
  have c_State_apply_to_queue : CanM e 5 (He.ga e.K "State") "apply_to_queue" ["self", "event"] (sp_State_apply_to_queue e.K) := ok_State_apply_to_queue (e := e) ⟨_, _, F_State_apply_to_queue, He.meth_ok (c.fact 85 (f := .meth "State" "apply_to_queue") rfl), kc_State⟩ B kc_State kn_State_queue kn_State_taken kn_State_owed c_State_traced c_State_create c_Item___init__ c_next_leg c_State_expand c_State_bounce c_State_deliver
  have c_l_lines : Can e 5 "_law_lines" ["_law_state", "_law_script", "_law_most"] (sp_l_lines e.K) := ok_l_lines (e := e) ⟨_, _, F_l_lines, m_l_lines⟩ B c_l_line c_l_draw
  have c_State_apply : CanM e 6 (He.ga e.K "State") "apply" ["self", "event"] (sp_State_apply e.K) := ok_State_apply (e := e) ⟨_, _, F_State_apply, He.meth_ok (c.fact 87 (f := .meth "State" "apply") rfl), kc_State⟩ B kc_State kn_State_count c_State_apply_to_queue c_State_apply_to_rest
  have c_l_event : Can e 6 "_law_event" ["_law_state", "_law_script", "_law_model_here"] (sp_l_event e.K) := ok_l_event (e := e) ⟨_, _, F_l_event, m_l_event⟩ B c_l_draw c_l_lines c_l_sender c_l_addresses
  exact fnok_0 (ok_law (e := e) F_law B kc_State kn_State_queue c_l_domain c_State___init__ c_l_model c_l_draw c_l_event c_State_apply c_l_apply c_l_state_same c_State_to_value c_state_of) (fun vs H Q E h => by
    obtain ⟨v0, rfl, h⟩ := sp1_ex h
    exact h)
end Dk
open PySem PySem.W PySem.Calls PyProof.Rows
set_option maxRecDepth 100000 in
set_option maxHeartbeats 0 in
theorem PySem.Challenge.cw_dawkline_k12_events_of_a_state_holds : PySem.Challenge.rw_dawkline_k12_events_of_a_state.Holds := by
  w_on; o_law
  refine HandSHeadRun.head_any (r := OpenLaw.row PySem.Challenge.rw_dawkline_k12_events_of_a_state) (q := view (OpenLaw.row PySem.Challenge.rw_dawkline_k12_events_of_a_state).prog [40]) (H := Dk.hkL) (ob := Dk.obL) (M := 8000) (loose := Dk.looseL) (d := HandSHeadRun.topDef (OpenLaw.row PySem.Challenge.rw_dawkline_k12_events_of_a_state).prog 40) (kwd := []) Dk.obL_eq
    (by kernel_rfl) (fun s => by kernel_rfl) Dk.runL (by kernel_rfl) (by kernel_rfl) (by kernel_rfl) (by rfl) (by first | assumption | decide +kernel) (by decide +kernel) ⟨rfl, rfl, rfl, rfl, rfl, by decide +kernel⟩ ?hw ?hc
  case hw => w_witness2
  case hc =>
    refine L2.walk_ofE (l := PySem.Challenge.rw_dawkline_k12_events_of_a_state) (n := 63) (k := 7) (x := "_law_script") (CX := L2.CX0) rfl (by decide) (by kernel_rfl) ⟨rfl, by decide, by decide⟩ ?F (fun _ _ _ _ z => z)
    case F =>
      intro w mg fa h Y G hmg0
      obtain ⟨K, KX, c⟩ := Y
      have hmg : mg ("law" : PySem.Str) = some (.ref fa) := by
        have e : (HandSHeadRun.topDef (OpenLaw.row PySem.Challenge.rw_dawkline_k12_events_of_a_state).prog 40).name = ("law" : PySem.Str) := by kernel_rfl
        rw [← e]
        exact hmg0
      obtain ⟨fd, hb, hF⟩ := Dk.factsL (P := (PySem.Challenge.rw_dawkline_k12_events_of_a_state).prog) (w := w) KX G hmg c
      exact ⟨K, fd, Dk.sp_law K, KX, hb, fun H a ns hl hO hS => ⟨a, rfl, Dk.Scr.of hl hO hS, fun _ => rfl⟩, hF⟩
